import PyProof.Rows.All
import Wide.All
import OpenK.AllK
import Wide.FinOn
import HandS.ForMost
import HandS.Deep
import HandS.TupAny
import HandS.TupMul
import HandS.IsInst
import HandS.SetFor
import HandS.Style
import KE.SortData
import HandS.NoneIn
import KE.KDictPairs
import KE.KDictList
import PyProof.StrOps2
import HandS.Flow
import PyProof.RowDictHeap
import HandS.Iter
import KE.GoesEnum
import KE.GoesZip
import KE.GoesMore
import KE.KIntText
import PyProof.StrLawsRepr
import PyProof.FitsInt
import PySem.Challenge.RW_endsahead_k05_once_through_parts
set_option Elab.async false
set_option linter.all false
set_option maxRecDepth 100000
set_option maxHeartbeats 8000000
set_option autoImplicit false
namespace L3
open PySem PySem.Spec PyProof.Rows L2

/-! data, boxes, environments -/
abbrev D := PyData
def kD : Key → D
  | .inl i => .int i
  | .inr x => .str x
inductive Bx where
  | lst (xs : List D)
  | dic (kvs : List (Key × D))
def dkv (kvs : List (Key × D)) : List (D × D) := kvs.map fun p => (kD p.1, p.2)
def Bx.dat : Bx → D
  | .lst xs => .list xs
  | .dic kvs => .dict (dkv kvs)
inductive A where
  | dat (d : D)
  | box (own : Bool) (b : Bx)
def A.vw : A → D
  | .dat d => d
  | .box _ b => b.dat
abbrev En := List (Option A)
def isBx' : A → Bool
  | .box _ _ => true
  | .dat _ => false
inductive R where
  | dat (d : D)
  | new (b : Bx)
  | ref (i : Nat)
def R.fz : R → R
  | .new b => .dat b.dat
  | r => r
def R.vw (ρ : En) : R → Option D
  | .dat d => some d
  | .new b => some b.dat
  | .ref i => (ρ[i]?.join).map A.vw

section rep
variable (K : PySem.W.Frag) (N : Addr → Prop) (H : Hp)
def KSq (T : String) (a : Addr) (xs : List V) : Prop :=
  ∃ (o : Obj) (its : Array Value) (n : Nat), K.lookup a = some o ∧ o.cls = .type T ∧ o.dict = none ∧ o.data = .seq its n ∧ its.size ≤ sizeLine ∧ Vals xs its.toList
def KLs (a : Addr) (xs : List V) : Prop := ∃ (its : List Value) (n : Nat), K.lookup a = some { cls := .type "list", data := .seq its.toArray n } ∧ its.length ≤ sizeLine ∧ Vals xs its
def SqLN (a : Addr) (xs : List V) : Prop := (Rd H a (.lst xs) ∧ ¬ N a) ∨ KLs K a xs
/-- a tuple that is known to the object -/
def FTup (a : Addr) (xs : List V) : Prop := ∃ o : Obj, H a = some (.frz o (.tup xs)) ∧ o.dict = none
def SqTN (a : Addr) (xs : List V) : Prop := (FTup H a xs ∧ ¬ N a) ∨ KSq K "tuple" a xs
mutual
inductive Rep : V → D → Prop
  | non : Rep .non .none
  | bl (b : Bool) : Rep (.bl b) (.bool b)
  | int (i : Int) : Rep (.int i) (.int i)
  | str (x : Str) : Rep (.str x) (.str x)
  | lst {a : Addr} {xs : List V} {ds : List D} : SqLN K N H a xs → RepL xs ds → Rep (.ref a) (.list ds)
  | tup {a : Addr} {xs : List V} {ds : List D} : SqTN K N H a xs → RepL xs ds → Rep (.ref a) (.tuple ds)
  | dic {a : Addr} {kvs : List (Key × V)} {ds : List (D × D)} : H a = some (.dK kvs) → ¬ N a → RepK kvs ds → Rep (.ref a) (.dict ds)
inductive RepL : List V → List D → Prop
  | nil : RepL [] []
  | cons {v : V} {d : D} {vs : List V} {ds : List D} : Rep v d → RepL vs ds → RepL (v :: vs) (d :: ds)
inductive RepK : List (Key × V) → List (D × D) → Prop
  | nil : RepK [] []
  | cons {k : Key} {v : V} {d : D} {kvs : List (Key × V)} {ds : List (D × D)} : Rep v d → RepK kvs ds → RepK ((k, v) :: kvs) ((kD k, d) :: ds)
end
end rep

structure Evo (N : Addr → Prop) (H : Hp) (N1 : Addr → Prop) (H1 : Hp) : Prop where
  keep : ∀ a o, H a = some o → ¬ N a → H1 a = some o
  av : ∀ a, N1 a → N a ∨ H a = none
theorem Evo.refl {N : Addr → Prop} {H : Hp} : Evo N H N H := ⟨fun _ _ h _ => h, fun _ h => .inl h⟩
theorem Evo.rd {N N1 : Addr → Prop} {H H1 : Hp} (e : Evo N H N1 H1) {a : Addr} {u : HO} (r : Rd H a u) (n : ¬ N a) : Rd H1 a u ∧ ¬ N1 a := by
  rcases r with r | ⟨o, r⟩
  · exact ⟨.inl (e.keep _ _ r n), fun z => (e.av a z).elim n fun q => by rw [q] at r; cases r⟩
  · exact ⟨.inr ⟨o, e.keep _ _ r n⟩, fun z => (e.av a z).elim n fun q => by rw [q] at r; cases r⟩
section
variable {K : PySem.W.Frag} {N N1 : Addr → Prop} {H H1 : Hp}
theorem SqLN.evo (e : Evo N H N1 H1) {a : Addr} {xs : List V} (h : SqLN K N H a xs) : SqLN K N1 H1 a xs := by
  rcases h with ⟨h, n⟩ | h
  · exact .inl (e.rd h n)
  · exact .inr h
theorem SqTN.evo (e : Evo N H N1 H1) {a : Addr} {xs : List V} (h : SqTN K N H a xs) : SqTN K N1 H1 a xs := by
  rcases h with ⟨⟨o, h, d⟩, n⟩ | h
  · exact .inl ⟨⟨o, e.keep _ _ h n, d⟩, fun z => (e.av a z).elim n fun q => by rw [q] at h; cases h⟩
  · exact .inr h
mutual
theorem Rep.evo (e : Evo N H N1 H1) : ∀ (d : D) (v : V), Rep K N H v d → Rep K N1 H1 v d
  | .none, _, h => by cases h; exact .non
  | .bool b, _, h => by cases h; exact .bl b
  | .int i, _, h => by cases h; exact .int i
  | .str x, _, h => by cases h; exact .str x
  | .list ds, _, h => by cases h with | lst h1 h2 => exact .lst (h1.evo e) (RepL.evo e ds _ h2)
  | .tuple ds, _, h => by cases h with | tup h1 h2 => exact .tup (h1.evo e) (RepL.evo e ds _ h2)
  | .dict ds, _, h => by cases h with | dic h1 h2 h3 => exact .dic (e.keep _ _ h1 h2) (e.rd (.inl h1) h2).2 (RepK.evo e ds _ h3)
theorem RepL.evo (e : Evo N H N1 H1) : ∀ (ds : List D) (vs : List V), RepL K N H vs ds → RepL K N1 H1 vs ds
  | [], _, h => by cases h; exact .nil
  | d :: ds, _, h => by cases h with | cons h1 h2 => exact .cons (Rep.evo e d _ h1) (RepL.evo e ds _ h2)
theorem RepK.evo (e : Evo N H N1 H1) : ∀ (ds : List (D × D)) (vs : List (Key × V)), RepK K N H vs ds → RepK K N1 H1 vs ds
  | [], _, h => by cases h; exact .nil
  | (_, d) :: ds, _, h => by cases h with | cons h1 h2 => exact .cons (Rep.evo e d _ h1) (RepK.evo e ds _ h2)
end
theorem RepL.length : ∀ {vs : List V} {ds : List D}, RepL K N H vs ds → vs.length = ds.length
  | _, _, .nil => rfl
  | _, _, .cons _ t => by simp [RepL.length t]
theorem RepL.get : ∀ {vs : List V} {ds : List D} {i : Nat} {d : D}, RepL K N H vs ds → ds[i]? = some d → ∃ v, vs[i]? = some v ∧ Rep K N H v d
  | _, _, _, _, .nil, h => by simp at h
  | _, _, 0, _, .cons r _, h => by simp at h; subst h; exact ⟨_, rfl, r⟩
  | _, _, i + 1, _, .cons _ t, h => by
    obtain ⟨v, h1, h2⟩ := RepL.get (i := i) t (by simpa using h)
    exact ⟨v, by simpa using h1, h2⟩
theorem RepL.append : ∀ {vs ws : List V} {ds es : List D}, RepL K N H vs ds → RepL K N H ws es → RepL K N H (vs ++ ws) (ds ++ es)
  | _, _, _, _, .nil, h => h
  | _, _, _, _, .cons r t, h => .cons r (RepL.append t h)
theorem RepL.take : ∀ {vs : List V} {ds : List D} (n : Nat), RepL K N H vs ds → RepL K N H (vs.take n) (ds.take n)
  | _, _, 0, _ => .nil
  | _, _, _ + 1, .nil => .nil
  | _, _, n + 1, .cons r t => .cons r (RepL.take n t)
theorem RepL.drop : ∀ {vs : List V} {ds : List D} (n : Nat), RepL K N H vs ds → RepL K N H (vs.drop n) (ds.drop n)
  | _, _, 0, r => r
  | _, _, _ + 1, .nil => .nil
  | _, _, n + 1, .cons _ t => RepL.drop n t
theorem RepL.snoc {vs : List V} {ds : List D} {v : V} {d : D} (h : RepL K N H vs ds) (r : Rep K N H v d) : RepL K N H (vs ++ [v]) (ds ++ [d]) := h.append (.cons r .nil)

/-- content of a box at q -/
def BoxOk (K : PySem.W.Frag) (N : Addr → Prop) (H : Hp) (q : Addr) : Bx → Prop
  | .lst ds => ∃ xs, H q = some (.lst xs) ∧ RepL K N H xs ds
  | .dic kvs => ∃ ks, H q = some (.dK ks) ∧ RepK K N H ks (dkv kvs)
theorem BoxOk.there {q : Addr} {b : Bx} (h : BoxOk K N H q b) : ∃ o, H q = some o := by
  cases b with
  | lst ds => obtain ⟨xs, e, _⟩ := h; exact ⟨_, e⟩
  | dic kvs => obtain ⟨xs, e, _⟩ := h; exact ⟨_, e⟩
theorem BoxOk.evo (e : Evo N H N1 H1) {q : Addr} {b : Bx} (h : BoxOk K N H q b) (hq : ∀ o, H q = some o → H1 q = some o) : BoxOk K N1 H1 q b := by
  cases b with
  | lst ds => obtain ⟨xs, e1, r⟩ := h; exact ⟨xs, hq _ e1, RepL.evo e _ _ r⟩
  | dic kvs => obtain ⟨xs, e1, r⟩ := h; exact ⟨xs, hq _ e1, RepK.evo e _ _ r⟩
/-- a box, frozen -/
theorem BoxOk.fz {q : Addr} {b : Bx} (h : BoxOk K N H q b) (n : ¬ N q) : Rep K N H (.ref q) b.dat := by
  cases b with
  | lst ds => obtain ⟨xs, e1, r⟩ := h; exact .lst (.inl ⟨.inl e1, n⟩) r
  | dic kvs => obtain ⟨xs, e1, r⟩ := h; exact .dic e1 n r
/-- read as: data, or a box -/
def SRep (K : PySem.W.Frag) (N : Addr → Prop) (H : Hp) (v : V) (d : D) : Prop := Rep K N H v d ∨ ∃ q b, v = .ref q ∧ d = b.dat ∧ BoxOk K N H q b
end

structure Wd where
  P : Addr → Prop
  B : Nat → Option Addr
  H0 : Hp
def Wd.PB (W : Wd) (a : Addr) : Prop := ∃ i, W.B i = some a
def BoxAt (ρ : En) (σ : L2.St) (q : Addr) : Prop := ∃ (i : Nat) (o : Bool) (b : Bx), ρ[i]? = some (some (A.box o b)) ∧ σ[i]? = some (some (V.ref q))
def Av (P : Addr → Prop) (ρ : En) (σ : L2.St) (q : Addr) : Prop := P q ∨ BoxAt ρ σ q
def RelA (K : PySem.W.Frag) (W : Wd) (N : Addr → Prop) (H : Hp) (i : Nat) : A → V → Prop
  | .dat d, v => Rep K N H v d
  | .box true b, v => ∃ q, v = .ref q ∧ BoxOk K N H q b ∧ W.H0 q = none
  | .box false b, v => ∃ q, v = .ref q ∧ BoxOk K N H q b ∧ W.B i = some q
structure DRel (K : PySem.W.Frag) (W : Wd) (ρ : En) (σ : L2.St) (H : Hp) : Prop where
  len : ρ.length = σ.length
  sl : ∀ (i : Nat) (a : A), ρ[i]? = some (some a) → ∃ v, σ[i]? = some (some v) ∧ RelA K W (Av W.P ρ σ) H i a v
  dis : ∀ (i j : Nat) (o : Bool) (b : Bx) (o' : Bool) (b' : Bx) (q : Addr), ρ[i]? = some (some (A.box o b)) → ρ[j]? = some (some (A.box o' b')) → σ[i]? = some (some (V.ref q)) → σ[j]? = some (some (V.ref q)) → i = j
  prot : ∀ q, W.P q → ∃ o, H q = some o
  pdis : ∀ q, W.P q → ¬ BoxAt ρ σ q
  keep : ∀ a o, W.H0 a = some o → ¬ W.PB a → H a = some o
  there : ∀ a o, W.H0 a = some o → ∃ o', H a = some o'
section
variable {K : PySem.W.Frag} {W : Wd} {ρ ρ' ρ'' : En} {σ σ' σ'' : L2.St} {H H' H'' : Hp}
theorem DRel.boxOk (h : DRel K W ρ σ H) {i : Nat} {o : Bool} {b : Bx} (e : ρ[i]? = some (some (A.box o b))) : ∃ q, σ[i]? = some (some (.ref q)) ∧ BoxOk K (Av W.P ρ σ) H q b ∧ BoxAt ρ σ q ∧ (o = true → W.H0 q = none) ∧ (o = false → W.B i = some q) := by
  obtain ⟨v, hv, r⟩ := h.sl i _ e
  cases o with
  | true => obtain ⟨q, rfl, bo, z⟩ := r; exact ⟨q, hv, bo, ⟨i, _, b, e, hv⟩, fun _ => z, fun q => nomatch q⟩
  | false => obtain ⟨q, rfl, bo, z⟩ := r; exact ⟨q, hv, bo, ⟨i, _, b, e, hv⟩, (fun q => nomatch q), fun _ => z⟩
theorem DRel.boxThere (h : DRel K W ρ σ H) {q : Addr} (b : BoxAt ρ σ q) : ∃ o, H q = some o := by
  obtain ⟨i, o, b, e, hs⟩ := b
  obtain ⟨q', hs', bo, _⟩ := h.boxOk e
  rw [hs] at hs'; cases hs'
  exact bo.there
theorem DRel.avThere (h : DRel K W ρ σ H) {q : Addr} (b : Av W.P ρ σ q) : ∃ o, H q = some o := b.elim (h.prot q) h.boxThere
theorem DRel.pb (h : DRel K W ρ σ H) {q : Addr} (b : BoxAt ρ σ q) : W.H0 q = none ∨ W.PB q := by
  obtain ⟨i, o, b, e, hs⟩ := b
  obtain ⟨q', hs', bo, _, h1, h2⟩ := h.boxOk e
  rw [hs] at hs'; cases hs'
  cases o with
  | true => exact .inl (h1 rfl)
  | false => exact .inr ⟨i, h2 rfl⟩
/-- the slot's value as it is read -/
theorem DRel.look (h : DRel K W ρ σ H) {i : Nat} {v : V} {d : D} (hv : σ[i]? = some (some v)) (e : R.vw ρ (.ref i) = some d) : SRep K (Av W.P ρ σ) H v d := by
  have e' : (ρ[i]?.join).map A.vw = some d := e
  obtain ⟨a, e1, rfl⟩ := Option.map_eq_some_iff.mp e'
  have e2 : ρ[i]? = some (some a) := Option.join_eq_some_iff.mp e1
  cases a with
  | dat d' =>
    obtain ⟨v', hv', r⟩ := h.sl i _ e2
    rw [hv] at hv'; cases hv'
    exact .inl r
  | box o b =>
    obtain ⟨q, hq, bo, _⟩ := h.boxOk e2
    rw [hv] at hq; cases hq
    exact .inr ⟨q, b, rfl, rfl, bo⟩

/-- what an expression may have done -/
structure PostC (K : PySem.W.Frag) (W : Wd) (ρ : En) (σ : L2.St) (H : Hp) (ρ' : En) (σ' : L2.St) (H' : Hp) : Prop where
  rel : DRel K W ρ' σ' H'
  ext : ∀ a o, H a = some o → ¬ BoxAt ρ σ a → H' a = some o
  thr : ∀ a o, H a = some o → ∃ o', H' a = some o'
  new : ∀ q, BoxAt ρ' σ' q → BoxAt ρ σ q ∨ H q = none
structure PostX (K : PySem.W.Frag) (W : Wd) (ρ : En) (σ : L2.St) (H : Hp) (ρ' : En) (H' : Hp) : Prop extends PostC K W ρ σ H ρ' σ H' where
  stay : ∀ (i : Nat) (a : A), ρ[i]? = some (some a) → ∃ a', ρ'[i]? = some (some a')
  sub : ∀ q, BoxAt ρ' σ q → BoxAt ρ σ q
theorem PostC.refl (h : DRel K W ρ σ H) : PostC K W ρ σ H ρ σ H := ⟨h, fun _ _ e _ => e, fun _ o e => ⟨o, e⟩, fun _ b => .inl b⟩
theorem PostC.trans (a : PostC K W ρ σ H ρ' σ' H') (b : PostC K W ρ' σ' H' ρ'' σ'' H'') : PostC K W ρ σ H ρ'' σ'' H'' where
  rel := b.rel
  ext := fun c o e n => b.ext c o (a.ext c o e n) fun z => (a.new c z).elim n fun q => by rw [q] at e; cases e
  thr := fun c o e => by
    obtain ⟨o1, e1⟩ := a.thr c o e
    exact b.thr c o1 e1
  new := fun q z => by
    rcases b.new q z with z | z
    · exact a.new q z
    · refine .inr ?_
      cases e : H q with
      | none => rfl
      | some o => obtain ⟨o1, e1⟩ := a.thr q o e; rw [e1] at z; cases z
theorem PostX.refl (h : DRel K W ρ σ H) : PostX K W ρ σ H ρ H := ⟨PostC.refl h, fun i a e => ⟨a, e⟩, fun _ z => z⟩
theorem PostX.trans (a : PostX K W ρ σ H ρ' H') (b : PostX K W ρ' σ H' ρ'' H'') : PostX K W ρ σ H ρ'' H'' where
  toPostC := a.toPostC.trans b.toPostC
  stay := fun i x e => by
    obtain ⟨a1, e1⟩ := a.stay i x e
    exact b.stay i a1 e1
  sub := fun q z => a.sub q (b.sub q z)
theorem PostC.evo (a : PostC K W ρ σ H ρ' σ' H') (h : DRel K W ρ σ H) : Evo (Av W.P ρ σ) H (Av W.P ρ' σ') H' where
  keep := fun b o e n => a.ext b o e fun z => n (.inr z)
  av := fun b z => by
    rcases z with z | z
    · exact .inl (.inl z)
    · exact (a.new b z).imp .inr id
theorem PostC.free (a : PostC K W ρ σ H ρ' σ' H') {q : Addr} (z : H' q = none) : H q = none := by
  cases e : H q with
  | none => rfl
  | some o => obtain ⟨o1, e1⟩ := a.thr q o e; rw [e1] at z; cases z

/-- how a result lies -/
def RRel (K : PySem.W.Frag) (N : Addr → Prop) (H : Hp) (ρ' : En) (σ : L2.St) (H' : Hp) : R → V → Prop
  | .dat d, v => Rep K N H' v d
  | .new b, v => ∃ q, v = .ref q ∧ H q = none ∧ BoxOk K (fun a => N a ∨ a = q) H' q b
  | .ref i, v => σ[i]? = some (some v) ∧ ∃ a, ρ'[i]? = some (some a)
/-- a result that is no new box: it stays what it is -/
def FRel (K : PySem.W.Frag) (N : Addr → Prop) (ρ' : En) (σ : L2.St) (H' : Hp) : R → V → Prop
  | .dat d, v => Rep K N H' v d
  | .new _, _ => False
  | .ref i, v => σ[i]? = some (some v) ∧ ∃ a, ρ'[i]? = some (some a)
theorem mono_av {N N1 : Addr → Prop} {H : Hp} (h : ∀ a, N1 a → N a) : Evo N H N1 H := ⟨fun _ _ e _ => e, fun a z => .inl (h a z)⟩
theorem RRel.fz {r : R} {v : V} (p : PostX K W ρ σ H ρ' H') (h : DRel K W ρ σ H) (q : RRel K (Av W.P ρ' σ) H ρ' σ H' r v) : FRel K (Av W.P ρ' σ) ρ' σ H' r.fz v := by
  cases r with
  | dat d => exact q
  | new b =>
    obtain ⟨a, rfl, e, bo⟩ := q
    have na : ¬ Av W.P ρ' σ a := fun z => by
      rcases z with z | z
      · obtain ⟨o, e1⟩ := h.prot a z; rw [e] at e1; cases e1
      · obtain ⟨o, e1⟩ := h.boxThere (p.sub a z); rw [e] at e1; cases e1
    exact (bo.evo (mono_av fun a z => .inl z) fun _ e => e).fz na
  | ref i => exact q
end
def Wd.pl (W : Wd) (e : Addr → Prop) : Wd := { W with P := fun a => W.P a ∨ e a }
/-- the address of a new box -/
def exR : R → V → Addr → Prop
  | .new _, v, a => v = .ref a
  | _, _, _ => False
section
variable {K : PySem.W.Frag} {W : Wd} {ρ ρ' : En} {σ : L2.St} {H H' : Hp}
theorem RelA.evo {N N1 : Addr → Prop} (e : Evo N H N1 H') {i : Nat} {a : A} {v : V} (r : RelA K W N H i a v) (hq : ∀ q, v = .ref q → isBx' a = true → ∀ o, H q = some o → H' q = some o) : RelA K W N1 H' i a v := by
  cases a with
  | dat d => exact Rep.evo e _ _ r
  | box o b => cases o with
    | true => obtain ⟨q, h1, h2, h3⟩ := r; exact ⟨q, h1, h2.evo e (hq q h1 rfl), h3⟩
    | false => obtain ⟨q, h1, h2, h3⟩ := r; exact ⟨q, h1, h2.evo e (hq q h1 rfl), h3⟩
/-- fewer are protected -/
theorem DRel.lessP {W' : Wd} (h : DRel K W ρ σ H) (hP : ∀ a, W'.P a → W.P a) (hB : W'.B = W.B) (h0 : W'.H0 = W.H0) : DRel K W' ρ σ H := by
  have e : Evo (Av W.P ρ σ) H (Av W'.P ρ σ) H := mono_av fun a z => z.imp (hP a) id
  refine ⟨h.len, fun i a e1 => ?_, h.dis, fun q z => h.prot q (hP q z), fun q z => h.pdis q (hP q z), fun a o z n => ?_, fun a o z => ?_⟩
  · obtain ⟨v, hv, r⟩ := h.sl i a e1
    refine ⟨v, hv, ?_⟩
    have r' := r.evo e fun _ _ _ _ z => z
    cases a with
    | dat d => exact r'
    | box o b => cases o with
      | true => obtain ⟨q, h1, h2, h3⟩ := r'; exact ⟨q, h1, h2, by rw [h0]; exact h3⟩
      | false => obtain ⟨q, h1, h2, h3⟩ := r'; exact ⟨q, h1, h2, by rw [hB]; exact h3⟩
  · rw [h0] at z
    exact h.keep a o z fun y => n (by obtain ⟨i, y⟩ := y; exact ⟨i, by rw [hB]; exact y⟩)
  · rw [h0] at z
    exact h.there a o z
theorem DRel.pl0 (h : DRel K W ρ σ H) {e : Addr → Prop} (he : ∀ a, ¬ e a) : DRel K (W.pl e) ρ σ H := h.lessP (fun a z => z.elim id fun z => (he a z).elim) rfl rfl
theorem DRel.unpl {e : Addr → Prop} (h : DRel K (W.pl e) ρ σ H) : DRel K W ρ σ H := h.lessP (W := W.pl e) (fun a z => .inl z) rfl rfl
/-- new protected things, fresh until now -/
theorem DRel.grow (h : DRel K W ρ σ H) {e : Addr → Prop} (s : ∀ a o, H a = some o → H' a = some o) (hf : ∀ a, e a → H a = none) (ht : ∀ a, e a → ∃ o, H' a = some o) : DRel K (W.pl e) ρ σ H' := by
  have ev : Evo (Av W.P ρ σ) H (Av (W.pl e).P ρ σ) H' := ⟨fun a o h _ => s a o h, fun a z => by
    rcases z with (z | z) | z
    · exact .inl (.inl z)
    · exact .inr (hf a z)
    · exact .inl (.inr z)⟩
  refine ⟨h.len, fun i a e1 => ?_, h.dis, fun q z => ?_, fun q z y => ?_, fun a o z n => s _ _ (h.keep a o z n), fun a o z => ?_⟩
  · obtain ⟨v, hv, r⟩ := h.sl i a e1
    refine ⟨v, hv, ?_⟩
    have r' := r.evo ev fun q _ _ o => s q o
    cases a with
    | dat d => exact r'
    | box o b => cases o <;> exact r'
  · rcases z with z | z
    · obtain ⟨o, z⟩ := h.prot q z; exact ⟨o, s _ _ z⟩
    · exact ht q z
  · rcases z with z | z
    · exact h.pdis q z y
    · obtain ⟨o, y⟩ := h.boxThere y
      rw [hf q z] at y; cases y
  · obtain ⟨o', z⟩ := h.there a o z; exact ⟨o', s _ _ z⟩
end
end L3

namespace L3
open PySem PySem.Spec PyProof.Rows L2

/-! the static side -/
structure GC where
  prog : Program
  w : World
  K : PySem.W.Frag
  mg : Str → Option Value
  base : Heap
structure SC where
  N : List Str
  sc : Scope
  fn : Str → Bool
  k : Nat
structure CxOk (G : GC) (S : SC) (X : Cx) : Prop where
  prog : X.prog = G.prog
  w : X.w = G.w
  K : X.K = G.K
  mg : X.mg = G.mg
  base : X.base = G.base
  N : X.N = S.N
  sc : X.env.scope = S.sc
  fn : X.fn = S.fn
  calm : X.calm = true
  room : Room S.k X.A
  gd : X.A.guards = some []
  nd : X.N.Nodup
  xe : X.xe = fun _ _ => False

abbrev ME := En → Option (R × En)
abbrev MT := En → Option (Bool × En)
abbrev MA := En → Option (List R × En)

theorem PE.weak {X : Cx} {e : Expr} {t t' : TE} (h : PE X e t) (w : ∀ σ H Q, t' σ H Q → t σ H Q) : PE X e t' := ⟨fun p s σ H Q I q => h.run p s σ H Q I (w _ _ _ q)⟩
theorem PT.weak {X : Cx} {e : Expr} {t t' : TT} (h : PT X e t) (w : ∀ σ H Q, t' σ H Q → t σ H Q) : PT X e t' := ⟨fun p s σ H Q I q => h.run p s σ H Q I (w _ _ _ q)⟩
theorem PW.weak {X : Cx} {e : Expr} {t t' : TT} (h : PW X e t) (w : ∀ σ H Q, t' σ H Q → t σ H Q) : PW X e t' := ⟨fun wh p s σ H Q I q => h.run wh p s σ H Q I (w _ _ _ q)⟩
theorem PA.weak {X : Cx} {e : List Expr} {t t' : TA} (h : PA X e t) (w : ∀ σ H Q, t' σ H Q → t σ H Q) : PA X e t' := ⟨fun ps p s σ H Q I q => h.run ps p s σ H Q I (w _ _ _ q)⟩

/-- an expression's result behind it -/
structure PostE (K : PySem.W.Frag) (W : Wd) (ρ : En) (σ : L2.St) (H : Hp) (r : R) (ρ' : En) (v : V) (H' : Hp) : Prop extends PostX K W ρ σ H ρ' H' where
  res : RRel K (Av W.P ρ' σ) H ρ' σ H' r v
  relE : DRel K (W.pl (exR r v)) ρ' σ H'
def rd (K : PySem.W.Frag) (m : ME) : TE := fun σ H Q => ∃ W ρ r ρ', DRel K W ρ σ H ∧ m ρ = some (r, ρ') ∧ ∀ v H', PostE K W ρ σ H r ρ' v H' → Q v H'
def rdT (K : PySem.W.Frag) (m : MT) : TT := fun σ H Q => ∃ W ρ r ρ', DRel K W ρ σ H ∧ m ρ = some (r, ρ') ∧ ∀ H', PostX K W ρ σ H ρ' H' → Q r H'
abbrev FRels (K : PySem.W.Frag) (N : Addr → Prop) (ρ' : En) (σ : L2.St) (H' : Hp) : List R → List V → Prop := Paired fun r v => FRel K N ρ' σ H' r v
def rdA (K : PySem.W.Frag) (m : MA) : TA := fun σ H Q => ∃ W ρ rs ρ', DRel K W ρ σ H ∧ m ρ = some (rs, ρ') ∧ ∀ vs H', PostX K W ρ σ H ρ' H' → FRels K (Av W.P ρ' σ) ρ' σ H' rs vs → Q vs H'

section
variable (G : GC) (S : SC)
def DE (e : Expr) (m : ME) : Prop := ∀ X, CxOk G S X → PE X e (rd G.K m)
def DT (e : Expr) (m : MT) : Prop := ∀ X, CxOk G S X → PT X e (rdT G.K m)
def DW (e : Expr) (m : MT) : Prop := ∀ X, CxOk G S X → PW X e (rdT G.K m)
def DA (es : List Expr) (m : MA) : Prop := ∀ X, CxOk G S X → PA X es (rdA G.K m)
end

section
variable {K : PySem.W.Frag} {W : Wd} {ρ ρ' ρ'' : En} {σ : L2.St} {H H' H'' : Hp}
/-- nothing tracked is changed -/
theorem PostX.same (p : PostX K W ρ σ H ρ' H') (s : ∀ a o, H' a = some o → H'' a = some o) : PostX K W ρ σ H ρ' H'' := by
  have e : Evo (Av W.P ρ' σ) H' (Av W.P ρ' σ) H'' := ⟨fun a o h _ => s a o h, fun a z => .inl z⟩
  refine ⟨⟨⟨p.rel.len, fun i a h => ?_, p.rel.dis, fun q z => ?_, p.rel.pdis, fun a o h n => s _ _ (p.rel.keep a o h n), fun a o h => ?_⟩, fun a o h n => s _ _ (p.ext a o h n), fun a o h => ?_, p.new⟩, p.stay, p.sub⟩
  · obtain ⟨v, hv, r⟩ := p.rel.sl i a h
    refine ⟨v, hv, ?_⟩
    cases a with
    | dat d => exact Rep.evo e _ _ r
    | box o b => cases o with
      | true => obtain ⟨q, h1, h2, h3⟩ := r; exact ⟨q, h1, h2.evo e fun o => s q o, h3⟩
      | false => obtain ⟨q, h1, h2, h3⟩ := r; exact ⟨q, h1, h2.evo e fun o => s q o, h3⟩
  · obtain ⟨o, h⟩ := p.rel.prot q z; exact ⟨o, s _ _ h⟩
  · obtain ⟨o', h'⟩ := p.rel.there a o h; exact ⟨o', s _ _ h'⟩
  · obtain ⟨o', h'⟩ := p.thr a o h; exact ⟨o', s _ _ h'⟩
/-- an argument, over what comes behind it -/
theorem FRel.over {r : R} {v : V} (h : FRel K (Av W.P ρ σ) ρ σ H r v) (rel : DRel K W ρ σ H) (p : PostX K W ρ σ H ρ' H') : FRel K (Av W.P ρ' σ) ρ' σ H' r v := by
  cases r with
  | dat d => exact Rep.evo (p.evo rel) _ _ h
  | new b => exact h
  | ref i =>
    obtain ⟨h1, a, h2⟩ := h
    exact ⟨h1, p.stay i a h2⟩
theorem FRels.over {rs : List R} {vs : List V} (h : FRels K (Av W.P ρ σ) ρ σ H rs vs) (rel : DRel K W ρ σ H) (p : PostX K W ρ σ H ρ' H') : FRels K (Av W.P ρ' σ) ρ' σ H' rs vs := by
  induction h with
  | nil => exact .nil
  | cons r t ih => exact .cons (FRel.over r rel p) ih
/-- .. read -/
theorem FRel.read {r : R} {v : V} {d : D} (h : FRel K (Av W.P ρ σ) ρ σ H r v) (rel : DRel K W ρ σ H) (e : r.vw ρ = some d) : SRep K (Av W.P ρ σ) H v d := by
  cases r with
  | dat d' => cases e; exact .inl h
  | new b => exact h.elim
  | ref i => exact rel.look h.1 e
def vws (ρ : En) : List R → Option (List D)
  | [] => some []
  | r :: rs => (r.vw ρ).bind fun d => (vws ρ rs).bind fun ds => some (d :: ds)
abbrev SReps (K : PySem.W.Frag) (N : Addr → Prop) (H : Hp) : List V → List D → Prop := Paired fun v d => SRep K N H v d
theorem FRels.read {rs : List R} {vs : List V} (h : FRels K (Av W.P ρ σ) ρ σ H rs vs) (rel : DRel K W ρ σ H) : ∀ {ds : List D}, vws ρ rs = some ds → SReps K (Av W.P ρ σ) H vs ds := by
  induction h with
  | nil => intro ds e; cases e; exact .nil
  | cons r t ih =>
    intro ds e
    unfold vws at e
    obtain ⟨d, e1, e⟩ := Option.bind_eq_some_iff.mp e
    obtain ⟨ds', e2, e⟩ := Option.bind_eq_some_iff.mp e
    cases e
    exact .cons (r.read rel e1) (ih e2)
end

/-! operations by values -/
def VRes (K : PySem.W.Frag) (N : Addr → Prop) (H H' : Hp) (v : V) : R → Prop
  | .dat d => Rep K N H' v d
  | .new b => ∃ q, v = .ref q ∧ H q = none ∧ BoxOk K (fun a => N a ∨ a = q) H' q b
  | .ref _ => False
structure VPost (K : PySem.W.Frag) (N : Addr → Prop) (H : Hp) (r : R) (v : V) (H' : Hp) : Prop where
  same : ∀ a o, H a = some o → H' a = some o
  res : VRes K N H H' v r
def Trk (N : Addr → Prop) (H : Hp) : Prop := ∀ q, N q → ∃ o, H q = some o
def rD2 (K : PySem.W.Frag) (g : D → D → Option R) : R2 := fun x y H Q => ∃ N d e r, Trk N H ∧ SRep K N H x d ∧ SRep K N H y e ∧ g d e = some r ∧ ∀ v H', VPost K N H r v H' → Q v H'
def rD1 (K : PySem.W.Frag) (g : D → Option R) : V → Hp → VK → Prop := fun x H Q => ∃ N d r, Trk N H ∧ SRep K N H x d ∧ g d = some r ∧ ∀ v H', VPost K N H r v H' → Q v H'
def rDn (K : PySem.W.Frag) (g : List D → Option R) : List V → Hp → VK → Prop := fun xs H Q => ∃ N ds r, Trk N H ∧ SReps K N H xs ds ∧ g ds = some r ∧ ∀ v H', VPost K N H r v H' → Q v H'
def rDm (K : PySem.W.Frag) (g : D → List D → Option R) : V → List V → Hp → VK → Prop := fun x xs H Q => ∃ N d ds r, Trk N H ∧ SRep K N H x d ∧ SReps K N H xs ds ∧ g d ds = some r ∧ ∀ v H', VPost K N H r v H' → Q v H'
def rDs (K : PySem.W.Frag) (g : D → Option Int → Option Int → Option R) : V → Option Int → Option Int → Hp → VK → Prop := fun x lo hi H Q => ∃ N d r, Trk N H ∧ SRep K N H x d ∧ g d lo hi = some r ∧ ∀ v H', VPost K N H r v H' → Q v H'

theorem DRel.trk {K : PySem.W.Frag} {W : Wd} {ρ : En} {σ : L2.St} {H : Hp} (h : DRel K W ρ σ H) : Trk (Av W.P ρ σ) H := fun _ z => h.avThere z
theorem PostX.fin {K : PySem.W.Frag} {W : Wd} {ρ ρ' : En} {σ : L2.St} {H H' H'' : Hp} {r : R} {v : V} (p : PostX K W ρ σ H ρ' H') (q : VPost K (Av W.P ρ' σ) H' r v H'') : PostE K W ρ σ H r ρ' v H'' := by
  have z := q.res
  cases r with
  | dat d => exact ⟨p.same q.same, z, (p.same q.same).rel.pl0 fun _ z => z⟩
  | new b =>
    obtain ⟨a, h1, h2, h3⟩ := z
    refine ⟨p.same q.same, ⟨a, h1, p.free h2, h3⟩, p.rel.grow q.same (fun c z => ?_) fun c z => ?_⟩
    · cases h1; cases z; exact h2
    · cases h1; cases z; exact h3.there
  | ref i => exact z.elim

/-! expressions -/
def mvar (i : Nat) : ME := fun ρ => (ρ[i]?.join).bind fun a => match a with
  | .dat d => some (.dat d, ρ)
  | .box _ _ => some (.ref i, ρ)
def mcon (d : D) : ME := fun ρ => some (.dat d, ρ)
def m1 (g : D → Option R) (ma : ME) : ME := fun ρ => (ma ρ).bind fun x => (x.1.fz.vw x.2).bind fun d => (g d).bind fun r => some (r, x.2)
def m2 (g : D → D → Option R) (ma mb : ME) : ME := fun ρ => (ma ρ).bind fun x => (mb x.2).bind fun y => (x.1.fz.vw y.2).bind fun d => (y.1.fz.vw y.2).bind fun e => (g d e).bind fun r => some (r, y.2)
def mnil : MA := fun ρ => some ([], ρ)
def mcons (ma : ME) (ms : MA) : MA := fun ρ => (ma ρ).bind fun x => (ms x.2).bind fun y => some (x.1.fz :: y.1, y.2)
def mn (g : List D → Option R) (ms : MA) : ME := fun ρ => (ms ρ).bind fun x => (vws x.2 x.1).bind fun ds => (g ds).bind fun r => some (r, x.2)
def tyD (T : String) : D → Bool
  | .str _ => T == "str"
  | .list _ => T == "list"
  | .dict _ => T == "dict"
  | _ => false
def guardO (b : Bool) : Option Unit := if b = true then some () else none
def mm (T : String) (g : D → List D → Option R) (ma : ME) (ms : MA) : ME := fun ρ => (ma ρ).bind fun x => (x.1.fz.vw x.2).bind fun d0 => (guardO (tyD T d0)).bind fun _ => (ms x.2).bind fun y => (x.1.fz.vw y.2).bind fun d => (vws y.2 y.1).bind fun ds => (g d ds).bind fun r => some (r, y.2)
def mif (mt : MT) (ma mb : ME) : ME := fun ρ => (mt ρ).bind fun x => if x.1 = true then ma x.2 else mb x.2

section
variable {G : GC} {S : SC} {e a b c : Expr} {es rest : List Expr} {pos p2 : Pos} {m ma mb mc : ME} {mt mu : MT} {ms : MA}
theorem de_name (i : Nat) {x : Str} (hN : S.N[i]? = some x) (hv : Vis S.sc x) (hd : (x == ("__debug__" : Str)) = false) (hcd : (x == ("__classdict__" : Str)) = false) : DE G S (.Name x pos) (mvar i) := by
  intro X c
  refine PE.weak (pe_var (i := i) (by rw [c.N]; exact hN) (by rw [c.sc]; exact hv) hd hcd) ?_
  rintro σ H Q ⟨W, ρ, r, ρ', rel, em, q⟩
  unfold mvar at em
  obtain ⟨y, e1, em⟩ := Option.bind_eq_some_iff.mp em
  have e2 : ρ[i]? = some (some y) := Option.join_eq_some_iff.mp e1
  obtain ⟨v, hv, rr⟩ := rel.sl i y e2
  refine ⟨v, hv, ?_⟩
  cases y with
  | dat d =>
    cases em
    exact q v H ⟨PostX.refl rel, rr, rel.pl0 fun _ z => z⟩
  | box o b =>
    cases em
    exact q v H ⟨PostX.refl rel, ⟨hv, _, e2⟩, rel.pl0 fun _ z => z⟩
theorem de_con {e : Expr} {d : D} {v : V} (h : ∀ X, PE X e (tC v)) (hr : ∀ K N H, Rep K N H v d) : DE G S e (mcon d) := by
  intro X c
  refine PE.weak (h X) ?_
  rintro σ H Q ⟨W, ρ, r, ρ', rel, em, q⟩
  cases em
  exact q v H ⟨PostX.refl rel, hr _ _ _, rel.pl0 fun _ z => z⟩
theorem de_int {i j} : DE G S (.Constant (.int i) j pos) (mcon (.int i)) := de_con (fun _ => pe_int) fun _ _ _ => .int i
theorem de_bl {b j} : DE G S (.Constant (.bool b) j pos) (mcon (.bool b)) := de_con (fun _ => pe_bl) fun _ _ _ => .bl b
theorem de_non {j} : DE G S (.Constant .none j pos) (mcon .none) := de_con (fun _ => pe_non) fun _ _ _ => .non
theorem de_str {x j} : DE G S (.Constant (.str x) j pos) (mcon (.str x)) := de_con (fun _ => pe_str) fun _ _ _ => .str x
/-- two parts, then an operation by values -/
theorem rd2 {K : PySem.W.Frag} {g : D → D → Option R} {σ : L2.St} {H : Hp} {Q : VK} (h : rd K (m2 g ma mb) σ H Q) : rd K ma σ H fun x H1 => rd K mb σ H1 fun y H2 => rD2 K g x y H2 Q := by
  obtain ⟨W, ρ, r, ρ', rel, em, q⟩ := h
  unfold m2 at em
  obtain ⟨⟨ra, ρ1⟩, e1, em⟩ := Option.bind_eq_some_iff.mp em
  obtain ⟨⟨rb, ρ2⟩, e2, em⟩ := Option.bind_eq_some_iff.mp em
  obtain ⟨d, e3, em⟩ := Option.bind_eq_some_iff.mp em
  obtain ⟨e, e4, em⟩ := Option.bind_eq_some_iff.mp em
  obtain ⟨r', e5, em⟩ := Option.bind_eq_some_iff.mp em
  cases em
  refine ⟨W, ρ, ra, ρ1, rel, e1, fun x H1 p1 => ⟨W, ρ1, rb, ρ2, p1.rel, e2, fun y H2 p2 => ⟨Av W.P ρ2 σ, d, e, r, p2.rel.trk, ?_, ?_, e5, fun v H' vp => q v H' ((p1.toPostX.trans p2.toPostX).fin vp)⟩⟩⟩
  · exact (((p1.res.fz p1.toPostX rel).over p1.rel p2.toPostX).read p2.rel e3)
  · exact (p2.res.fz p2.toPostX p1.rel).read p2.rel e4
theorem rd1 {K : PySem.W.Frag} {g : D → Option R} {σ : L2.St} {H : Hp} {Q : VK} (h : rd K (m1 g ma) σ H Q) : rd K ma σ H fun x H1 => rD1 K g x H1 Q := by
  obtain ⟨W, ρ, r, ρ', rel, em, q⟩ := h
  unfold m1 at em
  obtain ⟨⟨ra, ρ1⟩, e1, em⟩ := Option.bind_eq_some_iff.mp em
  obtain ⟨d, e3, em⟩ := Option.bind_eq_some_iff.mp em
  obtain ⟨r', e5, em⟩ := Option.bind_eq_some_iff.mp em
  cases em
  exact ⟨W, ρ, ra, ρ1, rel, e1, fun x H1 p1 => ⟨Av W.P ρ1 σ, d, r, p1.rel.trk, (p1.res.fz p1.toPostX rel).read p1.rel e3, e5, fun v H' vp => q v H' (p1.toPostX.fin vp)⟩⟩
theorem rdn {K : PySem.W.Frag} {g : List D → Option R} {σ : L2.St} {H : Hp} {Q : VK} (h : rd K (mn g ms) σ H Q) : rdA K ms σ H fun xs H1 => rDn K g xs H1 Q := by
  obtain ⟨W, ρ, r, ρ', rel, em, q⟩ := h
  unfold mn at em
  obtain ⟨⟨rs, ρ1⟩, e1, em⟩ := Option.bind_eq_some_iff.mp em
  obtain ⟨ds, e3, em⟩ := Option.bind_eq_some_iff.mp em
  obtain ⟨r', e5, em⟩ := Option.bind_eq_some_iff.mp em
  cases em
  exact ⟨W, ρ, rs, ρ1, rel, e1, fun xs H1 p1 f1 => ⟨Av W.P ρ1 σ, ds, r, p1.rel.trk, f1.read p1.rel e3, e5, fun v H' vp => q v H' (p1.fin vp)⟩⟩
theorem guardO_some {b : Bool} {u : Unit} (h : guardO b = some u) : b = true := by
  unfold guardO at h
  split at h
  · assumption
  · cases h
theorem KLs.L {K : PySem.W.Frag} {a : Addr} {xs : List V} {H : Hp} (h : KLs K a xs) : SqL K H a xs := by
  obtain ⟨its, n, h1, h2, h3⟩ := h
  exact .inr ⟨_, its.toArray, n, h1, rfl, rfl, rfl, by simpa using h2, by simpa using h3⟩
theorem KSq.T {K : PySem.W.Frag} {a : Addr} {xs : List V} {H : Hp} (h : KSq K "tuple" a xs) : SqT K H a xs := by
  obtain ⟨o, its, n, h1, h2, h3, h4, h5, h6⟩ := h
  exact .inr ⟨o, its, n, h1, h2, h4, h5, h6⟩
theorem SqLN.sq {K : PySem.W.Frag} {N : Addr → Prop} {a : Addr} {xs : List V} {H : Hp} (h : SqLN K N H a xs) : SqL K H a xs := h.elim (fun q => .inl q.1) KLs.L
theorem SqTN.sq {K : PySem.W.Frag} {N : Addr → Prop} {a : Addr} {xs : List V} {H : Hp} (h : SqTN K N H a xs) : SqT K H a xs := h.elim (fun ⟨⟨o, q, _⟩, _⟩ => .inl (.inr ⟨o, q⟩)) KSq.T
section
variable {K : PySem.W.Frag} {N : Addr → Prop} {H : Hp} {v : V}
theorem SRep.list {ds : List D} (h : SRep K N H v (.list ds)) : ∃ a xs, v = .ref a ∧ SqL K H a xs ∧ RepL K N H xs ds := by
  rcases h with h | ⟨q, b, rfl, e, bo⟩
  · cases h with | lst h1 h2 => exact ⟨_, _, rfl, h1.sq, h2⟩
  · cases b with
    | lst xs => cases e; obtain ⟨xs, e, r⟩ := bo; exact ⟨q, xs, rfl, .inl (.inl e), r⟩
    | dic kvs => cases e
theorem SRep.tuple {ds : List D} (h : SRep K N H v (.tuple ds)) : ∃ a xs, v = .ref a ∧ SqTN K N H a xs ∧ RepL K N H xs ds := by
  rcases h with h | ⟨q, b, rfl, e, bo⟩
  · cases h with | tup h1 h2 => exact ⟨_, _, rfl, h1, h2⟩
  · cases b <;> cases e
theorem SRep.dict {ds : List (D × D)} (h : SRep K N H v (.dict ds)) : ∃ a kvs, v = .ref a ∧ H a = some (.dK kvs) ∧ RepK K N H kvs ds := by
  rcases h with h | ⟨q, b, rfl, e, bo⟩
  · cases h with | dic h1 h2 h3 => exact ⟨_, _, rfl, h1, h3⟩
  · cases b with
    | lst xs => cases e
    | dic kvs => cases e; obtain ⟨xs, e, r⟩ := bo; exact ⟨q, xs, rfl, e, r⟩
theorem SRep.int {i : Int} (h : SRep K N H v (.int i)) : v = .int i := by
  rcases h with h | ⟨q, b, rfl, e, bo⟩
  · cases h; rfl
  · cases b <;> cases e
theorem SRep.str {x : Str} (h : SRep K N H v (.str x)) : v = .str x := by
  rcases h with h | ⟨q, b, rfl, e, bo⟩
  · cases h; rfl
  · cases b <;> cases e
theorem SRep.bool {x : Bool} (h : SRep K N H v (.bool x)) : v = .bl x := by
  rcases h with h | ⟨q, b, rfl, e, bo⟩
  · cases h; rfl
  · cases b <;> cases e
theorem SRep.none (h : SRep K N H v .none) : v = .non := by
  rcases h with h | ⟨q, b, rfl, e, bo⟩
  · cases h; rfl
  · cases b <;> cases e
theorem SRep.ty {T : String} {d : D} (h : SRep K N H v d) (e : tyD T d = true) : tyV K T v H := by
  cases d with
  | str x => rw [h.str]; exact beq_iff_eq.mp e
  | list xs => obtain ⟨a, ys, rfl, h1, _⟩ := h.list; exact .inl ⟨beq_iff_eq.mp e, ys, h1⟩
  | dict xs => obtain ⟨a, ys, rfl, h1, _⟩ := h.dict; exact .inr (.inr (.inl ⟨beq_iff_eq.mp e, .inl ⟨ys, h1⟩⟩))
  | none => cases e
  | bool b => cases e
  | int i => cases e
  | tuple xs => cases e
end
theorem rdm {K : PySem.W.Frag} {T : String} {g : D → List D → Option R} {σ : L2.St} {H : Hp} {Q : VK} (h : rd K (mm T g ma ms) σ H Q) :
    rd K ma σ H fun x H1 => tyV K T x H1 ∧ rdA K ms σ H1 fun xs H2 => rDm K g x xs H2 Q := by
  obtain ⟨W, ρ, r, ρ', rel, em, q⟩ := h
  unfold mm at em
  obtain ⟨⟨ra, ρ1⟩, e1, em⟩ := Option.bind_eq_some_iff.mp em
  obtain ⟨d0, e6, em⟩ := Option.bind_eq_some_iff.mp em
  obtain ⟨u, e7, em⟩ := Option.bind_eq_some_iff.mp em
  obtain ⟨⟨rs, ρ2⟩, e2, em⟩ := Option.bind_eq_some_iff.mp em
  obtain ⟨d, e3, em⟩ := Option.bind_eq_some_iff.mp em
  obtain ⟨ds, e4, em⟩ := Option.bind_eq_some_iff.mp em
  obtain ⟨r', e5, em⟩ := Option.bind_eq_some_iff.mp em
  cases em
  refine ⟨W, ρ, ra, ρ1, rel, e1, fun x H1 p1 => ⟨?_, W, ρ1, rs, ρ2, p1.rel, e2, fun xs H2 p2 f2 => ⟨Av W.P ρ2 σ, d, ds, r, p2.rel.trk, ?_, f2.read p2.rel e4, e5, fun v H' vp => q v H' ((p1.toPostX.trans p2).fin vp)⟩⟩⟩
  · exact ((p1.res.fz p1.toPostX rel).read p1.rel e6).ty (guardO_some e7)
  · exact (((p1.res.fz p1.toPostX rel).over p1.rel p2).read p2.rel e3)
theorem de_op {op : Operator} {g : D → D → Option R} (h : ∀ X, CxOk G S X → OpR X (binaryOp op) (rD2 G.K g)) (ha : DE G S a ma) (hb : DE G S b mb) : DE G S (.BinOp a op b pos) (m2 g ma mb) :=
  fun X c => PE.weak (pe_op (h X c) (ha X c) (hb X c)) fun _ _ _ q => rd2 q
theorem de_cmp {op : CmpOp} {g : D → D → Option R} (h : ∀ X, CxOk G S X → OpR X (compareOp op) (rD2 G.K g)) (ha : DE G S a ma) (hb : DE G S b mb) (hm : behindInMarks op b = false) : DE G S (.Compare a [op] [b] pos) (m2 g ma mb) :=
  fun X c => PE.weak (pe_cmpR (h X c) (ha X c) (hb X c) hm) fun _ _ _ q => rd2 q
theorem de_un {op : UnaryOp} {g : D → Option R} (h : ∀ X, CxOk G S X → UnR X (unaryOp op) (rD1 G.K g)) (ha : DE G S a ma) : DE G S (.UnaryOp op a pos) (m1 g ma) :=
  fun X c => PE.weak (pe_un (h X c) (ha X c)) fun _ _ _ q => rd1 q
theorem da_nil : DA G S [] mnil := fun X c => PA.weak pa_nil fun σ H Q ⟨W, ρ, rs, ρ', rel, em, q⟩ => by
  cases em
  exact q [] H (PostX.refl rel) .nil
theorem rdcons {K : PySem.W.Frag} {σ : L2.St} {H : Hp} {Q : List V → Hp → Prop} (h : rdA K (mcons ma ms) σ H Q) : rd K ma σ H fun x H1 => rdA K ms σ H1 fun xs H2 => Q (x :: xs) H2 := by
  obtain ⟨W, ρ, r, ρ', rel, em, q⟩ := h
  unfold mcons at em
  obtain ⟨⟨ra, ρ1⟩, e1, em⟩ := Option.bind_eq_some_iff.mp em
  obtain ⟨⟨rs, ρ2⟩, e2, em⟩ := Option.bind_eq_some_iff.mp em
  cases em
  exact ⟨W, ρ, ra, ρ1, rel, e1, fun x H1 p1 => ⟨W, ρ1, rs, ρ2, p1.rel, e2, fun xs H2 p2 f2 => q _ H2 (p1.toPostX.trans p2) (.cons ((p1.res.fz p1.toPostX rel).over p1.rel p2) f2)⟩⟩
theorem da_cons (ha : DE G S e ma) (hr : DA G S es ms) (hs : ∀ env : PySem.Env, starEach (e :: es) env = (false, eval e env) :: starEach es env) : DA G S (e :: es) (mcons ma ms) :=
  fun X c => PA.weak (pa_cons (ha X c) (hr X c) (hs _)) fun _ _ _ q => rdcons q
theorem de_callB {x : Str} {id : String} {g : List D → Option R} (h : ∀ X, CxOk G S X → CallR X (.builtin id) (rDn G.K g)) (hg : S.sc.names.lookup x = some .globalImplicit) (hm : G.mg x = none) (hv : bootBuiltins x = some (.builtin id)) (ha : DA G S (e :: es) ms)
    (hn : x ≠ "__name__") (hdb : (x == ("__debug__" : Str)) = false) (he : ∀ env : PySem.Env, starEach (e :: es) env = (false, eval e env) :: starEach es env) (hpl : ∀ env : PySem.Env, (backTo pos (starEach es env)).any (·.1) = false) :
    DE G S (.Call (.Name x p2) (e :: es) [] pos) (mn g ms) :=
  fun X c => PE.weak (pe_callB (h X c) (by show X.env.scope.names.lookup x = _; rw [c.sc]; exact hg) (by rw [c.mg]; exact hm) hv (ha X c) hn hdb (he _) (hpl _)) fun _ _ _ q => rdn q
theorem de_callTy {x : Str} {T : String} {g : List D → Option R} (h : ∀ X, CxOk G S X → CallR X (.type T) (rDn G.K g)) (hg : S.sc.names.lookup x = some .globalImplicit) (hm : G.mg x = none) (hv : bootBuiltins x = some (.type T)) (ha : DA G S (e :: es) ms)
    (hn : x ≠ "__name__") (hdb : (x == ("__debug__" : Str)) = false) (he : ∀ env : PySem.Env, starEach (e :: es) env = (false, eval e env) :: starEach es env) (hpl : ∀ env : PySem.Env, (backTo pos (starEach es env)).any (·.1) = false) :
    DE G S (.Call (.Name x p2) (e :: es) [] pos) (mn g ms) :=
  fun X c => PE.weak (pe_callTy (h X c) (by show X.env.scope.names.lookup x = _; rw [c.sc]; exact hg) (by rw [c.mg]; exact hm) hv (ha X c) hn hdb (he _) (hpl _)) fun _ _ _ q => rdn q
end
end L3

namespace L3
open PySem PySem.Spec PyProof.Rows L2

/-! displays: boxes are frozen -/
def fzs (ρ : En) : List R → Option (List D × En)
  | [] => some ([], ρ)
  | .dat d :: rs => (fzs ρ rs).map fun x => (d :: x.1, x.2)
  | .new _ :: _ => none
  | .ref i :: rs => (ρ[i]?.join).bind fun a => match a with
    | .dat d => (fzs ρ rs).map fun x => (d :: x.1, x.2)
    | .box true b => (fzs (ρ.set i (some (.dat b.dat))) rs).map fun x => (b.dat :: x.1, x.2)
    | .box false _ => none
section
variable {K : PySem.W.Frag} {W : Wd} {ρ ρ' : En} {σ : L2.St} {H H' : Hp}
theorem set_get {i j : Nat} {x : A} {a : A} (h : (ρ.set i (some x))[j]? = some (some a)) : (j = i ∧ a = x) ∨ (j ≠ i ∧ ρ[j]? = some (some a)) := by
  by_cases e : j = i
  · subst e
    by_cases hl : j < ρ.length
    · rw [List.getElem?_set_self hl] at h; cases h; exact .inl ⟨rfl, rfl⟩
    · rw [List.getElem?_eq_none (by simpa using hl)] at h; cases h
  · rw [List.getElem?_set_ne (Ne.symm e)] at h; exact .inr ⟨e, h⟩
/-- an own box is frozen -/
theorem DRel.freeze (h : DRel K W ρ σ H) {i : Nat} {b : Bx} (e : ρ[i]? = some (some (.box true b))) :
    PostX K W ρ σ H (ρ.set i (some (.dat b.dat))) H ∧ ∃ v, σ[i]? = some (some v) ∧ Rep K (Av W.P (ρ.set i (some (.dat b.dat))) σ) H v b.dat := by
  obtain ⟨q, hq, bo, at_, h0, _⟩ := h.boxOk e
  have sub : ∀ a, BoxAt (ρ.set i (some (.dat b.dat))) σ a → BoxAt ρ σ a ∧ a ≠ q := fun a ⟨j, o, b', e1, e2⟩ => by
    rcases set_get e1 with ⟨rfl, z⟩ | ⟨n, z⟩
    · cases z
    · exact ⟨⟨j, o, b', z, e2⟩, fun e3 => n (h.dis j i _ _ _ _ q z e (by rw [e2, e3]) hq)⟩
  have ev : Evo (Av W.P ρ σ) H (Av W.P (ρ.set i (some (.dat b.dat))) σ) H := mono_av fun a z => z.imp id fun z => (sub a z).1
  have nq : ¬ Av W.P (ρ.set i (some (.dat b.dat))) σ q := fun z => by
    rcases z with z | z
    · exact h.pdis q z at_
    · exact (sub q z).2 rfl
  have rq : Rep K (Av W.P (ρ.set i (some (.dat b.dat))) σ) H (.ref q) b.dat := (bo.evo ev fun _ e => e).fz nq
  refine ⟨⟨⟨⟨by simpa using h.len, fun j a e1 => ?_, fun j k o b1 o' b2 q' e1 e2 => ?_, h.prot, fun a z y => h.pdis a z (sub a y).1, h.keep, h.there⟩, fun _ _ e _ => e, fun _ o e => ⟨o, e⟩, fun a z => .inl (sub a z).1⟩, fun j a e1 => ?_, fun a z => (sub a z).1⟩, _, hq, rq⟩
  · rcases set_get e1 with ⟨rfl, rfl⟩ | ⟨n, z⟩
    · exact ⟨_, hq, rq⟩
    · obtain ⟨v, hv, r⟩ := h.sl j a z
      refine ⟨v, hv, ?_⟩
      cases a with
      | dat d => exact Rep.evo ev _ _ r
      | box o b => cases o with
        | true => obtain ⟨q, h1, h2, h3⟩ := r; exact ⟨q, h1, h2.evo ev fun _ e => e, h3⟩
        | false => obtain ⟨q, h1, h2, h3⟩ := r; exact ⟨q, h1, h2.evo ev fun _ e => e, h3⟩
  · rcases set_get e1 with ⟨_, z⟩ | ⟨_, z⟩
    · cases z
    · rcases set_get e2 with ⟨_, z2⟩ | ⟨_, z2⟩
      · cases z2
      · exact h.dis j k _ _ _ _ q' z z2
  · by_cases ej : j = i
    · subst ej
      exact ⟨_, List.getElem?_set_self (List.getElem?_eq_some_iff.mp e1).1⟩
    · exact ⟨a, by rw [List.getElem?_set_ne (Ne.symm ej)]; exact e1⟩
theorem fzs_ok : ∀ {rs : List R} {vs : List V} {ρ ρ' : En} {ds : List D}, DRel K W ρ σ H → FRels K (Av W.P ρ σ) ρ σ H rs vs → fzs ρ rs = some (ds, ρ') → PostX K W ρ σ H ρ' H ∧ RepL K (Av W.P ρ' σ) H vs ds
  | [], _, _, _, _, rel, .nil, e => by cases e; exact ⟨PostX.refl rel, .nil⟩
  | .dat d :: rs, _, _, _, _, rel, .cons r t, e => by
    unfold fzs at e
    obtain ⟨⟨ds, ρ1⟩, e1, e2⟩ := Option.map_eq_some_iff.mp e
    cases e2
    obtain ⟨p, q⟩ := fzs_ok rel t e1
    exact ⟨p, .cons (Rep.evo (p.evo rel) _ _ r) q⟩
  | .new _ :: _, _, _, _, _, _, .cons r _, _ => r.elim
  | .ref i :: rs, _, ρ, _, _, rel, .cons r t, e => by
    unfold fzs at e
    obtain ⟨a, e1, e⟩ := Option.bind_eq_some_iff.mp e
    have e2 : ρ[i]? = some (some a) := Option.join_eq_some_iff.mp e1
    obtain ⟨hv, _⟩ := r
    cases a with
    | dat d =>
      obtain ⟨⟨ds, ρ1⟩, e3, e4⟩ := Option.map_eq_some_iff.mp e
      cases e4
      obtain ⟨p, q⟩ := fzs_ok rel t e3
      obtain ⟨v', hv', rr⟩ := rel.sl i _ e2
      rw [hv] at hv'; cases hv'
      exact ⟨p, .cons (Rep.evo (p.evo rel) _ _ rr) q⟩
    | box o b => cases o with
      | false => cases e
      | true =>
        obtain ⟨⟨ds, ρ1⟩, e3, e4⟩ := Option.map_eq_some_iff.mp e
        cases e4
        obtain ⟨p0, v', hv', rr⟩ := rel.freeze e2
        rw [hv] at hv'; cases hv'
        obtain ⟨p, q⟩ := fzs_ok p0.rel (FRels.over t rel p0) e3
        exact ⟨p0.trans p, .cons (Rep.evo (p.evo p0.rel) _ _ rr) q⟩
end
def mtup (ms : MA) : ME := fun ρ => (ms ρ).bind fun x => (fzs x.2 x.1).bind fun y => (guardO (decide (y.1.length ≤ sizeLine))).bind fun _ => some (.dat (.tuple y.1), y.2)
def mlst (ms : MA) : ME := fun ρ => (ms ρ).bind fun x => (fzs x.2 x.1).bind fun y => (guardO (decide (y.1.length ≤ sizeLine))).bind fun _ => some (.new (.lst y.1), y.2)
theorem fresh_upd {H : Hp} {p : Addr} {o : HO} (h : H p = none) : ∀ a u, H a = some u → upd H p o a = some u := fun a u e => by
  rw [upd_ne (ne_of_none e h)]; exact e
theorem fresh_evo {N : Addr → Prop} {H : Hp} {p : Addr} {o : HO} (h : H p = none) : Evo N H (fun a => N a ∨ a = p) (upd H p o) :=
  ⟨fun a u e _ => fresh_upd h a u e, fun a z => z.imp id fun z => by rw [z]; exact h⟩
theorem fresh_evo' {N : Addr → Prop} {H : Hp} {p : Addr} {o : HO} (h : H p = none) : Evo N H N (upd H p o) :=
  ⟨fun a u e _ => fresh_upd h a u e, fun a z => .inl z⟩
theorem ftup_new {X : Cx} {pins : List (Addr × Obj)} {σ : L2.St} {H : Hp} {s : Shared} {ys : List V} {its : List Value} {t' : Nat} (I : Inv X pins σ H s) (r : Vals ys its) (hz : ys.length ≤ sizeLine) :
    Inv X pins σ (upd H s.heap.objs.size (.frz { cls := .type "tuple", data := .seq its.toArray } (.tup ys))) { s with heap := s.heap.push { cls := .type "tuple", data := .seq its.toArray }, toks := t' } :=
  I.laid (fun _ _ q => Heap.get?_push_of_some _ q) (Nat.le_refl _) ⟨Heap.get?_push_size _ rfl, hz, its, r, IsTup.new _ _⟩
def tTupF (t : TA) : TE := fun σ H Q => t σ H fun xs H1 => xs.length ≤ sizeLine ∧ ∀ (p : Addr) (o : Obj), H1 p = none → o.dict = none → Q (.ref p) (upd H1 p (.frz o (.tup xs)))
theorem pe_tupF {X : Cx} {es : List Expr} {t : TA} {pos : Pos} {x1} (h : PA X es t) : PE X (.Tuple es x1 pos) (tTupF t) := by
  refine ⟨fun pins s σ H Q I hq => ?_⟩
  refine wpAny_Tuple_spliced (thn (h.run pos pins s σ H _ I hq) fun us s1 ⟨xs, H1, I1, r, z, q⟩ => ⟨by rw [← r.length]; exact z, ?_⟩)
  exact ⟨.ref s1.heap.objs.size, _, ftup_new (t' := s1.toks) I1 r z, rfl, q _ _ (I1.hok.fresh (Nat.le_refl _)) rfl⟩
theorem guardO_dec {p : Prop} [Decidable p] {u : Unit} (h : guardO (decide p) = some u) : p := of_decide_eq_true (guardO_some h)

section
variable {G : GC} {S : SC} {e a b c : Expr} {es rest : List Expr} {pos p2 : Pos} {m ma mb mc : ME} {mt mu : MT} {ms : MA}
theorem de_tup {x1} (h : DA G S es ms) : DE G S (.Tuple es x1 pos) (mtup ms) := by
  intro X c
  refine PE.weak (pe_tupF (h X c)) ?_
  rintro σ H Q ⟨W, ρ, r, ρ', rel, em, q⟩
  unfold mtup at em
  obtain ⟨⟨rs, ρ1⟩, e1, em⟩ := Option.bind_eq_some_iff.mp em
  obtain ⟨⟨ds, ρ2⟩, e2, em⟩ := Option.bind_eq_some_iff.mp em
  obtain ⟨u, e3, em⟩ := Option.bind_eq_some_iff.mp em
  cases em
  refine ⟨W, ρ, rs, ρ1, rel, e1, fun vs H1 p1 f1 => ?_⟩
  obtain ⟨p2, rl⟩ := fzs_ok p1.rel f1 e2
  refine ⟨by rw [rl.length]; exact guardO_dec e3, fun p o hp ho => q _ _ ((p1.trans p2).fin ⟨fresh_upd hp, ?_⟩)⟩
  exact .tup (.inl ⟨⟨o, upd_same, ho⟩, fun z => by obtain ⟨o, e⟩ := p2.rel.avThere z; rw [hp] at e; cases e⟩) (RepL.evo (fresh_evo' hp) _ _ rl)
theorem de_lst (h : DA G S es ms) : DE G S (.List es pos) (mlst ms) := by
  intro X c
  refine PE.weak (pe_lst (h X c)) ?_
  rintro σ H Q ⟨W, ρ, r, ρ', rel, em, q⟩
  unfold mlst at em
  obtain ⟨⟨rs, ρ1⟩, e1, em⟩ := Option.bind_eq_some_iff.mp em
  obtain ⟨⟨ds, ρ2⟩, e2, em⟩ := Option.bind_eq_some_iff.mp em
  obtain ⟨u, e3, em⟩ := Option.bind_eq_some_iff.mp em
  cases em
  refine ⟨W, ρ, rs, ρ1, rel, e1, fun vs H1 p1 f1 => ?_⟩
  obtain ⟨p2, rl⟩ := fzs_ok p1.rel f1 e2
  refine ⟨by rw [rl.length]; exact guardO_dec e3, fun p hp => q _ _ ((p1.trans p2).fin ⟨fresh_upd hp, ?_⟩)⟩
  exact ⟨p, rfl, hp, vs, upd_same, RepL.evo (fresh_evo hp) _ _ rl⟩
def mdnew : ME := fun ρ => some (.new (.dic []), ρ)
theorem de_dnew : DE G S (.Dict [] [] pos) mdnew := by
  intro X c
  refine PE.weak pe_dnewK ?_
  rintro σ H Q ⟨W, ρ, r, ρ', rel, em, q⟩
  cases em
  exact fun p hp => q _ _ ((PostX.refl rel).fin ⟨fresh_upd hp, ⟨p, rfl, hp, [], upd_same, .nil⟩⟩)

/-! methods by values -/
theorem de_bm {o : Expr} {name : Str} {T id : String} {apos cpos : Pos} {g : D → List D → Option R} {mo : ME} (pa : PlainAttrs T) (slot : Slot T name id) (hty : typeOf (.builtin id) = pure (.type "method_descriptor")) (hm : ∀ X, CxOk G S X → MtR X id (rDm G.K g))
    (ho : DE G S o mo) (ha : DA G S (e :: es) ms)
    (hbase : ∀ env : PySem.Env, attributeBase o name env (eval o env) = eval o env)
    (hfew : ∀ env : PySem.Env, ((backTo cpos (starEach (e :: es) env)).all (fun x => !x.1) && (backToKw cpos (keywordEach [] env)).all (fun x => x.1.isSome)
      && decide ((e :: es).length + ([] : List Keyword).length + (if ([] : List Keyword).isEmpty then 0 else 1) < 30)) = true)
    (hline : (apos.endLine == cpos.line) = true) (hs : ∀ env : PySem.Env, starEach (e :: es) env = (false, eval e env) :: starEach es env) (hplain : ∀ env : PySem.Env, (backTo cpos (starEach es env)).any (·.1) = false) :
    DE G S (.Call (.Attribute o name apos) (e :: es) [] cpos) (mm T g mo ms) :=
  fun X c => PE.weak (pe_bm pa slot hty (hm X c) (ho X c) (ha X c) (hbase _) (hfew _) hline (hs _) (hplain _)) fun σ H Q q => by
    have z := rdm q
    rw [← c.K] at z ⊢
    exact z
theorem de_bm0 {o : Expr} {name : Str} {T id : String} {apos cpos : Pos} {g : D → List D → Option R} {mo : ME} (pa : PlainAttrs T) (slot : Slot T name id) (hty : typeOf (.builtin id) = pure (.type "method_descriptor")) (hm : ∀ X, CxOk G S X → MtR X id (rDm G.K g))
    (ho : DE G S o mo) (hbase : ∀ env : PySem.Env, attributeBase o name env (eval o env) = eval o env) (hline : (apos.endLine == cpos.line) = true) :
    DE G S (.Call (.Attribute o name apos) [] [] cpos) (mm T g mo mnil) :=
  fun X c => PE.weak (pe_bm0 pa slot hty (hm X c) (ho X c) (hbase _) hline) fun σ H Q q => by
    have z := rdm q
    rw [← c.K] at z ⊢
    obtain ⟨W, ρ, r, ρ1, rel, e1, f⟩ := z
    refine ⟨W, ρ, r, ρ1, rel, e1, fun x H1 p1 => ⟨(f x H1 p1).1, ?_⟩⟩
    obtain ⟨W2, ρ2, rs, ρ3, rel2, e2, f2⟩ := (f x H1 p1).2
    cases e2
    exact f2 [] H1 (PostX.refl rel2) .nil

/-! subscripts -/
theorem de_ix {g : D → D → Option R} (h : ∀ X, CxOk G S X → IxR X (rD2 G.K g)) (ha : DE G S a ma) (hb : DE G S b mb) (hs : PlainIx b) : DE G S (.Subscript a b pos) (m2 g ma mb) :=
  fun X c => PE.weak (pe_ix (h X c) (ha X c) (hb X c) hs) fun _ _ _ q => rd2 q
abbrev MO := En → Option (Option Int × En)
def rdO (K : PySem.W.Frag) (m : MO) : TO := fun σ H Q => ∃ W ρ r ρ', DRel K W ρ σ H ∧ m ρ = some (r, ρ') ∧ ∀ H', PostX K W ρ σ H ρ' H' → Q r H'
def DO (G : GC) (S : SC) (e : Option Expr) (m : MO) : Prop := ∀ X, CxOk G S X → PO X e (rdO G.K m)
theorem PO.weak {X : Cx} {e : Option Expr} {t t' : TO} (h : PO X e t) (w : ∀ σ H Q, t' σ H Q → t σ H Q) : PO X e t' := ⟨fun p s σ H Q I q => h.run p s σ H Q I (w _ _ _ q)⟩
def monone : MO := fun ρ => some (none, ρ)
def mosome (m : ME) : MO := fun ρ => (m ρ).bind fun x => (x.1.fz.vw x.2).bind fun d => match d with
  | .int i => some (some i, x.2)
  | _ => none
theorem do_none : DO G S none monone := fun X c => PO.weak po_none fun σ H Q ⟨W, ρ, r, ρ', rel, em, q⟩ => by
  cases em
  exact q H (PostX.refl rel)
theorem do_some (h : DE G S e m) : DO G S (some e) (mosome m) := fun X c => PO.weak (po_some (h X c)) fun σ H Q ⟨W, ρ, r, ρ', rel, em, q⟩ => by
  unfold mosome at em
  obtain ⟨⟨ra, ρ1⟩, e1, em⟩ := Option.bind_eq_some_iff.mp em
  obtain ⟨d, e2, em⟩ := Option.bind_eq_some_iff.mp em
  split at em
  · rename_i i
    cases em
    refine ⟨W, ρ, ra, ρ1, rel, e1, fun x H1 p1 => ⟨i, ?_, q H1 p1.toPostX⟩⟩
    exact ((p1.res.fz p1.toPostX rel).read p1.rel e2).int
  · cases em
def msl (g : D → Option Int → Option Int → Option R) (ma : ME) (ml mh : MO) : ME := fun ρ => (ma ρ).bind fun x => (ml x.2).bind fun l => (mh l.2).bind fun h => (x.1.fz.vw h.2).bind fun d => (g d l.1 h.1).bind fun r => some (r, h.2)
theorem de_slice {lo hi : Option Expr} {ml mh : MO} {g : D → Option Int → Option Int → Option R} (h : ∀ X, CxOk G S X → SlR X (rDs G.K g)) (he : DE G S e m) (hl : DO G S lo ml) (hu : DO G S hi mh) : DE G S (.Subscript e (.Slice lo hi none p2) pos) (msl g m ml mh) :=
  fun X c => PE.weak (pe_slice (h X c) (he X c) (hl X c) (hu X c)) fun σ H Q ⟨W, ρ, r, ρ', rel, em, q⟩ => by
    unfold msl at em
    obtain ⟨⟨ra, ρ1⟩, e1, em⟩ := Option.bind_eq_some_iff.mp em
    obtain ⟨⟨l, ρ2⟩, e2, em⟩ := Option.bind_eq_some_iff.mp em
    obtain ⟨⟨u, ρ3⟩, e3, em⟩ := Option.bind_eq_some_iff.mp em
    obtain ⟨d, e4, em⟩ := Option.bind_eq_some_iff.mp em
    obtain ⟨r', e5, em⟩ := Option.bind_eq_some_iff.mp em
    cases em
    refine ⟨W, ρ, ra, ρ1, rel, e1, fun x H1 p1 => ⟨W, ρ1, l, ρ2, p1.rel, e2, fun H2 p2 => ⟨W, ρ2, u, _, p2.rel, e3, fun H3 p3 => ?_⟩⟩⟩
    refine ⟨_, d, r, p3.rel.trk, ?_, e5, fun v H' vp => q v H' (((p1.toPostX.trans p2).trans p3).fin vp)⟩
    exact ((((p1.res.fz p1.toPostX rel).over p1.rel p2).over p2.rel p3).read p3.rel e4)

/-! tests -/
def truD : D → Option Bool
  | .none => some false
  | .bool b => some b
  | .int i => some (i != 0)
  | .str x => if x.length ≤ sizeLine then some ((x.length : Int) != 0) else none
  | .list xs => some (!xs.isEmpty)
  | .tuple xs => some (!xs.isEmpty)
  | .dict kvs => some (!kvs.isEmpty)
theorem RepL.empty {K : PySem.W.Frag} {N : Addr → Prop} {H : Hp} {vs : List V} {ds : List D} (h : RepL K N H vs ds) : ds.isEmpty = vs.isEmpty := by cases h <;> rfl
theorem RepK.empty {K : PySem.W.Frag} {N : Addr → Prop} {H : Hp} {vs : List (Key × V)} {ds : List (D × D)} (h : RepK K N H vs ds) : ds.isEmpty = vs.isEmpty := by cases h <;> rfl
theorem SRep.tru {K : PySem.W.Frag} {N : Addr → Prop} {H : Hp} {v : V} {d : D} {k : Bool} (h : SRep K N H v d) (e : truD d = some k) : TruV K v H k := by
  cases d with
  | none => cases e; rw [h.none]; rfl
  | bool b => cases e; rw [h.bool]; rfl
  | int i => cases e; rw [h.int]; rfl
  | str x =>
    have e' : (if x.length ≤ sizeLine then some ((x.length : Int) != 0) else Option.none) = some k := e
    split at e'
    · cases e'; rw [h.str]; exact ⟨by assumption, rfl⟩
    · cases e'
  | list xs => cases e; obtain ⟨a, ys, rfl, h1, h2⟩ := h.list; exact .inl ⟨ys, h1, by rw [h2.empty]⟩
  | tuple xs => cases e; obtain ⟨a, ys, rfl, h1, h2⟩ := h.tuple; exact .inr (.inl ⟨ys, h1.sq, by rw [h2.empty]⟩)
  | dict xs => cases e; obtain ⟨a, ys, rfl, h1, h2⟩ := h.dict; exact .inr (.inr ⟨ys, h1, by rw [h2.empty]⟩)
def mtru (m : ME) : MT := fun ρ => (m ρ).bind fun x => (x.1.fz.vw x.2).bind fun d => (truD d).bind fun b => some (b, x.2)
theorem dt_val (h : DE G S e m) (he : ∀ (env : PySem.Env) whole, isTrue e env whole = (do let v ← whole; standAt e.pos; holding [v] (truthy v))) : DT G S e (mtru m) :=
  fun X c => PT.weak (pt_truth (h X c) (he _)) fun σ H Q ⟨W, ρ, r, ρ', rel, em, q⟩ => by
    unfold mtru at em
    obtain ⟨⟨ra, ρ1⟩, e1, em⟩ := Option.bind_eq_some_iff.mp em
    obtain ⟨d, e2, em⟩ := Option.bind_eq_some_iff.mp em
    obtain ⟨b, e3, em⟩ := Option.bind_eq_some_iff.mp em
    cases em
    refine ⟨W, ρ, ra, ρ1, rel, e1, fun x H1 p1 => ⟨r, ?_, q H1 p1.toPostX⟩⟩
    rw [c.K]
    exact ((p1.res.fz p1.toPostX rel).read p1.rel e2).tru e3
def boolR : R → Option Bool
  | .dat (.bool b) => some b
  | _ => none
def mtst (m : ME) : MT := fun ρ => (m ρ).bind fun x => (boolR x.1).bind fun b => some (b, x.2)
theorem boolR_some {r : R} {b : Bool} (h : boolR r = some b) : r = .dat (.bool b) := by
  unfold boolR at h
  split at h
  · cases h; rfl
  · cases h
theorem PostE.boolv {K : PySem.W.Frag} {W : Wd} {ρ ρ' : En} {σ : L2.St} {H H' : Hp} {r : R} {v : V} {b : Bool} (p : PostE K W ρ σ H r ρ' v H') (e : boolR r = some b) : v = .bl b := by
  have z := p.res
  rw [boolR_some e] at z
  cases (show Rep _ _ _ _ _ from z)
  rfl
theorem rdtst {K : PySem.W.Frag} {σ : L2.St} {H : Hp} {Q : Bool → Hp → Prop} (h : rdT K (mtst m) σ H Q) : rd K m σ H fun x H' => ∃ k, x = .bl k ∧ Q k H' := by
  obtain ⟨W, ρ, r, ρ', rel, em, q⟩ := h
  unfold mtst at em
  obtain ⟨⟨ra, ρ1⟩, e1, em⟩ := Option.bind_eq_some_iff.mp em
  obtain ⟨b, e2, em⟩ := Option.bind_eq_some_iff.mp em
  cases em
  refine ⟨W, ρ, ra, ρ1, rel, e1, fun x H1 p1 => ⟨r, ?_, q H1 p1.toPostX⟩⟩
  exact p1.boolv e2
theorem dt_cmp {op : CmpOp} {g : D → D → Option R} (h : ∀ X, CxOk G S X → OpR X (compareOp op) (rD2 G.K g)) (ha : DE G S a ma) (hb : DE G S b mb) (hm : behindInMarks op b = false) : DT G S (.Compare a [op] [b] pos) (mtst (m2 g ma mb)) :=
  fun X c => PT.weak (pt_cmpR (h X c) (ha X c) (hb X c) hm) fun σ H Q q => by
    obtain ⟨W, ρ, r, ρ1, rel, e1, f⟩ := rd2 (Q := fun x H' => ∃ k, x = .bl k ∧ Q k H') (rdtst q)
    exact ⟨W, ρ, r, ρ1, rel, e1, f⟩
def mnot (m : MT) : MT := fun ρ => (m ρ).bind fun x => some (!x.1, x.2)
def mandT (ma mb : MT) : MT := fun ρ => (ma ρ).bind fun x => if x.1 = true then mb x.2 else some (false, x.2)
def morT (ma mb : MT) : MT := fun ρ => (ma ρ).bind fun x => if x.1 = true then some (true, x.2) else mb x.2
theorem dt_not (h : DT G S a mt) : DT G S (.UnaryOp .Not a pos) (mnot mt) := fun X c => PT.weak (pt_not (h X c)) fun σ H Q ⟨W, ρ, r, ρ', rel, em, q⟩ => by
  unfold mnot at em
  obtain ⟨⟨b, ρ1⟩, e1, em⟩ := Option.bind_eq_some_iff.mp em
  cases em
  exact ⟨W, ρ, b, ρ1, rel, e1, fun H1 p1 => q H1 p1⟩
theorem dw_one {op : BoolOp} (h : DT G S a mt) : DW G S (.BoolOp op [a] pos) mt := fun X c => by
  cases op with
  | And => exact PW.weak (pw_and1 (h X c)) fun _ _ _ q => q
  | Or => exact PW.weak (pw_or1 (h X c)) fun _ _ _ q => q
theorem dw_and (ha : DT G S a mt) (hb : DW G S (.BoolOp .And (b :: rest) pos) mu) : DW G S (.BoolOp .And (a :: b :: rest) pos) (mandT mt mu) := fun X c => PW.weak (pw_and (ha X c) (hb X c)) fun σ H Q ⟨W, ρ, r, ρ', rel, em, q⟩ => by
  unfold mandT at em
  obtain ⟨⟨b, ρ1⟩, e1, em⟩ := Option.bind_eq_some_iff.mp em
  refine ⟨W, ρ, b, ρ1, rel, e1, fun H1 p1 => ?_⟩
  cases b with
  | true => rw [if_pos rfl] at em ⊢; exact ⟨W, ρ1, r, ρ', p1.rel, em, fun H2 p2 => q H2 (p1.trans p2)⟩
  | false => rw [if_neg Bool.false_ne_true] at em ⊢; cases em; exact q H1 p1
theorem dw_or (ha : DT G S a mt) (hb : DW G S (.BoolOp .Or (b :: rest) pos) mu) : DW G S (.BoolOp .Or (a :: b :: rest) pos) (morT mt mu) := fun X c => PW.weak (pw_or (ha X c) (hb X c)) fun σ H Q ⟨W, ρ, r, ρ', rel, em, q⟩ => by
  unfold morT at em
  obtain ⟨⟨b, ρ1⟩, e1, em⟩ := Option.bind_eq_some_iff.mp em
  refine ⟨W, ρ, b, ρ1, rel, e1, fun H1 p1 => ?_⟩
  cases b with
  | true => rw [if_pos rfl] at em ⊢; cases em; exact q H1 p1
  | false => rw [if_neg Bool.false_ne_true] at em ⊢; exact ⟨W, ρ1, r, ρ', p1.rel, em, fun H2 p2 => q H2 (p1.trans p2)⟩
theorem dt_w (h : DW G S a mt) : DT G S a mt := fun X c => (h X c).pt
/-! and, or, if as values -/
def mandV (ma mb : ME) : ME := fun ρ => (ma ρ).bind fun x => (boolR x.1).bind fun b => if b = true then mb x.2 else some (.dat (.bool false), x.2)
def morV (ma mb : ME) : ME := fun ρ => (ma ρ).bind fun x => (boolR x.1).bind fun b => if b = true then some (.dat (.bool true), x.2) else mb x.2
theorem de_one {op : BoolOp} (h : DE G S a ma) : DE G S (.BoolOp op [a] pos) ma := fun X c => pe_one (h X c)
theorem PostE.over {K : PySem.W.Frag} {W : Wd} {ρ ρ1 ρ2 : En} {σ : L2.St} {H H1 H2 : Hp} {r : R} {v : V} (p : PostX K W ρ σ H ρ1 H1) (q : PostE K W ρ1 σ H1 r ρ2 v H2) : PostE K W ρ σ H r ρ2 v H2 := by
  refine ⟨p.trans q.toPostX, ?_, q.relE⟩
  have z := q.res
  cases r with
  | dat d => exact z
  | new b => obtain ⟨a, h1, h2, h3⟩ := z; exact ⟨a, h1, p.free h2, h3⟩
  | ref i => exact z
theorem de_and (ha : DE G S a ma) (hb : DE G S (.BoolOp .And (b :: rest) pos) mb) : DE G S (.BoolOp .And (a :: b :: rest) pos) (mandV ma mb) := fun X c => PE.weak (pe_and (ha X c) (hb X c)) fun σ H Q ⟨W, ρ, r, ρ', rel, em, q⟩ => by
  unfold mandV at em
  obtain ⟨⟨ra, ρ1⟩, e1, em⟩ := Option.bind_eq_some_iff.mp em
  obtain ⟨b, e2, em⟩ := Option.bind_eq_some_iff.mp em
  refine ⟨W, ρ, ra, ρ1, rel, e1, fun x H1 p1 => ⟨b, ?_, ?_⟩⟩
  · exact p1.boolv e2
  · cases b with
    | true => rw [if_pos rfl] at em ⊢; exact ⟨W, ρ1, r, ρ', p1.rel, em, fun v H2 p2 => q v H2 (PostE.over p1.toPostX p2)⟩
    | false => rw [if_neg Bool.false_ne_true] at em ⊢; cases em; exact q _ H1 ⟨p1.toPostX, .bl false, p1.rel.pl0 fun _ z => z⟩
theorem de_or (ha : DE G S a ma) (hb : DE G S (.BoolOp .Or (b :: rest) pos) mb) : DE G S (.BoolOp .Or (a :: b :: rest) pos) (morV ma mb) := fun X c => PE.weak (pe_or (ha X c) (hb X c)) fun σ H Q ⟨W, ρ, r, ρ', rel, em, q⟩ => by
  unfold morV at em
  obtain ⟨⟨ra, ρ1⟩, e1, em⟩ := Option.bind_eq_some_iff.mp em
  obtain ⟨b, e2, em⟩ := Option.bind_eq_some_iff.mp em
  refine ⟨W, ρ, ra, ρ1, rel, e1, fun x H1 p1 => ⟨b, ?_, ?_⟩⟩
  · exact p1.boolv e2
  · cases b with
    | true => rw [if_pos rfl] at em ⊢; cases em; exact q _ H1 ⟨p1.toPostX, .bl true, p1.rel.pl0 fun _ z => z⟩
    | false => rw [if_neg Bool.false_ne_true] at em ⊢; exact ⟨W, ρ1, r, ρ', p1.rel, em, fun v H2 p2 => q v H2 (PostE.over p1.toPostX p2)⟩
theorem de_if (hc : DT G S c mt) (ha : DE G S a ma) (hb : DE G S b mb) : DE G S (.IfExp c a b pos) (mif mt ma mb) := fun X cx => PE.weak (pe_ifExp (hc X cx) (ha X cx) (hb X cx)) fun σ H Q ⟨W, ρ, r, ρ', rel, em, q⟩ => by
  unfold mif at em
  obtain ⟨⟨b, ρ1⟩, e1, em⟩ := Option.bind_eq_some_iff.mp em
  refine ⟨W, ρ, b, ρ1, rel, e1, fun H1 p1 => ?_⟩
  cases b with
  | true => rw [if_pos rfl] at em ⊢; exact ⟨W, ρ1, r, ρ', p1.rel, em, fun v H2 p2 => q v H2 (PostE.over p1 p2)⟩
  | false => rw [if_neg Bool.false_ne_true] at em ⊢; exact ⟨W, ρ1, r, ρ', p1.rel, em, fun v H2 p2 => q v H2 (PostE.over p1 p2)⟩
end
end L3

namespace L3
open PySem PySem.Spec PyProof.Rows L2

/-! a def's promise, the guards known -/
structure FnG (G : GC) (k : Nat) (f : Addr) (fd : FuncData) (ps : List Str) (sp : Sp) : Prop where
  len : ∀ vs H Q E, sp vs H Q E → vs.length = ps.length
  run : ∀ (A : Around) (outer : List PySem.Env) (s : Shared) (H : Hp) (args : Args) (us : List Value) (vs : List V) (Q : VK) (E : XK), Room k A → A.guards = some [] → Env0 G.prog G.w G.K G.mg G.base A outer s H → BindsTo s fd args (ps.zip us) → Vals vs us → sp vs H Q E →
    codeAny (model G.prog G.w) A (.call (.ref f) args) (CR CX0 outer G.prog G.w H s Q E) s
theorem FnG.mono {G : GC} {j k : Nat} {f : Addr} {fd : FuncData} {ps : List Str} {sp : Sp} (F : FnG G j f fd ps sp) (h : j ≤ k) : FnG G k f fd ps sp :=
  ⟨F.len, fun A outer s H args us vs Q E hr => F.run A outer s H args us vs Q E (hr.mono h)⟩
section
variable {X : Cx} {G : GC} {k : Nat} {f : Addr} {fd : FuncData} {ps : List Str} {sp : Sp} {x : Str} {p pos : Pos} {e : Expr} {es : List Expr} {t : TA}
theorem run_fnG {pins : List (Addr × Obj)} {σ : L2.St} {H : Hp} {s : Shared} {Q : VK} {us : List Value} {vs : List V} (F : FnG ⟨X.prog, X.w, X.K, X.mg, X.base⟩ k f fd ps sp) (hr : Room k X.A) (hgd : X.A.guards = some []) (hb : Binds X.K fd ps [])
    (I : Inv X pins σ H s) (r : Vals vs us) (h : sp vs H Q E0) : wpAny (model X.prog X.w) X.A (call (.ref f) us) (EP X pins σ Q) X.xe s := by
  have hl : (us ++ []).length = ps.length := by rw [List.append_nil, ← r.length]; exact F.len _ _ _ _ h
  have hb' : BindsTo s fd ⟨us, []⟩ (ps.zip us) := by
    have := hb s us I.kIn hl
    rw [List.append_nil] at this
    exact this
  refine wpAny_call (codeAny_mono (F.run X.A X.stack s H ⟨us, []⟩ us vs Q E0 hr hgd I.env0 hb' r h) fun r s' hq => ?_)
  cases r with
  | error e => exact False.elim hq
  | ok fl =>
    cases fl with
    | ret u => exact I.after hq
    | next => exact False.elim hq
    | brk => exact False.elim hq
    | cont => exact False.elim hq
theorem pe_callG (F : FnG ⟨X.prog, X.w, X.K, X.mg, X.base⟩ k f fd ps sp) (hr : Room k X.A) (hgd : X.A.guards = some []) (hg : Gl X x) (hm : X.mg x = some (.ref f)) (hk : PySem.W.keepIn X.K (.ref f) = true) (hb : Binds X.K fd ps [])
    (ha : PA X (e :: es) t) (hdb : (x == ("__debug__" : Str)) = false) (he : starEach (e :: es) X.env = (false, eval e X.env) :: starEach es X.env) (hpl : (backTo pos (starEach es X.env)).any (·.1) = false) :
    PE X (.Call (.Name x p) (e :: es) [] pos) (tCB (fun vs H Q => sp vs H Q E0) t) := by
  refine ⟨fun pins s σ H Q I h => ?_⟩
  refine wpAny_Call_Name_kw (ld_glob I hg hm ?_ hdb)
  refine PySem.W.callWith_K (h₀ := X.base) I.ok.mod.kin hk (thn (ha.run pos pins s σ H _ I h) fun us s1 ⟨vs, H1, I1, r, q⟩ => ⟨I1.kIn, ?_⟩) he hpl
  exact run_fnG F hr hgd hb I1 r q
end

/-! a def by its meaning -/
abbrev MF := List A → Option (R × List A)
structure PostF (K : PySem.W.Frag) (W : Wd) (outs : List A) (vs : List V) (H : Hp) (r : R) (v : V) (H' : Hp) : Prop where
  rel : DRel K (W.pl (exR r v)) (outs.map some) (vs.map some) H'
  res : VRes K (Av W.P (outs.map some) (vs.map some)) H H' v r
def isBx : A → Bool
  | .box _ _ => true
  | .dat _ => false
def spM (K : PySem.W.Frag) (n : Nat) (m : MF) : Sp := fun vs H Q _ => ∃ W as r outs, as.length = n ∧ DRel K W (as.map some) (vs.map some) H ∧ W.H0 = H ∧ (∀ (i : Nat) b, as[i]? ≠ some (A.box true b)) ∧ (∀ a, W.PB a → BoxAt (as.map some) (vs.map some) a) ∧ m as = some (r, outs) ∧
  as.map isBx = outs.map isBx ∧ ∀ v H', PostF K W outs vs H r v H' → Q v H'

def argA (ρ : En) : R → Option A
  | .dat d => some (.dat d)
  | .new _ => none
  | .ref i => (ρ[i]?.join).map fun a => match a with
    | .dat d => .dat d
    | .box _ b => .box false b
def argAs (ρ : En) : List R → Option (List A)
  | [] => some []
  | r :: rs => (argA ρ r).bind fun a => (argAs ρ rs).map fun as => a :: as
/-- the slots of the boxes that are handed over -/
def bxIx (ρ : En) : List R → List Nat
  | [] => []
  | .ref i :: rs => match ρ[i]?.join with
    | some (.box _ _) => i :: bxIx ρ rs
    | _ => bxIx ρ rs
  | _ :: rs => bxIx ρ rs
def newC : List R → List A → Nat → Option Bx
  | .ref j :: rs, .box _ b :: as, i => if j = i then some b else newC rs as i
  | _ :: rs, _ :: as, i => newC rs as i
  | _, _, _ => none
def backA (c : Option Bx) : Option A → Option A
  | some (.box o b) => some (.box o (c.getD b))
  | a => a
def back (ρ : En) (rs : List R) (outs : List A) : En := ρ.mapIdx fun i a => backA (newC rs outs i) a
def mcall (m : MF) (ms : MA) : ME := fun ρ => (ms ρ).bind fun x => (argAs x.2 x.1).bind fun as => (guardO (decide (bxIx x.2 x.1).Nodup)).bind fun _ => (m as).bind fun y =>
  (guardO (decide (as.map isBx = y.2.map isBx))).bind fun _ => some (y.1, back x.2 x.1 y.2)

theorem argAs_get {ρ : En} : ∀ {rs : List R} {as : List A}, argAs ρ rs = some as → rs.length = as.length ∧ ∀ (j : Nat) a, as[j]? = some a → ∃ r, rs[j]? = some r ∧ argA ρ r = some a
  | [], _, h => by cases h; exact ⟨rfl, fun j a e => by simp at e⟩
  | r :: rs, _, h => by
    unfold argAs at h
    obtain ⟨a, e1, h⟩ := Option.bind_eq_some_iff.mp h
    obtain ⟨as, e2, h⟩ := Option.map_eq_some_iff.mp h
    cases h
    obtain ⟨h1, h2⟩ := argAs_get e2
    refine ⟨by simp [h1], fun j x e => ?_⟩
    cases j with
    | zero => simp at e; subst e; exact ⟨r, rfl, e1⟩
    | succ j => exact h2 j x (by simpa using e)
theorem argA_box {ρ : En} {r : R} {o : Bool} {b : Bx} (h : argA ρ r = some (.box o b)) : ∃ i o', r = .ref i ∧ ρ[i]? = some (some (.box o' b)) ∧ o = false := by
  cases r with
  | dat d => cases h
  | new d => cases h
  | ref i =>
    obtain ⟨a, e1, e2⟩ := Option.map_eq_some_iff.mp (show (ρ[i]?.join).map _ = _ from h)
    have e3 : ρ[i]? = some (some a) := Option.join_eq_some_iff.mp e1
    cases a with
    | dat d => cases e2
    | box o' b' => cases e2; exact ⟨i, o', rfl, e3, rfl⟩
theorem argA_dat {ρ : En} {r : R} {d : D} (h : argA ρ r = some (.dat d)) : r = .dat d ∨ ∃ i, r = .ref i ∧ ρ[i]? = some (some (.dat d)) := by
  cases r with
  | dat d => cases h; exact .inl rfl
  | new d => cases h
  | ref i =>
    obtain ⟨a, e1, e2⟩ := Option.map_eq_some_iff.mp (show (ρ[i]?.join).map _ = _ from h)
    have e3 : ρ[i]? = some (some a) := Option.join_eq_some_iff.mp e1
    cases a with
    | dat d' => cases e2; exact .inr ⟨i, rfl, e3⟩
    | box o' b' => cases e2
theorem mem_bxIx {ρ : En} {i : Nat} {o : Bool} {b : Bx} (h : ρ[i]? = some (some (.box o b))) : ∀ {rs : List R}, R.ref i ∈ rs → i ∈ bxIx ρ rs
  | r :: rs, hm => by
    rcases List.mem_cons.mp hm with e | hm
    · subst e
      unfold bxIx
      rw [show ρ[i]?.join = some (A.box o b) by rw [h]; rfl]
      exact List.mem_cons_self
    · have ih := mem_bxIx (rs := rs) h hm
      cases r with
      | dat d => exact ih
      | new d => exact ih
      | ref j =>
        unfold bxIx
        split
        · exact List.mem_cons_of_mem _ ih
        · exact ih
theorem bxIx_inj {ρ : En} {i : Nat} {o : Bool} {b : Bx} (h : ρ[i]? = some (some (.box o b))) : ∀ {rs : List R}, (bxIx ρ rs).Nodup → ∀ {j k : Nat}, rs[j]? = some (R.ref i) → rs[k]? = some (R.ref i) → j = k
  | [], _, j, _, e, _ => by simp at e
  | r :: rs, nd, j, k, e1, e2 => by
    have nd' : (bxIx ρ rs).Nodup := by
      cases r with
      | dat d => exact nd
      | new d => exact nd
      | ref j =>
        unfold bxIx at nd
        split at nd
        · exact (List.nodup_cons.mp nd).2
        · exact nd
    have hd : r = .ref i → i ∉ bxIx ρ rs := fun e => by
      subst e
      unfold bxIx at nd
      rw [show ρ[i]?.join = some (A.box o b) by rw [h]; rfl] at nd
      exact (List.nodup_cons.mp nd).1
    cases j with
    | zero =>
      cases k with
      | zero => rfl
      | succ k =>
        simp at e1 e2
        exact absurd (mem_bxIx h (List.mem_of_getElem? e2)) (hd e1)
    | succ j =>
      cases k with
      | zero =>
        simp at e1 e2
        exact absurd (mem_bxIx h (List.mem_of_getElem? e1)) (hd e2)
      | succ k => rw [bxIx_inj h nd' (j := j) (k := k) (by simpa using e1) (by simpa using e2)]
theorem newC_some : ∀ {rs : List R} {outs : List A} {i : Nat} {b : Bx}, newC rs outs i = some b → ∃ (j : Nat) (o : Bool), rs[j]? = some (R.ref i) ∧ outs[j]? = some (A.box o b)
  | [], _, _, _, h => by simp [newC] at h
  | _ :: _, [], _, _, h => by simp [newC] at h
  | r :: rs, a :: as, i, b, h => by
    have step : newC rs as i = some b → ∃ (j : Nat) (o : Bool), (r :: rs)[j]? = some (R.ref i) ∧ (a :: as)[j]? = some (A.box o b) := fun q => by
      obtain ⟨j, o, h1, h2⟩ := newC_some q
      exact ⟨j + 1, o, by simpa using h1, by simpa using h2⟩
    cases r with
    | dat d => exact step (by simpa [newC] using h)
    | new d => exact step (by simpa [newC] using h)
    | ref j =>
      cases a with
      | dat d => exact step (by simpa [newC] using h)
      | box o b' =>
        unfold newC at h
        split at h
        · rename_i e; subst e; cases h; exact ⟨0, o, rfl, rfl⟩
        · exact step h
theorem newC_none : ∀ {rs : List R} {outs : List A} {i : Nat}, newC rs outs i = none → ∀ (j : Nat) (o : Bool) (b : Bx), rs[j]? = some (R.ref i) → outs[j]? ≠ some (A.box o b)
  | [], _, _, _, j, _, _, e => by simp at e
  | _ :: _, [], _, _, j, _, _, _ => by simp
  | r :: rs, a :: as, i, h, j, o, b, e => by
    have hn : newC rs as i = none ∧ ¬ (r = .ref i ∧ ∃ o b, a = .box o b) := by
      cases r with
      | dat d => exact ⟨by simpa [newC] using h, fun z => by cases z.1⟩
      | new d => exact ⟨by simpa [newC] using h, fun z => by cases z.1⟩
      | ref k =>
        cases a with
        | dat d => exact ⟨by simpa [newC] using h, fun z => by obtain ⟨_, _, _, z⟩ := z; cases z⟩
        | box o b' =>
          unfold newC at h
          split at h
          · cases h
          · rename_i ne; exact ⟨h, fun z => ne (by cases z.1; rfl)⟩
    cases j with
    | zero =>
      simp at e ⊢
      intro q
      exact hn.2 ⟨e, o, b, q⟩
    | succ j =>
      have := newC_none hn.1 j o b (by simpa using e)
      simpa using this
theorem back_get {ρ : En} {rs : List R} {outs : List A} {i : Nat} : (back ρ rs outs)[i]? = (ρ[i]?).map (backA (newC rs outs i)) := by
  unfold back
  rw [List.getElem?_mapIdx]
theorem isBx_at {as outs : List A} (h : as.map isBx = outs.map isBx) {j : Nat} {a : A} (e : as[j]? = some a) : ∃ b, outs[j]? = some b ∧ isBx b = isBx a := by
  have q := congrArg (·[j]?) h
  simp only [List.getElem?_map, e, Option.map_some] at q
  obtain ⟨b, h1, h2⟩ := Option.map_eq_some_iff.mp q.symm
  exact ⟨b, h1, h2⟩
theorem isBx_at' {as outs : List A} (h : as.map isBx = outs.map isBx) {j : Nat} {a : A} (e : outs[j]? = some a) : ∃ b, as[j]? = some b ∧ isBx b = isBx a := isBx_at h.symm e
theorem isBx_box {a : A} (h : isBx a = true) : ∃ o b, a = .box o b := by
  cases a with
  | dat d => cases h
  | box o b => exact ⟨o, b, rfl⟩
theorem Paired.get? {α β : Type} {F : α → β → Prop} : ∀ {l : List α} {m : List β}, Paired F l m → ∀ {i : Nat} {x : α}, l[i]? = some x → ∃ y, m[i]? = some y ∧ F x y
  | _, _, .nil, _, _, e => by simp at e
  | _, _, .cons r _, 0, _, e => by simp at e; subst e; exact ⟨_, rfl, r⟩
  | _, _, .cons _ t, i + 1, _, e => by
    obtain ⟨y, h1, h2⟩ := Paired.get? t (i := i) (by simpa using e)
    exact ⟨y, by simpa using h1, h2⟩
theorem map_some_get {α : Type} {l : List α} {i : Nat} {x : α} (h : (l.map some)[i]? = some (some x)) : l[i]? = some x := by
  rw [List.getElem?_map] at h
  obtain ⟨y, h1, h2⟩ := Option.map_eq_some_iff.mp h
  cases h2; exact h1
theorem map_some_get' {α : Type} {l : List α} {i : Nat} {x : α} (h : l[i]? = some x) : (l.map some)[i]? = some (some x) := by
  rw [List.getElem?_map, h]; rfl

section
variable {K : PySem.W.Frag} {W : Wd} {ρ : En} {σ : L2.St} {H : Hp} {rs : List R} {vs : List V} {as outs : List A}
/-- the callee's world -/
def calW (W : Wd) (ρ : En) (σ : L2.St) (H : Hp) (as : List A) (vs : List V) : Wd where
  P := fun a => Av W.P ρ σ a ∧ ¬ ∃ (j : Nat) (o : Bool) (b : Bx), as[j]? = some (.box o b) ∧ vs[j]? = some (.ref a)
  B := fun j => match as[j]?, vs[j]? with
    | some (.box _ _), some (.ref q) => some q
    | _, _ => none
  H0 := H
theorem cal_slot (f : FRels K (Av W.P ρ σ) ρ σ H rs vs) (e : argAs ρ rs = some as) {j : Nat} {o : Bool} {b : Bx} (h : as[j]? = some (.box o b)) : ∃ i o' v, rs[j]? = some (.ref i) ∧ ρ[i]? = some (some (.box o' b)) ∧ vs[j]? = some v ∧ σ[i]? = some (some v) ∧ o = false := by
  obtain ⟨r, h1, h2⟩ := (argAs_get e).2 j _ h
  obtain ⟨i, o', rfl, h3, h4⟩ := argA_box h2
  obtain ⟨v, h5, h6⟩ := Paired.get? f h1
  exact ⟨i, o', v, h1, h3, h5, h6.1, h4⟩
theorem call_in (rel : DRel K W ρ σ H) (f : FRels K (Av W.P ρ σ) ρ σ H rs vs) (e : argAs ρ rs = some as) (nd : (bxIx ρ rs).Nodup) : DRel K (calW W ρ σ H as vs) (as.map some) (vs.map some) H := by
  have hl : as.length = vs.length := by rw [← (argAs_get e).1]; exact Paired.length f
  have avs : ∀ a, Av (calW W ρ σ H as vs).P (as.map some) (vs.map some) a → Av W.P ρ σ a := fun a z => by
    rcases z with z | ⟨j, o, b, e1, e2⟩
    · exact z.1
    · obtain ⟨i, o', v, h1, h2, h3, h4, _⟩ := cal_slot f e (map_some_get e1)
      have := map_some_get e2
      rw [h3] at this; cases this
      exact .inr ⟨i, o', b, h2, h4⟩
  have ev : Evo (Av W.P ρ σ) H (Av (calW W ρ σ H as vs).P (as.map some) (vs.map some)) H := mono_av avs
  refine ⟨by simp [hl], fun j a e1 => ?_, fun j k o b o' b' q e1 e2 e3 e4 => ?_, fun q z => rel.avThere z.1, fun q z ⟨j, o, b, e1, e2⟩ => z.2 ⟨j, o, b, map_some_get e1, map_some_get e2⟩, fun _ _ h _ => h, fun _ o h => ⟨o, h⟩⟩
  · have e1 := map_some_get e1
    cases a with
    | dat d =>
      obtain ⟨r, h1, h2⟩ := (argAs_get e).2 j _ e1
      obtain ⟨v, h5, h6⟩ := Paired.get? f h1
      refine ⟨v, map_some_get' h5, ?_⟩
      rcases argA_dat h2 with rfl | ⟨i, rfl, h3⟩
      · exact Rep.evo ev _ _ h6
      · obtain ⟨v', hv', rr⟩ := rel.sl i _ h3
        rw [h6.1] at hv'; cases hv'
        exact Rep.evo ev _ _ rr
    | box o b =>
      obtain ⟨i, o', v, h1, h2, h3, h4, ho⟩ := cal_slot f e e1
      subst ho
      obtain ⟨q, hq, bo, _⟩ := rel.boxOk h2
      rw [h4] at hq; cases hq
      refine ⟨_, map_some_get' h3, q, rfl, bo.evo ev fun _ z => z, ?_⟩
      show (match as[j]?, vs[j]? with | some (A.box _ _), some (V.ref q) => some q | _, _ => none) = some q
      rw [e1, h3]
  · have e1 := map_some_get e1
    have e2 := map_some_get e2
    have e3 := map_some_get e3
    have e4 := map_some_get e4
    obtain ⟨i, o1, v, h1, h2, h3, h4, _⟩ := cal_slot f e e1
    obtain ⟨i', o1', v', h1', h2', h3', h4', _⟩ := cal_slot f e e2
    rw [e3] at h3; cases h3
    rw [e4] at h3'; cases h3'
    have := rel.dis i i' _ _ _ _ q h2 h2' h4 h4'
    subst this
    exact bxIx_inj h2 nd h1 h1'
theorem call_out {H' : Hp} {r : R} {v : V} (rel : DRel K W ρ σ H) (f : FRels K (Av W.P ρ σ) ρ σ H rs vs) (e : argAs ρ rs = some as) (nd : (bxIx ρ rs).Nodup) (hs : as.map isBx = outs.map isBx)
    (p : PostF K (calW W ρ σ H as vs) outs vs H r v H') : PostE K W ρ σ H r (back ρ rs outs) v H' := by
  have hl : as.length = vs.length := by rw [← (argAs_get e).1]; exact Paired.length f
  -- the boxes are where they were
  have bget : ∀ (i : Nat) (o : Bool) (b : Bx), (back ρ rs outs)[i]? = some (some (.box o b)) → ∃ b0, ρ[i]? = some (some (.box o b0)) ∧ b = (newC rs outs i).getD b0 := fun i o b z => by
    rw [back_get] at z
    obtain ⟨a, h1, h2⟩ := Option.map_eq_some_iff.mp z
    cases a with
    | none => cases h2
    | some a => cases a with
      | dat d => cases h2
      | box o' b' => cases h2; exact ⟨b', h1, rfl⟩
  have dget : ∀ (i : Nat) (d : D), (back ρ rs outs)[i]? = some (some (.dat d)) → ρ[i]? = some (some (.dat d)) := fun i d z => by
    rw [back_get] at z
    obtain ⟨a, h1, h2⟩ := Option.map_eq_some_iff.mp z
    cases a with
    | none => cases h2
    | some a => cases a with
      | dat d' => cases h2; exact h1
      | box o' b' => cases h2
  have sub : ∀ q, BoxAt (back ρ rs outs) σ q → BoxAt ρ σ q := fun q ⟨i, o, b, e1, e2⟩ => by
    obtain ⟨b0, h1, _⟩ := bget i o b e1
    exact ⟨i, o, b0, h1, e2⟩
  -- what is handed over, by address
  have pbBox : ∀ a, (calW W ρ σ H as vs).PB a → BoxAt ρ σ a := fun a ⟨j, z⟩ => by
    have z' : (match as[j]?, vs[j]? with | some (A.box _ _), some (V.ref q) => some q | _, _ => none) = some a := z
    split at z'
    · rename_i o b q h1 h2
      cases z'
      obtain ⟨i, o', v, h3, h4, h5, h6, _⟩ := cal_slot f e h1
      rw [h2] at h5; cases h5
      exact ⟨i, o', b, h4, h6⟩
    · cases z'
  have exf : ∀ a, exR r v a → H a = none ∧ ∃ o, H' a = some o := fun a z => by
    have y := p.res
    cases r with
    | dat d => exact z.elim
    | new b => obtain ⟨q, h1, h2, h3⟩ := y; cases h1; cases z; exact ⟨h2, h3.there⟩
    | ref i => exact z.elim
  have avs : ∀ a, Av W.P (back ρ rs outs) σ a → Av (calW W ρ σ H as vs).P (outs.map some) (vs.map some) a := fun a z => by
    have z0 : Av W.P ρ σ a := z.imp id (sub a)
    by_cases hp : ∃ (j : Nat) (o : Bool) (b : Bx), as[j]? = some (.box o b) ∧ vs[j]? = some (.ref a)
    · obtain ⟨j, o, b, h1, h2⟩ := hp
      obtain ⟨c, h3, h4⟩ := isBx_at hs h1
      obtain ⟨o', b', rfl⟩ := isBx_box h4
      exact .inr ⟨j, o', b', map_some_get' h3, map_some_get' h2⟩
    · exact .inl ⟨z0, hp⟩
  have keep : ∀ a o, H a = some o → ¬ Av W.P ρ σ a → H' a = some o := fun a o h n => p.rel.keep a o h fun z => n (.inr (pbBox a z))
  have avs2 : ∀ a, Av (W.pl (exR r v)).P (back ρ rs outs) σ a → Av ((calW W ρ σ H as vs).pl (exR r v)).P (outs.map some) (vs.map some) a := fun a z => by
    rcases z with (z | z) | z
    · exact (avs a (.inl z)).imp .inl id
    · exact .inl (.inr z)
    · exact (avs a (.inr z)).imp .inl id
  have ev : Evo (Av W.P ρ σ) H (Av (W.pl (exR r v)).P (back ρ rs outs) σ) H' := ⟨keep, fun a z => by
    rcases z with (z | z) | z
    · exact .inl (.inl z)
    · exact .inr (exf a z).1
    · exact .inl (.inr (sub a z))⟩
  have ev2 : Evo (Av ((calW W ρ σ H as vs).pl (exR r v)).P (outs.map some) (vs.map some)) H' (Av (W.pl (exR r v)).P (back ρ rs outs) σ) H' := mono_av avs2
  have lenb : (back ρ rs outs).length = ρ.length := by unfold back; simp
  -- a box that is not handed over
  have stays : ∀ {i : Nat} {o : Bool} {b0 : Bx} {q : Addr}, ρ[i]? = some (some (.box o b0)) → σ[i]? = some (some (.ref q)) → newC rs outs i = none → ∀ o', H q = some o' → H' q = some o' := fun {i o b0 q} h1 h2 h3 o' h4 => by
    refine p.rel.keep q o' h4 fun z => ?_
    obtain ⟨j, z⟩ := z
    have z' : (match as[j]?, vs[j]? with | some (A.box _ _), some (V.ref q) => some q | _, _ => none) = some q := z
    split at z'
    · rename_i ow b1 q1 h5 h6
      cases z'
      obtain ⟨i', o1, v, h7, h8, h9, h10, _⟩ := cal_slot f e h5
      rw [h6] at h9; cases h9
      have : i' = i := rel.dis i' i _ _ _ _ q h8 h1 h10 h2
      subst this
      obtain ⟨c, h11, h12⟩ := isBx_at hs h5
      obtain ⟨o2, b2, rfl⟩ := isBx_box h12
      exact newC_none h3 j o2 b2 h7 h11
    · cases z'
  have content : ∀ {i : Nat} {o : Bool} {b0 : Bx} {q : Addr}, ρ[i]? = some (some (.box o b0)) → σ[i]? = some (some (.ref q)) → BoxOk K (Av W.P ρ σ) H q b0 → BoxOk K (Av (W.pl (exR r v)).P (back ρ rs outs) σ) H' q ((newC rs outs i).getD b0) := fun {i o b0 q} h1 h2 bo => by
    cases hc : newC rs outs i with
    | none => exact bo.evo ev (stays h1 h2 hc)
    | some b =>
      obtain ⟨j, o', h3, h4⟩ := newC_some hc
      obtain ⟨vj, h5, h6⟩ := p.rel.sl j _ (map_some_get' h4)
      have h5 := map_some_get h5
      obtain ⟨v2, h7, h8⟩ := Paired.get? f h3
      rw [h5] at h7; cases h7
      have h9 : σ[i]? = some (some vj) := h8.1
      rw [h2] at h9; cases h9
      cases o' with
      | true => obtain ⟨q', h10, h11, _⟩ := h6; cases h10; exact h11.evo ev2 fun _ z => z
      | false => obtain ⟨q', h10, h11, _⟩ := h6; cases h10; exact h11.evo ev2 fun _ z => z
  have x : DRel K (W.pl (exR r v)) (back ρ rs outs) σ H' := by
    refine ⟨by rw [lenb]; exact rel.len, fun i a e1 => ?_, fun i j o b o' b' q e1 e2 => ?_, fun q z => ?_, fun q z y => ?_, fun a o h n => ?_, fun a o h => ?_⟩
    · cases a with
      | dat d =>
        obtain ⟨v, hv, r⟩ := rel.sl i _ (dget i d e1)
        exact ⟨v, hv, Rep.evo ev _ _ r⟩
      | box o b =>
        obtain ⟨b0, h1, rfl⟩ := bget i o b e1
        obtain ⟨q, hq, bo, _, z1, z2⟩ := rel.boxOk h1
        refine ⟨_, hq, ?_⟩
        cases o with
        | true => exact ⟨q, rfl, content h1 hq bo, z1 rfl⟩
        | false => exact ⟨q, rfl, content h1 hq bo, z2 rfl⟩
    · obtain ⟨b0, h1, _⟩ := bget i o b e1
      obtain ⟨b1, h2, _⟩ := bget j o' b' e2
      exact rel.dis i j _ _ _ _ q h1 h2
    · rcases z with z | z
      · obtain ⟨o, h⟩ := rel.prot q z
        exact p.rel.there q o h
      · exact (exf q z).2
    · rcases z with z | z
      · exact rel.pdis q z (sub q y)
      · obtain ⟨o, h⟩ := rel.boxThere (sub q y)
        rw [(exf q z).1] at h; cases h
    · refine p.rel.keep a o (rel.keep a o h n) fun z => ?_
      rcases rel.pb (pbBox a z) with z | z
      · have h' : W.H0 a = some o := h
        rw [z] at h'; cases h'
      · exact n z
    · obtain ⟨o', h'⟩ := rel.there a o h
      exact p.rel.there a o' h'
  refine ⟨⟨⟨x.unpl, fun a o h n => p.rel.keep a o h fun z => n (pbBox a z), fun a o h => p.rel.there a o h, fun q z => .inl (sub q z)⟩, fun i a h => ?_, sub⟩, ?_, x⟩
  · rw [back_get, h]
    cases a with
    | dat d => exact ⟨_, rfl⟩
    | box o b => exact ⟨_, rfl⟩
  have z := p.res
  cases r with
  | dat d => exact Rep.evo (mono_av avs) _ _ z
  | new b =>
    obtain ⟨q, h1, h2, h3⟩ := z
    exact ⟨q, h1, h2, h3.evo (mono_av fun a z => z.imp (avs a) id) fun _ z => z⟩
  | ref i => exact z.elim
end
theorem calPB {W : Wd} {ρ : En} {σ : L2.St} {H : Hp} {as : List A} {vs : List V} {a : Addr} (h : (calW W ρ σ H as vs).PB a) : BoxAt (as.map some) (vs.map some) a := by
  obtain ⟨j, z⟩ := h
  have z' : (match as[j]?, vs[j]? with | some (A.box _ _), some (V.ref q) => some q | _, _ => none) = some a := z
  split at z'
  · rename_i o b q h1 h2
    cases z'
    exact ⟨j, o, b, map_some_get' h1, map_some_get' h2⟩
  · cases z'
theorem de_call {G : GC} {S : SC} {f : Addr} {fd : FuncData} {ps : List Str} {m : MF} {x : Str} {p pos : Pos} {e : Expr} {es : List Expr} {ms : MA} {k : Nat} (F : FnG G k f fd ps (spM G.K ps.length m)) (hk : k ≤ S.k)
    (hg : S.sc.names.lookup x = some .globalImplicit) (hm : G.mg x = some (.ref f)) (hkp : PySem.W.keepIn G.K (.ref f) = true) (hb : Binds G.K fd ps [])
    (ha : DA G S (e :: es) ms) (hdb : (x == ("__debug__" : Str)) = false) (he : ∀ env : PySem.Env, starEach (e :: es) env = (false, eval e env) :: starEach es env) (hpl : ∀ env : PySem.Env, (backTo pos (starEach es env)).any (·.1) = false)
    (hn : (e :: es).length = ps.length) (hms : ∀ ρ x, ms ρ = some x → x.1.length = (e :: es).length) :
    DE G S (.Call (.Name x p) (e :: es) [] pos) (mcall m ms) := by
  intro X c
  have eG : (⟨X.prog, X.w, X.K, X.mg, X.base⟩ : GC) = G := by
    obtain ⟨gp, gw, gK, gmg, gb⟩ := G
    have h1 := c.prog; have h2 := c.w; have h3 := c.K; have h4 := c.mg; have h5 := c.base
    simp only at h1 h2 h3 h4 h5
    rw [h1, h2, h3, h4, h5]
  refine PE.weak (pe_callG (sp := spM G.K ps.length m) (by rw [eG]; exact F.mono hk) c.room c.gd (by show X.env.scope.names.lookup x = _; rw [c.sc]; exact hg) (by rw [c.mg]; exact hm) (by rw [c.K]; exact hkp) (by rw [c.K]; exact hb) (ha X c) hdb (he _) (hpl _)) ?_
  rintro σ H Q ⟨W, ρ, r, ρ', rel, em, q⟩
  unfold mcall at em
  obtain ⟨⟨rs, ρ1⟩, e1, em⟩ := Option.bind_eq_some_iff.mp em
  obtain ⟨as, e2, em⟩ := Option.bind_eq_some_iff.mp em
  obtain ⟨u, e3, em⟩ := Option.bind_eq_some_iff.mp em
  obtain ⟨⟨r1, outs⟩, e4, em⟩ := Option.bind_eq_some_iff.mp em
  obtain ⟨u2, e5, em⟩ := Option.bind_eq_some_iff.mp em
  cases em
  refine ⟨W, ρ, rs, ρ1, rel, e1, fun vs H1 p1 f1 => ?_⟩
  have hs := guardO_dec e5
  refine ⟨calW W ρ1 σ H1 as vs, as, r1, outs, ?_, call_in p1.rel f1 e2 (guardO_dec e3), rfl, fun i b z => ?_, fun a z => calPB z, e4, hs, fun v H' pf => q v H' (PostE.over p1 (call_out p1.rel f1 e2 (guardO_dec e3) hs pf))⟩
  · rw [← (argAs_get e2).1, hms _ _ e1, hn]
  · obtain ⟨_, _, _, _, _, _, _, z⟩ := cal_slot f1 e2 z
    cases z
theorem mcons_len {ma : ME} {ms : MA} {n : Nat} (h : ∀ ρ x, ms ρ = some x → x.1.length = n) : ∀ ρ x, mcons ma ms ρ = some x → x.1.length = n + 1 := fun ρ x e => by
  unfold mcons at e
  obtain ⟨a, e1, e⟩ := Option.bind_eq_some_iff.mp e
  obtain ⟨b, e2, e⟩ := Option.bind_eq_some_iff.mp e
  cases e
  show b.1.length + 1 = n + 1
  rw [h _ _ e2]
theorem mnil_len : ∀ (ρ : En) x, mnil ρ = some x → x.1.length = 0 := fun ρ x e => by cases e; rfl
end L3

namespace L3
open PySem PySem.Spec PyProof.Rows L2

inductive O where
  | nx | bk | ct
  | rt (r : R)
abbrev MS := En → Option (O × En)
def BorAt (ρ : En) (σ : L2.St) (q : Addr) : Prop := ∃ (i : Nat) (b : Bx), ρ[i]? = some (some (A.box false b)) ∧ σ[i]? = some (some (V.ref q))
theorem BorAt.box {ρ : En} {σ : L2.St} {q : Addr} (h : BorAt ρ σ q) : BoxAt ρ σ q := let ⟨i, b, h1, h2⟩ := h; ⟨i, false, b, h1, h2⟩
/-- a value handed back -/
def RtRel (K : PySem.W.Frag) (W : Wd) (ρ' : En) (σ' : L2.St) (H' : Hp) : R → V → Prop
  | .dat d, v => Rep K (Av W.P ρ' σ') H' v d
  | .new b, v => ∃ q, v = .ref q ∧ W.H0 q = none ∧ BoxOk K (fun a => (W.P a ∨ BorAt ρ' σ' a) ∨ a = q) H' q b ∧ ¬ W.P q ∧
      (∀ (i : Nat) (b' : Bx), ρ'[i]? = some (some (.box false b')) → ∃ q', σ'[i]? = some (some (.ref q')) ∧ q' ≠ q ∧ BoxOk K (fun a => (W.P a ∨ BorAt ρ' σ' a) ∨ a = q) H' q' b')
  | .ref _, _ => False
def rdS (K : PySem.W.Frag) (m : MS) : TS := fun D σ H => ∃ W ρ o ρ', DRel K W ρ σ H ∧ m ρ = some (o, ρ') ∧ match o with
  | .nx => ∀ σ' H', PostC K W ρ σ H ρ' σ' H' → D.nx σ' H'
  | .bk => ∀ σ' H', PostC K W ρ σ H ρ' σ' H' → D.bk σ' H'
  | .ct => ∀ σ' H', PostC K W ρ σ H ρ' σ' H' → D.ct σ' H'
  | .rt r => ∀ v σ' H', PostC K W ρ σ H ρ' σ' H' → RtRel K W ρ' σ' H' r v → D.rt v H'
theorem PS.weak {X : Cx} {st : Stmt} {t t' : TS} (h : PS X st t) (w : ∀ D σ H, t' D σ H → t D σ H) : PS X st t' := ⟨fun p s σ H D I q => h.run p s σ H D I (w _ _ _ q)⟩
theorem PSs.weak {X : Cx} {st : List Stmt} {t t' : TS} (h : PSs X st t) (w : ∀ D σ H, t' D σ H → t D σ H) : PSs X st t' := ⟨fun p s σ H D I q => h.run p s σ H D I (w _ _ _ q)⟩
section
variable (G : GC) (S : SC)
def DS (st : Stmt) (m : MS) : Prop := ∀ X, CxOk G S X → PS X st (rdS G.K m)
def DSs (st : List Stmt) (m : MS) : Prop := ∀ X, CxOk G S X → PSs X st (rdS G.K m)
end
/-! a slot is set -/
def notBor (ρ : En) (i : Nat) : Bool := decide (i < ρ.length) && (match ρ[i]?.join with
  | some (.box false _) => false
  | _ => true)
/-- store a result -/
def stoR (ρ : En) (i : Nat) : R → Option En
  | .dat d => some (ρ.set i (some (.dat d)))
  | .new b => some (ρ.set i (some (.box true b)))
  | .ref j => (fzs ρ [.ref j]).bind fun x => match x.1 with
    | [d] => some (x.2.set i (some (.dat d)))
    | _ => none
def masg (i : Nat) (m : ME) : MS := fun ρ => (m ρ).bind fun x => (guardO (notBor x.2 i)).bind fun _ => (stoR x.2 i x.1).map fun ρ' => (.nx, ρ')
def mdrop (m : ME) : MS := fun ρ => (m ρ).bind fun x => some (.nx, x.2)
def mpass : MS := fun ρ => some (.nx, ρ)
def mret (m : ME) : MS := fun ρ => (m ρ).bind fun x => match x.1 with
  | .dat d => some (.rt (.dat d), x.2)
  | .new b => some (.rt (.new b), x.2)
  | .ref i => match x.2[i]?.join with
    | some (.dat d) => some (.rt (.dat d), x.2)
    | some (.box true b) => some (.rt (.new b), x.2)
    | _ => none
def mseq (a b : MS) : MS := fun ρ => (a ρ).bind fun x => match x.1 with
  | .nx => b x.2
  | o => some (o, x.2)
def mifS (c : MT) (a b : MS) : MS := fun ρ => (c ρ).bind fun x => if x.1 = true then a x.2 else b x.2
section
variable {K : PySem.W.Frag} {W : Wd} {ρ ρ' : En} {σ σ' : L2.St} {H H' : Hp}
theorem notBor_lt {i : Nat} (h : notBor ρ i = true) : i < ρ.length := by
  unfold notBor at h
  rw [Bool.and_eq_true] at h
  exact of_decide_eq_true h.1
theorem notBor_not {i : Nat} (h : notBor ρ i = true) (b : Bx) : ρ[i]? ≠ some (some (.box false b)) := fun e => by
  unfold notBor at h
  rw [Bool.and_eq_true] at h
  have h2 := h.2
  rw [show ρ[i]?.join = some (A.box false b) by rw [e]; rfl] at h2
  cases h2
theorem setσ_ne {i j : Nat} {v : V} (h : j ≠ i) : (σ.set i (some v))[j]? = σ[j]? := List.getElem?_set_ne (Ne.symm h)
/-- .. data -/
theorem DRel.setDat (h : DRel K W ρ σ H) {i : Nat} {v : V} {d : D} (hi : i < ρ.length) (r : Rep K (Av W.P ρ σ) H v d) : PostC K W ρ σ H (ρ.set i (some (.dat d))) (σ.set i (some v)) H := by
  have hs : i < σ.length := by rw [← h.len]; exact hi
  have sub : ∀ a, BoxAt (ρ.set i (some (.dat d))) (σ.set i (some v)) a → BoxAt ρ σ a := fun a ⟨j, o, b, e1, e2⟩ => by
    rcases set_get e1 with ⟨_, z⟩ | ⟨n, z⟩
    · cases z
    · rw [setσ_ne n] at e2; exact ⟨j, o, b, z, e2⟩
  have ev : Evo (Av W.P ρ σ) H (Av W.P (ρ.set i (some (.dat d))) (σ.set i (some v))) H := mono_av fun a z => z.imp id (sub a)
  refine ⟨⟨by simpa using h.len, fun j a e1 => ?_, fun j k o b o' b' q e1 e2 e3 e4 => ?_, h.prot, fun q z y => h.pdis q z (sub q y), h.keep, h.there⟩, fun _ _ e _ => e, fun _ o e => ⟨o, e⟩, fun q z => .inl (sub q z)⟩
  · rcases set_get e1 with ⟨rfl, rfl⟩ | ⟨n, z⟩
    · exact ⟨v, List.getElem?_set_self hs, Rep.evo ev _ _ r⟩
    · obtain ⟨v', hv, rr⟩ := h.sl j a z
      exact ⟨v', by rw [setσ_ne n]; exact hv, rr.evo ev fun _ _ _ _ z => z⟩
  · rcases set_get e1 with ⟨_, z⟩ | ⟨n, z⟩
    · cases z
    · rcases set_get e2 with ⟨_, z2⟩ | ⟨n2, z2⟩
      · cases z2
      · rw [setσ_ne n] at e3; rw [setσ_ne n2] at e4
        exact h.dis j k _ _ _ _ q z z2 e3 e4
/-- .. a new box -/
theorem DRel.setNew {q : Addr} {b : Bx} (h : DRel K (W.pl fun a => V.ref q = V.ref a) ρ σ H) {i : Nat} (hi : i < ρ.length) (bo : BoxOk K (fun a => Av W.P ρ σ a ∨ a = q) H q b) (h0 : W.H0 q = none) (hnP : ¬ W.P q) :
    DRel K W (ρ.set i (some (.box true b))) (σ.set i (some (.ref q))) H ∧ ∀ a, BoxAt (ρ.set i (some (.box true b))) (σ.set i (some (.ref q))) a → BoxAt ρ σ a ∨ a = q := by
  have hs : i < σ.length := by rw [← h.len]; exact hi
  have hq : (W.pl fun a => V.ref q = V.ref a).P q := .inr rfl
  have sub : ∀ a, BoxAt (ρ.set i (some (.box true b))) (σ.set i (some (.ref q))) a → BoxAt ρ σ a ∨ a = q := fun a ⟨j, o, b', e1, e2⟩ => by
    rcases set_get e1 with ⟨rfl, z⟩ | ⟨n, z⟩
    · rw [List.getElem?_set_self hs] at e2; cases e2; exact .inr rfl
    · rw [setσ_ne n] at e2; exact .inl ⟨j, o, b', z, e2⟩
  have ev : Evo (Av (W.pl fun a => V.ref q = V.ref a).P ρ σ) H (Av W.P (ρ.set i (some (.box true b))) (σ.set i (some (.ref q)))) H := mono_av fun a z => by
    rcases z with z | z
    · exact .inl (.inl z)
    · rcases sub a z with z | z
      · exact .inr z
      · exact .inl (.inr (by rw [z]))
  have ev2 : Evo (fun a => Av W.P ρ σ a ∨ a = q) H (Av W.P (ρ.set i (some (.box true b))) (σ.set i (some (.ref q)))) H := mono_av fun a z => by
    rcases z with z | z
    · exact .inl (.inl z)
    · exact (sub a z).imp .inr id
  refine ⟨⟨by simpa using h.len, fun j a e1 => ?_, fun j k o b1 o' b' q' e1 e2 e3 e4 => ?_, fun a z => h.prot a (.inl z), fun a z y => ?_, h.keep, h.there⟩, sub⟩
  · rcases set_get e1 with ⟨rfl, rfl⟩ | ⟨n, z⟩
    · exact ⟨_, List.getElem?_set_self hs, q, rfl, bo.evo ev2 fun _ z => z, h0⟩
    · obtain ⟨v', hv, rr⟩ := h.sl j a z
      refine ⟨v', by rw [setσ_ne n]; exact hv, ?_⟩
      have r' := rr.evo ev fun _ _ _ _ z => z
      cases a with
      | dat d => exact r'
      | box o b => cases o <;> exact r'
  · rcases set_get e1 with ⟨rfl, z⟩ | ⟨n, z⟩
    · rcases set_get e2 with ⟨rfl, z2⟩ | ⟨n2, z2⟩
      · rfl
      · rw [List.getElem?_set_self hs] at e3; cases e3
        rw [setσ_ne n2] at e4
        exact (h.pdis q hq ⟨k, _, _, z2, e4⟩).elim
    · rcases set_get e2 with ⟨rfl, z2⟩ | ⟨n2, z2⟩
      · rw [List.getElem?_set_self hs] at e4; cases e4
        rw [setσ_ne n] at e3
        exact (h.pdis q hq ⟨j, _, _, z, e3⟩).elim
      · rw [setσ_ne n] at e3; rw [setσ_ne n2] at e4
        exact h.dis j k _ _ _ _ q' z z2 e3 e4
  · rcases sub a y with y | y
    · exact h.pdis a (.inl z) y
    · subst y
      exact hnP z
/-- a result is stored -/
theorem sto_ok {r : R} {ρ1 ρ2 : En} {H1 : Hp} {v : V} {i : Nat} (rel : DRel K W ρ σ H) (p : PostE K W ρ σ H r ρ1 v H1) (nb : notBor ρ1 i = true) (e : stoR ρ1 i r = some ρ2) : PostC K W ρ σ H ρ2 (σ.set i (some v)) H1 := by
  have hi := notBor_lt nb
  cases r with
  | dat d =>
    cases e
    exact p.toPostC.trans (p.rel.setDat hi p.res)
  | new b =>
    cases e
    obtain ⟨q, rfl, hq, bo⟩ := p.res
    have h0 : W.H0 q = none := by
      cases z : W.H0 q with
      | none => rfl
      | some o => obtain ⟨o', z'⟩ := rel.there q o z; rw [hq] at z'; cases z'
    have hnP : ¬ W.P q := fun z => by obtain ⟨o, z'⟩ := rel.prot q z; rw [hq] at z'; cases z'
    obtain ⟨h1, h2⟩ := DRel.setNew (W := W) (q := q) (b := b) p.relE hi bo h0 hnP
    refine ⟨h1, p.ext, p.thr, fun a z => ?_⟩
    rcases h2 a z with z | z
    · exact p.new a z
    · exact .inr (by rw [z]; exact hq)
  | ref j =>
    unfold stoR at e
    obtain ⟨⟨ds, ρ3⟩, e1, e2⟩ := Option.bind_eq_some_iff.mp e
    obtain ⟨hv, a, ha⟩ := p.res
    have f : FRels K (Av W.P ρ1 σ) ρ1 σ H1 [R.ref j] [v] := .cons ⟨hv, a, ha⟩ .nil
    obtain ⟨p2, rl⟩ := fzs_ok p.rel f e1
    cases rl with
    | cons r0 t =>
      cases t
      cases e2
      have hi3 : i < ρ3.length := by rw [p2.rel.len, ← p.rel.len]; exact hi
      exact p.toPostC.trans (p2.toPostC.trans (p2.rel.setDat hi3 r0))
end
section
variable {G : GC} {S : SC} {st : Stmt} {sts rest : List Stmt} {e : Expr} {pos pos' : Pos} {m ma mb : ME} {mt : MT} {mx my : MS}
/-- the name may be stored -/
def StoOk (S : SC) (i : Nat) (x : Str) : Prop := S.N[i]? = some x ∧ Loc S.sc x ∧ (S.fn x = true ∨ S.sc.names.lookup x = some .local)
theorem ds_asg {i : Nat} {x : Str} (h : StoOk S i x) (he : DE G S e m) (hs : ∀ env : PySem.Env, swapsWith e (some (.Name x pos')) pos.line env = pure false) : DS G S (.Assign [.Name x pos'] e pos) (masg i m) := by
  intro X c
  refine PS.weak (ps_set (i := i) c.nd (by rw [c.N]; exact h.1) (by rw [c.sc]; exact h.2.1) (he X c) (hs _) (by rw [c.sc, c.fn]; exact h.2.2)) ?_
  rintro D σ H ⟨W, ρ, o, ρ', rel, em, q⟩
  unfold masg at em
  obtain ⟨⟨r, ρ1⟩, e1, em⟩ := Option.bind_eq_some_iff.mp em
  obtain ⟨u, e2, em⟩ := Option.bind_eq_some_iff.mp em
  obtain ⟨ρ2, e3, em⟩ := Option.map_eq_some_iff.mp em
  cases em
  exact ⟨W, ρ, r, ρ1, rel, e1, fun v H1 p1 => q _ H1 (sto_ok rel p1 (guardO_some e2) e3)⟩
theorem ds_expr (he : DE G S e m) (hs : ∀ env : PySem.Env, swapsWith e none pos.line env = pure false) : DS G S (.Expr e pos) (mdrop m) := by
  intro X c
  refine PS.weak (ps_expr (he X c) (hs _)) ?_
  rintro D σ H ⟨W, ρ, o, ρ', rel, em, q⟩
  unfold mdrop at em
  obtain ⟨⟨r, ρ1⟩, e1, em⟩ := Option.bind_eq_some_iff.mp em
  cases em
  exact ⟨W, ρ, r, ρ1, rel, e1, fun v H1 p1 => q _ H1 p1.toPostC⟩
theorem ds_pass : DS G S (.Pass pos) mpass := fun X c => PS.weak ps_pass fun D σ H ⟨W, ρ, o, ρ', rel, em, q⟩ => by
  cases em
  exact q σ H (PostC.refl rel)
theorem ds_break : DS G S (.Break pos) (fun ρ => some (.bk, ρ)) := fun X c => PS.weak ps_break fun D σ H ⟨W, ρ, o, ρ', rel, em, q⟩ => by
  cases em
  exact q σ H (PostC.refl rel)
theorem ds_continue : DS G S (.Continue pos) (fun ρ => some (.ct, ρ)) := fun X c => PS.weak ps_continue fun D σ H ⟨W, ρ, o, ρ', rel, em, q⟩ => by
  cases em
  exact q σ H (PostC.refl rel)
theorem ds_ret (he : DE G S e m) : DS G S (.Return (some e) pos) (mret m) := by
  intro X c
  refine PS.weak (ps_ret (he X c)) ?_
  rintro D σ H ⟨W, ρ, o, ρ', rel, em, q⟩
  unfold mret at em
  obtain ⟨⟨r, ρ1⟩, e1, em⟩ := Option.bind_eq_some_iff.mp em
  refine ⟨W, ρ, r, ρ1, rel, e1, fun v H1 p1 => ?_⟩
  cases r with
  | dat d => cases em; exact q v σ H1 p1.toPostC p1.res
  | new b =>
    cases em
    refine q v σ H1 p1.toPostC ?_
    obtain ⟨a, rfl, hq, bo⟩ := p1.res
    have h0 : W.H0 a = none := by
      cases z : W.H0 a with
      | none => rfl
      | some o => obtain ⟨o', z'⟩ := rel.there a o z; rw [hq] at z'; cases z'
    have hnP : ¬ W.P a := fun z => by obtain ⟨o, z'⟩ := rel.prot a z; rw [hq] at z'; cases z'
    refine ⟨a, rfl, h0, bo.evo (mono_av fun c z => ?_) fun _ z => z, hnP, fun i b' e2 => ?_⟩
    · rcases z with (z | z) | z
      · exact .inl (.inl z)
      · exact .inl (.inr z.box)
      · exact .inr z
    · obtain ⟨q', h1, h2, h3, _⟩ := p1.relE.boxOk e2
      refine ⟨q', h1, fun z => ?_, h2.evo (mono_av fun c z => ?_) fun _ z => z⟩
      · subst z
        exact p1.relE.pdis _ (.inr rfl) h3
      · rcases z with (z | z) | z
        · exact .inl (.inl z)
        · exact .inr z.box
        · exact .inl (.inr (by rw [z]; rfl))
  | ref i =>
    obtain ⟨hv, a0, ha0⟩ := p1.res
    have em' : (match ρ1[i]?.join with
      | some (.dat d) => some (O.rt (.dat d), ρ1)
      | some (.box true b) => some (O.rt (.new b), ρ1)
      | _ => none) = some (o, ρ') := em
    split at em'
    · rename_i d e2
      cases em'
      refine q v σ H1 p1.toPostC ?_
      obtain ⟨v', hv', rr⟩ := p1.rel.sl i _ (Option.join_eq_some_iff.mp e2)
      rw [hv] at hv'; cases hv'
      exact rr
    · rename_i b e2
      cases em'
      refine q v σ H1 p1.toPostC ?_
      obtain ⟨a, h1, h2, h3, h4, _⟩ := p1.rel.boxOk (Option.join_eq_some_iff.mp e2)
      rw [hv] at h1; cases h1
      refine ⟨a, rfl, h4 rfl, h2.evo (mono_av fun c z => ?_) fun _ z => z, fun z => p1.rel.pdis _ z h3, fun j b' e3 => ?_⟩
      · rcases z with (z | z) | z
        · exact .inl z
        · exact .inr z.box
        · rw [z]; exact .inr h3
      · obtain ⟨q', g1, g2, g3, _⟩ := p1.rel.boxOk e3
        refine ⟨q', g1, fun z => ?_, g2.evo (mono_av fun c z => ?_) fun _ z => z⟩
        · subst z
          have := p1.rel.dis j i _ _ _ _ _ e3 (Option.join_eq_some_iff.mp e2) g1 hv
          subst this
          rw [Option.join_eq_some_iff.mp e2] at e3; cases e3
        · rcases z with (z | z) | z
          · exact .inl z
          · exact .inr z.box
          · rw [z]; exact .inr h3
    · cases em'
theorem ds_retN : DS G S (.Return none pos) (mret (mcon .none)) := fun X c => PS.weak ps_retN fun D σ H ⟨W, ρ, o, ρ', rel, em, q⟩ => by
  cases em
  exact q .non σ H (PostC.refl rel) .non
theorem dss_nil : DSs G S [] mpass := fun X c => PSs.weak pss_nil fun D σ H ⟨W, ρ, o, ρ', rel, em, q⟩ => by
  cases em
  exact q σ H (PostC.refl rel)
theorem RtRel.over {K : PySem.W.Frag} {W : Wd} {ρ : En} {σ : L2.St} {H : Hp} {r : R} {v : V} (h : RtRel K W ρ σ H r v) : RtRel K W ρ σ H r v := h
theorem rdseq {K : PySem.W.Frag} {D : Ends} {σ : L2.St} {H : Hp} (h : rdS K (mseq mx my) D σ H) : rdS K mx { D with nx := fun σ H => rdS K my D σ H } σ H := by
  obtain ⟨W, ρ, o, ρ', rel, em, q⟩ := h
  unfold mseq at em
  obtain ⟨⟨o1, ρ1⟩, e1, em⟩ := Option.bind_eq_some_iff.mp em
  refine ⟨W, ρ, o1, ρ1, rel, e1, ?_⟩
  cases o1 with
  | nx =>
    intro σ1 H1 p1
    refine ⟨W, ρ1, o, ρ', p1.rel, em, ?_⟩
    cases o with
    | nx => exact fun σ2 H2 p2 => q σ2 H2 (p1.trans p2)
    | bk => exact fun σ2 H2 p2 => q σ2 H2 (p1.trans p2)
    | ct => exact fun σ2 H2 p2 => q σ2 H2 (p1.trans p2)
    | rt r => exact fun v σ2 H2 p2 r2 => q v σ2 H2 (p1.trans p2) r2
  | bk => cases em; exact q
  | ct => cases em; exact q
  | rt r => cases em; exact q
theorem dss_cons (h1 : DS G S st mx) (h2 : DSs G S rest my) : DSs G S (st :: rest) (mseq mx my) := fun X c => PSs.weak (pss_cons (h1 X c) (h2 X c)) fun D σ H q => rdseq q
theorem dss_one (h1 : DS G S st mx) : DSs G S [st] mx := fun X c => pss_one (h1 X c)
theorem ds_if {c : Expr} {a b : List Stmt} (hc : DT G S c mt) (ha : DSs G S a mx) (hb : DSs G S b my) : DS G S (.If c a b pos) (mifS mt mx my) := fun X cx => PS.weak (ps_if (hc X cx) (ha X cx) (hb X cx)) fun D σ H ⟨W, ρ, o, ρ', rel, em, q⟩ => by
  unfold mifS at em
  obtain ⟨⟨b, ρ1⟩, e1, em⟩ := Option.bind_eq_some_iff.mp em
  refine ⟨W, ρ, b, ρ1, rel, e1, fun H1 p1 => ?_⟩
  have fin : ∀ m : MS, m ρ1 = some (o, ρ') → rdS G.K m D σ H1 := fun m em => by
    refine ⟨W, ρ1, o, ρ', p1.rel, em, ?_⟩
    cases o with
    | nx => exact fun σ2 H2 p2 => q σ2 H2 (p1.toPostC.trans p2)
    | bk => exact fun σ2 H2 p2 => q σ2 H2 (p1.toPostC.trans p2)
    | ct => exact fun σ2 H2 p2 => q σ2 H2 (p1.toPostC.trans p2)
    | rt r => exact fun v σ2 H2 p2 r2 => q v σ2 H2 (p1.toPostC.trans p2) r2
  cases b with
  | true => rw [if_pos rfl] at em; exact iteT (fin _ em)
  | false => rw [if_neg Bool.false_ne_true] at em; exact iteF (fin _ em)
end
end L3

namespace L3
open PySem PySem.Spec PyProof.Rows L2

/-! what is walked -/
inductive It3 where
  | items (ds : List D)
  | slot (i : Nat) (ds : List D)
abbrev MI := En → Option (It3 × En)
def ItOk (K : PySem.W.Frag) (W : Wd) (ρ : En) (σ : L2.St) (H : Hp) (J : It) : It3 → Prop
  | .items ds => ∀ N1 H1, Evo (Av W.P ρ σ) H N1 H1 → Trk N1 H1 → (∀ (n : Nat) d, ds[n]? = some d → J.go n H1 ∧ ∀ x H2, J.yld n H1 x H2 → (∀ a o, H1 a = some o → H2 a = some o) ∧ Rep K N1 H2 x d) ∧ ∀ n, ds.length ≤ n → J.stop n H1
  | .slot i _ => ∃ q o b, σ[i]? = some (some (.ref q)) ∧ ρ[i]? = some (some (.box o b)) ∧ J = Itl K q ∧ (o = false → W.B i = some q)
def rdI (K : PySem.W.Frag) (m : MI) : TI := fun σ H R => ∃ W ρ it ρ', DRel K W ρ σ H ∧ m ρ = some (it, ρ') ∧ ∀ J H', PostX K W ρ σ H ρ' H' → ItOk K W ρ' σ H' J it → R J H'
def DI (G : GC) (S : SC) (tg iter : Expr) (m : MI) : Prop := ∀ X, CxOk G S X → PI X tg iter (rdI G.K m)
theorem PI.weak {X : Cx} {tg e : Expr} {t t' : TI} (h : PI X tg e t) (w : ∀ σ H R, t' σ H R → t σ H R) : PI X tg e t' := ⟨fun p s σ H R I q => h.run p s σ H R I (w _ _ _ q)⟩
section
variable {X : Cx} {tg : Expr}
def iSeq (K : PySem.W.Frag) (tl : TE) : TI := fun σ H R => tl σ H fun x H1 => (∃ a, x = .ref a ∧ (((∃ xs, SqL K H1 a xs) ∧ R (Itl K a) H1) ∨ ((∃ xs, SqT K H1 a xs) ∧ R (Itt K a) H1))) ∨ ∃ z, x = .str z ∧ R (Its z) H1
theorem pi_seq {l : Expr} {tl : TE} (hl : PE X l tl) : PI X tg l (iSeq X.K tl) := by
  refine ⟨fun pins s σ H R I h => ?_⟩
  refine thn (hl.run pins s σ H _ I h) fun v s1 ⟨x, H1, I1, r1, q1⟩ => ?_
  rcases q1 with ⟨a, e, q⟩ | ⟨z, e, q⟩
  · subst e
    cases r1
    rcases q with ⟨⟨xs, hq⟩, q⟩ | ⟨⟨xs, hq⟩, q⟩
    · obtain ⟨its, rv, p, hz⟩ := I1.list hq
      refine wpAny_pyIter_list p.isList ?_
      refine ⟨s1.heap.objs.size, [s1.heap.objs.size], _, _, H1, rfl, I1.kept (t' := s1.toks) fun b o e => Heap.get?_push_of_some _ e, turn_list a _, ⟨_, Heap.get?_push_size _ rfl, rfl, rfl⟩, fun b hb => ?_, q⟩
      have e : b = s1.heap.objs.size := by simpa using hb
      subst e
      exact I1.fpOk (Nat.le_refl _) (I1.hok.fresh (Nat.le_refl _))
    · obtain ⟨its, rv, p, hz⟩ := I1.tuple hq
      refine wpAny_pyIter_tuple (show s1.heap.IsTuple a its.toArray from p) ?_
      refine ⟨s1.heap.objs.size, [s1.heap.objs.size], _, _, H1, rfl, I1.kept (t' := s1.toks) fun b o e => Heap.get?_push_of_some _ e, turn_tuple a _, ⟨_, Heap.get?_push_size _ rfl, rfl, rfl⟩, fun b hb => ?_, q⟩
      have e : b = s1.heap.objs.size := by simpa using hb
      subst e
      exact I1.fpOk (Nat.le_refl _) (I1.hok.fresh (Nat.le_refl _))
  · subst e
    obtain ⟨t, rfl⟩ := r1
    cases ha : z.cps.all (· < 128)
    · exact wpAny_pyIter_wide ha (pi_one (tk := s1.toks) I1 _ (turn_str _ z t "str_iterator" (.inr rfl)) ⟨_, Heap.get?_push_size _ rfl, rfl, rfl⟩ q)
    · exact wpAny_pyIter_ascii ha (pi_one (tk := s1.toks) I1 _ (turn_str _ z t "str_ascii_iterator" (.inl rfl)) ⟨_, Heap.get?_push_size _ rfl, rfl, rfl⟩ q)
end
/-- the items of data -/
def seqD : D → Option (List D)
  | .list ds => some ds
  | .tuple ds => some ds
  | .str z => some (z.cps.toList.map fun c => .str ⟨#[c]⟩)
  | _ => none
/-- in a statement's head: an own list is frozen -/
def miseq (m : ME) : MI := fun ρ => (m ρ).bind fun x => match x.1 with
  | .dat d => (seqD d).map fun ds => (.items ds, x.2)
  | .new b => (seqD b.dat).map fun ds => (.items ds, x.2)
  | .ref i => match x.2[i]?.join with
    | some (.dat d) => (seqD d).map fun ds => (.items ds, x.2)
    | some (.box true b) => (seqD b.dat).map fun ds => (.items ds, x.2.set i (some (.dat b.dat)))
    | some (.box false (.lst ds)) => some (.slot i ds, x.2)
    | _ => none
/-- in a comprehension's head -/
def miseqC (m : ME) : MI := fun ρ => (m ρ).bind fun x => match x.1 with
  | .dat d => (seqD d).map fun ds => (.items ds, x.2)
  | .new b => (seqD b.dat).map fun ds => (.items ds, x.2)
  | .ref i => match x.2[i]?.join with
    | some (.dat d) => (seqD d).map fun ds => (.items ds, x.2)
    | some (.box _ (.lst ds)) => some (.slot i ds, x.2)
    | _ => none
section
variable {K : PySem.W.Frag} {W : Wd} {ρ ρ' : En} {σ : L2.St} {H : Hp}
/-- data that is walked -/
theorem walk_dat {v : V} {d : D} {ds : List D} {Q : It → Hp → Prop} (h : Rep K (Av W.P ρ σ) H v d) (e : seqD d = some ds) (q : ∀ J, ItOk K W ρ σ H J (.items ds) → Q J H) :
    (∃ a, v = .ref a ∧ (((∃ xs, SqL K H a xs) ∧ Q (Itl K a) H) ∨ ((∃ xs, SqT K H a xs) ∧ Q (Itt K a) H))) ∨ ∃ z, v = .str z ∧ Q (Its z) H := by
  cases h with
  | lst h1 h2 =>
    cases e
    refine .inl ⟨_, rfl, .inl ⟨⟨_, h1.sq⟩, q _ fun N1 H1 ev tk => ⟨fun n d hd => ?_, fun n hn => ?_⟩⟩⟩
    · have h1' := h1.evo ev
      obtain ⟨x, hx, rx⟩ := (RepL.evo ev _ _ h2).get hd
      refine ⟨⟨_, x, h1'.sq, hx⟩, fun y H2 hy => ?_⟩
      obtain ⟨e1, e2⟩ := hy
      subst e1
      have := e2 _ h1'.sq
      rw [hx] at this; cases this
      exact ⟨fun _ _ z => z, rx⟩
    · exact ⟨_, (h1.evo ev).sq, by rw [h2.length]; exact hn⟩
  | tup h1 h2 =>
    cases e
    refine .inl ⟨_, rfl, .inr ⟨⟨_, h1.sq⟩, q _ fun N1 H1 ev tk => ⟨fun n d hd => ?_, fun n hn => ?_⟩⟩⟩
    · have h1' := h1.evo ev
      obtain ⟨x, hx, rx⟩ := (RepL.evo ev _ _ h2).get hd
      refine ⟨⟨_, x, h1'.sq, hx⟩, fun y H2 hy => ?_⟩
      obtain ⟨e1, e2⟩ := hy
      subst e1
      have := e2 _ h1'.sq
      rw [hx] at this; cases this
      exact ⟨fun _ _ z => z, rx⟩
    · exact ⟨_, (h1.evo ev).sq, by rw [h2.length]; exact hn⟩
  | str z =>
    cases e
    refine .inr ⟨z, rfl, q _ fun N1 H1 ev tk => ⟨fun n d hd => ?_, fun n hn => ?_⟩⟩
    · rw [List.getElem?_map] at hd
      obtain ⟨c, hc, rfl⟩ := Option.map_eq_some_iff.mp hd
      have hc' : z.cps[n]? = some c := by simpa using hc
      refine ⟨(Array.getElem?_eq_some_iff.mp hc').1, fun y H2 hy => ?_⟩
      obtain ⟨e1, c', e2, e3⟩ := hy
      subst e1
      rw [hc'] at e2; cases e2
      rw [e3]
      exact ⟨fun _ _ z => z, .str _⟩
    · show z.cps.size ≤ n
      simpa using hn
  | non => cases e
  | bl b => cases e
  | int i => cases e
  | dic _ _ _ => cases e
end
section
variable {G : GC} {S : SC} {tg e : Expr} {m : ME}
theorem walk_new {K : PySem.W.Frag} {W : Wd} {ρ ρ1 : En} {σ : L2.St} {H H1 : Hp} {b : Bx} {v : V} (p : PostE K W ρ σ H (.new b) ρ1 v H1) (rel : DRel K W ρ σ H) : Rep K (Av W.P ρ1 σ) H1 v b.dat := (p.res.fz p.toPostX rel)
theorem di_seq (he : DE G S e m) : DI G S tg e (miseq m) := by
  intro X c
  have hK := c.K
  refine PI.weak (pi_seq (he X c)) ?_
  rw [hK]
  rintro σ H R ⟨W, ρ, it, ρ', rel, em, q⟩
  unfold miseq at em
  obtain ⟨⟨r, ρ1⟩, e1, em⟩ := Option.bind_eq_some_iff.mp em
  refine ⟨W, ρ, r, ρ1, rel, e1, fun v H1 p1 => ?_⟩
  cases r with
  | dat d =>
    obtain ⟨ds, e2, e3⟩ := Option.map_eq_some_iff.mp em
    cases e3
    exact walk_dat (W := W) (σ := σ) p1.res e2 fun J j => q J H1 p1.toPostX j
  | new b =>
    obtain ⟨ds, e2, e3⟩ := Option.map_eq_some_iff.mp em
    cases e3
    exact walk_dat (W := W) (σ := σ) (walk_new p1 rel) e2 fun J j => q J H1 p1.toPostX j
  | ref i =>
    obtain ⟨hv, _⟩ := p1.res
    have em' : (match ρ1[i]?.join with
      | some (.dat d) => (seqD d).map fun ds => (It3.items ds, ρ1)
      | some (.box true b) => (seqD b.dat).map fun ds => (It3.items ds, ρ1.set i (some (.dat b.dat)))
      | some (.box false (.lst ds)) => some (It3.slot i ds, ρ1)
      | _ => none) = some (it, ρ') := em
    split at em'
    · rename_i d e4
      obtain ⟨ds, e2, e3⟩ := Option.map_eq_some_iff.mp em'
      cases e3
      obtain ⟨v', hv', rr⟩ := p1.rel.sl i _ (Option.join_eq_some_iff.mp e4)
      rw [hv] at hv'; cases hv'
      exact walk_dat (W := W) (σ := σ) rr e2 fun J j => q J H1 p1.toPostX j
    · rename_i b e4
      obtain ⟨ds, e2, e3⟩ := Option.map_eq_some_iff.mp em'
      cases e3
      obtain ⟨p2, v', hv', rr⟩ := p1.rel.freeze (Option.join_eq_some_iff.mp e4)
      rw [hv] at hv'; cases hv'
      exact walk_dat (W := W) (ρ := ρ1.set i (some (.dat b.dat))) (σ := σ) rr e2 fun J j => q J H1 (p1.toPostX.trans p2) j
    · rename_i ds e4
      cases em'
      obtain ⟨a, h1, h2, _, _, hB⟩ := p1.rel.boxOk (Option.join_eq_some_iff.mp e4)
      rw [hv] at h1; cases h1
      obtain ⟨xs, h3, h4⟩ := h2
      exact .inl ⟨a, rfl, .inl ⟨⟨xs, .inl (.inl h3)⟩, q (Itl _ a) H1 p1.toPostX ⟨a, _, _, hv, Option.join_eq_some_iff.mp e4, rfl, hB⟩⟩⟩
    · cases em'
theorem di_seqC (he : DE G S e m) : DI G S tg e (miseqC m) := by
  intro X c
  have hK := c.K
  refine PI.weak (pi_seq (he X c)) ?_
  rw [hK]
  rintro σ H R ⟨W, ρ, it, ρ', rel, em, q⟩
  unfold miseqC at em
  obtain ⟨⟨r, ρ1⟩, e1, em⟩ := Option.bind_eq_some_iff.mp em
  refine ⟨W, ρ, r, ρ1, rel, e1, fun v H1 p1 => ?_⟩
  cases r with
  | dat d =>
    obtain ⟨ds, e2, e3⟩ := Option.map_eq_some_iff.mp em
    cases e3
    exact walk_dat (W := W) (σ := σ) p1.res e2 fun J j => q J H1 p1.toPostX j
  | new b =>
    obtain ⟨ds, e2, e3⟩ := Option.map_eq_some_iff.mp em
    cases e3
    exact walk_dat (W := W) (σ := σ) (walk_new p1 rel) e2 fun J j => q J H1 p1.toPostX j
  | ref i =>
    obtain ⟨hv, _⟩ := p1.res
    have em' : (match ρ1[i]?.join with
      | some (.dat d) => (seqD d).map fun ds => (It3.items ds, ρ1)
      | some (.box _ (.lst ds)) => some (It3.slot i ds, ρ1)
      | _ => none) = some (it, ρ') := em
    split at em'
    · rename_i d e4
      obtain ⟨ds, e2, e3⟩ := Option.map_eq_some_iff.mp em'
      cases e3
      obtain ⟨v', hv', rr⟩ := p1.rel.sl i _ (Option.join_eq_some_iff.mp e4)
      rw [hv] at hv'; cases hv'
      exact walk_dat (W := W) (σ := σ) rr e2 fun J j => q J H1 p1.toPostX j
    · rename_i ds e4
      cases em'
      obtain ⟨a, h1, h2, _, _, hB⟩ := p1.rel.boxOk (Option.join_eq_some_iff.mp e4)
      rw [hv] at h1; cases h1
      obtain ⟨xs, h3, h4⟩ := h2
      exact .inl ⟨a, rfl, .inl ⟨⟨xs, .inl (.inl h3)⟩, q (Itl _ a) H1 p1.toPostX ⟨a, _, _, hv, Option.join_eq_some_iff.mp e4, rfl, hB⟩⟩⟩
    · cases em'
/-- range(a, b) -/
def rngD (lo hi : Int) : List D := (List.range (hi - lo).toNat).map fun n => .int (lo + (n : Nat))
def intR (ρ : En) (r : R) : Option Int := (r.vw ρ).bind fun d => match d with
  | .int i => some i
  | _ => none
theorem intR_some {ρ : En} {r : R} {i : Int} (h : intR ρ r = some i) : r.vw ρ = some (.int i) := by
  unfold intR at h
  obtain ⟨d, e1, e2⟩ := Option.bind_eq_some_iff.mp h
  split at e2
  · cases e2; exact e1
  · cases e2
def mirng1 (ms : MA) : MI := fun ρ => (ms ρ).bind fun x => match x.1 with
  | [r] => (intR x.2 r).bind fun j => (guardO (decide (-(2 ^ 62) ≤ j ∧ j < 2 ^ 62))).bind fun _ => some (.items (rngD 0 j), x.2)
  | _ => none
def mirng2 (ms : MA) : MI := fun ρ => (ms ρ).bind fun x => match x.1 with
  | [r, r'] => (intR x.2 r).bind fun i => (intR x.2 r').bind fun j => (guardO (decide (-(2 ^ 62) ≤ i ∧ i < 2 ^ 62 ∧ -(2 ^ 62) ≤ j ∧ j < 2 ^ 62))).bind fun _ => some (.items (rngD i j), x.2)
  | _ => none
theorem rng_ok {K : PySem.W.Frag} {W : Wd} {ρ : En} {σ : L2.St} {H : Hp} (lo hi : Int) : ItOk K W ρ σ H (Itr lo (hi - lo).toNat) (.items (rngD lo hi)) := fun N1 H1 ev tk => by
  refine ⟨fun n d hd => ?_, fun n hn => ?_⟩
  · unfold rngD at hd
    rw [List.getElem?_map] at hd
    obtain ⟨k, hk, rfl⟩ := Option.map_eq_some_iff.mp hd
    obtain ⟨h1, h2⟩ := List.getElem?_eq_some_iff.mp hk
    rw [List.length_range] at h1
    rw [List.getElem_range] at h2
    subst h2
    refine ⟨h1, fun x H2 hy => ?_⟩
    obtain ⟨e1, e2⟩ := hy
    subst e1
    rw [e2]
    exact ⟨fun _ _ z => z, .int _⟩
  · unfold rngD at hn
    rw [List.length_map, List.length_range] at hn
    exact hn
theorem di_range1 {a : Expr} {p pos : Pos} {ms : MA} (hg : S.sc.names.lookup (Str.ofString "range") = some NameKind.globalImplicit) (hm : G.mg (Str.ofString "range") = none) (ha : DA G S [a] ms) (hs : ∀ env : PySem.Env, starEach [a] env = (false, eval a env) :: starEach [] env) :
    DI G S tg (.Call (.Name "range" p) [a] [] pos) (mirng1 ms) := by
  intro X c
  refine PI.weak (pi_range1 (by show X.env.scope.names.lookup _ = _; rw [c.sc]; exact hg) (by rw [c.mg]; exact hm) (ha X c) (hs _)) ?_
  rintro σ H R ⟨W, ρ, it, ρ', rel, em, q⟩
  unfold mirng1 at em
  obtain ⟨⟨rs, ρ1⟩, e1, em⟩ := Option.bind_eq_some_iff.mp em
  refine ⟨W, ρ, rs, ρ1, rel, e1, fun vs H1 p1 f1 => ?_⟩
  cases rs with
  | nil => cases em
  | cons r rs => cases rs with
    | cons _ _ => cases em
    | nil =>
      obtain ⟨j, e2, em⟩ := Option.bind_eq_some_iff.mp em
      obtain ⟨u, e3, em⟩ := Option.bind_eq_some_iff.mp em
      cases em
      cases f1 with
      | cons r1 t =>
        cases t
        obtain ⟨g1, g2⟩ := guardO_dec e3
        have := (FRel.read r1 p1.rel (intR_some e2)).int
        subst this
        refine ⟨j, rfl, g1, g2, ?_⟩
        have z := q (Itr 0 (j - 0).toNat) H1 p1 (rng_ok 0 j)
        rw [Int.sub_zero] at z
        exact z
theorem di_range2 {a b : Expr} {p pos : Pos} {ms : MA} (hg : S.sc.names.lookup (Str.ofString "range") = some NameKind.globalImplicit) (hm : G.mg (Str.ofString "range") = none) (ha : DA G S [a, b] ms) (hs : ∀ env : PySem.Env, starEach [a, b] env = [(false, eval a env), (false, eval b env)]) (hpl : ∀ env : PySem.Env, starEach [b] env = [(false, eval b env)]) :
    DI G S tg (.Call (.Name "range" p) [a, b] [] pos) (mirng2 ms) := by
  intro X c
  refine PI.weak (pi_range2 (by show X.env.scope.names.lookup _ = _; rw [c.sc]; exact hg) (by rw [c.mg]; exact hm) (ha X c) (hs _) (hpl _)) ?_
  rintro σ H R ⟨W, ρ, it, ρ', rel, em, q⟩
  unfold mirng2 at em
  obtain ⟨⟨rs, ρ1⟩, e1, em⟩ := Option.bind_eq_some_iff.mp em
  refine ⟨W, ρ, rs, ρ1, rel, e1, fun vs H1 p1 f1 => ?_⟩
  cases rs with
  | nil => cases em
  | cons r rs => cases rs with
    | nil => cases em
    | cons r' rs => cases rs with
      | cons _ _ => cases em
      | nil =>
        obtain ⟨i, e2, em⟩ := Option.bind_eq_some_iff.mp em
        obtain ⟨j, e4, em⟩ := Option.bind_eq_some_iff.mp em
        obtain ⟨u, e3, em⟩ := Option.bind_eq_some_iff.mp em
        cases em
        cases f1 with
        | cons r1 t =>
          cases t with
          | cons r2 t =>
            cases t
            have g := guardO_dec e3
            have h1 := (FRel.read r1 p1.rel (intR_some e2)).int
            have h2 := (FRel.read r2 p1.rel (intR_some e4)).int
            subst h1
            subst h2
            exact ⟨i, j, rfl, g, q (Itr i (j - i).toNat) H1 p1 (rng_ok i j)⟩
end

/-! targets -/
abbrev MG := D → En → Option En
def rdG (K : PySem.W.Frag) (is : List Nat) (m : MG) : TG := fun v σ H Q => ∃ W ρ d ρ', DRel K W ρ σ H ∧ Rep K (Av W.P ρ σ) H v d ∧ m d ρ = some ρ' ∧ ∀ σ', PostC K W ρ σ H ρ' σ' H → (σ'.length = σ.length ∧ ∀ j, j ∉ is → σ'[j]? = σ[j]?) → Q σ' H
def DG (G : GC) (S : SC) (tg : Expr) (is : List Nat) (m : MG) : Prop := ∀ X, CxOk G S X → PG X tg (rdG G.K is m)
theorem PG.weak {X : Cx} {tg : Expr} {t t' : TG} (h : PG X tg t) (w : ∀ v σ H Q, t' v σ H Q → t v σ H Q) : PG X tg t' := ⟨fun p s σ H v u Q I r q => h.run p s σ H v u Q I r (w _ _ _ _ q)⟩
def gnm (i : Nat) : MG := fun d ρ => (guardO (notBor ρ i)).map fun _ => ρ.set i (some (.dat d))
def gset : List Nat → List D → En → Option En
  | [], [], ρ => some ρ
  | i :: is, d :: ds, ρ => (guardO (notBor ρ i)).bind fun _ => gset is ds (ρ.set i (some (.dat d)))
  | _, _, _ => none
def gtup (is : List Nat) : MG := fun d ρ => match d with
  | .tuple ds => gset is ds ρ
  | _ => none
def gsN : List Nat → TGs
  | [] => gNil
  | i :: is => gCons (gName i) (gsN is)
section
variable {K : PySem.W.Frag} {W : Wd} {G : GC} {S : SC}
theorem gset_len : ∀ {is : List Nat} {ds : List D} {ρ ρ' : En}, gset is ds ρ = some ρ' → ds.length = is.length
  | [], [], _, _, _ => rfl
  | i :: is, d :: ds, _, _, h => by
    obtain ⟨u, _, h2⟩ := Option.bind_eq_some_iff.mp (show (guardO (notBor _ i)).bind _ = _ from h)
    rw [List.length_cons, List.length_cons, gset_len h2]
  | [], _ :: _, _, _, h => by simp [gset] at h
  | _ :: _, [], _, _, h => by simp [gset] at h
theorem gset_ok {H : Hp} {Q : L2.St → Hp → Prop} : ∀ {is : List Nat} {ds : List D} {xs : List V} {ρ ρ' : En} {σ : L2.St}, DRel K W ρ σ H → RepL K (Av W.P ρ σ) H xs ds → gset is ds ρ = some ρ' → (∀ σ', PostC K W ρ σ H ρ' σ' H → (σ'.length = σ.length ∧ ∀ j, j ∉ is → σ'[j]? = σ[j]?) → Q σ' H) → gsN is xs σ H Q
  | [], [], _, _, _, σ, rel, .nil, h, q => by cases h; exact ⟨rfl, q _ (PostC.refl rel) ⟨rfl, fun _ _ => rfl⟩⟩
  | i :: is, d :: ds, _, ρ, _, σ, rel, .cons r t, h, q => by
    obtain ⟨u, h1, h2⟩ := Option.bind_eq_some_iff.mp (show (guardO (notBor _ i)).bind _ = _ from h)
    have p := rel.setDat (notBor_lt (guardO_some h1)) r
    exact ⟨_, _, rfl, gset_ok p.rel (RepL.evo (p.evo rel) _ _ t) h2 fun σ' p2 c => q σ' (p.trans p2) ⟨by rw [c.1, List.length_set], fun j hj => by
      rw [c.2 j fun z => hj (List.mem_cons_of_mem _ z), List.getElem?_set_ne fun z => hj (by rw [z]; exact List.mem_cons_self)]⟩⟩
  | [], _ :: _, _, _, _, _, _, _, h, _ => by simp [gset] at h
  | _ :: _, [], _, _, _, _, _, _, h, _ => by simp [gset] at h
theorem dg_name {i : Nat} {x : Str} {pos : Pos} (h : StoOk S i x) : DG G S (.Name x pos) [i] (gnm i) := by
  intro X c
  refine PG.weak (pg_name (i := i) c.nd (by rw [c.N]; exact h.1) (by rw [c.sc]; exact h.2.1) (by rw [c.sc, c.fn]; exact h.2.2)) ?_
  rintro v σ H Q ⟨W, ρ, d, ρ', rel, r, em, q⟩
  obtain ⟨u, h1, h2⟩ := Option.map_eq_some_iff.mp (show (guardO (notBor ρ i)).map _ = _ from em)
  subst h2
  exact q _ (rel.setDat (notBor_lt (guardO_some h1)) r) ⟨List.length_set, fun j hj => List.getElem?_set_ne fun z => hj (by rw [z]; exact List.mem_singleton_self _)⟩
theorem dg_tup {es : List Expr} {k : Nat} {pos : Pos} {is : List Nat} (h : ∀ X, CxOk G S X → PGs X es (gsN is)) (hn : ∀ env : PySem.Env, (assignEach es env).length = is.length) (hst : ∀ env : PySem.Env, (assignEach es env).findIdx? (·.1) = none) : DG G S (.Tuple es k pos) is (gtup is) := by
  intro X c
  refine PG.weak (pg_tup (n := is.length) c.calm (h X c) (hn _) (hst _)) ?_
  rw [c.K]
  rintro v σ H Q ⟨W, ρ, d, ρ', rel, r, em, q⟩
  unfold gtup at em
  split at em
  · rename_i ds
    cases r with
    | tup h1 h2 => exact ⟨_, _, rfl, h1.sq, by rw [h2.length, gset_len em], gset_ok rel h2 em q⟩
  · cases em
theorem pgsN_nil {X : Cx} : PGs X [] (gsN []) := pgs_nil
theorem pgsN_cons {X : Cx} {i : Nat} {x : Str} {p : Pos} {es : List Expr} {is : List Nat} (c : CxOk G S X) (h : StoOk S i x) (t : PGs X es (gsN is)) (hs : (assignEach (.Name x p :: es) X.env).map (·.2) = assign (.Name x p) X.env :: (assignEach es X.env).map (·.2)) : PGs X (.Name x p :: es) (gsN (i :: is)) :=
  pgs_cons (pg_name (i := i) c.nd (by rw [c.N]; exact h.1) (by rw [c.sc]; exact h.2.1) (by rw [c.sc, c.fn]; exact h.2.2)) t hs
end

/-! for -/
def lstAt (ρ : En) (i : Nat) : Option (List D) := match ρ[i]?.join with
  | some (.box _ (.lst ds)) => some ds
  | _ => none
def mforI (g : MG) (b : MS) : List D → MS
  | [], ρ => some (.nx, ρ)
  | d :: ds, ρ => (g d ρ).bind fun ρ1 => (b ρ1).bind fun x => match x.1 with
    | .nx => mforI g b ds x.2
    | .ct => mforI g b ds x.2
    | .bk => some (.nx, x.2)
    | .rt r => some (.rt r, x.2)
/-- .. of a borrowed one -/
def lstB (ρ : En) (i : Nat) : Option (List D) := match ρ[i]?.join with
  | some (.box false (.lst ds)) => some ds
  | _ => none
def mforS (i : Nat) (g : MG) (b : MS) : List D → Nat → MS
  | [], n, ρ => (lstB ρ i).bind fun xs => (guardO (decide (xs.length ≤ n))).bind fun _ => some (.nx, ρ)
  | _ :: ds, n, ρ => (lstB ρ i).bind fun xs => (xs[n]?).bind fun d => (g d ρ).bind fun ρ1 => (b ρ1).bind fun x => match x.1 with
    | .nx => mforS i g b ds (n + 1) x.2
    | .ct => mforS i g b ds (n + 1) x.2
    | .bk => some (.nx, x.2)
    | .rt r => some (.rt r, x.2)
def mfor (mi : MI) (g : MG) (b : MS) : MS := fun ρ => (mi ρ).bind fun x => match x.1 with
  | .items ds => mforI g b ds x.2
  | .slot i ds => mforS i g b ds 0 x.2
/-- what follows a statement -/
def After (K : PySem.W.Frag) (W : Wd) (D : Ends) (o : O) (ρ' : En) (ρ : En) (σ : L2.St) (H : Hp) : Prop := match o with
  | .nx => ∀ σ' H', PostC K W ρ σ H ρ' σ' H' → D.nx σ' H'
  | .bk => ∀ σ' H', PostC K W ρ σ H ρ' σ' H' → D.bk σ' H'
  | .ct => ∀ σ' H', PostC K W ρ σ H ρ' σ' H' → D.ct σ' H'
  | .rt r => ∀ v σ' H', PostC K W ρ σ H ρ' σ' H' → RtRel K W ρ' σ' H' r v → D.rt v H'
theorem After.over {K : PySem.W.Frag} {W : Wd} {D : Ends} {o : O} {ρ' ρ ρ1 : En} {σ σ1 : L2.St} {H H1 : Hp} (a : After K W D o ρ' ρ σ H) (p : PostC K W ρ σ H ρ1 σ1 H1) : After K W D o ρ' ρ1 σ1 H1 := by
  cases o with
  | nx => exact fun σ2 H2 p2 => a σ2 H2 (p.trans p2)
  | bk => exact fun σ2 H2 p2 => a σ2 H2 (p.trans p2)
  | ct => exact fun σ2 H2 p2 => a σ2 H2 (p.trans p2)
  | rt r => exact fun v σ2 H2 p2 r2 => a v σ2 H2 (p.trans p2) r2
theorem lstAt_some {ρ : En} {i : Nat} {xs : List D} (h : lstAt ρ i = some xs) : ∃ o, ρ[i]? = some (some (.box o (.lst xs))) := by
  unfold lstAt at h
  split at h
  · rename_i o ds e
    cases h
    exact ⟨o, Option.join_eq_some_iff.mp e⟩
  · cases h
theorem lstB_some {ρ : En} {i : Nat} {xs : List D} (h : lstB ρ i = some xs) : ρ[i]? = some (some (.box false (.lst xs))) := by
  unfold lstB at h
  split at h
  · rename_i ds e
    cases h
    exact Option.join_eq_some_iff.mp e
  · cases h
theorem DRel.same {K : PySem.W.Frag} {W : Wd} {ρ : En} {σ : L2.St} {H H' : Hp} (h : DRel K W ρ σ H) (s : ∀ a o, H a = some o → H' a = some o) : PostC K W ρ σ H ρ σ H' := ((PostX.refl h).same s).toPostC
theorem ds_for {G : GC} {S : SC} {tg iter : Expr} {body : List Stmt} {mi : MI} {g : MG} {is : List Nat} {b : MS} {pos : Pos} (hi : DI G S tg iter mi) (hg : DG G S tg is g) (hb : DSs G S body b) (hs : ∀ (env : PySem.Env) x, foldedSetIterable iter env x = pure x) :
    DS G S (.For tg iter body [] pos) (mfor mi g b) := by
  intro X c
  refine PS.weak (ps_for (by rw [c.xe]; exact PassesOwn.never) c.calm (hi X c) (hg X c) (hb X c) (hs _)) ?_
  rintro D σ H ⟨W, ρ, o, ρ', rel, em, q⟩
  unfold mfor at em
  obtain ⟨⟨it, ρ1⟩, e1, em⟩ := Option.bind_eq_some_iff.mp em
  refine ⟨W, ρ, it, ρ1, rel, e1, fun J H1 p1 jt => ?_⟩
  have aft : After G.K W D o ρ' ρ σ H := q
  have aft1 := aft.over p1.toPostC
  cases it with
  | items ds =>
    have em : mforI g b ds ρ1 = some (o, ρ') := em
    refine ⟨fun i m σ2 H2 => ∃ ρ2, PostC G.K W ρ1 σ H1 ρ2 σ2 H2 ∧ m = (ds.drop i).length ∧ i ≤ ds.length ∧ mforI g b (ds.drop i) ρ2 = some (o, ρ'), ⟨ds.length, ρ1, PostC.refl p1.rel, rfl, Nat.zero_le _, em⟩, ?_⟩
    rintro i m σ2 H2 ⟨ρ2, p2, rfl, hi, e2⟩
    obtain ⟨j1, j2⟩ := jt _ _ (p2.evo p1.rel) p2.rel.trk
    cases hd : ds.drop i with
    | nil =>
      rw [hd] at e2
      cases e2
      refine .inl ⟨j2 i ?_, aft1 σ2 H2 p2⟩
      exact List.drop_eq_nil_iff.mp hd
    | cons d rest =>
      rw [hd] at e2
      have hi' : ds[i]? = some d := by
        have := congrArg List.head? hd
        rwa [List.head?_drop] at this
      have hrest : ds.drop (i + 1) = rest := by
        rw [show i + 1 = i + 1 from rfl, ← List.drop_drop (i := 1) (j := i), hd]; rfl
      have hlt : i < ds.length := (List.getElem?_eq_some_iff.mp hi').1
      obtain ⟨go, yl⟩ := j1 i d hi'
      refine .inr ⟨go, ?_⟩
      obtain ⟨ρ3, e3, e2⟩ := Option.bind_eq_some_iff.mp (show (g d ρ2).bind _ = _ from e2)
      obtain ⟨⟨o4, ρ4⟩, e4, e2⟩ := Option.bind_eq_some_iff.mp e2
      refine ⟨fun σ' H' => ∃ ρ5, PostC G.K W ρ1 σ H1 ρ5 σ' H' ∧ (o4 = .nx ∨ o4 = .ct) ∧ ρ5 = ρ4, fun σ' H' ⟨ρ5, p5, h5, e5⟩ => ⟨(ds.drop (i + 1)).length, by rw [hrest]; exact Nat.lt_succ_self _, ρ5, p5, rfl, hlt, ?_⟩, fun x H3 hy => ?_⟩
      · rw [hrest, e5]
        rcases h5 with h5 | h5
        · subst h5; exact e2
        · subst h5; exact e2
      · obtain ⟨s3, r3⟩ := yl x H3 hy
        have p3 := p2.rel.same s3
        refine ⟨W, ρ2, d, ρ3, p3.rel, r3, e3, fun σ3 p4 _ => ?_⟩
        have p34 := p2.trans (p3.trans p4)
        refine ⟨W, ρ3, o4, ρ4, p4.rel, e4, ?_⟩
        cases o4 with
        | nx => exact fun σ4 H4 p5 => ⟨ρ4, p34.trans p5, .inl rfl, rfl⟩
        | ct => exact fun σ4 H4 p5 => ⟨ρ4, p34.trans p5, .inr rfl, rfl⟩
        | bk => cases e2; exact fun σ4 H4 p5 => aft1 σ4 H4 (p34.trans p5)
        | rt r => cases e2; exact fun v σ4 H4 p5 r5 => aft1 v σ4 H4 (p34.trans p5) r5
  | slot i ds0 =>
    have em : mforS i g b ds0 0 ρ1 = some (o, ρ') := em
    obtain ⟨q0, ow, bx, hq, hb0, rfl, hB⟩ := jt
    -- the list at a turn
    have cur : ∀ {ρ2 : En} {σ2 : L2.St} {H2 : Hp} {xs : List PyData}, DRel G.K W ρ2 σ2 H2 → lstB ρ2 i = some xs → ow = false → ∃ ys, H2 q0 = some (.lst ys) ∧ RepL G.K (Av W.P ρ2 σ2) H2 ys xs := fun {ρ2 σ2 H2 xs} r2 hx ho => by
      have hx' : ρ2[i]? = some (some (.box false (.lst xs))) := lstB_some hx
      obtain ⟨q1, h1, h2, _, _, h3⟩ := r2.boxOk hx'
      have : q1 = q0 := by
        have e1 := h3 rfl
        rw [hB ho] at e1; cases e1; rfl
      subst this
      exact h2
    have hw : ow = false := by
      have hx : ∃ xs, lstB ρ1 i = some xs := by
        cases ds0 with
        | nil => obtain ⟨xs, h, _⟩ := Option.bind_eq_some_iff.mp (show (lstB ρ1 i).bind _ = _ from em); exact ⟨xs, h⟩
        | cons d ds => obtain ⟨xs, h, _⟩ := Option.bind_eq_some_iff.mp (show (lstB ρ1 i).bind _ = _ from em); exact ⟨xs, h⟩
      obtain ⟨xs, hx⟩ := hx
      rw [lstB_some hx] at hb0; cases hb0; rfl
    refine ⟨fun n m σ2 H2 => ∃ ρ2 ds, PostC G.K W ρ1 σ H1 ρ2 σ2 H2 ∧ m = ds.length ∧ mforS i g b ds n ρ2 = some (o, ρ'), ⟨ds0.length, ρ1, ds0, PostC.refl p1.rel, rfl, em⟩, ?_⟩
    rintro n m σ2 H2 ⟨ρ2, ds, p2, rfl, e2⟩
    cases ds with
    | nil =>
      obtain ⟨xs, hx, e2⟩ := Option.bind_eq_some_iff.mp (show (lstB ρ2 i).bind _ = _ from e2)
      obtain ⟨u, hl, e2⟩ := Option.bind_eq_some_iff.mp e2
      cases e2
      obtain ⟨ys, h1, h2⟩ := cur p2.rel hx hw
      exact .inl ⟨⟨ys, .inl (.inl h1), by rw [h2.length]; exact guardO_dec hl⟩, aft1 σ2 H2 p2⟩
    | cons d0 ds =>
      obtain ⟨xs, hx, e2⟩ := Option.bind_eq_some_iff.mp (show (lstB ρ2 i).bind _ = _ from e2)
      obtain ⟨d, hd, e2⟩ := Option.bind_eq_some_iff.mp e2
      obtain ⟨ρ3, e3, e2⟩ := Option.bind_eq_some_iff.mp e2
      obtain ⟨⟨o4, ρ4⟩, e4, e2⟩ := Option.bind_eq_some_iff.mp e2
      obtain ⟨ys, h1, h2⟩ := cur p2.rel hx hw
      obtain ⟨y, hy1, hy2⟩ := h2.get hd
      refine .inr ⟨⟨ys, y, .inl (.inl h1), hy1⟩, fun σ' H' => ∃ ρ5, PostC G.K W ρ1 σ H1 ρ5 σ' H' ∧ (o4 = .nx ∨ o4 = .ct) ∧ ρ5 = ρ4, fun σ' H' ⟨ρ5, p5, h5, e5⟩ => ⟨ds.length, Nat.lt_succ_self _, ρ5, ds, p5, rfl, ?_⟩, fun x H3 hy => ?_⟩
      · rw [e5]
        rcases h5 with h5 | h5
        · subst h5; exact e2
        · subst h5; exact e2
      · obtain ⟨e5, e6⟩ := hy
        subst e5
        have := e6 ys (.inl (.inl h1))
        rw [hy1] at this; cases this
        refine ⟨W, ρ2, d, ρ3, p2.rel, hy2, e3, fun σ3 p4 _ => ?_⟩
        have p34 := p2.trans p4
        refine ⟨W, ρ3, o4, ρ4, p4.rel, e4, ?_⟩
        cases o4 with
        | nx => exact fun σ4 H4 p5 => ⟨ρ4, p34.trans p5, .inl rfl, rfl⟩
        | ct => exact fun σ4 H4 p5 => ⟨ρ4, p34.trans p5, .inr rfl, rfl⟩
        | bk => cases e2; exact fun σ4 H4 p5 => aft1 σ4 H4 (p34.trans p5)
        | rt r => cases e2; exact fun v σ4 H4 p5 r5 => aft1 v σ4 H4 (p34.trans p5) r5
end L3

namespace L3
open PySem PySem.Spec PyProof.Rows L2

/-! comprehensions -/
def wipeE (ρ : En) : List Nat → En
  | [] => ρ
  | v :: vs => (wipeE ρ vs).set v none
def restE (ρ0 ρ : En) (vs : List Nat) : En := ρ.mapIdx fun i a => if i ∈ vs then ρ0[i]?.join else a
def noBx (ρ : En) (vs : List Nat) : Bool := vs.all fun v => match ρ[v]?.join with
  | some (.box _ _) => false
  | _ => true
/-- one turn, the target's value known -/
def mturn (g : MG) (t : MT) (m : ME) (vs : List Nat) (d : D) (acc : List D) (ρ : En) : Option (List D × En) :=
  (g d (wipeE ρ vs)).bind fun ρ1 => (t ρ1).bind fun x => if x.1 = true then (m x.2).bind fun y => (fzs y.2 [y.1.fz]).bind fun z => match z.1 with
    | [d'] => (guardO (decide (acc.length < sizeLine))).bind fun _ => some (acc ++ [d'], z.2)
    | _ => none
  else some (acc, x.2)
def mlcI (g : MG) (t : MT) (m : ME) (vs : List Nat) : List D → List D → En → Option (List D × En)
  | [], acc, ρ => some (acc, ρ)
  | d :: ds, acc, ρ => (mturn g t m vs d acc ρ).bind fun x => mlcI g t m vs ds x.1 x.2
def mlcS (i : Nat) (g : MG) (t : MT) (m : ME) (vs : List Nat) : List D → Nat → List D → En → Option (List D × En)
  | [], n, acc, ρ => (lstAt ρ i).bind fun xs => (guardO (decide (xs.length ≤ n))).bind fun _ => some (acc, ρ)
  | _ :: ds, n, acc, ρ => (lstAt ρ i).bind fun xs => (xs[n]?).bind fun d => (mturn g t m vs d acc ρ).bind fun x => mlcS i g t m vs ds (n + 1) x.1 x.2
def mlc (mi : MI) (g : MG) (t : MT) (m : ME) (vs : List Nat) : ME := fun ρ => (mi ρ).bind fun x => (guardO (noBx x.2 vs)).bind fun _ => match x.1 with
  | .items ds => (mlcI g t m vs ds [] (wipeE x.2 vs)).bind fun y => some (.new (.lst y.1), restE x.2 y.2 vs)
  | .slot i ds => (guardO (decide (i ∉ vs))).bind fun _ => (mlcS i g t m vs ds 0 [] (wipeE x.2 vs)).bind fun y => some (.new (.lst y.1), restE x.2 y.2 vs)

theorem wipeE_get {ρ : En} : ∀ {vs : List Nat} {j : Nat}, (wipeE ρ vs)[j]? = if j ∈ vs then (ρ[j]?).map (fun _ => none) else ρ[j]?
  | [], j => by simp [wipeE]
  | v :: vs, j => by
    unfold wipeE
    rw [List.getElem?_set]
    have hl : (wipeE ρ vs).length = ρ.length := by
      clear j
      induction vs with
      | nil => rfl
      | cons w ws ih => unfold wipeE; rw [List.length_set, ih]
    by_cases e : v = j
    · subst e
      rw [if_pos rfl, hl]
      by_cases h : v < ρ.length
      · simp [h]
      · simp [h]
    · rw [if_neg e, wipeE_get (vs := vs)]
      have e' : ¬ j = v := fun z => e z.symm
      simp [e']
theorem wipe_get {σ : L2.St} : ∀ {vs : List Nat} {j : Nat}, (wipe σ vs)[j]? = if j ∈ vs then (σ[j]?).map (fun _ => none) else σ[j]?
  | [], j => by simp [wipe]
  | v :: vs, j => by
    unfold wipe
    rw [List.getElem?_set, wipe_length]
    by_cases e : v = j
    · subst e
      rw [if_pos rfl]
      by_cases h : v < σ.length
      · simp [h]
      · simp [h]
    · rw [if_neg e, wipe_get (vs := vs)]
      have e' : ¬ j = v := fun z => e z.symm
      simp [e']
theorem wipeE_len {ρ : En} {vs : List Nat} : (wipeE ρ vs).length = ρ.length := by
  induction vs with
  | nil => rfl
  | cons w ws ih => unfold wipeE; rw [List.length_set, ih]
theorem wipe_same {σ σ' : L2.St} {vs is : List Nat} (hs : ∀ i ∈ is, i ∈ vs) (hl : σ'.length = (wipe σ vs).length) (h : ∀ j, j ∉ is → σ'[j]? = (wipe σ vs)[j]?) : wipe σ' vs = wipe σ vs := by
  refine List.ext_getElem? fun j => ?_
  rw [wipe_get]
  by_cases hj : j ∈ vs
  · rw [if_pos hj]
    by_cases hlt : j < σ'.length
    · have h2 : j < (wipe σ vs).length := by omega
      have h3 : j < σ.length := by rwa [wipe_length] at h2
      rw [wipe_get, if_pos hj]
      simp [hlt, h3]
    · have h3 : ¬ j < σ.length := by rw [hl, wipe_length] at hlt; exact hlt
      rw [wipe_get, if_pos hj]
      simp [hlt, h3]
  · rw [if_neg hj]
    exact h j fun z => hj (hs j z)
section
variable {K : PySem.W.Frag} {W : Wd} {ρ ρ' : En} {σ : L2.St} {H H' : Hp} {vs : List Nat}
theorem wipeE_some {j : Nat} {a : A} (h : (wipeE ρ vs)[j]? = some (some a)) : j ∉ vs ∧ ρ[j]? = some (some a) := by
  rw [wipeE_get] at h
  split at h
  · obtain ⟨x, _, h2⟩ := Option.map_eq_some_iff.mp h
    cases h2
  · rename_i n; exact ⟨n, h⟩
/-- slots are forgotten -/
theorem DRel.wipe (h : DRel K W ρ σ H) (vs : List Nat) : DRel K W (wipeE ρ vs) (L2.wipe σ vs) H ∧ ∀ a, BoxAt (wipeE ρ vs) (L2.wipe σ vs) a → BoxAt ρ σ a := by
  have ws : ∀ j, j ∉ vs → (L2.wipe σ vs)[j]? = σ[j]? := fun j hj => by rw [wipe_get, if_neg hj]
  have sub : ∀ a, BoxAt (wipeE ρ vs) (L2.wipe σ vs) a → BoxAt ρ σ a := fun a ⟨j, o, b, e1, e2⟩ => by
    obtain ⟨n, e1⟩ := wipeE_some e1
    rw [ws j n] at e2
    exact ⟨j, o, b, e1, e2⟩
  have ev : Evo (Av W.P ρ σ) H (Av W.P (wipeE ρ vs) (L2.wipe σ vs)) H := mono_av fun a z => z.imp id (sub a)
  refine ⟨⟨by rw [wipeE_len, wipe_length]; exact h.len, fun j a e1 => ?_, fun j k o b o' b' q e1 e2 e3 e4 => ?_, h.prot, fun q z y => h.pdis q z (sub q y), h.keep, h.there⟩, sub⟩
  · obtain ⟨n, e1⟩ := wipeE_some e1
    obtain ⟨v, hv, r⟩ := h.sl j a e1
    exact ⟨v, by rw [ws j n]; exact hv, r.evo ev fun _ _ _ _ z => z⟩
  · obtain ⟨n, e1⟩ := wipeE_some e1
    obtain ⟨n2, e2⟩ := wipeE_some e2
    rw [ws j n] at e3; rw [ws k n2] at e4
    exact h.dis j k _ _ _ _ q e1 e2 e3 e4
/-- a protected object is written -/
theorem DRel.wr (h : DRel K W ρ σ H) {q : Addr} {o : HO} (hp : W.P q) (h0 : W.H0 q = none) : DRel K W ρ σ (upd H q o) := by
  have ev : Evo (Av W.P ρ σ) H (Av W.P ρ σ) (upd H q o) := ⟨fun a u e n => by rw [upd_ne (fun z => n (.inl (by rw [z]; exact hp)))]; exact e, fun a z => .inl z⟩
  refine ⟨h.len, fun j a e1 => ?_, h.dis, fun a z => ?_, h.pdis, fun a u z n => ?_, fun a u z => ?_⟩
  · obtain ⟨v, hv, r⟩ := h.sl j a e1
    refine ⟨v, hv, r.evo ev fun q' e2 e3 u e4 => ?_⟩
    have nq : q' ≠ q := fun z => by
      subst z; subst e2
      cases a with
      | dat d => cases e3
      | box ow b => exact h.pdis _ hp ⟨j, ow, b, e1, hv⟩
    rw [upd_ne nq]; exact e4
  · by_cases e : a = q
    · subst e; exact ⟨_, upd_same⟩
    · obtain ⟨u, z⟩ := h.prot a z; exact ⟨u, by rw [upd_ne e]; exact z⟩
  · have e : a ≠ q := fun z' => by subst z'; rw [h0] at z; cases z
    rw [upd_ne e]; exact h.keep a u z n
  · have e : a ≠ q := fun z' => by subst z'; rw [h0] at z; cases z
    obtain ⟨u', z⟩ := h.there a u z
    exact ⟨u', by rw [upd_ne e]; exact z⟩
end
abbrev Wd.D (W : Wd) (q : Addr) : Wd := W.pl fun a => V.ref q = V.ref a
/-- the state of a comprehension's block between two turns; D: the new list -/
structure Chn (K : PySem.W.Frag) (W : Wd) (q : Addr) (σ : L2.St) (ρ : En) (H : Hp) (ρ' : En) (H' : Hp) (acc : List D) : Prop where
  rel : DRel K (W.D q) ρ' σ H'
  ext : ∀ a o, H a = some o → ¬ BoxAt ρ σ a → a ≠ q → H' a = some o
  thr : ∀ a o, H a = some o → ∃ o', H' a = some o'
  sub : ∀ a, BoxAt ρ' σ a → BoxAt ρ σ a
  stay : ∀ (i : Nat) (a : A), ρ[i]? = some (some a) → ∃ a', ρ'[i]? = some (some a')
  lst : ∃ xs, H' q = some (.lst xs) ∧ RepL K (Av (W.D q).P ρ' σ) H' xs acc
section
variable {G : GC} {S : SC}
def SC.blk (S : SC) (scope : Scope) : SC := ⟨S.N, relS scope S.sc, fun x => scope.names.lookup x == some .cell, S.k⟩
theorem CxOk.blk {X : Cx} (c : CxOk G S X) (scope : Scope) (s : Shared) (H : Hp) (C : Addr) (cl : List (Str × Addr)) (fp : List Addr) : CxOk G (S.blk scope) (X.blk s H scope (compEnvC scope cl C X.env) fp) where
  prog := c.prog
  w := c.w
  K := c.K
  mg := c.mg
  base := c.base
  N := c.N
  sc := by rw [show (S.blk scope).sc = relS scope S.sc from rfl, ← c.sc]; rfl
  fn := rfl
  calm := c.calm
  room := c.room
  gd := c.gd
  nd := c.nd
  xe := rfl
def DTs (G : GC) (S : SC) (es : List Expr) (m : MT) : Prop := ∀ X, CxOk G S X → PTs X es (rdT G.K m)
theorem PTs.weak {X : Cx} {e : List Expr} {t t' : TT} (h : PTs X e t) (w : ∀ σ H Q, t' σ H Q → t σ H Q) : PTs X e t' := ⟨fun p s σ H Q I q => h.run p s σ H Q I (w _ _ _ q)⟩
def myes : MT := fun ρ => some (true, ρ)
theorem dts_nil : DTs G S [] myes := fun X c => PTs.weak pts_nil fun σ H Q ⟨W, ρ, r, ρ', rel, em, q⟩ => by
  cases em
  exact q H (PostX.refl rel)
theorem dts_one {c : Expr} {m : MT} (h : DT G S c m) : DTs G S [c] m := fun X cx => pts_one (h X cx)
theorem stay_wipe {ρ ρ2 : En} {vs : List Nat} (hs : ∀ (i : Nat) (a : A), (wipeE ρ vs)[i]? = some (some a) → ∃ a', ρ2[i]? = some (some a')) : ∀ (i : Nat) (a : A), (wipeE ρ vs)[i]? = some (some a) → ∃ a', (wipeE ρ2 vs)[i]? = some (some a') := fun i a e => by
  obtain ⟨n, _⟩ := wipeE_some e
  obtain ⟨a', h⟩ := hs i a e
  exact ⟨a', by rw [wipeE_get, if_neg n]; exact h⟩
/-- a turn -/
theorem turn_ok {K : PySem.W.Frag} {W : Wd} {q : Addr} {σ : L2.St} {ρ0 ρb ρc : En} {H0 Hb : Hp} {acc acc' : List D} {is vs : List Nat} {g : MG} {t : MT} {m : ME} {d : D} {x : V} {Nx : Hp → Prop} (hs : ∀ i ∈ is, i ∈ vs) (stay1 : ∀ {ρ1 : En}, g d (wipeE ρb vs) = some ρ1 → ∀ (i : Nat) (a : A), i ∉ is → (wipeE ρb vs)[i]? = some (some a) → ∃ a', ρ1[i]? = some (some a')) (h0 : W.H0 q = none)
    (c : Chn K W q (wipe σ vs) (wipeE ρ0 vs) H0 (wipeE ρb vs) Hb acc) (rx : Rep K (Av (W.D q).P (wipeE ρb vs) (wipe σ vs)) Hb x d) (e : mturn g t m vs d acc ρb = some (acc', ρc))
    (nx : ∀ H', Chn K W q (wipe σ vs) (wipeE ρ0 vs) H0 (wipeE ρc vs) H' acc' → Nx H') :
    rdG K is g x (wipe σ vs) Hb fun σ2 H2 => wipe σ2 vs = wipe σ vs ∧ rdT K t σ2 H2 fun b H3 => if b = true then rd K m σ2 H3 fun y H4 => ∃ acc, H4 q = some (.lst acc) ∧ acc.length < sizeLine ∧ Nx (upd H4 q (.lst (acc ++ [y]))) else Nx H3 := by
  unfold mturn at e
  obtain ⟨ρ1, e1, e⟩ := Option.bind_eq_some_iff.mp e
  obtain ⟨⟨b, ρ2⟩, e2, e⟩ := Option.bind_eq_some_iff.mp e
  refine ⟨W.D q, wipeE ρb vs, d, ρ1, c.rel, rx, e1, fun σ2 p1 ch => ?_⟩
  have hw : wipe σ2 vs = wipe σ vs := wipe_same hs ch.1 ch.2
  -- slots outside of vs are the same in σ2
  have hout : ∀ j, j ∉ vs → σ2[j]? = (wipe σ vs)[j]? := fun j hj => ch.2 j fun z => hj (hs j z)
  refine ⟨hw, W.D q, ρ1, b, ρ2, p1.rel, e2, fun H3 p2 => ?_⟩
  have sb1 : ∀ a, BoxAt ρ1 σ2 a → BoxAt (wipeE ρb vs) (wipe σ vs) a := fun a z => by
    rcases p1.new a z with y | y
    · exact y
    · obtain ⟨o, y'⟩ := p1.rel.boxThere z
      rw [y] at y'; cases y'
  have st1 : ∀ (i : Nat) (a : A), i ∉ vs → (wipeE ρb vs)[i]? = some (some a) → ∃ a', ρ1[i]? = some (some a') := fun i a n e => stay1 e1 i a (fun z => n (hs i z)) e
  -- a step of the block, wiped
  have fin : ∀ {ρ3 : En} {H4 : Hp} {accn : List PyData}, PostX K (W.D q) ρ1 σ2 Hb ρ3 H4 → Chn K W q (wipe σ vs) (wipeE ρ0 vs) H0 (wipeE ρ3 vs) H4 acc ∧ Evo (Av (W.D q).P ρ3 σ2) H4 (Av (W.D q).P (wipeE ρ3 vs) (wipe σ vs)) H4 := fun {ρ3 H4 accn} p => by
    obtain ⟨r1, s1⟩ := p.rel.wipe vs
    rw [hw] at r1 s1
    have ev : Evo (Av (W.D q).P (wipeE ρb vs) (wipe σ vs)) Hb (Av (W.D q).P (wipeE ρ3 vs) (wipe σ vs)) H4 := ⟨fun a o h n => p.ext a o h fun z => n (.inr (sb1 a z)), fun a z => .inl (z.imp id fun z => sb1 a (p.sub a (s1 a z)))⟩
    refine ⟨⟨r1, fun a o h n nq => p.ext a o (c.ext a o h n nq) fun z => n (c.sub a (sb1 a z)), fun a o h => ?_, fun a z => c.sub a (sb1 a (p.sub a (s1 a z))), fun i a h => ?_, ?_⟩, mono_av fun a z => z.imp id (s1 a)⟩
    · obtain ⟨o', h'⟩ := c.thr a o h
      exact p.thr a o' h'
    · obtain ⟨a1, h1⟩ := c.stay i a h
      obtain ⟨n, _⟩ := wipeE_some h
      obtain ⟨a2, h2⟩ := st1 i a1 n h1
      obtain ⟨a3, h3⟩ := p.stay i a2 h2
      exact ⟨a3, by rw [wipeE_get, if_neg n]; exact h3⟩
    · obtain ⟨xs, l1, l2⟩ := c.lst
      exact ⟨xs, p.ext q _ l1 fun z => c.rel.pdis q (.inr rfl) (sb1 q z), RepL.evo ev _ _ l2⟩
  cases b with
  | false =>
    rw [if_neg Bool.false_ne_true] at e
    cases e
    exact iteF (nx H3 (fin (accn := []) p2).1)
  | true =>
    rw [if_pos rfl] at e
    refine iteT ?_
    obtain ⟨⟨r, ρ3⟩, e3, e⟩ := Option.bind_eq_some_iff.mp e
    obtain ⟨⟨ds, ρ4⟩, e4, e⟩ := Option.bind_eq_some_iff.mp e
    refine ⟨W.D q, ρ2, r, ρ3, p2.rel, e3, fun y H4 p3 => ?_⟩
    have f3 : FRels K (Av (W.D q).P ρ3 σ2) ρ3 σ2 H4 [r.fz] [y] := .cons (p3.res.fz p3.toPostX p2.rel) .nil
    obtain ⟨p4, rl⟩ := fzs_ok p3.rel f3 e4
    cases rl with
    | cons r0 tl =>
      cases tl
      obtain ⟨u, e5, e⟩ := Option.bind_eq_some_iff.mp e
      cases e
      obtain ⟨cn, evw⟩ := fin (accn := []) (p2.trans (p3.toPostX.trans p4))
      obtain ⟨xs, l1, l2⟩ := cn.lst
      refine ⟨xs, l1, by rw [l2.length]; exact guardO_dec e5, nx _ ?_⟩
      have hq0 : (W.D q).H0 q = none := h0
      have evq : Evo (Av (W.D q).P (wipeE ρ4 vs) (wipe σ vs)) H4 (Av (W.D q).P (wipeE ρ4 vs) (wipe σ vs)) (upd H4 q (.lst (xs ++ [y]))) := ⟨fun a u h n => by rw [upd_ne (fun z => n (.inl (.inr (by rw [z]))))]; exact h, fun a z => .inl z⟩
      refine ⟨cn.rel.wr (.inr rfl) hq0, fun a o h n nq => by rw [upd_ne nq]; exact cn.ext a o h n nq, fun a o h => ?_, cn.sub, cn.stay, xs ++ [y], upd_same, RepL.evo evq _ _ (l2.snoc (Rep.evo evw _ _ r0))⟩
      by_cases ea : a = q
      · subst ea; exact ⟨_, upd_same⟩
      · obtain ⟨o', h'⟩ := cn.thr a o h
        exact ⟨o', by rw [upd_ne ea]; exact h'⟩

def GStay (g : MG) (is : List Nat) : Prop := ∀ (d : PyData) (ρ ρ1 : En), g d ρ = some ρ1 → ∀ (i : Nat) (a : A), i ∉ is → ρ[i]? = some (some a) → ∃ a', ρ1[i]? = some (some a')
theorem gnm_stay (i : Nat) : GStay (gnm i) [i] := fun d ρ ρ1 h j a n e => by
  obtain ⟨u, _, h2⟩ := Option.map_eq_some_iff.mp (show (guardO (notBor ρ i)).map _ = _ from h)
  subst h2
  exact ⟨a, by rw [List.getElem?_set_ne fun z => n (by rw [z]; exact List.mem_singleton_self _)]; exact e⟩
theorem gset_stay : ∀ {is : List Nat} {ds : List PyData} {ρ ρ1 : En}, gset is ds ρ = some ρ1 → ∀ (i : Nat) (a : A), i ∉ is → ρ[i]? = some (some a) → ∃ a', ρ1[i]? = some (some a')
  | [], [], _, _, h, i, a, _, e => by cases h; exact ⟨a, e⟩
  | j :: is, d :: ds, ρ, _, h, i, a, n, e => by
    obtain ⟨u, h1, h2⟩ := Option.bind_eq_some_iff.mp (show (guardO (notBor _ j)).bind _ = _ from h)
    exact gset_stay h2 i a (fun z => n (List.mem_cons_of_mem _ z)) (by rw [List.getElem?_set_ne fun z => n (by rw [z]; exact List.mem_cons_self)]; exact e)
  | [], _ :: _, _, _, h, _, _, _, _ => by simp [gset] at h
  | _ :: _, [], _, _, h, _, _, _, _ => by simp [gset] at h
theorem gtup_stay (is : List Nat) : GStay (gtup is) is := fun d ρ ρ1 h => by
  unfold gtup at h
  split at h
  · exact gset_stay h
  · cases h
theorem wipeE_idem {ρ : En} {vs : List Nat} : wipeE (wipeE ρ vs) vs = wipeE ρ vs := by
  refine List.ext_getElem? fun j => ?_
  rw [wipeE_get]
  by_cases hj : j ∈ vs
  · rw [if_pos hj, wipeE_get, if_pos hj]
    cases ρ[j]? <;> rfl
  · rw [if_neg hj]
theorem restE_get {ρ0 ρ : En} {vs : List Nat} {j : Nat} : (restE ρ0 ρ vs)[j]? = (ρ[j]?).map fun a => if j ∈ vs then ρ0[j]?.join else a := by
  unfold restE
  rw [List.getElem?_mapIdx]
theorem noBx_not {ρ : En} {vs : List Nat} (h : noBx ρ vs = true) {j : Nat} (hj : j ∈ vs) (o : Bool) (b : Bx) : ρ[j]? ≠ some (some (.box o b)) := fun e => by
  have := List.all_eq_true.mp h j hj
  rw [show ρ[j]?.join = some (A.box o b) by rw [e]; rfl] at this
  cases this
/-- the block's end -/
theorem chn_end {K : PySem.W.Frag} {W : Wd} {ρ ρ1 ρf : En} {σ : L2.St} {H H1 Hf : Hp} {vs : List Nat} {q : Addr} {acc : List D} (p1 : PostX K W ρ σ H ρ1 H1) (hD : H1 q = none) (nb : noBx ρ1 vs = true)
    (c : Chn K W q (wipe σ vs) (wipeE ρ1 vs) H1 (wipeE ρf vs) Hf acc) : PostE K W ρ σ H (.new (.lst acc)) (restE ρ1 ρf vs) (.ref q) Hf := by
  have hln : ρf.length = ρ1.length := by
    have h1 := c.rel.len
    rw [wipeE_len, wipe_length] at h1
    rw [h1, p1.rel.len]
  have rget : ∀ {j : Nat} {a : A}, (restE ρ1 ρf vs)[j]? = some (some a) → (j ∈ vs ∧ ρ1[j]? = some (some a)) ∨ (j ∉ vs ∧ (wipeE ρf vs)[j]? = some (some a)) := fun {j a} e => by
    rw [restE_get] at e
    obtain ⟨x, e1, e2⟩ := Option.map_eq_some_iff.mp e
    by_cases hj : j ∈ vs
    · rw [if_pos hj] at e2
      exact .inl ⟨hj, Option.join_eq_some_iff.mp e2⟩
    · rw [if_neg hj] at e2
      subst e2
      exact .inr ⟨hj, by rw [wipeE_get, if_neg hj]; exact e1⟩
  have wσ : ∀ {j : Nat}, j ∉ vs → (wipe σ vs)[j]? = σ[j]? := fun {j} hj => by rw [wipe_get, if_neg hj]
  have sub0 : ∀ a, BoxAt (wipeE ρ1 vs) (wipe σ vs) a → BoxAt ρ1 σ a := (p1.rel.wipe vs).2
  have subr : ∀ a, BoxAt (restE ρ1 ρf vs) σ a → BoxAt (wipeE ρf vs) (wipe σ vs) a := fun a ⟨j, o, b, e1, e2⟩ => by
    rcases rget e1 with ⟨hj, z⟩ | ⟨hj, z⟩
    · exact (noBx_not nb hj o b z).elim
    · exact ⟨j, o, b, z, by rw [wσ hj]; exact e2⟩
  have sub : ∀ a, BoxAt (restE ρ1 ρf vs) σ a → BoxAt ρ1 σ a := fun a z => sub0 a (c.sub a (subr a z))
  have ext : ∀ a o, H1 a = some o → ¬ BoxAt ρ1 σ a → Hf a = some o := fun a o h n => c.ext a o h (fun z => n (sub0 a z)) fun z => by rw [z, hD] at h; cases h
  have ev1 : Evo (Av W.P ρ1 σ) H1 (Av (W.D q).P (restE ρ1 ρf vs) σ) Hf := ⟨fun a o h n => ext a o h fun z => n (.inr z), fun a z => by
    rcases z with (z | z) | z
    · exact .inl (.inl z)
    · refine .inr ?_
      cases z; exact hD
    · exact .inl (.inr (sub a z))⟩
  have ev2 : Evo (Av (W.D q).P (wipeE ρf vs) (wipe σ vs)) Hf (Av (W.D q).P (restE ρ1 ρf vs) σ) Hf := mono_av fun a z => z.imp id (subr a)
  have r : DRel K (W.D q) (restE ρ1 ρf vs) σ Hf := by
    refine ⟨by unfold restE; rw [List.length_mapIdx, hln]; exact p1.rel.len, fun j a e1 => ?_, fun j k o b o' b' q' e1 e2 e3 e4 => ?_, c.rel.prot, fun a z y => c.rel.pdis a z (subr a y), c.rel.keep, c.rel.there⟩
    · rcases rget e1 with ⟨hj, z⟩ | ⟨hj, z⟩
      · cases a with
        | box o b => exact (noBx_not nb hj o b z).elim
        | dat d =>
          obtain ⟨v, hv, rr⟩ := p1.rel.sl j _ z
          exact ⟨v, hv, Rep.evo ev1 _ _ rr⟩
      · obtain ⟨v, hv, rr⟩ := c.rel.sl j _ z
        rw [wσ hj] at hv
        exact ⟨v, hv, rr.evo ev2 fun _ _ _ _ z => z⟩
    · rcases rget e1 with ⟨hj, z⟩ | ⟨hj, z⟩
      · exact (noBx_not nb hj o b z).elim
      · rcases rget e2 with ⟨hk, z2⟩ | ⟨hk, z2⟩
        · exact (noBx_not nb hk o' b' z2).elim
        · exact c.rel.dis j k _ _ _ _ q' z z2 (by rw [wσ hj]; exact e3) (by rw [wσ hk]; exact e4)
  have px : PostX K W ρ1 σ H1 (restE ρ1 ρf vs) Hf := by
    refine ⟨⟨r.unpl, ext, c.thr, fun a z => .inl (sub a z)⟩, fun i a h => ?_, sub⟩
    have hi : i < ρf.length := by rw [hln]; exact (List.getElem?_eq_some_iff.mp h).1
    rw [restE_get]
    by_cases hj : i ∈ vs
    · refine ⟨a, ?_⟩
      rw [List.getElem?_eq_getElem hi, Option.map_some, if_pos hj, h]
      rfl
    · obtain ⟨a', h'⟩ := c.stay i a (by rw [wipeE_get, if_neg hj]; exact h)
      rw [wipeE_get, if_neg hj] at h'
      exact ⟨a', by rw [h', Option.map_some, if_neg hj]⟩
  refine ⟨p1.trans px, ⟨q, rfl, p1.free hD, ?_⟩, r⟩
  obtain ⟨xs, l1, l2⟩ := c.lst
  refine ⟨xs, l1, RepL.evo (mono_av fun a z => ?_) _ _ l2⟩
  rcases z with z | z
  · exact z.elim (fun z => .inl (.inl z)) fun z => .inr (subr a z)
  · exact .inl (.inr (by rw [z]))
theorem chn_start {K : PySem.W.Frag} {W : Wd} {ρ ρ1 : En} {σ : L2.St} {H H1 : Hp} {vs : List Nat} {q : Addr} (p1 : PostX K W ρ σ H ρ1 H1) (hD : H1 q = none) :
    Chn K W q (wipe σ vs) (wipeE ρ1 vs) H1 (wipeE (wipeE ρ1 vs) vs) (upd H1 q (.lst [])) [] := by
  rw [wipeE_idem]
  refine ⟨((p1.rel.wipe vs).1).grow (fresh_upd hD) (fun a z => by cases z; exact hD) (fun a z => by cases z; exact ⟨_, upd_same⟩), fun a o h n nq => fresh_upd hD a o h, fun a o h => ⟨o, fresh_upd hD a o h⟩, fun a z => z, fun i a h => ⟨a, h⟩, [], upd_same, .nil⟩
theorem lcrd {K : PySem.W.Frag} {mi : MI} {g : MG} {is vs : List Nat} {t : MT} {m : ME} (hsub : ∀ i ∈ is, i ∈ vs) (st : GStay g is) (σ : L2.St) (H : Hp) (Q : VK) (h : rd K (mlc mi g t m vs) σ H Q) : tLc (rdI K mi) (rdG K is g) (rdT K t) (rd K m) vs σ H Q := by
  obtain ⟨W, ρ, r, ρ', rel, em, q⟩ := h
  unfold mlc at em
  obtain ⟨⟨it, ρ1⟩, e1, em⟩ := Option.bind_eq_some_iff.mp em
  obtain ⟨u, e2, em⟩ := Option.bind_eq_some_iff.mp em
  refine ⟨W, ρ, it, ρ1, rel, e1, fun J H1 p1 jt q0 hD => ?_⟩
  have h0 : W.H0 q0 = none := by
    cases z : W.H0 q0 with
    | none => rfl
    | some o => obtain ⟨o', z'⟩ := p1.rel.there q0 o z; rw [hD] at z'; cases z'
  have sub0 : ∀ a, BoxAt (wipeE ρ1 vs) (wipe σ vs) a → BoxAt ρ1 σ a := (p1.rel.wipe vs).2
  cases it with
  | items ds =>
    obtain ⟨⟨acc, ρf⟩, e3, em⟩ := Option.bind_eq_some_iff.mp em
    cases em
    refine ⟨fun i mm Hc => ∃ ρb acc', Chn K W q0 (wipe σ vs) (wipeE ρ1 vs) H1 (wipeE ρb vs) Hc acc' ∧ mm = (ds.drop i).length ∧ i ≤ ds.length ∧ mlcI g t m vs (ds.drop i) acc' ρb = some (acc, ρf), ⟨ds.length, wipeE ρ1 vs, [], chn_start p1 hD, rfl, Nat.zero_le _, e3⟩, ?_⟩
    rintro i mm Hc ⟨ρb, acc', c, rfl, hle, e4⟩
    have ev : Evo (Av W.P ρ1 σ) H1 (Av (W.D q0).P (wipeE ρb vs) (wipe σ vs)) Hc := ⟨fun a o h n => c.ext a o h (fun z => n (.inr (sub0 a z))) (fun z => by rw [z, hD] at h; cases h), fun a z => by
      rcases z with (z | z) | z
      · exact .inl (.inl z)
      · refine .inr ?_
        cases z; exact hD
      · exact .inl (.inr (sub0 a (c.sub a z)))⟩
    obtain ⟨j1, j2⟩ := jt _ _ ev c.rel.trk
    cases hd : ds.drop i with
    | nil =>
      rw [hd] at e4
      cases e4
      exact .inl ⟨j2 i (List.drop_eq_nil_iff.mp hd), q _ Hc (chn_end p1 hD (guardO_some e2) c)⟩
    | cons d rest =>
      rw [hd] at e4
      have hi' : ds[i]? = some d := by
        have := congrArg List.head? hd
        rwa [List.head?_drop] at this
      have hrest : ds.drop (i + 1) = rest := by
        rw [← List.drop_drop (i := 1) (j := i), hd]; rfl
      have hlt : i < ds.length := (List.getElem?_eq_some_iff.mp hi').1
      obtain ⟨go, yl⟩ := j1 i d hi'
      obtain ⟨⟨acc2, ρ2⟩, e5, e4⟩ := Option.bind_eq_some_iff.mp (show (mturn g t m vs d acc' ρb).bind _ = _ from e4)
      refine .inr ⟨go, fun H' => Chn K W q0 (wipe σ vs) (wipeE ρ1 vs) H1 (wipeE ρ2 vs) H' acc2, fun H' c' => ⟨(ds.drop (i + 1)).length, by rw [hrest]; exact Nat.lt_succ_self _, ρ2, acc2, c', rfl, hlt, by rw [hrest]; exact e4⟩, fun x H3 hy => ?_⟩
      obtain ⟨s3, r3⟩ := yl x H3 hy
      have c3 : Chn K W q0 (wipe σ vs) (wipeE ρ1 vs) H1 (wipeE ρb vs) H3 acc' := by
        have p := c.rel.same s3
        refine ⟨p.rel, fun a o h n nq => s3 _ _ (c.ext a o h n nq), fun a o h => ?_, c.sub, c.stay, ?_⟩
        · obtain ⟨o', h'⟩ := c.thr a o h; exact ⟨o', s3 _ _ h'⟩
        · obtain ⟨xs, l1, l2⟩ := c.lst
          exact ⟨xs, s3 _ _ l1, RepL.evo (p.evo c.rel) _ _ l2⟩
      exact turn_ok hsub (fun hh => st _ _ _ hh) h0 c3 r3 e5 fun H' c' => c'
  | slot i0 ds0 =>
    obtain ⟨u2, e6, em⟩ := Option.bind_eq_some_iff.mp em
    obtain ⟨⟨acc, ρf⟩, e3, em⟩ := Option.bind_eq_some_iff.mp em
    cases em
    obtain ⟨qs, ow, bx, hq, hb0, rfl, hB⟩ := jt
    have hi0 : i0 ∉ vs := guardO_dec e6
    have cur : ∀ {ρb : En} {Hc : Hp} {acc' xs : List PyData}, Chn K W q0 (wipe σ vs) (wipeE ρ1 vs) H1 (wipeE ρb vs) Hc acc' → lstAt ρb i0 = some xs → ∃ ys, Hc qs = some (.lst ys) ∧ RepL K (Av (W.D q0).P (wipeE ρb vs) (wipe σ vs)) Hc ys xs := fun {ρb Hc acc' xs} c hx => by
      obtain ⟨o, hx'⟩ := lstAt_some hx
      obtain ⟨q1, h1, h2, _⟩ := c.rel.boxOk (i := i0) (by rw [wipeE_get, if_neg hi0]; exact hx')
      rw [wipe_get, if_neg hi0, hq] at h1
      cases h1
      exact h2
    refine ⟨fun i mm Hc => ∃ ρb acc' ds, Chn K W q0 (wipe σ vs) (wipeE ρ1 vs) H1 (wipeE ρb vs) Hc acc' ∧ mm = ds.length ∧ mlcS i0 g t m vs ds i acc' ρb = some (acc, ρf), ⟨ds0.length, wipeE ρ1 vs, [], ds0, chn_start p1 hD, rfl, e3⟩, ?_⟩
    rintro i mm Hc ⟨ρb, acc', ds, c, rfl, e4⟩
    cases ds with
    | nil =>
      obtain ⟨xs, hx, e4⟩ := Option.bind_eq_some_iff.mp (show (lstAt ρb i0).bind _ = _ from e4)
      obtain ⟨u3, hl, e4⟩ := Option.bind_eq_some_iff.mp e4
      cases e4
      obtain ⟨ys, h1, h2⟩ := cur c hx
      exact .inl ⟨⟨ys, .inl (.inl h1), by rw [h2.length]; exact guardO_dec hl⟩, q _ Hc (chn_end p1 hD (guardO_some e2) c)⟩
    | cons d0 ds =>
      obtain ⟨xs, hx, e4⟩ := Option.bind_eq_some_iff.mp (show (lstAt ρb i0).bind _ = _ from e4)
      obtain ⟨d, hd, e4⟩ := Option.bind_eq_some_iff.mp e4
      obtain ⟨⟨acc2, ρ2⟩, e5, e4⟩ := Option.bind_eq_some_iff.mp e4
      obtain ⟨ys, h1, h2⟩ := cur c hx
      obtain ⟨y, hy1, hy2⟩ := h2.get hd
      refine .inr ⟨⟨ys, y, .inl (.inl h1), hy1⟩, fun H' => Chn K W q0 (wipe σ vs) (wipeE ρ1 vs) H1 (wipeE ρ2 vs) H' acc2, fun H' c' => ⟨ds.length, Nat.lt_succ_self _, ρ2, acc2, ds, c', rfl, e4⟩, fun x H3 hy => ?_⟩
      obtain ⟨e7, e8⟩ := hy
      subst e7
      have := e8 ys (.inl (.inl h1))
      rw [hy1] at this; cases this
      exact turn_ok hsub (fun hh => st _ _ _ hh) h0 c hy2 e5 fun H' c' => c'
theorem de_lc {elt tg iter : Expr} {ifs : List Expr} {scope : Scope} {own : List (Str × Nat)} {pos : Pos} {mi : MI} {g : MG} {is : List Nat} {t : MT} {m : ME} (hi : DI G S tg iter mi) (ok : BlkOk S.N S.sc scope own)
    (hg : DG G (S.blk scope) tg is g) (ht : DTs G (S.blk scope) ifs t) (he : DE G (S.blk scope) elt m) (hsub : ∀ i ∈ is, i ∈ own.map (·.2)) (st : GStay g is) (hs : ∀ (env : PySem.Env) x, foldedSetIterable iter env x = pure x) :
    DE G S (.ListComp elt [⟨tg, iter, ifs, 0⟩] scope pos) (mlc mi g t m (own.map (·.2))) := by
  intro X c
  refine PE.weak (pe_lc c.calm c.nd (hi X c) (by rw [c.N, c.sc]; exact ok) (fun s H C cl fp => hg _ (c.blk scope s H C cl fp)) (fun s H C cl fp => ht _ (c.blk scope s H C cl fp)) (fun s H C cl fp => he _ (c.blk scope s H C cl fp)) (hs _)) ?_
  exact lcrd hsub st
end
end L3

namespace L3
open PySem PySem.Spec PyProof.Rows L2

/-! dicts as lists of pairs -/
def valKD (kvs : List (Key × D)) (k : Key) : Option D := (kvs.find? fun kv => decide (kv.1 = k)).map (·.2)
def putKD (kvs : List (Key × D)) (k : Key) (v : D) : List (Key × D) :=
  if (kvs.any fun kv => decide (kv.1 = k)) = true then kvs.map (fun kv => if kv.1 = k then (kv.1, v) else kv) else kvs ++ [(k, v)]
def keyD : D → Option Key
  | .int i => some (.inl i)
  | .str x => some (.inr x)
  | _ => none
theorem kD_inj {a b : Key} (h : kD a = kD b) : a = b := by
  cases a <;> cases b <;> cases h <;> rfl
theorem keyD_some {d : D} {k : Key} (h : keyD d = some k) : d = kD k := by
  cases d <;> first | (cases h; rfl) | cases h
theorem keyD_kD (k : Key) : keyD (kD k) = some k := by cases k <;> rfl
section
variable {K : PySem.W.Frag} {N : Addr → Prop} {H : Hp}
theorem RepK.put {ks : List (Key × V)} {kvs : List (Key × D)} {v : V} {d : D} (k : Key) (h : RepK K N H ks (dkv kvs)) (r : Rep K N H v d) : RepK K N H (putK ks k v) (dkv (putKD kvs k d)) := by
  have ha : ∀ {ks : List (Key × V)} {kvs : List (Key × D)}, RepK K N H ks (dkv kvs) → (ks.any fun kv => decide (kv.1 = k)) = (kvs.any fun kv => decide (kv.1 = k)) := by
    intro ks kvs
    induction kvs generalizing ks with
    | nil => intro h; cases h; rfl
    | cons p r ih =>
      intro h
      obtain ⟨pk, pd⟩ := p
      generalize he : dkv ((pk, pd) :: r) = ds at h
      cases h with
      | nil => cases he
      | cons r1 t =>
        have he' : (kD pk, pd) :: dkv r = _ := he
        injection he' with h1 h2
        injection h1 with h3 h4
        have := kD_inj h3
        subst this
        subst h2
        simp only [List.any_cons, ih t]
  have hm : ∀ {ks : List (Key × V)} {kvs : List (Key × D)}, RepK K N H ks (dkv kvs) → RepK K N H (ks.map fun kv => if kv.1 = k then (kv.1, v) else kv) (dkv (kvs.map fun kv => if kv.1 = k then (kv.1, d) else kv)) := by
    intro ks kvs
    induction kvs generalizing ks with
    | nil => intro h; cases h; exact .nil
    | cons p r' ih =>
      intro h
      obtain ⟨pk, pd⟩ := p
      generalize he : dkv ((pk, pd) :: r') = ds at h
      cases h with
      | nil => cases he
      | cons r1 t =>
        have he' : (kD pk, pd) :: dkv r' = _ := he
        injection he' with h1 h2
        injection h1 with h3 h4
        have := kD_inj h3
        subst this
        subst h2
        subst h4
        by_cases e : pk = k
        · simp only [List.map_cons, if_pos e]
          exact .cons r (ih t)
        · simp only [List.map_cons, if_neg e]
          exact .cons r1 (ih t)
  have hs : ∀ {ks : List (Key × V)} {kvs : List (Key × D)}, RepK K N H ks (dkv kvs) → RepK K N H (ks ++ [(k, v)]) (dkv (kvs ++ [(k, d)])) := by
    intro ks kvs
    induction kvs generalizing ks with
    | nil => intro h; cases h; exact .cons r .nil
    | cons p r' ih =>
      intro h
      obtain ⟨pk, pd⟩ := p
      generalize he : dkv ((pk, pd) :: r') = ds at h
      cases h with
      | nil => cases he
      | cons r1 t =>
        have he' : (kD pk, pd) :: dkv r' = _ := he
        injection he' with h1 h2
        injection h1 with h3 h4
        have := kD_inj h3
        subst this
        subst h2
        subst h4
        exact .cons r1 (ih t)
  unfold putK putKD
  rw [ha h]
  split
  · exact hm h
  · exact hs h
theorem RepK.val {ks : List (Key × V)} {kvs : List (Key × D)} {k : Key} (h : RepK K N H ks (dkv kvs)) : (∀ d, valKD kvs k = some d → ∃ v, valV ks k = some v ∧ Rep K N H v d) ∧ (valKD kvs k = none → valV ks k = none) := by
  induction kvs generalizing ks with
  | nil => cases h; exact ⟨fun d e => (by cases e), fun _ => rfl⟩
  | cons p r ih =>
    obtain ⟨pk, pd⟩ := p
    generalize he : dkv ((pk, pd) :: r) = ds at h
    cases h with
    | nil => cases he
    | @cons k' v' d' ks' ds' r1 t =>
      have he' : (kD pk, pd) :: dkv r = _ := he
      injection he' with h1 h2
      injection h1 with h3 h4
      have := kD_inj h3
      subst this
      subst h2
      subst h4
      by_cases e : pk = k
      · rw [valV_pos (p := (pk, v')) e]
        have e2 : valKD ((pk, pd) :: r) k = some pd := by simp [valKD, List.find?_cons, e]
        rw [e2]
        exact ⟨fun d z => (by cases z; exact ⟨_, rfl, r1⟩), fun z => (by cases z)⟩
      · rw [valV_neg (p := (pk, v')) e]
        have e2 : valKD ((pk, pd) :: r) k = valKD r k := by simp [valKD, List.find?_cons, e]
        rw [e2]
        exact ih t
theorem RepK.length : ∀ {ks : List (Key × V)} {ds : List (D × D)}, RepK K N H ks ds → ks.length = ds.length
  | _, _, .nil => rfl
  | _, _, .cons _ t => by simp [RepK.length t]
theorem Rep.key {v : V} {d : D} {k : Key} (h : Rep K N H v d) (e : keyD d = some k) : v = kV k := by
  have := keyD_some e
  subst this
  cases k <;> cases h <;> rfl
theorem SRep.key {v : V} {d : D} {k : Key} (h : SRep K N H v d) (e : keyD d = some k) : v = kV k := by
  rcases h with h | ⟨q, b, rfl, e2, bo⟩
  · exact h.key e
  · subst e2; cases b <;> cases e
end

/-! a box is changed in its place -/
def bxAt (ρ : En) (i : Nat) : Option (Bool × Bx) := match ρ[i]?.join with
  | some (.box o b) => some (o, b)
  | _ => none
theorem bxAt_some {ρ : En} {i : Nat} {o : Bool} {b : Bx} (h : bxAt ρ i = some (o, b)) : ρ[i]? = some (some (.box o b)) := by
  unfold bxAt at h
  split at h
  · rename_i o' b' e
    cases h
    exact Option.join_eq_some_iff.mp e
  · cases h
section
variable {K : PySem.W.Frag} {W : Wd} {ρ ρ' : En} {σ : L2.St} {H H' : Hp}
theorem DRel.chBox (h : DRel K W ρ σ H) {i : Nat} {o : Bool} {b b' : Bx} {q : Addr} (e : ρ[i]? = some (some (.box o b))) (hq : σ[i]? = some (some (.ref q))) (bo : BoxOk K (Av W.P ρ σ) H' q b')
    (s : ∀ a u, a ≠ q → H a = some u → H' a = some u) : PostX K W ρ σ H (ρ.set i (some (.box o b'))) H' := by
  have hi : i < ρ.length := (List.getElem?_eq_some_iff.mp e).1
  have bat : BoxAt ρ σ q := ⟨i, o, b, e, hq⟩
  have sub : ∀ a, BoxAt (ρ.set i (some (.box o b'))) σ a → BoxAt ρ σ a := fun a ⟨j, o2, b2, e1, e2⟩ => by
    rcases set_get e1 with ⟨rfl, z⟩ | ⟨n, z⟩
    · rw [hq] at e2; cases e2; exact bat
    · exact ⟨j, o2, b2, z, e2⟩
  have back : ∀ a, BoxAt ρ σ a → BoxAt (ρ.set i (some (.box o b'))) σ a := fun a ⟨j, o2, b2, e1, e2⟩ => by
    by_cases ej : j = i
    · subst ej; exact ⟨j, o, b', List.getElem?_set_self hi, e2⟩
    · exact ⟨j, o2, b2, by rw [List.getElem?_set_ne (Ne.symm ej)]; exact e1, e2⟩
  have ev : Evo (Av W.P ρ σ) H (Av W.P (ρ.set i (some (.box o b'))) σ) H' := ⟨fun a u h1 n => s a u (fun z => n (.inr (by rw [z]; exact bat))) h1, fun a z => .inl (z.imp id (sub a))⟩
  have ev2 : Evo (Av W.P ρ σ) H' (Av W.P (ρ.set i (some (.box o b'))) σ) H' := mono_av fun a z => z.imp id (sub a)
  have tr : ∀ a u, H a = some u → ∃ u', H' a = some u' := fun a u h1 => by
    by_cases ea : a = q
    · subst ea; exact bo.there
    · exact ⟨u, s a u ea h1⟩
  refine ⟨⟨⟨by simpa using h.len, fun j a e1 => ?_, fun j k o1 b1 o2 b2 q' e1 e2 e3 e4 => ?_, fun a z => ?_, fun a z y => h.pdis a z (sub a y), fun a u z n => ?_, fun a u z => ?_⟩, fun a u h1 n => s a u (fun z => n (by rw [z]; exact bat)) h1, tr, fun a z => .inl (sub a z)⟩, fun j a e1 => ?_, sub⟩
  · rcases set_get e1 with ⟨rfl, rfl⟩ | ⟨n, z⟩
    · obtain ⟨v, hv, r⟩ := h.sl j _ e
      rw [hq] at hv; cases hv
      refine ⟨_, hq, ?_⟩
      cases o with
      | true => obtain ⟨q', h1, h2, h3⟩ := r; cases h1; exact ⟨q, rfl, bo.evo ev2 fun _ z => z, h3⟩
      | false => obtain ⟨q', h1, h2, h3⟩ := r; cases h1; exact ⟨q, rfl, bo.evo ev2 fun _ z => z, h3⟩
    · obtain ⟨v, hv, r⟩ := h.sl j a z
      refine ⟨v, hv, r.evo ev fun q' e2 e3 u e4 => ?_⟩
      refine s q' u (fun z' => ?_) e4
      subst z'
      subst e2
      cases a with
      | dat d => cases e3
      | box o1 b1 => exact n (h.dis j i _ _ _ _ q' z e hv hq)
  · have g : ∀ {j : Nat} {o1 : Bool} {b1 : Bx}, (ρ.set i (some (.box o b')))[j]? = some (some (.box o1 b1)) → ∃ o2 b2, ρ[j]? = some (some (.box o2 b2)) := fun {j o1 b1} e1 => by
      rcases set_get e1 with ⟨rfl, z⟩ | ⟨n, z⟩
      · exact ⟨o, b, e⟩
      · exact ⟨o1, b1, z⟩
    obtain ⟨_, _, g1⟩ := g e1
    obtain ⟨_, _, g2⟩ := g e2
    exact h.dis j k _ _ _ _ q' g1 g2 e3 e4
  · obtain ⟨u, z⟩ := h.prot a z; exact tr a u z
  · have z1 := h.keep a u z n
    refine s a u (fun z2 => ?_) z1
    subst z2
    rcases h.pb bat with y | y
    · rw [y] at z; cases z
    · exact n y
  · obtain ⟨u', z1⟩ := h.there a u z; exact tr a u' z1
  · by_cases ej : j = i
    · subst ej; exact ⟨_, List.getElem?_set_self hi⟩
    · exact ⟨a, by rw [List.getElem?_set_ne (Ne.symm ej)]; exact e1⟩
end
/-- a method that changes its list -/
def rMut (K : PySem.W.Frag) (g : Bx → List D → Option (D × Bx)) : V → List V → Hp → VK → Prop := fun x xs H Q => ∃ N q b ds d b', x = .ref q ∧ Trk N H ∧ N q ∧ BoxOk K N H q b ∧ RepL K N H xs ds ∧ g b ds = some (d, b') ∧
  ∀ v H', BoxOk K N H' q b' → (∀ a u, a ≠ q → H a = some u → H' a = some u) → Rep K N H' v d → Q v H'
def mmut (T : String) (i : Nat) (g : Bx → List D → Option (D × Bx)) (ms : MA) : ME := fun ρ => (bxAt ρ i).bind fun b0 => (guardO (tyD T b0.2.dat)).bind fun _ => (ms ρ).bind fun x => (fzs x.2 x.1).bind fun y => (bxAt y.2 i).bind fun b => (g b.2 y.1).bind fun z =>
  some (.dat z.1, y.2.set i (some (.box b.1 z.2)))
section
variable {G : GC} {S : SC} {e : Expr} {es : List Expr} {ms : MA}
theorem rdmut {K : PySem.W.Frag} {T : String} {i : Nat} {g : Bx → List D → Option (D × Bx)} {σ : L2.St} {H : Hp} {Q : VK} (h : rd K (mmut T i g ms) σ H Q) : tVar i σ H fun x H1 => tyV K T x H1 ∧ rdA K ms σ H1 fun xs H2 => rMut K g x xs H2 Q := by
  obtain ⟨W, ρ, r, ρ', rel, em, q⟩ := h
  unfold mmut at em
  obtain ⟨⟨o0, b0⟩, e1, em⟩ := Option.bind_eq_some_iff.mp em
  obtain ⟨u, e2, em⟩ := Option.bind_eq_some_iff.mp em
  obtain ⟨⟨rs, ρ1⟩, e3, em⟩ := Option.bind_eq_some_iff.mp em
  obtain ⟨⟨ds, ρ2⟩, e4, em⟩ := Option.bind_eq_some_iff.mp em
  obtain ⟨⟨o, b⟩, e5, em⟩ := Option.bind_eq_some_iff.mp em
  obtain ⟨⟨d, b'⟩, e6, em⟩ := Option.bind_eq_some_iff.mp em
  cases em
  obtain ⟨a, hq, bo, _⟩ := rel.boxOk (bxAt_some e1)
  refine ⟨_, hq, SRep.ty (.inr ⟨a, b0, rfl, rfl, bo⟩) (guardO_some e2), W, ρ, rs, ρ1, rel, e3, fun xs H1 p1 f1 => ?_⟩
  obtain ⟨p2, rl⟩ := fzs_ok p1.rel f1 e4
  obtain ⟨a2, hq2, bo2, at2, _⟩ := p2.rel.boxOk (bxAt_some e5)
  rw [hq] at hq2; cases hq2
  refine ⟨Av W.P ρ2 σ, a, b, ds, d, b', rfl, p2.rel.trk, .inr at2, bo2, rl, e6, fun v H' h1 h2 h3 => ?_⟩
  have p3 := p2.rel.chBox (bxAt_some e5) hq h1 h2
  have p := (p1.trans p2).trans p3
  exact q v H' ⟨p, Rep.evo (mono_av fun c z => z.imp id (p3.sub c)) _ _ h3, p.rel.pl0 fun _ z => z⟩
theorem de_mut {x name : Str} {T id : String} {opos apos cpos : Pos} {i : Nat} {g : Bx → List D → Option (D × Bx)} (pa : PlainAttrs T) (slot : Slot T name id) (hty : typeOf (.builtin id) = pure (.type "method_descriptor")) (hm : ∀ X, CxOk G S X → MtR X id (rMut G.K g))
    (hN : S.N[i]? = some x) (hv : Vis S.sc x) (hd : (x == ("__debug__" : Str)) = false) (hcd : (x == ("__classdict__" : Str)) = false) (ha : DA G S (e :: es) ms)
    (hbase : ∀ env : PySem.Env, attributeBase (.Name x opos) name env (eval (.Name x opos) env) = eval (.Name x opos) env)
    (hfew : ∀ env : PySem.Env, ((backTo cpos (starEach (e :: es) env)).all (fun x => !x.1) && (backToKw cpos (keywordEach [] env)).all (fun x => x.1.isSome)
      && decide ((e :: es).length + ([] : List Keyword).length + (if ([] : List Keyword).isEmpty then 0 else 1) < 30)) = true)
    (hline : (apos.endLine == cpos.line) = true) (hs : ∀ env : PySem.Env, starEach (e :: es) env = (false, eval e env) :: starEach es env) (hplain : ∀ env : PySem.Env, (backTo cpos (starEach es env)).any (·.1) = false) :
    DE G S (.Call (.Attribute (.Name x opos) name apos) (e :: es) [] cpos) (mmut T i g ms) :=
  fun X c => PE.weak (pe_bm pa slot hty (hm X c) (pe_var (i := i) (by rw [c.N]; exact hN) (by rw [c.sc]; exact hv) hd hcd) (ha X c) (hbase _) (hfew _) hline (hs _) (hplain _)) fun σ H Q q => by
    have z := rdmut q
    rw [← c.K] at z ⊢
    exact z
theorem de_mut0 {x name : Str} {T id : String} {opos apos cpos : Pos} {i : Nat} {g : Bx → List D → Option (D × Bx)} (pa : PlainAttrs T) (slot : Slot T name id) (hty : typeOf (.builtin id) = pure (.type "method_descriptor")) (hm : ∀ X, CxOk G S X → MtR X id (rMut G.K g))
    (hN : S.N[i]? = some x) (hv : Vis S.sc x) (hd : (x == ("__debug__" : Str)) = false) (hcd : (x == ("__classdict__" : Str)) = false)
    (hbase : ∀ env : PySem.Env, attributeBase (.Name x opos) name env (eval (.Name x opos) env) = eval (.Name x opos) env) (hline : (apos.endLine == cpos.line) = true) :
    DE G S (.Call (.Attribute (.Name x opos) name apos) [] [] cpos) (mmut T i g mnil) :=
  fun X c => PE.weak (pe_bm0 pa slot hty (hm X c) (pe_var (i := i) (by rw [c.N]; exact hN) (by rw [c.sc]; exact hv) hd hcd) (hbase _) hline) fun σ H Q q => by
    have z := rdmut q
    rw [← c.K] at z ⊢
    obtain ⟨v, h1, h2, h3⟩ := z
    refine ⟨v, h1, h2, ?_⟩
    obtain ⟨W2, ρ2, rs, ρ3, rel2, e2, f2⟩ := h3
    cases e2
    exact f2 [] H (PostX.refl rel2) .nil
end

/-! more statements -/
section
variable {G : GC} {S : SC} {st : Stmt} {sts rest : List Stmt} {e a b : Expr} {pos pos' : Pos} {m ma mb : ME} {mt : MT} {mx my : MS}
theorem rdasg {K : PySem.W.Frag} {i : Nat} {D : Ends} {σ : L2.St} {H : Hp} (h : rdS K (masg i m) D σ H) : rd K m σ H fun v H1 => D.nx (σ.set i (some v)) H1 := by
  obtain ⟨W, ρ, o, ρ', rel, em, q⟩ := h
  unfold masg at em
  obtain ⟨⟨r, ρ1⟩, e1, em⟩ := Option.bind_eq_some_iff.mp em
  obtain ⟨u, e2, em⟩ := Option.bind_eq_some_iff.mp em
  obtain ⟨ρ2, e3, em⟩ := Option.map_eq_some_iff.mp em
  cases em
  exact ⟨W, ρ, r, ρ1, rel, e1, fun v H1 p1 => q _ H1 (sto_ok rel p1 (guardO_some e2) e3)⟩
/-- name = e, by the scope alone -/
theorem ds_asgS {i : Nat} {x : Str} (h : StoOk S i x) (he : DE G S e m) (hs : ∀ env : PySem.Env, env.scope = S.sc → swapsWith e (some (.Name x pos')) pos.line env = pure false) : DS G S (.Assign [.Name x pos'] e pos) (masg i m) := fun X c =>
  PS.weak (ps_set (i := i) c.nd (by rw [c.N]; exact h.1) (by rw [c.sc]; exact h.2.1) (he X c) (hs _ c.sc) (by rw [c.sc, c.fn]; exact h.2.2)) fun D σ H q => rdasg q
/-- name = [..] on one line, the name a local -/
theorem ds_setLc {i : Nat} {y : Str} {py : Pos} {elt tg iter : Expr} {ifs : List Expr} {scope : Scope} {own : List (Str × Nat)} {spos : Pos} {mi : MI} {g : MG} {is : List Nat} {t : MT} (hy : S.N[i]? = some y) (hyl : S.sc.names.lookup y = some .local) (hk : S.sc.kind = .function)
    (hl : (py.line == pos.line) = true) (hn : (scope.names.any fun (n, k) => n == y && (k == .local || k == .cell)) = false)
    (hi : DI G S tg iter mi) (ok : BlkOk S.N S.sc scope own)
    (hg : DG G (S.blk scope) tg is g) (ht : DTs G (S.blk scope) ifs t) (he : DE G (S.blk scope) elt m) (hsub : ∀ i ∈ is, i ∈ own.map (·.2)) (st : GStay g is) (hs : ∀ (env : PySem.Env) x, foldedSetIterable iter env x = pure x) :
    DS G S (.Assign [.Name y py] (.ListComp elt [⟨tg, iter, ifs, 0⟩] scope pos) spos) (masg i (mlc mi g t m (own.map (·.2)))) := by
  intro X c
  refine PS.weak (ps_setLc (i := i) c.calm c.nd (by rw [c.N]; exact hy) (by rw [c.sc]; exact hyl) (sw_true (by rw [c.sc]; exact hk) (by rw [c.sc]; exact hyl) hl hn) (hi X c) (by rw [c.N, c.sc]; exact ok) (fun s H C cl fp => hg _ (c.blk scope s H C cl fp)) (fun s H C cl fp => ht _ (c.blk scope s H C cl fp)) (fun s H C cl fp => he _ (c.blk scope s H C cl fp)) (hs _)) ?_
  exact fun D σ H q => lcrd hsub st σ H _ (rdasg q)
/-- a, b = x, y -/
def mpar (i j : Nat) (ma mb : ME) : MS := fun ρ => (ma ρ).bind fun x => (mb x.2).bind fun y => (guardO (notBor y.2 i && notBor y.2 j)).bind fun _ => match x.1, y.1 with
  | .ref _, _ => none
  | _, .ref _ => none
  | r, r' => (stoR y.2 i r).bind fun ρ1 => (stoR ρ1 j r').map fun ρ2 => (.nx, ρ2)
theorem stoP {K : PySem.W.Frag} {W : Wd} {ρ ρ2 : En} {σ : L2.St} {H : Hp} {r : R} {v : V} {i : Nat} (hi : i < ρ.length) (h : DRel K (W.pl (exR r v)) ρ σ H)
    (hd : ∀ d, r = .dat d → Rep K (Av W.P ρ σ) H v d) (hn : ∀ b, r = .new b → ∃ q, v = .ref q ∧ W.H0 q = none ∧ ¬ W.P q ∧ BoxOk K (fun a => Av W.P ρ σ a ∨ a = q) H q b) (hr : ∀ j, r ≠ .ref j) (e : stoR ρ i r = some ρ2) :
    DRel K W ρ2 (σ.set i (some v)) H ∧ (∀ a, BoxAt ρ2 (σ.set i (some v)) a → BoxAt ρ σ a ∨ exR r v a) ∧ ρ2.length = ρ.length := by
  cases r with
  | dat d =>
    cases e
    have p := DRel.setDat (W := W) h.unpl hi (hd d rfl)
    refine ⟨p.rel, fun a z => ?_, by simp⟩
    rcases p.new a z with y | y
    · exact .inl y
    · obtain ⟨o, y'⟩ := p.rel.boxThere z; rw [y] at y'; cases y'
  | new b =>
    cases e
    obtain ⟨q, rfl, h0, hp, bo⟩ := hn b rfl
    obtain ⟨h1, h2⟩ := DRel.setNew (W := W) (q := q) (b := b) h hi bo h0 hp
    exact ⟨h1, fun a z => (h2 a z).imp id fun z => by rw [z]; rfl, by simp⟩
  | ref j => exact (hr j rfl).elim
theorem par_core {K : PySem.W.Frag} {W : Wd} {ρ ρ1 ρ2 ρ3 ρ4 : En} {σ : L2.St} {H H1 H2 : Hp} {ra rb : R} {xv yv : V} {i j : Nat} (rel : DRel K W ρ σ H) (p1 : PostE K W ρ σ H ra ρ1 xv H1) (p2 : PostE K (W.pl (exR ra xv)) ρ1 σ H1 rb ρ2 yv H2)
    (nb : notBor ρ2 i = true ∧ notBor ρ2 j = true) (hra : ∀ j, ra ≠ .ref j) (hrb : ∀ j, rb ≠ .ref j) (e4 : stoR ρ2 i ra = some ρ3) (e5 : stoR ρ3 j rb = some ρ4) : PostC K W ρ σ H ρ4 ((σ.set i (some xv)).set j (some yv)) H2 := by
  have fr1 : ∀ a, exR ra xv a → H a = none := fun a z => by
    have y := p1.res
    cases ra with
    | dat d => exact z.elim
    | new b => obtain ⟨q, h1, h2, h3⟩ := y; cases h1; cases z; exact h2
    | ref i => exact z.elim
  have th1 : ∀ a, exR ra xv a → ∃ o, H1 a = some o := fun a z => by
    have y := p1.res
    cases ra with
    | dat d => exact z.elim
    | new b => obtain ⟨q, h1, h2, h3⟩ := y; cases h1; cases z; exact h3.there
    | ref i => exact z.elim
  have fr2 : ∀ a, exR rb yv a → H1 a = none := fun a z => by
    have y := p2.res
    cases rb with
    | dat d => exact z.elim
    | new b => obtain ⟨q, h1, h2, h3⟩ := y; cases h1; cases z; exact h2
    | ref i => exact z.elim
  have h0 : ∀ a, H a = none → W.H0 a = none ∧ ¬ W.P a := fun a z => by
    refine ⟨?_, fun y => ?_⟩
    · cases h : W.H0 a with
      | none => rfl
      | some o => obtain ⟨o', h'⟩ := rel.there a o h; rw [z] at h'; cases h'
    · obtain ⟨o, h'⟩ := rel.prot a y; rw [z] at h'; cases h'
  have ev1 : Evo (Av (W.pl (exR ra xv)).P ρ1 σ) H1 (Av ((W.pl (exR ra xv)).pl (exR rb yv)).P ρ2 σ) H2 := ⟨fun a o h n => p2.ext a o h fun z => n (.inr z), fun a z => by
    rcases z with (z | z) | z
    · exact .inl (.inl z)
    · exact .inr (fr2 a z)
    · exact .inl (.inr (p2.sub a z))⟩
  have rsw : DRel K ((W.pl (exR rb yv)).pl (exR ra xv)) ρ2 σ H2 := p2.relE.lessP (fun a z => by
    rcases z with (z | z) | z
    · exact .inl (.inl z)
    · exact .inr z
    · exact .inl (.inr z)) rfl rfl
  obtain ⟨r3, s3, l3⟩ := stoP (W := W.pl (exR rb yv)) (i := i) (notBor_lt nb.1) rsw (fun d e => by
      subst e
      exact Rep.evo (mono_av fun a z => z.elim (fun z => z.elim (fun z => .inl (.inl (.inl z))) fun z => .inl (.inr z)) .inr) _ _ (Rep.evo (N := Av W.P ρ1 σ) (H := H1) (N1 := Av ((W.pl (exR (.dat d) xv)).pl (exR rb yv)).P ρ2 σ) ⟨fun a o h n => p2.ext a o h fun z => n (.inr z), fun a z => by
        rcases z with (z | z) | z
        · exact .inl (z.elim .inl fun z => z.elim)
        · exact .inr (fr2 a z)
        · exact .inl (.inr (p2.sub a z))⟩ _ _ p1.res)) (fun b e => by
      subst e
      obtain ⟨q1, rfl, g1, g2⟩ := p1.res
      have n1 : ¬ BoxAt ρ1 σ q1 := p1.relE.pdis q1 (.inr rfl)
      refine ⟨q1, rfl, (h0 q1 g1).1, fun z => ?_, g2.evo (N1 := fun a => Av (W.pl (exR rb yv)).P ρ2 σ a ∨ a = q1) ⟨fun a o h n => p2.ext a o h fun z => n (.inl (.inr z)), fun a z => ?_⟩ fun o h => p2.ext q1 o h n1⟩
      · rcases z with z | z
        · exact (h0 q1 g1).2 z
        · obtain ⟨o, y⟩ := th1 q1 rfl
          rw [fr2 q1 z] at y; cases y
      · rcases z with ((z | z) | z) | z
        · exact .inl (.inl (.inl z))
        · exact .inr (fr2 a z)
        · exact .inl (.inl (.inr (p2.sub a z)))
        · exact .inl (.inr z)) hra e4
  obtain ⟨r4, s4, l4⟩ := stoP (W := W) (i := j) (by rw [l3]; exact notBor_lt nb.2) r3 (fun d e => by
      subst e
      refine Rep.evo (mono_av fun a z => ?_) _ _ p2.res
      rcases z with z | z
      · exact .inl (.inl z)
      · rcases s3 a z with z | z
        · exact .inr z
        · exact .inl (.inr z)) (fun b e => by
      subst e
      obtain ⟨q2, rfl, g1, g2⟩ := p2.res
      have hq : H q2 = none := p1.free g1
      refine ⟨q2, rfl, (h0 q2 hq).1, (h0 q2 hq).2, g2.evo (mono_av fun a z => ?_) fun _ z => z⟩
      rcases z with (z | z) | z
      · exact .inl (.inl (.inl z))
      · rcases s3 a z with z | z
        · exact .inl (.inr z)
        · exact .inl (.inl (.inr z))
      · exact .inr z) hrb e5
  refine ⟨r4, fun a o h n => p2.ext a o (p1.ext a o h n) fun z => n (p1.sub a z), fun a o h => ?_, fun a z => ?_⟩
  · obtain ⟨o', h'⟩ := p1.thr a o h
    exact p2.thr a o' h'
  · rcases s4 a z with z | z
    · rcases s3 a z with z | z
      · exact .inl (p1.sub a (p2.sub a z))
      · exact .inr (fr1 a z)
    · exact .inr (p1.free (fr2 a z))
theorem ds_par {i j : Nat} {x y : Str} {px py pt : Pos} {kt k2 pt2} (hi : S.N[i]? = some x) (hj : S.N[j]? = some y) (hij : i ≠ j) (hx : S.sc.names.lookup x = some .local) (hy : S.sc.names.lookup y = some .local)
    (ha : DE G S a ma) (hb : DE G S b mb) (hsa : ∀ env : PySem.Env, starEach [a, b] env = (false, eval a env) :: starEach [b] env) (hsb : ∀ env : PySem.Env, starEach [b] env = (false, eval b env) :: starEach [] env)
    (hw : ∀ env : PySem.Env, env.scope = S.sc → swappedStores [.Tuple [.Name x px, .Name y py] kt pt] (.Tuple [a, b] k2 pt2) env = pure (some [x, y]))
    (hs : ∀ env : PySem.Env, env.scope = S.sc → swapsWithSole [.Tuple [.Name x px, .Name y py] kt pt] (.Tuple [a, b] k2 pt2) pos.line env = pure false) :
    DS G S (.Assign [.Tuple [.Name x px, .Name y py] kt pt] (.Tuple [a, b] k2 pt2) pos) (mpar i j ma mb) := by
  intro X c
  refine PS.weak (ps_par (i := i) (j := j) c.calm c.nd (by rw [c.N]; exact hi) (by rw [c.N]; exact hj) hij (by rw [c.sc]; exact hx) (by rw [c.sc]; exact hy) (pa_cons (ha X c) (pa_cons (hb X c) pa_nil (hsb _)) (hsa _)) (hw _ c.sc) (hs _ c.sc)) ?_
  rintro D σ H ⟨W, ρ, o, ρ', rel, em, q⟩
  unfold mpar at em
  obtain ⟨⟨ra, ρ1⟩, e1, em⟩ := Option.bind_eq_some_iff.mp em
  obtain ⟨⟨rb, ρ2⟩, e2, em⟩ := Option.bind_eq_some_iff.mp em
  obtain ⟨u, e3, em⟩ := Option.bind_eq_some_iff.mp em
  have nb := guardO_some e3
  rw [Bool.and_eq_true] at nb
  have hra : (∀ j, ra ≠ .ref j) ∧ (∀ j, rb ≠ .ref j) ∧ ∃ ρ3 ρ4, stoR ρ2 i ra = some ρ3 ∧ stoR ρ3 j rb = some ρ4 ∧ (O.nx, ρ4) = (o, ρ') := by
    cases ra with
    | ref _ => cases em
    | dat d =>
      cases rb with
      | ref _ => cases em
      | dat d' =>
        obtain ⟨ρ3, e4, em⟩ := Option.bind_eq_some_iff.mp em
        obtain ⟨ρ4, e5, em⟩ := Option.map_eq_some_iff.mp em
        exact ⟨nofun, nofun, ρ3, ρ4, e4, e5, em⟩
      | new d' =>
        obtain ⟨ρ3, e4, em⟩ := Option.bind_eq_some_iff.mp em
        obtain ⟨ρ4, e5, em⟩ := Option.map_eq_some_iff.mp em
        exact ⟨nofun, nofun, ρ3, ρ4, e4, e5, em⟩
    | new d =>
      cases rb with
      | ref _ => cases em
      | dat d' =>
        obtain ⟨ρ3, e4, em⟩ := Option.bind_eq_some_iff.mp em
        obtain ⟨ρ4, e5, em⟩ := Option.map_eq_some_iff.mp em
        exact ⟨nofun, nofun, ρ3, ρ4, e4, e5, em⟩
      | new d' =>
        obtain ⟨ρ3, e4, em⟩ := Option.bind_eq_some_iff.mp em
        obtain ⟨ρ4, e5, em⟩ := Option.map_eq_some_iff.mp em
        exact ⟨nofun, nofun, ρ3, ρ4, e4, e5, em⟩
  obtain ⟨hra, hrb, ρ3, ρ4, e4, e5, em⟩ := hra
  cases em
  refine ⟨W, ρ, ra, ρ1, rel, e1, fun xv H1 p1 => ⟨W.pl (exR ra xv), ρ1, rb, ρ2, p1.relE, e2, fun yv H2 p2 => ⟨xv, yv, rfl, ?_⟩⟩⟩
  exact q _ H2 (par_core rel p1 p2 nb hra hrb e4 e5)
theorem PostC.same {K : PySem.W.Frag} {W : Wd} {ρ ρ' : En} {σ σ' : L2.St} {H H' H'' : Hp} (p : PostC K W ρ σ H ρ' σ' H') (s : ∀ a o, H' a = some o → H'' a = some o) : PostC K W ρ σ H ρ' σ' H'' :=
  ⟨(p.rel.grow (e := fun _ => False) s (fun _ z => z.elim) (fun _ z => z.elim)).lessP (fun _ z => .inl z) rfl rfl, fun a o h n => s a o (p.ext a o h n), fun a o h => by
    obtain ⟨o', h'⟩ := p.thr a o h
    exact ⟨o', s a o' h'⟩, p.new⟩
/-- x, y = (a, b) where no stores are swapped: by a tuple -/
theorem ds_parC {i j : Nat} {x y : Str} {px py pt : Pos} {kt k2 pt2} (hi : StoOk S i x) (hj : StoOk S j y)
    (ha : DE G S a ma) (hb : DE G S b mb) (hsa : ∀ env : PySem.Env, starEach [a, b] env = (false, eval a env) :: starEach [b] env) (hsb : ∀ env : PySem.Env, starEach [b] env = (false, eval b env) :: starEach [] env)
    (hw : ∀ env : PySem.Env, env.scope = S.sc → swappedStores [.Tuple [.Name x px, .Name y py] kt pt] (.Tuple [a, b] k2 pt2) env = pure none)
    (hs : ∀ env : PySem.Env, env.scope = S.sc → swapsWithSole [.Tuple [.Name x px, .Name y py] kt pt] (.Tuple [a, b] k2 pt2) pos.line env = pure false)
    (h1 : ∀ env : PySem.Env, (assignEach [.Tuple [.Name x px, .Name y py] kt pt] env).map (·.2) = [assign (.Tuple [.Name x px, .Name y py] kt pt) env])
    (hn : ∀ env : PySem.Env, (assignEach [.Name x px, .Name y py] env).length = 2) (hst : ∀ env : PySem.Env, (assignEach [.Name x px, .Name y py] env).findIdx? (·.1) = none)
    (h2 : ∀ env : PySem.Env, (assignEach [.Name x px, .Name y py] env).map (·.2) = assign (.Name x px) env :: (assignEach [.Name y py] env).map (·.2)) (h3 : ∀ env : PySem.Env, (assignEach [.Name y py] env).map (·.2) = assign (.Name y py) env :: (assignEach [] env).map (·.2)) :
    DS G S (.Assign [.Tuple [.Name x px, .Name y py] kt pt] (.Tuple [a, b] k2 pt2) pos) (mpar i j ma mb) := by
  intro X c
  refine PS.weak (ps_asg (pe_tupF (pa_cons (ha X c) (pa_cons (hb X c) pa_nil (hsb _)) (hsa _))) (pg_tup (n := 2) c.calm (pgsN_cons c hi (pgsN_cons c hj pgsN_nil (h3 _)) (h2 _)) (hn _) (hst _)) (hs _ c.sc) (hw _ c.sc) (h1 _)) ?_
  rintro D σ H ⟨W, ρ, o, ρ', rel, em, q⟩
  unfold mpar at em
  obtain ⟨⟨ra, ρ1⟩, e1, em⟩ := Option.bind_eq_some_iff.mp em
  obtain ⟨⟨rb, ρ2⟩, e2, em⟩ := Option.bind_eq_some_iff.mp em
  obtain ⟨u, e3, em⟩ := Option.bind_eq_some_iff.mp em
  have nb := guardO_some e3
  rw [Bool.and_eq_true] at nb
  have hra : (∀ j, ra ≠ .ref j) ∧ (∀ j, rb ≠ .ref j) ∧ ∃ ρ3 ρ4, stoR ρ2 i ra = some ρ3 ∧ stoR ρ3 j rb = some ρ4 ∧ (O.nx, ρ4) = (o, ρ') := by
    cases ra with
    | ref _ => cases em
    | dat d =>
      cases rb with
      | ref _ => cases em
      | dat d' =>
        obtain ⟨ρ3, e4, em⟩ := Option.bind_eq_some_iff.mp em
        obtain ⟨ρ4, e5, em⟩ := Option.map_eq_some_iff.mp em
        exact ⟨nofun, nofun, ρ3, ρ4, e4, e5, em⟩
      | new d' =>
        obtain ⟨ρ3, e4, em⟩ := Option.bind_eq_some_iff.mp em
        obtain ⟨ρ4, e5, em⟩ := Option.map_eq_some_iff.mp em
        exact ⟨nofun, nofun, ρ3, ρ4, e4, e5, em⟩
    | new d =>
      cases rb with
      | ref _ => cases em
      | dat d' =>
        obtain ⟨ρ3, e4, em⟩ := Option.bind_eq_some_iff.mp em
        obtain ⟨ρ4, e5, em⟩ := Option.map_eq_some_iff.mp em
        exact ⟨nofun, nofun, ρ3, ρ4, e4, e5, em⟩
      | new d' =>
        obtain ⟨ρ3, e4, em⟩ := Option.bind_eq_some_iff.mp em
        obtain ⟨ρ4, e5, em⟩ := Option.map_eq_some_iff.mp em
        exact ⟨nofun, nofun, ρ3, ρ4, e4, e5, em⟩
  obtain ⟨hra, hrb, ρ3, ρ4, e4, e5, em⟩ := hra
  cases em
  refine ⟨W, ρ, ra, ρ1, rel, e1, fun xv H1 p1 => ⟨W.pl (exR ra xv), ρ1, rb, ρ2, p1.relE, e2, fun yv H2 p2 => ⟨(by decide : 2 ≤ sizeLine), fun p o hp ho => ?_⟩⟩⟩
  refine ⟨p, [xv, yv], rfl, .inl (.inr ⟨o, upd_same⟩), rfl, xv, [yv], rfl, yv, [], rfl, rfl, ?_⟩
  exact q _ _ ((par_core rel p1 p2 nb hra hrb e4 e5).same (fresh_upd hp))
/-- target = e, the value taken as data -/
def masgG (g : MG) (m : ME) : MS := fun ρ => (m ρ).bind fun x => (fzs x.2 [x.1.fz]).bind fun y => match y.1 with
  | [d] => (g d y.2).map fun ρ' => (.nx, ρ')
  | _ => none
theorem ds_asgG {tg : Expr} {g : MG} {is : List Nat} (he : DE G S e m) (hg : DG G S tg is g) (hs : ∀ env : PySem.Env, env.scope = S.sc → swapsWithSole [tg] e pos.line env = pure false) (hw : ∀ env : PySem.Env, env.scope = S.sc → swappedStores [tg] e env = pure none)
    (h1 : ∀ env : PySem.Env, (assignEach [tg] env).map (·.2) = [assign tg env]) : DS G S (.Assign [tg] e pos) (masgG g m) := by
  intro X c
  refine PS.weak (ps_asg (he X c) (hg X c) (hs _ c.sc) (hw _ c.sc) (h1 _)) ?_
  rintro D σ H ⟨W, ρ, o, ρ', rel, em, q⟩
  unfold masgG at em
  obtain ⟨⟨r, ρ1⟩, e1, em⟩ := Option.bind_eq_some_iff.mp em
  obtain ⟨⟨ds, ρ2⟩, e2, em⟩ := Option.bind_eq_some_iff.mp em
  refine ⟨W, ρ, r, ρ1, rel, e1, fun v H1 p1 => ?_⟩
  have f1 : FRels G.K (Av W.P ρ1 σ) ρ1 σ H1 [r.fz] [v] := .cons (p1.res.fz p1.toPostX rel) .nil
  obtain ⟨p2, rl⟩ := fzs_ok p1.rel f1 e2
  cases rl with
  | cons r0 t =>
    cases t
    obtain ⟨ρ3, e3, em⟩ := Option.map_eq_some_iff.mp em
    cases em
    exact ⟨W, ρ2, _, _, p2.rel, r0, e3, fun σ' p3 _ => q σ' H1 ((p1.toPostX.trans p2).toPostC.trans p3)⟩
end
end L3

namespace L3
open PySem PySem.Spec PyProof.Rows L2

/-! stores into boxes -/
def dicOf : Bx → Option (List (Key × D))
  | .dic kvs => some kvs
  | .lst _ => none
def lstOf : Bx → Option (List D)
  | .lst xs => some xs
  | .dic _ => none
def oneOf : List D → Option D
  | [d] => some d
  | _ => none
theorem dicOf_some {b : Bx} {kvs : List (Key × D)} (h : dicOf b = some kvs) : b = .dic kvs := by cases b <;> cases h <;> rfl
theorem lstOf_some {b : Bx} {xs : List D} (h : lstOf b = some xs) : b = .lst xs := by cases b <;> cases h <;> rfl
theorem oneOf_some {ds : List D} {d : D} (h : oneOf ds = some d) : ds = [d] := by
  cases ds with
  | nil => cases h
  | cons a r => cases r with
    | nil => cases h; rfl
    | cons _ _ => cases h
def mputD (s : Nat) (mk mv : ME) : MS := fun ρ => (mv ρ).bind fun x => (fzs x.2 [x.1.fz]).bind fun y => (oneOf y.1).bind fun d => (bxAt y.2 s).bind fun _ => (mk y.2).bind fun z => (z.1.fz.vw z.2).bind fun dk => (keyD dk).bind fun k =>
  (bxAt z.2 s).bind fun b => (dicOf b.2).bind fun kvs => (guardO (decide (kvs.length < sizeLine))).bind fun _ => some (.nx, z.2.set s (some (.box b.1 (.dic (putKD kvs k d)))))
def mputL (s : Nat) (mk mv : ME) : MS := fun ρ => (mv ρ).bind fun x => (fzs x.2 [x.1.fz]).bind fun y => (oneOf y.1).bind fun d => (bxAt y.2 s).bind fun _ => (mk y.2).bind fun z => (intR z.2 z.1.fz).bind fun k =>
  (bxAt z.2 s).bind fun b => (lstOf b.2).bind fun xs => (ixN xs.length k).bind fun j => some (.nx, z.2.set s (some (.box b.1 (.lst (xs.set j d)))))
def isDic : Bx → Bool
  | .dic _ => true
  | .lst _ => false
def mput (s : Nat) (mk mv : ME) : MS := fun ρ => (bxAt ρ s).bind fun b => if isDic b.2 = true then mputD s mk mv ρ else mputL s mk mv ρ
theorem PS.or {X : Cx} {st : Stmt} {t u : TS} (h : PS X st t) (h' : PS X st u) : PS X st (fun D σ H => t D σ H ∨ u D σ H) := ⟨fun p s σ H D I q => q.elim (h.run p s σ H D I) (h'.run p s σ H D I)⟩
section
variable {G : GC} {S : SC} {e k v : Expr} {pos opos pos' : Pos} {m mk mv : ME} {mt : MT}
theorem RepL.set {K : PySem.W.Frag} {N : Addr → Prop} {H : Hp} : ∀ {vs : List V} {ds : List D} {v : V} {d : D} (i : Nat), RepL K N H vs ds → Rep K N H v d → RepL K N H (vs.set i v) (ds.set i d)
  | _, _, _, _, _, .nil, _ => .nil
  | _, _, _, _, 0, .cons _ t, r => .cons r t
  | _, _, _, _, i + 1, .cons q t, r => .cons q (RepL.set i t r)
theorem one_rep {K : PySem.W.Frag} {N : Addr → Prop} {H : Hp} {v : V} {ds : List D} {d : D} (h : RepL K N H [v] ds) (e : oneOf ds = some d) : Rep K N H v d := by
  have := oneOf_some e
  subst this
  cases h with
  | cons r _ => exact r
theorem rdputD {K : PySem.W.Frag} {s : Nat} {D : Ends} {σ : L2.St} {H : Hp} (h : rdS K (mputD s mk mv) D σ H) : sDPut (tVar s) (rd K mk) (rd K mv) D σ H := by
  obtain ⟨W, ρ, o, ρ', rel, em, q⟩ := h
  unfold mputD at em
  obtain ⟨⟨r, ρ1⟩, e1, em⟩ := Option.bind_eq_some_iff.mp em
  obtain ⟨⟨ds, ρ2⟩, e2, em⟩ := Option.bind_eq_some_iff.mp em
  obtain ⟨d, e3, em⟩ := Option.bind_eq_some_iff.mp em
  obtain ⟨⟨o0, b0⟩, e4, em⟩ := Option.bind_eq_some_iff.mp em
  obtain ⟨⟨rk, ρ3⟩, e5, em⟩ := Option.bind_eq_some_iff.mp em
  obtain ⟨dk, e6, em⟩ := Option.bind_eq_some_iff.mp em
  obtain ⟨kk, e7, em⟩ := Option.bind_eq_some_iff.mp em
  obtain ⟨⟨ow, b⟩, e8, em⟩ := Option.bind_eq_some_iff.mp em
  obtain ⟨kvs, e9, em⟩ := Option.bind_eq_some_iff.mp em
  obtain ⟨u, e10, em⟩ := Option.bind_eq_some_iff.mp em
  cases em
  have := dicOf_some e9
  simp only at this
  subst this
  refine ⟨W, ρ, r, ρ1, rel, e1, fun v H1 p1 => ?_⟩
  have f1 : FRels K (Av W.P ρ1 σ) ρ1 σ H1 [r.fz] [v] := .cons (p1.res.fz p1.toPostX rel) .nil
  obtain ⟨p2, rl⟩ := fzs_ok p1.rel f1 e2
  have r0 := one_rep rl e3
  obtain ⟨a, hq, _⟩ := p2.rel.boxOk (bxAt_some e4)
  refine ⟨_, hq, W, ρ2, rk, ρ3, p2.rel, e5, fun y H3 p3 => ?_⟩
  obtain ⟨a2, hq2, bo, at2, _⟩ := p3.rel.boxOk (bxAt_some e8)
  rw [hq] at hq2; cases hq2
  obtain ⟨ks, l1, l2⟩ := bo
  have ky : y = kV kk := ((p3.res.fz p3.toPostX p2.rel).read p3.rel e6).key e7
  subst ky
  have r1 := Rep.evo (p3.evo p2.rel) _ _ r0
  have hlen : ks.length < sizeLine := by
    have := l2.length
    unfold dkv at this
    rw [List.length_map] at this
    rw [this]; exact guardO_dec e10
  refine ⟨a, _, rfl, DPut.k l1 hlen, q _ _ ?_⟩
  have ev : Evo (Av W.P ρ3 σ) H3 (Av W.P ρ3 σ) (upd H3 a (.dK (putK ks kk v))) := ⟨fun c o h n => by rw [upd_ne (fun z => n (.inr (by rw [z]; exact at2)))]; exact h, fun c z => .inl z⟩
  have p4 := p3.rel.chBox (H' := upd H3 a (.dK (putK ks kk v))) (b' := .dic (putKD kvs kk d)) (bxAt_some e8) hq ⟨_, upd_same, RepK.evo ev _ _ (RepK.put kk l2 r1)⟩ fun c o n h => by rw [upd_ne n]; exact h
  exact ((p1.toPostX.trans p2).trans (p3.toPostX.trans p4)).toPostC
theorem rdputL {K : PySem.W.Frag} {s : Nat} {D : Ends} {σ : L2.St} {H : Hp} (h : rdS K (mputL s mk mv) D σ H) : tAsg (rd K mv) (gSub (tVar s) (rd K mk) rSetL) D σ H := by
  obtain ⟨W, ρ, o, ρ', rel, em, q⟩ := h
  unfold mputL at em
  obtain ⟨⟨r, ρ1⟩, e1, em⟩ := Option.bind_eq_some_iff.mp em
  obtain ⟨⟨ds, ρ2⟩, e2, em⟩ := Option.bind_eq_some_iff.mp em
  obtain ⟨d, e3, em⟩ := Option.bind_eq_some_iff.mp em
  obtain ⟨⟨o0, b0⟩, e4, em⟩ := Option.bind_eq_some_iff.mp em
  obtain ⟨⟨rk, ρ3⟩, e5, em⟩ := Option.bind_eq_some_iff.mp em
  obtain ⟨kk, e6, em⟩ := Option.bind_eq_some_iff.mp em
  obtain ⟨⟨ow, b⟩, e8, em⟩ := Option.bind_eq_some_iff.mp em
  obtain ⟨xs, e9, em⟩ := Option.bind_eq_some_iff.mp em
  obtain ⟨j, e10, em⟩ := Option.bind_eq_some_iff.mp em
  cases em
  have := lstOf_some e9
  simp only at this
  subst this
  refine ⟨W, ρ, r, ρ1, rel, e1, fun v H1 p1 => ?_⟩
  have f1 : FRels K (Av W.P ρ1 σ) ρ1 σ H1 [r.fz] [v] := .cons (p1.res.fz p1.toPostX rel) .nil
  obtain ⟨p2, rl⟩ := fzs_ok p1.rel f1 e2
  have r0 := one_rep rl e3
  obtain ⟨a, hq, _⟩ := p2.rel.boxOk (bxAt_some e4)
  refine ⟨_, hq, W, ρ2, rk, ρ3, p2.rel, e5, fun y H3 p3 => ?_⟩
  obtain ⟨a2, hq2, bo, at2, _⟩ := p3.rel.boxOk (bxAt_some e8)
  rw [hq] at hq2; cases hq2
  obtain ⟨ks, l1, l2⟩ := bo
  have ky : y = .int kk := ((p3.res.fz p3.toPostX p2.rel).read p3.rel (intR_some e6)).int
  subst ky
  have r1 := Rep.evo (p3.evo p2.rel) _ _ r0
  refine ⟨a, ks, kk, j, rfl, rfl, l1, by rw [l2.length]; exact e10, q _ _ ?_⟩
  have ev : Evo (Av W.P ρ3 σ) H3 (Av W.P ρ3 σ) (upd H3 a (.lst (ks.set j v))) := ⟨fun c o h n => by rw [upd_ne (fun z => n (.inr (by rw [z]; exact at2)))]; exact h, fun c z => .inl z⟩
  have p4 := p3.rel.chBox (H' := upd H3 a (.lst (ks.set j v))) (b' := .lst (xs.set j d)) (bxAt_some e8) hq ⟨_, upd_same, RepL.evo ev _ _ (l2.set j r1)⟩ fun c o n h => by rw [upd_ne n]; exact h
  exact ((p1.toPostX.trans p2).trans (p3.toPostX.trans p4)).toPostC
theorem ds_put {s : Nat} {x : Str} (hN : S.N[s]? = some x) (hv : Vis S.sc x) (hd : (x == ("__debug__" : Str)) = false) (hcd : (x == ("__classdict__" : Str)) = false) (hk : DE G S k mk) (hval : DE G S v mv)
    (hs : ∀ env : PySem.Env, swapsWith v (some (.Subscript (.Name x opos) k pos')) pos.line env = pure false)
    (hs2 : ∀ env : PySem.Env, swapsWithSole [.Subscript (.Name x opos) k pos'] v pos.line env = pure false) (hw : ∀ env : PySem.Env, swappedStores [.Subscript (.Name x opos) k pos'] v env = pure none)
    (h1 : ∀ env : PySem.Env, (assignEach [.Subscript (.Name x opos) k pos'] env).map (·.2) = [assign (.Subscript (.Name x opos) k pos') env])
    (ha : ∀ (env : PySem.Env) v, assign (.Subscript (.Name x opos) k pos') env v = (do
      let ov ← holding [v] (eval (.Name x opos) env)
      let iv ← holding [v, ov] (eval k env)
      standAt pos'
      holding [v, ov, iv] (setItem ov iv v)
      release [v, ov, iv] [])) : DS G S (.Assign [.Subscript (.Name x opos) k pos'] v pos) (mput s mk mv) := by
  intro X c
  have pvx : PE X (.Name x opos) (tVar s) := pe_var (by rw [c.N]; exact hN) (by rw [c.sc]; exact hv) hd hcd
  have hu : X.A.units + 1 < cLine := hu_of c.room
  refine PS.weak (PS.or (ps_dput hu pvx (hk X c) (hval X c) (hs _)) (ps_asg (hval X c) (pg_sub pvx (hk X c) set_list (ha _)) (hs2 _) (hw _) (h1 _))) ?_
  rintro D σ H ⟨W, ρ, o, ρ', rel, em, q⟩
  unfold mput at em
  obtain ⟨⟨ow, b⟩, e1, em⟩ := Option.bind_eq_some_iff.mp em
  cases b with
  | dic kvs => exact .inl (rdputD ⟨W, ρ, o, ρ', rel, em, q⟩)
  | lst xs => exact .inr (rdputL ⟨W, ρ, o, ρ', rel, em, q⟩)

/-! name op= e (data); xs[i] op= e -/
def datOf : A → Option D
  | .dat d => some d
  | .box _ _ => none
theorem datOf_some {a : A} {d : D} (h : datOf a = some d) : a = .dat d := by cases a <;> cases h <;> rfl
def maug (i : Nat) (g : D → D → Option R) (m : ME) : MS := fun ρ => (ρ[i]?.join).bind fun a => (datOf a).bind fun d => (m ρ).bind fun y => (guardO (notBor y.2 i)).bind fun _ => (y.1.fz.vw y.2).bind fun e => (g d e).bind fun r => (stoR y.2 i r).map fun ρ' => (.nx, ρ')
theorem ds_aug {i : Nat} {x : Str} {op : Operator} {g : D → D → Option R} {xpos : Pos} (h : StoOk S i x) (he : DE G S e m) (ho : ∀ X, CxOk G S X → OpR X (inplaceOp op) (rD2 G.K g)) : DS G S (.AugAssign (.Name x xpos) op e pos) (maug i g m) := by
  intro X c
  refine PS.weak (ps_aug (i := i) (ti := rD2 G.K g) c.nd (by rw [c.N]; exact h.1) (by rw [c.sc]; exact h.2.1) (he X c) (fun pins s σ H x y v u Q I r1 r2 q => ho X c pins s σ H x y v u Q I r1 r2 q) (by rw [c.sc, c.fn]; exact h.2.2)) ?_
  rintro D σ H ⟨W, ρ, o, ρ', rel, em, q⟩
  unfold maug at em
  obtain ⟨a, e0, em⟩ := Option.bind_eq_some_iff.mp em
  obtain ⟨d, e3, em⟩ := Option.bind_eq_some_iff.mp em
  obtain ⟨⟨r, ρ1⟩, e1, em⟩ := Option.bind_eq_some_iff.mp em
  obtain ⟨u, e2, em⟩ := Option.bind_eq_some_iff.mp em
  obtain ⟨de, e4, em⟩ := Option.bind_eq_some_iff.mp em
  obtain ⟨rr, e5, em⟩ := Option.bind_eq_some_iff.mp em
  obtain ⟨ρ2, e6, em⟩ := Option.map_eq_some_iff.mp em
  cases em
  have := datOf_some e3
  subst this
  obtain ⟨v0, hv0, r0⟩ := rel.sl i _ (Option.join_eq_some_iff.mp e0)
  refine ⟨v0, hv0, W, ρ, r, ρ1, rel, e1, fun y H1 p1 => ?_⟩
  refine ⟨Av W.P ρ1 σ, d, de, rr, p1.rel.trk, .inl (Rep.evo (p1.evo rel) _ _ r0), (p1.res.fz p1.toPostX rel).read p1.rel e4, e5, fun v H' vp => ?_⟩
  exact q _ H' (sto_ok rel (p1.toPostX.fin vp) (guardO_some e2) e6)
/-- xs[i] op= e: the list's item, then e, then the store -/
def sLAug (td ty tv : TE) (rd : V → V → Hp → VK → Prop) : TS := fun D σ H => td σ H fun x H1 => ty σ H1 fun y H2 => ∃ p xs k v, x = .ref p ∧ y = .int k ∧ H2 p = some (.lst xs) ∧ 0 ≤ k ∧ k < 2 ^ 63 ∧ xs[k.toNat]? = some v ∧
  tv σ H2 fun y2 H3 => rd v y2 H3 fun z H4 => rSetL x y z H4 fun H5 => D.nx σ H5
theorem ps_laug {X : Cx} {o i value : Expr} {tpos : Pos} {td ty tv : TE} {op : Operator} {rd : V → V → Hp → VK → Prop} (ho : PE X o td) (hi : PE X i ty) (hv : PE X value tv) (hop : InOp X op rd)
    (ha : ∀ ov iv new, augStore i ov iv new = (do holding [new, ov, iv] (setItem ov iv new); release [new, ov, iv] []; pure .next)) : PS X (.AugAssign (.Subscript o i tpos) op value pos) (sLAug td ty tv rd) := by
  refine ⟨fun pins s σ H D I h => ?_⟩
  refine wpAny_AugAssign_SubscriptAny (thn (ho.run pins s σ H _ I h) fun u s1 ⟨x, H1, I1, rx, q1⟩ => thn (hi.run pins s1 σ H1 _ I1 q1) fun iv s2 ⟨y, H2, I2, ry, p, xs, k, v, ex, ey, hp, h0, h1, hx, q2⟩ => ?_) ha
  subst ex
  subst ey
  have rx0 := rx
  have ry0 := ry
  obtain rfl : u = Value.ref p := rx
  obtain ⟨t, rfl⟩ := ry
  obtain ⟨its, rv, pl, hz⟩ := I2.list (.inl (.inl hp))
  obtain ⟨w0, hw, rw0⟩ := rv.get hx
  refine wpAny_getItem_list pl.isList h0 h1 (x := w0) (by simpa using hw) ?_
  refine thn (hv.run pins s2 σ H2 _ I2 q2) fun w2 s4 ⟨y2, H3, I4, ry2, q3⟩ => thn (hop pins s4 σ H3 v y2 w0 w2 _ I4 rw0 ry2 q3) fun w3 s5 ⟨z, H4, I5, rz, q4⟩ => ?_
  exact thn (set_list pins s5 σ H4 _ _ z _ _ w3 _ I5 rx0 ry0 rz q4) fun _ s6 ⟨H5, I6, q5⟩ => ⟨σ, H5, I6, q5⟩
def maugL (s : Nat) (g : D → D → Option R) (mk mv : ME) : MS := fun ρ => (bxAt ρ s).bind fun _ => (mk ρ).bind fun z => (intR z.2 z.1.fz).bind fun k => (bxAt z.2 s).bind fun b => (lstOf b.2).bind fun xs => (guardO (decide (0 ≤ k ∧ k < 2 ^ 63))).bind fun _ => (xs[k.toNat]?).bind fun d =>
  (mv z.2).bind fun x => (x.1.fz.vw x.2).bind fun e => (g d e).bind fun r => (bxAt x.2 s).bind fun b2 => (lstOf b2.2).bind fun xs2 => (ixN xs2.length k).bind fun j => match r with
  | .dat d' => some (.nx, x.2.set s (some (.box b2.1 (.lst (xs2.set j d')))))
  | _ => none
theorem ds_augL {s : Nat} {x : Str} {op : Operator} {g : D → D → Option R} {tpos : Pos} (hN : S.N[s]? = some x) (hv : Vis S.sc x) (hd : (x == ("__debug__" : Str)) = false) (hcd : (x == ("__classdict__" : Str)) = false) (hk : DE G S k mk) (hval : DE G S v mv)
    (hop : ∀ X, CxOk G S X → OpR X (inplaceOp op) (rD2 G.K g)) (ha : ∀ ov iv new, augStore k ov iv new = (do holding [new, ov, iv] (setItem ov iv new); release [new, ov, iv] []; pure .next)) :
    DS G S (.AugAssign (.Subscript (.Name x opos) k tpos) op v pos) (maugL s g mk mv) := by
  intro X c
  have pvx : PE X (.Name x opos) (tVar s) := pe_var (by rw [c.N]; exact hN) (by rw [c.sc]; exact hv) hd hcd
  refine PS.weak (ps_laug pvx (hk X c) (hval X c) (rd := rD2 G.K g) (fun pins s σ H x y u v Q I r1 r2 q => hop X c pins s σ H x y u v Q I r1 r2 q) ha) ?_
  rintro D σ H ⟨W, ρ, o, ρ', rel, em, q⟩
  unfold maugL at em
  obtain ⟨⟨o0, b0⟩, e0, em⟩ := Option.bind_eq_some_iff.mp em
  obtain ⟨⟨rk, ρ1⟩, e1, em⟩ := Option.bind_eq_some_iff.mp em
  obtain ⟨kk, e2, em⟩ := Option.bind_eq_some_iff.mp em
  obtain ⟨⟨o1, b1⟩, e3, em⟩ := Option.bind_eq_some_iff.mp em
  obtain ⟨xs, e4, em⟩ := Option.bind_eq_some_iff.mp em
  obtain ⟨u, e5, em⟩ := Option.bind_eq_some_iff.mp em
  obtain ⟨d, e6, em⟩ := Option.bind_eq_some_iff.mp em
  obtain ⟨⟨rv, ρ2⟩, e7, em⟩ := Option.bind_eq_some_iff.mp em
  obtain ⟨de, e8, em⟩ := Option.bind_eq_some_iff.mp em
  obtain ⟨rr, e9, em⟩ := Option.bind_eq_some_iff.mp em
  obtain ⟨⟨o2, b2⟩, e10, em⟩ := Option.bind_eq_some_iff.mp em
  obtain ⟨xs2, e11, em⟩ := Option.bind_eq_some_iff.mp em
  obtain ⟨j, e12, em⟩ := Option.bind_eq_some_iff.mp em
  have t1 := lstOf_some e4
  have t2 := lstOf_some e11
  simp only at t1 t2
  subst t1
  subst t2
  cases rr with
  | new _ => cases em
  | ref _ => cases em
  | dat d' =>
    cases em
    obtain ⟨a, hq, _⟩ := rel.boxOk (bxAt_some e0)
    refine ⟨_, hq, W, ρ, rk, ρ1, rel, e1, fun y H2 p1 => ?_⟩
    obtain ⟨a1, hq1, bo1, at1, _⟩ := p1.rel.boxOk (bxAt_some e3)
    rw [hq] at hq1; cases hq1
    obtain ⟨ys, l1, l2⟩ := bo1
    have ky : y = .int kk := ((p1.res.fz p1.toPostX rel).read p1.rel (intR_some e2)).int
    subst ky
    obtain ⟨v0, hv0, r0⟩ := l2.get e6
    obtain ⟨g0, g1⟩ := guardO_dec e5
    refine ⟨a, ys, kk, v0, rfl, rfl, l1, g0, g1, hv0, W, ρ1, rv, ρ2, p1.rel, e7, fun y2 H3 p2 => ?_⟩
    refine ⟨Av W.P ρ2 σ, d, de, .dat d', p2.rel.trk, .inl (Rep.evo (p2.evo p1.rel) _ _ r0), (p2.res.fz p2.toPostX p1.rel).read p2.rel e8, e9, fun z H4 vp => ?_⟩
    have p3 := (p1.toPostX.trans p2.toPostX).fin vp
    obtain ⟨a2, hq2, bo2, at2, _⟩ := p3.rel.boxOk (bxAt_some e10)
    rw [hq] at hq2; cases hq2
    obtain ⟨zs, l3, l4⟩ := bo2
    refine ⟨a, zs, kk, j, rfl, rfl, l3, by rw [l4.length]; exact e12, q _ _ ?_⟩
    have ev : Evo (Av W.P ρ2 σ) H4 (Av W.P ρ2 σ) (upd H4 a (.lst (zs.set j z))) := ⟨fun c o h n => by rw [upd_ne (fun z => n (.inr (by rw [z]; exact at2)))]; exact h, fun c z => .inl z⟩
    have p4 := p3.rel.chBox (H' := upd H4 a (.lst (zs.set j z))) (b' := .lst (xs2.set j d')) (bxAt_some e10) hq ⟨_, upd_same, RepL.evo ev _ _ (l4.set j vp.res)⟩ fun c o n h => by rw [upd_ne n]; exact h
    exact (p3.toPostX.trans p4).toPostC

/-! while -/
def mwhN (c : MT) (b : MS) : Nat → MS
  | 0, _ => none
  | n + 1, ρ => (c ρ).bind fun x => if x.1 = true then (b x.2).bind fun y => match y.1 with
    | .nx => mwhN c b n y.2
    | .ct => mwhN c b n y.2
    | .bk => some (.nx, y.2)
    | .rt r => some (.rt r, y.2)
  else some (.nx, x.2)
open Classical in
noncomputable def mwh (c : MT) (b : MS) : MS := fun ρ => if h : ∃ n r, mwhN c b n ρ = some r then some (Classical.choose (Classical.choose_spec h)) else none
theorem mwhN_mono {c : MT} {b : MS} : ∀ {n : Nat} {ρ : En} {r : O × En}, mwhN c b n ρ = some r → ∀ k, mwhN c b (n + k) ρ = some r
  | 0, _, _, h, _ => by cases h
  | n + 1, ρ, r, h, k => by
    rw [show n + 1 + k = (n + k) + 1 by omega]
    obtain ⟨⟨t, ρ1⟩, e1, h⟩ := Option.bind_eq_some_iff.mp (show (c ρ).bind _ = _ from h)
    cases t with
    | false => simp only [mwhN, e1, Option.bind_some]; exact h
    | true =>
      rw [if_pos rfl] at h
      obtain ⟨⟨o, ρ2⟩, e2, h⟩ := Option.bind_eq_some_iff.mp h
      have e2' : b ρ1 = some (o, ρ2) := e2
      cases o with
      | nx => simp only [mwhN, e1, Option.bind_some, if_true, e2']; exact mwhN_mono h k
      | ct => simp only [mwhN, e1, Option.bind_some, if_true, e2']; exact mwhN_mono h k
      | bk => simp only [mwhN, e1, Option.bind_some, if_true, e2']; exact h
      | rt r => simp only [mwhN, e1, Option.bind_some, if_true, e2']; exact h
theorem mwh_of {c : MT} {b : MS} {n : Nat} {ρ : En} {r : O × En} (h : mwhN c b n ρ = some r) : mwh c b ρ = some r := by
  unfold mwh
  have hx : ∃ n r, mwhN c b n ρ = some r := ⟨n, r, h⟩
  rw [dif_pos hx]
  have h2 := Classical.choose_spec (Classical.choose_spec hx)
  have h3 := mwhN_mono h (Classical.choose hx)
  have h4 := mwhN_mono h2 n
  rw [Nat.add_comm] at h4
  rw [h3] at h4
  exact h4.symm
theorem mwh_some {c : MT} {b : MS} {ρ : En} {r : O × En} (h : mwh c b ρ = some r) : ∃ n, mwhN c b n ρ = some r := by
  unfold mwh at h
  split at h
  · rename_i hx
    cases h
    exact ⟨_, Classical.choose_spec (Classical.choose_spec hx)⟩
  · cases h
theorem ds_while {c : Expr} {body : List Stmt} {mc : MT} {mb : MS} (hc : DT G S c mc) (hb : DSs G S body mb) : DS G S (.While c body [] pos) (mwh mc mb) := by
  intro X cx
  refine PS.weak (ps_while (by rw [cx.xe]; exact PassesOwn.never) (hc X cx) (hb X cx)) ?_
  rintro D σ H ⟨W, ρ, o, ρ', rel, em, q⟩
  obtain ⟨n0, em⟩ := mwh_some em
  have aft : After G.K W D o ρ' ρ σ H := q
  refine ⟨fun n σ2 H2 => ∃ ρ2, PostC G.K W ρ σ H ρ2 σ2 H2 ∧ mwhN mc mb n ρ2 = some (o, ρ'), ⟨n0, ρ, PostC.refl rel, em⟩, ?_⟩
  rintro n σ2 H2 ⟨ρ2, p2, e2⟩
  cases n with
  | zero => cases e2
  | succ n =>
    obtain ⟨⟨t, ρ3⟩, e3, e2⟩ := Option.bind_eq_some_iff.mp (show (mc ρ2).bind _ = _ from e2)
    refine ⟨W, ρ2, t, ρ3, p2.rel, e3, fun H3 p3 => ?_⟩
    have p23 := p2.trans p3.toPostC
    cases t with
    | false =>
      rw [if_neg Bool.false_ne_true] at e2
      cases e2
      exact iteF (aft σ2 H3 p23)
    | true =>
      rw [if_pos rfl] at e2
      obtain ⟨⟨o4, ρ4⟩, e4, e2⟩ := Option.bind_eq_some_iff.mp e2
      refine iteT ⟨fun σ' H' => ∃ ρ5, PostC G.K W ρ σ H ρ5 σ' H' ∧ (o4 = .nx ∨ o4 = .ct) ∧ ρ5 = ρ4, fun σ' H' ⟨ρ5, p5, h5, e5⟩ => ⟨n, Nat.lt_succ_self _, ρ5, p5, ?_⟩, W, ρ3, o4, ρ4, p23.rel, e4, ?_⟩
      · rw [e5]
        rcases h5 with h5 | h5
        · subst h5; exact e2
        · subst h5; exact e2
      · cases o4 with
        | nx => exact fun σ4 H4 p5 => ⟨ρ4, p23.trans p5, .inl rfl, rfl⟩
        | ct => exact fun σ4 H4 p5 => ⟨ρ4, p23.trans p5, .inr rfl, rfl⟩
        | bk => cases e2; exact fun σ4 H4 p5 => aft σ4 H4 (p23.trans p5)
        | rt r => cases e2; exact fun v σ4 H4 p5 r5 => aft v σ4 H4 (p23.trans p5) r5
end

/-! a def's body keeps its promise -/
/-- what the parameters' boxes hold at the end -/
def outA : A → Option (Option A) → Option A
  | .dat d, _ => some (.dat d)
  | .box _ _, some (some (.box false b)) => some (.box false b)
  | .box _ _, _ => none
def outAs (ρ : En) : List A → Nat → Option (List A)
  | [], _ => some []
  | a :: as, i => (outA a ρ[i]?).bind fun x => (outAs ρ as (i + 1)).map fun xs => x :: xs
def startE (n : Nat) (as : List A) : En := as.map some ++ List.replicate (n - as.length) none
def mdef (n : Nat) (b : MS) : MF := fun as => (b (startE n as)).bind fun x => match x.1 with
  | .rt r => (outAs x.2 as 0).map fun o => (r, o)
  | .nx => (outAs x.2 as 0).map fun o => (.dat .none, o)
  | _ => none
theorem outA_box {o : Bool} {b : Bx} {x : Option (Option A)} {y : A} (h : outA (.box o b) x = some y) : ∃ b', x = some (some (.box false b')) ∧ y = .box false b' := by
  cases x with
  | none => cases h
  | some x => cases x with
    | none => cases h
    | some a => cases a with
      | dat d => cases h
      | box o' b' => cases o' with
        | true => cases h
        | false => cases h; exact ⟨b', rfl, rfl⟩
theorem outAs_get {ρ : En} : ∀ {as : List A} {i : Nat} {xs : List A}, outAs ρ as i = some xs → xs.length = as.length ∧ ∀ (j : Nat) a, as[j]? = some a → ∃ x, xs[j]? = some x ∧ outA a ρ[i + j]? = some x
  | [], _, _, h => by cases h; exact ⟨rfl, fun j a e => by simp at e⟩
  | a :: as, i, _, h => by
    obtain ⟨x, e1, h⟩ := Option.bind_eq_some_iff.mp (show (outA a ρ[i]?).bind _ = _ from h)
    obtain ⟨xs, e2, h⟩ := Option.map_eq_some_iff.mp h
    cases h
    obtain ⟨h1, h2⟩ := outAs_get e2
    refine ⟨by simp [h1], fun j b e => ?_⟩
    cases j with
    | zero => simp at e; subst e; exact ⟨x, rfl, e1⟩
    | succ j =>
      obtain ⟨y, h3, h4⟩ := h2 j b (by simpa using e)
      exact ⟨y, by simpa using h3, by rw [show i + (j + 1) = i + 1 + j by omega]; exact h4⟩

theorem startE_get {n : Nat} {as : List A} {i : Nat} {a : A} (h : (startE n as)[i]? = some (some a)) : as[i]? = some a := by
  unfold startE at h
  by_cases hi : i < as.length
  · rw [List.getElem?_append_left (by simpa using hi)] at h
    exact map_some_get h
  · rw [List.getElem?_append_right (by simpa using hi), List.getElem?_replicate] at h
    split at h <;> cases h
theorem start_get {N : List Str} {vs : List V} {i : Nat} {v : V} (h : vs[i]? = some v) : (L2.start N vs)[i]? = some (some v) := by
  unfold L2.start
  rw [List.getElem?_append_left (by simpa using (List.getElem?_eq_some_iff.mp h).1)]
  exact map_some_get' h
theorem start_get' {N : List Str} {vs : List V} {i : Nat} {v : V} (h : (L2.start N vs)[i]? = some (some v)) : vs[i]? = some v := by
  unfold L2.start at h
  by_cases hi : i < vs.length
  · rw [List.getElem?_append_left (by simpa using hi)] at h
    exact map_some_get h
  · rw [List.getElem?_append_right (by simpa using hi), List.getElem?_replicate] at h
    split at h <;> cases h
theorem startE_rel {K : PySem.W.Frag} {W : Wd} {as : List A} {vs : List V} {H : Hp} {N : List Str} (h : DRel K W (as.map some) (vs.map some) H) (hn : as.length ≤ N.length) : DRel K W (startE N.length as) (L2.start N vs) H := by
  have hl : as.length = vs.length := by simpa using h.len
  have sub : ∀ a, BoxAt (startE N.length as) (L2.start N vs) a → BoxAt (as.map some) (vs.map some) a := fun a ⟨i, o, b, e1, e2⟩ => ⟨i, o, b, map_some_get' (startE_get e1), map_some_get' (start_get' e2)⟩
  have ev : Evo (Av W.P (as.map some) (vs.map some)) H (Av W.P (startE N.length as) (L2.start N vs)) H := mono_av fun a z => z.imp id (sub a)
  refine ⟨?_, fun i a e => ?_, fun i j o b o' b' q e1 e2 e3 e4 => h.dis i j o b o' b' q (map_some_get' (startE_get e1)) (map_some_get' (startE_get e2)) (map_some_get' (start_get' e3)) (map_some_get' (start_get' e4)), h.prot, fun q z y => h.pdis q z (sub q y), h.keep, h.there⟩
  · unfold startE L2.start
    simp [hl]
  · obtain ⟨v, hv, r⟩ := h.sl i a (map_some_get' (startE_get e))
    exact ⟨v, start_get (map_some_get hv), r.evo ev fun _ _ _ _ z => z⟩
/-- the parameters at the def's end -/
theorem fn_end {K : PySem.W.Frag} {W : Wd} {as outs : List A} {vs : List V} {H0 H' : Hp} {ρ' : En} {σ' : L2.St} {r : R} {v : V} (h0 : DRel K W (as.map some) (vs.map some) H0) (hW : W.H0 = H0) (hb : ∀ (i : Nat) b, as[i]? ≠ some (A.box true b)) (hpb : ∀ a, W.PB a → BoxAt (as.map some) (vs.map some) a)
    (p : DRel K W ρ' σ' H') (ho : outAs ρ' as 0 = some outs) (rt : RtRel K W ρ' σ' H' r v) : PostF K W outs vs H0 r v H' ∧ as.map isBx = outs.map isBx := by
  have hl : as.length = vs.length := by simpa using h0.len
  obtain ⟨hlo, hg⟩ := outAs_get ho
  -- a box among the ends
  have oget : ∀ {j : Nat} {o : Bool} {b : Bx}, outs[j]? = some (.box o b) → o = false ∧ ρ'[j]? = some (some (.box false b)) ∧ ∃ b0, as[j]? = some (.box false b0) := fun {j o b} e => by
    have hj : j < as.length := by rw [← hlo]; exact (List.getElem?_eq_some_iff.mp e).1
    obtain ⟨x, h1, h2⟩ := hg j as[j] (List.getElem?_eq_getElem hj)
    rw [e] at h1; cases h1
    rw [Nat.zero_add] at h2
    have ha : as[j]? = some as[j] := List.getElem?_eq_getElem hj
    generalize as[j] = a at h2 ha
    cases a with
    | dat d => cases h2
    | box o' b' =>
      have ho' : o' = false := by cases o' with
        | false => rfl
        | true => exact (hb j b' ha).elim
      subst ho'
      obtain ⟨b1, e1, e2⟩ := outA_box h2
      cases e2
      exact ⟨rfl, e1, b', ha⟩
  have dget : ∀ {j : Nat} {d : PyData}, outs[j]? = some (.dat d) → as[j]? = some (.dat d) := fun {j d} e => by
    have hj : j < as.length := by rw [← hlo]; exact (List.getElem?_eq_some_iff.mp e).1
    obtain ⟨x, h1, h2⟩ := hg j as[j] (List.getElem?_eq_getElem hj)
    rw [e] at h1; cases h1
    rw [List.getElem?_eq_getElem hj]
    generalize as[j] = a at h2
    cases a with
    | dat d' => cases h2; rfl
    | box o' b' => obtain ⟨b1, e1, e2⟩ := outA_box h2; cases e2
  -- .. is where it was
  have addr : ∀ {j : Nat} {b : Bx}, ρ'[j]? = some (some (.box false b)) → ∀ {b0 : Bx}, as[j]? = some (.box false b0) → ∃ q, vs[j]? = some (.ref q) ∧ σ'[j]? = some (some (.ref q)) ∧ W.B j = some q := fun {j b} e {b0} ea => by
    obtain ⟨q, h1, _, _, _, h2⟩ := p.boxOk e
    obtain ⟨q2, h3, _, _, _, h4⟩ := h0.boxOk (map_some_get' ea)
    have e1 := h2 rfl
    rw [h4 rfl] at e1; cases e1
    exact ⟨_, map_some_get h3, h1, h4 rfl⟩
  have bat : ∀ a, BoxAt (outs.map some) (vs.map some) a → BorAt ρ' σ' a := fun a ⟨j, o, b, e1, e2⟩ => by
    obtain ⟨_, h1, b0, h2⟩ := oget (map_some_get e1)
    obtain ⟨q, h3, h4, _⟩ := addr h1 h2
    have := map_some_get e2
    rw [h3] at this; cases this
    exact ⟨j, b, h1, h4⟩
  have hs : as.map isBx = outs.map isBx := by
    refine List.ext_getElem? fun j => ?_
    rw [List.getElem?_map, List.getElem?_map]
    cases e : as[j]? with
    | none =>
      have : outs[j]? = none := by
        rw [List.getElem?_eq_none_iff] at e ⊢
        omega
      rw [this]
    | some a =>
      obtain ⟨x, h1, h2⟩ := hg j a e
      rw [h1]
      simp only [Option.map_some]
      cases a with
      | dat d => cases h2; rfl
      | box o b => obtain ⟨b1, e1, e2⟩ := outA_box h2; cases e2; rfl
  have exf : ∀ a, exR r v a → W.H0 a = none ∧ ¬ W.P a ∧ (∃ o, H' a = some o) ∧ ¬ BorAt ρ' σ' a := fun a z => by
    cases r with
    | dat d => exact z.elim
    | ref i => exact z.elim
    | new b =>
      obtain ⟨q, h1, h2, h3, h4, h5⟩ := rt
      cases h1
      cases z
      refine ⟨h2, h4, h3.there, fun ⟨i, b', e1, e2⟩ => ?_⟩
      obtain ⟨q', g1, g2, _⟩ := h5 i b' e1
      rw [e2] at g1; cases g1
      exact g2 rfl
  have ev : Evo (Av W.P (as.map some) (vs.map some)) H0 (Av (W.pl (exR r v)).P (outs.map some) (vs.map some)) H' := ⟨fun a o h n => p.keep a o (by rw [hW]; exact h) fun z => n (.inr (hpb a z)), fun a z => by
    rcases z with (z | z) | z
    · exact .inl (.inl z)
    · exact .inr (by rw [← hW]; exact (exf a z).1)
    · obtain ⟨j, o, b, e1, e2⟩ := z
      obtain ⟨_, h1, b0, h2⟩ := oget (map_some_get e1)
      exact .inl (.inr ⟨j, _, _, map_some_get' h2, e2⟩)⟩
  refine ⟨⟨⟨by simp [hlo, hl], fun j a e => ?_, fun j k o b o' b' q e1 e2 e3 e4 => ?_, fun a z => ?_, fun a z y => ?_, p.keep, p.there⟩, ?_⟩, hs⟩
  · have e := map_some_get e
    cases a with
    | dat d =>
      obtain ⟨v', hv, rr⟩ := h0.sl j _ (map_some_get' (dget e))
      exact ⟨v', hv, Rep.evo ev _ _ rr⟩
    | box o b =>
      obtain ⟨rfl, h1, b0, h2⟩ := oget e
      obtain ⟨q, h3, h4, h5⟩ := addr h1 h2
      refine ⟨_, map_some_get' h3, q, rfl, ?_, h5⟩
      cases r with
      | new bn =>
        obtain ⟨qn, g1, g2, g3, g4, g5⟩ := rt
        subst g1
        obtain ⟨q', k1, k2, k3⟩ := g5 j b h1
        rw [h4] at k1; cases k1
        refine k3.evo (mono_av fun a z => ?_) fun _ z => z
        rcases z with (z | z) | z
        · exact .inl (.inl z)
        · cases z; exact .inr rfl
        · exact .inl (.inr (bat a z))
      | dat d =>
        obtain ⟨q', k1, k2, _⟩ := p.boxOk h1
        rw [h4] at k1; cases k1
        refine k2.evo (mono_av fun a z => ?_) fun _ z => z
        rcases z with (z | z) | z
        · exact .inl z
        · exact z.elim
        · exact .inr (bat a z).box
      | ref i => exact rt.elim
  · obtain ⟨_, h1, b0, h2⟩ := oget (map_some_get e1)
    obtain ⟨_, h3, b1, h4⟩ := oget (map_some_get e2)
    exact h0.dis j k _ _ _ _ q (map_some_get' h2) (map_some_get' h4) e3 e4
  · rcases z with z | z
    · exact p.prot a z
    · exact (exf a z).2.2.1
  · rcases z with z | z
    · exact p.pdis a z (bat a y).box
    · exact (exf a z).2.2.2 (bat a y)
  · cases r with
    | dat d => exact Rep.evo (mono_av fun a z => z.imp id fun z => (bat a z).box) _ _ rt
    | new b =>
      obtain ⟨q, h1, h2, h3, h4, h5⟩ := rt
      exact ⟨q, h1, by rw [← hW]; exact h2, h3.evo (mono_av fun a z => z.imp (fun z => z.imp id (bat a)) id) fun _ z => z⟩
    | ref i => exact rt.elim

/-- the context of a def's body -/
theorem cxOf_ok {G : GC} {N : List Str} {qual : Str} {scope : Scope} {f : Addr} {cd : Value} {A : Around} {outer : List PySem.Env} {s : Shared} {H : Hp} {E : XK} {k : Nat} (hr : Room k (A.deeper (envOfC qual scope s.heap.objs.size f cd))) (hg : A.guards = some []) (nd : N.Nodup) :
    CxOk G ⟨N, scope, fun _ => true, k⟩ (cxOf CX0 G.prog G.w G.K G.mg G.base N qual scope f cd A outer s H E).nox where
  prog := rfl
  w := rfl
  K := rfl
  mg := rfl
  base := rfl
  N := rfl
  sc := rfl
  fn := rfl
  calm := rfl
  room := hr
  gd := by
    show (A.deeper (envOfC qual scope s.heap.objs.size f cd)).guards = some []
    rw [← hg]; rfl
  nd := nd
  xe := rfl

theorem fn_m {G : GC} {k : Nat} {f : Addr} {fd : FuncData} {x qual : Str} {st : Stmt} {N ps : List Str} {b : MS} (F : Fun G.K x qual st f fd) (S : FnScope N ps (defScope st)) (h : DSs G ⟨N, defScope st, fun _ => true, k⟩ (defBody st) b) :
    FnG G (k + 1) f fd ps (spM G.K ps.length (mdef N.length b)) := by
  obtain ⟨oc, od, kV, doc, pm, an, cdv, ct, osl, rfl, lk, hcd⟩ := F.ex
  have hpl : ps.length ≤ N.length := by have := congrArg List.length S.pre; rw [List.length_take] at this; omega
  have len : ∀ vs H Q E, spM G.K ps.length (mdef N.length b) vs H Q E → vs.length = ps.length := by
    rintro vs H Q E ⟨W, as, r, outs, h1, h2, _⟩
    have := h2.len
    simp only [List.length_map] at this
    rw [← this]; exact h1
  refine ⟨len, fun A outer s H args us vs Q E hr hgd e0 hb r hsp => ?_⟩
  have hl := len _ _ _ _ hsp
  have KX : G.K.In s.heap := e0.mod.kin.keeps fun b o e => (e0.bs b o e).1
  have lim : s.heap.NoLimit := e0.mod.nolimit.keeps fun b o e => (e0.bs b o e).1
  have hkind : ∀ y ∈ ps.zip us, (defScope st).names.lookup y.1 = some .local ∨ ((defScope st).names.lookup y.1 = some .cell ∧ ((cellsFrom (s.heap.objs.size + 1) (defScope st).names []).lookup y.1).isSome = true) := fun ⟨n, v⟩ hy => by
    rcases S.par n (List.of_mem_zip hy).1 with q | q
    · exact .inl q
    · exact .inr ⟨q, PySem.W.cellsFrom_some _ _ _ (.inl q)⟩
  refine codeAny_call_function hr.depth (KX _ _ lk) rfl S.co S.gen rfl (PySem.W.codeRec_of KX hcd) (hb _ _ _ _ ?_)
  refine wpAny_newFunctionEnv_cells S.kind hkind fun env he s1 x => ?_
  subst he
  refine ⟨lim.keeps x.toInCall.keep, codeAny_func ?_⟩
  have I : Inv (cxOf CX0 G.prog G.w G.K G.mg G.base N qual (defScope st) f cdv A outer s H E) [] (L2.start N vs) H s1 := inv_start S hr.hd e0 hl r x
  have c := cxOf_ok (G := G) (N := N) (qual := qual) (scope := defScope st) (f := f) (cd := cdv) (A := A) (outer := outer) (s := s) (H := H) (E := E) (hr.deeper _) hgd S.nd
  have hp := (h _ c).nox
  obtain ⟨W, as, rr, outs, h1, h2, h3, h4, h5, h6, h7, hq⟩ := hsp
  unfold mdef at h6
  obtain ⟨⟨o, ρ'⟩, e1, h6⟩ := Option.bind_eq_some_iff.mp h6
  have rel := startE_rel (N := N) h2 (by omega)
  have key : rdS G.K b { nx := fun _ H' => Q .non H', rt := Q } (L2.start N vs) H := by
    refine ⟨W, startE N.length as, o, ρ', rel, e1, ?_⟩
    cases o with
    | nx =>
      obtain ⟨outs', e2, e3⟩ := Option.map_eq_some_iff.mp (show (outAs ρ' as 0).map _ = _ from h6)
      cases e3
      exact fun σ' H' p => hq _ _ (fn_end h2 h3 h4 h5 p.rel e2 (r := .dat .none) (v := V.non) Rep.non).1
    | rt r1 =>
      obtain ⟨outs', e2, e3⟩ := Option.map_eq_some_iff.mp (show (outAs ρ' as 0).map _ = _ from h6)
      cases e3
      exact fun v σ' H' p rt => hq _ _ (fn_end h2 h3 h4 h5 p.rel e2 rt).1
    | bk => cases h6
    | ct => cases h6
  refine wpAny_mono (hp.run [] s1 (L2.start N vs) H _ I key) (fun fl s' hs => ?_) fun e s' hs => hs
  have fin : ∀ {σ' : L2.St} {H' : Hp} {v : V} {u : Value}, Inv (cxOf CX0 G.prog G.w G.K G.mg G.base N qual (defScope st) f cdv A outer s H E) [] σ' H' s' → RelV v u → Q v H' → CE outer G.prog G.w H s Q u s' :=
    fun {σ' H' v u} J rv q => ⟨v, H', J.os, J.bare, J.base, J.hok, rv, q⟩
  cases fl with
  | ret u =>
    obtain ⟨v, σ', H', J, rv, q⟩ := hs
    exact fin J rv q
  | next =>
    obtain ⟨σ', H', J, q⟩ := hs
    exact fin (v := V.non) (u := Value.none) J rfl q
  | brk =>
    obtain ⟨_, _, _, q⟩ := hs
    exact False.elim q
  | cont =>
    obtain ⟨_, _, _, q⟩ := hs
    exact False.elim q
/-! the law's call -/
/-- only the script is tracked -/
def scriptH (K : PySem.W.Frag) (a : Addr) (o : Obj) (xs : List V) : Hp := fun b => if b = a ∧ K.lookup a = none then some (.frz o (.lst xs)) else none
theorem scriptH_some {K : PySem.W.Frag} {a b : Addr} {o : Obj} {xs : List V} {u : HO} (h : scriptH K a o xs b = some u) : b = a ∧ K.lookup a = none ∧ u = .frz o (.lst xs) := by
  unfold scriptH at h
  split at h
  · rename_i c
    cases h
    exact ⟨c.1, c.2, rfl⟩
  · cases h
theorem rep_ints {K : PySem.W.Frag} {N : Addr → Prop} {H : Hp} : ∀ ns : List Int, RepL K N H (ns.map V.int) (ns.map PyData.int)
  | [] => .nil
  | n :: r => .cons (.int n) (rep_ints r)
theorem end_call {P : Program} {w : World} {K : PySem.W.Frag} {mg mb : Str → Option Value} {k : Nat} {fa a : Addr} {fd : FuncData} {x : Str} {m : MF} {s₁ : Shared} {vs : List Value} {ns : List Int} (KX : K.In s₁.heap) (hns : s₁.heap.Ns mainGlobals mg)
    (hb : s₁.heap.Ns builtinsNs mb) (hbb : ∀ x : Str, x ≠ "__name__" → mb x = bootBuiltins x) (hlim : s₁.heap.NoLimit) (hg : s₁.gens = #[]) (ha : s₁.heap.get? a = some { cls := .type "list", data := .seq vs.toArray }) (hi : IntsAre vs ns) (hl : ns.length ≤ 63)
    (hr : Room k callerA) (F : ∀ base : Heap, K.In base → base.Ns mainGlobals mg → FnG ⟨P, w, K, mg, base⟩ k fa fd [x] (spM K 1 m)) (hbind : ∀ (s : Shared) (u : Value), BindsTo s fd ⟨[u], []⟩ [(x, u)])
    (hm : ∃ outs, m [.dat (.list (ns.map PyData.int))] = some (.dat (.bool true), outs) ∧ outs.map isBx = [false]) :
    codeAny (model P w) callerA (.call (.ref fa) ⟨[.ref a], []⟩) (fun r s' => r = .ok (.ret (.bool true)) ∧ OldK s₁.heap s'.heap ∧ s'.os = s₁.os ∧ AllBare s'.gens) s₁ := by
  have hsz : ns.length ≤ sizeLine := by rw [sizeLine_eq]; omega
  let ob : Obj := { cls := .type "list", data := .seq vs.toArray }
  let H : Hp := scriptH K a ob (ns.map V.int)
  have hH : ∀ {b : Addr} {u : HO}, H b = some u → b = a ∧ K.lookup a = none ∧ u = .frz ob (.lst (ns.map V.int)) := fun e => scriptH_some e
  have untr : ∀ b, b ≠ a ∨ K.lookup a ≠ none → H b = none := fun b hb => by
    cases q : H b with
    | none => rfl
    | some u =>
      obtain ⟨h1, h2, _⟩ := hH q
      rcases hb with z | z
      · exact (z h1).elim
      · exact (z h2).elim
  have hok : HOk P w H s₁.heap := fun b u e => by
    obtain ⟨rfl, _, rfl⟩ := hH e
    exact ⟨ha, by rw [List.length_map]; exact hsz, vs, _, vals_ints hi, ha⟩
  -- the base: all that is not tracked
  have nsB : ∀ {b : Addr} {mm : Str → Option Value}, s₁.heap.Ns b mm → (hidT s₁.heap H).Ns b mm := fun {b mm} ⟨o, es, ep, e, d, r⟩ => by
    refine ⟨o, es, ep, hidT_get e (untr b (.inl fun z => ?_)), d, r⟩
    rw [z, ha] at e
    cases e
    have d' : Data.seq vs.toArray _ = Data.dict es ep := d
    cases d'
  have kB : K.In (hidT s₁.heap H) := fun b o e => hidT_get (KX b o e) (by
    by_cases z : b = a
    · subst z; exact untr b (.inr (by rw [e]; exact Option.some_ne_none o))
    · exact untr b (.inl z))
  have md : Mod K mg (hidT s₁.heap H) := ⟨kB, nsB hns, ⟨mb, nsB hb, hbb⟩, let ⟨mc, h1, h2⟩ := hlim; ⟨mc, nsB h1, h2⟩⟩
  have e0 : Env0 P w K mg (hidT s₁.heap H) callerA [] s₁ H := ⟨rfl, md, fun b o e => of_hidT e, Nat.le_of_eq (hidT_size _ _), trivial, fun b z => (by cases z), hok, AllBare.of_eq hg⟩
  obtain ⟨outs, em, ho⟩ := hm
  have noBox : ∀ (σ : L2.St) q, ¬ BoxAt (([A.dat (.list (ns.map PyData.int))] : List A).map some) σ q := fun σ q ⟨i, o, b, e1, _⟩ => by
    cases i with
    | zero => cases e1
    | succ i => cases e1
  have rl : DRel K ⟨fun _ => False, fun _ => none, H⟩ (([A.dat (.list (ns.map PyData.int))] : List A).map some) (([V.ref a] : List V).map some) H := by
    refine ⟨rfl, fun i z e => ?_, fun i j o b o' b' q e1 _ _ _ => ?_, fun q z => z.elim, fun q z => z.elim, fun _ _ h _ => h, fun _ o h => ⟨o, h⟩⟩
    · cases i with
      | succ i => cases e
      | zero =>
        cases e
        refine ⟨.ref a, rfl, .lst ?_ (rep_ints ns)⟩
        cases hk : K.lookup a with
        | none => exact .inl ⟨.inr ⟨ob, if_pos ⟨rfl, hk⟩⟩, fun z => z.elim id (noBox _ a)⟩
        | some o =>
          have e := KX a o hk
          rw [ha] at e
          cases e
          exact .inr ⟨vs, _, hk, by rw [hi.length]; exact hsz, vals_ints hi⟩
    · cases i with
      | zero => cases e1
      | succ i => cases e1
  have sp : spM K 1 m [.ref a] H (fun v _ => v = .bl true) fun _ _ _ => False :=
    ⟨_, _, _, outs, rfl, rl, rfl, fun i b e => (by cases i <;> cases e), fun a ⟨i, z⟩ => (by cases z), em, ho.symm, fun v H' p => by
      have z := p.res
      cases (show Rep _ _ _ _ _ from z)
      rfl⟩
  refine codeAny_mono ((F _ kB (nsB hns)).run callerA [] s₁ H ⟨[.ref a], []⟩ [.ref a] [.ref a] _ _ hr rfl e0 (hbind s₁ (.ref a)) (.cons rfl .nil) sp) fun r s' h => ?_
  cases r with
  | error e => exact h.elim
  | ok fl => cases fl with
    | ret u =>
      obtain ⟨v, H', os, bare, un, hok', rv, rfl⟩ := h
      cases rv
      refine ⟨rfl, OldK.of_keep fun b o e => ?_, os, bare⟩
      cases q : H b with
      | none => exact un.keep b o e q (fun z => by cases z) (by simp)
      | some u =>
        obtain ⟨rfl, _, rfl⟩ := hH q
        have k2 := hok' _ _ (un.frzs _ _ _ q)
        rw [ha] at e
        cases e
        exact k2.1
    | next => exact False.elim h
    | brk => exact False.elim h
    | cont => exact False.elim h
theorem walk_G {l : PySem.W.OpenLaw} {n k : Nat} {q : Program} {loose : List Str} {XP : (Str → Option Value) → Heap → Prop} {YP : World → Heap → Prop} {d : DefRec} {K : Params → PySem.W.Frag} {x : Str} {m : MF} (hn : l.most = some n) (hn63 : n ≤ 63)
    (hdf : d.params.defaults = []) (hr : Room k callerA) (hY : ∀ (w : World) (h : Heap), YP w h → (K w.params).In h)
    (F : ∀ (w : World) (mg : Str → Option Value) (fa : Addr) (h : Heap), (K w.params).In h → h.Ns mainGlobals mg → mg d.name = some (.ref fa) → ∃ fd : FuncData, (∀ (s : Shared) (u : Value), BindsTo s fd ⟨[u], []⟩ [(x, u)]) ∧
      ∀ base : Heap, (K w.params).In base → base.Ns mainGlobals mg → FnG ⟨l.prog, w, K w.params, mg, base⟩ k fa fd [x] (spM (K w.params) 1 m))
    (hm : ∀ ns : List Int, ns.length ≤ 63 → ∃ outs, m [.dat (.list (ns.map PyData.int))] = some (.dat (.bool true), outs) ∧ outs.map isBx = [false]) :
    PySem.W.WalkO q loose XP YP l.row.toRowW d [] (fun f vs => PySem.call f vs) := by
  refine Att.attach_call hn hdf fun w s₀ s₁ mg mb fa o pm cd doc a vs ns G Y ho hd hcd hmg hobj hints hlen hg => ?_
  obtain ⟨fd, hb, hF⟩ := F w mg fa _ (hY w _ Y) G.T.g hmg
  exact end_call (hY w _ Y) G.T.g G.T.b G.T.builtins G.T.nolimit hg hobj hints (Nat.le_trans hlen hn63) hr hF hb (hm ns (Nat.le_trans hlen hn63))
end L3

namespace L3
open PySem PySem.Spec PyProof.Rows L2

section
variable {K : PySem.W.Frag} {N : Addr → Prop} {H : Hp} {v : V}
theorem VPost.dat {d : D} (r : Rep K N H v d) : VPost K N H (.dat d) v H := ⟨fun _ _ z => z, r⟩
/-- a new list -/
theorem VPost.lst {p : Addr} {xs : List V} {ds : List D} (tk : Trk N H) (hp : H p = none) (r : RepL K N H xs ds) : VPost K N H (.new (.lst ds)) (.ref p) (upd H p (.lst xs)) :=
  ⟨fresh_upd hp, p, rfl, hp, xs, upd_same, RepL.evo (fresh_evo hp) _ _ r⟩
theorem VPost.tup {p : Addr} {xs : List V} {ds : List D} {o : Obj} (tk : Trk N H) (hp : H p = none) (ho : o.dict = none) (r : RepL K N H xs ds) : VPost K N H (.dat (.tuple ds)) (.ref p) (upd H p (.frz o (.tup xs))) :=
  ⟨fresh_upd hp, .tup (.inl ⟨⟨o, upd_same, ho⟩, fun z => by obtain ⟨o, e⟩ := tk _ z; rw [hp] at e; cases e⟩) (RepL.evo (fresh_evo' hp) _ _ r)⟩
theorem VPost.dic {p : Addr} {ks : List (Key × V)} {kvs : List (Key × D)} (tk : Trk N H) (hp : H p = none) (r : RepK K N H ks (dkv kvs)) : VPost K N H (.new (.dic kvs)) (.ref p) (upd H p (.dK ks)) :=
  ⟨fresh_upd hp, p, rfl, hp, ks, upd_same, RepK.evo (fresh_evo hp) _ _ r⟩
mutual
theorem Rep.dp : ∀ (d : D) (v : V), Rep K N H v d → d.canLay0 = true → Dp K H v d
  | .none, _, h, _ => by cases h; exact .non
  | .bool b, _, h, _ => by cases h; exact .bl b
  | .int i, _, h, _ => by cases h; exact .int i
  | .str x, _, h, _ => by cases h; exact .str x
  | .list ds, _, h, e => by cases h with | lst h1 h2 => exact .lst h1.sq (RepL.dp ds _ h2 (by simpa [PyData.canLay0] using e))
  | .tuple ds, _, h, e => by cases h with | tup h1 h2 => exact .tup h1.sq (RepL.dp ds _ h2 (by simpa [PyData.canLay0] using e))
  | .dict _, _, _, e => by simp [PyData.canLay0] at e
theorem RepL.dp : ∀ (ds : List D) (vs : List V), RepL K N H vs ds → PyData.canLayAll0 ds = true → DpAll K H vs ds
  | [], _, h, _ => by cases h; exact .nil
  | d :: ds, _, h, e => by
    have e' : d.canLay0 = true ∧ PyData.canLayAll0 ds = true := by simpa [PyData.canLayAll0] using e
    cases h with | cons h1 h2 => exact .cons (Rep.dp d _ h1 e'.1) (RepL.dp ds _ h2 e'.2)
end
theorem SRep.dp {d : D} (h : SRep K N H v d) (e : d.canLay0 = true) : Dp K H v d := by
  cases d with
  | list ds => obtain ⟨a, xs, rfl, h1, h2⟩ := h.list; exact .lst h1 (RepL.dp ds _ h2 (by simpa [PyData.canLay0] using e))
  | tuple ds => obtain ⟨a, xs, rfl, h1, h2⟩ := h.tuple; exact .tup h1.sq (RepL.dp ds _ h2 (by simpa [PyData.canLay0] using e))
  | dict ds => simp [PyData.canLay0] at e
  | none => rw [h.none]; exact .non
  | bool b => rw [h.bool]; exact .bl b
  | int i => rw [h.int]; exact .int i
  | str x => rw [h.str]; exact .str x
theorem SReps.one {vs : List V} {d : D} (h : SReps K N H vs [d]) : ∃ v, vs = [v] ∧ SRep K N H v d := by
  cases h with
  | cons r t => cases t; exact ⟨_, rfl, r⟩
theorem SReps.two {vs : List V} {d e : D} (h : SReps K N H vs [d, e]) : ∃ v w, vs = [v, w] ∧ SRep K N H v d ∧ SRep K N H w e := by
  cases h with
  | cons r t => cases t with
    | cons r2 t => cases t; exact ⟨_, _, rfl, r, r2⟩
theorem SReps.nil {vs : List V} (h : SReps K N H vs []) : vs = [] := by cases h; rfl
/-- a list as it stands -/
theorem SRep.listM {X : Cx} {pins : List (Addr × Obj)} {σ : L2.St} {s : Shared} {ds : List D} (I : Inv X pins σ H s) (h : SRep X.K N H v (.list ds)) :
    ∃ a xs its n, v = .ref a ∧ RepL X.K N H xs ds ∧ Vals xs its ∧ xs.length ≤ sizeLine ∧ s.heap.get? a = some { cls := .type "list", data := .seq its.toArray n } := by
  have fin : ∀ {a : Addr} {xs : List V}, ObjOk X.prog X.w H s.heap a (.lst xs) → ∃ its n, Vals xs its ∧ xs.length ≤ sizeLine ∧ s.heap.get? a = some { cls := .type "list", data := .seq its.toArray n } := fun {a xs} h => by
    obtain ⟨z, its, n, r, e⟩ := h
    exact ⟨its, n, r, z, e⟩
  rcases h with h | ⟨q, b, rfl, e, bo⟩
  · cases h with
    | lst h1 h2 =>
      rename_i a xs
      rcases h1 with ⟨h1, _⟩ | ⟨its, n, k1, k2, k3⟩
      · obtain ⟨its, n, g1, g2, g3⟩ := fin (h1.ok I.hok)
        exact ⟨a, xs, its, n, rfl, h2, g1, g2, g3⟩
      · exact ⟨a, xs, its, n, rfl, h2, k3, by rw [k3.length]; exact k2, I.kIn a _ k1⟩
  · cases b with
    | dic kvs => cases e
    | lst xs =>
      cases e
      obtain ⟨ys, e, r⟩ := bo
      obtain ⟨its, n, g1, g2, g3⟩ := fin (I.hok q _ e)
      exact ⟨q, ys, its, n, rfl, r, g1, g2, g3⟩
end

/-! arithmetic, +, * -/
def addD : D → D → Option R
  | .int i, .int j => some (.dat (.int (i + j)))
  | .str x, .str y => if x.length + y.length ≤ sizeLine then some (.dat (.str (x ++ y))) else none
  | .list xs, .list ys => if xs.length + ys.length ≤ sizeLine then some (.new (.lst (xs ++ ys))) else none
  | .tuple xs, .tuple ys => if xs.length + ys.length ≤ sizeLine then some (.dat (.tuple (xs ++ ys))) else none
  | _, _ => none
def subD : D → D → Option R
  | .int i, .int j => some (.dat (.int (i - j)))
  | _, _ => none
def mulD : D → D → Option R
  | .int i, .int j => if (-(2 ^ 64) < i ∧ i < 2 ^ 64) ∨ (-(2 ^ 64) < j ∧ j < 2 ^ 64) then some (.dat (.int (i * j))) else none
  | .list xs, .int k => if -(2 ^ 63) ≤ k ∧ k < 2 ^ 63 ∧ xs.length * k.toNat ≤ sizeLine then some (.new (.lst (List.replicate k.toNat xs).flatten)) else none
  | _, _ => none
def fdivD : D → D → Option R
  | .int i, .int j => if 0 < j ∧ j < 1073741824 then some (.dat (.int (i / j))) else none
  | _, _ => none
def modD : D → D → Option R
  | .int i, .int j => if 0 < j then some (.dat (.int (i % j))) else none
  | _, _ => none
def powD : D → D → Option R
  | .int i, .int j => if 0 ≤ j ∧ j ≤ 1000000 ∧ i.natAbs < 2 ^ 64 then some (.dat (.int (i ^ j.toNat))) else none
  | _, _ => none
section
variable {G : GC} {S : SC}
theorem RepL.rep {K : PySem.W.Frag} {N : Addr → Prop} {H : Hp} {vs : List V} {ds : List D} (h : RepL K N H vs ds) : ∀ k : Nat, RepL K N H (List.replicate k vs).flatten (List.replicate k ds).flatten
  | 0 => .nil
  | k + 1 => by
    rw [List.replicate_succ, List.replicate_succ, List.flatten_cons, List.flatten_cons]
    exact h.append (RepL.rep h k)
theorem op_addD (X : Cx) (c : CxOk G S X) : OpR X (binaryOp .Add) (rD2 G.K addD) := by
  intro pins s σ H x y v u Q I rx ry ⟨N, d, e, r, tk, hx, hy, eg, q⟩
  rw [← c.K] at hx hy q
  unfold addD at eg
  split at eg
  · cases eg
    have e1 := hx.int; have e2 := hy.int
    subst e1; subst e2
    exact op_add pins s σ H _ _ v u Q I rx ry ⟨_, _, rfl, rfl, q _ H (.dat (.int _))⟩
  · split at eg
    · cases eg
      have e1 := hx.str
      have e2 := hy.str
      subst e1
      subst e2
      exact op_add_str pins s σ H _ _ v u Q I rx ry ⟨_, _, rfl, rfl, by assumption, q _ H (.dat (.str _))⟩
    · cases eg
  · split at eg
    · cases eg
      rename_i hz
      obtain ⟨a, xs, its, n, rfl, l1, r1, z1, g1⟩ := hx.listM I
      obtain ⟨b, ys, its2, n2, rfl, l2, r2, z2, g2⟩ := hy.listM I
      cases rx
      cases ry
      have h1 := r1.length
      have h2 := r2.length
      refine PySem.P.add_list g1 g2 ?_ (by rw [List.size_toArray, List.size_toArray, ← h1, ← h2, l1.length, l2.length]; omega)
      rw [show its.toArray ++ its2.toArray = (its ++ its2).toArray by simp]
      exact ⟨.ref _, _, I.lnew (t' := s.toks) (r1.append r2) (by rw [List.length_append, l1.length, l2.length]; exact hz), rfl, q _ _ (.lst tk I.fresh (l1.append l2))⟩
    · cases eg
  · split at eg
    · cases eg
      rename_i xs ys hz
      obtain ⟨a, vs, rfl, h1, l1⟩ := hx.tuple
      obtain ⟨b, ws, rfl, h2, l2⟩ := hy.tuple
      cases rx
      cases ry
      obtain ⟨its, r1, p1, _⟩ := I.tuple h1.sq
      obtain ⟨its2, r2, p2, _⟩ := I.tuple h2.sq
      by_cases hx : vs = []
      · subst hx
        cases r1
        cases l1
        exact cat_tup0 p1 p2 ⟨.ref b, H, I, rfl, q _ H (.dat (.tup h2 l2))⟩
      · refine HT.cat_tup p1 p2 (fun z => hx (r1.nil_iff.mp z)) (fun z => ⟨.ref a, H, I, rfl, ?_⟩) (fun z => ?_) (by rw [← r1.length, ← r2.length, l1.length, l2.length]; exact hz)
        · have z2 := r2.nil_iff.mp z
          subst z2
          cases l2
          rw [List.append_nil] at q
          exact q _ H (.dat (.tup h1 l1))
        · exact ⟨.ref s.heap.objs.size, _, ftup_new (t' := s.toks) I (r1.append r2) (by rw [List.length_append, l1.length, l2.length]; exact hz), rfl, q _ _ (.tup tk I.fresh rfl (l1.append l2))⟩
    · cases eg
  · cases eg
theorem op_int2 {op : Operator} {g : D → D → Option R} {C : Int → Int → Prop} {f : Int → Int → Int} (X : Cx) (c : CxOk G S X) (ho : OpR X (binaryOp op) (rI C fun i j => .int (f i j))) (hg : ∀ d e r, g d e = some r → ∃ i j, d = .int i ∧ e = .int j ∧ C i j ∧ r = .dat (.int (f i j))) : OpR X (binaryOp op) (rD2 G.K g) := by
  intro pins s σ H x y v u Q I rx ry ⟨N, d, e, r, tk, hx, hy, eg, q⟩
  obtain ⟨i, j, rfl, rfl, hc, rfl⟩ := hg d e r eg
  have e1 := hx.int
  have e2 := hy.int
  subst e1
  subst e2
  exact ho pins s σ H _ _ v u Q I rx ry ⟨i, j, rfl, rfl, hc, q _ H (.dat (.int _))⟩
theorem iop_int2 {op : Operator} {g : D → D → Option R} {f : Int → Int → Int} (X : Cx) (c : CxOk G S X) (ho : OpR X (inplaceOp op) (rI0 fun i j => .int (f i j))) (hg : ∀ d e r, g d e = some r → ∃ i j, d = .int i ∧ e = .int j ∧ r = .dat (.int (f i j))) : OpR X (inplaceOp op) (rD2 G.K g) := by
  intro pins s σ H x y v u Q I rx ry ⟨N, d, e, r, tk, hx, hy, eg, q⟩
  obtain ⟨i, j, rfl, rfl, rfl⟩ := hg d e r eg
  have e1 := hx.int
  have e2 := hy.int
  subst e1
  subst e2
  exact ho pins s σ H _ _ v u Q I rx ry ⟨i, j, rfl, rfl, q _ H (.dat (.int _))⟩
def addI : D → D → Option R
  | .int i, .int j => some (.dat (.int (i + j)))
  | _, _ => none
theorem iop_addI (X : Cx) (c : CxOk G S X) : OpR X (inplaceOp .Add) (rD2 G.K addI) := iop_int2 X c iop_add fun d e r h => by
  cases d <;> cases e <;> first | (cases h; exact ⟨_, _, rfl, rfl, rfl⟩) | cases h
theorem iop_subI (X : Cx) (c : CxOk G S X) : OpR X (inplaceOp .Sub) (rD2 G.K subD) := iop_int2 X c iop_sub fun d e r h => by
  cases d <;> cases e <;> first | (cases h; exact ⟨_, _, rfl, rfl, rfl⟩) | cases h
theorem op_subD (X : Cx) (c : CxOk G S X) : OpR X (binaryOp .Sub) (rD2 G.K subD) := by
  intro pins s σ H x y v u Q I rx ry ⟨N, d, e, r, tk, hx, hy, eg, q⟩
  unfold subD at eg
  split at eg
  · cases eg
    have e1 := hx.int
    have e2 := hy.int
    subst e1
    subst e2
    exact op_sub pins s σ H _ _ v u Q I rx ry ⟨_, _, rfl, rfl, q _ H (.dat (.int _))⟩
  · cases eg
theorem op_fdivD (X : Cx) (c : CxOk G S X) : OpR X (binaryOp .FloorDiv) (rD2 G.K fdivD) := op_int2 X c op_fdiv fun d e r h => by
  unfold fdivD at h
  split at h
  · split at h
    · cases h; exact ⟨_, _, rfl, rfl, by assumption, rfl⟩
    · cases h
  · cases h
theorem op_modD (X : Cx) (c : CxOk G S X) : OpR X (binaryOp .Mod) (rD2 G.K modD) := op_int2 X c op_mod fun d e r h => by
  unfold modD at h
  split at h
  · split at h
    · cases h; exact ⟨_, _, rfl, rfl, by assumption, rfl⟩
    · cases h
  · cases h
theorem op_powD (X : Cx) (c : CxOk G S X) : OpR X (binaryOp .Pow) (rD2 G.K powD) := op_int2 X c op_pow fun d e r h => by
  unfold powD at h
  split at h
  · split at h
    · cases h; exact ⟨_, _, rfl, rfl, by assumption, rfl⟩
    · cases h
  · cases h
theorem op_mulD (X : Cx) (c : CxOk G S X) : OpR X (binaryOp .Mult) (rD2 G.K mulD) := by
  intro pins s σ H x y v u Q I rx ry ⟨N, d, e, r, tk, hx, hy, eg, q⟩
  rw [← c.K] at hx hy q
  unfold mulD at eg
  split at eg
  · split at eg
    · cases eg
      have e1 := hx.int
      have e2 := hy.int
      subst e1
      subst e2
      exact op_mul pins s σ H _ _ v u Q I rx ry ⟨_, _, rfl, rfl, by assumption, q _ H (.dat (.int _))⟩
    · cases eg
  · split at eg
    · cases eg
      rename_i ds k hk
      obtain ⟨h1, h2, hz⟩ := hk
      have e2 := hy.int
      subst e2
      obtain ⟨l, xs, its, n, rfl, l1, r1, z1, g1⟩ := hx.listM I
      cases rx
      obtain ⟨t, rfl⟩ := ry
      have hl := r1.length
      have hlen : its.toArray.size * k.toNat ≤ sizeLine := by rw [List.size_toArray, ← hl, l1.length]; exact hz
      have hcap : ¬ its.toArray.size * k.toNat > (2 ^ 63 - 1) / 8 := by
        have : (sizeLine : Nat) ≤ (2 ^ 63 - 1) / 8 := by decide
        omega
      have hfit : ¬ (!Builtin.List.listFitsIndex k) = true := by rw [fitsIndex_both h1 h2]; exact Bool.false_ne_true
      have hlong : ¬ Builtin.List.listTooLong (its.toArray.size * k.toNat) = true := by rw [notLongL hlen]; exact Bool.false_ne_true
      have f0 : ∀ m : Nat, List.foldl (fun x1 x2 => x1 ++ x2) #[] (List.replicate m its.toArray) = (List.replicate m its).flatten.toArray := fun m => by
        have := foldl_rep its m []
        rw [List.nil_append] at this
        exact this
      have hnew : List.foldl (fun x1 x2 => x1 ++ x2) #[] (List.replicate (if its.toArray.isEmpty = true then 0 else k.toNat) its.toArray) = (List.replicate k.toNat its).flatten.toArray := by
        rw [f0]
        cases its with
        | nil => simp
        | cons a r' => rw [if_neg (by simp)]
      refine wpAny_binaryOp_repeat_ref (T := "list") (U := "int") (by decide) ⟨_, g1, rfl⟩ (fun s' => typeIs_int s' k t) noFill_list_mul F.fills_int_mul F.slot_int_rmul repeat_list F.slot_int_index.lookup
        (call_meets F.slot_int_rmul (typeIs_int s k t) F.entry_int_rmul (F.args_int_rmul_2 _ _) (int___rmul___int_list k t l its.toArray n)
          ⟨g1, rfl, ⟨_, g1, rfl⟩, call_meets F.slot_list_mul ⟨_, g1, rfl⟩ F.entry_list_mul (F.args_list_mul_2 _ _) (AutoListH.list___mul___list_int_3 l its.toArray n k t hfit hcap hlong) ⟨g1, ?_⟩⟩)
      rw [hnew]
      exact ⟨.ref _, _, I.lnew (t' := s.toks) (r1.rep k.toNat) (by rw [PyProof.Rows.lm_len_rep_flat, Nat.mul_comm, l1.length]; exact hz), rfl, q _ _ (.lst tk I.fresh (l1.rep k.toNat))⟩
    · cases eg
  · cases eg

/-! comparisons -/
def scalD : D → D → Bool
  | .int _, .int _ => true
  | .str _, .str _ => true
  | .bool _, .bool _ => true
  | .none, .none => true
  | _, _ => false
/-- what == may be asked of -/
def eqOk (d e : D) : Bool := scalD d e || (SeqAt.shaped d && SeqAt.shaped e)
def eqD (d e : D) : Option R := if eqOk d e = true then some (.dat (.bool (PyData.eqv d e))) else none
def neD (d e : D) : Option R := if eqOk d e = true then some (.dat (.bool (!PyData.eqv d e))) else none
theorem scal_rep {K : PySem.W.Frag} {N : Addr → Prop} {H : Hp} {v w : V} {d e : D} (hx : SRep K N H v d) (hy : SRep K N H w e) (h : scalD d e = true) : scal v w = true ∧ decide (v = w) = PyData.eqv d e := by
  cases d <;> cases e <;> first
    | exact absurd (show false = true from h) Bool.false_ne_true
    | (rw [hx.none, hy.none]; exact ⟨rfl, rfl⟩)
    | (rw [hx.bool, hy.bool]; exact ⟨rfl, by rw [dec_bl]; simp [PyData.eqv]⟩)
    | (rw [hx.int, hy.int]; exact ⟨rfl, by rw [dec_int]; simp [PyData.eqv]⟩)
    | (rw [hx.str, hy.str]; exact ⟨rfl, by rw [Bool.eq_iff_iff]; simp [PyData.eqv]⟩)
theorem op_eqD' (X : Cx) (c : CxOk G S X) : OpR X (compareOp .Eq) (rD2 G.K eqD) := by
  intro pins s σ H x y v u Q I rx ry ⟨N, d, e, r, tk, hx, hy, eg, q⟩
  rw [← c.K] at hx hy q
  unfold eqD at eg
  split at eg
  · cases eg
    rename_i h
    unfold eqOk at h
    rcases Bool.or_eq_true_iff.mp h with h | h
    · obtain ⟨h1, h2⟩ := scal_rep hx hy h
      exact op_eq pins s σ H x y v u Q I rx ry ⟨h1, by rw [h2]; exact q _ H (.dat (.bl _))⟩
    · obtain ⟨h1, h2⟩ := Bool.and_eq_true_iff.mp h
      exact op_eqD c.room.units pins s σ H x y v u Q I rx ry ⟨d, e, hx.dp (SeqAt.canLay_of_shaped h1), hy.dp (SeqAt.canLay_of_shaped h2), h1, h2, q _ H (.dat (.bl _))⟩
  · cases eg
theorem op_neD' (X : Cx) (c : CxOk G S X) : OpR X (compareOp .NotEq) (rD2 G.K neD) := by
  intro pins s σ H x y v u Q I rx ry ⟨N, d, e, r, tk, hx, hy, eg, q⟩
  rw [← c.K] at hx hy q
  unfold neD at eg
  split at eg
  · cases eg
    rename_i h
    unfold eqOk at h
    rcases Bool.or_eq_true_iff.mp h with h | h
    · obtain ⟨h1, h2⟩ := scal_rep hx hy h
      exact op_ne pins s σ H x y v u Q I rx ry ⟨h1, by rw [h2]; exact q _ H (.dat (.bl _))⟩
    · obtain ⟨h1, h2⟩ := Bool.and_eq_true_iff.mp h
      exact op_neD c.room.units pins s σ H x y v u Q I rx ry ⟨d, e, hx.dp (SeqAt.canLay_of_shaped h1), hy.dp (SeqAt.canLay_of_shaped h2), h1, h2, q _ H (.dat (.bl _))⟩
  · cases eg
def ltD : D → D → Option R
  | .int i, .int j => some (.dat (.bool (decide (i < j))))
  | .str x, .str y => some (.dat (.bool (decide (x.cps.toList < y.cps.toList))))
  | _, _ => none
def leD : D → D → Option R
  | .int i, .int j => some (.dat (.bool (decide (i ≤ j))))
  | .str x, .str y => some (.dat (.bool (!decide (y.cps.toList < x.cps.toList))))
  | _, _ => none
def gtD (d e : D) : Option R := ltD e d
def geD (d e : D) : Option R := match d, e with
  | .int i, .int j => some (.dat (.bool (decide (j ≤ i))))
  | .str x, .str y => some (.dat (.bool (!decide (x.cps.toList < y.cps.toList))))
  | _, _ => none
theorem op_ltD (X : Cx) (c : CxOk G S X) : OpR X (compareOp .Lt) (rD2 G.K ltD) := by
  intro pins s σ H x y v u Q I rx ry ⟨N, d, e, r, tk, hx, hy, eg, q⟩
  unfold ltD at eg
  split at eg
  · cases eg
    have e1 := hx.int; have e2 := hy.int
    subst e1; subst e2
    exact op_lt pins s σ H _ _ v u Q I rx ry ⟨_, _, rfl, rfl, q _ H (.dat (.bl _))⟩
  · cases eg
    have e1 := hx.str; have e2 := hy.str
    subst e1; subst e2
    exact op_lt_str pins s σ H _ _ v u Q I rx ry ⟨_, _, rfl, rfl, q _ H (.dat (.bl _))⟩
  · cases eg
theorem op_leD (X : Cx) (c : CxOk G S X) : OpR X (compareOp .LtE) (rD2 G.K leD) := by
  intro pins s σ H x y v u Q I rx ry ⟨N, d, e, r, tk, hx, hy, eg, q⟩
  unfold leD at eg
  split at eg
  · cases eg
    have e1 := hx.int; have e2 := hy.int
    subst e1; subst e2
    exact op_le pins s σ H _ _ v u Q I rx ry ⟨_, _, rfl, rfl, q _ H (.dat (.bl _))⟩
  · cases eg
    have e1 := hx.str; have e2 := hy.str
    subst e1; subst e2
    exact op_le_str pins s σ H _ _ v u Q I rx ry ⟨_, _, rfl, rfl, q _ H (.dat (.bl _))⟩
  · cases eg
theorem op_gtD (X : Cx) (c : CxOk G S X) : OpR X (compareOp .Gt) (rD2 G.K gtD) := by
  intro pins s σ H x y v u Q I rx ry ⟨N, d, e, r, tk, hx, hy, eg, q⟩
  unfold gtD ltD at eg
  split at eg
  · cases eg
    have e1 := hx.int; have e2 := hy.int
    subst e1; subst e2
    exact op_gt pins s σ H _ _ v u Q I rx ry ⟨_, _, rfl, rfl, q _ H (.dat (.bl _))⟩
  · cases eg
    have e1 := hx.str; have e2 := hy.str
    subst e1; subst e2
    exact op_gt_str pins s σ H _ _ v u Q I rx ry ⟨_, _, rfl, rfl, q _ H (.dat (.bl _))⟩
  · cases eg
theorem op_geD (X : Cx) (c : CxOk G S X) : OpR X (compareOp .GtE) (rD2 G.K geD) := by
  intro pins s σ H x y v u Q I rx ry ⟨N, d, e, r, tk, hx, hy, eg, q⟩
  unfold geD at eg
  split at eg
  · cases eg
    have e1 := hx.int; have e2 := hy.int
    subst e1; subst e2
    exact op_ge pins s σ H _ _ v u Q I rx ry ⟨_, _, rfl, rfl, q _ H (.dat (.bl _))⟩
  · cases eg
    have e1 := hx.str; have e2 := hy.str
    subst e1; subst e2
    exact op_ge_str pins s σ H _ _ v u Q I rx ry ⟨_, _, rfl, rfl, q _ H (.dat (.bl _))⟩
  · cases eg
end
end L3

namespace L3
open PySem PySem.Spec PyProof.Rows L2

/-! flat data -/
def flatD : D → Bool
  | .none => true
  | .bool _ => true
  | .int _ => true
  | .str _ => true
  | _ => false
section
variable {K : PySem.W.Frag} {N : Addr → Prop} {H : Hp} {v w : V} {d e : D}
theorem SRep.flat (h : SRep K N H v d) (f : flatD d = true) : flatV v = true := by
  cases d with
  | none => rw [h.none]; rfl
  | bool _ => rw [h.bool]; rfl
  | int _ => rw [h.int]; rfl
  | str _ => rw [h.str]; rfl
  | list _ => cases f
  | tuple _ => cases f
  | dict _ => cases f
theorem SRep.eqv (hx : SRep K N H v d) (hy : SRep K N H w e) (f : flatD d = true) (g : flatD e = true) : eqV v w = PyData.eqv d e := by
  have key : ∀ (d : D) (v : V), SRep K N H v d → flatD d = true → (d = .none ∧ v = .non) ∨ (∃ b, d = .bool b ∧ v = .bl b) ∨ (∃ i, d = .int i ∧ v = .int i) ∨ ∃ x, d = .str x ∧ v = .str x := by
    intro d v h f
    cases d with
    | none => exact .inl ⟨rfl, h.none⟩
    | bool b => exact .inr (.inl ⟨b, rfl, h.bool⟩)
    | int i => exact .inr (.inr (.inl ⟨i, rfl, h.int⟩))
    | str x => exact .inr (.inr (.inr ⟨x, rfl, h.str⟩))
    | list _ => cases f
    | tuple _ => cases f
    | dict _ => cases f
  rcases key d v hx f with ⟨rfl, rfl⟩ | ⟨b, rfl, rfl⟩ | ⟨i, rfl, rfl⟩ | ⟨x, rfl, rfl⟩ <;> rcases key e w hy g with ⟨rfl, rfl⟩ | ⟨b, rfl, rfl⟩ | ⟨i, rfl, rfl⟩ | ⟨x, rfl, rfl⟩ <;> simp [eqV, PyData.eqv]
theorem RepL.flat : ∀ {vs : List V} {ds : List D}, RepL K N H vs ds → ds.all flatD = true → vs.all flatV = true
  | _, _, .nil, _ => rfl
  | _, _, .cons r t, f => by
    rw [List.all_cons, Bool.and_eq_true] at f ⊢
    exact ⟨SRep.flat (.inl r) f.1, RepL.flat t f.2⟩
theorem RepL.inVs (hx : SRep K N H w e) (g : flatD e = true) : ∀ {vs : List V} {ds : List D}, RepL K N H vs ds → ds.all flatD = true → L2.inV w vs = ds.any fun z => PyData.eqv z e
  | _, _, .nil, _ => rfl
  | _, _, .cons r t, f => by
    rw [List.all_cons, Bool.and_eq_true] at f
    show (eqV _ w || L2.inV w _) = _
    rw [List.any_cons, RepL.inVs hx g t f.2, SRep.eqv (.inl r) hx f.1 g]
def seq2D : D → Option (List D)
  | .list ds => some ds
  | .tuple ds => some ds
  | _ => none
theorem SRep.seq {ds : List D} (h : SRep K N H v d) (e : seq2D d = some ds) : ∃ a xs, v = .ref a ∧ (SqL K H a xs ∨ SqT K H a xs) ∧ RepL K N H xs ds := by
  cases d with
  | list _ => cases e; obtain ⟨a, xs, rfl, h1, h2⟩ := h.list; exact ⟨a, xs, rfl, .inl h1, h2⟩
  | tuple _ => cases e; obtain ⟨a, xs, rfl, h1, h2⟩ := h.tuple; exact ⟨a, xs, rfl, .inr h1.sq, h2⟩
  | none => cases e
  | bool _ => cases e
  | int _ => cases e
  | str _ => cases e
  | dict _ => cases e
end

theorem hu65 {A : Around} {k : Nat} (r : Room k A) : A.units + 65 < cLine := by have := r.un; omega
/-! in, not in -/
def inOkS (x : D) (ds : List D) : Bool := (flatD x && ds.all flatD) || (SeqAt.shaped x && PyData.canLayAll0 ds)
def dictKv : D → Option (List (D × D))
  | .dict kvs => some kvs
  | _ => none
/-- of a dict as data: the value at a key -/
def valD : List (D × D) → Key → Option D
  | [], _ => none
  | (a, d) :: r, k => if keyD a = some k then some d else valD r k
def inB (x y : D) : Option Bool := match y with
  | .list ds => if inOkS x ds = true then some (ds.any fun z => PyData.eqv z x) else none
  | .tuple ds => if inOkS x ds = true then some (ds.any fun z => PyData.eqv z x) else none
  | .dict kvs => match x with
    | .none => some false
    | _ => (keyD x).bind fun k => some (valD kvs k).isSome
  | .str z => match x with
    | .str y => some (!(Builtin.Str.occurrences z y 0 z.length 1).isEmpty)
    | _ => none
  | _ => none
def inD (x y : D) : Option R := (inB x y).bind fun b => some (.dat (.bool b))
def notInD (x y : D) : Option R := (inB x y).bind fun b => some (.dat (.bool (!b)))
theorem RepK.valD {K : PySem.W.Frag} {N : Addr → Prop} {H : Hp} {k : Key} : ∀ {ks : List (Key × V)} {kvs : List (D × D)}, RepK K N H ks kvs → (∀ d, valD kvs k = some d → ∃ v, valV ks k = some v ∧ Rep K N H v d) ∧ (valD kvs k = none → valV ks k = none)
  | _, _, .nil => ⟨fun d e => (by cases e), fun _ => rfl⟩
  | _, _, .cons (k := k') (v := v') r t => by
    have ih := RepK.valD (k := k) t
    by_cases e : k' = k
    · rw [valV_pos (p := (k', v')) e]
      have e2 : keyD (kD k') = some k := by rw [keyD_kD, e]
      constructor
      · intro d z
        unfold L3.valD at z
        rw [if_pos e2] at z
        cases z
        exact ⟨_, rfl, r⟩
      · intro z
        unfold L3.valD at z
        rw [if_pos e2] at z
        cases z
    · rw [valV_neg (p := (k', v')) e]
      have e2 : keyD (kD k') ≠ some k := by rw [keyD_kD]; exact fun z => e (Option.some.inj z)
      unfold L3.valD
      rw [if_neg e2]
      exact ih
section
variable {G : GC} {S : SC}
theorem RepK.isSome {K : PySem.W.Frag} {N : Addr → Prop} {H : Hp} {k : Key} {ks : List (Key × V)} {kvs : List (D × D)} (h : RepK K N H ks kvs) : (valV ks k).isSome = (L3.valD kvs k).isSome := by
  obtain ⟨h1, h2⟩ := h.valD (k := k)
  cases e : L3.valD kvs k with
  | none => rw [h2 e]; rfl
  | some d => obtain ⟨v, e2, _⟩ := h1 d e; rw [e2]; rfl
theorem op_inD' (X : Cx) (c : CxOk G S X) : OpR X (compareOp .In) (rD2 G.K inD) := by
  intro pins s σ H x y v u Q I rx ry ⟨N, d, e, r, tk, hx, hy, eg, q⟩
  rw [← c.K] at hx hy q
  unfold inD at eg
  obtain ⟨b, eb, eg⟩ := Option.bind_eq_some_iff.mp eg
  cases eg
  have q' := q _ H (.dat (.bl b))
  clear q
  cases e with
  | list ds =>
    unfold inB at eb
    simp only at eb
    split at eb
    · cases eb
      rename_i h
      unfold inOkS at h
      rcases Bool.or_eq_true_iff.mp h with h | h
      · obtain ⟨h1, h2⟩ := Bool.and_eq_true_iff.mp h
        obtain ⟨a, xs, rfl, s1, r1⟩ := hy.list
        exact op_in_seq pins s σ H x _ v u Q I rx ry ⟨a, xs, rfl, .inl s1, hx.flat h1, r1.flat h2, by rw [if_neg Bool.false_ne_true, RepL.inVs hx h1 r1 h2]; exact q'⟩
      · obtain ⟨h1, h2⟩ := Bool.and_eq_true_iff.mp h
        obtain ⟨as, r1⟩ := Dp.reads I d x v (hx.dp (SeqAt.canLay_of_shaped h1)) rx
        obtain ⟨bs, r2⟩ := Dp.reads I (.list ds) y u (hy.dp h2) ry
        exact SeqAt.in_list_reads r2 r1 h2 (SeqAt.canLay_of_shaped h1) (room_in_shaped h1 (hu65 c.room)) ⟨.bl _, H, I, rfl, q'⟩
    · cases eb
  | tuple ds =>
    unfold inB at eb
    simp only at eb
    split at eb
    · cases eb
      rename_i h
      unfold inOkS at h
      rcases Bool.or_eq_true_iff.mp h with h | h
      · obtain ⟨h1, h2⟩ := Bool.and_eq_true_iff.mp h
        obtain ⟨a, xs, rfl, s1, r1⟩ := hy.tuple
        exact op_in_seq pins s σ H x _ v u Q I rx ry ⟨a, xs, rfl, .inr s1.sq, hx.flat h1, r1.flat h2, by rw [if_neg Bool.false_ne_true, RepL.inVs hx h1 r1 h2]; exact q'⟩
      · obtain ⟨h1, h2⟩ := Bool.and_eq_true_iff.mp h
        obtain ⟨as, r1⟩ := Dp.reads I d x v (hx.dp (SeqAt.canLay_of_shaped h1)) rx
        obtain ⟨bs, r2⟩ := Dp.reads I (.tuple ds) y u (hy.dp h2) ry
        exact SeqAt.in_tuple_reads r2 r1 h2 (SeqAt.canLay_of_shaped h1) (room_in_shaped h1 (hu65 c.room)) ⟨.bl _, H, I, rfl, q'⟩
    · cases eb
  | dict kvs =>
    obtain ⟨a, ks, rfl, h1, r1⟩ := hy.dict
    cases ry
    by_cases hn : d = .none
    · subst hn
      cases eb
      have ex := hx.none
      subst ex
      cases rx
      exact d_inNone I (.inl h1) fun s' I' => ⟨.bl _, H, I', rfl, q'⟩
    · have eb' : ((keyD d).bind fun k => some (L3.valD kvs k).isSome) = some b := by
        cases d <;> first | exact eb | exact absurd rfl hn
      obtain ⟨k, ek, eb'⟩ := Option.bind_eq_some_iff.mp eb'
      cases eb'
      have ex := hx.key ek
      subst ex
      exact d_in (hu_of c.room) I (DGet.k (k := k) h1) rx fun s' I' => ⟨.bl _, H, I', rfl, by rw [r1.isSome]; exact q'⟩
  | str z =>
    cases d <;> first
      | (cases eb
         have e1 := hx.str; have e2 := hy.str
         subst e1; subst e2
         exact op_in_str pins s σ H _ _ v u Q I rx ry ⟨_, _, rfl, rfl, q'⟩)
      | cases eb
  | none => cases eb
  | bool _ => cases eb
  | int _ => cases eb
theorem op_notInD' (X : Cx) (c : CxOk G S X) : OpR X (compareOp .NotIn) (rD2 G.K notInD) := by
  intro pins s σ H x y v u Q I rx ry ⟨N, d, e, r, tk, hx, hy, eg, q⟩
  rw [← c.K] at hx hy q
  unfold notInD at eg
  obtain ⟨b, eb, eg⟩ := Option.bind_eq_some_iff.mp eg
  cases eg
  have q' := q _ H (.dat (.bl (!b)))
  clear q
  cases e with
  | list ds =>
    unfold inB at eb
    simp only at eb
    split at eb
    · cases eb
      rename_i h
      unfold inOkS at h
      rcases Bool.or_eq_true_iff.mp h with h | h
      · obtain ⟨h1, h2⟩ := Bool.and_eq_true_iff.mp h
        obtain ⟨a, xs, rfl, s1, r1⟩ := hy.list
        exact op_notIn_seq pins s σ H x _ v u Q I rx ry ⟨a, xs, rfl, .inl s1, hx.flat h1, r1.flat h2, by rw [if_pos rfl, RepL.inVs hx h1 r1 h2]; exact q'⟩
      · obtain ⟨h1, h2⟩ := Bool.and_eq_true_iff.mp h
        obtain ⟨as, r1⟩ := Dp.reads I d x v (hx.dp (SeqAt.canLay_of_shaped h1)) rx
        obtain ⟨bs, r2⟩ := Dp.reads I (.list ds) y u (hy.dp h2) ry
        exact SeqAt.notIn_list_reads r2 r1 h2 (SeqAt.canLay_of_shaped h1) (room_in_shaped h1 (hu65 c.room)) ⟨.bl _, H, I, rfl, q'⟩
    · cases eb
  | tuple ds =>
    unfold inB at eb
    simp only at eb
    split at eb
    · cases eb
      rename_i h
      unfold inOkS at h
      rcases Bool.or_eq_true_iff.mp h with h | h
      · obtain ⟨h1, h2⟩ := Bool.and_eq_true_iff.mp h
        obtain ⟨a, xs, rfl, s1, r1⟩ := hy.tuple
        exact op_notIn_seq pins s σ H x _ v u Q I rx ry ⟨a, xs, rfl, .inr s1.sq, hx.flat h1, r1.flat h2, by rw [if_pos rfl, RepL.inVs hx h1 r1 h2]; exact q'⟩
      · obtain ⟨h1, h2⟩ := Bool.and_eq_true_iff.mp h
        obtain ⟨as, r1⟩ := Dp.reads I d x v (hx.dp (SeqAt.canLay_of_shaped h1)) rx
        obtain ⟨bs, r2⟩ := Dp.reads I (.tuple ds) y u (hy.dp h2) ry
        exact SeqAt.notIn_tuple_reads r2 r1 h2 (SeqAt.canLay_of_shaped h1) (room_in_shaped h1 (hu65 c.room)) ⟨.bl _, H, I, rfl, q'⟩
    · cases eb
  | dict kvs =>
    obtain ⟨a, ks, rfl, h1, r1⟩ := hy.dict
    cases ry
    by_cases hn : d = .none
    · subst hn
      cases eb
      have ex := hx.none
      subst ex
      cases rx
      exact d_notInNone I (.inl h1) fun s' I' => ⟨.bl _, H, I', rfl, q'⟩
    · have eb' : ((keyD d).bind fun k => some (L3.valD kvs k).isSome) = some b := by
        cases d <;> first | exact eb | exact absurd rfl hn
      obtain ⟨k, ek, eb'⟩ := Option.bind_eq_some_iff.mp eb'
      cases eb'
      have ex := hx.key ek
      subst ex
      exact d_notIn (hu_of c.room) I (DGet.k (k := k) h1) rx fun s' I' => ⟨.bl _, H, I', rfl, by rw [r1.isSome]; exact q'⟩
  | str z =>
    cases d <;> first
      | (cases eb
         have e1 := hx.str; have e2 := hy.str
         subst e1; subst e2
         exact op_notIn_str pins s σ H _ _ v u Q I rx ry ⟨_, _, rfl, rfl, q'⟩)
      | cases eb
  | none => cases eb
  | bool _ => cases eb
  | int _ => cases eb

/-! is None -/
def isNoD (d : D) : Bool := match d with
  | .none => true
  | _ => false
def isD (d e : D) : Option R := match e with
  | .none => some (.dat (.bool (isNoD d)))
  | _ => none
def isNotD (d e : D) : Option R := match e with
  | .none => some (.dat (.bool (!isNoD d)))
  | _ => none
theorem SRep.isNo {K : PySem.W.Frag} {N : Addr → Prop} {H : Hp} {v : V} {d : D} (h : SRep K N H v d) : decide (v = .non) = isNoD d := by
  cases d with
  | none => rw [h.none]; rfl
  | bool _ => rw [h.bool]; rfl
  | int _ => rw [h.int]; rfl
  | str _ => rw [h.str]; rfl
  | list _ => obtain ⟨a, xs, rfl, _⟩ := h.list; rfl
  | tuple _ => obtain ⟨a, xs, rfl, _⟩ := h.tuple; rfl
  | dict _ => obtain ⟨a, xs, rfl, _⟩ := h.dict; rfl
theorem op_isD (X : Cx) (c : CxOk G S X) : OpR X (compareOp .Is) (rD2 G.K isD) := by
  intro pins s σ H x y v u Q I rx ry ⟨N, d, e, r, tk, hx, hy, eg, q⟩
  cases e <;> first | cases eg | skip
  have e2 := hy.none
  subst e2
  exact op_isN pins s σ H _ _ v u Q I rx ry ⟨rfl, by rw [hx.isNo]; exact q _ H (.dat (.bl _))⟩
theorem op_isNotD (X : Cx) (c : CxOk G S X) : OpR X (compareOp .IsNot) (rD2 G.K isNotD) := by
  intro pins s σ H x y v u Q I rx ry ⟨N, d, e, r, tk, hx, hy, eg, q⟩
  cases e <;> first | cases eg | skip
  have e2 := hy.none
  subst e2
  exact op_notN pins s σ H _ _ v u Q I rx ry ⟨rfl, by rw [hx.isNo]; exact q _ H (.dat (.bl _))⟩

/-! a[b] -/
def ixD (d i : D) : Option R := match d with
  | .list ds => match i with
    | .int i => (atI ds i).bind fun d => some (.dat d)
    | _ => none
  | .tuple ds => match i with
    | .int i => (atI ds i).bind fun d => some (.dat d)
    | _ => none
  | .str z => match i with
    | .int i => if z.length ≤ sizeLine then (atI z.cps.toList i).bind fun c => some (.dat (.str ⟨#[c]⟩)) else none
    | _ => none
  | .dict kvs => (keyD i).bind fun k => (valD kvs k).bind fun d => some (.dat d)
  | _ => none
theorem RepL.atI {K : PySem.W.Frag} {N : Addr → Prop} {H : Hp} {vs : List V} {ds : List D} {i : Int} {d : D} (h : RepL K N H vs ds) (e : atI ds i = some d) : ∃ v, atI vs i = some v ∧ Rep K N H v d := by
  unfold L2.atI at e ⊢
  obtain ⟨j, e1, e2⟩ := Option.bind_eq_some_iff.mp e
  obtain ⟨v, e3, r⟩ := h.get e2
  rw [h.length, e1]
  exact ⟨v, e3, r⟩
theorem ix_D (X : Cx) (c : CxOk G S X) : IxR X (rD2 G.K ixD) := by
  intro value slice pins s σ H x y v u Q I rx ry ⟨N, d, e, r, tk, hx, hy, eg, q⟩ hs
  rw [← c.K] at hx hy q
  cases d with
  | list ds =>
    unfold ixD at eg
    simp only at eg
    split at eg
    · obtain ⟨z, ez, eg⟩ := Option.bind_eq_some_iff.mp eg
      cases eg
      have e2 := hy.int
      subst e2
      obtain ⟨a, xs, rfl, h1, r1⟩ := hx.list
      obtain ⟨w, ew, rw1⟩ := r1.atI ez
      exact ix_list value slice pins s σ H _ _ v u Q I rx ry ⟨a, xs, _, w, rfl, rfl, h1, ew, q _ H (.dat rw1)⟩ hs
    · cases eg
  | tuple ds =>
    unfold ixD at eg
    simp only at eg
    split at eg
    · obtain ⟨z, ez, eg⟩ := Option.bind_eq_some_iff.mp eg
      cases eg
      have e2 := hy.int
      subst e2
      obtain ⟨a, xs, rfl, h1, r1⟩ := hx.tuple
      obtain ⟨w, ew, rw1⟩ := r1.atI ez
      exact ix_tup value slice pins s σ H _ _ v u Q I rx ry ⟨a, xs, _, w, rfl, rfl, h1.sq, ew, q _ H (.dat rw1)⟩ hs
    · cases eg
  | str z =>
    unfold ixD at eg
    simp only at eg
    split at eg
    · split at eg
      · obtain ⟨k, ez, eg⟩ := Option.bind_eq_some_iff.mp eg
        cases eg
        have e1 := hx.str
        have e2 := hy.int
        subst e1
        subst e2
        exact ix_str value slice pins s σ H _ _ v u Q I rx ry ⟨_, _, k, rfl, rfl, by assumption, ez, q _ H (.dat (.str _))⟩ hs
      · cases eg
    · cases eg
  | dict kvs =>
    obtain ⟨k, ek, eg⟩ := Option.bind_eq_some_iff.mp eg
    obtain ⟨z, ez, eg⟩ := Option.bind_eq_some_iff.mp eg
    cases eg
    have e2 := hy.key ek
    subst e2
    obtain ⟨a, ks, rfl, h1, r1⟩ := hx.dict
    obtain ⟨w, ew, rw1⟩ := (r1.valD (k := k)).1 z ez
    cases rx
    have g : DGet H a (kV k) (some w) := by rw [← ew]; exact DGet.k h1
    exact tail_any (dict_typeIs I g) PySem.F.slot_dict_getitem.lookup (d_getItem (hu_of c.room) I g ry fun w' s3 I3 rw' => ⟨w, H, I3, rw', q _ H (.dat rw1)⟩) hs
  | none => cases eg
  | bool _ => cases eg
  | int _ => cases eg

/-! a[lo:hi] -/
def cutL {α : Type} (xs : List α) (lo hi : Option Int) : List α := (xs.drop (HT.sIx xs.length 0 lo)).take (HT.sIx xs.length xs.length hi - HT.sIx xs.length 0 lo)
def slD (d : D) (lo hi : Option Int) : Option R := match d with
  | .list ds => some (.new (.lst (cutL ds lo hi)))
  | .tuple ds => some (.dat (.tuple (cutL ds lo hi)))
  | .str z => if z.length ≤ sizeLine then some (.dat (.str (cutS z lo hi))) else none
  | _ => none
theorem RepL.cut {K : PySem.W.Frag} {N : Addr → Prop} {H : Hp} {vs : List V} {ds : List D} (h : RepL K N H vs ds) (lo hi : Option Int) : RepL K N H (cutV vs lo hi) (cutL ds lo hi) := by
  unfold cutV cutL
  rw [h.length]
  exact (h.drop _).take _
theorem sl_D (X : Cx) (c : CxOk G S X) : SlR X (rDs G.K slD) := by
  intro pins s σ H x v vl vu lo hi sl Q I rx hs pl pu ⟨N, d, r, tk, hx, eg, q⟩
  rw [← c.K] at hx q
  cases d with
  | list ds =>
    cases eg
    obtain ⟨a, xs, rfl, h1, r1⟩ := hx.list
    exact sl_list pins s σ H _ v vl vu lo hi sl Q I rx hs pl pu ⟨a, xs, rfl, h1, fun p hp => q _ _ (.lst tk hp (r1.cut lo hi))⟩
  | tuple ds =>
    cases eg
    obtain ⟨a, xs, rfl, h1, r1⟩ := hx.tuple
    cases rx
    obtain ⟨its, rr, ht, hz⟩ := I.tuple h1.sq
    have hlen : its.toArray.size = xs.length := by rw [List.size_toArray]; exact rr.length.symm
    by_cases hw : HT.sIx xs.length 0 lo = 0 ∧ HT.sIx xs.length xs.length hi = xs.length
    · refine ⟨"tuple", _, PyProof.Rows.slot_tuple_getitem.lookup, ht.typeIs, ?_⟩
      have e : cutL ds lo hi = ds := by
        unfold cutL
        rw [r1.length] at hw
        rw [hw.1, hw.2, List.drop_zero, Nat.sub_zero, List.take_length]
      rw [e] at q
      exact getItem_tuple_whole ht hs pl pu (by rw [hlen]; exact hw) ⟨.ref a, H, I, rfl, q _ H (.dat (.tup h1 r1))⟩
    · refine ⟨"tuple", _, PyProof.Rows.slot_tuple_getitem.lookup, ht.typeIs, ?_⟩
      refine HT.getItem_tuple_cut ht hs pl pu (by rw [hlen]; exact hw) ?_ (by rw [hlen]; exact hz)
      rw [hlen]
      exact ⟨.ref s.heap.objs.size, _, ftup_new (t' := s.toks) I ((rr.drop (HT.sIx xs.length 0 lo)).take (HT.sIx xs.length xs.length hi - HT.sIx xs.length 0 lo)) (Nat.le_trans (cutV_length xs lo hi) hz), rfl, q _ _ (.tup tk I.fresh rfl (r1.cut lo hi))⟩
  | str z =>
    unfold slD at eg
    simp only at eg
    split at eg
    · cases eg
      have e1 := hx.str
      subst e1
      exact sl_str pins s σ H _ v vl vu lo hi sl Q I rx hs pl pu ⟨_, rfl, by assumption, q _ H (.dat (.str _))⟩
    · cases eg
  | none => cases eg
  | bool _ => cases eg
  | int _ => cases eg
  | dict _ => cases eg
end
end L3

namespace L3
open PySem PySem.Spec PyProof.Rows L2

section
variable {G : GC} {S : SC}
/-! len, any, all, tuple, list -/
def lenD : List D → Option R
  | [.list ds] => some (.dat (.int ds.length))
  | [.tuple ds] => some (.dat (.int ds.length))
  | [.dict kvs] => some (.dat (.int kvs.length))
  | [.str x] => if x.length ≤ sizeLine then some (.dat (.int x.length)) else none
  | _ => none
theorem call_lenD' (X : Cx) (c : CxOk G S X) : CallR X (.builtin "len") (rDn G.K lenD) := by
  intro pins s σ H xs us Q I rxs ⟨N, ds, r, tk, hs, eg, q⟩
  rw [← c.K] at hs q
  unfold lenD at eg
  split at eg
  · cases eg
    obtain ⟨v, rfl, h⟩ := hs.one
    obtain ⟨a, ys, rfl, h1, r1⟩ := h.list
    exact call_len_seq pins s σ H _ us Q I rxs ⟨a, ys, rfl, .inl h1, by rw [r1.length]; exact q _ H (.dat (.int _))⟩
  · cases eg
    obtain ⟨v, rfl, h⟩ := hs.one
    obtain ⟨a, ys, rfl, h1, r1⟩ := h.tuple
    exact call_len_seq pins s σ H _ us Q I rxs ⟨a, ys, rfl, .inr h1.sq, by rw [r1.length]; exact q _ H (.dat (.int _))⟩
  · cases eg
    obtain ⟨v, rfl, h⟩ := hs.one
    obtain ⟨a, ys, rfl, h1, r1⟩ := h.dict
    exact call_lenD pins s σ H _ us Q I rxs ⟨a, ys, rfl, h1, by rw [r1.length]; exact q _ H (.dat (.int _))⟩
  · split at eg
    · cases eg
      obtain ⟨v, rfl, h⟩ := hs.one
      have e := h.str
      subst e
      exact call_len_str pins s σ H _ us Q I rxs ⟨_, rfl, by assumption, q _ H (.dat (.int _))⟩
    · cases eg
  · cases eg
def boolsD : List D → Option (List Bool)
  | [] => some []
  | .bool b :: ds => (boolsD ds).map (b :: ·)
  | _ :: _ => none
theorem RepL.bools {K : PySem.W.Frag} {N : Addr → Prop} {H : Hp} : ∀ {vs : List V} {ds : List D} {bs : List Bool}, RepL K N H vs ds → boolsD ds = some bs → vs = bs.map V.bl
  | _, _, _, .nil, e => by cases e; rfl
  | _, d :: ds, bs, .cons r t, e => by
    cases d <;> first
      | (obtain ⟨cs, e1, e2⟩ := Option.map_eq_some_iff.mp e
         cases e2
         cases r
         rw [RepL.bools t e1]
         rfl)
      | cases e
def anyD : List D → Option R
  | [.list ds] => (boolsD ds).map fun bs => .dat (.bool (bs.any id))
  | _ => none
def allD : List D → Option R
  | [.list ds] => (boolsD ds).map fun bs => .dat (.bool (bs.all id))
  | _ => none
theorem call_anyD (X : Cx) (c : CxOk G S X) : CallR X (.builtin "any") (rDn G.K anyD) := by
  intro pins s σ H xs us Q I rxs ⟨N, ds, r, tk, hs, eg, q⟩
  rw [← c.K] at hs q
  unfold anyD at eg
  split at eg
  · obtain ⟨bs, eb, e⟩ := Option.map_eq_some_iff.mp eg
    cases e
    obtain ⟨v, rfl, h⟩ := hs.one
    obtain ⟨a, ys, rfl, h1, r1⟩ := h.list
    have e := r1.bools eb
    subst e
    exact cr_any c.calm pins s σ H _ us Q I rxs ⟨a, bs, rfl, h1, q _ H (.dat (.bl _))⟩
  · cases eg
theorem call_allD (X : Cx) (c : CxOk G S X) : CallR X (.builtin "all") (rDn G.K allD) := by
  intro pins s σ H xs us Q I rxs ⟨N, ds, r, tk, hs, eg, q⟩
  rw [← c.K] at hs q
  unfold allD at eg
  split at eg
  · obtain ⟨bs, eb, e⟩ := Option.map_eq_some_iff.mp eg
    cases e
    obtain ⟨v, rfl, h⟩ := hs.one
    obtain ⟨a, ys, rfl, h1, r1⟩ := h.list
    have e := r1.bools eb
    subst e
    exact cr_all c.calm pins s σ H _ us Q I rxs ⟨a, bs, rfl, h1, q _ H (.dat (.bl _))⟩
  · cases eg
def tupleD : List D → Option R
  | [.list ds] => some (.dat (.tuple ds))
  | [.tuple ds] => some (.dat (.tuple ds))
  | _ => none
theorem call_tupleD (X : Cx) (c : CxOk G S X) : CallR X (.type "tuple") (rDn G.K tupleD) := by
  intro pins s σ H xs us Q I rxs ⟨N, ds, r, tk, hs, eg, q⟩
  rw [← c.K] at hs q
  unfold tupleD at eg
  split at eg
  · cases eg
    obtain ⟨v, rfl, h⟩ := hs.one
    obtain ⟨a, ys, rfl, h1, r1⟩ := h.list
    obtain ⟨u, rfl, rx⟩ := vals1 rxs
    cases rx
    obtain ⟨its, r', pl, hz⟩ := I.list h1
    refine call_tuple_list pl.isList (fun h' kp => ?_) (by have := r'.length; simp only [List.size_toArray] <;> omega)
    have I1 : Inv X pins σ H { s with heap := h' } := I.kept (t' := s.toks) kp
    exact ⟨.ref h'.objs.size, _, ftup_new (t' := s.toks) I1 r' hz, rfl, q _ _ (.tup tk (I1.hok.fresh (Nat.le_refl _)) rfl r1)⟩
  · cases eg
    obtain ⟨v, rfl, h⟩ := hs.one
    obtain ⟨a, ys, rfl, h1, r1⟩ := h.tuple
    exact call_tuple_of pins s σ H _ us Q I rxs ⟨a, ys, rfl, .inr ⟨h1.sq, q _ H (.dat (.tup h1 r1))⟩⟩
  · cases eg
theorem RepK.keys {K : PySem.W.Frag} {N : Addr → Prop} {H : Hp} : ∀ {ks : List (Key × V)} {kvs : List (D × D)}, RepK K N H ks kvs → RepL K N H (ks.map fun kv => kV kv.1) (kvs.map (·.1))
  | _, _, .nil => .nil
  | _, _, .cons (k := k) r t => .cons (by cases k with
    | inl i => exact .int i
    | inr x => exact .str x) (RepK.keys t)
theorem RepK.vals {K : PySem.W.Frag} {N : Addr → Prop} {H : Hp} : ∀ {ks : List (Key × V)} {kvs : List (D × D)}, RepK K N H ks kvs → RepL K N H (ks.map (·.2)) (kvs.map (·.2))
  | _, _, .nil => .nil
  | _, _, .cons r t => .cons r (RepK.vals t)
def listD : List D → Option R
  | [.list ds] => some (.new (.lst ds))
  | [.tuple ds] => some (.new (.lst ds))
  | [.dict kvs] => some (.new (.lst (kvs.map (·.1))))
  | _ => none
theorem call_listD' (X : Cx) (c : CxOk G S X) : CallR X (.type "list") (rDn G.K listD) := by
  intro pins s σ H xs us Q I rxs ⟨N, ds, r, tk, hs, eg, q⟩
  rw [← c.K] at hs q
  unfold listD at eg
  split at eg
  · cases eg
    obtain ⟨v, rfl, h⟩ := hs.one
    obtain ⟨a, ys, rfl, h1, r1⟩ := h.list
    exact call_list_of pins s σ H _ us Q I rxs ⟨a, ys, rfl, .inl h1, fun l hl => q _ _ (.lst tk hl r1)⟩
  · cases eg
    obtain ⟨v, rfl, h⟩ := hs.one
    obtain ⟨a, ys, rfl, h1, r1⟩ := h.tuple
    exact call_list_of pins s σ H _ us Q I rxs ⟨a, ys, rfl, .inr h1.sq, fun l hl => q _ _ (.lst tk hl r1)⟩
  · cases eg
    obtain ⟨v, rfl, h⟩ := hs.one
    obtain ⟨a, ks, rfl, h1, r1⟩ := h.dict
    exact call_listD c.calm pins s σ H _ us Q I rxs ⟨a, ks, rfl, .inl h1, fun l hl => q _ _ (.lst tk hl r1.keys)⟩
  · cases eg

/-! ints -/
def intD : List D → Option R
  | [.int i] => some (.dat (.int i))
  | [.bool b] => some (.dat (.int (if b then 1 else 0)))
  | _ => none
theorem call_intD (X : Cx) (c : CxOk G S X) : CallR X (.type "int") (rDn G.K intD) := by
  intro pins s σ H xs us Q I rxs ⟨N, ds, r, tk, hs, eg, q⟩
  unfold intD at eg
  split at eg
  · cases eg
    obtain ⟨v, rfl, h⟩ := hs.one
    have e := h.int
    subst e
    exact call_int1 pins s σ H _ us Q I rxs (.inl ⟨_, rfl, q _ H (.dat (.int _))⟩)
  · cases eg
    obtain ⟨v, rfl, h⟩ := hs.one
    have e := h.bool
    subst e
    exact call_int1 pins s σ H _ us Q I rxs (.inr ⟨_, rfl, q _ H (.dat (.int _))⟩)
  · cases eg
def absD : List D → Option R
  | [.int i] => some (.dat (.int (if i < 0 then -i else i)))
  | _ => none
theorem call_absD (X : Cx) (c : CxOk G S X) : CallR X (.builtin "abs") (rDn G.K absD) := by
  intro pins s σ H xs us Q I rxs ⟨N, ds, r, tk, hs, eg, q⟩
  unfold absD at eg
  split at eg
  · cases eg
    obtain ⟨v, rfl, h⟩ := hs.one
    have e := h.int
    subst e
    exact call_abs pins s σ H _ us Q I rxs ⟨_, rfl, q _ H (.dat (.int _))⟩
  · cases eg
def max2D : List D → Option R
  | [.int i, .int j] => some (.dat (.int (if j > i then j else i)))
  | _ => none
def min2D : List D → Option R
  | [.int i, .int j] => some (.dat (.int (if j < i then j else i)))
  | _ => none
theorem call_max2D (X : Cx) (c : CxOk G S X) : CallR X (.builtin "max") (rDn G.K max2D) := by
  intro pins s σ H xs us Q I rxs ⟨N, ds, r, tk, hs, eg, q⟩
  unfold max2D at eg
  split at eg
  · cases eg
    obtain ⟨v, w, rfl, h, h2⟩ := hs.two
    have e := h.int
    have e2 := h2.int
    subst e; subst e2
    exact call_max2 c.calm pins s σ H _ us Q I rxs ⟨_, _, rfl, q _ H (.dat (.int _))⟩
  · cases eg
theorem call_min2D (X : Cx) (c : CxOk G S X) : CallR X (.builtin "min") (rDn G.K min2D) := by
  intro pins s σ H xs us Q I rxs ⟨N, ds, r, tk, hs, eg, q⟩
  unfold min2D at eg
  split at eg
  · cases eg
    obtain ⟨v, w, rfl, h, h2⟩ := hs.two
    have e := h.int
    have e2 := h2.int
    subst e; subst e2
    exact call_min2 c.calm pins s σ H _ us Q I rxs ⟨_, _, rfl, q _ H (.dat (.int _))⟩
  · cases eg
def strD : List D → Option R
  | [.int i] => if i.natAbs.log2 < 1920 then some (.dat (.str (toString i))) else none
  | [.str x] => some (.dat (.str x))
  | _ => none
theorem call_strD (X : Cx) (c : CxOk G S X) : CallR X (.type "str") (rDn G.K strD) := by
  intro pins s σ H xs us Q I rxs ⟨N, ds, r, tk, hs, eg, q⟩
  unfold strD at eg
  split at eg
  · split at eg
    · cases eg
      obtain ⟨v, rfl, h⟩ := hs.one
      have e := h.int
      subst e
      exact call_str_int pins s σ H _ us Q I rxs ⟨_, rfl, by assumption, q _ H (.dat (.str _))⟩
    · cases eg
  · cases eg
    obtain ⟨v, rfl, h⟩ := hs.one
    have e := h.str
    subst e
    obtain ⟨u, rfl, t, rfl⟩ := vals1 rxs
    exact PySem.P.str_of_str ⟨.str _, H, I, ⟨_, rfl⟩, q _ H (.dat (.str _))⟩
  · cases eg

/-! repr -/
def displayD : D → Bool
  | .list _ => true
  | .tuple _ => true
  | _ => false
def reprD : List D → Option R
  | [d] => if displayD d = true ∧ SeqAt.shaped d = true ∧ d.showable = true ∧ d.shown.length ≤ sizeLine then some (.dat (.str d.shown)) else none
  | _ => none
theorem call_reprD (X : Cx) (c : CxOk G S X) : CallR X (.builtin "repr") (rDn G.K reprD) := by
  intro pins s σ H xs us Q I rxs ⟨N, ds, r, tk, hs, eg, q⟩
  rw [← c.K] at hs q
  unfold reprD at eg
  split at eg
  · split at eg
    · cases eg
      rename_i d h
      obtain ⟨h0, h1, h2, h3⟩ := h
      obtain ⟨v, rfl, hv⟩ := hs.one
      obtain ⟨u, rfl, ru⟩ := vals1 rxs
      obtain ⟨as, rr⟩ := Dp.reads I d v u (hv.dp (SeqAt.canLay_of_shaped h1)) ru
      obtain ⟨a, rfl⟩ : ∃ a, u = .ref a := by
        cases rr with
        | list _ _ _ _ => exact ⟨_, rfl⟩
        | tuple _ _ _ _ => exact ⟨_, rfl⟩
        | none => cases h0
        | bool _ => cases h0
        | int _ _ => cases h0
        | str _ _ => cases h0
        | dict _ _ _ _ _ => cases h0
      have hd := SeqAt.depth_of_shaped h1
      have hu := hu65 c.room
      exact repr_of_reads' rr h2 (PyData.noDict_hsm (PyData.hasDict_of_canLay d (SeqAt.canLay_of_shaped h1))) c.gd (by omega) (fun _ _ e => e)
        (fun h' u tk hk => ⟨.str _, H, I.kept (t' := tk) hk, ⟨_, rfl⟩, q _ H (.dat (.str _))⟩) h3
    · cases eg
  · cases eg

/-! dict(..) -/
def pairD : D → Option (Key × D)
  | .tuple [a, b] => (keyD a).map fun k => (k, b)
  | _ => none
def pairsD : List D → Option (List (Key × D))
  | [] => some []
  | d :: ds => (pairD d).bind fun p => (pairsD ds).map (p :: ·)
def mergeKD (acc : List (Key × D)) : List (Key × D) → List (Key × D)
  | [] => acc
  | p :: r => mergeKD (putKD acc p.1 p.2) r
def keysD : List (D × D) → Option (List (Key × D))
  | [] => some []
  | (a, d) :: r => (keyD a).bind fun k => (keysD r).map ((k, d) :: ·)
def dictD : List D → Option R
  | [.list ds] => (pairsD ds).map fun ps => .new (.dic (mergeKD [] ps))
  | [.tuple ds] => (pairsD ds).map fun ps => .new (.dic (mergeKD [] ps))
  | [.dict kvs] => (keysD kvs).map fun ks => .new (.dic ks)
  | _ => none
theorem keysD_dkv {kvs : List (D × D)} : ∀ {ks : List (Key × D)}, keysD kvs = some ks → kvs = dkv ks := by
  induction kvs with
  | nil => intro ks e; cases e; rfl
  | cons p r ih =>
    intro ks e
    obtain ⟨a, d⟩ := p
    unfold keysD at e
    obtain ⟨k, e1, e⟩ := Option.bind_eq_some_iff.mp e
    obtain ⟨ks', e2, e3⟩ := Option.map_eq_some_iff.mp e
    cases e3
    rw [ih e2, keyD_some e1]
    rfl
theorem RepK.merge {K : PySem.W.Frag} {N : Addr → Prop} {H : Hp} : ∀ {ps : List (Key × V)} {pds : List (Key × D)} {acc : List (Key × V)} {ad : List (Key × D)}, RepK K N H ps (dkv pds) → RepK K N H acc (dkv ad) → RepK K N H (mergeK acc ps) (dkv (mergeKD ad pds)) := by
  intro ps pds acc ad h ha
  induction pds generalizing ps acc ad with
  | nil => cases h; exact ha
  | cons p r ih =>
    obtain ⟨pk, pd⟩ := p
    generalize he : dkv ((pk, pd) :: r) = ds at h
    cases h with
    | nil => cases he
    | cons r1 t =>
      have he' : (kD pk, pd) :: dkv r = _ := he
      injection he' with h1 h2
      injection h1 with h3 h4
      have := kD_inj h3
      subst this
      subst h2
      subst h4
      have z := ih t (ha.put pk r1)
      exact z
theorem RepL.pairs {X : Cx} {N : Addr → Prop} {H : Hp} : ∀ {vs : List V} {ds : List D} {ps : List (Key × D)}, RepL X.K N H vs ds → pairsD ds = some ps →
    ∃ (as : List Addr) (kvs : List (Key × V)), vs = as.map V.ref ∧ Paired (fun p kv => SqT X.K H p [kV kv.1, kv.2]) as kvs ∧ RepK X.K N H kvs (dkv ps)
  | _, _, _, .nil, e => by cases e; exact ⟨[], [], rfl, .nil, .nil⟩
  | _, d :: ds, ps, .cons r t, e => by
    unfold pairsD at e
    obtain ⟨p, e1, e⟩ := Option.bind_eq_some_iff.mp e
    obtain ⟨ps', e2, e3⟩ := Option.map_eq_some_iff.mp e
    cases e3
    obtain ⟨as, kvs, rfl, h1, h2⟩ := RepL.pairs t e2
    unfold pairD at e1
    split at e1
    · obtain ⟨k, e4, e5⟩ := Option.map_eq_some_iff.mp e1
      cases e5
      cases r with
      | tup s1 r1 =>
        cases r1 with
        | cons ra rb =>
          cases rb with
          | cons rb rc =>
            cases rc
            have := ra.key e4
            subst this
            exact ⟨_ :: as, (k, _) :: kvs, rfl, .cons s1.sq h1, .cons rb h2⟩
    · cases e1
theorem SqTN.plain {X : Cx} {pins : List (Addr × Obj)} {σ : L2.St} {N : Addr → Prop} {H : Hp} {s : Shared} {a : Addr} {xs : List V} (I : Inv X pins σ H s) (h : SqTN X.K N H a xs) : ∃ its : List Value, Vals xs its ∧ PlainSeq "tuple" s.heap a its.toArray ∧ xs.length ≤ sizeLine := by
  rcases h with ⟨⟨o, h, hd⟩, _⟩ | ⟨o, its, n, h1, h2, h3, h4, h5, h6⟩
  · obtain ⟨e, z, its, r, o2, e2, hc, n, hdat⟩ := (show ObjOk X.prog X.w H s.heap a (.frz o (.tup xs)) from I.hok a _ h)
    rw [e] at e2; cases e2
    exact ⟨its, r, ⟨o, n, e, hc, hd, hdat⟩, z⟩
  · exact ⟨its.toList, h6, ⟨o, n, I.kIn a o h1, h2, h3, by simpa using h4⟩, by rw [h6.length, Array.length_toList]; exact h5⟩
theorem pairs_of2 {X : Cx} {pins : List (Addr × Obj)} {σ : L2.St} {H : Hp} {s : Shared} (I : Inv X pins σ H s) : ∀ {ps : List Addr} {kvs : List (Key × V)}, Paired (fun p kv => SqT X.K H p [kV kv.1, kv.2]) ps kvs →
    ∃ (prs : List (Key × Value)) (pvs : List (Value × Value)), KV kvs prs ∧ prs.length = ps.length ∧ pvs.length = ps.length ∧ (∀ (j : Nat) (k v : Value), pvs[j]? = some (k, v) → ∃ b, ps[j]? = some b ∧ IsTup s.heap b #[k, v]) ∧
      ∀ (j : Nat) (k v : Value), pvs[j]? = some (k, v) → ∃ key, prs[j]? = some (key, v) ∧ (mixKind X.prog X.w).is key k = true
  | _, _, .nil => ⟨[], [], .nil, rfl, rfl, fun j k v e => by simp at e, fun j k v e => by simp at e⟩
  | _, _, .cons (a := p) (b := kv) h t => by
    obtain ⟨prs, pvs, r, hl, hl2, h1, h2⟩ := pairs_of2 I t
    obtain ⟨its, rv, ht, _⟩ := I.tuple h
    obtain ⟨u, y, ei, ru, ry⟩ := vals2 rv
    subst ei
    refine ⟨(kv.1, y) :: prs, (u, y) :: pvs, .cons ⟨rfl, ry⟩ r, by rw [List.length_cons, List.length_cons, hl], by rw [List.length_cons, List.length_cons, hl2], fun j k v e => ?_, fun j k v e => ?_⟩
    · cases j with
      | zero => cases Option.some.inj e; exact ⟨p, rfl, ht⟩
      | succ j =>
        obtain ⟨b, e1, e2⟩ := h1 j k v (by simpa using e)
        exact ⟨b, by simpa using e1, e2⟩
    · cases j with
      | zero => cases Option.some.inj e; exact ⟨kv.1, rfl, kV_is (P := X.prog) (w := X.w) ru⟩
      | succ j =>
        obtain ⟨b, e1, e2⟩ := h2 j k v (by simpa using e)
        exact ⟨b, by simpa using e1, e2⟩
/-- dict(xs) of a tuple of pairs -/
theorem call_dictPT {X : Cx} {N : Addr → Prop} (hcalm : X.calm = true) {pins : List (Addr × Obj)} {s : Shared} {σ : L2.St} {H : Hp} {Q : VK} {a : Addr} {ps : List Addr} {kvs : List (Key × V)} (I : Inv X pins σ H s) (hq : SqTN X.K N H a (ps.map V.ref))
    (hp : Paired (fun p kv => SqT X.K H p [kV kv.1, kv.2]) ps kvs) (q : ∀ p, H p = none → Q (.ref p) (upd H p (.dK (mergeK [] kvs)))) : wpAny (model X.prog X.w) X.A (call (.type "dict") [.ref a]) (EP X pins σ Q) X.xe s := by
  obtain ⟨its, rv, pl, hz⟩ := hq.plain I
  have ei := refs_at rv
  subst ei
  rw [List.length_map] at hz
  obtain ⟨prs, pvs, rel, hl, hl2, h1, h2⟩ := pairs_of2 I hp
  have hg : ∀ (j : Nat) (b : Addr), ps[j]? = some b → ps.getD j 0 = b := fun j b e => by simp [List.getD, e]
  refine PySem.call_dict_pairs (knd := mixKind X.prog X.w) (kvs := prs) (PairArg.tuple a (ps.map Value.ref).toArray (fun j => ps.getD j 0) pvs) (I.ok.hd hcalm) ⟨pl, by simp [hl2], fun j k v e => ?_⟩ ⟨by rw [hl, hl2], h2⟩ (by rw [hl2]; exact hz) fun h' tk hd' k => ?_
  · obtain ⟨b, e1, e2⟩ := h1 j k v e
    refine ⟨by simp [hg j b e1, e1], ?_⟩
    show PairAt s.heap (ps.getD j 0) k v
    rw [hg j b e1]
    obtain ⟨o, ho, hc, n, hdat⟩ := e2
    exact .inl ⟨o, ho, hc, n, hdat⟩
  · have hm : (s.heap.objs.size == sysModules) = false := beq_eq_false_iff_ne.mpr (Nat.ne_of_gt I.big)
    have hlen : (mergeK [] kvs).length ≤ sizeLine := by
      refine Nat.le_trans (length_mergeK kvs []) ?_
      rw [List.length_nil, Nat.zero_add, rel.length, hl]
      exact hz
    exact ⟨.ref s.heap.objs.size, upd H s.heap.objs.size (.dK (mergeK [] kvs)), I.laid (t' := tk) (fun b o e => k b o (by simp) e) (Nat.le_refl _) (show ObjOk X.prog X.w _ _ _ (.dK (mergeK [] kvs)) from ⟨hlen, hm, merged [] prs, KV.merge rel .nil, hd'⟩), rfl, q _ (I.hok.fresh (Nat.le_refl _))⟩
theorem call_dictD' (X : Cx) (c : CxOk G S X) : CallR X (.type "dict") (rDn G.K dictD) := by
  intro pins s σ H xs us Q I rxs ⟨N, ds, r, tk, hs, eg, q⟩
  rw [← c.K] at hs q
  unfold dictD at eg
  split at eg
  · obtain ⟨ps, e1, e2⟩ := Option.map_eq_some_iff.mp eg
    cases e2
    obtain ⟨v, rfl, h⟩ := hs.one
    obtain ⟨a, ys, rfl, h1, r1⟩ := h.list
    obtain ⟨as, kvs, rfl, h2, h3⟩ := r1.pairs e1
    exact call_dictP c.calm pins s σ H _ us Q I rxs ⟨a, as, kvs, rfl, h1, h2, fun l hl => q _ _ (.dic tk hl (h3.merge .nil))⟩
  · obtain ⟨ps, e1, e2⟩ := Option.map_eq_some_iff.mp eg
    cases e2
    obtain ⟨v, rfl, h⟩ := hs.one
    obtain ⟨a, ys, rfl, h1, r1⟩ := h.tuple
    obtain ⟨as, kvs, rfl, h2, h3⟩ := r1.pairs e1
    obtain ⟨u, rfl, rx⟩ := vals1 rxs
    cases rx
    exact call_dictPT c.calm I h1 h2 fun l hl => q _ _ (.dic tk hl (h3.merge .nil))
  · obtain ⟨ps, e1, e2⟩ := Option.map_eq_some_iff.mp eg
    cases e2
    obtain ⟨v, rfl, h⟩ := hs.one
    obtain ⟨a, ys, rfl, h1, r1⟩ := h.dict
    rw [keysD_dkv e1] at r1
    exact call_dictD pins s σ H _ us Q I rxs ⟨a, ys, rfl, .inl h1, fun l hl => q _ _ (.dic tk hl r1)⟩
  · cases eg

/-! sorted(..) -/
def alikeB (ds : List D) : Bool := ds.all fun d => ds.all fun e => PySem.W.alike d e
def consTup : D → Bool
  | .tuple (_ :: _) => true
  | _ => false
def noTup : D → Bool
  | .tuple _ => false
  | .none => false
  | _ => true
def sortOk (ds : List D) : Bool := alikeB ds && (ds.all consTup || ds.all noTup) && ds.all (fun d => decide (d.depth ≤ 64))
def sortD (ds : List D) : List D := ds.mergeSort (PySem.W.dataLe false id)
def isStrD : D → Bool
  | .str _ => true
  | _ => false
def sortedD : List D → Option R
  | [.list ds] => if sortOk ds = true then some (.new (.lst (sortD ds))) else none
  | [.dict kvs] => if (kvs.map (·.1)).all isStrD = true ∧ kvs.length < 64 then some (.new (.lst (sortD (kvs.map (·.1))))) else none
  | _ => none
mutual
theorem Rep.dpA {K : PySem.W.Frag} {N : Addr → Prop} {H : Hp} : ∀ (d : D) (v : V), Rep K N H v d → PySem.W.alike d d = true → Dp K H v d
  | .none, _, h, _ => by cases h; exact .non
  | .bool b, _, h, _ => by cases h; exact .bl b
  | .int i, _, h, _ => by cases h; exact .int i
  | .str x, _, h, _ => by cases h; exact .str x
  | .list ds, _, h, e => by cases h with | lst h1 h2 => exact .lst h1.sq (RepL.dpA ds _ h2 (by simpa [PySem.W.alike] using e))
  | .tuple ds, _, h, e => by cases h with | tup h1 h2 => exact .tup h1.sq (RepL.dpA ds _ h2 (by simpa [PySem.W.alike] using e))
  | .dict _, _, _, e => by simp [PySem.W.alike] at e
theorem RepL.dpA {K : PySem.W.Frag} {N : Addr → Prop} {H : Hp} : ∀ (ds : List D) (vs : List V), RepL K N H vs ds → PySem.W.alikeAll ds ds = true → DpAll K H vs ds
  | [], _, h, _ => by cases h; exact .nil
  | d :: ds, _, h, e => by
    have e' : PySem.W.alike d d = true ∧ PySem.W.alikeAll ds ds = true := by simpa [PySem.W.alikeAll] using e
    cases h with | cons h1 h2 => exact .cons (Rep.dpA d _ h1 e'.1) (RepL.dpA ds _ h2 e'.2)
end
theorem each_of {X : Cx} {pins : List (Addr × Obj)} {σ : L2.St} {N : Addr → Prop} {H : Hp} {s : Shared} (I : Inv X pins σ H s) : ∀ {vs : List V} {ds : List D} {us : List Value}, RepL X.K N H vs ds → Vals vs us → (∀ d ∈ ds, PySem.W.alike d d = true) →
    PySem.W.EachIs (fun u d => ∃ x, RelV x u ∧ Rep X.K N H x d) us ds ∧ PySem.W.EachIs (fun u d => ∃ as, Reads s.heap u d as) us ds
  | _, _, _, .nil, .nil, _ => ⟨.nil, .nil⟩
  | _, _, _, .cons r t, .cons ru tu, h => by
    obtain ⟨h1, h2⟩ := each_of I t tu fun d m => h d (List.mem_cons_of_mem _ m)
    exact ⟨.cons ⟨_, ru, r⟩ h1, .cons (Dp.reads I _ _ _ (Rep.dpA _ _ r (h _ List.mem_cons_self)) ru) h2⟩
theorem each_back {K : PySem.W.Frag} {N : Addr → Prop} {H : Hp} {us : List Value} {ds : List D} (h : PySem.W.EachIs (fun u d => ∃ x, RelV x u ∧ Rep K N H x d) us ds) : ∃ vs, Vals vs us ∧ RepL K N H vs ds := by
  induction h with
  | nil => exact ⟨[], .nil, .nil⟩
  | cons r t ih =>
    obtain ⟨x, h1, h2⟩ := r
    obtain ⟨vs, h3, h4⟩ := ih
    exact ⟨x :: vs, .cons h1 h3, .cons h2 h4⟩
theorem sortOk_alike {ds : List D} (h : alikeB ds = true) : PySem.W.AllAlike ds := fun d hd e he => List.all_eq_true.mp (List.all_eq_true.mp h d hd) e he
theorem sortOk_sortable {ds : List D} (h : (ds.all consTup || ds.all noTup) = true) : PySem.W.Sortable ds := by
  rcases Bool.or_eq_true_iff.mp h with h | h
  · refine .inl fun d hd => ?_
    have z := List.all_eq_true.mp h d hd
    unfold consTup at z
    split at z
    · exact ⟨_, _, rfl⟩
    · cases z
  · refine .inr fun d hd => ?_
    have z := List.all_eq_true.mp h d hd
    unfold noTup at z
    split at z
    · cases z
    · cases z
    · rename_i h1 h2
      exact ⟨h2, h1⟩
/-- texts in their order -/
def leS (a b : Str) : Bool := decide (a.cps.toList ≤ b.cps.toList)
def sortS (xs : List Str) : List Str := xs.mergeSort leS
theorem leS_trans (a b c : Str) (h : leS a b = true) (h2 : leS b c = true) : leS a c = true := decide_eq_true (List.le_trans (of_decide_eq_true h) (of_decide_eq_true h2))
theorem leS_total (a b : Str) : (leS a b || leS b a) = true := by
  rcases List.le_total a.cps.toList b.cps.toList with h | h
  · simp [leS, h]
  · simp [leS, h]
theorem leS_antisymm {a b : Str} (h : leS a b = true) (h2 : leS b a = true) : a = b := PySem.W.str_of_cps (List.le_antisymm (of_decide_eq_true h) (of_decide_eq_true h2))
theorem sortS_perm (xs : List Str) : (sortS xs).Perm xs := List.mergeSort_perm _ _
theorem sortS_pw (xs : List Str) : (sortS xs).Pairwise fun a b => leS a b = true := List.pairwise_mergeSort leS_trans leS_total xs
theorem sortS_eq {xs ys : List Str} (p : xs.Perm ys) (h : xs.Pairwise fun a b => leS a b = true) : xs = sortS ys :=
  List.Perm.eq_of_pairwise (fun a b _ _ h1 h2 => leS_antisymm h1 h2) h (sortS_pw ys) (p.trans (sortS_perm ys).symm)
theorem sortD_str (xs : List Str) : sortD (xs.map PyData.str) = (sortS xs).map PyData.str := by
  unfold sortD sortS
  rw [List.map_mergeSort fun a _ b _ => ?_]
  exact (congrFun (congrFun (PySem.W.dataLe_str (fun x : Str => x)) a) b).symm
theorem sortedS_pw : ∀ {ys : List Str}, sortedS ys = true → ys.Pairwise fun a b => leS a b = true
  | [], _ => .nil
  | [x], _ => by simp
  | x :: y :: r, h => by
    have h' : (!ltCps y.cps.toList x.cps.toList && risingS y r) = true := h
    rw [Bool.and_eq_true, PyProof.Rows.ltCps_eq, PySem.W.not_lt_str] at h'
    have ih := sortedS_pw (ys := y :: r) h'.2
    refine .cons (fun z hz => ?_) ih
    rcases List.mem_cons.mp hz with rfl | hz
    · exact h'.1
    · exact leS_trans _ _ _ h'.1 ((List.pairwise_cons.mp ih).1 z hz)
theorem sortStr {ys ks : List Str} (p : ys.Perm ks) (s : sortedS ys = true) : ys.map PyData.str = sortD (ks.map PyData.str) := by
  rw [sortD_str, ← sortS_eq p (sortedS_pw s)]
theorem call_sortedD' (X : Cx) (c : CxOk G S X) : CallR X (.builtin "sorted") (rDn G.K sortedD) := by
  intro pins s σ H xs us Q I rxs ⟨N, ds, r, tk, hs, eg, q⟩
  rw [← c.K] at hs q
  unfold sortedD at eg
  split at eg
  · split at eg
    · cases eg
      rename_i ds ho
      unfold sortOk at ho
      rw [Bool.and_eq_true, Bool.and_eq_true] at ho
      obtain ⟨⟨ha, hb⟩, hd⟩ := ho
      obtain ⟨v, rfl, h⟩ := hs.one
      obtain ⟨a, ys, rfl, h1, r1⟩ := h.list
      obtain ⟨u, rfl, rx⟩ := vals1 rxs
      cases rx
      obtain ⟨its, rv, pl, hz⟩ := I.list h1
      have hal := sortOk_alike ha
      obtain ⟨e1, e2⟩ := each_of I r1 rv fun d m => hal d m d m
      have hun := hu65 c.room
      refine PySem.W.sorted_data (enc := id) (bs := ds) (by simpa using pl.isList) e1 e2 (by rw [List.map_id]; exact hal) (by rw [List.map_id]; exact sortOk_sortable hb) (by rw [← r1.length]; exact hz) (fun d m => ?_) fun out ho eo => ?_
      · have := of_decide_eq_true (List.all_eq_true.mp hd d m)
        have c200 := c.room.un
        show _ + 2 + d.depth < _
        omega
      · obtain ⟨zs, h3, h4⟩ := each_back eo
        obtain ⟨ep, he'⟩ := PyProof.Rows.sortedAll_at s.heap its out.toArray
        refine ⟨.ref _, upd H (s.heap.objs.size + 1) (.lst zs), I.laid (t' := s.toks) (fun _ _ => PyProof.Rows.sortedAll_old) (Nat.le_succ _) ⟨?_, out, ep, h3, he'⟩, rfl, q _ _ (.lst tk (I.hok.fresh (Nat.le_succ _)) h4)⟩
        rw [h3.length, ho, ← r1.length]
        exact hz
    · cases eg
  · split at eg
    · cases eg
      rename_i kvs ho
      obtain ⟨h5, h6⟩ := ho
      obtain ⟨v, rfl, h⟩ := hs.one
      obtain ⟨a, ks, rfl, h1, r1⟩ := h.dict
      have hks : ∀ {ks : List (Key × V)} {kvs : List (D × D)}, RepK X.K N H ks kvs → (kvs.map (·.1)).all isStrD = true → ∃ zs : List Str, ks.map (·.1) = zs.map Sum.inr ∧ kvs.map (·.1) = zs.map PyData.str := by
        intro ks kvs h
        induction kvs generalizing ks with
        | nil => cases h; exact fun _ => ⟨[], rfl, rfl⟩
        | cons p r ih =>
          intro e
          cases h with
          | @cons k _ _ _ _ r1 t =>
            rw [List.map_cons, List.all_cons, Bool.and_eq_true] at e
            obtain ⟨zs, e1, e2⟩ := ih t e.2
            cases k with
            | inl i => cases e.1
            | inr x => exact ⟨x :: zs, by rw [List.map_cons, e1]; rfl, by rw [List.map_cons, e2]; rfl⟩
      obtain ⟨zs, e1, e2⟩ := hks r1 h5
      refine call_sortedD c.calm pins s σ H _ us Q I rxs ⟨a, ks, zs, rfl, .inl h1, e1, ?_, fun ys p hp hsd hH => ?_⟩
      · have := congrArg List.length e2
        rw [List.length_map, List.length_map] at this
        omega
      · refine q _ _ (.lst tk hH ?_)
        rw [e2, ← sortStr hp hsd]
        have : ∀ ys : List Str, RepL X.K N H (ys.map V.str) (ys.map PyData.str) := fun ys => by
          induction ys with
          | nil => exact .nil
          | cons y r ih => exact .cons (.str y) ih
        exact this ys
    · cases eg
  · cases eg
end
end L3

namespace L3
open PySem PySem.Spec PyProof.Rows L2

section
variable {G : GC} {S : SC}
/-! xs.append(x), xs.extend(ys), xs.insert(i, x) -/
def appendD : Bx → List D → Option (D × Bx)
  | .lst xs, [d] => if xs.length < sizeLine then some (.none, .lst (xs ++ [d])) else none
  | _, _ => none
def extendD : Bx → List D → Option (D × Bx)
  | .lst xs, [.list ds] => if xs.length + ds.length ≤ sizeLine then some (.none, .lst (xs ++ ds)) else none
  | _, _ => none
def insertD : Bx → List D → Option (D × Bx)
  | .lst xs, [.int i, d] => if xs.length < sizeLine ∧ 0 ≤ i ∧ i < 2 ^ 63 then some (.none, .lst (xs.take i.toNat ++ [d] ++ xs.drop i.toNat)) else none
  | _, _ => none
theorem mut_evo {N : Addr → Prop} {H : Hp} {q : Addr} {o : HO} (nq : N q) : Evo N H N (upd H q o) := ⟨fun a u e n => by rw [upd_ne (by intro z; subst z; exact n nq)]; exact e, fun a z => .inl z⟩
theorem mt_appendD (X : Cx) (c : CxOk G S X) : MtR X "list.append" (rMut G.K appendD) := by
  intro pins s σ H x xs v us Q I rx rxs ⟨N, q, b, ds, d, b', ex, tk, nq, bo, rl, eg, k⟩
  subst ex
  unfold appendD at eg
  split at eg
  · split at eg
    · cases eg
      obtain ⟨ys, e, r⟩ := bo
      cases rl with
      | cons r1 t =>
        cases t
        exact mt_append pins s σ H _ _ v us Q I rx rxs ⟨q, ys, _, rfl, rfl, e, by rw [r.length]; assumption, k _ _ ⟨_, upd_same, RepL.evo (mut_evo nq) _ _ (r.snoc r1)⟩ (fun a u n z => by rw [upd_ne n]; exact z) .non⟩
    · cases eg
  · cases eg
theorem mt_insertD (X : Cx) (c : CxOk G S X) : MtR X "list.insert" (rMut G.K insertD) := by
  intro pins s σ H x xs v us Q I rx rxs ⟨N, q, b, ds, d, b', ex, tk, nq, bo, rl, eg, k⟩
  subst ex
  unfold insertD at eg
  split at eg
  · split at eg
    · cases eg
      rename_i hz
      obtain ⟨ys, e, r⟩ := bo
      cases rl with
      | cons r0 t =>
        cases t with
        | cons r1 t =>
          cases t
          cases r0
          exact mt_insert pins s σ H _ _ v us Q I rx rxs ⟨q, ys, _, _, rfl, rfl, e, by rw [r.length]; exact hz.1, hz.2.1, hz.2.2, k _ _ ⟨_, upd_same, RepL.evo (mut_evo nq) _ _ (((r.take _).append (.cons r1 .nil)).append (r.drop _))⟩ (fun a u n z => by rw [upd_ne n]; exact z) .non⟩
    · cases eg
  · cases eg
theorem mt_extendD (X : Cx) (c : CxOk G S X) : MtR X "list.extend" (rMut G.K extendD) := by
  intro pins s σ H x xs v us Q I rx rxs ⟨N, q, b, ds, d, b', ex, tk, nq, bo, rl, eg, k⟩
  subst ex
  rw [← c.K] at rl bo k
  unfold extendD at eg
  split at eg
  · split at eg
    · cases eg
      rename_i hz
      obtain ⟨ys, e, r⟩ := bo
      cases rl with
      | cons r0 t =>
        cases t
        obtain ⟨b, zs, its2, n2, rfl, l2, rv2, z2, g2⟩ := SRep.listM I (.inl r0)
        cases rx
        obtain ⟨u, rfl, ru⟩ := vals1 rxs
        cases ru
        obtain ⟨z, its, n, rv, hl, e1⟩ := I.lstM e
        have hl2 := rv2.length
        have hy := r.length
        have hz2 := l2.length
        have hsz : its.toArray.size + its2.toArray.size ≤ sizeLine := by rw [List.size_toArray, List.size_toArray]; omega
        have hlong : ¬ (!its.toArray.isEmpty && Builtin.List.listTooLong (its.toArray.size + its2.toArray.size)) = true := by
          rw [notLongL hsz, Bool.and_false]
          exact Bool.false_ne_true
        refine call_meets F.slot_list_extend ⟨_, e1, rfl⟩ F.entry_list_extend (F.args_list_extend_2 _ _)
          (AutoSeq1.list_extend_list_list_0 q its.toArray n b its2.toArray n2 hlong (by rw [List.size_toArray]; omega) (by omega)) ⟨e1, g2, ?_⟩
        refine ⟨.non, _, I.lset (its' := its ++ its2) (t' := s.toks) e e1 (by simp) (rv.append rv2) ?_, rfl, k _ _ ⟨_, upd_same, RepL.evo (mut_evo nq) _ _ (r.append l2)⟩ (fun a u n z => by rw [upd_ne n]; exact z) .non⟩
        rw [List.length_append]
        omega
    · cases eg
  · cases eg

/-! d.get(k, x) -/
def noBoxD : D → Bool
  | .list _ => false
  | .dict _ => false
  | _ => true
theorem SRep.rep {K : PySem.W.Frag} {N : Addr → Prop} {H : Hp} {v : V} {d : D} (h : SRep K N H v d) (e : noBoxD d = true) : Rep K N H v d := by
  rcases h with h | ⟨q, b, rfl, e2, bo⟩
  · exact h
  · subst e2; cases b <;> cases e
def getV (kvs : List (D × D)) (k : D) : Option (Option D) := match k with
  | .none => some none
  | _ => (keyD k).map fun k => valD kvs k
def getD : D → List D → Option R
  | .dict kvs, [k, x] => if noBoxD x = true then (getV kvs k).map fun o => .dat (o.getD x) else none
  | .dict kvs, [k] => (getV kvs k).map fun o => .dat (o.getD .none)
  | _, _ => none
theorem getV_k {kvs : List (D × D)} {k : D} {o : Option D} (h : getV kvs k = some o) : (k = .none ∧ o = none) ∨ ∃ key, keyD k = some key ∧ o = valD kvs key := by
  unfold getV at h
  split at h
  · cases h; exact .inl ⟨rfl, rfl⟩
  · obtain ⟨key, e1, e2⟩ := Option.map_eq_some_iff.mp h
    exact .inr ⟨key, e1, e2.symm⟩
theorem d_getNone {X : Cx} {pins : List (Addr × Obj)} {σ : L2.St} {H : Hp} {s : Shared} {a : Addr} {kvs : List (Key × V)} {r : Value} {A : Around} {E Q : Value → Shared → Prop} (I : Inv X pins σ H s) (e : H a = some (.dK kvs)) (h : ∀ s', Inv X pins σ H s' → Q r s') :
    wpAny (model X.prog X.w) A (call (.builtin "dict.get") [.ref a, .none, r]) Q E s := by
  obtain ⟨z, hd, vs, rel, dd⟩ := dk_rd I.hok (.inl e)
  obtain ⟨f, hm, hn⟩ := none_map dd
  refine call_meetsIn PySem.F.slot_dict_get dd.typeIs PySem.F.entry_dict_get (PySem.F.args_dict_get_3 _ _ _) (meets_dict_get_default (noneKind X.prog X.w) a (show (noneKind X.prog X.w).is none .none = true from rfl) hd r) ⟨f, hm, ?_⟩
  rw [hn]
  exact h _ (I.tok _)
theorem d_getNone1 {X : Cx} {pins : List (Addr × Obj)} {σ : L2.St} {H : Hp} {s : Shared} {a : Addr} {kvs : List (Key × V)} {A : Around} {E Q : Value → Shared → Prop} (I : Inv X pins σ H s) (e : H a = some (.dK kvs)) (h : ∀ s', Inv X pins σ H s' → Q .none s') :
    wpAny (model X.prog X.w) A (call (.builtin "dict.get") [.ref a, .none]) Q E s := by
  obtain ⟨z, hd, vs, rel, dd⟩ := dk_rd I.hok (.inl e)
  obtain ⟨f, hm, hn⟩ := none_map dd
  refine call_meetsIn PySem.F.slot_dict_get dd.typeIs PySem.F.entry_dict_get (PySem.F.args_dict_get_2 _ _) (meets_dict_get (noneKind X.prog X.w) a (show (noneKind X.prog X.w).is none .none = true from rfl) hd) ⟨f, hm, ?_⟩
  rw [hn]
  exact h _ (I.tok _)
theorem mt_getD (X : Cx) (c : CxOk G S X) : MtR X "dict.get" (rDm G.K getD) := by
  intro pins s σ H x xs v us Q I rx rxs ⟨N, d, ds, r, tk, hx, hs, eg, q⟩
  rw [← c.K] at hx hs q
  unfold getD at eg
  split at eg
  · split at eg
    · rename_i kvs k x0 hb
      obtain ⟨o, e1, e2⟩ := Option.map_eq_some_iff.mp eg
      cases e2
      obtain ⟨y, z, rfl, hy, hz⟩ := hs.two
      obtain ⟨a, ks, rfl, h1, r1⟩ := hx.dict
      cases rx
      obtain ⟨u1, u2, rfl, ru1, ru2⟩ := vals2 rxs
      have hz' := hz.rep hb
      rcases getV_k e1 with ⟨rfl, rfl⟩ | ⟨key, ek, rfl⟩
      · have := hy.none
        subst this
        cases ru1
        exact d_getNone I h1 fun s' I' => ⟨z, H, I', ru2, q _ H (.dat hz')⟩
      · have := hy.key ek
        subst this
        refine d_get2 (hu_of c.room) I (DGet.k (k := key) h1) ru1 ru2 fun w' s' I' rw' => ⟨_, H, I', rw', q _ H (.dat ?_)⟩
        obtain ⟨g1, g2⟩ := r1.valD (k := key)
        cases e : L3.valD kvs key with
        | none => rw [g2 e]; exact hz'
        | some d => obtain ⟨w, e2, rw2⟩ := g1 d e; rw [e2]; exact rw2
    · cases eg
  · rename_i kvs k
    obtain ⟨o, e1, e2⟩ := Option.map_eq_some_iff.mp eg
    cases e2
    obtain ⟨y, rfl, hy⟩ := hs.one
    obtain ⟨a, ks, rfl, h1, r1⟩ := hx.dict
    cases rx
    obtain ⟨u1, rfl, ru1⟩ := vals1 rxs
    rcases getV_k e1 with ⟨rfl, rfl⟩ | ⟨key, ek, rfl⟩
    · have := hy.none
      subst this
      cases ru1
      exact d_getNone1 I h1 fun s' I' => ⟨.non, H, I', rfl, q _ H (.dat .non)⟩
    · have := hy.key ek
      subst this
      refine d_get1 (hu_of c.room) I (DGet.k (k := key) h1) ru1 fun w' s' I' rw' => ⟨_, H, I', rw', q _ H (.dat ?_)⟩
      obtain ⟨g1, g2⟩ := r1.valD (k := key)
      cases e : L3.valD kvs key with
      | none => rw [g2 e]; exact .non
      | some d => obtain ⟨w, e2, rw2⟩ := g1 d e; rw [e2]; exact rw2
  · cases eg
/-! xs.count(b) of truths -/
def countD : D → List D → Option R
  | .list ds, [.bool b] => (boolsD ds).map fun bs => .dat (.int (bs.count b : Nat))
  | _, _ => none
def eqkB (b : Bool) : Value → Bool
  | .bool c => c == b
  | _ => false
theorem bools_count (b : Bool) : ∀ {bs : List Bool} {us : List Value}, Vals (bs.map V.bl) us → us.countP (eqkB b) = bs.count b
  | [], us, r => by rw [List.map_nil] at r; cases r; rfl
  | c :: bs, us, r => by
    rw [List.map_cons] at r
    cases r with
    | cons h t =>
      cases h
      rw [List.countP_cons, bools_count b t, List.count_cons]
      rfl
theorem bools_gives (b : Bool) {A : Around} {s : Shared} : ∀ {bs : List Bool} {us : List Value}, Vals (bs.map V.bl) us → ∀ y ∈ us, SeqAt.EqAt A s y (.bool b) (eqkB b y)
  | [], us, r => by rw [List.map_nil] at r; cases r; exact fun y m => by cases m
  | c :: bs, us, r => by
    rw [List.map_cons] at r
    cases r with
    | cons h t =>
      cases h
      intro y m
      rcases List.mem_cons.mp m with rfl | m
      · exact SeqAt.EqAt.bool_bool c b
      · exact bools_gives b t y m
theorem mt_countD (X : Cx) (c : CxOk G S X) : MtR X "list.count" (rDm G.K countD) := by
  intro pins s σ H x xs v us Q I rx rxs ⟨N, d, ds, r, tk, hx, hs, eg, q⟩
  rw [← c.K] at hx hs q
  unfold countD at eg
  split at eg
  · rename_i b
    obtain ⟨bs, e1, e2⟩ := Option.map_eq_some_iff.mp eg
    cases e2
    obtain ⟨y, rfl, hy⟩ := hs.one
    have := hy.bool
    subst this
    obtain ⟨a, ys, rfl, h1, r1⟩ := hx.list
    have := r1.bools e1
    subst this
    cases rx
    obtain ⟨u1, rfl, ru1⟩ := vals1 rxs
    cases ru1
    obtain ⟨its, rv, ⟨⟨cls, dd, data, sl⟩, n, ho, hc, hdn, hd⟩, hlen⟩ := I.list h1
    simp only at hc hd
    subst hc hd
    refine call_meets PySem.F.slot_list_count ⟨_, ho, rfl⟩ PySem.F.entry_list_count (PySem.F.args_list_count_2 _ _)
      (SeqAt.list_countAt a its.toArray n dd sl (.bool b) (eqkB b)) ⟨ho, fun y hy => bools_gives b rv y (by simpa using hy), ?_⟩
    have ec : its.toArray.toList.countP (eqkB b) = bs.count b := bools_count b rv
    refine ⟨.int (bs.count b : Nat), H, I.tok _, ⟨s.toks, ?_⟩, q _ H (.dat (.int _))⟩
    show Value.int ((its.toArray.toList.countP (eqkB b) : Nat) : Int) s.toks = _
    rw [ec]
  · cases eg
end
end L3

namespace L3
open PySem PySem.Spec PyProof.Rows L2
theorem vals_kv {kvs : List (Key × V)} {vs : List (Key × Value)} (r : KV kvs vs) : Vals (kvs.map (·.2)) (vs.map (·.2)) := by
  unfold KV at r
  induction r with
  | nil => exact .nil
  | cons r t ih => exact .cons r.2 ih
theorem pe_listVals {X : Cx} {o : Expr} {p pos apos mpos : Pos} {td : TE} (hc : X.calm = true) (hg : Gl X "list") (hm : X.mg "list" = none) (hd : PE X o td) (hbase : attributeBase o "values" X.env (eval o X.env) = eval o X.env) (hline : (apos.endLine == mpos.line) = true)
    (na : starEach [Expr.Call (.Attribute o "values" apos) [] [] mpos] X.env = (false, eval (Expr.Call (.Attribute o "values" apos) [] [] mpos) X.env) :: starEach [] X.env) :
    PE X (.Call (.Name "list" p) [.Call (.Attribute o "values" apos) [] [] mpos] [] pos) (fun σ H Q => td σ H fun x H1 => ∃ a kvs, x = .ref a ∧ H1 a = some (.dK kvs) ∧ ∀ l, H1 l = none → Q (.ref l) (upd H1 l (.lst (kvs.map (·.2))))) := by
  refine ⟨fun pins s σ H Q I h => ?_⟩
  refine Call_ (ld_blt I hg hm boot_list (PyProof.Rows.callWith_type1 (args_cons (wpAny_Call_method (T := "dict") (id := "dict.values") hbase rfl hline F.plainAttrs_dict F.slot_dict_values F.type_dict_values (thn (hd.run pins s σ H _ I h) fun u s1 ⟨x, H1, I1, rx, a, kvs, ex, hd, q⟩ => ?_)) na) na))
  subst ex
  obtain rfl : u = Value.ref a := rx
  obtain ⟨hz, hsys, vs, rel, dof⟩ := dk_of I1.hok hd
  obtain ⟨ep, dat⟩ := dof.dictAt
  refine ⟨dof.typeIs, dof.mapOf.noDict, ?_⟩
  have I2 : Inv X pins σ H1 { s1 with heap := s1.heap.push { cls := .type "dict_values", data := .fields #[.ref a] } } := I1.kept (t' := s1.toks) fun b ob q => Heap.get?_push_of_some _ q
  have hv : (s1.heap.push { cls := .type "dict_values", data := .fields #[.ref a] }).IsValuesView s1.heap.objs.size a := ⟨_, Heap.get?_push_size _ rfl, rfl, rfl⟩
  have dat1 : (s1.heap.push { cls := .type "dict_values", data := .fields #[.ref a] }).DictAt (mixKind X.prog X.w) a vs ep := dat.keep fun b ob q => Heap.get?_push_of_some _ q
  have hl : kvs.length = vs.length := Paired.length rel
  refine method_meetsIn F.slot_dict_values F.entry_dict_values rfl (PySem.evalArgs_none ⟨rfl, dof.typeIs, F.args_dict_values_1 _, _, meets_dict_values (mixKind X.prog X.w) a hsys, ⟨vs, dof⟩, args_nil ?_⟩)
  refine PySem.W.kdl_call (PySem.W.kdl_values (knd := mixKind X.prog X.w) (kvs := vs) (ep := ep)) (I2.ok.hd hc) ⟨hv, dat1⟩ (by rw [← hl]; exact hz) fun h' tk acc c' hk hD hacc => ?_
  have ev : acc.toList = vs.map (·.2) := PySem.W.kdl_vals_eq acc.toList (by rw [Array.length_toList]; exact hacc.1) fun j v e => hacc.2 j v (by rw [← Array.getElem?_toList]; exact e)
  refine ⟨.ref _, _, I2.laid (t' := tk) (o := .lst (kvs.map (·.2))) hk (Nat.le_refl _) ⟨by rw [List.length_map]; exact hz, acc.toList, c', by rw [ev]; exact vals_kv rel, by rw [Array.toArray_toList]; exact hD⟩, rfl, q _ (I2.hok.fresh (Nat.le_refl _))⟩
section
variable {G : GC} {S : SC}
def valuesD : D → Option R
  | .dict kvs => some (.new (.lst (kvs.map (·.2))))
  | _ => none
theorem de_listVals {o : Expr} {p pos apos mpos : Pos} {m : ME} (hg : S.sc.names.lookup ("list" : Str) = some .globalImplicit) (hm : G.mg ("list" : Str) = none) (hd : DE G S o m) (hbase : ∀ env : PySem.Env, attributeBase o "values" env (eval o env) = eval o env) (hline : (apos.endLine == mpos.line) = true)
    (na : ∀ env : PySem.Env, starEach [Expr.Call (.Attribute o "values" apos) [] [] mpos] env = (false, eval (Expr.Call (.Attribute o "values" apos) [] [] mpos) env) :: starEach [] env) :
    DE G S (.Call (.Name "list" p) [.Call (.Attribute o "values" apos) [] [] mpos] [] pos) (m1 valuesD m) := by
  intro X c
  refine PE.weak (pe_listVals c.calm (by show X.env.scope.names.lookup ("list" : Str) = _; rw [c.sc]; exact hg) (by rw [c.mg]; exact hm) (hd X c) (hbase _) hline (na _)) ?_
  intro σ H Q q
  have z := rd1 q
  rw [← c.K] at z ⊢
  obtain ⟨W, ρ, r, ρ', rel, em, k⟩ := z
  refine ⟨W, ρ, r, ρ', rel, em, fun v H' p => ?_⟩
  obtain ⟨N, d, r2, tk, hx, eg, q2⟩ := k v H' p
  cases d with
  | dict kvs =>
    cases eg
    obtain ⟨a, ks, rfl, h1, r1⟩ := hx.dict
    exact ⟨a, ks, rfl, h1, fun l hl => q2 _ _ (.lst tk hl r1.vals)⟩
  | none => cases eg
  | bool _ => cases eg
  | int _ => cases eg
  | str _ => cases eg
  | list _ => cases eg
  | tuple _ => cases eg
/-! {k: v, ..} of constants -/
def vF : D → V
  | .bool b => .bl b
  | .int i => .int i
  | .str x => .str x
  | _ => .non
theorem vF_rep {K : PySem.W.Frag} {N : Addr → Prop} {H : Hp} {d : D} (h : flatD d = true) : Rep K N H (vF d) d := by
  cases d with
  | none => exact .non
  | bool b => exact .bl b
  | int i => exact .int i
  | str x => exact .str x
  | list _ => cases h
  | tuple _ => cases h
  | dict _ => cases h
def mdic (kvs : List (Key × D)) : ME := fun ρ => some (.new (.dic (mergeKD [] kvs)), ρ)
def trC (kvs : List (Key × D)) : List (TE × TE) := kvs.map fun p => (tC (kV p.1), tC (vF p.2))
theorem tPairs_C {σ : L2.St} {H : Hp} : ∀ {kvs : List (Key × D)} {Q : List (V × V) → Hp → Prop}, Q (kvs.map fun p => (kV p.1, vF p.2)) H → tPairs (trC kvs) σ H Q
  | [], _, h => h
  | p :: r, Q, h => tPairs_C (kvs := r) (Q := fun ps H3 => Q ((kV p.1, vF p.2) :: ps) H3) h
theorem de_dicC {pos : Pos} {keys : List (Option Expr)} {values : List Expr} {kvs : List (Key × D)} (h : ∀ X : Cx, PPs X pos keys values (trC kvs)) (hall : keys.all (·.isSome) = true) (hl : keys.length = values.length) (h0 : keys ≠ [])
    (h15 : keys.length ≤ 15) (hk : kvs.length ≤ 15) (hf : kvs.all (fun p => flatD p.2) = true) : DE G S (.Dict keys values pos) (mdic kvs) := by
  intro X c
  refine PE.weak (pe_disp (h X) hall hl h0 h15) ?_
  rintro σ H Q ⟨W, ρ, r, ρ', rel, em, q⟩
  cases em
  intro p hp
  refine tPairs_C ⟨upd_same, kvs.map (fun p => (p.1, vF p.2)), by rw [List.map_map]; rfl, by rw [List.length_map]; exact hk, ?_⟩
  rw [upd_upd]
  have hr : ∀ {kvs : List (Key × D)}, kvs.all (fun p => flatD p.2) = true → RepK G.K (Av W.P ρ σ) H (kvs.map fun p => (p.1, vF p.2)) (dkv kvs) := by
    intro kvs
    induction kvs with
    | nil => exact fun _ => .nil
    | cons p r ih =>
      intro h
      rw [List.all_cons, Bool.and_eq_true] at h
      exact .cons (vF_rep h.1) (ih h.2)
  exact q _ _ ((PostX.refl rel).fin (.dic rel.trk hp ((hr hf).merge .nil)))
end
end L3

namespace L3
open PySem PySem.Spec PyProof.Rows L2
section
variable {G : GC} {S : SC}
def negD : D → Option R
  | .int i => some (.dat (.int (-i)))
  | _ => none
theorem un_negD (X : Cx) (c : CxOk G S X) : UnR X (unaryOp .USub) (rD1 G.K negD) := by
  intro pins s σ H x v Q I rx ⟨N, d, r, tk, hx, eg, q⟩
  unfold negD at eg
  split at eg
  · cases eg
    have e1 := hx.int
    subst e1
    exact un_neg pins s σ H _ v Q I rx ⟨_, rfl, q _ H (.dat (.int _))⟩
  · cases eg
end
/-- a name that is seen -/
def visB (sc : Scope) (x : Str) : Bool := match sc.names.lookup x with
  | some .local => true
  | some .cell => true
  | some .free => true
  | _ => false
theorem vis_of {sc : Scope} {x : Str} (h : visB sc x = true) : Vis sc x := by
  unfold visB at h
  split at h <;> first | exact .inl (by assumption) | exact .inr (.inl (by assumption)) | exact .inr (.inr (by assumption)) | cases h
/-- a name that may be written -/
def stoB (S : SC) (x : Str) : Bool := match S.sc.names.lookup x with
  | some .local => true
  | some .cell => S.fn x
  | _ => false
theorem sto_of {S : SC} {i : Nat} {x : Str} (h : S.N[i]? = some x) (e : stoB S x = true) : StoOk S i x := by
  unfold stoB at e
  split at e
  · rename_i q; exact ⟨h, .inl q, .inr q⟩
  · rename_i q; exact ⟨h, .inr q, .inl e⟩
  · cases e
end L3

namespace L3
open PySem PySem.Spec PyProof.Rows L2
variable {G : GC} {S : SC}
theorem RepL.rev {K : PySem.W.Frag} {N : Addr → Prop} {H : Hp} : ∀ {vs : List V} {ds : List D}, RepL K N H vs ds → RepL K N H vs.reverse ds.reverse
  | _, _, .nil => .nil
  | _, _, .cons r t => by
    rw [List.reverse_cons, List.reverse_cons]
    exact (RepL.rev t).snoc r
def revD : D → Option R
  | .list ds => some (.new (.lst ds.reverse))
  | _ => none
def mrev (m : ME) : ME := fun ρ => (m ρ).bind fun x => (x.1.fz.vw x.2).bind fun d => (revD d).bind fun r => some (r, x.2)
/-- e[::-1], e a list -/
theorem de_revL {e : Expr} {m : ME} {k : Nat} {p1 p2 p3 pos : Pos} (he : DE G S e m) : DE G S (.Subscript e (.Slice none none (some (.UnaryOp .USub (.Constant (.int 1) k p1) p2)) p3) pos) (mrev m) :=
  fun X c => PE.weak (pe_revL (he X c)) fun σ H Q ⟨W, ρ, r, ρ', rel, em, q⟩ => by
    rw [c.K]
    unfold mrev at em
    obtain ⟨⟨ra, ρ1⟩, e1, em⟩ := Option.bind_eq_some_iff.mp em
    obtain ⟨d, e4, em⟩ := Option.bind_eq_some_iff.mp em
    obtain ⟨r', e5, em⟩ := Option.bind_eq_some_iff.mp em
    cases em
    refine ⟨W, ρ, ra, ρ1, rel, e1, fun x H1 p1 => ?_⟩
    have hx := (p1.res.fz p1.toPostX rel).read p1.rel e4
    unfold revD at e5
    split at e5
    · cases e5
      obtain ⟨a, xs, rfl, h1, r1⟩ := hx.list
      exact ⟨a, xs, rfl, h1, fun p hp => q _ _ (p1.toPostX.fin (.lst p1.rel.trk hp r1.rev))⟩
    · cases e5
end L3

namespace L3
open PySem PySem.Spec PyProof.Rows L2
/-! a tuple from its end -/
section
variable {prog : Program} {w : World} {A : Around} {E : Value → Shared → Prop} {s : Shared}
theorem applied_rev {sl : Addr} {t : Tok} {n : Nat} {Q : Int × Int × Nat → Shared → Prop} (hs : s.heap.IsSliceOf sl .none .none (.int (-1) t)) (h : Q ((n : Int) - 1, -1, n) s) : wpAny (model prog w) A (Builtin.Slice.sliceApplied (.ref sl) (pure (n : Int))) Q E s := by
  obtain ⟨os, hos, hcs, hds⟩ := id hs
  unfold Builtin.Slice.sliceApplied Builtin.Slice.sliceFields
  refine wpAny_bind (wpAny_bind (wpAny_field hos hds (x := .none) rfl ?_))
  refine wpAny_bind (wpAny_field hos hds (x := .none) rfl ?_)
  refine wpAny_bind (wpAny_field hos hds (x := .int (-1) t) rfl (wpAny_pure ?_))
  refine wpAny_bind (HT.slicePart_ (IsPart.int (-1) t) ?_)
  show wpAny _ _ (if ((-1 : Int) == 0) = true then _ else _) _ _ s
  rw [if_neg (by decide)]
  refine wpAny_bind (HT.slicePart_ .none (wpAny_bind (HT.slicePart_ .none (wpAny_bind (wpAny_pure ?_)))))
  have e1 : Builtin.Slice.sliceAdjust none none (-1) (n : Int) = ((n : Int) - 1, -1) := rfl
  have e2 : Builtin.Slice.slicePlaces ((n : Int) - 1) (-1) (-1) = n := by
    unfold Builtin.Slice.slicePlaces
    rw [if_neg (by decide)]
    have d1 : ∀ z : Int, z / - -1 = z := fun z => by rw [Int.neg_neg, Int.ediv_one]
    split
    · rw [d1]; omega
    · omega
  show wpAny _ _ (match Builtin.Slice.sliceAdjust none none (-1) (n : Int) with | (lo, hi) => pure (lo, (-1 : Int), Builtin.Slice.slicePlaces lo hi (-1))) _ _ s
  rw [e1]
  show wpAny _ _ (pure ((n : Int) - 1, (-1 : Int), Builtin.Slice.slicePlaces ((n : Int) - 1) (-1) (-1))) _ _ s
  rw [e2]
  exact wpAny_pure h
theorem filterMap_some_map {α β : Type} {f : α → Option β} {g : α → β} : ∀ {l : List α}, (∀ a ∈ l, f a = some (g a)) → l.filterMap f = l.map g
  | [], _ => rfl
  | a :: l, h => by
    rw [List.filterMap_cons, h a (List.mem_cons_self ..), List.map_cons]
    exact congrArg (g a :: ·) (filterMap_some_map fun b hb => h b (List.mem_cons_of_mem _ hb))
theorem pick_rev (xs : Array Value) : ((List.range xs.size).filterMap fun (m : Nat) => xs[(((xs.size : Int) - 1) + (m : Int) * (-1)).toNat]?).toArray = xs.toList.reverse.toArray := by
  congr 1
  have e : (List.range xs.size).filterMap (fun (m : Nat) => xs[(((xs.size : Int) - 1) + (m : Int) * (-1)).toNat]?) = (List.range xs.size).map fun m => xs.toList.reverse[m]?.getD .none := by
    refine filterMap_some_map fun m hm => ?_
    have hlt := List.mem_range.mp hm
    have hk : (((xs.size : Int) - 1) + (m : Int) * (-1)).toNat = xs.size - 1 - m := by omega
    rw [hk, List.getElem?_reverse (by simpa using hlt), Array.getElem?_toList, Array.length_toList]
    rw [Array.getElem?_eq_getElem (by omega)]
    rfl
  rw [e]
  refine List.ext_getElem? fun j => ?_
  rw [List.getElem?_map]
  by_cases hj : j < xs.size
  · rw [List.getElem?_range hj, Option.map_some, List.getElem?_eq_getElem (by simpa using hj)]
    rfl
  · rw [List.getElem?_eq_none (by simpa using Nat.le_of_not_lt hj), List.getElem?_eq_none (by simpa using Nat.le_of_not_lt hj)]
    rfl
theorem getItem_tup_rev {t sl : Addr} {items : Array Value} {tk : Tok} {Q : Value → Shared → Prop} (ht : IsTup s.heap t items) (hs : s.heap.IsSliceOf sl .none .none (.int (-1) tk))
    (h : Q (.ref s.heap.objs.size) { s with heap := s.heap.push { cls := .type "tuple", data := .seq items.toList.reverse.toArray } }) (hsz : items.size ≤ sizeLine) : wpAny (model prog w) A (getItem (.ref t) (.ref sl)) Q E s := by
  have hok : sizeOk (.seq items.toList.reverse.toArray) := by
    show items.toList.reverse.toArray.size ≤ sizeLine
    rw [List.size_toArray, List.length_reverse, Array.length_toList]
    exact hsz
  obtain ⟨os, hos, hcs, hds⟩ := id hs
  have hTs : s.TypeIs (.ref sl) "slice" := ⟨os, hos, hcs⟩
  unfold getItem
  try with_reducible refine wpAny_holding ?_
  first | refine wpAny_bind (wpAny_pure ?_) | skip
  refine wpAny_bind (wpAny_sequenceKey ht.typeIs (by decide) ?_)
  refine wpAny_bind (wpAny_callSpecial?_slot (name := Str.ofString "__getitem__") ht.typeIs PyProof.Rows.slot_tuple_getitem ?_)
  refine wpAny_call_entry PyProof.Rows.slot_tuple_getitem ht.typeIs entry_tuple_getitem ?_ (args_tuple_getitem _ _)
  show wpAny _ _ (Builtin.Tuple.tupleItemsOf (.ref t) >>= _) _ _ s
  refine wpAny_bind (tupleItemsOf_ ht (wpAny_bind (wpAny_typeOf hTs ?_)))
  rw [if_pos (by decide)]
  refine wpAny_bind (applied_rev hs ?_)
  have hno : ¬ (((items.size : Int) - 1 == 0 && (-1 : Int) == 1 && items.size == items.size) = true) := by
    intro q
    rw [Bool.and_eq_true, Bool.and_eq_true] at q
    exact absurd q.1.2 (by decide)
  show wpAny _ _ (if ((items.size : Int) - 1 == 0 && (-1 : Int) == 1 && items.size == items.size) = true then _ else _) _ _ s
  rw [if_neg hno, pick_rev]
  first
    | exact wpAny_bind (m := Builtin.Tuple.tupleExact _) (wpAny_newObj_type (wpAny_pure ⟨_, rfl, wpAny_pure h⟩) hok)
    | exact wpAny_bind (m := Builtin.Tuple.tupleExact _) (wpAny_newObj_type (wpAny_bind (wpAny_pure (wpAny_pure ⟨_, rfl, wpAny_pure h⟩))) hok)
    | exact wpAny_bind (wpAny_bind (m := Builtin.Tuple.tupleExact _) (wpAny_newObj_type (wpAny_pure (wpAny_pure ⟨_, rfl, wpAny_pure h⟩)) hok))
    | exact wpAny_bind (wpAny_bind (m := Builtin.Tuple.tupleExact _) (wpAny_newObj_type (wpAny_pure ⟨_, rfl, wpAny_pure h⟩) hok))
end
end L3
namespace L3
open PySem PySem.Spec PyProof.Rows L2
def tRevT (K : PySem.W.Frag) (te : TE) : TE := fun σ H Q => te σ H fun x H1 => ∃ a xs, x = .ref a ∧ SqT K H1 a xs ∧ ∀ (p : Addr) (o : Obj), H1 p = none → o.dict = none → Q (.ref p) (upd H1 p (.frz o (.tup xs.reverse)))
theorem pe_revT {X : Cx} {e : Expr} {te : TE} {k : Nat} {p1 p2 p3 pos : Pos} (he : PE X e te) : PE X (.Subscript e (.Slice none none (some (.UnaryOp .USub (.Constant (.int 1) k p1) p2)) p3) pos) (tRevT X.K te) := by
  refine ⟨fun pins s σ H Q I h => ?_⟩
  refine Subscript_ (thn (he.run pins s σ H _ I h) fun v s1 ⟨x, H1, I1, r1, q1⟩ => ?_)
  obtain ⟨a, xs, ex, hx, q⟩ := q1
  subst ex
  cases r1
  have hst : PO X (some (.UnaryOp .USub (.Constant (.int 1) k p1) p2)) (tPart (tUn (rU fun i => .int (-i)) (tC (.int 1)))) := po_some (pe_un un_neg pe_int)
  refine wpAny_Slice (thn (po_none.run pins s1 σ H1 (fun o H2 => o = none ∧ H2 = H1) I1 ⟨rfl, rfl⟩) fun vl s2 ⟨l, H2, I2, pl, el, e2⟩ => ?_)
  subst el e2
  refine thn (po_none.run pins s2 σ H2 (fun o H3 => o = none ∧ H3 = H2) I2 ⟨rfl, rfl⟩) fun vu s3 ⟨u, H3, I3, pu, eu, e3⟩ => ?_
  subst eu e3
  refine thn (hst.run pins s3 σ H3 (fun o H4 => o = some (-1) ∧ H4 = H3) I3 ⟨1, rfl, -1, rfl, rfl, rfl⟩) fun vs s4 ⟨o, H4, I4, ps, eo, e4⟩ => ?_
  subst eo e4
  have I5 : Inv X pins σ H4 { s4 with heap := s4.heap.push { cls := .type "slice", data := .fields #[vl, vu, vs] } } := I4.kept (t' := s4.toks) fun b ob q => Heap.get?_push_of_some _ q
  obtain ⟨its, r, ht, hz⟩ := I5.tuple hx
  have hlen := r.length
  show wpAny (model X.prog X.w) X.A (subscriptTail e (.Slice none none (some (.UnaryOp .USub (.Constant (.int 1) k p1) p2)) p3) (.ref a) (.ref s4.heap.objs.size)) (EP X pins σ Q) X.xe { s4 with heap := s4.heap.push { cls := .type "slice", data := .fields #[vl, vu, vs] } }
  refine tail_any (ops := [.ref a, .ref s4.heap.objs.size]) ht.typeIs (PyProof.Rows.slot_tuple_getitem.lookup) ?_ (by with_unfolding_all rfl)
  cases pl
  cases pu
  cases ps with
  | int i t =>
  refine getItem_tup_rev (tk := t) ht (Heap.IsSliceOf.new _ _ _ _) ?_ (by rw [List.size_toArray]; omega)
  exact ⟨.ref _, _, ftup_new (t' := s4.toks) I5 r.reverse (by rw [List.length_reverse]; exact hz), rfl, q _ _ (I5.hok.fresh (Nat.le_refl _)) rfl⟩
variable {G : GC} {S : SC}
def revTD : D → Option R
  | .tuple ds => some (.dat (.tuple ds.reverse))
  | _ => none
def mrevT (m : ME) : ME := fun ρ => (m ρ).bind fun x => (x.1.fz.vw x.2).bind fun d => (revTD d).bind fun r => some (r, x.2)
/-- e[::-1], e a tuple -/
theorem de_revT {e : Expr} {m : ME} {k : Nat} {p1 p2 p3 pos : Pos} (he : DE G S e m) : DE G S (.Subscript e (.Slice none none (some (.UnaryOp .USub (.Constant (.int 1) k p1) p2)) p3) pos) (mrevT m) :=
  fun X c => PE.weak (pe_revT (he X c)) fun σ H Q ⟨W, ρ, r, ρ', rel, em, q⟩ => by
    rw [c.K]
    unfold mrevT at em
    obtain ⟨⟨ra, ρ1⟩, e1, em⟩ := Option.bind_eq_some_iff.mp em
    obtain ⟨d, e4, em⟩ := Option.bind_eq_some_iff.mp em
    obtain ⟨r', e5, em⟩ := Option.bind_eq_some_iff.mp em
    cases em
    refine ⟨W, ρ, ra, ρ1, rel, e1, fun x H1 p1 => ?_⟩
    have hx := (p1.res.fz p1.toPostX rel).read p1.rel e4
    unfold revTD at e5
    split at e5
    · cases e5
      obtain ⟨a, xs, rfl, h1, r1⟩ := hx.tuple
      exact ⟨a, xs, rfl, h1.sq, fun p o hp ho => q _ _ (p1.toPostX.fin (.tup p1.rel.trk hp ho r1.rev))⟩
    · cases e5
end L3

namespace L3
open PySem PySem.Spec PyProof.Rows L2
section
variable {G : GC} {S : SC} {e : Expr} {m : ME} {pos : Pos}
/-! not e, a value -/
def mnotV (m : ME) : ME := fun ρ => (m ρ).bind fun x => (x.1.fz.vw x.2).bind fun d => (truD d).bind fun b => some (.dat (.bool (!b)), x.2)
theorem de_notV (h : DE G S e m) : DE G S (.UnaryOp .Not e pos) (mnotV m) :=
  fun X c => PE.weak (pe_notT (h X c)) fun σ H Q ⟨W, ρ, r, ρ', rel, em, q⟩ => by
    unfold mnotV at em
    obtain ⟨⟨ra, ρ1⟩, e1, em⟩ := Option.bind_eq_some_iff.mp em
    obtain ⟨d, e2, em⟩ := Option.bind_eq_some_iff.mp em
    obtain ⟨b, e3, em⟩ := Option.bind_eq_some_iff.mp em
    cases em
    refine ⟨W, ρ, ra, ρ1, rel, e1, fun x H1 p1 => ⟨b, ?_, q _ H1 (p1.toPostX.fin (.dat (.bl _)))⟩⟩
    rw [c.K]
    exact ((p1.res.fz p1.toPostX rel).read p1.rel e2).tru e3
/-! text * n -/
def repS (x : Str) (n : Nat) : Str := ⟨(List.replicate n x.cps).foldl (· ++ ·) #[]⟩
def mulSD : D → D → Option R
  | .str x, .int n => if 1 < n ∧ n < 1000 ∧ 0 < x.length ∧ x.length < 1000 ∧ (repS x n.toNat).length ≤ sizeLine then some (.dat (.str (repS x n.toNat))) else none
  | _, _ => none
theorem op_mulSD (X : Cx) (c : CxOk G S X) : OpR X (binaryOp .Mult) (rD2 G.K mulSD) := by
  intro pins s σ H x y v u Q I rx ry ⟨N, d, e, r, tk, hx, hy, eg, q⟩
  rw [← c.K] at hx hy q
  unfold mulSD at eg
  split at eg
  · split at eg
    · cases eg
      rename_i x n hk
      obtain ⟨h1, h2, h3, h4, h5⟩ := hk
      have e1 := hx.str
      have e2 := hy.int
      subst e1
      subst e2
      obtain ⟨t, rfl⟩ := rx
      obtain ⟨t', rfl⟩ := ry
      refine PySem.P.mul_str ?_ ?_ ?_ ?_
      · rw [decide_eq_false (by omega), decide_eq_false (by omega)]; rfl
      · intro _ _
        have h6 : (1000 : Int) ≤ (2 ^ 63 - 1) / n := by
          rw [Int.le_ediv_iff_mul_le (by omega)]
          omega
        omega
      · intro _ _
        show decide (_ > sizeLine) = false
        refine decide_eq_false ?_
        have h7 : x.length * n.toNat ≤ 1000 * 1000 := Nat.mul_le_mul (by omega) (by omega)
        have h8 : 1000 * 1000 ≤ sizeLine := by decide
        omega
      · rw [if_neg (by omega), if_neg (by
          intro q
          rcases Bool.or_eq_true_iff.mp q with q | q
          · have := eq_of_beq q; omega
          · have := eq_of_beq q; omega)]
        exact ⟨h5, .str (repS x n.toNat), H, I.tok _, ⟨_, rfl⟩, q _ H (.dat (.str _))⟩
    · cases eg
  · cases eg
end
/-- a def's promise of nothing -/
theorem fnG_none {G : GC} {k : Nat} {f : Addr} {fd : FuncData} {ps : List Str} {n : Nat} : FnG G k f fd ps (spM G.K n fun _ => none) :=
  ⟨fun vs H Q E ⟨W, as, r, outs, _, _, _, _, _, h, _⟩ => (nomatch h), fun A outer s H args us vs Q E _ _ _ _ _ ⟨W, as, r, outs, _, _, _, _, _, h, _⟩ => (nomatch h)⟩
end L3

namespace L3
open PySem PySem.Spec PyProof.Rows L2
/-! repr of any value -/
mutual
def noLs : D → Bool
  | .list _ => false
  | .tuple xs => noLsA xs
  | .dict kvs => noLsK kvs
  | _ => true
def noLsA : List D → Bool
  | [] => true
  | d :: ds => noLs d && noLsA ds
def noLsK : List (D × D) → Bool
  | [] => true
  | (_, d) :: ds => noLs d && noLsK ds
end
section
variable {X : Cx} {pins : List (Addr × Obj)} {σ : L2.St} {H : Hp} {s : Shared} {N : Addr → Prop}
theorem key_reads {h : Heap} (k : Key) (key : Value) (e : (mixKind X.prog X.w).is k key = true) : Reads h key (kD k) [] := by
  rcases keyIs_shape (show keyIs k key = true from e) with ⟨i, t, rfl, rfl⟩ | ⟨x, t, rfl, rfl⟩
  · exact .int _ _
  · exact .str _ _
mutual
theorem Rep.readsX (I : Inv X pins σ H s) : ∀ (d : D) (v : V) (u : Value), Rep X.K N H v d → RelV v u → ∃ as, Reads s.heap u d as ∧ (noLs d = true → sysModules ∉ as)
  | .none, _, _, h, r => by
    cases h
    cases r
    exact ⟨_, Reads.none, fun _ => by simp⟩
  | .bool b, _, _, h, r => by
    cases h
    cases r
    exact ⟨_, Reads.bool b, fun _ => by simp⟩
  | .int i, _, _, h, r => by
    cases h
    obtain ⟨t, rfl⟩ := r
    exact ⟨_, Reads.int i t, fun _ => by simp⟩
  | .str x, _, _, h, r => by
    cases h
    obtain ⟨t, rfl⟩ := r
    exact ⟨_, Reads.str x t, fun _ => by simp⟩
  | .list ds, _, _, h, r => by
    cases h with
    | lst hs ha =>
      cases r
      obtain ⟨its, rv, ⟨o, n, ho, hc, _, hd⟩, _⟩ := I.list hs.sq
      obtain ⟨as, hr, _⟩ := RepL.readsX I ds _ its ha rv
      exact ⟨_, Reads.list ho hc hd hr, fun z => by rw [noLs] at z; cases z⟩
  | .tuple ds, _, _, h, r => by
    cases h with
    | tup hs ha =>
      cases r
      obtain ⟨its, rv, ⟨o, ho, hc, n, hd⟩, _⟩ := I.tuple hs.sq
      obtain ⟨as, hr, q⟩ := RepL.readsX I ds _ its ha rv
      exact ⟨_, Reads.tuple ho hc hd hr, fun z => q (by rw [noLs] at z; exact z)⟩
  | .dict ds, _, _, h, r => by
    cases h with
    | dic h1 h2 h3 =>
      cases r
      obtain ⟨z, hsm, vs, hkv, hd⟩ := dk_of I.hok h1
      obtain ⟨as, hr, q⟩ := RepK.readsX I ds _ vs h3 hkv
      refine ⟨_, PyProof.V.reads_dictOf (enc := kD) key_reads hd hr, fun z => ?_⟩
      rw [noLs] at z
      intro m
      rcases List.mem_cons.mp m with m | m
      · rw [m] at hsm; exact absurd hsm (by simp)
      · exact q z m
theorem RepL.readsX (I : Inv X pins σ H s) : ∀ (ds : List D) (vs : List V) (us : List Value), RepL X.K N H vs ds → Vals vs us → ∃ as, ReadsAll s.heap us ds as ∧ (noLsA ds = true → sysModules ∉ as)
  | [], _, _, h, r => by
    cases h
    cases r
    exact ⟨_, ReadsAll.nil, fun _ => by simp⟩
  | d :: ds, _, _, h, r => by
    cases h with
    | cons h1 h2 =>
      cases r with
      | cons r1 r2 =>
        obtain ⟨as, q1, z1⟩ := Rep.readsX I d _ _ h1 r1
        obtain ⟨bs, q2, z2⟩ := RepL.readsX I ds _ _ h2 r2
        refine ⟨_, ReadsAll.cons q1 q2, fun z => ?_⟩
        rw [noLsA, Bool.and_eq_true] at z
        exact fun m => (List.mem_append.mp m).elim (z1 z.1) (z2 z.2)
theorem RepK.readsX (I : Inv X pins σ H s) : ∀ (ds : List (D × D)) (vs : List (Key × V)) (us : List (Key × Value)), RepK X.K N H vs ds → KV vs us → ∃ as, PyProof.V.PairsRead s.heap kD us ds as ∧ (noLsK ds = true → sysModules ∉ as)
  | [], _, _, h, r => by
    cases h
    cases r
    exact ⟨_, .nil, fun _ => by simp⟩
  | (k, d) :: ds, _, _, h, r => by
    cases h with
    | cons h1 h2 =>
      cases r with
      | cons r1 r2 =>
        rename_i q us'
        obtain ⟨k', u'⟩ := q
        obtain ⟨e1, e2⟩ := r1
        simp only at e1 e2
        subst e1
        obtain ⟨as, q1, z1⟩ := Rep.readsX I d _ _ h1 e2
        obtain ⟨bs, q2, z2⟩ := RepK.readsX I ds _ _ h2 r2
        refine ⟨_, .cons q1 q2, fun z => ?_⟩
        rw [noLsK, Bool.and_eq_true] at z
        exact fun m => (List.mem_append.mp m).elim (z1 z.1) (z2 z.2)
end
/-- the same of what may be a box -/
theorem SRep.readsX (I : Inv X pins σ H s) {d : D} {v : V} {u : Value} (h : SRep X.K N H v d) (r : RelV v u) : ∃ as, Reads s.heap u d as ∧ (noLs d = true → sysModules ∉ as) := by
  cases d with
  | list ds =>
    obtain ⟨a, xs, rfl, h1, h2⟩ := h.list
    cases r
    obtain ⟨its, rv, ⟨o, n, ho, hc, _, hd⟩, _⟩ := I.list h1
    obtain ⟨as, hr, _⟩ := RepL.readsX I ds _ its h2 rv
    exact ⟨_, Reads.list ho hc hd hr, fun z => by rw [noLs] at z; cases z⟩
  | dict ds =>
    obtain ⟨a, kvs, rfl, h1, h3⟩ := h.dict
    cases r
    obtain ⟨z, hsm, vs, hkv, hd⟩ := dk_of I.hok h1
    obtain ⟨as, hr, q⟩ := RepK.readsX I ds _ vs h3 hkv
    refine ⟨_, PyProof.V.reads_dictOf (enc := kD) key_reads hd hr, fun z => ?_⟩
    rw [noLs] at z
    intro m
    rcases List.mem_cons.mp m with m | m
    · rw [m] at hsm; exact absurd hsm (by simp)
    · exact q z m
  | tuple ds =>
    rcases h with h | ⟨q, b, rfl, e, bo⟩
    · exact Rep.readsX I _ _ _ h r
    · cases b <;> cases e
  | none => rw [h.none] at r; cases r; exact ⟨_, Reads.none, fun _ => by simp⟩
  | bool b => rw [h.bool] at r; cases r; exact ⟨_, Reads.bool b, fun _ => by simp⟩
  | int i => rw [h.int] at r; obtain ⟨t, rfl⟩ := r; exact ⟨_, Reads.int i t, fun _ => by simp⟩
  | str x => rw [h.str] at r; obtain ⟨t, rfl⟩ := r; exact ⟨_, Reads.str x t, fun _ => by simp⟩
end
def reprOk (d : D) : Bool := (!d.hasDict || noLs d) && d.showable && decide (d.depth ≤ 64) && decide (d.shown.length ≤ sizeLine)
def reprE : List D → Option R
  | [d] => if reprOk d = true then some (.dat (.str d.shown)) else none
  | _ => none
section
variable {G : GC} {S : SC}
theorem call_reprE (X : Cx) (c : CxOk G S X) : CallR X (.builtin "repr") (rDn G.K reprE) := by
  intro pins s σ H xs us Q I rxs ⟨N, ds, r, tk, hs, eg, q⟩
  rw [← c.K] at hs q
  unfold reprE at eg
  split at eg
  · split at eg
    · cases eg
      rename_i d h
      unfold reprOk at h
      rw [Bool.and_eq_true, Bool.and_eq_true, Bool.and_eq_true] at h
      obtain ⟨⟨⟨h0, h1⟩, h2⟩, h3⟩ := h
      have h2 := of_decide_eq_true h2
      have h3 := of_decide_eq_true h3
      obtain ⟨v, rfl, hv⟩ := hs.one
      obtain ⟨u, rfl, ru⟩ := vals1 rxs
      obtain ⟨as, rr, hsm⟩ := hv.readsX I ru
      have hu := hu65 c.room
      have hsm' : d.hasDict = true → sysModules ∉ as := fun z => hsm (by
        rcases Bool.or_eq_true_iff.mp h0 with q | q
        · rw [z] at q; cases q
        · exact q)
      have ref : ∀ a, u = .ref a → wpAny (model X.prog X.w) X.A (call (.builtin "repr") [u]) (EP X pins σ Q) X.xe s := fun a e => by
        subst e
        exact repr_of_reads' rr h1 hsm' c.gd (by omega) (fun _ _ e => e)
          (fun h' u tk hk => ⟨.str _, H, I.kept (t' := tk) hk, ⟨_, rfl⟩, q _ H (.dat (.str _))⟩) h3
      cases rr with
      | list _ _ _ _ => exact ref _ rfl
      | tuple _ _ _ _ => exact ref _ rfl
      | dict _ _ _ _ _ => exact ref _ rfl
      | none => exact PySem.P.repr_of_none ⟨.str _, H, I.tok _, ⟨_, rfl⟩, q _ H (.dat (.str _))⟩
      | bool b => exact PySem.P.repr_of_bool ⟨.str _, H, I.tok _, ⟨_, rfl⟩, q _ H (.dat (.str _))⟩
      | int i t => exact PySem.P.repr_of_int (of_decide_eq_true (by simpa [PyData.showable] using h1)) ⟨.str _, H, I.tok _, ⟨_, rfl⟩, q _ H (.dat (.str _))⟩
      | str x t => exact PySem.P.repr_of_str ⟨.str _, H, I.tok _, ⟨_, rfl⟩, q _ H (.dat (.str _))⟩ (by simpa [PyData.shown] using h3)
    · cases eg
  · cases eg
end
end L3

namespace L3
open PySem PySem.Spec PyProof.Rows L2
variable {G : GC} {S : SC} {e : Expr} {m : ME}
/-- a value that is handed over to stay -/
def mfz (m : ME) : ME := fun ρ => (m ρ).bind fun x => (fzs x.2 [x.1.fz]).bind fun y => (oneOf y.1).bind fun d => some (.dat d, y.2)
theorem de_fz (h : DE G S e m) : DE G S e (mfz m) := fun X c => PE.weak (h X c) fun σ H Q ⟨W, ρ, r, ρ', rel, em, q⟩ => by
  unfold mfz at em
  obtain ⟨⟨r0, ρ1⟩, e1, em⟩ := Option.bind_eq_some_iff.mp em
  obtain ⟨⟨ds, ρ2⟩, e2, em⟩ := Option.bind_eq_some_iff.mp em
  obtain ⟨d, e3, em⟩ := Option.bind_eq_some_iff.mp em
  cases em
  refine ⟨W, ρ, r0, ρ1, rel, e1, fun v H1 p1 => ?_⟩
  have f1 : FRels G.K (Av W.P ρ1 σ) ρ1 σ H1 [r0.fz] [v] := .cons (p1.res.fz p1.toPostX rel) .nil
  obtain ⟨p2, rl⟩ := fzs_ok p1.rel f1 e2
  exact q _ _ ((p1.toPostX.trans p2).fin (.dat (one_rep rl e3)))
end L3

namespace L3
open PySem PySem.Spec PyProof.Rows L2
/-! isinstance(x, T), T one of the built-in types -/
def tyN : D → String
  | .none => "NoneType"
  | .bool _ => "bool"
  | .int _ => "int"
  | .str _ => "str"
  | .list _ => "list"
  | .tuple _ => "tuple"
  | .dict _ => "dict"
def isTy (T : String) (d : D) : Bool := tyN d == T || (T == "int" && tyN d == "bool")
def isMenu : List String := ["int", "bool", "str", "list", "tuple", "dict"]
theorem kit_menu : ∀ T ∈ isMenu, ∀ t ∈ ["NoneType", "bool", "int", "str", "list", "tuple", "dict"], L2.kitB t T = some (t == T || (T == "int" && t == "bool")) := by
  decide +kernel
theorem tyN_mem (d : D) : tyN d ∈ ["NoneType", "bool", "int", "str", "list", "tuple", "dict"] := by cases d <;> simp [tyN]
section
variable {K : PySem.W.Frag} {N : Addr → Prop} {H : Hp} {v : V}
theorem SRep.tyX {d : D} (h : SRep K N H v d) : TyX K H v (.type (tyN d)) := by
  cases d with
  | none => rw [h.none]; exact .base .non
  | bool b => rw [h.bool]; exact .base (.bl b)
  | int i => rw [h.int]; exact .base (.int i)
  | str x => rw [h.str]; exact .base (.str x)
  | list ds =>
    obtain ⟨a, xs, rfl, h1, _⟩ := h.list
    rcases h1 with (h1 | ⟨o, h1⟩) | ⟨o, its, n, h1, h2, _⟩
    · exact .base (.lst h1)
    · exact .base (.frz h1)
    · exact .kList h1 h2
  | tuple ds =>
    obtain ⟨a, xs, rfl, h1, _⟩ := h.tuple
    rcases h1.sq with (h1 | ⟨o, h1⟩) | ⟨o, its, n, h1, h2, _⟩
    · exact .base (.tup h1)
    · exact .fTuple h1
    · exact .kTuple h1 h2
  | dict ds =>
    obtain ⟨a, xs, rfl, h1, _⟩ := h.dict
    exact .base (.dK h1)
end
section
variable {G : GC} {S : SC}
def misi (T : String) (m : ME) : ME := fun ρ => (m ρ).bind fun x => (x.1.fz.vw x.2).bind fun d => some (.dat (.bool (isTy T d)), x.2)
theorem de_isi {T : String} {t : Str} {e : Expr} {m : ME} {p q pos : Pos} (hT : T ∈ isMenu) (ht : bootBuiltins t = some (.type T)) (he : DE G S e m) (hg : S.sc.names.lookup (Str.ofString "isinstance") = some NameKind.globalImplicit) (hm : G.mg (Str.ofString "isinstance") = none)
    (hg2 : S.sc.names.lookup t = some NameKind.globalImplicit) (hm2 : G.mg t = none) (hn : t ≠ Str.ofString "__name__") (hd : (t == ("__debug__" : Str)) = false) (hs : ∀ env : PySem.Env, starEach [e, .Name t q] env = (false, eval e env) :: starEach [.Name t q] env) :
    DE G S (.Call (.Name "isinstance" p) [e, .Name t q] [] pos) (misi T m) := by
  intro X c
  have g1 : Gl X (Str.ofString "isinstance") := by show X.env.scope.names.lookup _ = _; rw [c.sc]; exact hg
  have g2 : Gl X t := by show X.env.scope.names.lookup _ = _; rw [c.sc]; exact hg2
  have pn : PE X (.Name t q) (tC (.ty T)) := ⟨fun pins s σ H Q I h => ld_blt I g2 (by rw [c.mg]; exact hm2) ht ⟨.ty T, H, I, rfl, h⟩ hn hd⟩
  refine PE.weak (pe_callB call_isi g1 (by rw [c.mg]; exact hm) rfl (pa_cons (he X c) (pa_cons pn pa_nil rfl) (hs _)) (by decide) (by decide) (hs _) rfl) ?_
  rintro σ H Q ⟨W, ρ, r, ρ', rel, em, q⟩
  unfold misi at em
  obtain ⟨⟨ra, ρ1⟩, e1, em⟩ := Option.bind_eq_some_iff.mp em
  obtain ⟨d, e4, em⟩ := Option.bind_eq_some_iff.mp em
  cases em
  refine ⟨W, ρ, ra, ρ1, rel, e1, fun x H1 p1 => ?_⟩
  have hx := (p1.res.fz p1.toPostX rel).read p1.rel e4
  refine ⟨x, .ty T, .type (tyN d), .type T, isTy T d, rfl, .ty T, ?_, ?_, q _ _ (p1.toPostX.fin (.dat (.bl _)))⟩
  · rw [c.K]; exact hx.tyX
  · exact L2.kit_ty (kit_menu T hT _ (tyN_mem d))
end
end L3

namespace L3
open PySem PySem.Spec PyProof.Rows L2
/-! enumerate, zip: of lists and tuples that stay -/
/-- a list (l) or a tuple -/
def SqB (l : Bool) (K : PySem.W.Frag) (H : Hp) (a : Addr) (xs : List V) : Prop := match l with
  | true => SqL K H a xs
  | false => SqT K H a xs
def ItrAt (l : Bool) (h : Heap) (it a : Addr) (i : Nat) : Prop := match l with
  | true => h.IsListIter it a i
  | false => h.IsTupleIter it a i
def itrObj (l : Bool) (a : Addr) : Obj := match l with
  | true => { cls := .type "list_iterator", data := .fields #[.ref a, .int 0 0] }
  | false => { cls := .type "tuple_iterator", data := .fields #[.ref a, .int 0 0] }
theorem ItrAt.obj {l : Bool} {h : Heap} {it a : Addr} {i : Nat} (x : ItrAt l h it a i) : ∃ o vs, h.get? it = some o ∧ o.data = .fields vs := by
  cases l with
  | true => obtain ⟨o, h1, _, h2⟩ := x; exact ⟨o, _, h1, h2⟩
  | false => obtain ⟨o, h1, _, h2⟩ := x; exact ⟨o, _, h1, h2⟩
theorem ItrAt.move {l : Bool} {h h' : Heap} {it a : Addr} {i : Nat} (x : ItrAt l h it a i) (k : ∀ o, h.get? it = some o → h'.get? it = some o) : ItrAt l h' it a i := by
  cases l with
  | true => exact Heap.IsListIter.at x k
  | false => exact Heap.IsTupleIter.at x k
theorem SqB.fun {l : Bool} {X : Cx} {pins : List (Addr × Obj)} {σ : L2.St} {H : Hp} {s : Shared} (I : Inv X pins σ H s) {a : Addr} {xs ys : List V} (h : SqB l X.K H a xs) (h2 : SqB l X.K H a ys) : xs = ys := by
  cases l with
  | true => exact I.list_inj h h2
  | false => exact I.tuple_inj h h2
/-- what stands there, as an iterator reads it -/
theorem SqB.raw {l : Bool} {X : Cx} {pins : List (Addr × Obj)} {σ : L2.St} {H : Hp} {s : Shared} (I : Inv X pins σ H s) {a : Addr} {xs : List V} (h : SqB l X.K H a xs) :
    ∃ its : List Value, Vals xs its ∧ a < s.heap.objs.size ∧ (∃ o vs n, s.heap.get? a = some o ∧ o.data = .seq vs n) ∧
      (∀ (A : Around) (it : Addr), A.handled = none → a ≠ it → ∃ St : Nat → Heap → Prop, Draws X.prog X.w A it [it, a] its.toArray.size (fun i v => its.toArray[i]? = some v) St ∧ (∀ i, ItrAt l s.heap it a i → St i s.heap) ∧ ∀ i h, St i h → ItrAt l h it a i) ∧
      ∃ B : Heap → Prop, Begins (.ref a) (itrObj l a) B ∧ B s.heap := by
  cases l with
  | true =>
    obtain ⟨its, rv, p, hz⟩ := I.list h
    obtain ⟨o, e1, e2, n, e3⟩ := p.isList
    exact ⟨its, rv, Heap.lt_size e1, ⟨o, _, n, e1, e3⟩, fun A it hh hne => ⟨_, Draws.list hh it a hne its.toArray, fun i x => ⟨x, p.isList⟩, fun i h x => x.1⟩, _, begins_list a its.toArray, p.isList⟩
  | false =>
    obtain ⟨its, rv, p, hz⟩ := I.tuple h
    have p' := p
    obtain ⟨o, e1, e2, n, e3⟩ := p'
    exact ⟨its, rv, Heap.lt_size e1, ⟨o, _, n, e1, e3⟩, fun A it hh hne => ⟨_, Draws.tuple hh it a hne its.toArray, fun i x => ⟨x, p⟩, fun i h x => x.1⟩, _, begins_tuple a its.toArray, p⟩
/-! enumerate -/
def ItE (l : Bool) (K : PySem.W.Frag) (a : Addr) (n0 : Nat) : It := ⟨fun i H => ∃ xs x, SqB l K H a xs ∧ xs.length = n0 ∧ xs[i]? = some x,
  fun i H v H' => ∃ T o x, v = .ref T ∧ H T = none ∧ o.dict = none ∧ H' = upd H T (.frz o (.tup [.int (i : Nat), x])) ∧ ∀ xs, SqB l K H a xs → xs[i]? = some x, fun i H => ∃ xs, SqB l K H a xs ∧ xs.length = n0 ∧ n0 ≤ i⟩
theorem turn_E {P : Program} {w : World} {K : PySem.W.Frag} {elts : List Expr} {kk : Nat} {tpos : Pos} (l : Bool) (a e it : Addr) (n0 : Nat) :
    Turn P w K (.Tuple elts kk tpos) (ItE l K a n0) [e, it] e (fun i h => (∃ old, IsEnum h e it ((i : Nat) : Int) old) ∧ ItrAt l h it a i ∧ e ≠ it ∧ i ≤ n0) where
  mem := List.mem_cons_self
  obj := fun i h ⟨⟨old, he⟩, hi, _, _⟩ b hb => by
    rcases List.mem_cons.mp hb with rfl | hb
    · exact ⟨_, he, fun v q => nomatch q⟩
    · obtain ⟨o, vs, h1, h2⟩ := hi.obj
      rw [List.mem_singleton.mp hb]
      exact ⟨o, h1, fun v q => by rw [h2] at q; cases q⟩
  keep := fun i h h' ⟨⟨old, he⟩, hi, hne, hn⟩ k => ⟨⟨old, k e List.mem_cons_self _ he⟩, hi.move (k it (List.mem_cons_of_mem _ List.mem_cons_self)), hne, hn⟩
  item := by
    intro X hP hw hK hc i pins s σ H E I hf ⟨⟨old, he⟩, hi, hne, hn0⟩ ⟨xs, x, hq, hxl, hx⟩
    subst hP hw hK
    obtain ⟨its, rv, ha, ⟨oa, va, na, ga1, ga2⟩, dr, _⟩ := hq.raw I
    obtain ⟨oi, vi, gi1, gi2⟩ := hi.obj
    have hai : a ≠ it := fun z => by rw [z, gi1] at ga1; cases ga1; rw [gi2] at ga2; cases ga2
    have hae : a ≠ e := fun z => by rw [z] at ga1; rw [show s.heap.get? e = _ from he] at ga1; cases ga1; cases ga2
    obtain ⟨St, D, st1, st2⟩ := dr X.A.in1 it (I.ok.hd hc) hai
    obtain ⟨u, hu, ru⟩ := rv.get hx
    have hlt : i < its.toArray.size := by
      rw [List.size_toArray]
      exact (List.getElem?_eq_some_iff.mp hu).1
    have hef : e ∉ [it, a] := by simp [hne, Ne.symm hae]
    refine wpAny_pyNext_enum_itemC D he (st1 i hi) hlt hne hef fun y h' tk hy ho hst hT hsz hk => ?_
    have ey : y = u := by
      have h1 : its.toArray[i]? = some y := hy
      rw [List.getElem?_toArray, hu] at h1
      exact (Option.some.inj h1).symm
    subst ey
    have hel : e < s.heap.objs.size := Heap.lt_size he
    have hil : it < s.heap.objs.size := Heap.lt_size gi1
    refine ⟨_, rfl, wpAny_letOwnedTupleGo_enum (s := { s with heap := h', toks := tk + 1 }) ho fun h2 he2 sb => ?_⟩
    have gT : h2.get? s.heap.objs.size = some { cls := .type "tuple", data := .seq #[.int i tk, y] } := (sb.2 _ (Nat.ne_of_gt hel)).trans hT
    have nw : ObjOk X.prog X.w (upd H s.heap.objs.size (.frz { cls := .type "tuple", data := .seq #[.int i tk, y] } (.tup [.int (i : Nat), x]))) h2 s.heap.objs.size (.frz { cls := .type "tuple", data := .seq #[.int i tk, y] } (.tup [.int (i : Nat), x])) :=
      ⟨gT, by show 2 ≤ sizeLine; decide, [.int i tk, y], .cons ⟨_, rfl⟩ (.cons ru .nil), ⟨_, gT, rfl, _, rfl⟩⟩
    refine ⟨.ref s.heap.objs.size, _, I.turnedNew (t' := tk + 1) (ch := [e, it]) (fun b ob hb q => ?_) hf (Nat.le_refl _) nw, rfl, ⟨_, _, x, rfl, I.hok.fresh (Nat.le_refl _), rfl, rfl, fun ys hy => by rw [hy.fun I hq]; exact hx⟩, ⟨⟨y, ?_⟩, (st2 _ _ hst).move fun o q => (sb.2 it (Ne.symm hne)).trans q, hne, by have := (List.getElem?_eq_some_iff.mp hx).1; omega⟩, fun b hb => ?_⟩
    · have n1 : b ≠ e := fun z => hb (by rw [z]; exact List.mem_cons_self)
      have n2 : b ≠ it := fun z => hb (by rw [z]; exact List.mem_cons_of_mem _ List.mem_cons_self)
      exact (sb.2 b n1).trans (hk b ob n1 n2 q)
    · rw [show ((i + 1 : Nat) : Int) = (i : Int) + 1 by omega]
      exact he2
    · have hb' : b < s.heap.objs.size := by
        rcases List.mem_cons.mp hb with rfl | hb
        · exact hel
        · rw [List.mem_singleton.mp hb]; exact hil
      rw [upd_ne (Nat.ne_of_lt hb')]
      exact (hf b hb).1
  done := by
    intro X hP hw hK hc i pins s σ H E I hf ⟨⟨old, he⟩, hi, hne, hn0⟩ ⟨xs, hq, hxl, hx⟩
    subst hP hw hK
    obtain ⟨its, rv, ha, ⟨oa, va, na, ga1, ga2⟩, dr, _⟩ := hq.raw I
    obtain ⟨oi, vi, gi1, gi2⟩ := hi.obj
    have hai : a ≠ it := fun z => by rw [z, gi1] at ga1; cases ga1; rw [gi2] at ga2; cases ga2
    obtain ⟨St, D, st1, st2⟩ := dr X.A.in1 it (I.ok.hd hc) hai
    obtain ⟨f0, f1, f2, f3, f4, f5⟩ := hf it (List.mem_cons_of_mem _ List.mem_cons_self)
    have hn : i = its.toArray.size := by rw [List.size_toArray, ← rv.length]; omega
    subst hn
    exact wpAny_pyNext_enum_endD D he (st1 _ hi) fun h' eb => ⟨rfl, I.turned (t' := s.toks) (fun b o hb q => eb b o hb q) f0 f1 f3 f4 f5⟩
  self := fun A i s Q E ⟨⟨_, he⟩, _⟩ h => wpAny_pyIter_enum he h
/-! zip of two -/
def ItZ (l1 l2 : Bool) (K : PySem.W.Frag) (a b : Addr) (n0 : Nat) : It := ⟨fun i H => ∃ xs ys x y, SqB l1 K H a xs ∧ SqB l2 K H b ys ∧ min xs.length ys.length = n0 ∧ xs[i]? = some x ∧ ys[i]? = some y,
  fun i H v H' => ∃ T o x y, v = .ref T ∧ H T = none ∧ o.dict = none ∧ H' = upd H T (.frz o (.tup [x, y])) ∧ (∀ xs, SqB l1 K H a xs → xs[i]? = some x) ∧ ∀ ys, SqB l2 K H b ys → ys[i]? = some y,
  fun i H => ∃ xs ys, SqB l1 K H a xs ∧ SqB l2 K H b ys ∧ min xs.length ys.length = n0 ∧ n0 ≤ i⟩
theorem zsep {a b z TI TO i1 i2 : Addr} (nd : [z, TI, TO, i1, i2].Nodup) (na : a ∉ [z, TI, TO, i1, i2]) (nb : b ∉ [z, TI, TO, i1, i2]) : ZipSep2 z TI TO i1 i2 [i1, a] [i2, b] := by
  simp only [List.nodup_cons, List.mem_cons, List.not_mem_nil, or_false, not_or, List.nodup_nil, and_true, not_false_eq_true] at nd na nb
  obtain ⟨⟨a1, a2, a3, a4⟩, ⟨b1, b2, b3⟩, ⟨c1, c2⟩, d1⟩ := nd
  obtain ⟨na1, na2, na3, na4, na5⟩ := na
  obtain ⟨nb1, nb2, nb3, nb4, nb5⟩ := nb
  constructor <;> simp_all <;> (try constructor) <;> (try assumption) <;> (try exact Ne.symm ‹_›)
theorem turn_Z {P : Program} {w : World} {K : PySem.W.Frag} {elts : List Expr} {kk : Nat} {tpos : Pos} {l1 l2 : Bool} {a b z TI TO i1 i2 : Addr} (n0 : Nat) (nd : [z, TI, TO, i1, i2].Nodup) (na : a ∉ [z, TI, TO, i1, i2]) (nb : b ∉ [z, TI, TO, i1, i2]) :
    Turn P w K (.Tuple elts kk tpos) (ItZ l1 l2 K a b n0) [z, TI, TO, i1, i2] z (fun i h => IsZip h z TI TO .none ∧ IsTupOf2 h TI (.ref i1) (.ref i2) ∧ (∃ x y, IsTupOf2 h TO x y) ∧ ItrAt l1 h i1 a i ∧ ItrAt l2 h i2 b i ∧ i ≤ n0) where
  mem := List.mem_cons_self
  obj := fun i h ⟨hz, hTI, ⟨x, y, hTO⟩, h1, h2, _⟩ c hc => by
    obtain ⟨o1, v1, e1, d1⟩ := h1.obj
    obtain ⟨o2, v2, e2, d2⟩ := h2.obj
    simp only [List.mem_cons, List.not_mem_nil, or_false] at hc
    rcases hc with rfl | rfl | rfl | rfl | rfl
    · exact ⟨_, hz, fun v q => nomatch q⟩
    · exact ⟨_, hTI, fun v q => nomatch q⟩
    · exact ⟨_, hTO, fun v q => nomatch q⟩
    · exact ⟨o1, e1, fun v q => by rw [d1] at q; cases q⟩
    · exact ⟨o2, e2, fun v q => by rw [d2] at q; cases q⟩
  keep := fun i h h' ⟨hz, hTI, ⟨x, y, hTO⟩, h1, h2, hn⟩ k => ⟨k z (by simp) _ hz, k TI (by simp) _ hTI, ⟨x, y, k TO (by simp) _ hTO⟩, h1.move (k i1 (by simp)), h2.move (k i2 (by simp)), hn⟩
  item := by
    intro X hP hw hK hc i pins s σ H E I hf ⟨hz, hTI, ⟨x0, y0, hTO⟩, h1, h2, hn0⟩ ⟨xs, ys, x, y, hqx, hqy, hmin, hx, hy⟩
    subst hP hw hK
    obtain ⟨its, rv, ha, ⟨oa, va, ka, ga1, ga2⟩, dr, _⟩ := hqx.raw I
    obtain ⟨its2, rv2, hb, ⟨ob, vb, kb, gb1, gb2⟩, dr2, _⟩ := hqy.raw I
    have S := zsep nd na nb
    have hd1 := I.ok.hd hc
    obtain ⟨St1, D1, s11, s12⟩ := dr X.A.in1 i1 hd1 fun e => na (by rw [e]; simp)
    obtain ⟨St2, D2, s21, s22⟩ := dr2 X.A.in1 i2 hd1 fun e => nb (by rw [e]; simp)
    obtain ⟨u, hu, ru⟩ := rv.get hx
    obtain ⟨u2, hu2, ru2⟩ := rv2.get hy
    have lt1 : i < its.toArray.size := by rw [List.size_toArray]; exact (List.getElem?_eq_some_iff.mp hu).1
    have lt2 : i < its2.toArray.size := by rw [List.size_toArray]; exact (List.getElem?_eq_some_iff.mp hu2).1
    have inH : ∀ c ∈ [z, TI, TO, i1, i2], c < s.heap.objs.size := fun c hcm => by
      obtain ⟨o1, v1, e1, d1⟩ := h1.obj
      obtain ⟨o2, v2, e2, d2⟩ := h2.obj
      simp only [List.mem_cons, List.not_mem_nil, or_false] at hcm
      rcases hcm with rfl | rfl | rfl | rfl | rfl
      · exact Heap.lt_size hz
      · exact Heap.lt_size hTI
      · exact Heap.lt_size hTO
      · exact Heap.lt_size e1
      · exact Heap.lt_size e2
    refine wpAny_pyNext_zipD2_item S D1 D2 hz hTI hTO (s11 i h1) (s21 i h2) lt1 lt2 fun y1 y2 h' tk q1 q2 z1 T1 t1 t2 hT hsz hk => ?_
    have ey1 : y1 = u := by
      have h3 : its.toArray[i]? = some y1 := q1
      rw [List.getElem?_toArray, hu] at h3
      exact (Option.some.inj h3).symm
    have ey2 : y2 = u2 := by
      have h3 : its2.toArray[i]? = some y2 := q2
      rw [List.getElem?_toArray, hu2] at h3
      exact (Option.some.inj h3).symm
    subst ey1 ey2
    have hzl := inH z (by simp)
    refine ⟨_, rfl, wpAny_letOwnedTupleGo_zip (s := { s with heap := h', toks := tk }) z1 fun hh2 z2 sb => ?_⟩
    have gT : hh2.get? s.heap.objs.size = some { cls := .type "tuple", data := .seq #[y1, y2] } := (sb.2 _ (Nat.ne_of_gt hzl)).trans hT
    have nw : ObjOk X.prog X.w (upd H s.heap.objs.size (.frz { cls := .type "tuple", data := .seq #[y1, y2] } (.tup [x, y]))) hh2 s.heap.objs.size (.frz { cls := .type "tuple", data := .seq #[y1, y2] } (.tup [x, y])) :=
      ⟨gT, by show 2 ≤ sizeLine; decide, [y1, y2], .cons ru (.cons ru2 .nil), ⟨_, gT, rfl, _, rfl⟩⟩
    have nz : ∀ {c : Addr}, c ∈ [TI, TO, i1, i2] → c ≠ z := fun {c} hcm e => (List.nodup_cons.mp nd).1 (by rw [← e]; exact hcm)
    refine ⟨.ref s.heap.objs.size, _, I.turnedNew (t' := tk) (ch := [z, TI, TO, i1, i2]) (fun c o hcn q => ?_) hf (Nat.le_refl _) nw, rfl, ⟨_, _, x, y, rfl, I.hok.fresh (Nat.le_refl _), rfl, rfl, fun l hl => by rw [hl.fun I hqx]; exact hx, fun l hl => by rw [hl.fun I hqy]; exact hy⟩, ⟨z2, ?_, ⟨y1, y2, ?_⟩, ?_, ?_, by have := (List.getElem?_eq_some_iff.mp hx).1; have := (List.getElem?_eq_some_iff.mp hy).1; omega⟩, fun c hcm => ?_⟩
    · have e1 : c ≠ z := fun e => hcn (by rw [e]; simp)
      exact (sb.2 c e1).trans (hk c o e1 (fun e => hcn (by rw [e]; simp)) (fun e => hcn (by rw [e]; simp)) (fun e => hcn (by rw [e]; simp)) q)
    · exact (sb.2 _ S.TIz).trans (hk _ _ S.TIz S.TITO S.TIi1 S.TIi2 hTI)
    · exact (sb.2 _ S.TOz).trans T1
    · exact (s12 _ _ t1).move fun o q => (sb.2 i1 (nz (by simp))).trans q
    · exact (s22 _ _ t2).move fun o q => (sb.2 i2 (nz (by simp))).trans q
    · rw [upd_ne (Nat.ne_of_lt (inH c hcm))]
      exact (hf c hcm).1
  done := by
    intro X hP hw hK hc i pins s σ H E I hf ⟨hz, hTI, ⟨x0, y0, hTO⟩, h1, h2, hn0⟩ ⟨xs, ys, hqx, hqy, hm, hm2⟩
    subst hP hw hK
    obtain ⟨its, rv, ha, ⟨oa, va, ka, ga1, ga2⟩, dr, _⟩ := hqx.raw I
    obtain ⟨its2, rv2, hb, ⟨ob, vb, kb, gb1, gb2⟩, dr2, _⟩ := hqy.raw I
    have S := zsep nd na nb
    have hd1 := I.ok.hd hc
    obtain ⟨St1, D1, s11, s12⟩ := dr X.A.in1 i1 hd1 fun e => na (by rw [e]; simp)
    obtain ⟨St2, D2, s21, s22⟩ := dr2 X.A.in1 i2 hd1 fun e => nb (by rw [e]; simp)
    have e1 : its.toArray.size = xs.length := by rw [List.size_toArray, rv.length]
    have e2 : its2.toArray.size = ys.length := by rw [List.size_toArray, rv2.length]
    refine wpAny_pyNext_zipD2_end S D1 D2 hz hTI hTO (s11 i h1) (s21 i h2) (by omega) (by omega) (by omega) fun h' tk hk => ⟨rfl, ?_⟩
    refine I.turnedL (t' := tk) (ch := [z, TI, TO, i1, i2]) (fun c o hcn q => hk c o (fun e => hcn (by rw [e]; simp)) (fun e => hcn (by rw [e]; simp)) (fun e => hcn (by rw [e]; simp)) (fun e => hcn (by rw [e]; simp)) q) hf
  self := fun A i s Q E st h => wpAny_pyIter_zip st.1 h
/-! as what a loop goes over -/
theorem meets_enum1 {v : Value} {o : Obj} {H : Heap → Prop} (B : Begins v o H) :
    Meets (Builtin.«enumerate.__new__» ⟨[.type "enumerate", v], []⟩) (fun _ R s => H s.heap ∧ R (.ok (.ret (.ref (s.heap.push o).objs.size))) { s with heap := (s.heap.push o).push { cls := .type "enumerate", data := .fields #[.none, .bool false, .ref s.heap.objs.size, rawInt 0, .none, .none] } }) :=
  .of_wp fun prog w A R s ⟨h1, h⟩ => by
    obtain ⟨hp, g, d, tk, os⟩ := s
    have hsub := sub_enumerate
    have q1 : ∀ {A' : Around} {E : Value → Shared → Prop} {Q : Value → Shared → Prop}, Q (.ref hp.objs.size) ⟨hp.push o, g, d, tk, os⟩ → wpAny (model prog w) A' (pyIter v) Q E ⟨hp, g, d, tk, os⟩ := fun {A' E Q} q => B.iter prog w A' E ⟨hp, g, d, tk, os⟩ Q h1 q
    wp_walk using q1
    refine wpAny_stack_any fun st => wpAny_pure ?_
    split
    · rename_i c _ _ _ _ _
      cases (c == Value.type "enumerate") <;> (wp_walk using q1; exact ⟨_, rfl, h⟩)
    · wp_walk using q1; exact ⟨_, rfl, h⟩
theorem enum_call1 {prog : Program} {w : World} {A : Around} {E : Value → Shared → Prop} {s : Shared} {v : Value} {o : Obj} {H : Heap → Prop} {Q : Value → Shared → Prop} (B : Begins v o H) (h1 : H s.heap)
    (h : ∀ h', IsEnum h' (s.heap.objs.size + 1) s.heap.objs.size 0 .none → h'.get? s.heap.objs.size = some o → (∀ b o, s.heap.get? b = some o → h'.get? b = some o) → Q (.ref (s.heap.objs.size + 1)) { s with heap := h' }) :
    wpAny (model prog w) A (call (.type "enumerate") [v]) Q E s := by
  refine callType_new F.called_enumerate (by decide) (F.typeCall_enumerate_1 _) (F.newCall_enumerate_1 _) (fun obj => F.args_object_init_2 obj _) F.entry_enumerate_new (meets_enum1 B) ⟨h1, ?_⟩
  have hz : (s.heap.push o).objs.size = s.heap.objs.size + 1 := Heap.size_push ..
  show _ ∧ _
  rw [hz]
  have he : IsEnum ((s.heap.push o).push { cls := .type "enumerate", data := .fields #[.none, .bool false, .ref s.heap.objs.size, rawInt 0, .none, .none] }) (s.heap.objs.size + 1) s.heap.objs.size 0 .none := by
    have z := Heap.get?_push_size (s.heap.push o) (o := { cls := .type "enumerate", data := .fields #[.none, .bool false, .ref s.heap.objs.size, rawInt 0, .none, .none] }) rfl
    rwa [hz] at z
  exact ⟨⟨_, he, rfl⟩, h _ he (Heap.get?_push_of_some _ (Heap.get?_push_size _ B.free)) fun b o x => Heap.get?_push_of_some _ (Heap.get?_push_of_some _ x)⟩
theorem itr_start {l : Bool} {h : Heap} {it a : Addr} (e : h.get? it = some (itrObj l a)) : ItrAt l h it a 0 := by
  cases l with
  | true => exact ⟨_, e, rfl, rfl⟩
  | false => exact ⟨_, e, rfl, rfl⟩
section
variable {X : Cx} {elts : List Expr} {kk : Nat} {tpos p pos : Pos}
def iE (K : PySem.W.Frag) (ta : TA) : TI := fun σ H R => ta σ H fun vs H1 => ∃ l a xs, vs = [V.ref a] ∧ SqB l K H1 a xs ∧ R (ItE l K a xs.length) H1
theorem pi_E {e : Expr} {ta : TA} (hg : Gl X "enumerate") (hm : X.mg "enumerate" = none) (ha : PA X [e] ta) (hs : starEach [e] X.env = [(false, eval e X.env)]) :
    PI X (.Tuple elts kk tpos) (.Call (.Name "enumerate" p) [e] [] pos) (iE X.K ta) := by
  refine ⟨fun pins s σ H R I h => ?_⟩
  refine Call_ (ld_blt I hg hm boot_enumerate (PyProof.Rows.callWith_type1 (thn (ha.run pos pins s σ H _ I h) fun us s1 ⟨vs, H1, I1, r1, l, a, xs, ev, hq, q⟩ => ?_) hs rfl))
  subst ev
  obtain ⟨u, rfl, ru⟩ := vals1 r1
  obtain rfl : u = .ref a := ru
  obtain ⟨its, rv, hal, _, _, B, hB, hB1⟩ := hq.raw I1
  refine enum_call1 hB hB1 fun h' he hit hk => wpAny_pyIter_enum he ?_
  refine ⟨s1.heap.objs.size + 1, [s1.heap.objs.size + 1, s1.heap.objs.size], _, _, H1, rfl, I1.kept (t' := s1.toks) hk, turn_E l a (s1.heap.objs.size + 1) s1.heap.objs.size xs.length, ⟨⟨.none, he⟩, itr_start hit, Nat.succ_ne_self _, Nat.zero_le _⟩, fun b hb => ?_, q⟩
  have hle : s1.heap.objs.size ≤ b := by
    rcases List.mem_cons.mp hb with rfl | hb
    · exact Nat.le_succ _
    · rw [List.mem_singleton.mp hb]; exact Nat.le_refl _
  exact I1.fpOk hle (I1.hok.fresh hle)
def iZ (K : PySem.W.Frag) (ta : TA) : TI := fun σ H R => ta σ H fun vs H1 => ∃ l1 l2 a b xs ys, vs = [V.ref a, V.ref b] ∧ SqB l1 K H1 a xs ∧ SqB l2 K H1 b ys ∧ R (ItZ l1 l2 K a b (min xs.length ys.length)) H1
theorem pi_Z {e e2 : Expr} {ta : TA} (hg : Gl X "zip") (hm : X.mg "zip" = none) (ha : PA X [e, e2] ta) (hs : starEach [e, e2] X.env = (false, eval e X.env) :: starEach [e2] X.env) (hpl : (backTo pos (starEach [e2] X.env)).any (·.1) = false) :
    PI X (.Tuple elts kk tpos) (.Call (.Name "zip" p) [e, e2] [] pos) (iZ X.K ta) := by
  refine ⟨fun pins s σ H R I h => ?_⟩
  refine Call_ (ld_blt I hg hm boot_zip (PyProof.Rows.callWith_type1 (thn (ha.run pos pins s σ H _ I h) fun us s1 ⟨vs, H1, I1, r1, l1, l2, a, b, xs, ys, ev, hq1, hq2, q⟩ => ?_) hs hpl))
  subst ev
  obtain ⟨u, u2, rfl, ru, ru2⟩ := vals2 r1
  obtain rfl : u = .ref a := ru
  obtain rfl : u2 = .ref b := ru2
  obtain ⟨its, rv, hal, _, _, B, hB, hB1⟩ := hq1.raw I1
  obtain ⟨its2, rv2, hbl, _, _, B2, hB2, hB21⟩ := hq2.raw I1
  refine zip_begins2 hB hB2 hB1 hB21 fun h' hz hTI hTO g1 g2 hsz hk => wpAny_pyIter_zip hz ?_
  have out : ∀ {c : Addr}, c < s1.heap.objs.size → c ∉ [s1.heap.objs.size + 4, s1.heap.objs.size + 2, s1.heap.objs.size + 3, s1.heap.objs.size, s1.heap.objs.size + 1] := fun {c} hc hm => by
    simp only [List.mem_cons, List.not_mem_nil, or_false] at hm
    rcases hm with hm | hm | hm | hm | hm <;> first
      | exact absurd hm (Nat.ne_of_lt hc)
      | exact absurd hm (Nat.ne_of_lt (Nat.lt_of_lt_of_le hc (Nat.le_add_right _ _)))
  refine ⟨s1.heap.objs.size + 4, [s1.heap.objs.size + 4, s1.heap.objs.size + 2, s1.heap.objs.size + 3, s1.heap.objs.size, s1.heap.objs.size + 1], _, _, H1, rfl, I1.kept (t' := s1.toks) hk, turn_Z (l1 := l1) (l2 := l2) (a := a) (b := b) (min xs.length ys.length) ?_ (out hal) (out hbl), ⟨hz, hTI, ⟨_, _, hTO⟩, itr_start g1, itr_start g2, Nat.zero_le _⟩, fun c hc => ?_, q⟩
  · simp
  · have hle : s1.heap.objs.size ≤ c := by
      simp only [List.mem_cons, List.not_mem_nil, or_false] at hc
      rcases hc with rfl | rfl | rfl | rfl | rfl <;> first
        | exact Nat.le_refl _
        | exact Nat.le_add_right _ _
    exact I1.fpOk hle (I1.hok.fresh hle)
end
end L3

namespace L3
open PySem PySem.Spec PyProof.Rows L2
/-! enumerate, zip: what a loop goes over -/
def enumD (ds : List D) : List D := ds.mapIdx fun i d => .tuple [.int (i : Nat), d]
def zipD (ds es : List D) : List D := List.zipWith (fun d e => .tuple [d, e]) ds es
def enumT (ρ : En) : List D → Option (It3 × En)
  | [d] => (seq2D d).map fun ds => (.items (enumD ds), ρ)
  | _ => none
def zipT (ρ : En) : List D → Option (It3 × En)
  | [d, e] => (seq2D d).bind fun ds => (seq2D e).map fun es => (.items (zipD ds es), ρ)
  | _ => none
def mienum (ms : MA) : MI := fun ρ => (ms ρ).bind fun x => (fzs x.2 x.1).bind fun y => enumT y.2 y.1
def mizip (ms : MA) : MI := fun ρ => (ms ρ).bind fun x => (fzs x.2 x.1).bind fun y => zipT y.2 y.1
section
variable {K : PySem.W.Frag} {N : Addr → Prop} {H : Hp} {v : V}
theorem Rep.sqB {d : D} {ds : List D} (h : Rep K N H v d) (e : seq2D d = some ds) : ∃ l a xs, v = .ref a ∧ SqB l K H a xs ∧ RepL K N H xs ds ∧ ∀ N1 H1, Evo N H N1 H1 → SqB l K H1 a xs := by
  unfold seq2D at e
  split at e
  · cases e
    cases h with
    | lst h1 h2 => exact ⟨true, _, _, rfl, h1.sq, h2, fun N1 H1 ev => (h1.evo ev).sq⟩
  · cases e
    cases h with
    | tup h1 h2 => exact ⟨false, _, _, rfl, h1.sq, h2, fun N1 H1 ev => (h1.evo ev).sq⟩
  · cases e
theorem pair_rep {N1 : Addr → Prop} {H2 : Hp} {T : Addr} {o : Obj} {x y : V} {d e : D} (tk : Trk N1 H2) (hT : H2 T = none) (ho : o.dict = none) (rx : Rep K N1 H2 x d) (ry : Rep K N1 H2 y e) : Rep K N1 (upd H2 T (.frz o (.tup [x, y]))) (.ref T) (.tuple [d, e]) := by
  have ev : Evo N1 H2 N1 (upd H2 T (.frz o (.tup [x, y]))) := ⟨fun a u q _ => fresh_upd hT a u q, fun a z => .inl z⟩
  refine .tup (.inl ⟨⟨o, upd_same, ho⟩, fun z => ?_⟩) (.cons (Rep.evo ev _ _ rx) (.cons (Rep.evo ev _ _ ry) .nil))
  obtain ⟨u, e⟩ := tk T z
  rw [hT] at e
  cases e
end
section
variable {G : GC} {S : SC}
theorem di_enum {e : Expr} {elts : List Expr} {kk : Nat} {tpos p pos : Pos} {ms : MA} (hg : S.sc.names.lookup (Str.ofString "enumerate") = some NameKind.globalImplicit) (hm : G.mg (Str.ofString "enumerate") = none) (ha : DA G S [e] ms) (hs : ∀ env : PySem.Env, starEach [e] env = [(false, eval e env)]) :
    DI G S (.Tuple elts kk tpos) (.Call (.Name "enumerate" p) [e] [] pos) (mienum ms) := by
  intro X c
  refine PI.weak (pi_E (by show X.env.scope.names.lookup _ = _; rw [c.sc]; exact hg) (by rw [c.mg]; exact hm) (ha X c) (hs _)) ?_
  rintro σ H R ⟨W, ρ, it, ρ', rel, em, q⟩
  unfold mienum at em
  obtain ⟨⟨rs, ρ1⟩, e1, em⟩ := Option.bind_eq_some_iff.mp em
  obtain ⟨⟨ds, ρ2⟩, e2, em⟩ := Option.bind_eq_some_iff.mp em
  unfold enumT at em
  simp only at em
  split at em
  · rename_i d
    obtain ⟨es, e3, em⟩ := Option.map_eq_some_iff.mp em
    cases em
    refine ⟨W, ρ, rs, ρ1, rel, e1, fun vs H1 p1 f1 => ?_⟩
    obtain ⟨p2, rl⟩ := fzs_ok p1.rel f1 e2
    cases rl with
    | cons r t =>
      cases t
      obtain ⟨l, a, xs, rfl, h1, h2, h3⟩ := r.sqB e3
      rw [c.K]
      refine ⟨l, a, xs, rfl, h1, q _ H1 (p1.trans p2) fun N1 H2 ev tk => ⟨fun n d hd => ?_, fun n hn => ⟨xs, h3 _ _ ev, rfl, ?_⟩⟩⟩
      · unfold enumD at hd
        rw [List.getElem?_mapIdx] at hd
        obtain ⟨d', hd', rfl⟩ := Option.map_eq_some_iff.mp hd
        obtain ⟨x, hx, rx⟩ := h2.get hd'
        refine ⟨⟨xs, x, h3 _ _ ev, rfl, hx⟩, ?_⟩
        rintro v H3 ⟨T, o, y, rfl, hT, ho, rfl, hy⟩
        have ey := hy xs (h3 _ _ ev)
        rw [hx] at ey
        cases ey
        exact ⟨fun b u e => fresh_upd hT b u e, pair_rep tk hT ho (.int _) (Rep.evo ev _ _ rx)⟩
      · unfold enumD at hn
        rw [List.length_mapIdx, ← h2.length] at hn
        exact hn
  · cases em
theorem di_zip {e e' : Expr} {elts : List Expr} {kk : Nat} {tpos p pos : Pos} {ms : MA} (hg : S.sc.names.lookup (Str.ofString "zip") = some NameKind.globalImplicit) (hm : G.mg (Str.ofString "zip") = none) (ha : DA G S [e, e'] ms) (hs : ∀ env : PySem.Env, starEach [e, e'] env = (false, eval e env) :: starEach [e'] env) (hpl : ∀ env : PySem.Env, (backTo pos (starEach [e'] env)).any (·.1) = false) :
    DI G S (.Tuple elts kk tpos) (.Call (.Name "zip" p) [e, e'] [] pos) (mizip ms) := by
  intro X c
  refine PI.weak (pi_Z (by show X.env.scope.names.lookup _ = _; rw [c.sc]; exact hg) (by rw [c.mg]; exact hm) (ha X c) (hs _) (hpl _)) ?_
  rintro σ H R ⟨W, ρ, it, ρ', rel, em, q⟩
  unfold mizip at em
  obtain ⟨⟨rs, ρ1⟩, e1, em⟩ := Option.bind_eq_some_iff.mp em
  obtain ⟨⟨ds, ρ2⟩, e2, em⟩ := Option.bind_eq_some_iff.mp em
  unfold zipT at em
  simp only at em
  split at em
  · rename_i d d2
    obtain ⟨ds1, e3, em⟩ := Option.bind_eq_some_iff.mp em
    obtain ⟨ds2, e4, em⟩ := Option.map_eq_some_iff.mp em
    cases em
    refine ⟨W, ρ, rs, ρ1, rel, e1, fun vs H1 p1 f1 => ?_⟩
    obtain ⟨p2, rl⟩ := fzs_ok p1.rel f1 e2
    cases rl with
    | cons r t =>
      cases t with
      | cons r' t =>
        cases t
        obtain ⟨l, a, xs, rfl, h1, h2, h3⟩ := r.sqB e3
        obtain ⟨l', a', xs', rfl, h1', h2', h3'⟩ := r'.sqB e4
        rw [c.K]
        refine ⟨l, l', a, a', xs, xs', rfl, h1, h1', q _ H1 (p1.trans p2) fun N1 H2 ev tk => ⟨fun n d hd => ?_, fun n hn => ⟨xs, xs', h3 _ _ ev, h3' _ _ ev, rfl, ?_⟩⟩⟩
        · unfold zipD at hd
          rw [List.getElem?_zipWith] at hd
          cases hd1 : ds1[n]? with
          | none => rw [hd1] at hd; simp at hd
          | some d1 =>
            cases hd2 : ds2[n]? with
            | none => rw [hd1, hd2] at hd; simp at hd
            | some d2 =>
              rw [hd1, hd2] at hd
              cases hd
              obtain ⟨x, hx, rx⟩ := h2.get hd1
              obtain ⟨x', hx', rx'⟩ := h2'.get hd2
              refine ⟨⟨xs, xs', x, x', h3 _ _ ev, h3' _ _ ev, rfl, hx, hx'⟩, ?_⟩
              rintro v H3 ⟨T, o, y, y', rfl, hT, ho, rfl, hy, hy'⟩
              have ey := hy xs (h3 _ _ ev)
              rw [hx] at ey
              cases ey
              have ey' := hy' xs' (h3' _ _ ev)
              rw [hx'] at ey'
              cases ey'
              exact ⟨fun b u e => fresh_upd hT b u e, pair_rep tk hT ho (Rep.evo ev _ _ rx) (Rep.evo ev _ _ rx')⟩
        · unfold zipD at hn
          rw [List.length_zipWith, ← h2.length, ← h2'.length] at hn
          exact hn
  · cases em
end
end L3

namespace L3
open PySem PySem.Spec PyProof.Rows L2
/-! targets in targets -/
def gseq : List MG → List D → En → Option En
  | [], [], ρ => some ρ
  | g :: gs, d :: ds, ρ => (g d ρ).bind fun ρ1 => gseq gs ds ρ1
  | _, _, _ => none
def gtupG (gs : List MG) : MG := fun d ρ => match d with
  | .tuple ds => gseq gs ds ρ
  | _ => none
def rdGs (K : PySem.W.Frag) (is : List Nat) (gs : List MG) : TGs := fun vs σ H Q => ∃ W ρ ds ρ', DRel K W ρ σ H ∧ RepL K (Av W.P ρ σ) H vs ds ∧ gseq gs ds ρ = some ρ' ∧ ∀ σ', PostC K W ρ σ H ρ' σ' H → (σ'.length = σ.length ∧ ∀ j, j ∉ is → σ'[j]? = σ[j]?) → Q σ' H
def DGs (G : GC) (S : SC) (es : List Expr) (is : List Nat) (gs : List MG) : Prop := (∀ X, CxOk G S X → PGs X es (rdGs G.K is gs)) ∧ gs.length = es.length
section
variable {G : GC} {S : SC}
theorem PGs.weak {X : Cx} {es : List Expr} {t t' : TGs} (h : PGs X es t) (w : ∀ v σ H Q, t' v σ H Q → t v σ H Q) : PGs X es t' := ⟨fun p s σ H v u Q I r q => h.run p s σ H v u Q I r (w _ _ _ _ q)⟩
theorem gseq_len : ∀ {gs : List MG} {ds : List D} {ρ ρ' : En}, gseq gs ds ρ = some ρ' → ds.length = gs.length
  | [], [], _, _, _ => rfl
  | g :: gs, d :: ds, _, _, h => by
    obtain ⟨ρ1, _, h2⟩ := Option.bind_eq_some_iff.mp (show (g d _).bind _ = _ from h)
    rw [List.length_cons, List.length_cons, gseq_len h2]
  | [], _ :: _, _, _, h => by simp [gseq] at h
  | _ :: _, [], _, _, h => by simp [gseq] at h
theorem dgs_nil : DGs G S [] [] [] := ⟨fun X c => PGs.weak pgs_nil fun vs σ H Q ⟨W, ρ, ds, ρ', rel, r, em, q⟩ => by
  cases ds with
  | nil => cases r; cases em; exact ⟨rfl, q σ (PostC.refl rel) ⟨rfl, fun _ _ => rfl⟩⟩
  | cons d ds => simp [gseq] at em, rfl⟩
theorem dgs_cons {e : Expr} {es : List Expr} {is1 is2 : List Nat} {g : MG} {gs : List MG} (h1 : DG G S e is1 g) (h2 : DGs G S es is2 gs) (hs : ∀ env : PySem.Env, (assignEach (e :: es) env).map (·.2) = assign e env :: (assignEach es env).map (·.2)) : DGs G S (e :: es) (is1 ++ is2) (g :: gs) := by
  refine ⟨fun X c => PGs.weak (pgs_cons (h1 X c) (h2.1 X c) (hs _)) ?_, by rw [List.length_cons, List.length_cons, h2.2]⟩
  rintro vs σ H Q ⟨W, ρ, ds, ρ', rel, r, em, q⟩
  cases ds with
  | nil => simp [gseq] at em
  | cons d ds =>
    obtain ⟨ρ1, e1, e2⟩ := Option.bind_eq_some_iff.mp (show (g d ρ).bind _ = _ from em)
    cases r with
    | cons r1 r2 =>
      refine ⟨_, _, rfl, W, ρ, d, ρ1, rel, r1, e1, fun σ1 p1 c1 => ⟨W, ρ1, ds, ρ', p1.rel, RepL.evo (p1.evo rel) _ _ r2, e2, fun σ2 p2 c2 => q σ2 (p1.trans p2) ⟨c2.1.trans c1.1, fun j hj => ?_⟩⟩⟩
      rw [c2.2 j fun z => hj (List.mem_append_right _ z), c1.2 j fun z => hj (List.mem_append_left _ z)]
theorem dg_tupG {es : List Expr} {k : Nat} {pos : Pos} {is : List Nat} {gs : List MG} (h : DGs G S es is gs) (hn : ∀ env : PySem.Env, (assignEach es env).length = es.length) (hst : ∀ env : PySem.Env, (assignEach es env).findIdx? (·.1) = none) : DG G S (.Tuple es k pos) is (gtupG gs) := by
  intro X c
  refine PG.weak (pg_tup (n := es.length) c.calm (h.1 X c) (hn _) (hst _)) ?_
  rw [c.K]
  rintro v σ H Q ⟨W, ρ, d, ρ', rel, r, em, q⟩
  unfold gtupG at em
  split at em
  · rename_i ds
    cases r with
    | tup h1 h2 => exact ⟨_, _, rfl, h1.sq, by rw [h2.length, gseq_len em, h.2], W, ρ, ds, ρ', rel, h2, em, q⟩
  · cases em
def GsStay (gs : List MG) (is : List Nat) : Prop := ∀ (ds : List D) (ρ ρ1 : En), gseq gs ds ρ = some ρ1 → ∀ (i : Nat) (a : A), i ∉ is → ρ[i]? = some (some a) → ∃ a', ρ1[i]? = some (some a')
theorem gs_nil : GsStay [] [] := fun ds ρ ρ1 h i a _ e => by
  cases ds with
  | nil => cases h; exact ⟨a, e⟩
  | cons _ _ => simp [gseq] at h
theorem gs_cons {g : MG} {gs : List MG} {is1 is2 : List Nat} (h1 : GStay g is1) (h2 : GsStay gs is2) : GsStay (g :: gs) (is1 ++ is2) := fun ds ρ ρ1 h i a n e => by
  cases ds with
  | nil => simp [gseq] at h
  | cons d ds =>
    obtain ⟨ρ2, e1, e2⟩ := Option.bind_eq_some_iff.mp (show (g d ρ).bind _ = _ from h)
    obtain ⟨a1, f1⟩ := h1 d ρ ρ2 e1 i a (fun z => n (List.mem_append_left _ z)) e
    exact h2 ds ρ2 ρ1 e2 i a1 (fun z => n (List.mem_append_right _ z)) f1
theorem gtupG_stay {gs : List MG} {is : List Nat} (h : GsStay gs is) : GStay (gtupG gs) is := fun d ρ ρ1 e => by
  unfold gtupG at e
  split at e
  · exact h _ _ _ e
  · cases e
end
end L3

namespace L3
open PySem

/-! ends -/
def seqO (b : MS) : O → MS
  | .nx, ρ => b ρ
  | .bk, ρ => some (.bk, ρ)
  | .ct, ρ => some (.ct, ρ)
  | .rt r, ρ => some (.rt r, ρ)
def iteS {α : Type} (a b : En → Option α) : Bool → En → Option α
  | true, ρ => a ρ
  | false, ρ => b ρ
def retA (i : Nat) (ρ : En) : Option A → Option (O × En)
  | some (.dat d) => some (.rt (.dat d), ρ)
  | some (.box true b) => some (.rt (.new b), ρ)
  | _ => none
def retR (ρ : En) : R → Option (O × En)
  | .dat d => some (.rt (.dat d), ρ)
  | .new b => some (.rt (.new b), ρ)
  | .ref i => retA i ρ ρ[i]?.join
def varA (i : Nat) (ρ : En) : Option A → Option (R × En)
  | some (.dat d) => some (.dat d, ρ)
  | some (.box _ _) => some (.ref i, ρ)
  | none => none
def partD (ρ : En) : D → Option (Option Int × En)
  | .int i => some (some i, ρ)
  | _ => none
def seqItems (ρ : En) : Option (List D) → Option (It3 × En)
  | some ds => some (.items ds, ρ)
  | none => none
def seqA (i : Nat) (ρ : En) : Option A → Option (It3 × En)
  | some (.dat d) => seqItems ρ (seqD d)
  | some (.box true b) => seqItems (ρ.set i (some (.dat b.dat))) (seqD b.dat)
  | some (.box false (.lst ds)) => some (.slot i ds, ρ)
  | _ => none
def seqR (ρ : En) : R → Option (It3 × En)
  | .dat d => seqItems ρ (seqD d)
  | .new b => seqItems ρ (seqD b.dat)
  | .ref i => seqA i ρ ρ[i]?.join
def seqAC (i : Nat) (ρ : En) : Option A → Option (It3 × En)
  | some (.dat d) => seqItems ρ (seqD d)
  | some (.box _ (.lst ds)) => some (.slot i ds, ρ)
  | _ => none
def seqRC (ρ : En) : R → Option (It3 × En)
  | .dat d => seqItems ρ (seqD d)
  | .new b => seqItems ρ (seqD b.dat)
  | .ref i => seqAC i ρ ρ[i]?.join
def forT (g : MG) (b : MS) : It3 → MS
  | .items ds, ρ => mforI g b ds ρ
  | .slot i ds, ρ => mforS i g b ds 0 ρ
def stoO : Option En → Option (O × En)
  | some ρ => some (.nx, ρ)
  | none => none
def parR (i j : Nat) (ρ : En) : R → R → Option (O × En)
  | .ref _, _ => none
  | _, .ref _ => none
  | r, r' => stoO ((stoR ρ i r).bind fun ρ1 => stoR ρ1 j r')
def lcE (ρ : En) (vs : List Nat) : Option (List D × En) → Option (R × En)
  | some y => some (.new (.lst y.1), restE ρ y.2 vs)
  | none => none
def lcT (g : MG) (t : MT) (m : ME) (vs : List Nat) : It3 → ME
  | .items ds, ρ => lcE ρ vs (mlcI g t m vs ds [] (wipeE ρ vs))
  | .slot i ds, ρ => lcE ρ vs ((guardO (decide (i ∉ vs))).bind fun _ => mlcS i g t m vs ds 0 [] (wipeE ρ vs))
def rng1 (ρ : En) : List R → Option (It3 × En)
  | [r] => (intR ρ r).bind fun j => (guardO (decide (-(2 ^ 62) ≤ j ∧ j < 2 ^ 62))).bind fun _ => some (.items (rngD 0 j), ρ)
  | _ => none
def augR (s : Nat) (ρ : En) (o : Bool) (xs : List D) (j : Nat) : R → Option (O × En)
  | .dat d => some (.nx, ρ.set s (some (.box o (.lst (xs.set j d)))))
  | _ => none
def asgG (g : MG) (ρ : En) : List D → Option (O × En)
  | [d] => stoO (g d ρ)
  | _ => none
def defE (as : List A) (ρ : En) : O → Option (R × List A)
  | .rt r => (outAs ρ as 0).map fun o => (r, o)
  | .nx => (outAs ρ as 0).map fun o => (.dat .none, o)
  | _ => none

@[simp] theorem ev_mvar (i : Nat) (ρ : En) : mvar i ρ = varA i ρ ρ[i]?.join := by
  unfold mvar varA
  cases ρ[i]?.join with
  | none => rfl
  | some a => cases a <;> rfl
@[simp] theorem ev_mcon (d : D) (ρ : En) : mcon d ρ = some (.dat d, ρ) := rfl
@[simp] theorem ev_mnil (ρ : En) : mnil ρ = some ([], ρ) := rfl
@[simp] theorem ev_mdnew (ρ : En) : mdnew ρ = some (.new (.dic []), ρ) := rfl
@[simp] theorem ev_mdic (kvs : List (L2.Key × D)) (ρ : En) : mdic kvs ρ = some (.new (.dic (mergeKD [] kvs)), ρ) := rfl
@[simp] theorem ev_monone (ρ : En) : monone ρ = some (none, ρ) := rfl
@[simp] theorem ev_mpass (ρ : En) : mpass ρ = some (.nx, ρ) := rfl
@[simp] theorem ev_myes (ρ : En) : myes ρ = some (true, ρ) := rfl
def k_m1_2 (ρ1 : En) : Option (R) → Option (R × En)
  | some r => some (r, ρ1)
  | none => none
@[simp] theorem kk_m1_2 (ρ1 : En) (r : R) : k_m1_2 ρ1 (some r) = (some (r, ρ1)) := rfl
def k_m1_1 (g : D → Option R) (ρ1 : En) : Option (D) → Option (R × En)
  | some d => k_m1_2 ρ1 (g d)
  | none => none
@[simp] theorem kk_m1_1 (g : D → Option R) (ρ1 : En) (d : D) : k_m1_1 g ρ1 (some d) = (k_m1_2 ρ1 (g d)) := rfl
def k_m1_0 (g : D → Option R) : Option (R × En) → Option (R × En)
  | some (x, ρ1) => k_m1_1 g ρ1 (x.fz.vw ρ1)
  | none => none
@[simp] theorem kk_m1_0 (g : D → Option R) (x : R) (ρ1 : En) : k_m1_0 g (some (x, ρ1)) = (k_m1_1 g ρ1 (x.fz.vw ρ1)) := rfl
@[simp] theorem ev_m1 (g : D → Option R) (ma : ME) (ρ : En) : m1 g ma ρ = k_m1_0 g (ma ρ) := by
  unfold m1
  cases h0 : ma ρ with
  | none => simp only [Option.bind, Option.map, h0, k_m1_0, k_m1_1, k_m1_2]
  | some p0 =>
    obtain ⟨x, ρ1⟩ := p0
    cases h1 : x.fz.vw ρ1 with
    | none => simp only [Option.bind, Option.map, h0, h1, k_m1_0, k_m1_1, k_m1_2]
    | some d =>
      cases h2 : g d with
      | none => simp only [Option.bind, Option.map, h0, h1, h2, k_m1_0, k_m1_1, k_m1_2]
      | some r =>
        simp only [Option.bind, Option.map, h0, h1, h2, k_m1_0, k_m1_1, k_m1_2]
def k_m2_4 (ρ2 : En) : Option (R) → Option (R × En)
  | some r => some (r, ρ2)
  | none => none
@[simp] theorem kk_m2_4 (ρ2 : En) (r : R) : k_m2_4 ρ2 (some r) = (some (r, ρ2)) := rfl
def k_m2_3 (g : D → D → Option R) (ρ2 : En) (d : D) : Option (D) → Option (R × En)
  | some e => k_m2_4 ρ2 (g d e)
  | none => none
@[simp] theorem kk_m2_3 (g : D → D → Option R) (ρ2 : En) (d : D) (e : D) : k_m2_3 g ρ2 d (some e) = (k_m2_4 ρ2 (g d e)) := rfl
def k_m2_2 (g : D → D → Option R) (y : R) (ρ2 : En) : Option (D) → Option (R × En)
  | some d => k_m2_3 g ρ2 d (y.fz.vw ρ2)
  | none => none
@[simp] theorem kk_m2_2 (g : D → D → Option R) (y : R) (ρ2 : En) (d : D) : k_m2_2 g y ρ2 (some d) = (k_m2_3 g ρ2 d (y.fz.vw ρ2)) := rfl
def k_m2_1 (g : D → D → Option R) (x : R) : Option (R × En) → Option (R × En)
  | some (y, ρ2) => k_m2_2 g y ρ2 (x.fz.vw ρ2)
  | none => none
@[simp] theorem kk_m2_1 (g : D → D → Option R) (x : R) (y : R) (ρ2 : En) : k_m2_1 g x (some (y, ρ2)) = (k_m2_2 g y ρ2 (x.fz.vw ρ2)) := rfl
def k_m2_0 (g : D → D → Option R) (mb : ME) : Option (R × En) → Option (R × En)
  | some (x, ρ1) => k_m2_1 g x (mb ρ1)
  | none => none
@[simp] theorem kk_m2_0 (g : D → D → Option R) (mb : ME) (x : R) (ρ1 : En) : k_m2_0 g mb (some (x, ρ1)) = (k_m2_1 g x (mb ρ1)) := rfl
@[simp] theorem ev_m2 (g : D → D → Option R) (ma : ME) (mb : ME) (ρ : En) : m2 g ma mb ρ = k_m2_0 g mb (ma ρ) := by
  unfold m2
  cases h0 : ma ρ with
  | none => simp only [Option.bind, Option.map, h0, k_m2_0, k_m2_1, k_m2_2, k_m2_3, k_m2_4]
  | some p0 =>
    obtain ⟨x, ρ1⟩ := p0
    cases h1 : mb ρ1 with
    | none => simp only [Option.bind, Option.map, h0, h1, k_m2_0, k_m2_1, k_m2_2, k_m2_3, k_m2_4]
    | some p1 =>
      obtain ⟨y, ρ2⟩ := p1
      cases h2 : x.fz.vw ρ2 with
      | none => simp only [Option.bind, Option.map, h0, h1, h2, k_m2_0, k_m2_1, k_m2_2, k_m2_3, k_m2_4]
      | some d =>
        cases h3 : y.fz.vw ρ2 with
        | none => simp only [Option.bind, Option.map, h0, h1, h2, h3, k_m2_0, k_m2_1, k_m2_2, k_m2_3, k_m2_4]
        | some e =>
          cases h4 : g d e with
          | none => simp only [Option.bind, Option.map, h0, h1, h2, h3, h4, k_m2_0, k_m2_1, k_m2_2, k_m2_3, k_m2_4]
          | some r =>
            simp only [Option.bind, Option.map, h0, h1, h2, h3, h4, k_m2_0, k_m2_1, k_m2_2, k_m2_3, k_m2_4]
def k_mcons_1 (x : R) : Option (List R × En) → Option (List R × En)
  | some (rs, ρ2) => some (x.fz :: rs, ρ2)
  | none => none
@[simp] theorem kk_mcons_1 (x : R) (rs : List R) (ρ2 : En) : k_mcons_1 x (some (rs, ρ2)) = (some (x.fz :: rs, ρ2)) := rfl
def k_mcons_0 (ms : MA) : Option (R × En) → Option (List R × En)
  | some (x, ρ1) => k_mcons_1 x (ms ρ1)
  | none => none
@[simp] theorem kk_mcons_0 (ms : MA) (x : R) (ρ1 : En) : k_mcons_0 ms (some (x, ρ1)) = (k_mcons_1 x (ms ρ1)) := rfl
@[simp] theorem ev_mcons (ma : ME) (ms : MA) (ρ : En) : mcons ma ms ρ = k_mcons_0 ms (ma ρ) := by
  unfold mcons
  cases h0 : ma ρ with
  | none => simp only [Option.bind, Option.map, h0, k_mcons_0, k_mcons_1]
  | some p0 =>
    obtain ⟨x, ρ1⟩ := p0
    cases h1 : ms ρ1 with
    | none => simp only [Option.bind, Option.map, h0, h1, k_mcons_0, k_mcons_1]
    | some p1 =>
      obtain ⟨rs, ρ2⟩ := p1
      simp only [Option.bind, Option.map, h0, h1, k_mcons_0, k_mcons_1]
def k_mn_2 (ρ1 : En) : Option (R) → Option (R × En)
  | some r => some (r, ρ1)
  | none => none
@[simp] theorem kk_mn_2 (ρ1 : En) (r : R) : k_mn_2 ρ1 (some r) = (some (r, ρ1)) := rfl
def k_mn_1 (g : List D → Option R) (ρ1 : En) : Option (List D) → Option (R × En)
  | some ds => k_mn_2 ρ1 (g ds)
  | none => none
@[simp] theorem kk_mn_1 (g : List D → Option R) (ρ1 : En) (ds : List D) : k_mn_1 g ρ1 (some ds) = (k_mn_2 ρ1 (g ds)) := rfl
def k_mn_0 (g : List D → Option R) : Option (List R × En) → Option (R × En)
  | some (rs, ρ1) => k_mn_1 g ρ1 (vws ρ1 rs)
  | none => none
@[simp] theorem kk_mn_0 (g : List D → Option R) (rs : List R) (ρ1 : En) : k_mn_0 g (some (rs, ρ1)) = (k_mn_1 g ρ1 (vws ρ1 rs)) := rfl
@[simp] theorem ev_mn (g : List D → Option R) (ms : MA) (ρ : En) : mn g ms ρ = k_mn_0 g (ms ρ) := by
  unfold mn
  cases h0 : ms ρ with
  | none => simp only [Option.bind, Option.map, h0, k_mn_0, k_mn_1, k_mn_2]
  | some p0 =>
    obtain ⟨rs, ρ1⟩ := p0
    cases h1 : vws ρ1 rs with
    | none => simp only [Option.bind, Option.map, h0, h1, k_mn_0, k_mn_1, k_mn_2]
    | some ds =>
      cases h2 : g ds with
      | none => simp only [Option.bind, Option.map, h0, h1, h2, k_mn_0, k_mn_1, k_mn_2]
      | some r =>
        simp only [Option.bind, Option.map, h0, h1, h2, k_mn_0, k_mn_1, k_mn_2]
def k_mm_6 (ρ2 : En) : Option (R) → Option (R × En)
  | some r => some (r, ρ2)
  | none => none
@[simp] theorem kk_mm_6 (ρ2 : En) (r : R) : k_mm_6 ρ2 (some r) = (some (r, ρ2)) := rfl
def k_mm_5 (g : D → List D → Option R) (ρ2 : En) (d : D) : Option (List D) → Option (R × En)
  | some ds => k_mm_6 ρ2 (g d ds)
  | none => none
@[simp] theorem kk_mm_5 (g : D → List D → Option R) (ρ2 : En) (d : D) (ds : List D) : k_mm_5 g ρ2 d (some ds) = (k_mm_6 ρ2 (g d ds)) := rfl
def k_mm_4 (g : D → List D → Option R) (rs : List R) (ρ2 : En) : Option (D) → Option (R × En)
  | some d => k_mm_5 g ρ2 d (vws ρ2 rs)
  | none => none
@[simp] theorem kk_mm_4 (g : D → List D → Option R) (rs : List R) (ρ2 : En) (d : D) : k_mm_4 g rs ρ2 (some d) = (k_mm_5 g ρ2 d (vws ρ2 rs)) := rfl
def k_mm_3 (g : D → List D → Option R) (x : R) : Option (List R × En) → Option (R × En)
  | some (rs, ρ2) => k_mm_4 g rs ρ2 (x.fz.vw ρ2)
  | none => none
@[simp] theorem kk_mm_3 (g : D → List D → Option R) (x : R) (rs : List R) (ρ2 : En) : k_mm_3 g x (some (rs, ρ2)) = (k_mm_4 g rs ρ2 (x.fz.vw ρ2)) := rfl
def k_mm_2 (g : D → List D → Option R) (ms : MA) (x : R) (ρ1 : En) : Option (Unit) → Option (R × En)
  | some u => k_mm_3 g x (ms ρ1)
  | none => none
@[simp] theorem kk_mm_2 (g : D → List D → Option R) (ms : MA) (x : R) (ρ1 : En) (u : Unit) : k_mm_2 g ms x ρ1 (some u) = (k_mm_3 g x (ms ρ1)) := rfl
def k_mm_1 (T : String) (g : D → List D → Option R) (ms : MA) (x : R) (ρ1 : En) : Option (D) → Option (R × En)
  | some d0 => k_mm_2 g ms x ρ1 (guardO (tyD T d0))
  | none => none
@[simp] theorem kk_mm_1 (T : String) (g : D → List D → Option R) (ms : MA) (x : R) (ρ1 : En) (d0 : D) : k_mm_1 T g ms x ρ1 (some d0) = (k_mm_2 g ms x ρ1 (guardO (tyD T d0))) := rfl
def k_mm_0 (T : String) (g : D → List D → Option R) (ms : MA) : Option (R × En) → Option (R × En)
  | some (x, ρ1) => k_mm_1 T g ms x ρ1 (x.fz.vw ρ1)
  | none => none
@[simp] theorem kk_mm_0 (T : String) (g : D → List D → Option R) (ms : MA) (x : R) (ρ1 : En) : k_mm_0 T g ms (some (x, ρ1)) = (k_mm_1 T g ms x ρ1 (x.fz.vw ρ1)) := rfl
@[simp] theorem ev_mm (T : String) (g : D → List D → Option R) (ma : ME) (ms : MA) (ρ : En) : mm T g ma ms ρ = k_mm_0 T g ms (ma ρ) := by
  unfold mm
  cases h0 : ma ρ with
  | none => simp only [Option.bind, Option.map, h0, k_mm_0, k_mm_1, k_mm_2, k_mm_3, k_mm_4, k_mm_5, k_mm_6]
  | some p0 =>
    obtain ⟨x, ρ1⟩ := p0
    cases h1 : x.fz.vw ρ1 with
    | none => simp only [Option.bind, Option.map, h0, h1, k_mm_0, k_mm_1, k_mm_2, k_mm_3, k_mm_4, k_mm_5, k_mm_6]
    | some d0 =>
      cases h2 : guardO (tyD T d0) with
      | none => simp only [Option.bind, Option.map, h0, h1, h2, k_mm_0, k_mm_1, k_mm_2, k_mm_3, k_mm_4, k_mm_5, k_mm_6]
      | some u =>
        cases h3 : ms ρ1 with
        | none => simp only [Option.bind, Option.map, h0, h1, h2, h3, k_mm_0, k_mm_1, k_mm_2, k_mm_3, k_mm_4, k_mm_5, k_mm_6]
        | some p3 =>
          obtain ⟨rs, ρ2⟩ := p3
          cases h4 : x.fz.vw ρ2 with
          | none => simp only [Option.bind, Option.map, h0, h1, h2, h3, h4, k_mm_0, k_mm_1, k_mm_2, k_mm_3, k_mm_4, k_mm_5, k_mm_6]
          | some d =>
            cases h5 : vws ρ2 rs with
            | none => simp only [Option.bind, Option.map, h0, h1, h2, h3, h4, h5, k_mm_0, k_mm_1, k_mm_2, k_mm_3, k_mm_4, k_mm_5, k_mm_6]
            | some ds =>
              cases h6 : g d ds with
              | none => simp only [Option.bind, Option.map, h0, h1, h2, h3, h4, h5, h6, k_mm_0, k_mm_1, k_mm_2, k_mm_3, k_mm_4, k_mm_5, k_mm_6]
              | some r =>
                simp only [Option.bind, Option.map, h0, h1, h2, h3, h4, h5, h6, k_mm_0, k_mm_1, k_mm_2, k_mm_3, k_mm_4, k_mm_5, k_mm_6]
def k_mif_0 (ma : ME) (mb : ME) : Option (Bool × En) → Option (R × En)
  | some (c, ρ1) => iteS ma mb c ρ1
  | none => none
@[simp] theorem kk_mif_0 (ma : ME) (mb : ME) (c : Bool) (ρ1 : En) : k_mif_0 ma mb (some (c, ρ1)) = (iteS ma mb c ρ1) := rfl
@[simp] theorem ev_mif (mt : MT) (ma : ME) (mb : ME) (ρ : En) : mif mt ma mb ρ = k_mif_0 ma mb (mt ρ) := by
  unfold mif
  cases h0 : mt ρ with
  | none => simp only [Option.bind, Option.map, h0, k_mif_0]
  | some p0 =>
    obtain ⟨c, ρ1⟩ := p0
    simp only [Option.bind, Option.map, h0, k_mif_0]
    cases c <;> simp [iteS]
def k_mtup_2 (ds : List D) (ρ2 : En) : Option (Unit) → Option (R × En)
  | some u => some (.dat (.tuple ds), ρ2)
  | none => none
@[simp] theorem kk_mtup_2 (ds : List D) (ρ2 : En) (u : Unit) : k_mtup_2 ds ρ2 (some u) = (some (.dat (.tuple ds), ρ2)) := rfl
def k_mtup_1  : Option (List D × En) → Option (R × En)
  | some (ds, ρ2) => k_mtup_2 ds ρ2 (guardO (decide (ds.length ≤ sizeLine)))
  | none => none
@[simp] theorem kk_mtup_1 (ds : List D) (ρ2 : En) : k_mtup_1  (some (ds, ρ2)) = (k_mtup_2 ds ρ2 (guardO (decide (ds.length ≤ sizeLine)))) := rfl
def k_mtup_0  : Option (List R × En) → Option (R × En)
  | some (rs, ρ1) => k_mtup_1  (fzs ρ1 rs)
  | none => none
@[simp] theorem kk_mtup_0 (rs : List R) (ρ1 : En) : k_mtup_0  (some (rs, ρ1)) = (k_mtup_1  (fzs ρ1 rs)) := rfl
@[simp] theorem ev_mtup (ms : MA) (ρ : En) : mtup ms ρ = k_mtup_0  (ms ρ) := by
  unfold mtup
  cases h0 : ms ρ with
  | none => simp only [Option.bind, Option.map, h0, k_mtup_0, k_mtup_1, k_mtup_2]
  | some p0 =>
    obtain ⟨rs, ρ1⟩ := p0
    cases h1 : fzs ρ1 rs with
    | none => simp only [Option.bind, Option.map, h0, h1, k_mtup_0, k_mtup_1, k_mtup_2]
    | some p1 =>
      obtain ⟨ds, ρ2⟩ := p1
      cases h2 : guardO (decide (ds.length ≤ sizeLine)) with
      | none => simp only [Option.bind, Option.map, h0, h1, h2, k_mtup_0, k_mtup_1, k_mtup_2]
      | some u =>
        simp only [Option.bind, Option.map, h0, h1, h2, k_mtup_0, k_mtup_1, k_mtup_2]
def k_mlst_2 (ds : List D) (ρ2 : En) : Option (Unit) → Option (R × En)
  | some u => some (.new (.lst ds), ρ2)
  | none => none
@[simp] theorem kk_mlst_2 (ds : List D) (ρ2 : En) (u : Unit) : k_mlst_2 ds ρ2 (some u) = (some (.new (.lst ds), ρ2)) := rfl
def k_mlst_1  : Option (List D × En) → Option (R × En)
  | some (ds, ρ2) => k_mlst_2 ds ρ2 (guardO (decide (ds.length ≤ sizeLine)))
  | none => none
@[simp] theorem kk_mlst_1 (ds : List D) (ρ2 : En) : k_mlst_1  (some (ds, ρ2)) = (k_mlst_2 ds ρ2 (guardO (decide (ds.length ≤ sizeLine)))) := rfl
def k_mlst_0  : Option (List R × En) → Option (R × En)
  | some (rs, ρ1) => k_mlst_1  (fzs ρ1 rs)
  | none => none
@[simp] theorem kk_mlst_0 (rs : List R) (ρ1 : En) : k_mlst_0  (some (rs, ρ1)) = (k_mlst_1  (fzs ρ1 rs)) := rfl
@[simp] theorem ev_mlst (ms : MA) (ρ : En) : mlst ms ρ = k_mlst_0  (ms ρ) := by
  unfold mlst
  cases h0 : ms ρ with
  | none => simp only [Option.bind, Option.map, h0, k_mlst_0, k_mlst_1, k_mlst_2]
  | some p0 =>
    obtain ⟨rs, ρ1⟩ := p0
    cases h1 : fzs ρ1 rs with
    | none => simp only [Option.bind, Option.map, h0, h1, k_mlst_0, k_mlst_1, k_mlst_2]
    | some p1 =>
      obtain ⟨ds, ρ2⟩ := p1
      cases h2 : guardO (decide (ds.length ≤ sizeLine)) with
      | none => simp only [Option.bind, Option.map, h0, h1, h2, k_mlst_0, k_mlst_1, k_mlst_2]
      | some u =>
        simp only [Option.bind, Option.map, h0, h1, h2, k_mlst_0, k_mlst_1, k_mlst_2]
def k_mosome_1 (ρ1 : En) : Option (D) → Option (Option Int × En)
  | some d => partD ρ1 d
  | none => none
@[simp] theorem kk_mosome_1 (ρ1 : En) (d : D) : k_mosome_1 ρ1 (some d) = (partD ρ1 d) := rfl
def k_mosome_0  : Option (R × En) → Option (Option Int × En)
  | some (x, ρ1) => k_mosome_1 ρ1 (x.fz.vw ρ1)
  | none => none
@[simp] theorem kk_mosome_0 (x : R) (ρ1 : En) : k_mosome_0  (some (x, ρ1)) = (k_mosome_1 ρ1 (x.fz.vw ρ1)) := rfl
@[simp] theorem ev_mosome (m : ME) (ρ : En) : mosome m ρ = k_mosome_0  (m ρ) := by
  unfold mosome
  cases h0 : m ρ with
  | none => simp only [Option.bind, Option.map, h0, k_mosome_0, k_mosome_1]
  | some p0 =>
    obtain ⟨x, ρ1⟩ := p0
    cases h1 : x.fz.vw ρ1 with
    | none => simp only [Option.bind, Option.map, h0, h1, k_mosome_0, k_mosome_1]
    | some d =>
      simp only [Option.bind, Option.map, h0, h1, k_mosome_0, k_mosome_1]
      cases d <;> simp [partD]
def k_msl_4 (ρ3 : En) : Option (R) → Option (R × En)
  | some r => some (r, ρ3)
  | none => none
@[simp] theorem kk_msl_4 (ρ3 : En) (r : R) : k_msl_4 ρ3 (some r) = (some (r, ρ3)) := rfl
def k_msl_3 (g : D → Option Int → Option Int → Option R) (l : Option Int) (h : Option Int) (ρ3 : En) : Option (D) → Option (R × En)
  | some d => k_msl_4 ρ3 (g d l h)
  | none => none
@[simp] theorem kk_msl_3 (g : D → Option Int → Option Int → Option R) (l : Option Int) (h : Option Int) (ρ3 : En) (d : D) : k_msl_3 g l h ρ3 (some d) = (k_msl_4 ρ3 (g d l h)) := rfl
def k_msl_2 (g : D → Option Int → Option Int → Option R) (x : R) (l : Option Int) : Option (Option Int × En) → Option (R × En)
  | some (h, ρ3) => k_msl_3 g l h ρ3 (x.fz.vw ρ3)
  | none => none
@[simp] theorem kk_msl_2 (g : D → Option Int → Option Int → Option R) (x : R) (l : Option Int) (h : Option Int) (ρ3 : En) : k_msl_2 g x l (some (h, ρ3)) = (k_msl_3 g l h ρ3 (x.fz.vw ρ3)) := rfl
def k_msl_1 (g : D → Option Int → Option Int → Option R) (mh : MO) (x : R) : Option (Option Int × En) → Option (R × En)
  | some (l, ρ2) => k_msl_2 g x l (mh ρ2)
  | none => none
@[simp] theorem kk_msl_1 (g : D → Option Int → Option Int → Option R) (mh : MO) (x : R) (l : Option Int) (ρ2 : En) : k_msl_1 g mh x (some (l, ρ2)) = (k_msl_2 g x l (mh ρ2)) := rfl
def k_msl_0 (g : D → Option Int → Option Int → Option R) (ml : MO) (mh : MO) : Option (R × En) → Option (R × En)
  | some (x, ρ1) => k_msl_1 g mh x (ml ρ1)
  | none => none
@[simp] theorem kk_msl_0 (g : D → Option Int → Option Int → Option R) (ml : MO) (mh : MO) (x : R) (ρ1 : En) : k_msl_0 g ml mh (some (x, ρ1)) = (k_msl_1 g mh x (ml ρ1)) := rfl
@[simp] theorem ev_msl (g : D → Option Int → Option Int → Option R) (ma : ME) (ml : MO) (mh : MO) (ρ : En) : msl g ma ml mh ρ = k_msl_0 g ml mh (ma ρ) := by
  unfold msl
  cases h0 : ma ρ with
  | none => simp only [Option.bind, Option.map, h0, k_msl_0, k_msl_1, k_msl_2, k_msl_3, k_msl_4]
  | some p0 =>
    obtain ⟨x, ρ1⟩ := p0
    cases h1 : ml ρ1 with
    | none => simp only [Option.bind, Option.map, h0, h1, k_msl_0, k_msl_1, k_msl_2, k_msl_3, k_msl_4]
    | some p1 =>
      obtain ⟨l, ρ2⟩ := p1
      cases h2 : mh ρ2 with
      | none => simp only [Option.bind, Option.map, h0, h1, h2, k_msl_0, k_msl_1, k_msl_2, k_msl_3, k_msl_4]
      | some p2 =>
        obtain ⟨h, ρ3⟩ := p2
        cases h3 : x.fz.vw ρ3 with
        | none => simp only [Option.bind, Option.map, h0, h1, h2, h3, k_msl_0, k_msl_1, k_msl_2, k_msl_3, k_msl_4]
        | some d =>
          cases h4 : g d l h with
          | none => simp only [Option.bind, Option.map, h0, h1, h2, h3, h4, k_msl_0, k_msl_1, k_msl_2, k_msl_3, k_msl_4]
          | some r =>
            simp only [Option.bind, Option.map, h0, h1, h2, h3, h4, k_msl_0, k_msl_1, k_msl_2, k_msl_3, k_msl_4]
def k_mtru_2 (ρ1 : En) : Option (Bool) → Option (Bool × En)
  | some c => some (c, ρ1)
  | none => none
@[simp] theorem kk_mtru_2 (ρ1 : En) (c : Bool) : k_mtru_2 ρ1 (some c) = (some (c, ρ1)) := rfl
def k_mtru_1 (ρ1 : En) : Option (D) → Option (Bool × En)
  | some d => k_mtru_2 ρ1 (truD d)
  | none => none
@[simp] theorem kk_mtru_1 (ρ1 : En) (d : D) : k_mtru_1 ρ1 (some d) = (k_mtru_2 ρ1 (truD d)) := rfl
def k_mtru_0  : Option (R × En) → Option (Bool × En)
  | some (x, ρ1) => k_mtru_1 ρ1 (x.fz.vw ρ1)
  | none => none
@[simp] theorem kk_mtru_0 (x : R) (ρ1 : En) : k_mtru_0  (some (x, ρ1)) = (k_mtru_1 ρ1 (x.fz.vw ρ1)) := rfl
@[simp] theorem ev_mtru (m : ME) (ρ : En) : mtru m ρ = k_mtru_0  (m ρ) := by
  unfold mtru
  cases h0 : m ρ with
  | none => simp only [Option.bind, Option.map, h0, k_mtru_0, k_mtru_1, k_mtru_2]
  | some p0 =>
    obtain ⟨x, ρ1⟩ := p0
    cases h1 : x.fz.vw ρ1 with
    | none => simp only [Option.bind, Option.map, h0, h1, k_mtru_0, k_mtru_1, k_mtru_2]
    | some d =>
      cases h2 : truD d with
      | none => simp only [Option.bind, Option.map, h0, h1, h2, k_mtru_0, k_mtru_1, k_mtru_2]
      | some c =>
        simp only [Option.bind, Option.map, h0, h1, h2, k_mtru_0, k_mtru_1, k_mtru_2]
def k_mtst_1 (ρ1 : En) : Option (Bool) → Option (Bool × En)
  | some c => some (c, ρ1)
  | none => none
@[simp] theorem kk_mtst_1 (ρ1 : En) (c : Bool) : k_mtst_1 ρ1 (some c) = (some (c, ρ1)) := rfl
def k_mtst_0  : Option (R × En) → Option (Bool × En)
  | some (x, ρ1) => k_mtst_1 ρ1 (boolR x)
  | none => none
@[simp] theorem kk_mtst_0 (x : R) (ρ1 : En) : k_mtst_0  (some (x, ρ1)) = (k_mtst_1 ρ1 (boolR x)) := rfl
@[simp] theorem ev_mtst (m : ME) (ρ : En) : mtst m ρ = k_mtst_0  (m ρ) := by
  unfold mtst
  cases h0 : m ρ with
  | none => simp only [Option.bind, Option.map, h0, k_mtst_0, k_mtst_1]
  | some p0 =>
    obtain ⟨x, ρ1⟩ := p0
    cases h1 : boolR x with
    | none => simp only [Option.bind, Option.map, h0, h1, k_mtst_0, k_mtst_1]
    | some c =>
      simp only [Option.bind, Option.map, h0, h1, k_mtst_0, k_mtst_1]
def k_mnot_0  : Option (Bool × En) → Option (Bool × En)
  | some (c, ρ1) => some (!c, ρ1)
  | none => none
@[simp] theorem kk_mnot_0 (c : Bool) (ρ1 : En) : k_mnot_0  (some (c, ρ1)) = (some (!c, ρ1)) := rfl
@[simp] theorem ev_mnot (m : MT) (ρ : En) : mnot m ρ = k_mnot_0  (m ρ) := by
  unfold mnot
  cases h0 : m ρ with
  | none => simp only [Option.bind, Option.map, h0, k_mnot_0]
  | some p0 =>
    obtain ⟨c, ρ1⟩ := p0
    simp only [Option.bind, Option.map, h0, k_mnot_0]
def k_mandT_0 (md : MT) (ρ : En) : Option (Bool × En) → Option (Bool × En)
  | some (c, ρ1) => iteS md (fun ρ => some (false, ρ)) c ρ1
  | none => none
@[simp] theorem kk_mandT_0 (md : MT) (ρ : En) (c : Bool) (ρ1 : En) : k_mandT_0 md ρ (some (c, ρ1)) = (iteS md (fun ρ => some (false, ρ)) c ρ1) := rfl
@[simp] theorem ev_mandT (mc : MT) (md : MT) (ρ : En) : mandT mc md ρ = k_mandT_0 md ρ (mc ρ) := by
  unfold mandT
  cases h0 : mc ρ with
  | none => simp only [Option.bind, Option.map, h0, k_mandT_0]
  | some p0 =>
    obtain ⟨c, ρ1⟩ := p0
    simp only [Option.bind, Option.map, h0, k_mandT_0]
    cases c <;> simp [iteS]
def k_morT_0 (md : MT) (ρ : En) : Option (Bool × En) → Option (Bool × En)
  | some (c, ρ1) => iteS (fun ρ => some (true, ρ)) md c ρ1
  | none => none
@[simp] theorem kk_morT_0 (md : MT) (ρ : En) (c : Bool) (ρ1 : En) : k_morT_0 md ρ (some (c, ρ1)) = (iteS (fun ρ => some (true, ρ)) md c ρ1) := rfl
@[simp] theorem ev_morT (mc : MT) (md : MT) (ρ : En) : morT mc md ρ = k_morT_0 md ρ (mc ρ) := by
  unfold morT
  cases h0 : mc ρ with
  | none => simp only [Option.bind, Option.map, h0, k_morT_0]
  | some p0 =>
    obtain ⟨c, ρ1⟩ := p0
    simp only [Option.bind, Option.map, h0, k_morT_0]
    cases c <;> simp [iteS]
def k_mandV_1 (mb : ME) (ρ : En) (ρ1 : En) : Option (Bool) → Option (R × En)
  | some c => iteS mb (fun ρ => some (.dat (.bool false), ρ)) c ρ1
  | none => none
@[simp] theorem kk_mandV_1 (mb : ME) (ρ : En) (ρ1 : En) (c : Bool) : k_mandV_1 mb ρ ρ1 (some c) = (iteS mb (fun ρ => some (.dat (.bool false), ρ)) c ρ1) := rfl
def k_mandV_0 (mb : ME) (ρ : En) : Option (R × En) → Option (R × En)
  | some (x, ρ1) => k_mandV_1 mb ρ ρ1 (boolR x)
  | none => none
@[simp] theorem kk_mandV_0 (mb : ME) (ρ : En) (x : R) (ρ1 : En) : k_mandV_0 mb ρ (some (x, ρ1)) = (k_mandV_1 mb ρ ρ1 (boolR x)) := rfl
@[simp] theorem ev_mandV (ma : ME) (mb : ME) (ρ : En) : mandV ma mb ρ = k_mandV_0 mb ρ (ma ρ) := by
  unfold mandV
  cases h0 : ma ρ with
  | none => simp only [Option.bind, Option.map, h0, k_mandV_0, k_mandV_1]
  | some p0 =>
    obtain ⟨x, ρ1⟩ := p0
    cases h1 : boolR x with
    | none => simp only [Option.bind, Option.map, h0, h1, k_mandV_0, k_mandV_1]
    | some c =>
      simp only [Option.bind, Option.map, h0, h1, k_mandV_0, k_mandV_1]
      cases c <;> simp [iteS]
def k_morV_1 (mb : ME) (ρ : En) (ρ1 : En) : Option (Bool) → Option (R × En)
  | some c => iteS (fun ρ => some (.dat (.bool true), ρ)) mb c ρ1
  | none => none
@[simp] theorem kk_morV_1 (mb : ME) (ρ : En) (ρ1 : En) (c : Bool) : k_morV_1 mb ρ ρ1 (some c) = (iteS (fun ρ => some (.dat (.bool true), ρ)) mb c ρ1) := rfl
def k_morV_0 (mb : ME) (ρ : En) : Option (R × En) → Option (R × En)
  | some (x, ρ1) => k_morV_1 mb ρ ρ1 (boolR x)
  | none => none
@[simp] theorem kk_morV_0 (mb : ME) (ρ : En) (x : R) (ρ1 : En) : k_morV_0 mb ρ (some (x, ρ1)) = (k_morV_1 mb ρ ρ1 (boolR x)) := rfl
@[simp] theorem ev_morV (ma : ME) (mb : ME) (ρ : En) : morV ma mb ρ = k_morV_0 mb ρ (ma ρ) := by
  unfold morV
  cases h0 : ma ρ with
  | none => simp only [Option.bind, Option.map, h0, k_morV_0, k_morV_1]
  | some p0 =>
    obtain ⟨x, ρ1⟩ := p0
    cases h1 : boolR x with
    | none => simp only [Option.bind, Option.map, h0, h1, k_morV_0, k_morV_1]
    | some c =>
      simp only [Option.bind, Option.map, h0, h1, k_morV_0, k_morV_1]
      cases c <;> simp [iteS]
def k_mcall_4 (rs : List R) (ρ1 : En) (r : R) (outs : List A) : Option (Unit) → Option (R × En)
  | some u2 => some (r, back ρ1 rs outs)
  | none => none
@[simp] theorem kk_mcall_4 (rs : List R) (ρ1 : En) (r : R) (outs : List A) (u2 : Unit) : k_mcall_4 rs ρ1 r outs (some u2) = (some (r, back ρ1 rs outs)) := rfl
def k_mcall_3 (rs : List R) (ρ1 : En) (as : List A) : Option (R × List A) → Option (R × En)
  | some (r, outs) => k_mcall_4 rs ρ1 r outs (guardO (decide (as.map isBx = outs.map isBx)))
  | none => none
@[simp] theorem kk_mcall_3 (rs : List R) (ρ1 : En) (as : List A) (r : R) (outs : List A) : k_mcall_3 rs ρ1 as (some (r, outs)) = (k_mcall_4 rs ρ1 r outs (guardO (decide (as.map isBx = outs.map isBx)))) := rfl
def k_mcall_2 (mf : MF) (rs : List R) (ρ1 : En) (as : List A) : Option (Unit) → Option (R × En)
  | some u => k_mcall_3 rs ρ1 as (mf as)
  | none => none
@[simp] theorem kk_mcall_2 (mf : MF) (rs : List R) (ρ1 : En) (as : List A) (u : Unit) : k_mcall_2 mf rs ρ1 as (some u) = (k_mcall_3 rs ρ1 as (mf as)) := rfl
def k_mcall_1 (mf : MF) (rs : List R) (ρ1 : En) : Option (List A) → Option (R × En)
  | some as => k_mcall_2 mf rs ρ1 as (guardO (decide (bxIx ρ1 rs).Nodup))
  | none => none
@[simp] theorem kk_mcall_1 (mf : MF) (rs : List R) (ρ1 : En) (as : List A) : k_mcall_1 mf rs ρ1 (some as) = (k_mcall_2 mf rs ρ1 as (guardO (decide (bxIx ρ1 rs).Nodup))) := rfl
def k_mcall_0 (mf : MF) : Option (List R × En) → Option (R × En)
  | some (rs, ρ1) => k_mcall_1 mf rs ρ1 (argAs ρ1 rs)
  | none => none
@[simp] theorem kk_mcall_0 (mf : MF) (rs : List R) (ρ1 : En) : k_mcall_0 mf (some (rs, ρ1)) = (k_mcall_1 mf rs ρ1 (argAs ρ1 rs)) := rfl
@[simp] theorem ev_mcall (mf : MF) (ms : MA) (ρ : En) : mcall mf ms ρ = k_mcall_0 mf (ms ρ) := by
  unfold mcall
  cases h0 : ms ρ with
  | none => simp only [Option.bind, Option.map, h0, k_mcall_0, k_mcall_1, k_mcall_2, k_mcall_3, k_mcall_4]
  | some p0 =>
    obtain ⟨rs, ρ1⟩ := p0
    cases h1 : argAs ρ1 rs with
    | none => simp only [Option.bind, Option.map, h0, h1, k_mcall_0, k_mcall_1, k_mcall_2, k_mcall_3, k_mcall_4]
    | some as =>
      cases h2 : guardO (decide (bxIx ρ1 rs).Nodup) with
      | none => simp only [Option.bind, Option.map, h0, h1, h2, k_mcall_0, k_mcall_1, k_mcall_2, k_mcall_3, k_mcall_4]
      | some u =>
        cases h3 : mf as with
        | none => simp only [Option.bind, Option.map, h0, h1, h2, h3, k_mcall_0, k_mcall_1, k_mcall_2, k_mcall_3, k_mcall_4]
        | some p3 =>
          obtain ⟨r, outs⟩ := p3
          cases h4 : guardO (decide (as.map isBx = outs.map isBx)) with
          | none => simp only [Option.bind, Option.map, h0, h1, h2, h3, h4, k_mcall_0, k_mcall_1, k_mcall_2, k_mcall_3, k_mcall_4]
          | some u2 =>
            simp only [Option.bind, Option.map, h0, h1, h2, h3, h4, k_mcall_0, k_mcall_1, k_mcall_2, k_mcall_3, k_mcall_4]
def k_masg_1 (i : Nat) (x : R) (ρ1 : En) : Option (Unit) → Option (O × En)
  | some u => stoO (stoR ρ1 i x)
  | none => none
@[simp] theorem kk_masg_1 (i : Nat) (x : R) (ρ1 : En) (u : Unit) : k_masg_1 i x ρ1 (some u) = (stoO (stoR ρ1 i x)) := rfl
def k_masg_0 (i : Nat) : Option (R × En) → Option (O × En)
  | some (x, ρ1) => k_masg_1 i x ρ1 (guardO (notBor ρ1 i))
  | none => none
@[simp] theorem kk_masg_0 (i : Nat) (x : R) (ρ1 : En) : k_masg_0 i (some (x, ρ1)) = (k_masg_1 i x ρ1 (guardO (notBor ρ1 i))) := rfl
@[simp] theorem ev_masg (i : Nat) (m : ME) (ρ : En) : masg i m ρ = k_masg_0 i (m ρ) := by
  unfold masg
  cases h0 : m ρ with
  | none => simp only [Option.bind, Option.map, h0, k_masg_0, k_masg_1]
  | some p0 =>
    obtain ⟨x, ρ1⟩ := p0
    cases h1 : guardO (notBor ρ1 i) with
    | none => simp only [Option.bind, Option.map, h0, h1, k_masg_0, k_masg_1]
    | some u =>
      simp only [Option.bind, Option.map, h0, h1, k_masg_0, k_masg_1]
      cases stoR ρ1 i x <;> simp [stoO]
def k_mdrop_0  : Option (R × En) → Option (O × En)
  | some (x, ρ1) => some (.nx, ρ1)
  | none => none
@[simp] theorem kk_mdrop_0 (x : R) (ρ1 : En) : k_mdrop_0  (some (x, ρ1)) = (some (.nx, ρ1)) := rfl
@[simp] theorem ev_mdrop (m : ME) (ρ : En) : mdrop m ρ = k_mdrop_0  (m ρ) := by
  unfold mdrop
  cases h0 : m ρ with
  | none => simp only [Option.bind, Option.map, h0, k_mdrop_0]
  | some p0 =>
    obtain ⟨x, ρ1⟩ := p0
    simp only [Option.bind, Option.map, h0, k_mdrop_0]
def k_mret_0  : Option (R × En) → Option (O × En)
  | some (x, ρ1) => retR ρ1 x
  | none => none
@[simp] theorem kk_mret_0 (x : R) (ρ1 : En) : k_mret_0  (some (x, ρ1)) = (retR ρ1 x) := rfl
@[simp] theorem ev_mret (m : ME) (ρ : En) : mret m ρ = k_mret_0  (m ρ) := by
  unfold mret
  cases h0 : m ρ with
  | none => simp only [Option.bind, Option.map, h0, k_mret_0]
  | some p0 =>
    obtain ⟨x, ρ1⟩ := p0
    simp only [Option.bind, Option.map, h0, k_mret_0]
    cases x with
    | dat d => rfl
    | new b => rfl
    | ref i =>
      dsimp only [retR]
      cases ρ1[i]?.join with
      | none => rfl
      | some a => cases a with
        | dat d => rfl
        | box o b => cases o <;> rfl
def k_mseq_0 (b : MS) : Option (O × En) → Option (O × En)
  | some (o, ρ1) => seqO b o ρ1
  | none => none
@[simp] theorem kk_mseq_0 (b : MS) (o : O) (ρ1 : En) : k_mseq_0 b (some (o, ρ1)) = (seqO b o ρ1) := rfl
@[simp] theorem ev_mseq (a : MS) (b : MS) (ρ : En) : mseq a b ρ = k_mseq_0 b (a ρ) := by
  unfold mseq
  cases h0 : a ρ with
  | none => simp only [Option.bind, Option.map, h0, k_mseq_0]
  | some p0 =>
    obtain ⟨o, ρ1⟩ := p0
    simp only [Option.bind, Option.map, h0, k_mseq_0]
    cases o <;> simp [seqO]
def k_mifS_0 (a : MS) (b : MS) : Option (Bool × En) → Option (O × En)
  | some (c, ρ1) => iteS a b c ρ1
  | none => none
@[simp] theorem kk_mifS_0 (a : MS) (b : MS) (c : Bool) (ρ1 : En) : k_mifS_0 a b (some (c, ρ1)) = (iteS a b c ρ1) := rfl
@[simp] theorem ev_mifS (mt : MT) (a : MS) (b : MS) (ρ : En) : mifS mt a b ρ = k_mifS_0 a b (mt ρ) := by
  unfold mifS
  cases h0 : mt ρ with
  | none => simp only [Option.bind, Option.map, h0, k_mifS_0]
  | some p0 =>
    obtain ⟨c, ρ1⟩ := p0
    simp only [Option.bind, Option.map, h0, k_mifS_0]
    cases c <;> simp [iteS]
def k_miseq_0  : Option (R × En) → Option (It3 × En)
  | some (x, ρ1) => seqR ρ1 x
  | none => none
@[simp] theorem kk_miseq_0 (x : R) (ρ1 : En) : k_miseq_0  (some (x, ρ1)) = (seqR ρ1 x) := rfl
@[simp] theorem ev_miseq (m : ME) (ρ : En) : miseq m ρ = k_miseq_0  (m ρ) := by
  unfold miseq
  cases h0 : m ρ with
  | none => simp only [Option.bind, Option.map, h0, k_miseq_0]
  | some p0 =>
    obtain ⟨x, ρ1⟩ := p0
    simp only [Option.bind, Option.map, h0, k_miseq_0]
    have hm : ∀ (ρ : En) (o : Option (List D)), o.map (fun ds => (It3.items ds, ρ)) = seqItems ρ o := fun ρ o => by cases o <;> rfl
    cases x with
    | dat d => exact hm _ _
    | new b => exact hm _ _
    | ref i =>
      dsimp only [seqR]
      cases ρ1[i]?.join with
      | none => rfl
      | some a => cases a with
        | dat d => exact hm _ _
        | box o b => cases o <;> cases b <;> first | rfl | exact hm _ _
def k_miseqC_0  : Option (R × En) → Option (It3 × En)
  | some (x, ρ1) => seqRC ρ1 x
  | none => none
@[simp] theorem kk_miseqC_0 (x : R) (ρ1 : En) : k_miseqC_0  (some (x, ρ1)) = (seqRC ρ1 x) := rfl
@[simp] theorem ev_miseqC (m : ME) (ρ : En) : miseqC m ρ = k_miseqC_0  (m ρ) := by
  unfold miseqC
  cases h0 : m ρ with
  | none => simp only [Option.bind, Option.map, h0, k_miseqC_0]
  | some p0 =>
    obtain ⟨x, ρ1⟩ := p0
    simp only [Option.bind, Option.map, h0, k_miseqC_0]
    have hm : ∀ (ρ : En) (o : Option (List D)), o.map (fun ds => (It3.items ds, ρ)) = seqItems ρ o := fun ρ o => by cases o <;> rfl
    cases x with
    | dat d => exact hm _ _
    | new b => exact hm _ _
    | ref i =>
      dsimp only [seqRC]
      cases ρ1[i]?.join with
      | none => rfl
      | some a => cases a with
        | dat d => exact hm _ _
        | box o b => cases o <;> cases b <;> first | rfl | exact hm _ _
def k_mirng1_0  : Option (List R × En) → Option (It3 × En)
  | some (rs, ρ1) => rng1 ρ1 rs
  | none => none
@[simp] theorem kk_mirng1_0 (rs : List R) (ρ1 : En) : k_mirng1_0  (some (rs, ρ1)) = (rng1 ρ1 rs) := rfl
@[simp] theorem ev_mirng1 (ms : MA) (ρ : En) : mirng1 ms ρ = k_mirng1_0  (ms ρ) := by
  unfold mirng1
  cases h0 : ms ρ with
  | none => simp only [Option.bind, Option.map, h0, k_mirng1_0]
  | some p0 =>
    obtain ⟨rs, ρ1⟩ := p0
    simp only [Option.bind, Option.map, h0, k_mirng1_0]
    cases rs with
    | nil => rfl
    | cons r t => cases t <;> rfl
def k_mfor_0 (g : MG) (b : MS) : Option (It3 × En) → Option (O × En)
  | some (it, ρ1) => forT g b it ρ1
  | none => none
@[simp] theorem kk_mfor_0 (g : MG) (b : MS) (it : It3) (ρ1 : En) : k_mfor_0 g b (some (it, ρ1)) = (forT g b it ρ1) := rfl
@[simp] theorem ev_mfor (mi : MI) (g : MG) (b : MS) (ρ : En) : mfor mi g b ρ = k_mfor_0 g b (mi ρ) := by
  unfold mfor
  cases h0 : mi ρ with
  | none => simp only [Option.bind, Option.map, h0, k_mfor_0]
  | some p0 =>
    obtain ⟨it, ρ1⟩ := p0
    simp only [Option.bind, Option.map, h0, k_mfor_0]
    cases it <;> simp [forT]
def k_mlc_1 (g : MG) (t : MT) (m : ME) (vs : List Nat) (it : It3) (ρ1 : En) : Option (Unit) → Option (R × En)
  | some u => lcT g t m vs it ρ1
  | none => none
@[simp] theorem kk_mlc_1 (g : MG) (t : MT) (m : ME) (vs : List Nat) (it : It3) (ρ1 : En) (u : Unit) : k_mlc_1 g t m vs it ρ1 (some u) = (lcT g t m vs it ρ1) := rfl
def k_mlc_0 (g : MG) (t : MT) (m : ME) (vs : List Nat) : Option (It3 × En) → Option (R × En)
  | some (it, ρ1) => k_mlc_1 g t m vs it ρ1 (guardO (noBx ρ1 vs))
  | none => none
@[simp] theorem kk_mlc_0 (g : MG) (t : MT) (m : ME) (vs : List Nat) (it : It3) (ρ1 : En) : k_mlc_0 g t m vs (some (it, ρ1)) = (k_mlc_1 g t m vs it ρ1 (guardO (noBx ρ1 vs))) := rfl
@[simp] theorem ev_mlc (mi : MI) (g : MG) (t : MT) (m : ME) (vs : List Nat) (ρ : En) : mlc mi g t m vs ρ = k_mlc_0 g t m vs (mi ρ) := by
  unfold mlc
  cases h0 : mi ρ with
  | none => simp only [Option.bind, Option.map, h0, k_mlc_0, k_mlc_1]
  | some p0 =>
    obtain ⟨it, ρ1⟩ := p0
    cases h1 : guardO (noBx ρ1 vs) with
    | none => simp only [Option.bind, Option.map, h0, h1, k_mlc_0, k_mlc_1]
    | some u =>
      simp only [Option.bind, Option.map, h0, h1, k_mlc_0, k_mlc_1]
      cases it with
      | items ds => simp only [lcT]; cases mlcI g t m vs ds [] (wipeE ρ1 vs) <;> rfl
      | slot i ds => simp only [lcT]; cases guardO (decide (i ∉ vs)) with
        | none => rfl
        | some u => cases mlcS i g t m vs ds 0 [] (wipeE ρ1 vs) <;> rfl
def k_mmut_5 (i : Nat) (ρ2 : En) (o : Bool) : Option (D × Bx) → Option (R × En)
  | some (d, b2) => some (.dat d, ρ2.set i (some (.box o b2)))
  | none => none
@[simp] theorem kk_mmut_5 (i : Nat) (ρ2 : En) (o : Bool) (d : D) (b2 : Bx) : k_mmut_5 i ρ2 o (some (d, b2)) = (some (.dat d, ρ2.set i (some (.box o b2)))) := rfl
def k_mmut_4 (i : Nat) (gm : Bx → List D → Option (D × Bx)) (ds : List D) (ρ2 : En) : Option (Bool × Bx) → Option (R × En)
  | some (o, b1) => k_mmut_5 i ρ2 o (gm b1 ds)
  | none => none
@[simp] theorem kk_mmut_4 (i : Nat) (gm : Bx → List D → Option (D × Bx)) (ds : List D) (ρ2 : En) (o : Bool) (b1 : Bx) : k_mmut_4 i gm ds ρ2 (some (o, b1)) = (k_mmut_5 i ρ2 o (gm b1 ds)) := rfl
def k_mmut_3 (i : Nat) (gm : Bx → List D → Option (D × Bx)) : Option (List D × En) → Option (R × En)
  | some (ds, ρ2) => k_mmut_4 i gm ds ρ2 (bxAt ρ2 i)
  | none => none
@[simp] theorem kk_mmut_3 (i : Nat) (gm : Bx → List D → Option (D × Bx)) (ds : List D) (ρ2 : En) : k_mmut_3 i gm (some (ds, ρ2)) = (k_mmut_4 i gm ds ρ2 (bxAt ρ2 i)) := rfl
def k_mmut_2 (i : Nat) (gm : Bx → List D → Option (D × Bx)) : Option (List R × En) → Option (R × En)
  | some (rs, ρ1) => k_mmut_3 i gm (fzs ρ1 rs)
  | none => none
@[simp] theorem kk_mmut_2 (i : Nat) (gm : Bx → List D → Option (D × Bx)) (rs : List R) (ρ1 : En) : k_mmut_2 i gm (some (rs, ρ1)) = (k_mmut_3 i gm (fzs ρ1 rs)) := rfl
def k_mmut_1 (i : Nat) (gm : Bx → List D → Option (D × Bx)) (ms : MA) (ρ : En) : Option (Unit) → Option (R × En)
  | some u => k_mmut_2 i gm (ms ρ)
  | none => none
@[simp] theorem kk_mmut_1 (i : Nat) (gm : Bx → List D → Option (D × Bx)) (ms : MA) (ρ : En) (u : Unit) : k_mmut_1 i gm ms ρ (some u) = (k_mmut_2 i gm (ms ρ)) := rfl
def k_mmut_0 (T : String) (i : Nat) (gm : Bx → List D → Option (D × Bx)) (ms : MA) (ρ : En) : Option (Bool × Bx) → Option (R × En)
  | some (o0, b0) => k_mmut_1 i gm ms ρ (guardO (tyD T b0.dat))
  | none => none
@[simp] theorem kk_mmut_0 (T : String) (i : Nat) (gm : Bx → List D → Option (D × Bx)) (ms : MA) (ρ : En) (o0 : Bool) (b0 : Bx) : k_mmut_0 T i gm ms ρ (some (o0, b0)) = (k_mmut_1 i gm ms ρ (guardO (tyD T b0.dat))) := rfl
@[simp] theorem ev_mmut (T : String) (i : Nat) (gm : Bx → List D → Option (D × Bx)) (ms : MA) (ρ : En) : mmut T i gm ms ρ = k_mmut_0 T i gm ms ρ (bxAt ρ i) := by
  unfold mmut
  cases h0 : bxAt ρ i with
  | none => simp only [Option.bind, Option.map, h0, k_mmut_0, k_mmut_1, k_mmut_2, k_mmut_3, k_mmut_4, k_mmut_5]
  | some p0 =>
    obtain ⟨o0, b0⟩ := p0
    cases h1 : guardO (tyD T b0.dat) with
    | none => simp only [Option.bind, Option.map, h0, h1, k_mmut_0, k_mmut_1, k_mmut_2, k_mmut_3, k_mmut_4, k_mmut_5]
    | some u =>
      cases h2 : ms ρ with
      | none => simp only [Option.bind, Option.map, h0, h1, h2, k_mmut_0, k_mmut_1, k_mmut_2, k_mmut_3, k_mmut_4, k_mmut_5]
      | some p2 =>
        obtain ⟨rs, ρ1⟩ := p2
        cases h3 : fzs ρ1 rs with
        | none => simp only [Option.bind, Option.map, h0, h1, h2, h3, k_mmut_0, k_mmut_1, k_mmut_2, k_mmut_3, k_mmut_4, k_mmut_5]
        | some p3 =>
          obtain ⟨ds, ρ2⟩ := p3
          cases h4 : bxAt ρ2 i with
          | none => simp only [Option.bind, Option.map, h0, h1, h2, h3, h4, k_mmut_0, k_mmut_1, k_mmut_2, k_mmut_3, k_mmut_4, k_mmut_5]
          | some p4 =>
            obtain ⟨o, b1⟩ := p4
            cases h5 : gm b1 ds with
            | none => simp only [Option.bind, Option.map, h0, h1, h2, h3, h4, h5, k_mmut_0, k_mmut_1, k_mmut_2, k_mmut_3, k_mmut_4, k_mmut_5]
            | some p5 =>
              obtain ⟨d, b2⟩ := p5
              simp only [Option.bind, Option.map, h0, h1, h2, h3, h4, h5, k_mmut_0, k_mmut_1, k_mmut_2, k_mmut_3, k_mmut_4, k_mmut_5]
def k_mpar_2 (i : Nat) (j : Nat) (x : R) (y : R) (ρ2 : En) : Option (Unit) → Option (O × En)
  | some u => parR i j ρ2 x y
  | none => none
@[simp] theorem kk_mpar_2 (i : Nat) (j : Nat) (x : R) (y : R) (ρ2 : En) (u : Unit) : k_mpar_2 i j x y ρ2 (some u) = (parR i j ρ2 x y) := rfl
def k_mpar_1 (i : Nat) (j : Nat) (x : R) : Option (R × En) → Option (O × En)
  | some (y, ρ2) => k_mpar_2 i j x y ρ2 (guardO (notBor ρ2 i && notBor ρ2 j))
  | none => none
@[simp] theorem kk_mpar_1 (i : Nat) (j : Nat) (x : R) (y : R) (ρ2 : En) : k_mpar_1 i j x (some (y, ρ2)) = (k_mpar_2 i j x y ρ2 (guardO (notBor ρ2 i && notBor ρ2 j))) := rfl
def k_mpar_0 (i : Nat) (j : Nat) (mb : ME) : Option (R × En) → Option (O × En)
  | some (x, ρ1) => k_mpar_1 i j x (mb ρ1)
  | none => none
@[simp] theorem kk_mpar_0 (i : Nat) (j : Nat) (mb : ME) (x : R) (ρ1 : En) : k_mpar_0 i j mb (some (x, ρ1)) = (k_mpar_1 i j x (mb ρ1)) := rfl
@[simp] theorem ev_mpar (i : Nat) (j : Nat) (ma : ME) (mb : ME) (ρ : En) : mpar i j ma mb ρ = k_mpar_0 i j mb (ma ρ) := by
  unfold mpar
  cases h0 : ma ρ with
  | none => simp only [Option.bind, Option.map, h0, k_mpar_0, k_mpar_1, k_mpar_2]
  | some p0 =>
    obtain ⟨x, ρ1⟩ := p0
    cases h1 : mb ρ1 with
    | none => simp only [Option.bind, Option.map, h0, h1, k_mpar_0, k_mpar_1, k_mpar_2]
    | some p1 =>
      obtain ⟨y, ρ2⟩ := p1
      cases h2 : guardO (notBor ρ2 i && notBor ρ2 j) with
      | none => simp only [Option.bind, Option.map, h0, h1, h2, k_mpar_0, k_mpar_1, k_mpar_2]
      | some u =>
        simp only [Option.bind, Option.map, h0, h1, h2, k_mpar_0, k_mpar_1, k_mpar_2]
        have hm : ∀ (r r' : R), ((stoR ρ2 i r).bind fun ρ1 => (stoR ρ1 j r').map fun ρ2 => (O.nx, ρ2)) = stoO ((stoR ρ2 i r).bind fun ρ1 => stoR ρ1 j r') := fun r r' => by
          cases stoR ρ2 i r with
          | none => rfl
          | some ρ3 => show (stoR ρ3 j r').map _ = stoO (stoR ρ3 j r'); cases stoR ρ3 j r' <;> rfl
        cases x <;> cases y <;> first | rfl | exact hm _ _
def k_masgG_1 (g : MG) : Option (List D × En) → Option (O × En)
  | some (ds, ρ2) => asgG g ρ2 ds
  | none => none
@[simp] theorem kk_masgG_1 (g : MG) (ds : List D) (ρ2 : En) : k_masgG_1 g (some (ds, ρ2)) = (asgG g ρ2 ds) := rfl
def k_masgG_0 (g : MG) : Option (R × En) → Option (O × En)
  | some (x, ρ1) => k_masgG_1 g (fzs ρ1 [x.fz])
  | none => none
@[simp] theorem kk_masgG_0 (g : MG) (x : R) (ρ1 : En) : k_masgG_0 g (some (x, ρ1)) = (k_masgG_1 g (fzs ρ1 [x.fz])) := rfl
@[simp] theorem ev_masgG (g : MG) (m : ME) (ρ : En) : masgG g m ρ = k_masgG_0 g (m ρ) := by
  unfold masgG
  cases h0 : m ρ with
  | none => simp only [Option.bind, Option.map, h0, k_masgG_0, k_masgG_1]
  | some p0 =>
    obtain ⟨x, ρ1⟩ := p0
    cases h1 : fzs ρ1 [x.fz] with
    | none => simp only [Option.bind, Option.map, h0, h1, k_masgG_0, k_masgG_1]
    | some p1 =>
      obtain ⟨ds, ρ2⟩ := p1
      simp only [Option.bind, Option.map, h0, h1, k_masgG_0, k_masgG_1]
      cases ds with
      | nil => rfl
      | cons d t => cases t with
        | nil => show (g d ρ2).map _ = stoO (g d ρ2); cases g d ρ2 <;> rfl
        | cons _ _ => rfl
def k_mputD_9 (s : Nat) (d : D) (ρ3 : En) (k : L2.Key) (o : Bool) (kvs : List (L2.Key × D)) : Option (Unit) → Option (O × En)
  | some u => some (.nx, ρ3.set s (some (.box o (.dic (putKD kvs k d)))))
  | none => none
@[simp] theorem kk_mputD_9 (s : Nat) (d : D) (ρ3 : En) (k : L2.Key) (o : Bool) (kvs : List (L2.Key × D)) (u : Unit) : k_mputD_9 s d ρ3 k o kvs (some u) = (some (.nx, ρ3.set s (some (.box o (.dic (putKD kvs k d)))))) := rfl
def k_mputD_8 (s : Nat) (d : D) (ρ3 : En) (k : L2.Key) (o : Bool) : Option (List (L2.Key × D)) → Option (O × En)
  | some kvs => k_mputD_9 s d ρ3 k o kvs (guardO (decide (kvs.length < sizeLine)))
  | none => none
@[simp] theorem kk_mputD_8 (s : Nat) (d : D) (ρ3 : En) (k : L2.Key) (o : Bool) (kvs : List (L2.Key × D)) : k_mputD_8 s d ρ3 k o (some kvs) = (k_mputD_9 s d ρ3 k o kvs (guardO (decide (kvs.length < sizeLine)))) := rfl
def k_mputD_7 (s : Nat) (d : D) (ρ3 : En) (k : L2.Key) : Option (Bool × Bx) → Option (O × En)
  | some (o, b1) => k_mputD_8 s d ρ3 k o (dicOf b1)
  | none => none
@[simp] theorem kk_mputD_7 (s : Nat) (d : D) (ρ3 : En) (k : L2.Key) (o : Bool) (b1 : Bx) : k_mputD_7 s d ρ3 k (some (o, b1)) = (k_mputD_8 s d ρ3 k o (dicOf b1)) := rfl
def k_mputD_6 (s : Nat) (d : D) (ρ3 : En) : Option (L2.Key) → Option (O × En)
  | some k => k_mputD_7 s d ρ3 k (bxAt ρ3 s)
  | none => none
@[simp] theorem kk_mputD_6 (s : Nat) (d : D) (ρ3 : En) (k : L2.Key) : k_mputD_6 s d ρ3 (some k) = (k_mputD_7 s d ρ3 k (bxAt ρ3 s)) := rfl
def k_mputD_5 (s : Nat) (d : D) (ρ3 : En) : Option (D) → Option (O × En)
  | some dk => k_mputD_6 s d ρ3 (keyD dk)
  | none => none
@[simp] theorem kk_mputD_5 (s : Nat) (d : D) (ρ3 : En) (dk : D) : k_mputD_5 s d ρ3 (some dk) = (k_mputD_6 s d ρ3 (keyD dk)) := rfl
def k_mputD_4 (s : Nat) (d : D) : Option (R × En) → Option (O × En)
  | some (z, ρ3) => k_mputD_5 s d ρ3 (z.fz.vw ρ3)
  | none => none
@[simp] theorem kk_mputD_4 (s : Nat) (d : D) (z : R) (ρ3 : En) : k_mputD_4 s d (some (z, ρ3)) = (k_mputD_5 s d ρ3 (z.fz.vw ρ3)) := rfl
def k_mputD_3 (s : Nat) (mk : ME) (ρ2 : En) (d : D) : Option (Bool × Bx) → Option (O × En)
  | some (o0, b0) => k_mputD_4 s d (mk ρ2)
  | none => none
@[simp] theorem kk_mputD_3 (s : Nat) (mk : ME) (ρ2 : En) (d : D) (o0 : Bool) (b0 : Bx) : k_mputD_3 s mk ρ2 d (some (o0, b0)) = (k_mputD_4 s d (mk ρ2)) := rfl
def k_mputD_2 (s : Nat) (mk : ME) (ρ2 : En) : Option (D) → Option (O × En)
  | some d => k_mputD_3 s mk ρ2 d (bxAt ρ2 s)
  | none => none
@[simp] theorem kk_mputD_2 (s : Nat) (mk : ME) (ρ2 : En) (d : D) : k_mputD_2 s mk ρ2 (some d) = (k_mputD_3 s mk ρ2 d (bxAt ρ2 s)) := rfl
def k_mputD_1 (s : Nat) (mk : ME) : Option (List D × En) → Option (O × En)
  | some (ds, ρ2) => k_mputD_2 s mk ρ2 (oneOf ds)
  | none => none
@[simp] theorem kk_mputD_1 (s : Nat) (mk : ME) (ds : List D) (ρ2 : En) : k_mputD_1 s mk (some (ds, ρ2)) = (k_mputD_2 s mk ρ2 (oneOf ds)) := rfl
def k_mputD_0 (s : Nat) (mk : ME) : Option (R × En) → Option (O × En)
  | some (x, ρ1) => k_mputD_1 s mk (fzs ρ1 [x.fz])
  | none => none
@[simp] theorem kk_mputD_0 (s : Nat) (mk : ME) (x : R) (ρ1 : En) : k_mputD_0 s mk (some (x, ρ1)) = (k_mputD_1 s mk (fzs ρ1 [x.fz])) := rfl
@[simp] theorem ev_mputD (s : Nat) (mk : ME) (mv : ME) (ρ : En) : mputD s mk mv ρ = k_mputD_0 s mk (mv ρ) := by
  unfold mputD
  cases h0 : mv ρ with
  | none => simp only [Option.bind, Option.map, h0, k_mputD_0, k_mputD_1, k_mputD_2, k_mputD_3, k_mputD_4, k_mputD_5, k_mputD_6, k_mputD_7, k_mputD_8, k_mputD_9]
  | some p0 =>
    obtain ⟨x, ρ1⟩ := p0
    cases h1 : fzs ρ1 [x.fz] with
    | none => simp only [Option.bind, Option.map, h0, h1, k_mputD_0, k_mputD_1, k_mputD_2, k_mputD_3, k_mputD_4, k_mputD_5, k_mputD_6, k_mputD_7, k_mputD_8, k_mputD_9]
    | some p1 =>
      obtain ⟨ds, ρ2⟩ := p1
      cases h2 : oneOf ds with
      | none => simp only [Option.bind, Option.map, h0, h1, h2, k_mputD_0, k_mputD_1, k_mputD_2, k_mputD_3, k_mputD_4, k_mputD_5, k_mputD_6, k_mputD_7, k_mputD_8, k_mputD_9]
      | some d =>
        cases h3 : bxAt ρ2 s with
        | none => simp only [Option.bind, Option.map, h0, h1, h2, h3, k_mputD_0, k_mputD_1, k_mputD_2, k_mputD_3, k_mputD_4, k_mputD_5, k_mputD_6, k_mputD_7, k_mputD_8, k_mputD_9]
        | some p3 =>
          obtain ⟨o0, b0⟩ := p3
          cases h4 : mk ρ2 with
          | none => simp only [Option.bind, Option.map, h0, h1, h2, h3, h4, k_mputD_0, k_mputD_1, k_mputD_2, k_mputD_3, k_mputD_4, k_mputD_5, k_mputD_6, k_mputD_7, k_mputD_8, k_mputD_9]
          | some p4 =>
            obtain ⟨z, ρ3⟩ := p4
            cases h5 : z.fz.vw ρ3 with
            | none => simp only [Option.bind, Option.map, h0, h1, h2, h3, h4, h5, k_mputD_0, k_mputD_1, k_mputD_2, k_mputD_3, k_mputD_4, k_mputD_5, k_mputD_6, k_mputD_7, k_mputD_8, k_mputD_9]
            | some dk =>
              cases h6 : keyD dk with
              | none => simp only [Option.bind, Option.map, h0, h1, h2, h3, h4, h5, h6, k_mputD_0, k_mputD_1, k_mputD_2, k_mputD_3, k_mputD_4, k_mputD_5, k_mputD_6, k_mputD_7, k_mputD_8, k_mputD_9]
              | some k =>
                cases h7 : bxAt ρ3 s with
                | none => simp only [Option.bind, Option.map, h0, h1, h2, h3, h4, h5, h6, h7, k_mputD_0, k_mputD_1, k_mputD_2, k_mputD_3, k_mputD_4, k_mputD_5, k_mputD_6, k_mputD_7, k_mputD_8, k_mputD_9]
                | some p7 =>
                  obtain ⟨o, b1⟩ := p7
                  cases h8 : dicOf b1 with
                  | none => simp only [Option.bind, Option.map, h0, h1, h2, h3, h4, h5, h6, h7, h8, k_mputD_0, k_mputD_1, k_mputD_2, k_mputD_3, k_mputD_4, k_mputD_5, k_mputD_6, k_mputD_7, k_mputD_8, k_mputD_9]
                  | some kvs =>
                    cases h9 : guardO (decide (kvs.length < sizeLine)) with
                    | none => simp only [Option.bind, Option.map, h0, h1, h2, h3, h4, h5, h6, h7, h8, h9, k_mputD_0, k_mputD_1, k_mputD_2, k_mputD_3, k_mputD_4, k_mputD_5, k_mputD_6, k_mputD_7, k_mputD_8, k_mputD_9]
                    | some u =>
                      simp only [Option.bind, Option.map, h0, h1, h2, h3, h4, h5, h6, h7, h8, h9, k_mputD_0, k_mputD_1, k_mputD_2, k_mputD_3, k_mputD_4, k_mputD_5, k_mputD_6, k_mputD_7, k_mputD_8, k_mputD_9]
def k_mputL_8 (s : Nat) (d : D) (ρ3 : En) (o : Bool) (xs : List D) : Option (Nat) → Option (O × En)
  | some j => some (.nx, ρ3.set s (some (.box o (.lst (xs.set j d)))))
  | none => none
@[simp] theorem kk_mputL_8 (s : Nat) (d : D) (ρ3 : En) (o : Bool) (xs : List D) (j : Nat) : k_mputL_8 s d ρ3 o xs (some j) = (some (.nx, ρ3.set s (some (.box o (.lst (xs.set j d)))))) := rfl
def k_mputL_7 (s : Nat) (d : D) (ρ3 : En) (ki : Int) (o : Bool) : Option (List D) → Option (O × En)
  | some xs => k_mputL_8 s d ρ3 o xs (L2.ixN xs.length ki)
  | none => none
@[simp] theorem kk_mputL_7 (s : Nat) (d : D) (ρ3 : En) (ki : Int) (o : Bool) (xs : List D) : k_mputL_7 s d ρ3 ki o (some xs) = (k_mputL_8 s d ρ3 o xs (L2.ixN xs.length ki)) := rfl
def k_mputL_6 (s : Nat) (d : D) (ρ3 : En) (ki : Int) : Option (Bool × Bx) → Option (O × En)
  | some (o, b1) => k_mputL_7 s d ρ3 ki o (lstOf b1)
  | none => none
@[simp] theorem kk_mputL_6 (s : Nat) (d : D) (ρ3 : En) (ki : Int) (o : Bool) (b1 : Bx) : k_mputL_6 s d ρ3 ki (some (o, b1)) = (k_mputL_7 s d ρ3 ki o (lstOf b1)) := rfl
def k_mputL_5 (s : Nat) (d : D) (ρ3 : En) : Option (Int) → Option (O × En)
  | some ki => k_mputL_6 s d ρ3 ki (bxAt ρ3 s)
  | none => none
@[simp] theorem kk_mputL_5 (s : Nat) (d : D) (ρ3 : En) (ki : Int) : k_mputL_5 s d ρ3 (some ki) = (k_mputL_6 s d ρ3 ki (bxAt ρ3 s)) := rfl
def k_mputL_4 (s : Nat) (d : D) : Option (R × En) → Option (O × En)
  | some (z, ρ3) => k_mputL_5 s d ρ3 (intR ρ3 z.fz)
  | none => none
@[simp] theorem kk_mputL_4 (s : Nat) (d : D) (z : R) (ρ3 : En) : k_mputL_4 s d (some (z, ρ3)) = (k_mputL_5 s d ρ3 (intR ρ3 z.fz)) := rfl
def k_mputL_3 (s : Nat) (mk : ME) (ρ2 : En) (d : D) : Option (Bool × Bx) → Option (O × En)
  | some (o0, b0) => k_mputL_4 s d (mk ρ2)
  | none => none
@[simp] theorem kk_mputL_3 (s : Nat) (mk : ME) (ρ2 : En) (d : D) (o0 : Bool) (b0 : Bx) : k_mputL_3 s mk ρ2 d (some (o0, b0)) = (k_mputL_4 s d (mk ρ2)) := rfl
def k_mputL_2 (s : Nat) (mk : ME) (ρ2 : En) : Option (D) → Option (O × En)
  | some d => k_mputL_3 s mk ρ2 d (bxAt ρ2 s)
  | none => none
@[simp] theorem kk_mputL_2 (s : Nat) (mk : ME) (ρ2 : En) (d : D) : k_mputL_2 s mk ρ2 (some d) = (k_mputL_3 s mk ρ2 d (bxAt ρ2 s)) := rfl
def k_mputL_1 (s : Nat) (mk : ME) : Option (List D × En) → Option (O × En)
  | some (ds, ρ2) => k_mputL_2 s mk ρ2 (oneOf ds)
  | none => none
@[simp] theorem kk_mputL_1 (s : Nat) (mk : ME) (ds : List D) (ρ2 : En) : k_mputL_1 s mk (some (ds, ρ2)) = (k_mputL_2 s mk ρ2 (oneOf ds)) := rfl
def k_mputL_0 (s : Nat) (mk : ME) : Option (R × En) → Option (O × En)
  | some (x, ρ1) => k_mputL_1 s mk (fzs ρ1 [x.fz])
  | none => none
@[simp] theorem kk_mputL_0 (s : Nat) (mk : ME) (x : R) (ρ1 : En) : k_mputL_0 s mk (some (x, ρ1)) = (k_mputL_1 s mk (fzs ρ1 [x.fz])) := rfl
@[simp] theorem ev_mputL (s : Nat) (mk : ME) (mv : ME) (ρ : En) : mputL s mk mv ρ = k_mputL_0 s mk (mv ρ) := by
  unfold mputL
  cases h0 : mv ρ with
  | none => simp only [Option.bind, Option.map, h0, k_mputL_0, k_mputL_1, k_mputL_2, k_mputL_3, k_mputL_4, k_mputL_5, k_mputL_6, k_mputL_7, k_mputL_8]
  | some p0 =>
    obtain ⟨x, ρ1⟩ := p0
    cases h1 : fzs ρ1 [x.fz] with
    | none => simp only [Option.bind, Option.map, h0, h1, k_mputL_0, k_mputL_1, k_mputL_2, k_mputL_3, k_mputL_4, k_mputL_5, k_mputL_6, k_mputL_7, k_mputL_8]
    | some p1 =>
      obtain ⟨ds, ρ2⟩ := p1
      cases h2 : oneOf ds with
      | none => simp only [Option.bind, Option.map, h0, h1, h2, k_mputL_0, k_mputL_1, k_mputL_2, k_mputL_3, k_mputL_4, k_mputL_5, k_mputL_6, k_mputL_7, k_mputL_8]
      | some d =>
        cases h3 : bxAt ρ2 s with
        | none => simp only [Option.bind, Option.map, h0, h1, h2, h3, k_mputL_0, k_mputL_1, k_mputL_2, k_mputL_3, k_mputL_4, k_mputL_5, k_mputL_6, k_mputL_7, k_mputL_8]
        | some p3 =>
          obtain ⟨o0, b0⟩ := p3
          cases h4 : mk ρ2 with
          | none => simp only [Option.bind, Option.map, h0, h1, h2, h3, h4, k_mputL_0, k_mputL_1, k_mputL_2, k_mputL_3, k_mputL_4, k_mputL_5, k_mputL_6, k_mputL_7, k_mputL_8]
          | some p4 =>
            obtain ⟨z, ρ3⟩ := p4
            cases h5 : intR ρ3 z.fz with
            | none => simp only [Option.bind, Option.map, h0, h1, h2, h3, h4, h5, k_mputL_0, k_mputL_1, k_mputL_2, k_mputL_3, k_mputL_4, k_mputL_5, k_mputL_6, k_mputL_7, k_mputL_8]
            | some ki =>
              cases h6 : bxAt ρ3 s with
              | none => simp only [Option.bind, Option.map, h0, h1, h2, h3, h4, h5, h6, k_mputL_0, k_mputL_1, k_mputL_2, k_mputL_3, k_mputL_4, k_mputL_5, k_mputL_6, k_mputL_7, k_mputL_8]
              | some p6 =>
                obtain ⟨o, b1⟩ := p6
                cases h7 : lstOf b1 with
                | none => simp only [Option.bind, Option.map, h0, h1, h2, h3, h4, h5, h6, h7, k_mputL_0, k_mputL_1, k_mputL_2, k_mputL_3, k_mputL_4, k_mputL_5, k_mputL_6, k_mputL_7, k_mputL_8]
                | some xs =>
                  cases h8 : L2.ixN xs.length ki with
                  | none => simp only [Option.bind, Option.map, h0, h1, h2, h3, h4, h5, h6, h7, h8, k_mputL_0, k_mputL_1, k_mputL_2, k_mputL_3, k_mputL_4, k_mputL_5, k_mputL_6, k_mputL_7, k_mputL_8]
                  | some j =>
                    simp only [Option.bind, Option.map, h0, h1, h2, h3, h4, h5, h6, h7, h8, k_mputL_0, k_mputL_1, k_mputL_2, k_mputL_3, k_mputL_4, k_mputL_5, k_mputL_6, k_mputL_7, k_mputL_8]
def k_mput_0 (s : Nat) (mk : ME) (mv : ME) (ρ : En) : Option (Bool × Bx) → Option (O × En)
  | some (o, b) => iteS (mputD s mk mv) (mputL s mk mv) (isDic b) ρ
  | none => none
@[simp] theorem kk_mput_0 (s : Nat) (mk : ME) (mv : ME) (ρ : En) (o : Bool) (b : Bx) : k_mput_0 s mk mv ρ (some (o, b)) = (iteS (mputD s mk mv) (mputL s mk mv) (isDic b) ρ) := rfl
@[simp] theorem ev_mput (s : Nat) (mk : ME) (mv : ME) (ρ : En) : mput s mk mv ρ = k_mput_0 s mk mv ρ (bxAt ρ s) := by
  unfold mput
  cases h0 : bxAt ρ s with
  | none => simp only [Option.bind, Option.map, h0, k_mput_0]
  | some p0 =>
    obtain ⟨o, b⟩ := p0
    simp only [Option.bind, Option.map, h0, k_mput_0]
    cases isDic b <;> simp [iteS]
def k_maug_5 (i : Nat) (ρ1 : En) : Option (R) → Option (O × En)
  | some r => stoO (stoR ρ1 i r)
  | none => none
@[simp] theorem kk_maug_5 (i : Nat) (ρ1 : En) (r : R) : k_maug_5 i ρ1 (some r) = (stoO (stoR ρ1 i r)) := rfl
def k_maug_4 (i : Nat) (g : D → D → Option R) (d : D) (ρ1 : En) : Option (D) → Option (O × En)
  | some e => k_maug_5 i ρ1 (g d e)
  | none => none
@[simp] theorem kk_maug_4 (i : Nat) (g : D → D → Option R) (d : D) (ρ1 : En) (e : D) : k_maug_4 i g d ρ1 (some e) = (k_maug_5 i ρ1 (g d e)) := rfl
def k_maug_3 (i : Nat) (g : D → D → Option R) (d : D) (y : R) (ρ1 : En) : Option (Unit) → Option (O × En)
  | some u => k_maug_4 i g d ρ1 (y.fz.vw ρ1)
  | none => none
@[simp] theorem kk_maug_3 (i : Nat) (g : D → D → Option R) (d : D) (y : R) (ρ1 : En) (u : Unit) : k_maug_3 i g d y ρ1 (some u) = (k_maug_4 i g d ρ1 (y.fz.vw ρ1)) := rfl
def k_maug_2 (i : Nat) (g : D → D → Option R) (d : D) : Option (R × En) → Option (O × En)
  | some (y, ρ1) => k_maug_3 i g d y ρ1 (guardO (notBor ρ1 i))
  | none => none
@[simp] theorem kk_maug_2 (i : Nat) (g : D → D → Option R) (d : D) (y : R) (ρ1 : En) : k_maug_2 i g d (some (y, ρ1)) = (k_maug_3 i g d y ρ1 (guardO (notBor ρ1 i))) := rfl
def k_maug_1 (i : Nat) (g : D → D → Option R) (m : ME) (ρ : En) : Option (D) → Option (O × En)
  | some d => k_maug_2 i g d (m ρ)
  | none => none
@[simp] theorem kk_maug_1 (i : Nat) (g : D → D → Option R) (m : ME) (ρ : En) (d : D) : k_maug_1 i g m ρ (some d) = (k_maug_2 i g d (m ρ)) := rfl
def k_maug_0 (i : Nat) (g : D → D → Option R) (m : ME) (ρ : En) : Option (A) → Option (O × En)
  | some a => k_maug_1 i g m ρ (datOf a)
  | none => none
@[simp] theorem kk_maug_0 (i : Nat) (g : D → D → Option R) (m : ME) (ρ : En) (a : A) : k_maug_0 i g m ρ (some a) = (k_maug_1 i g m ρ (datOf a)) := rfl
@[simp] theorem ev_maug (i : Nat) (g : D → D → Option R) (m : ME) (ρ : En) : maug i g m ρ = k_maug_0 i g m ρ (ρ[i]?.join) := by
  unfold maug
  cases h0 : ρ[i]?.join with
  | none => simp only [Option.bind, Option.map, h0, k_maug_0, k_maug_1, k_maug_2, k_maug_3, k_maug_4, k_maug_5]
  | some a =>
    cases h1 : datOf a with
    | none => simp only [Option.bind, Option.map, h0, h1, k_maug_0, k_maug_1, k_maug_2, k_maug_3, k_maug_4, k_maug_5]
    | some d =>
      cases h2 : m ρ with
      | none => simp only [Option.bind, Option.map, h0, h1, h2, k_maug_0, k_maug_1, k_maug_2, k_maug_3, k_maug_4, k_maug_5]
      | some p2 =>
        obtain ⟨y, ρ1⟩ := p2
        cases h3 : guardO (notBor ρ1 i) with
        | none => simp only [Option.bind, Option.map, h0, h1, h2, h3, k_maug_0, k_maug_1, k_maug_2, k_maug_3, k_maug_4, k_maug_5]
        | some u =>
          cases h4 : y.fz.vw ρ1 with
          | none => simp only [Option.bind, Option.map, h0, h1, h2, h3, h4, k_maug_0, k_maug_1, k_maug_2, k_maug_3, k_maug_4, k_maug_5]
          | some e =>
            cases h5 : g d e with
            | none => simp only [Option.bind, Option.map, h0, h1, h2, h3, h4, h5, k_maug_0, k_maug_1, k_maug_2, k_maug_3, k_maug_4, k_maug_5]
            | some r =>
              simp only [Option.bind, Option.map, h0, h1, h2, h3, h4, h5, k_maug_0, k_maug_1, k_maug_2, k_maug_3, k_maug_4, k_maug_5]
              cases stoR ρ1 i r <;> simp [stoO]
def k_maugL_12 (s : Nat) (ρ2 : En) (r : R) (o2 : Bool) (xs2 : List D) : Option (Nat) → Option (O × En)
  | some j => augR s ρ2 o2 xs2 j r
  | none => none
@[simp] theorem kk_maugL_12 (s : Nat) (ρ2 : En) (r : R) (o2 : Bool) (xs2 : List D) (j : Nat) : k_maugL_12 s ρ2 r o2 xs2 (some j) = (augR s ρ2 o2 xs2 j r) := rfl
def k_maugL_11 (s : Nat) (ki : Int) (ρ2 : En) (r : R) (o2 : Bool) : Option (List D) → Option (O × En)
  | some xs2 => k_maugL_12 s ρ2 r o2 xs2 (L2.ixN xs2.length ki)
  | none => none
@[simp] theorem kk_maugL_11 (s : Nat) (ki : Int) (ρ2 : En) (r : R) (o2 : Bool) (xs2 : List D) : k_maugL_11 s ki ρ2 r o2 (some xs2) = (k_maugL_12 s ρ2 r o2 xs2 (L2.ixN xs2.length ki)) := rfl
def k_maugL_10 (s : Nat) (ki : Int) (ρ2 : En) (r : R) : Option (Bool × Bx) → Option (O × En)
  | some (o2, b2) => k_maugL_11 s ki ρ2 r o2 (lstOf b2)
  | none => none
@[simp] theorem kk_maugL_10 (s : Nat) (ki : Int) (ρ2 : En) (r : R) (o2 : Bool) (b2 : Bx) : k_maugL_10 s ki ρ2 r (some (o2, b2)) = (k_maugL_11 s ki ρ2 r o2 (lstOf b2)) := rfl
def k_maugL_9 (s : Nat) (ki : Int) (ρ2 : En) : Option (R) → Option (O × En)
  | some r => k_maugL_10 s ki ρ2 r (bxAt ρ2 s)
  | none => none
@[simp] theorem kk_maugL_9 (s : Nat) (ki : Int) (ρ2 : En) (r : R) : k_maugL_9 s ki ρ2 (some r) = (k_maugL_10 s ki ρ2 r (bxAt ρ2 s)) := rfl
def k_maugL_8 (s : Nat) (g : D → D → Option R) (ki : Int) (d : D) (ρ2 : En) : Option (D) → Option (O × En)
  | some e => k_maugL_9 s ki ρ2 (g d e)
  | none => none
@[simp] theorem kk_maugL_8 (s : Nat) (g : D → D → Option R) (ki : Int) (d : D) (ρ2 : En) (e : D) : k_maugL_8 s g ki d ρ2 (some e) = (k_maugL_9 s ki ρ2 (g d e)) := rfl
def k_maugL_7 (s : Nat) (g : D → D → Option R) (ki : Int) (d : D) : Option (R × En) → Option (O × En)
  | some (x, ρ2) => k_maugL_8 s g ki d ρ2 (x.fz.vw ρ2)
  | none => none
@[simp] theorem kk_maugL_7 (s : Nat) (g : D → D → Option R) (ki : Int) (d : D) (x : R) (ρ2 : En) : k_maugL_7 s g ki d (some (x, ρ2)) = (k_maugL_8 s g ki d ρ2 (x.fz.vw ρ2)) := rfl
def k_maugL_6 (s : Nat) (g : D → D → Option R) (mv : ME) (ρ1 : En) (ki : Int) : Option (D) → Option (O × En)
  | some d => k_maugL_7 s g ki d (mv ρ1)
  | none => none
@[simp] theorem kk_maugL_6 (s : Nat) (g : D → D → Option R) (mv : ME) (ρ1 : En) (ki : Int) (d : D) : k_maugL_6 s g mv ρ1 ki (some d) = (k_maugL_7 s g ki d (mv ρ1)) := rfl
def k_maugL_5 (s : Nat) (g : D → D → Option R) (mv : ME) (ρ1 : En) (ki : Int) (xs : List D) : Option (Unit) → Option (O × En)
  | some u => k_maugL_6 s g mv ρ1 ki (xs[ki.toNat]?)
  | none => none
@[simp] theorem kk_maugL_5 (s : Nat) (g : D → D → Option R) (mv : ME) (ρ1 : En) (ki : Int) (xs : List D) (u : Unit) : k_maugL_5 s g mv ρ1 ki xs (some u) = (k_maugL_6 s g mv ρ1 ki (xs[ki.toNat]?)) := rfl
def k_maugL_4 (s : Nat) (g : D → D → Option R) (mv : ME) (ρ1 : En) (ki : Int) : Option (List D) → Option (O × En)
  | some xs => k_maugL_5 s g mv ρ1 ki xs (guardO (decide (0 ≤ ki ∧ ki < 2 ^ 63)))
  | none => none
@[simp] theorem kk_maugL_4 (s : Nat) (g : D → D → Option R) (mv : ME) (ρ1 : En) (ki : Int) (xs : List D) : k_maugL_4 s g mv ρ1 ki (some xs) = (k_maugL_5 s g mv ρ1 ki xs (guardO (decide (0 ≤ ki ∧ ki < 2 ^ 63)))) := rfl
def k_maugL_3 (s : Nat) (g : D → D → Option R) (mv : ME) (ρ1 : En) (ki : Int) : Option (Bool × Bx) → Option (O × En)
  | some (o, b1) => k_maugL_4 s g mv ρ1 ki (lstOf b1)
  | none => none
@[simp] theorem kk_maugL_3 (s : Nat) (g : D → D → Option R) (mv : ME) (ρ1 : En) (ki : Int) (o : Bool) (b1 : Bx) : k_maugL_3 s g mv ρ1 ki (some (o, b1)) = (k_maugL_4 s g mv ρ1 ki (lstOf b1)) := rfl
def k_maugL_2 (s : Nat) (g : D → D → Option R) (mv : ME) (ρ1 : En) : Option (Int) → Option (O × En)
  | some ki => k_maugL_3 s g mv ρ1 ki (bxAt ρ1 s)
  | none => none
@[simp] theorem kk_maugL_2 (s : Nat) (g : D → D → Option R) (mv : ME) (ρ1 : En) (ki : Int) : k_maugL_2 s g mv ρ1 (some ki) = (k_maugL_3 s g mv ρ1 ki (bxAt ρ1 s)) := rfl
def k_maugL_1 (s : Nat) (g : D → D → Option R) (mv : ME) : Option (R × En) → Option (O × En)
  | some (z, ρ1) => k_maugL_2 s g mv ρ1 (intR ρ1 z.fz)
  | none => none
@[simp] theorem kk_maugL_1 (s : Nat) (g : D → D → Option R) (mv : ME) (z : R) (ρ1 : En) : k_maugL_1 s g mv (some (z, ρ1)) = (k_maugL_2 s g mv ρ1 (intR ρ1 z.fz)) := rfl
def k_maugL_0 (s : Nat) (g : D → D → Option R) (mk : ME) (mv : ME) (ρ : En) : Option (Bool × Bx) → Option (O × En)
  | some (o0, b0) => k_maugL_1 s g mv (mk ρ)
  | none => none
@[simp] theorem kk_maugL_0 (s : Nat) (g : D → D → Option R) (mk : ME) (mv : ME) (ρ : En) (o0 : Bool) (b0 : Bx) : k_maugL_0 s g mk mv ρ (some (o0, b0)) = (k_maugL_1 s g mv (mk ρ)) := rfl
@[simp] theorem ev_maugL (s : Nat) (g : D → D → Option R) (mk : ME) (mv : ME) (ρ : En) : maugL s g mk mv ρ = k_maugL_0 s g mk mv ρ (bxAt ρ s) := by
  unfold maugL
  cases h0 : bxAt ρ s with
  | none => simp only [Option.bind, Option.map, h0, k_maugL_0, k_maugL_1, k_maugL_2, k_maugL_3, k_maugL_4, k_maugL_5, k_maugL_6, k_maugL_7, k_maugL_8, k_maugL_9, k_maugL_10, k_maugL_11, k_maugL_12]
  | some p0 =>
    obtain ⟨o0, b0⟩ := p0
    cases h1 : mk ρ with
    | none => simp only [Option.bind, Option.map, h0, h1, k_maugL_0, k_maugL_1, k_maugL_2, k_maugL_3, k_maugL_4, k_maugL_5, k_maugL_6, k_maugL_7, k_maugL_8, k_maugL_9, k_maugL_10, k_maugL_11, k_maugL_12]
    | some p1 =>
      obtain ⟨z, ρ1⟩ := p1
      cases h2 : intR ρ1 z.fz with
      | none => simp only [Option.bind, Option.map, h0, h1, h2, k_maugL_0, k_maugL_1, k_maugL_2, k_maugL_3, k_maugL_4, k_maugL_5, k_maugL_6, k_maugL_7, k_maugL_8, k_maugL_9, k_maugL_10, k_maugL_11, k_maugL_12]
      | some ki =>
        cases h3 : bxAt ρ1 s with
        | none => simp only [Option.bind, Option.map, h0, h1, h2, h3, k_maugL_0, k_maugL_1, k_maugL_2, k_maugL_3, k_maugL_4, k_maugL_5, k_maugL_6, k_maugL_7, k_maugL_8, k_maugL_9, k_maugL_10, k_maugL_11, k_maugL_12]
        | some p3 =>
          obtain ⟨o, b1⟩ := p3
          cases h4 : lstOf b1 with
          | none => simp only [Option.bind, Option.map, h0, h1, h2, h3, h4, k_maugL_0, k_maugL_1, k_maugL_2, k_maugL_3, k_maugL_4, k_maugL_5, k_maugL_6, k_maugL_7, k_maugL_8, k_maugL_9, k_maugL_10, k_maugL_11, k_maugL_12]
          | some xs =>
            cases h5 : guardO (decide (0 ≤ ki ∧ ki < 2 ^ 63)) with
            | none => simp only [Option.bind, Option.map, h0, h1, h2, h3, h4, h5, k_maugL_0, k_maugL_1, k_maugL_2, k_maugL_3, k_maugL_4, k_maugL_5, k_maugL_6, k_maugL_7, k_maugL_8, k_maugL_9, k_maugL_10, k_maugL_11, k_maugL_12]
            | some u =>
              cases h6 : xs[ki.toNat]? with
              | none => simp only [Option.bind, Option.map, h0, h1, h2, h3, h4, h5, h6, k_maugL_0, k_maugL_1, k_maugL_2, k_maugL_3, k_maugL_4, k_maugL_5, k_maugL_6, k_maugL_7, k_maugL_8, k_maugL_9, k_maugL_10, k_maugL_11, k_maugL_12]
              | some d =>
                cases h7 : mv ρ1 with
                | none => simp only [Option.bind, Option.map, h0, h1, h2, h3, h4, h5, h6, h7, k_maugL_0, k_maugL_1, k_maugL_2, k_maugL_3, k_maugL_4, k_maugL_5, k_maugL_6, k_maugL_7, k_maugL_8, k_maugL_9, k_maugL_10, k_maugL_11, k_maugL_12]
                | some p7 =>
                  obtain ⟨x, ρ2⟩ := p7
                  cases h8 : x.fz.vw ρ2 with
                  | none => simp only [Option.bind, Option.map, h0, h1, h2, h3, h4, h5, h6, h7, h8, k_maugL_0, k_maugL_1, k_maugL_2, k_maugL_3, k_maugL_4, k_maugL_5, k_maugL_6, k_maugL_7, k_maugL_8, k_maugL_9, k_maugL_10, k_maugL_11, k_maugL_12]
                  | some e =>
                    cases h9 : g d e with
                    | none => simp only [Option.bind, Option.map, h0, h1, h2, h3, h4, h5, h6, h7, h8, h9, k_maugL_0, k_maugL_1, k_maugL_2, k_maugL_3, k_maugL_4, k_maugL_5, k_maugL_6, k_maugL_7, k_maugL_8, k_maugL_9, k_maugL_10, k_maugL_11, k_maugL_12]
                    | some r =>
                      cases h10 : bxAt ρ2 s with
                      | none => simp only [Option.bind, Option.map, h0, h1, h2, h3, h4, h5, h6, h7, h8, h9, h10, k_maugL_0, k_maugL_1, k_maugL_2, k_maugL_3, k_maugL_4, k_maugL_5, k_maugL_6, k_maugL_7, k_maugL_8, k_maugL_9, k_maugL_10, k_maugL_11, k_maugL_12]
                      | some p10 =>
                        obtain ⟨o2, b2⟩ := p10
                        cases h11 : lstOf b2 with
                        | none => simp only [Option.bind, Option.map, h0, h1, h2, h3, h4, h5, h6, h7, h8, h9, h10, h11, k_maugL_0, k_maugL_1, k_maugL_2, k_maugL_3, k_maugL_4, k_maugL_5, k_maugL_6, k_maugL_7, k_maugL_8, k_maugL_9, k_maugL_10, k_maugL_11, k_maugL_12]
                        | some xs2 =>
                          cases h12 : L2.ixN xs2.length ki with
                          | none => simp only [Option.bind, Option.map, h0, h1, h2, h3, h4, h5, h6, h7, h8, h9, h10, h11, h12, k_maugL_0, k_maugL_1, k_maugL_2, k_maugL_3, k_maugL_4, k_maugL_5, k_maugL_6, k_maugL_7, k_maugL_8, k_maugL_9, k_maugL_10, k_maugL_11, k_maugL_12]
                          | some j =>
                            simp only [Option.bind, Option.map, h0, h1, h2, h3, h4, h5, h6, h7, h8, h9, h10, h11, h12, k_maugL_0, k_maugL_1, k_maugL_2, k_maugL_3, k_maugL_4, k_maugL_5, k_maugL_6, k_maugL_7, k_maugL_8, k_maugL_9, k_maugL_10, k_maugL_11, k_maugL_12]
                            cases r <;> simp [augR]
def k_mdef_0 (as : List A) : Option (O × En) → Option (R × List A)
  | some (o, ρ1) => defE as ρ1 o
  | none => none
@[simp] theorem kk_mdef_0 (as : List A) (o : O) (ρ1 : En) : k_mdef_0 as (some (o, ρ1)) = (defE as ρ1 o) := rfl
@[simp] theorem ev_mdef (n : Nat) (b : MS) (as : List A) : mdef n b as = k_mdef_0 as (b (startE n as)) := by
  unfold mdef
  cases h0 : b (startE n as) with
  | none => simp only [Option.bind, Option.map, h0, k_mdef_0]
  | some p0 =>
    obtain ⟨o, ρ1⟩ := p0
    simp only [Option.bind, Option.map, h0, k_mdef_0]
    cases o <;> simp [defE, Option.map]
@[simp] theorem q_seqO_1 (b : MS) (ρ : En) : seqO b .nx ρ = b ρ := by first | rfl | (cases a with | none => rfl | some a => cases a <;> rfl) | (simp [stoO, stoR, parR, Option.bind]) | (unfold eqD eqOk; simp [scalD, PyData.eqv]) | (unfold neD eqOk; simp [scalD, PyData.eqv])
@[simp] theorem q_seqO_2 (b : MS) (ρ : En) : seqO b .bk ρ = some (.bk, ρ) := by first | rfl | (cases a with | none => rfl | some a => cases a <;> rfl) | (simp [stoO, stoR, parR, Option.bind]) | (unfold eqD eqOk; simp [scalD, PyData.eqv]) | (unfold neD eqOk; simp [scalD, PyData.eqv])
@[simp] theorem q_seqO_3 (b : MS) (ρ : En) : seqO b .ct ρ = some (.ct, ρ) := by first | rfl | (cases a with | none => rfl | some a => cases a <;> rfl) | (simp [stoO, stoR, parR, Option.bind]) | (unfold eqD eqOk; simp [scalD, PyData.eqv]) | (unfold neD eqOk; simp [scalD, PyData.eqv])
@[simp] theorem q_seqO_4 (b : MS) (r : R) (ρ : En) : seqO b (.rt r) ρ = some (.rt r, ρ) := by first | rfl | (cases a with | none => rfl | some a => cases a <;> rfl) | (simp [stoO, stoR, parR, Option.bind]) | (unfold eqD eqOk; simp [scalD, PyData.eqv]) | (unfold neD eqOk; simp [scalD, PyData.eqv])
@[simp] theorem q_iteS_1 {α : Type} (a b : En → Option α) (ρ : En) : iteS a b true ρ = a ρ := by first | rfl | (cases a with | none => rfl | some a => cases a <;> rfl) | (simp [stoO, stoR, parR, Option.bind]) | (unfold eqD eqOk; simp [scalD, PyData.eqv]) | (unfold neD eqOk; simp [scalD, PyData.eqv])
@[simp] theorem q_iteS_2 {α : Type} (a b : En → Option α) (ρ : En) : iteS a b false ρ = b ρ := by first | rfl | (cases a with | none => rfl | some a => cases a <;> rfl) | (simp [stoO, stoR, parR, Option.bind]) | (unfold eqD eqOk; simp [scalD, PyData.eqv]) | (unfold neD eqOk; simp [scalD, PyData.eqv])
@[simp] theorem q_retA_1 (i : Nat) (ρ : En) (d : D) : retA i ρ (some (.dat d)) = some (.rt (.dat d), ρ) := by first | rfl | (cases a with | none => rfl | some a => cases a <;> rfl) | (simp [stoO, stoR, parR, Option.bind]) | (unfold eqD eqOk; simp [scalD, PyData.eqv]) | (unfold neD eqOk; simp [scalD, PyData.eqv])
@[simp] theorem q_retA_2 (i : Nat) (ρ : En) (b : Bx) : retA i ρ (some (.box true b)) = some (.rt (.new b), ρ) := by first | rfl | (cases a with | none => rfl | some a => cases a <;> rfl) | (simp [stoO, stoR, parR, Option.bind]) | (unfold eqD eqOk; simp [scalD, PyData.eqv]) | (unfold neD eqOk; simp [scalD, PyData.eqv])
@[simp] theorem q_retR_1 (ρ : En) (d : D) : retR ρ (.dat d) = some (.rt (.dat d), ρ) := by first | rfl | (cases a with | none => rfl | some a => cases a <;> rfl) | (simp [stoO, stoR, parR, Option.bind]) | (unfold eqD eqOk; simp [scalD, PyData.eqv]) | (unfold neD eqOk; simp [scalD, PyData.eqv])
@[simp] theorem q_retR_2 (ρ : En) (b : Bx) : retR ρ (.new b) = some (.rt (.new b), ρ) := by first | rfl | (cases a with | none => rfl | some a => cases a <;> rfl) | (simp [stoO, stoR, parR, Option.bind]) | (unfold eqD eqOk; simp [scalD, PyData.eqv]) | (unfold neD eqOk; simp [scalD, PyData.eqv])
@[simp] theorem q_retR_3 (ρ : En) (i : Nat) : retR ρ (.ref i) = retA i ρ ρ[i]?.join := by first | rfl | (cases a with | none => rfl | some a => cases a <;> rfl) | (simp [stoO, stoR, parR, Option.bind]) | (unfold eqD eqOk; simp [scalD, PyData.eqv]) | (unfold neD eqOk; simp [scalD, PyData.eqv])
@[simp] theorem q_varA_1 (i : Nat) (ρ : En) (d : D) : varA i ρ (some (.dat d)) = some (.dat d, ρ) := by first | rfl | (cases a with | none => rfl | some a => cases a <;> rfl) | (simp [stoO, stoR, parR, Option.bind]) | (unfold eqD eqOk; simp [scalD, PyData.eqv]) | (unfold neD eqOk; simp [scalD, PyData.eqv])
@[simp] theorem q_varA_2 (i : Nat) (ρ : En) (o : Bool) (b : Bx) : varA i ρ (some (.box o b)) = some (.ref i, ρ) := by first | rfl | (cases a with | none => rfl | some a => cases a <;> rfl) | (simp [stoO, stoR, parR, Option.bind]) | (unfold eqD eqOk; simp [scalD, PyData.eqv]) | (unfold neD eqOk; simp [scalD, PyData.eqv])
@[simp] theorem q_partD_1 (ρ : En) (i : Int) : partD ρ (.int i) = some (some i, ρ) := by first | rfl | (cases a with | none => rfl | some a => cases a <;> rfl) | (simp [stoO, stoR, parR, Option.bind]) | (unfold eqD eqOk; simp [scalD, PyData.eqv]) | (unfold neD eqOk; simp [scalD, PyData.eqv])
@[simp] theorem q_seqItems_1 (ρ : En) (ds : List D) : seqItems ρ (some ds) = some (.items ds, ρ) := by first | rfl | (cases a with | none => rfl | some a => cases a <;> rfl) | (simp [stoO, stoR, parR, Option.bind]) | (unfold eqD eqOk; simp [scalD, PyData.eqv]) | (unfold neD eqOk; simp [scalD, PyData.eqv])
@[simp] theorem q_seqA_1 (i : Nat) (ρ : En) (d : D) : seqA i ρ (some (.dat d)) = seqItems ρ (seqD d) := by first | rfl | (cases a with | none => rfl | some a => cases a <;> rfl) | (simp [stoO, stoR, parR, Option.bind]) | (unfold eqD eqOk; simp [scalD, PyData.eqv]) | (unfold neD eqOk; simp [scalD, PyData.eqv])
@[simp] theorem q_seqA_2 (i : Nat) (ρ : En) (b : Bx) : seqA i ρ (some (.box true b)) = seqItems (ρ.set i (some (.dat b.dat))) (seqD b.dat) := by first | rfl | (cases a with | none => rfl | some a => cases a <;> rfl) | (simp [stoO, stoR, parR, Option.bind]) | (unfold eqD eqOk; simp [scalD, PyData.eqv]) | (unfold neD eqOk; simp [scalD, PyData.eqv])
@[simp] theorem q_seqA_3 (i : Nat) (ρ : En) (ds : List D) : seqA i ρ (some (.box false (.lst ds))) = some (.slot i ds, ρ) := by first | rfl | (cases a with | none => rfl | some a => cases a <;> rfl) | (simp [stoO, stoR, parR, Option.bind]) | (unfold eqD eqOk; simp [scalD, PyData.eqv]) | (unfold neD eqOk; simp [scalD, PyData.eqv])
@[simp] theorem q_seqR_1 (ρ : En) (d : D) : seqR ρ (.dat d) = seqItems ρ (seqD d) := by first | rfl | (cases a with | none => rfl | some a => cases a <;> rfl) | (simp [stoO, stoR, parR, Option.bind]) | (unfold eqD eqOk; simp [scalD, PyData.eqv]) | (unfold neD eqOk; simp [scalD, PyData.eqv])
@[simp] theorem q_seqR_2 (ρ : En) (b : Bx) : seqR ρ (.new b) = seqItems ρ (seqD b.dat) := by first | rfl | (cases a with | none => rfl | some a => cases a <;> rfl) | (simp [stoO, stoR, parR, Option.bind]) | (unfold eqD eqOk; simp [scalD, PyData.eqv]) | (unfold neD eqOk; simp [scalD, PyData.eqv])
@[simp] theorem q_seqR_3 (ρ : En) (i : Nat) : seqR ρ (.ref i) = seqA i ρ ρ[i]?.join := by first | rfl | (cases a with | none => rfl | some a => cases a <;> rfl) | (simp [stoO, stoR, parR, Option.bind]) | (unfold eqD eqOk; simp [scalD, PyData.eqv]) | (unfold neD eqOk; simp [scalD, PyData.eqv])
@[simp] theorem q_seqAC_1 (i : Nat) (ρ : En) (d : D) : seqAC i ρ (some (.dat d)) = seqItems ρ (seqD d) := by first | rfl | (cases a with | none => rfl | some a => cases a <;> rfl) | (simp [stoO, stoR, parR, Option.bind]) | (unfold eqD eqOk; simp [scalD, PyData.eqv]) | (unfold neD eqOk; simp [scalD, PyData.eqv])
@[simp] theorem q_seqAC_2 (i : Nat) (ρ : En) (o : Bool) (ds : List D) : seqAC i ρ (some (.box o (.lst ds))) = some (.slot i ds, ρ) := by first | rfl | (cases a with | none => rfl | some a => cases a <;> rfl) | (simp [stoO, stoR, parR, Option.bind]) | (unfold eqD eqOk; simp [scalD, PyData.eqv]) | (unfold neD eqOk; simp [scalD, PyData.eqv])
@[simp] theorem q_seqRC_1 (ρ : En) (d : D) : seqRC ρ (.dat d) = seqItems ρ (seqD d) := by first | rfl | (cases a with | none => rfl | some a => cases a <;> rfl) | (simp [stoO, stoR, parR, Option.bind]) | (unfold eqD eqOk; simp [scalD, PyData.eqv]) | (unfold neD eqOk; simp [scalD, PyData.eqv])
@[simp] theorem q_seqRC_2 (ρ : En) (b : Bx) : seqRC ρ (.new b) = seqItems ρ (seqD b.dat) := by first | rfl | (cases a with | none => rfl | some a => cases a <;> rfl) | (simp [stoO, stoR, parR, Option.bind]) | (unfold eqD eqOk; simp [scalD, PyData.eqv]) | (unfold neD eqOk; simp [scalD, PyData.eqv])
@[simp] theorem q_seqRC_3 (ρ : En) (i : Nat) : seqRC ρ (.ref i) = seqAC i ρ ρ[i]?.join := by first | rfl | (cases a with | none => rfl | some a => cases a <;> rfl) | (simp [stoO, stoR, parR, Option.bind]) | (unfold eqD eqOk; simp [scalD, PyData.eqv]) | (unfold neD eqOk; simp [scalD, PyData.eqv])
@[simp] theorem q_seqD_1 (ds : List D) : seqD (.list ds) = some ds := by first | rfl | (cases a with | none => rfl | some a => cases a <;> rfl) | (simp [stoO, stoR, parR, Option.bind]) | (unfold eqD eqOk; simp [scalD, PyData.eqv]) | (unfold neD eqOk; simp [scalD, PyData.eqv])
@[simp] theorem q_seqD_2 (ds : List D) : seqD (.tuple ds) = some ds := by first | rfl | (cases a with | none => rfl | some a => cases a <;> rfl) | (simp [stoO, stoR, parR, Option.bind]) | (unfold eqD eqOk; simp [scalD, PyData.eqv]) | (unfold neD eqOk; simp [scalD, PyData.eqv])
@[simp] theorem q_forT_1 (g : MG) (b : MS) (ds : List D) (ρ : En) : forT g b (.items ds) ρ = mforI g b ds ρ := by first | rfl | (cases a with | none => rfl | some a => cases a <;> rfl) | (simp [stoO, stoR, parR, Option.bind]) | (unfold eqD eqOk; simp [scalD, PyData.eqv]) | (unfold neD eqOk; simp [scalD, PyData.eqv])
@[simp] theorem q_forT_2 (g : MG) (b : MS) (i : Nat) (ds : List D) (ρ : En) : forT g b (.slot i ds) ρ = mforS i g b ds 0 ρ := by first | rfl | (cases a with | none => rfl | some a => cases a <;> rfl) | (simp [stoO, stoR, parR, Option.bind]) | (unfold eqD eqOk; simp [scalD, PyData.eqv]) | (unfold neD eqOk; simp [scalD, PyData.eqv])
@[simp] theorem q_stoO_1 (ρ : En) : stoO (some ρ) = some (.nx, ρ) := by first | rfl | (cases a with | none => rfl | some a => cases a <;> rfl) | (simp [stoO, stoR, parR, Option.bind]) | (unfold eqD eqOk; simp [scalD, PyData.eqv]) | (unfold neD eqOk; simp [scalD, PyData.eqv])
@[simp] theorem q_parR_1 (i j : Nat) (ρ : En) (d d' : D) : parR i j ρ (.dat d) (.dat d') = some (.nx, (ρ.set i (some (.dat d))).set j (some (.dat d'))) := by first | rfl | (cases a with | none => rfl | some a => cases a <;> rfl) | (simp [stoO, stoR, parR, Option.bind]) | (unfold eqD eqOk; simp [scalD, PyData.eqv]) | (unfold neD eqOk; simp [scalD, PyData.eqv])
@[simp] theorem q_parR_2 (i j : Nat) (ρ : En) (d : D) (b : Bx) : parR i j ρ (.dat d) (.new b) = some (.nx, (ρ.set i (some (.dat d))).set j (some (.box true b))) := by first | rfl | (cases a with | none => rfl | some a => cases a <;> rfl) | (simp [stoO, stoR, parR, Option.bind]) | (unfold eqD eqOk; simp [scalD, PyData.eqv]) | (unfold neD eqOk; simp [scalD, PyData.eqv])
@[simp] theorem q_parR_3 (i j : Nat) (ρ : En) (b : Bx) (d : D) : parR i j ρ (.new b) (.dat d) = some (.nx, (ρ.set i (some (.box true b))).set j (some (.dat d))) := by first | rfl | (cases a with | none => rfl | some a => cases a <;> rfl) | (simp [stoO, stoR, parR, Option.bind]) | (unfold eqD eqOk; simp [scalD, PyData.eqv]) | (unfold neD eqOk; simp [scalD, PyData.eqv])
@[simp] theorem q_parR_4 (i j : Nat) (ρ : En) (b b' : Bx) : parR i j ρ (.new b) (.new b') = some (.nx, (ρ.set i (some (.box true b))).set j (some (.box true b'))) := by first | rfl | (cases a with | none => rfl | some a => cases a <;> rfl) | (simp [stoO, stoR, parR, Option.bind]) | (unfold eqD eqOk; simp [scalD, PyData.eqv]) | (unfold neD eqOk; simp [scalD, PyData.eqv])
@[simp] theorem q_lcE_1 (ρ : En) (vs : List Nat) (xs : List D) (ρ1 : En) : lcE ρ vs (some (xs, ρ1)) = some (.new (.lst xs), restE ρ ρ1 vs) := by first | rfl | (cases a with | none => rfl | some a => cases a <;> rfl) | (simp [stoO, stoR, parR, Option.bind]) | (unfold eqD eqOk; simp [scalD, PyData.eqv]) | (unfold neD eqOk; simp [scalD, PyData.eqv])
theorem q_lcT_1 (g : MG) (t : MT) (m : ME) (vs : List Nat) (ds : List D) (ρ : En) : lcT g t m vs (.items ds) ρ = lcE ρ vs (mlcI g t m vs ds [] (wipeE ρ vs)) := by first | rfl | (cases a with | none => rfl | some a => cases a <;> rfl) | (simp [stoO, stoR, parR, Option.bind]) | (unfold eqD eqOk; simp [scalD, PyData.eqv]) | (unfold neD eqOk; simp [scalD, PyData.eqv])
@[simp] theorem q_rng1_1 (ρ : En) (r : R) : rng1 ρ [r] = ((intR ρ r).bind fun j => (guardO (decide (-(2 ^ 62) ≤ j ∧ j < 2 ^ 62))).bind fun _ => some (.items (rngD 0 j), ρ)) := by first | rfl | (cases a with | none => rfl | some a => cases a <;> rfl) | (simp [stoO, stoR, parR, Option.bind]) | (unfold eqD eqOk; simp [scalD, PyData.eqv]) | (unfold neD eqOk; simp [scalD, PyData.eqv])
@[simp] theorem q_augR_1 (s : Nat) (ρ : En) (o : Bool) (xs : List D) (j : Nat) (d : D) : augR s ρ o xs j (.dat d) = some (.nx, ρ.set s (some (.box o (.lst (xs.set j d))))) := by first | rfl | (cases a with | none => rfl | some a => cases a <;> rfl) | (simp [stoO, stoR, parR, Option.bind]) | (unfold eqD eqOk; simp [scalD, PyData.eqv]) | (unfold neD eqOk; simp [scalD, PyData.eqv])
@[simp] theorem q_asgG_1 (g : MG) (ρ : En) (d : D) : asgG g ρ [d] = stoO (g d ρ) := by first | rfl | (cases a with | none => rfl | some a => cases a <;> rfl) | (simp [stoO, stoR, parR, Option.bind]) | (unfold eqD eqOk; simp [scalD, PyData.eqv]) | (unfold neD eqOk; simp [scalD, PyData.eqv])
@[simp] theorem q_defE_1 (as : List A) (ρ : En) (r : R) : defE as ρ (.rt r) = ((outAs ρ as 0).map fun o => (r, o)) := by first | rfl | (cases a with | none => rfl | some a => cases a <;> rfl) | (simp [stoO, stoR, parR, Option.bind]) | (unfold eqD eqOk; simp [scalD, PyData.eqv]) | (unfold neD eqOk; simp [scalD, PyData.eqv])
@[simp] theorem q_defE_2 (as : List A) (ρ : En) : defE as ρ .nx = ((outAs ρ as 0).map fun o => (.dat .none, o)) := by first | rfl | (cases a with | none => rfl | some a => cases a <;> rfl) | (simp [stoO, stoR, parR, Option.bind]) | (unfold eqD eqOk; simp [scalD, PyData.eqv]) | (unfold neD eqOk; simp [scalD, PyData.eqv])
@[simp] theorem q_R_fz_1 (d : D) : (R.dat d).fz = .dat d := by first | rfl | (cases a with | none => rfl | some a => cases a <;> rfl) | (simp [stoO, stoR, parR, Option.bind]) | (unfold eqD eqOk; simp [scalD, PyData.eqv]) | (unfold neD eqOk; simp [scalD, PyData.eqv])
@[simp] theorem q_R_fz_2 (b : Bx) : (R.new b).fz = .dat b.dat := by first | rfl | (cases a with | none => rfl | some a => cases a <;> rfl) | (simp [stoO, stoR, parR, Option.bind]) | (unfold eqD eqOk; simp [scalD, PyData.eqv]) | (unfold neD eqOk; simp [scalD, PyData.eqv])
@[simp] theorem q_R_fz_3 (i : Nat) : (R.ref i).fz = .ref i := by first | rfl | (cases a with | none => rfl | some a => cases a <;> rfl) | (simp [stoO, stoR, parR, Option.bind]) | (unfold eqD eqOk; simp [scalD, PyData.eqv]) | (unfold neD eqOk; simp [scalD, PyData.eqv])
@[simp] theorem q_R_vw_1 (ρ : En) (d : D) : (R.dat d).vw ρ = some d := by first | rfl | (cases a with | none => rfl | some a => cases a <;> rfl) | (simp [stoO, stoR, parR, Option.bind]) | (unfold eqD eqOk; simp [scalD, PyData.eqv]) | (unfold neD eqOk; simp [scalD, PyData.eqv])
@[simp] theorem q_R_vw_2 (ρ : En) (i : Nat) : (R.ref i).vw ρ = (ρ[i]?.join).map A.vw := by first | rfl | (cases a with | none => rfl | some a => cases a <;> rfl) | (simp [stoO, stoR, parR, Option.bind]) | (unfold eqD eqOk; simp [scalD, PyData.eqv]) | (unfold neD eqOk; simp [scalD, PyData.eqv])
@[simp] theorem q_A_vw_1 (d : D) : (A.dat d).vw = d := by first | rfl | (cases a with | none => rfl | some a => cases a <;> rfl) | (simp [stoO, stoR, parR, Option.bind]) | (unfold eqD eqOk; simp [scalD, PyData.eqv]) | (unfold neD eqOk; simp [scalD, PyData.eqv])
@[simp] theorem q_A_vw_2 (o : Bool) (b : Bx) : (A.box o b).vw = b.dat := by first | rfl | (cases a with | none => rfl | some a => cases a <;> rfl) | (simp [stoO, stoR, parR, Option.bind]) | (unfold eqD eqOk; simp [scalD, PyData.eqv]) | (unfold neD eqOk; simp [scalD, PyData.eqv])
@[simp] theorem q_Bx_dat_1 (xs : List D) : (Bx.lst xs).dat = .list xs := by first | rfl | (cases a with | none => rfl | some a => cases a <;> rfl) | (simp [stoO, stoR, parR, Option.bind]) | (unfold eqD eqOk; simp [scalD, PyData.eqv]) | (unfold neD eqOk; simp [scalD, PyData.eqv])
@[simp] theorem q_Bx_dat_2 (xs : List (L2.Key × D)) : (Bx.dic xs).dat = .dict (dkv xs) := by first | rfl | (cases a with | none => rfl | some a => cases a <;> rfl) | (simp [stoO, stoR, parR, Option.bind]) | (unfold eqD eqOk; simp [scalD, PyData.eqv]) | (unfold neD eqOk; simp [scalD, PyData.eqv])
@[simp] theorem q_guardO_1 : guardO true = some () := by first | rfl | (cases a with | none => rfl | some a => cases a <;> rfl) | (simp [stoO, stoR, parR, Option.bind]) | (unfold eqD eqOk; simp [scalD, PyData.eqv]) | (unfold neD eqOk; simp [scalD, PyData.eqv])
@[simp] theorem q_boolR_1 (b : Bool) : boolR (.dat (.bool b)) = some b := by first | rfl | (cases a with | none => rfl | some a => cases a <;> rfl) | (simp [stoO, stoR, parR, Option.bind]) | (unfold eqD eqOk; simp [scalD, PyData.eqv]) | (unfold neD eqOk; simp [scalD, PyData.eqv])
@[simp] theorem q_truD_1 (b : Bool) : truD (.bool b) = some b := by first | rfl | (cases a with | none => rfl | some a => cases a <;> rfl) | (simp [stoO, stoR, parR, Option.bind]) | (unfold eqD eqOk; simp [scalD, PyData.eqv]) | (unfold neD eqOk; simp [scalD, PyData.eqv])
@[simp] theorem q_truD_2 (xs : List D) : truD (.list xs) = some (!xs.isEmpty) := by first | rfl | (cases a with | none => rfl | some a => cases a <;> rfl) | (simp [stoO, stoR, parR, Option.bind]) | (unfold eqD eqOk; simp [scalD, PyData.eqv]) | (unfold neD eqOk; simp [scalD, PyData.eqv])
@[simp] theorem q_truD_3 (xs : List D) : truD (.tuple xs) = some (!xs.isEmpty) := by first | rfl | (cases a with | none => rfl | some a => cases a <;> rfl) | (simp [stoO, stoR, parR, Option.bind]) | (unfold eqD eqOk; simp [scalD, PyData.eqv]) | (unfold neD eqOk; simp [scalD, PyData.eqv])
@[simp] theorem q_argAs_1 (ρ : En) : argAs ρ [] = some [] := by first | rfl | (cases a with | none => rfl | some a => cases a <;> rfl) | (simp [stoO, stoR, parR, Option.bind]) | (unfold eqD eqOk; simp [scalD, PyData.eqv]) | (unfold neD eqOk; simp [scalD, PyData.eqv])
@[simp] theorem q_argAs_2 (ρ : En) (r : R) (rs : List R) : argAs ρ (r :: rs) = ((argA ρ r).bind fun a => (argAs ρ rs).map fun as => a :: as) := by first | rfl | (cases a with | none => rfl | some a => cases a <;> rfl) | (simp [stoO, stoR, parR, Option.bind]) | (unfold eqD eqOk; simp [scalD, PyData.eqv]) | (unfold neD eqOk; simp [scalD, PyData.eqv])
@[simp] theorem q_argA_1 (ρ : En) (d : D) : argA ρ (.dat d) = some (.dat d) := by first | rfl | (cases a with | none => rfl | some a => cases a <;> rfl) | (simp [stoO, stoR, parR, Option.bind]) | (unfold eqD eqOk; simp [scalD, PyData.eqv]) | (unfold neD eqOk; simp [scalD, PyData.eqv])
@[simp] theorem q_stoR_1 (ρ : En) (i : Nat) (d : D) : stoR ρ i (.dat d) = some (ρ.set i (some (.dat d))) := by first | rfl | (cases a with | none => rfl | some a => cases a <;> rfl) | (simp [stoO, stoR, parR, Option.bind]) | (unfold eqD eqOk; simp [scalD, PyData.eqv]) | (unfold neD eqOk; simp [scalD, PyData.eqv])
@[simp] theorem q_stoR_2 (ρ : En) (i : Nat) (b : Bx) : stoR ρ i (.new b) = some (ρ.set i (some (.box true b))) := by first | rfl | (cases a with | none => rfl | some a => cases a <;> rfl) | (simp [stoO, stoR, parR, Option.bind]) | (unfold eqD eqOk; simp [scalD, PyData.eqv]) | (unfold neD eqOk; simp [scalD, PyData.eqv])
@[simp] theorem q_fzs_1 (ρ : En) : fzs ρ [] = some ([], ρ) := by first | rfl | (cases a with | none => rfl | some a => cases a <;> rfl) | (simp [stoO, stoR, parR, Option.bind]) | (unfold eqD eqOk; simp [scalD, PyData.eqv]) | (unfold neD eqOk; simp [scalD, PyData.eqv])
@[simp] theorem q_fzs_2 (ρ : En) (d : D) (rs : List R) : fzs ρ (.dat d :: rs) = ((fzs ρ rs).map fun x => (d :: x.1, x.2)) := by first | rfl | (cases a with | none => rfl | some a => cases a <;> rfl) | (simp [stoO, stoR, parR, Option.bind]) | (unfold eqD eqOk; simp [scalD, PyData.eqv]) | (unfold neD eqOk; simp [scalD, PyData.eqv])
@[simp] theorem q_vws_1 (ρ : En) : vws ρ [] = some [] := by first | rfl | (cases a with | none => rfl | some a => cases a <;> rfl) | (simp [stoO, stoR, parR, Option.bind]) | (unfold eqD eqOk; simp [scalD, PyData.eqv]) | (unfold neD eqOk; simp [scalD, PyData.eqv])
@[simp] theorem q_vws_2 (ρ : En) (r : R) (rs : List R) : vws ρ (r :: rs) = ((r.vw ρ).bind fun d => (vws ρ rs).bind fun ds => some (d :: ds)) := by first | rfl | (cases a with | none => rfl | some a => cases a <;> rfl) | (simp [stoO, stoR, parR, Option.bind]) | (unfold eqD eqOk; simp [scalD, PyData.eqv]) | (unfold neD eqOk; simp [scalD, PyData.eqv])
@[simp] theorem q_bxIx_1 (ρ : En) : bxIx ρ [] = [] := by first | rfl | (cases a with | none => rfl | some a => cases a <;> rfl) | (simp [stoO, stoR, parR, Option.bind]) | (unfold eqD eqOk; simp [scalD, PyData.eqv]) | (unfold neD eqOk; simp [scalD, PyData.eqv])
@[simp] theorem q_bxIx_2 (ρ : En) (d : D) (rs : List R) : bxIx ρ (.dat d :: rs) = bxIx ρ rs := by first | rfl | (cases a with | none => rfl | some a => cases a <;> rfl) | (simp [stoO, stoR, parR, Option.bind]) | (unfold eqD eqOk; simp [scalD, PyData.eqv]) | (unfold neD eqOk; simp [scalD, PyData.eqv])
@[simp] theorem q_gnm_1 (i : Nat) (d : D) (ρ : En) : gnm i d ρ = ((guardO (notBor ρ i)).map fun _ => ρ.set i (some (.dat d))) := by first | rfl | (cases a with | none => rfl | some a => cases a <;> rfl) | (simp [stoO, stoR, parR, Option.bind]) | (unfold eqD eqOk; simp [scalD, PyData.eqv]) | (unfold neD eqOk; simp [scalD, PyData.eqv])
@[simp] theorem q_gtup_1 (is : List Nat) (ds : List D) (ρ : En) : gtup is (.tuple ds) ρ = gset is ds ρ := by first | rfl | (cases a with | none => rfl | some a => cases a <;> rfl) | (simp [stoO, stoR, parR, Option.bind]) | (unfold eqD eqOk; simp [scalD, PyData.eqv]) | (unfold neD eqOk; simp [scalD, PyData.eqv])
@[simp] theorem q_gset_1 (ρ : En) : gset [] [] ρ = some ρ := by first | rfl | (cases a with | none => rfl | some a => cases a <;> rfl) | (simp [stoO, stoR, parR, Option.bind]) | (unfold eqD eqOk; simp [scalD, PyData.eqv]) | (unfold neD eqOk; simp [scalD, PyData.eqv])
@[simp] theorem q_gset_2 (i : Nat) (is : List Nat) (d : D) (ds : List D) (ρ : En) : gset (i :: is) (d :: ds) ρ = ((guardO (notBor ρ i)).bind fun _ => gset is ds (ρ.set i (some (.dat d)))) := by first | rfl | (cases a with | none => rfl | some a => cases a <;> rfl) | (simp [stoO, stoR, parR, Option.bind]) | (unfold eqD eqOk; simp [scalD, PyData.eqv]) | (unfold neD eqOk; simp [scalD, PyData.eqv])
@[simp] theorem q_dicOf_1 (kvs : List (L2.Key × D)) : dicOf (.dic kvs) = some kvs := by first | rfl | (cases a with | none => rfl | some a => cases a <;> rfl) | (simp [stoO, stoR, parR, Option.bind]) | (unfold eqD eqOk; simp [scalD, PyData.eqv]) | (unfold neD eqOk; simp [scalD, PyData.eqv])
@[simp] theorem q_lstOf_1 (xs : List D) : lstOf (.lst xs) = some xs := by first | rfl | (cases a with | none => rfl | some a => cases a <;> rfl) | (simp [stoO, stoR, parR, Option.bind]) | (unfold eqD eqOk; simp [scalD, PyData.eqv]) | (unfold neD eqOk; simp [scalD, PyData.eqv])
@[simp] theorem q_oneOf_1 (d : D) : oneOf [d] = some d := by first | rfl | (cases a with | none => rfl | some a => cases a <;> rfl) | (simp [stoO, stoR, parR, Option.bind]) | (unfold eqD eqOk; simp [scalD, PyData.eqv]) | (unfold neD eqOk; simp [scalD, PyData.eqv])
@[simp] theorem q_isDic_1 (kvs : List (L2.Key × D)) : isDic (.dic kvs) = true := by first | rfl | (cases a with | none => rfl | some a => cases a <;> rfl) | (simp [stoO, stoR, parR, Option.bind]) | (unfold eqD eqOk; simp [scalD, PyData.eqv]) | (unfold neD eqOk; simp [scalD, PyData.eqv])
@[simp] theorem q_isDic_2 (xs : List D) : isDic (.lst xs) = false := by first | rfl | (cases a with | none => rfl | some a => cases a <;> rfl) | (simp [stoO, stoR, parR, Option.bind]) | (unfold eqD eqOk; simp [scalD, PyData.eqv]) | (unfold neD eqOk; simp [scalD, PyData.eqv])
@[simp] theorem q_datOf_1 (d : D) : datOf (.dat d) = some d := by first | rfl | (cases a with | none => rfl | some a => cases a <;> rfl) | (simp [stoO, stoR, parR, Option.bind]) | (unfold eqD eqOk; simp [scalD, PyData.eqv]) | (unfold neD eqOk; simp [scalD, PyData.eqv])
@[simp] theorem q_isBx_1 (d : D) : isBx (.dat d) = false := by first | rfl | (cases a with | none => rfl | some a => cases a <;> rfl) | (simp [stoO, stoR, parR, Option.bind]) | (unfold eqD eqOk; simp [scalD, PyData.eqv]) | (unfold neD eqOk; simp [scalD, PyData.eqv])
@[simp] theorem q_isBx_2 (o : Bool) (b : Bx) : isBx (.box o b) = true := by first | rfl | (cases a with | none => rfl | some a => cases a <;> rfl) | (simp [stoO, stoR, parR, Option.bind]) | (unfold eqD eqOk; simp [scalD, PyData.eqv]) | (unfold neD eqOk; simp [scalD, PyData.eqv])
@[simp] theorem q_outAs_1 (ρ : En) (i : Nat) : outAs ρ [] i = some [] := by first | rfl | (cases a with | none => rfl | some a => cases a <;> rfl) | (simp [stoO, stoR, parR, Option.bind]) | (unfold eqD eqOk; simp [scalD, PyData.eqv]) | (unfold neD eqOk; simp [scalD, PyData.eqv])
@[simp] theorem q_outAs_2 (ρ : En) (a : A) (as : List A) (i : Nat) : outAs ρ (a :: as) i = ((outA a ρ[i]?).bind fun x => (outAs ρ as (i + 1)).map fun xs => x :: xs) := by first | rfl | (cases a with | none => rfl | some a => cases a <;> rfl) | (simp [stoO, stoR, parR, Option.bind]) | (unfold eqD eqOk; simp [scalD, PyData.eqv]) | (unfold neD eqOk; simp [scalD, PyData.eqv])
@[simp] theorem q_outA_1 (d : D) (x : Option (Option A)) : outA (.dat d) x = some (.dat d) := by first | rfl | (cases a with | none => rfl | some a => cases a <;> rfl) | (simp [stoO, stoR, parR, Option.bind]) | (unfold eqD eqOk; simp [scalD, PyData.eqv]) | (unfold neD eqOk; simp [scalD, PyData.eqv])
@[simp] theorem q_outA_2 (o : Bool) (b b' : Bx) : outA (.box o b) (some (some (.box false b'))) = some (.box false b') := by first | rfl | (cases a with | none => rfl | some a => cases a <;> rfl) | (simp [stoO, stoR, parR, Option.bind]) | (unfold eqD eqOk; simp [scalD, PyData.eqv]) | (unfold neD eqOk; simp [scalD, PyData.eqv])
@[simp] theorem q_intR_1 (ρ : En) (i : Int) : intR ρ (.dat (.int i)) = some i := by first | rfl | (cases a with | none => rfl | some a => cases a <;> rfl) | (simp [stoO, stoR, parR, Option.bind]) | (unfold eqD eqOk; simp [scalD, PyData.eqv]) | (unfold neD eqOk; simp [scalD, PyData.eqv])
@[simp] theorem q_tyD_1 (T : String) (xs : List D) : tyD T (.list xs) = (T == "list") := by first | rfl | (cases a with | none => rfl | some a => cases a <;> rfl) | (simp [stoO, stoR, parR, Option.bind]) | (unfold eqD eqOk; simp [scalD, PyData.eqv]) | (unfold neD eqOk; simp [scalD, PyData.eqv])
@[simp] theorem q_tyD_2 (T : String) (xs : List (D × D)) : tyD T (.dict xs) = (T == "dict") := by first | rfl | (cases a with | none => rfl | some a => cases a <;> rfl) | (simp [stoO, stoR, parR, Option.bind]) | (unfold eqD eqOk; simp [scalD, PyData.eqv]) | (unfold neD eqOk; simp [scalD, PyData.eqv])
@[simp] theorem q_tyD_3 (T : String) (x : Str) : tyD T (.str x) = (T == "str") := by first | rfl | (cases a with | none => rfl | some a => cases a <;> rfl) | (simp [stoO, stoR, parR, Option.bind]) | (unfold eqD eqOk; simp [scalD, PyData.eqv]) | (unfold neD eqOk; simp [scalD, PyData.eqv])
@[simp] theorem q_wipeE_1 (ρ : En) : wipeE ρ [] = ρ := by first | rfl | (cases a with | none => rfl | some a => cases a <;> rfl) | (simp [stoO, stoR, parR, Option.bind]) | (unfold eqD eqOk; simp [scalD, PyData.eqv]) | (unfold neD eqOk; simp [scalD, PyData.eqv])
@[simp] theorem q_wipeE_2 (ρ : En) (v : Nat) (vs : List Nat) : wipeE ρ (v :: vs) = (wipeE ρ vs).set v none := by first | rfl | (cases a with | none => rfl | some a => cases a <;> rfl) | (simp [stoO, stoR, parR, Option.bind]) | (unfold eqD eqOk; simp [scalD, PyData.eqv]) | (unfold neD eqOk; simp [scalD, PyData.eqv])
@[simp] theorem q_keyD_1 (i : Int) : keyD (.int i) = some (.inl i) := by first | rfl | (cases a with | none => rfl | some a => cases a <;> rfl) | (simp [stoO, stoR, parR, Option.bind]) | (unfold eqD eqOk; simp [scalD, PyData.eqv]) | (unfold neD eqOk; simp [scalD, PyData.eqv])
@[simp] theorem q_keyD_2 (x : Str) : keyD (.str x) = some (.inr x) := by first | rfl | (cases a with | none => rfl | some a => cases a <;> rfl) | (simp [stoO, stoR, parR, Option.bind]) | (unfold eqD eqOk; simp [scalD, PyData.eqv]) | (unfold neD eqOk; simp [scalD, PyData.eqv])
@[simp] theorem q_ltD_1 (i j : Int) : ltD (.int i) (.int j) = some (.dat (.bool (decide (i < j)))) := by first | rfl | (cases a with | none => rfl | some a => cases a <;> rfl) | (simp [stoO, stoR, parR, Option.bind]) | (unfold eqD eqOk; simp [scalD, PyData.eqv]) | (unfold neD eqOk; simp [scalD, PyData.eqv])
@[simp] theorem q_leD_1 (i j : Int) : leD (.int i) (.int j) = some (.dat (.bool (decide (i ≤ j)))) := by first | rfl | (cases a with | none => rfl | some a => cases a <;> rfl) | (simp [stoO, stoR, parR, Option.bind]) | (unfold eqD eqOk; simp [scalD, PyData.eqv]) | (unfold neD eqOk; simp [scalD, PyData.eqv])
@[simp] theorem q_gtD_1 (i j : Int) : gtD (.int i) (.int j) = some (.dat (.bool (decide (j < i)))) := by first | rfl | (cases a with | none => rfl | some a => cases a <;> rfl) | (simp [stoO, stoR, parR, Option.bind]) | (unfold eqD eqOk; simp [scalD, PyData.eqv]) | (unfold neD eqOk; simp [scalD, PyData.eqv])
@[simp] theorem q_geD_1 (i j : Int) : geD (.int i) (.int j) = some (.dat (.bool (decide (j ≤ i)))) := by first | rfl | (cases a with | none => rfl | some a => cases a <;> rfl) | (simp [stoO, stoR, parR, Option.bind]) | (unfold eqD eqOk; simp [scalD, PyData.eqv]) | (unfold neD eqOk; simp [scalD, PyData.eqv])
@[simp] theorem q_addD_1 (i j : Int) : addD (.int i) (.int j) = some (.dat (.int (i + j))) := by first | rfl | (cases a with | none => rfl | some a => cases a <;> rfl) | (simp [stoO, stoR, parR, Option.bind]) | (unfold eqD eqOk; simp [scalD, PyData.eqv]) | (unfold neD eqOk; simp [scalD, PyData.eqv])
@[simp] theorem q_addI_1 (i j : Int) : addI (.int i) (.int j) = some (.dat (.int (i + j))) := by first | rfl | (cases a with | none => rfl | some a => cases a <;> rfl) | (simp [stoO, stoR, parR, Option.bind]) | (unfold eqD eqOk; simp [scalD, PyData.eqv]) | (unfold neD eqOk; simp [scalD, PyData.eqv])
@[simp] theorem q_subD_1 (i j : Int) : subD (.int i) (.int j) = some (.dat (.int (i - j))) := by first | rfl | (cases a with | none => rfl | some a => cases a <;> rfl) | (simp [stoO, stoR, parR, Option.bind]) | (unfold eqD eqOk; simp [scalD, PyData.eqv]) | (unfold neD eqOk; simp [scalD, PyData.eqv])
@[simp] theorem q_negD_1 (i : Int) : negD (.int i) = some (.dat (.int (-i))) := by first | rfl | (cases a with | none => rfl | some a => cases a <;> rfl) | (simp [stoO, stoR, parR, Option.bind]) | (unfold eqD eqOk; simp [scalD, PyData.eqv]) | (unfold neD eqOk; simp [scalD, PyData.eqv])
@[simp] theorem q_eqD_1 (i j : Int) : eqD (.int i) (.int j) = some (.dat (.bool (i == j))) := by first | rfl | (cases a with | none => rfl | some a => cases a <;> rfl) | (simp [stoO, stoR, parR, Option.bind]) | (unfold eqD eqOk; simp [scalD, PyData.eqv]) | (unfold neD eqOk; simp [scalD, PyData.eqv])
@[simp] theorem q_neD_1 (i j : Int) : neD (.int i) (.int j) = some (.dat (.bool (!(i == j)))) := by first | rfl | (cases a with | none => rfl | some a => cases a <;> rfl) | (simp [stoO, stoR, parR, Option.bind]) | (unfold eqD eqOk; simp [scalD, PyData.eqv]) | (unfold neD eqOk; simp [scalD, PyData.eqv])
@[simp] theorem q_eqD_2 (i j : Str) : eqD (.str i) (.str j) = some (.dat (.bool (i == j))) := by first | rfl | (cases a with | none => rfl | some a => cases a <;> rfl) | (simp [stoO, stoR, parR, Option.bind]) | (unfold eqD eqOk; simp [scalD, PyData.eqv]) | (unfold neD eqOk; simp [scalD, PyData.eqv])
@[simp] theorem q_neD_2 (i j : Str) : neD (.str i) (.str j) = some (.dat (.bool (!(i == j)))) := by first | rfl | (cases a with | none => rfl | some a => cases a <;> rfl) | (simp [stoO, stoR, parR, Option.bind]) | (unfold eqD eqOk; simp [scalD, PyData.eqv]) | (unfold neD eqOk; simp [scalD, PyData.eqv])
@[simp] theorem q_isD_1 (d : D) : isD d .none = some (.dat (.bool (isNoD d))) := by first | rfl | (cases a with | none => rfl | some a => cases a <;> rfl) | (simp [stoO, stoR, parR, Option.bind]) | (unfold eqD eqOk; simp [scalD, PyData.eqv]) | (unfold neD eqOk; simp [scalD, PyData.eqv])
@[simp] theorem q_isNotD_1 (d : D) : isNotD d .none = some (.dat (.bool (!isNoD d))) := by first | rfl | (cases a with | none => rfl | some a => cases a <;> rfl) | (simp [stoO, stoR, parR, Option.bind]) | (unfold eqD eqOk; simp [scalD, PyData.eqv]) | (unfold neD eqOk; simp [scalD, PyData.eqv])
@[simp] theorem q_ixD_1 (ds : List D) (i : Int) : ixD (.list ds) (.int i) = ((L2.atI ds i).bind fun d => some (.dat d)) := by first | rfl | (cases a with | none => rfl | some a => cases a <;> rfl) | (simp [stoO, stoR, parR, Option.bind]) | (unfold eqD eqOk; simp [scalD, PyData.eqv]) | (unfold neD eqOk; simp [scalD, PyData.eqv])
@[simp] theorem q_ixD_2 (ds : List D) (i : Int) : ixD (.tuple ds) (.int i) = ((L2.atI ds i).bind fun d => some (.dat d)) := by first | rfl | (cases a with | none => rfl | some a => cases a <;> rfl) | (simp [stoO, stoR, parR, Option.bind]) | (unfold eqD eqOk; simp [scalD, PyData.eqv]) | (unfold neD eqOk; simp [scalD, PyData.eqv])
@[simp] theorem q_ixD_3 (kvs : List (D × D)) (k : Str) : ixD (.dict kvs) (.str k) = ((valD kvs (.inr k)).bind fun d => some (.dat d)) := by first | rfl | (cases a with | none => rfl | some a => cases a <;> rfl) | (simp [stoO, stoR, parR, Option.bind]) | (unfold eqD eqOk; simp [scalD, PyData.eqv]) | (unfold neD eqOk; simp [scalD, PyData.eqv])
@[simp] theorem q_getD_1 (kvs : List (D × D)) (k : Str) (i : Int) : getD (.dict kvs) [.str k, .int i] = some (.dat ((valD kvs (.inr k)).getD (.int i))) := by first | rfl | (cases a with | none => rfl | some a => cases a <;> rfl) | (simp [stoO, stoR, parR, Option.bind]) | (unfold eqD eqOk; simp [scalD, PyData.eqv]) | (unfold neD eqOk; simp [scalD, PyData.eqv])
@[simp] theorem q_getD_2 (kvs : List (D × D)) (k : Str) (i : Bool) : getD (.dict kvs) [.str k, .bool i] = some (.dat ((valD kvs (.inr k)).getD (.bool i))) := by first | rfl | (cases a with | none => rfl | some a => cases a <;> rfl) | (simp [stoO, stoR, parR, Option.bind]) | (unfold eqD eqOk; simp [scalD, PyData.eqv]) | (unfold neD eqOk; simp [scalD, PyData.eqv])
@[simp] theorem q_getD_3 (kvs : List (D × D)) (i : Bool) : getD (.dict kvs) [.none, .bool i] = some (.dat (.bool i)) := by first | rfl | (cases a with | none => rfl | some a => cases a <;> rfl) | (simp [stoO, stoR, parR, Option.bind]) | (unfold eqD eqOk; simp [scalD, PyData.eqv]) | (unfold neD eqOk; simp [scalD, PyData.eqv])
@[simp] theorem q_slD_1 (ds : List D) (lo hi : Option Int) : slD (.list ds) lo hi = some (.new (.lst (cutL ds lo hi))) := by first | rfl | (cases a with | none => rfl | some a => cases a <;> rfl) | (simp [stoO, stoR, parR, Option.bind]) | (unfold eqD eqOk; simp [scalD, PyData.eqv]) | (unfold neD eqOk; simp [scalD, PyData.eqv])
@[simp] theorem q_slD_2 (ds : List D) (lo hi : Option Int) : slD (.tuple ds) lo hi = some (.dat (.tuple (cutL ds lo hi))) := by first | rfl | (cases a with | none => rfl | some a => cases a <;> rfl) | (simp [stoO, stoR, parR, Option.bind]) | (unfold eqD eqOk; simp [scalD, PyData.eqv]) | (unfold neD eqOk; simp [scalD, PyData.eqv])
@[simp] theorem q_lenD_1 (ds : List D) : lenD [.list ds] = some (.dat (.int ds.length)) := by first | rfl | (cases a with | none => rfl | some a => cases a <;> rfl) | (simp [stoO, stoR, parR, Option.bind]) | (unfold eqD eqOk; simp [scalD, PyData.eqv]) | (unfold neD eqOk; simp [scalD, PyData.eqv])
@[simp] theorem q_lenD_2 (ds : List D) : lenD [.tuple ds] = some (.dat (.int ds.length)) := by first | rfl | (cases a with | none => rfl | some a => cases a <;> rfl) | (simp [stoO, stoR, parR, Option.bind]) | (unfold eqD eqOk; simp [scalD, PyData.eqv]) | (unfold neD eqOk; simp [scalD, PyData.eqv])
@[simp] theorem q_lenD_3 (ds : List (D × D)) : lenD [.dict ds] = some (.dat (.int ds.length)) := by first | rfl | (cases a with | none => rfl | some a => cases a <;> rfl) | (simp [stoO, stoR, parR, Option.bind]) | (unfold eqD eqOk; simp [scalD, PyData.eqv]) | (unfold neD eqOk; simp [scalD, PyData.eqv])
@[simp] theorem q_tupleD_1 (ds : List D) : tupleD [.list ds] = some (.dat (.tuple ds)) := by first | rfl | (cases a with | none => rfl | some a => cases a <;> rfl) | (simp [stoO, stoR, parR, Option.bind]) | (unfold eqD eqOk; simp [scalD, PyData.eqv]) | (unfold neD eqOk; simp [scalD, PyData.eqv])
@[simp] theorem q_tupleD_2 (ds : List D) : tupleD [.tuple ds] = some (.dat (.tuple ds)) := by first | rfl | (cases a with | none => rfl | some a => cases a <;> rfl) | (simp [stoO, stoR, parR, Option.bind]) | (unfold eqD eqOk; simp [scalD, PyData.eqv]) | (unfold neD eqOk; simp [scalD, PyData.eqv])
@[simp] theorem q_listD_1 (ds : List D) : listD [.list ds] = some (.new (.lst ds)) := by first | rfl | (cases a with | none => rfl | some a => cases a <;> rfl) | (simp [stoO, stoR, parR, Option.bind]) | (unfold eqD eqOk; simp [scalD, PyData.eqv]) | (unfold neD eqOk; simp [scalD, PyData.eqv])
@[simp] theorem q_listD_2 (ds : List D) : listD [.tuple ds] = some (.new (.lst ds)) := by first | rfl | (cases a with | none => rfl | some a => cases a <;> rfl) | (simp [stoO, stoR, parR, Option.bind]) | (unfold eqD eqOk; simp [scalD, PyData.eqv]) | (unfold neD eqOk; simp [scalD, PyData.eqv])
@[simp] theorem q_listD_3 (kvs : List (D × D)) : listD [.dict kvs] = some (.new (.lst (kvs.map (·.1)))) := by first | rfl | (cases a with | none => rfl | some a => cases a <;> rfl) | (simp [stoO, stoR, parR, Option.bind]) | (unfold eqD eqOk; simp [scalD, PyData.eqv]) | (unfold neD eqOk; simp [scalD, PyData.eqv])
@[simp] theorem q_intD_1 (i : Int) : intD [.int i] = some (.dat (.int i)) := by first | rfl | (cases a with | none => rfl | some a => cases a <;> rfl) | (simp [stoO, stoR, parR, Option.bind]) | (unfold eqD eqOk; simp [scalD, PyData.eqv]) | (unfold neD eqOk; simp [scalD, PyData.eqv])
@[simp] theorem q_absD_1 (i : Int) : absD [.int i] = some (.dat (.int (if i < 0 then -i else i))) := by first | rfl | (cases a with | none => rfl | some a => cases a <;> rfl) | (simp [stoO, stoR, parR, Option.bind]) | (unfold eqD eqOk; simp [scalD, PyData.eqv]) | (unfold neD eqOk; simp [scalD, PyData.eqv])
@[simp] theorem q_max2D_1 (i j : Int) : max2D [.int i, .int j] = some (.dat (.int (if j > i then j else i))) := by first | rfl | (cases a with | none => rfl | some a => cases a <;> rfl) | (simp [stoO, stoR, parR, Option.bind]) | (unfold eqD eqOk; simp [scalD, PyData.eqv]) | (unfold neD eqOk; simp [scalD, PyData.eqv])
@[simp] theorem q_backA_1 (a : Option A) : backA none a = a := by first | rfl | (cases a with | none => rfl | some a => cases a <;> rfl) | (simp [stoO, stoR, parR, Option.bind]) | (unfold eqD eqOk; simp [scalD, PyData.eqv]) | (unfold neD eqOk; simp [scalD, PyData.eqv])
@[simp] theorem q_backA_2 (o : Bool) (b c : Bx) : backA (some c) (some (.box o b)) = some (.box o c) := by first | rfl | (cases a with | none => rfl | some a => cases a <;> rfl) | (simp [stoO, stoR, parR, Option.bind]) | (unfold eqD eqOk; simp [scalD, PyData.eqv]) | (unfold neD eqOk; simp [scalD, PyData.eqv])
@[simp] theorem q_min2D_1 (i j : Int) : min2D [.int i, .int j] = some (.dat (.int (if j < i then j else i))) := by first | rfl | (cases a with | none => rfl | some a => cases a <;> rfl) | (simp [stoO, stoR, parR, Option.bind]) | (unfold eqD eqOk; simp [scalD, PyData.eqv]) | (unfold neD eqOk; simp [scalD, PyData.eqv])
end L3

namespace L3
open PySem
def fzA (i : Nat) (rs : List R) (ρ : En) : Option A → Option (List D × En)
  | some (.dat d) => (fzs ρ rs).map fun x => (d :: x.1, x.2)
  | some (.box true b) => (fzs (ρ.set i (some (.dat b.dat))) rs).map fun x => (b.dat :: x.1, x.2)
  | _ => none
@[simp] theorem qq_fzs_ref (i : Nat) (rs : List R) (ρ : En) : fzs ρ (.ref i :: rs) = fzA i rs ρ ρ[i]?.join := by
  show ((ρ[i]?.join).bind _) = _
  cases ρ[i]?.join with
  | none => rfl
  | some a => cases a with
    | dat d => rfl
    | box o b => cases o <;> rfl

def k_misi_1 (T : String) (ρ1 : En) : Option (D) → Option (R × En)
  | some d => some (.dat (.bool (isTy T d)), ρ1)
  | none => none
@[simp] theorem kk_misi_1 (T : String) (ρ1 : En) (d : D) : k_misi_1 T ρ1 (some d) = (some (.dat (.bool (isTy T d)), ρ1)) := rfl
def k_misi_0 (T : String) : Option (R × En) → Option (R × En)
  | some (x, ρ1) => k_misi_1 T ρ1 (x.fz.vw ρ1)
  | none => none
@[simp] theorem kk_misi_0 (T : String) (x : R) (ρ1 : En) : k_misi_0 T (some (x, ρ1)) = (k_misi_1 T ρ1 (x.fz.vw ρ1)) := rfl
@[simp] theorem ev_misi (T : String) (m : ME) (ρ : En) : misi T m ρ = k_misi_0 T (m ρ) := by
  unfold misi
  cases h0 : m ρ with
  | none => simp only [Option.bind, Option.map, h0, k_misi_0, k_misi_1]
  | some p0 =>
    obtain ⟨x, ρ1⟩ := p0
    cases h1 : x.fz.vw ρ1 with
    | none => simp only [Option.bind, Option.map, h0, h1, k_misi_0, k_misi_1]
    | some d =>
      simp only [Option.bind, Option.map, h0, h1, k_misi_0, k_misi_1]
def k_mnotV_2 (ρ1 : En) : Option (Bool) → Option (R × En)
  | some c => some (.dat (.bool (!c)), ρ1)
  | none => none
@[simp] theorem kk_mnotV_2 (ρ1 : En) (c : Bool) : k_mnotV_2 ρ1 (some c) = (some (.dat (.bool (!c)), ρ1)) := rfl
def k_mnotV_1 (ρ1 : En) : Option (D) → Option (R × En)
  | some d => k_mnotV_2 ρ1 (truD d)
  | none => none
@[simp] theorem kk_mnotV_1 (ρ1 : En) (d : D) : k_mnotV_1 ρ1 (some d) = (k_mnotV_2 ρ1 (truD d)) := rfl
def k_mnotV_0  : Option (R × En) → Option (R × En)
  | some (x, ρ1) => k_mnotV_1 ρ1 (x.fz.vw ρ1)
  | none => none
@[simp] theorem kk_mnotV_0 (x : R) (ρ1 : En) : k_mnotV_0  (some (x, ρ1)) = (k_mnotV_1 ρ1 (x.fz.vw ρ1)) := rfl
@[simp] theorem ev_mnotV (m : ME) (ρ : En) : mnotV m ρ = k_mnotV_0  (m ρ) := by
  unfold mnotV
  cases h0 : m ρ with
  | none => simp only [Option.bind, Option.map, h0, k_mnotV_0, k_mnotV_1, k_mnotV_2]
  | some p0 =>
    obtain ⟨x, ρ1⟩ := p0
    cases h1 : x.fz.vw ρ1 with
    | none => simp only [Option.bind, Option.map, h0, h1, k_mnotV_0, k_mnotV_1, k_mnotV_2]
    | some d =>
      cases h2 : truD d with
      | none => simp only [Option.bind, Option.map, h0, h1, h2, k_mnotV_0, k_mnotV_1, k_mnotV_2]
      | some c =>
        simp only [Option.bind, Option.map, h0, h1, h2, k_mnotV_0, k_mnotV_1, k_mnotV_2]
def k_mrevT_2 (ρ1 : En) : Option (R) → Option (R × En)
  | some r => some (r, ρ1)
  | none => none
@[simp] theorem kk_mrevT_2 (ρ1 : En) (r : R) : k_mrevT_2 ρ1 (some r) = (some (r, ρ1)) := rfl
def k_mrevT_1 (ρ1 : En) : Option (D) → Option (R × En)
  | some d => k_mrevT_2 ρ1 (revTD d)
  | none => none
@[simp] theorem kk_mrevT_1 (ρ1 : En) (d : D) : k_mrevT_1 ρ1 (some d) = (k_mrevT_2 ρ1 (revTD d)) := rfl
def k_mrevT_0  : Option (R × En) → Option (R × En)
  | some (x, ρ1) => k_mrevT_1 ρ1 (x.fz.vw ρ1)
  | none => none
@[simp] theorem kk_mrevT_0 (x : R) (ρ1 : En) : k_mrevT_0  (some (x, ρ1)) = (k_mrevT_1 ρ1 (x.fz.vw ρ1)) := rfl
@[simp] theorem ev_mrevT (m : ME) (ρ : En) : mrevT m ρ = k_mrevT_0  (m ρ) := by
  unfold mrevT
  cases h0 : m ρ with
  | none => simp only [Option.bind, Option.map, h0, k_mrevT_0, k_mrevT_1, k_mrevT_2]
  | some p0 =>
    obtain ⟨x, ρ1⟩ := p0
    cases h1 : x.fz.vw ρ1 with
    | none => simp only [Option.bind, Option.map, h0, h1, k_mrevT_0, k_mrevT_1, k_mrevT_2]
    | some d =>
      cases h2 : revTD d with
      | none => simp only [Option.bind, Option.map, h0, h1, h2, k_mrevT_0, k_mrevT_1, k_mrevT_2]
      | some r =>
        simp only [Option.bind, Option.map, h0, h1, h2, k_mrevT_0, k_mrevT_1, k_mrevT_2]
def k_mfz_2 (ρ2 : En) : Option (D) → Option (R × En)
  | some d => some (.dat d, ρ2)
  | none => none
@[simp] theorem kk_mfz_2 (ρ2 : En) (d : D) : k_mfz_2 ρ2 (some d) = (some (.dat d, ρ2)) := rfl
def k_mfz_1  : Option (List D × En) → Option (R × En)
  | some (ds, ρ2) => k_mfz_2 ρ2 (oneOf ds)
  | none => none
@[simp] theorem kk_mfz_1 (ds : List D) (ρ2 : En) : k_mfz_1  (some (ds, ρ2)) = (k_mfz_2 ρ2 (oneOf ds)) := rfl
def k_mfz_0  : Option (R × En) → Option (R × En)
  | some (x, ρ1) => k_mfz_1  (fzs ρ1 [x.fz])
  | none => none
@[simp] theorem kk_mfz_0 (x : R) (ρ1 : En) : k_mfz_0  (some (x, ρ1)) = (k_mfz_1  (fzs ρ1 [x.fz])) := rfl
@[simp] theorem ev_mfz (m : ME) (ρ : En) : mfz m ρ = k_mfz_0  (m ρ) := by
  unfold mfz
  cases h0 : m ρ with
  | none => simp only [Option.bind, Option.map, h0, k_mfz_0, k_mfz_1, k_mfz_2]
  | some p0 =>
    obtain ⟨x, ρ1⟩ := p0
    cases h1 : fzs ρ1 [x.fz] with
    | none => simp only [Option.bind, Option.map, h0, h1, k_mfz_0, k_mfz_1, k_mfz_2]
    | some p1 =>
      obtain ⟨ds, ρ2⟩ := p1
      cases h2 : oneOf ds with
      | none => simp only [Option.bind, Option.map, h0, h1, h2, k_mfz_0, k_mfz_1, k_mfz_2]
      | some d =>
        simp only [Option.bind, Option.map, h0, h1, h2, k_mfz_0, k_mfz_1, k_mfz_2]
def k_mienum_1  : Option (List D × En) → Option (It3 × En)
  | some (ds, ρ2) => enumT ρ2 ds
  | none => none
@[simp] theorem kk_mienum_1 (ds : List D) (ρ2 : En) : k_mienum_1  (some (ds, ρ2)) = (enumT ρ2 ds) := rfl
def k_mienum_0  : Option (List R × En) → Option (It3 × En)
  | some (rs, ρ1) => k_mienum_1  (fzs ρ1 rs)
  | none => none
@[simp] theorem kk_mienum_0 (rs : List R) (ρ1 : En) : k_mienum_0  (some (rs, ρ1)) = (k_mienum_1  (fzs ρ1 rs)) := rfl
@[simp] theorem ev_mienum (ms : MA) (ρ : En) : mienum ms ρ = k_mienum_0  (ms ρ) := by
  unfold mienum
  cases h0 : ms ρ with
  | none => simp only [Option.bind, Option.map, h0, k_mienum_0, k_mienum_1]
  | some p0 =>
    obtain ⟨rs, ρ1⟩ := p0
    cases h1 : fzs ρ1 rs with
    | none => simp only [Option.bind, Option.map, h0, h1, k_mienum_0, k_mienum_1]
    | some p1 =>
      obtain ⟨ds, ρ2⟩ := p1
      simp only [Option.bind, Option.map, h0, h1, k_mienum_0, k_mienum_1]
def k_mizip_1  : Option (List D × En) → Option (It3 × En)
  | some (ds, ρ2) => zipT ρ2 ds
  | none => none
@[simp] theorem kk_mizip_1 (ds : List D) (ρ2 : En) : k_mizip_1  (some (ds, ρ2)) = (zipT ρ2 ds) := rfl
def k_mizip_0  : Option (List R × En) → Option (It3 × En)
  | some (rs, ρ1) => k_mizip_1  (fzs ρ1 rs)
  | none => none
@[simp] theorem kk_mizip_0 (rs : List R) (ρ1 : En) : k_mizip_0  (some (rs, ρ1)) = (k_mizip_1  (fzs ρ1 rs)) := rfl
@[simp] theorem ev_mizip (ms : MA) (ρ : En) : mizip ms ρ = k_mizip_0  (ms ρ) := by
  unfold mizip
  cases h0 : ms ρ with
  | none => simp only [Option.bind, Option.map, h0, k_mizip_0, k_mizip_1]
  | some p0 =>
    obtain ⟨rs, ρ1⟩ := p0
    cases h1 : fzs ρ1 rs with
    | none => simp only [Option.bind, Option.map, h0, h1, k_mizip_0, k_mizip_1]
    | some p1 =>
      obtain ⟨ds, ρ2⟩ := p1
      simp only [Option.bind, Option.map, h0, h1, k_mizip_0, k_mizip_1]
@[simp] theorem qq_isTy_1  : isTy "tuple" (.none) = false := by first | rfl | (cases a with | none => rfl | some a => cases a <;> rfl) | (simp [stoO, stoR, parR, Option.bind]) | (unfold eqD eqOk; simp [scalD, PyData.eqv]) | (unfold neD eqOk; simp [scalD, PyData.eqv])
@[simp] theorem qq_isTy_2 (b : Bool) : isTy "tuple" (.bool b) = false := by first | rfl | (cases a with | none => rfl | some a => cases a <;> rfl) | (simp [stoO, stoR, parR, Option.bind]) | (unfold eqD eqOk; simp [scalD, PyData.eqv]) | (unfold neD eqOk; simp [scalD, PyData.eqv])
@[simp] theorem qq_isTy_3 (i : Int) : isTy "tuple" (.int i) = false := by first | rfl | (cases a with | none => rfl | some a => cases a <;> rfl) | (simp [stoO, stoR, parR, Option.bind]) | (unfold eqD eqOk; simp [scalD, PyData.eqv]) | (unfold neD eqOk; simp [scalD, PyData.eqv])
@[simp] theorem qq_isTy_4 (x : Str) : isTy "tuple" (.str x) = false := by first | rfl | (cases a with | none => rfl | some a => cases a <;> rfl) | (simp [stoO, stoR, parR, Option.bind]) | (unfold eqD eqOk; simp [scalD, PyData.eqv]) | (unfold neD eqOk; simp [scalD, PyData.eqv])
@[simp] theorem qq_isTy_5 (ds : List D) : isTy "tuple" (.list ds) = false := by first | rfl | (cases a with | none => rfl | some a => cases a <;> rfl) | (simp [stoO, stoR, parR, Option.bind]) | (unfold eqD eqOk; simp [scalD, PyData.eqv]) | (unfold neD eqOk; simp [scalD, PyData.eqv])
@[simp] theorem qq_isTy_6 (ds : List D) : isTy "tuple" (.tuple ds) = true := by first | rfl | (cases a with | none => rfl | some a => cases a <;> rfl) | (simp [stoO, stoR, parR, Option.bind]) | (unfold eqD eqOk; simp [scalD, PyData.eqv]) | (unfold neD eqOk; simp [scalD, PyData.eqv])
@[simp] theorem qq_isTy_7 (ks : List (D × D)) : isTy "tuple" (.dict ks) = false := by first | rfl | (cases a with | none => rfl | some a => cases a <;> rfl) | (simp [stoO, stoR, parR, Option.bind]) | (unfold eqD eqOk; simp [scalD, PyData.eqv]) | (unfold neD eqOk; simp [scalD, PyData.eqv])
@[simp] theorem qq_isTy_8  : isTy "str" (.none) = false := by first | rfl | (cases a with | none => rfl | some a => cases a <;> rfl) | (simp [stoO, stoR, parR, Option.bind]) | (unfold eqD eqOk; simp [scalD, PyData.eqv]) | (unfold neD eqOk; simp [scalD, PyData.eqv])
@[simp] theorem qq_isTy_9 (b : Bool) : isTy "str" (.bool b) = false := by first | rfl | (cases a with | none => rfl | some a => cases a <;> rfl) | (simp [stoO, stoR, parR, Option.bind]) | (unfold eqD eqOk; simp [scalD, PyData.eqv]) | (unfold neD eqOk; simp [scalD, PyData.eqv])
@[simp] theorem qq_isTy_10 (i : Int) : isTy "str" (.int i) = false := by first | rfl | (cases a with | none => rfl | some a => cases a <;> rfl) | (simp [stoO, stoR, parR, Option.bind]) | (unfold eqD eqOk; simp [scalD, PyData.eqv]) | (unfold neD eqOk; simp [scalD, PyData.eqv])
@[simp] theorem qq_isTy_11 (x : Str) : isTy "str" (.str x) = true := by first | rfl | (cases a with | none => rfl | some a => cases a <;> rfl) | (simp [stoO, stoR, parR, Option.bind]) | (unfold eqD eqOk; simp [scalD, PyData.eqv]) | (unfold neD eqOk; simp [scalD, PyData.eqv])
@[simp] theorem qq_isTy_12 (ds : List D) : isTy "str" (.list ds) = false := by first | rfl | (cases a with | none => rfl | some a => cases a <;> rfl) | (simp [stoO, stoR, parR, Option.bind]) | (unfold eqD eqOk; simp [scalD, PyData.eqv]) | (unfold neD eqOk; simp [scalD, PyData.eqv])
@[simp] theorem qq_isTy_13 (ds : List D) : isTy "str" (.tuple ds) = false := by first | rfl | (cases a with | none => rfl | some a => cases a <;> rfl) | (simp [stoO, stoR, parR, Option.bind]) | (unfold eqD eqOk; simp [scalD, PyData.eqv]) | (unfold neD eqOk; simp [scalD, PyData.eqv])
@[simp] theorem qq_isTy_14 (ks : List (D × D)) : isTy "str" (.dict ks) = false := by first | rfl | (cases a with | none => rfl | some a => cases a <;> rfl) | (simp [stoO, stoR, parR, Option.bind]) | (unfold eqD eqOk; simp [scalD, PyData.eqv]) | (unfold neD eqOk; simp [scalD, PyData.eqv])
@[simp] theorem qq_isTy_15  : isTy "int" (.none) = false := by first | rfl | (cases a with | none => rfl | some a => cases a <;> rfl) | (simp [stoO, stoR, parR, Option.bind]) | (unfold eqD eqOk; simp [scalD, PyData.eqv]) | (unfold neD eqOk; simp [scalD, PyData.eqv])
@[simp] theorem qq_isTy_16 (b : Bool) : isTy "int" (.bool b) = true := by first | rfl | (cases a with | none => rfl | some a => cases a <;> rfl) | (simp [stoO, stoR, parR, Option.bind]) | (unfold eqD eqOk; simp [scalD, PyData.eqv]) | (unfold neD eqOk; simp [scalD, PyData.eqv])
@[simp] theorem qq_isTy_17 (i : Int) : isTy "int" (.int i) = true := by first | rfl | (cases a with | none => rfl | some a => cases a <;> rfl) | (simp [stoO, stoR, parR, Option.bind]) | (unfold eqD eqOk; simp [scalD, PyData.eqv]) | (unfold neD eqOk; simp [scalD, PyData.eqv])
@[simp] theorem qq_isTy_18 (x : Str) : isTy "int" (.str x) = false := by first | rfl | (cases a with | none => rfl | some a => cases a <;> rfl) | (simp [stoO, stoR, parR, Option.bind]) | (unfold eqD eqOk; simp [scalD, PyData.eqv]) | (unfold neD eqOk; simp [scalD, PyData.eqv])
@[simp] theorem qq_isTy_19 (ds : List D) : isTy "int" (.list ds) = false := by first | rfl | (cases a with | none => rfl | some a => cases a <;> rfl) | (simp [stoO, stoR, parR, Option.bind]) | (unfold eqD eqOk; simp [scalD, PyData.eqv]) | (unfold neD eqOk; simp [scalD, PyData.eqv])
@[simp] theorem qq_isTy_20 (ds : List D) : isTy "int" (.tuple ds) = false := by first | rfl | (cases a with | none => rfl | some a => cases a <;> rfl) | (simp [stoO, stoR, parR, Option.bind]) | (unfold eqD eqOk; simp [scalD, PyData.eqv]) | (unfold neD eqOk; simp [scalD, PyData.eqv])
@[simp] theorem qq_isTy_21 (ks : List (D × D)) : isTy "int" (.dict ks) = false := by first | rfl | (cases a with | none => rfl | some a => cases a <;> rfl) | (simp [stoO, stoR, parR, Option.bind]) | (unfold eqD eqOk; simp [scalD, PyData.eqv]) | (unfold neD eqOk; simp [scalD, PyData.eqv])
@[simp] theorem qq_isTy_22  : isTy "bool" (.none) = false := by first | rfl | (cases a with | none => rfl | some a => cases a <;> rfl) | (simp [stoO, stoR, parR, Option.bind]) | (unfold eqD eqOk; simp [scalD, PyData.eqv]) | (unfold neD eqOk; simp [scalD, PyData.eqv])
@[simp] theorem qq_isTy_23 (b : Bool) : isTy "bool" (.bool b) = true := by first | rfl | (cases a with | none => rfl | some a => cases a <;> rfl) | (simp [stoO, stoR, parR, Option.bind]) | (unfold eqD eqOk; simp [scalD, PyData.eqv]) | (unfold neD eqOk; simp [scalD, PyData.eqv])
@[simp] theorem qq_isTy_24 (i : Int) : isTy "bool" (.int i) = false := by first | rfl | (cases a with | none => rfl | some a => cases a <;> rfl) | (simp [stoO, stoR, parR, Option.bind]) | (unfold eqD eqOk; simp [scalD, PyData.eqv]) | (unfold neD eqOk; simp [scalD, PyData.eqv])
@[simp] theorem qq_isTy_25 (x : Str) : isTy "bool" (.str x) = false := by first | rfl | (cases a with | none => rfl | some a => cases a <;> rfl) | (simp [stoO, stoR, parR, Option.bind]) | (unfold eqD eqOk; simp [scalD, PyData.eqv]) | (unfold neD eqOk; simp [scalD, PyData.eqv])
@[simp] theorem qq_isTy_26 (ds : List D) : isTy "bool" (.list ds) = false := by first | rfl | (cases a with | none => rfl | some a => cases a <;> rfl) | (simp [stoO, stoR, parR, Option.bind]) | (unfold eqD eqOk; simp [scalD, PyData.eqv]) | (unfold neD eqOk; simp [scalD, PyData.eqv])
@[simp] theorem qq_isTy_27 (ds : List D) : isTy "bool" (.tuple ds) = false := by first | rfl | (cases a with | none => rfl | some a => cases a <;> rfl) | (simp [stoO, stoR, parR, Option.bind]) | (unfold eqD eqOk; simp [scalD, PyData.eqv]) | (unfold neD eqOk; simp [scalD, PyData.eqv])
@[simp] theorem qq_isTy_28 (ks : List (D × D)) : isTy "bool" (.dict ks) = false := by first | rfl | (cases a with | none => rfl | some a => cases a <;> rfl) | (simp [stoO, stoR, parR, Option.bind]) | (unfold eqD eqOk; simp [scalD, PyData.eqv]) | (unfold neD eqOk; simp [scalD, PyData.eqv])
@[simp] theorem qq_enumT_1 (ρ : En) (ds : List D) : enumT ρ [.tuple ds] = some (.items (enumD ds), ρ) := by first | rfl | (cases a with | none => rfl | some a => cases a <;> rfl) | (simp [stoO, stoR, parR, Option.bind]) | (unfold eqD eqOk; simp [scalD, PyData.eqv]) | (unfold neD eqOk; simp [scalD, PyData.eqv])
@[simp] theorem qq_enumT_2 (ρ : En) (ds : List D) : enumT ρ [.list ds] = some (.items (enumD ds), ρ) := by first | rfl | (cases a with | none => rfl | some a => cases a <;> rfl) | (simp [stoO, stoR, parR, Option.bind]) | (unfold eqD eqOk; simp [scalD, PyData.eqv]) | (unfold neD eqOk; simp [scalD, PyData.eqv])
@[simp] theorem qq_zipT_1 (ρ : En) (ds es : List D) : zipT ρ [.tuple ds, .tuple es] = some (.items (zipD ds es), ρ) := by first | rfl | (cases a with | none => rfl | some a => cases a <;> rfl) | (simp [stoO, stoR, parR, Option.bind]) | (unfold eqD eqOk; simp [scalD, PyData.eqv]) | (unfold neD eqOk; simp [scalD, PyData.eqv])
@[simp] theorem qq_zipT_2 (ρ : En) (ds es : List D) : zipT ρ [.list ds, .list es] = some (.items (zipD ds es), ρ) := by first | rfl | (cases a with | none => rfl | some a => cases a <;> rfl) | (simp [stoO, stoR, parR, Option.bind]) | (unfold eqD eqOk; simp [scalD, PyData.eqv]) | (unfold neD eqOk; simp [scalD, PyData.eqv])
@[simp] theorem qq_fzA_1 (i : Nat) (rs : List R) (ρ : En) (d : D) : fzA i rs ρ (some (.dat d)) = ((fzs ρ rs).map fun x => (d :: x.1, x.2)) := by first | rfl | (cases a with | none => rfl | some a => cases a <;> rfl) | (simp [stoO, stoR, parR, Option.bind]) | (unfold eqD eqOk; simp [scalD, PyData.eqv]) | (unfold neD eqOk; simp [scalD, PyData.eqv])
@[simp] theorem qq_fzA_2 (i : Nat) (rs : List R) (ρ : En) (b : Bx) : fzA i rs ρ (some (.box true b)) = ((fzs (ρ.set i (some (.dat b.dat))) rs).map fun x => (b.dat :: x.1, x.2)) := by first | rfl | (cases a with | none => rfl | some a => cases a <;> rfl) | (simp [stoO, stoR, parR, Option.bind]) | (unfold eqD eqOk; simp [scalD, PyData.eqv]) | (unfold neD eqOk; simp [scalD, PyData.eqv])
@[simp] theorem qq_revTD_1 (ds : List D) : revTD (.tuple ds) = some (.dat (.tuple ds.reverse)) := by first | rfl | (cases a with | none => rfl | some a => cases a <;> rfl) | (simp [stoO, stoR, parR, Option.bind]) | (unfold eqD eqOk; simp [scalD, PyData.eqv]) | (unfold neD eqOk; simp [scalD, PyData.eqv])
@[simp] theorem qq_eqD_1 (i j : Bool) : eqD (.bool i) (.bool j) = some (.dat (.bool (i == j))) := by first | rfl | (cases a with | none => rfl | some a => cases a <;> rfl) | (simp [stoO, stoR, parR, Option.bind]) | (unfold eqD eqOk; simp [scalD, PyData.eqv]) | (unfold neD eqOk; simp [scalD, PyData.eqv])
@[simp] theorem qq_neD_1 (i j : Bool) : neD (.bool i) (.bool j) = some (.dat (.bool (!(i == j)))) := by first | rfl | (cases a with | none => rfl | some a => cases a <;> rfl) | (simp [stoO, stoR, parR, Option.bind]) | (unfold eqD eqOk; simp [scalD, PyData.eqv]) | (unfold neD eqOk; simp [scalD, PyData.eqv])
@[simp] theorem qq_ltD_1 (x y : Str) : ltD (.str x) (.str y) = some (.dat (.bool (decide (x.cps.toList < y.cps.toList)))) := by first | rfl | (cases a with | none => rfl | some a => cases a <;> rfl) | (simp [stoO, stoR, parR, Option.bind]) | (unfold eqD eqOk; simp [scalD, PyData.eqv]) | (unfold neD eqOk; simp [scalD, PyData.eqv])
@[simp] theorem qq_geD_1 (x y : Str) : geD (.str x) (.str y) = some (.dat (.bool (!decide (x.cps.toList < y.cps.toList)))) := by first | rfl | (cases a with | none => rfl | some a => cases a <;> rfl) | (simp [stoO, stoR, parR, Option.bind]) | (unfold eqD eqOk; simp [scalD, PyData.eqv]) | (unfold neD eqOk; simp [scalD, PyData.eqv])
@[simp] theorem qq_gtupG_1 (gs : List MG) (ds : List D) (ρ : En) : gtupG gs (.tuple ds) ρ = gseq gs ds ρ := by first | rfl | (cases a with | none => rfl | some a => cases a <;> rfl) | (simp [stoO, stoR, parR, Option.bind]) | (unfold eqD eqOk; simp [scalD, PyData.eqv]) | (unfold neD eqOk; simp [scalD, PyData.eqv])
@[simp] theorem qq_gseq_1 (ρ : En) : gseq [] [] ρ = some ρ := by first | rfl | (cases a with | none => rfl | some a => cases a <;> rfl) | (simp [stoO, stoR, parR, Option.bind]) | (unfold eqD eqOk; simp [scalD, PyData.eqv]) | (unfold neD eqOk; simp [scalD, PyData.eqv])
@[simp] theorem qq_gseq_2 (g : MG) (gs : List MG) (d : D) (ds : List D) (ρ : En) : gseq (g :: gs) (d :: ds) ρ = ((g d ρ).bind fun ρ1 => gseq gs ds ρ1) := by first | rfl | (cases a with | none => rfl | some a => cases a <;> rfl) | (simp [stoO, stoR, parR, Option.bind]) | (unfold eqD eqOk; simp [scalD, PyData.eqv]) | (unfold neD eqOk; simp [scalD, PyData.eqv])
end L3

namespace L3
open PySem

/-! loops, by what holds of the items that are left -/
theorem forI_run {g : MG} {b : MS} {P : List D → En → Prop} (step : ∀ d r ρ, P (d :: r) ρ → ∃ ρ1 o ρ2, g d ρ = some ρ1 ∧ b ρ1 = some (o, ρ2) ∧ (o = .nx ∨ o = .ct) ∧ P r ρ2) :
    ∀ (ds : List D) (ρ : En), P ds ρ → ∃ ρ', mforI g b ds ρ = some (.nx, ρ') ∧ P [] ρ'
  | [], ρ, h => ⟨ρ, rfl, h⟩
  | d :: r, ρ, h => by
    obtain ⟨ρ1, o, ρ2, h1, h2, h3, h4⟩ := step d r ρ h
    obtain ⟨ρ', h5, h6⟩ := forI_run step r ρ2 h4
    refine ⟨ρ', ?_, h6⟩
    unfold mforI
    rw [h1, Option.bind_some, h2, Option.bind_some]
    rcases h3 with rfl | rfl <;> exact h5
/-- .., or it ends before by a return -/
theorem forI_ret {g : MG} {b : MS} {P : List D → En → Prop} {Z : R → En → Prop} (step : ∀ d r ρ, P (d :: r) ρ → ∃ ρ1 o ρ2, g d ρ = some ρ1 ∧ b ρ1 = some (o, ρ2) ∧ (((o = .nx ∨ o = .ct) ∧ P r ρ2) ∨ ∃ r, o = .rt r ∧ Z r ρ2)) :
    ∀ (ds : List D) (ρ : En), P ds ρ → (∃ ρ', mforI g b ds ρ = some (.nx, ρ') ∧ P [] ρ') ∨ ∃ r ρ', mforI g b ds ρ = some (.rt r, ρ') ∧ Z r ρ'
  | [], ρ, h => .inl ⟨ρ, rfl, h⟩
  | d :: r, ρ, h => by
    obtain ⟨ρ1, o, ρ2, h1, h2, h3⟩ := step d r ρ h
    rcases h3 with ⟨h3, h4⟩ | ⟨r', rfl, h4⟩
    · rcases forI_ret step r ρ2 h4 with ⟨ρ', h5, h6⟩ | ⟨r', ρ', h5, h6⟩
      · refine .inl ⟨ρ', ?_, h6⟩
        unfold mforI
        rw [h1, Option.bind_some, h2, Option.bind_some]
        rcases h3 with rfl | rfl <;> exact h5
      · refine .inr ⟨r', ρ', ?_, h6⟩
        unfold mforI
        rw [h1, Option.bind_some, h2, Option.bind_some]
        rcases h3 with rfl | rfl <;> exact h5
    · refine .inr ⟨r', ρ2, ?_, h4⟩
      unfold mforI
      rw [h1, Option.bind_some, h2, Option.bind_some]
/-- over a borrowed list that stays -/
theorem forS_eq {i : Nat} {g : MG} {b : MS} {xs : List D} (I : En → Prop) (hI : ∀ ρ, I ρ → lstB ρ i = some xs) (hs : ∀ d ρ ρ1 o ρ2, I ρ → g d ρ = some ρ1 → b ρ1 = some (o, ρ2) → I ρ2) :
    ∀ (ds : List D) (n : Nat) (ρ : En) (z : O × En), I ρ → xs.drop n = ds → mforI g b ds ρ = some z → mforS i g b ds n ρ = some z
  | [], n, ρ, z, h, hd, e => by
    unfold mforS
    rw [hI ρ h, Option.bind_some]
    have hl : xs.length ≤ n := by
      have := congrArg List.length hd
      rw [List.length_drop, List.length_nil] at this
      omega
    rw [show decide (xs.length ≤ n) = true from decide_eq_true hl]
    exact e
  | d :: r, n, ρ, z, h, hd, e => by
    unfold mforS
    unfold mforI at e
    have hx : xs[n]? = some d := by
      have := congrArg List.head? hd
      rw [List.head?_drop] at this
      exact this
    have hr : xs.drop (n + 1) = r := by
      rw [← List.tail_drop, hd]
      rfl
    rw [hI ρ h, Option.bind_some, hx, Option.bind_some]
    obtain ⟨ρ1, e1, e⟩ := Option.bind_eq_some_iff.mp e
    obtain ⟨⟨o, ρ2⟩, e2, e⟩ := Option.bind_eq_some_iff.mp e
    rw [e1, Option.bind_some, e2, Option.bind_some]
    have h2 := hs d ρ ρ1 o ρ2 h e1 e2
    cases o with
    | nx => exact forS_eq I hI hs r (n + 1) ρ2 z h2 hr e
    | ct => exact forS_eq I hI hs r (n + 1) ρ2 z h2 hr e
    | bk => exact e
    | rt r' => exact e
theorem forS_run {i : Nat} {xs : List D} {g : MG} {b : MS} {P : List D → En → Prop} (hI : ∀ r ρ, P r ρ → lstB ρ i = some xs) (step : ∀ d r ρ, P (d :: r) ρ → ∃ ρ1 o ρ2, g d ρ = some ρ1 ∧ b ρ1 = some (o, ρ2) ∧ (o = .nx ∨ o = .ct) ∧ P r ρ2) :
    ∀ (ds : List D) (n : Nat) (ρ : En), xs.drop n = ds → P ds ρ → ∃ ρ', mforS i g b ds n ρ = some (.nx, ρ') ∧ P [] ρ'
  | [], n, ρ, hd, h => by
    refine ⟨ρ, ?_, h⟩
    unfold mforS
    rw [hI _ ρ h, Option.bind_some]
    have hl : xs.length ≤ n := by
      have := congrArg List.length hd
      rw [List.length_drop, List.length_nil] at this
      omega
    rw [show decide (xs.length ≤ n) = true from decide_eq_true hl]
    rfl
  | d :: r, n, ρ, hd, h => by
    obtain ⟨ρ1, o, ρ2, h1, h2, h3, h4⟩ := step d r ρ h
    have hx : xs[n]? = some d := by
      have := congrArg List.head? hd
      rw [List.head?_drop] at this
      exact this
    have hr : xs.drop (n + 1) = r := by
      rw [← List.tail_drop, hd]
      rfl
    obtain ⟨ρ', h5, h6⟩ := forS_run hI step r (n + 1) ρ2 hr h4
    refine ⟨ρ', ?_, h6⟩
    unfold mforS
    rw [hI _ ρ h, Option.bind_some, hx, Option.bind_some, h1, Option.bind_some, h2, Option.bind_some]
    rcases h3 with rfl | rfl <;> exact h5
/-! comprehensions -/
/-- one turn -/
theorem turn_yes {g : MG} {t : MT} {m : ME} {vs : List Nat} {d d' : D} {acc : List D} {ρ ρ1 ρ2 ρ3 ρ4 : En} {y : R} (h1 : g d (wipeE ρ vs) = some ρ1) (h2 : t ρ1 = some (true, ρ2)) (h3 : m ρ2 = some (y, ρ3)) (h4 : fzs ρ3 [y.fz] = some ([d'], ρ4)) (h5 : acc.length < sizeLine) :
    mturn g t m vs d acc ρ = some (acc ++ [d'], ρ4) := by
  unfold mturn
  rw [h1, Option.bind_some, h2, Option.bind_some, if_pos rfl, h3, Option.bind_some, h4, Option.bind_some]
  show (guardO (decide (acc.length < sizeLine))).bind _ = _
  rw [show decide (acc.length < sizeLine) = true from decide_eq_true h5]
  rfl
theorem turn_no {g : MG} {t : MT} {m : ME} {vs : List Nat} {d : D} {acc : List D} {ρ ρ1 ρ2 : En} (h1 : g d (wipeE ρ vs) = some ρ1) (h2 : t ρ1 = some (false, ρ2)) : mturn g t m vs d acc ρ = some (acc, ρ2) := by
  unfold mturn
  rw [h1, Option.bind_some, h2, Option.bind_some, if_neg Bool.false_ne_true]
theorem lcI_run {g : MG} {t : MT} {m : ME} {vs : List Nat} {P : List D → List D → En → Prop} (step : ∀ d r acc ρ, P (d :: r) acc ρ → ∃ acc' ρ', mturn g t m vs d acc ρ = some (acc', ρ') ∧ P r acc' ρ') :
    ∀ (ds acc : List D) (ρ : En), P ds acc ρ → ∃ acc' ρ', mlcI g t m vs ds acc ρ = some (acc', ρ') ∧ P [] acc' ρ'
  | [], acc, ρ, h => ⟨acc, ρ, rfl, h⟩
  | d :: r, acc, ρ, h => by
    obtain ⟨acc1, ρ1, h1, h2⟩ := step d r acc ρ h
    obtain ⟨acc', ρ', h3, h4⟩ := lcI_run step r acc1 ρ1 h2
    refine ⟨acc', ρ', ?_, h4⟩
    unfold mlcI
    rw [h1, Option.bind_some]
    exact h3
theorem lcS_run {i : Nat} {xs : List D} {g : MG} {t : MT} {m : ME} {vs : List Nat} {P : List D → List D → En → Prop} (hI : ∀ r acc ρ, P r acc ρ → lstAt ρ i = some xs) (step : ∀ d r acc ρ, P (d :: r) acc ρ → ∃ acc' ρ', mturn g t m vs d acc ρ = some (acc', ρ') ∧ P r acc' ρ') :
    ∀ (ds : List D) (n : Nat) (acc : List D) (ρ : En), xs.drop n = ds → P ds acc ρ → ∃ acc' ρ', mlcS i g t m vs ds n acc ρ = some (acc', ρ') ∧ P [] acc' ρ'
  | [], n, acc, ρ, hd, h => by
    refine ⟨acc, ρ, ?_, h⟩
    unfold mlcS
    rw [hI _ _ ρ h, Option.bind_some]
    have hl : xs.length ≤ n := by
      have := congrArg List.length hd
      rw [List.length_drop, List.length_nil] at this
      omega
    rw [show decide (xs.length ≤ n) = true from decide_eq_true hl]
    rfl
  | d :: r, n, acc, ρ, hd, h => by
    obtain ⟨acc1, ρ1, h1, h2⟩ := step d r acc ρ h
    have hx : xs[n]? = some d := by
      have := congrArg List.head? hd
      rw [List.head?_drop] at this
      exact this
    have hr : xs.drop (n + 1) = r := by
      rw [← List.tail_drop, hd]
      rfl
    obtain ⟨acc', ρ', h3, h4⟩ := lcS_run hI step r (n + 1) acc1 ρ1 hr h2
    refine ⟨acc', ρ', ?_, h4⟩
    unfold mlcS
    rw [hI _ _ ρ h, Option.bind_some, hx, Option.bind_some, h1, Option.bind_some]
    exact h3
/-- a turn that changes nothing but the target's slots, F what it gives -/
def PureTurn (g : MG) (t : MT) (m : ME) (vs : List Nat) (ρ : En) (d : D) (o : Option D) : Prop := ∃ ρ1 c, g d (wipeE ρ vs) = some ρ1 ∧ wipeE ρ1 vs = wipeE ρ vs ∧ t ρ1 = some (c, ρ1) ∧ match o with
  | some d' => c = true ∧ m ρ1 = some (.dat d', ρ1)
  | none => c = false
theorem pure_turn {g : MG} {t : MT} {m : ME} {vs : List Nat} {ρ ρ' : En} {d : D} {o : Option D} {acc : List D} (h : PureTurn g t m vs ρ d o) (hw : wipeE ρ' vs = wipeE ρ vs) (hz : acc.length < sizeLine) :
    ∃ ρ2, mturn g t m vs d acc ρ' = some (acc ++ o.toList, ρ2) ∧ wipeE ρ2 vs = wipeE ρ vs := by
  obtain ⟨ρ1, c, h1, h2, h3, h4⟩ := h
  rw [← hw] at h1
  cases o with
  | none =>
    subst h4
    exact ⟨ρ1, by rw [turn_no h1 h3]; simp, h2⟩
  | some d' =>
    obtain ⟨rfl, h4⟩ := h4
    exact ⟨ρ1, turn_yes h1 h3 h4 rfl hz, h2⟩
theorem wipe_wipe (ρ : En) (vs : List Nat) : wipeE (wipeE ρ vs) vs = wipeE ρ vs := by
  refine List.ext_getElem? fun j => ?_
  rw [wipeE_get, wipeE_get]
  split
  · cases ρ[j]? <;> rfl
  · rfl
theorem lcI_pure {α : Type} {g : MG} {t : MT} {m : ME} {vs : List Nat} {ρ : En} {enc : α → D} {F : α → Option D} {xs : List α} (h : ∀ x ∈ xs, PureTurn g t m vs ρ (enc x) (F x)) (hz : xs.length ≤ sizeLine) :
    ∃ ρ', mlcI g t m vs (xs.map enc) [] (wipeE ρ vs) = some (xs.filterMap F, ρ') ∧ wipeE ρ' vs = wipeE ρ vs := by
  have key : ∀ (ds' : List α) (acc : List D) (ρ' : En), (∀ d ∈ ds', d ∈ xs) → acc.length + ds'.length ≤ sizeLine → wipeE ρ' vs = wipeE ρ vs → ∃ ρ'', mlcI g t m vs (ds'.map enc) acc ρ' = some (acc ++ ds'.filterMap F, ρ'') ∧ wipeE ρ'' vs = wipeE ρ vs := by
    intro ds'
    induction ds' with
    | nil => intro acc ρ' _ _ e; exact ⟨ρ', by simp [mlcI], e⟩
    | cons d r ih =>
      intro acc ρ' hm hl e
      rw [List.length_cons] at hl
      obtain ⟨ρ2, e1, e2⟩ := pure_turn (acc := acc) (h d (hm d List.mem_cons_self)) e (by omega)
      obtain ⟨ρ3, e3, e4⟩ := ih (acc ++ (F d).toList) ρ2 (fun x hx => hm x (List.mem_cons_of_mem _ hx)) (by
        rw [List.length_append]
        have : (F d).toList.length ≤ 1 := by cases F d <;> simp
        omega) e2
      refine ⟨ρ3, ?_, e4⟩
      rw [List.map_cons]
      unfold mlcI
      rw [e1, Option.bind_some, e3]
      cases hF : F d with
      | none => simp [List.filterMap_cons, hF]
      | some y => simp [List.filterMap_cons, hF]
  obtain ⟨ρ', h1, h2⟩ := key xs [] (wipeE ρ vs) (fun _ h => h) (by simpa using hz) (wipe_wipe ρ vs)
  exact ⟨ρ', by simpa using h1, h2⟩
theorem restE_back {ρ ρ' : En} {vs : List Nat} (h : wipeE ρ' vs = wipeE ρ vs) : restE ρ ρ' vs = ρ := by
  have hl : ρ'.length = ρ.length := by
    have := congrArg List.length h
    rwa [wipeE_len, wipeE_len] at this
  refine List.ext_getElem? fun j => ?_
  unfold restE
  rw [List.getElem?_mapIdx]
  by_cases hj : j ∈ vs
  · by_cases hlt : j < ρ.length
    · have h1 : ρ'[j]? = some ρ'[j] := List.getElem?_eq_getElem (by omega)
      have h2 : ρ[j]? = some ρ[j] := List.getElem?_eq_getElem hlt
      rw [h1, h2]
      simp [hj]
    · rw [List.getElem?_eq_none (by omega), List.getElem?_eq_none (by omega)]
      rfl
  · have e := congrArg (·[j]?) h
    simp only [wipeE_get, if_neg hj] at e
    rw [e]
    cases ρ[j]? with
    | none => rfl
    | some a => simp [hj]
/-- a comprehension whose turns change nothing -/
theorem lc_pure {α : Type} {g : MG} {t : MT} {m : ME} {vs : List Nat} {ρ : En} (enc : α → D) (F : α → Option D) (xs : List α) (h : ∀ x ∈ xs, PureTurn g t m vs ρ (enc x) (F x)) (hz : xs.length ≤ sizeLine) : lcT g t m vs (.items (xs.map enc)) ρ = some (.new (.lst (xs.filterMap F)), ρ) := by
  obtain ⟨ρ', h1, h2⟩ := lcI_pure h hz
  show lcE ρ vs (mlcI g t m vs (xs.map enc) [] (wipeE ρ vs)) = _
  rw [h1]
  show some (R.new (.lst _), restE ρ ρ' vs) = _
  rw [restE_back h2]
theorem lcS_pure {α : Type} {i : Nat} {g : MG} {t : MT} {m : ME} {vs : List Nat} {ρ : En} (enc : α → D) (F : α → Option D) (xs : List α) (hi : i ∉ vs) (hl : lstAt ρ i = some (xs.map enc)) (h : ∀ x ∈ xs, PureTurn g t m vs ρ (enc x) (F x)) (hz : xs.length ≤ sizeLine) :
    lcT g t m vs (.slot i (xs.map enc)) ρ = some (.new (.lst (xs.filterMap F)), ρ) := by
  have hlw : ∀ ρ', wipeE ρ' vs = wipeE ρ vs → lstAt ρ' i = some (xs.map enc) := fun ρ' e => by
    have e2 := congrArg (·[i]?) e
    simp only [wipeE_get, if_neg hi] at e2
    unfold lstAt at hl ⊢
    rw [e2]
    exact hl
  have key : ∀ (r : List α) (n : Nat) (acc : List D) (ρ' : En), xs.drop n = r → acc.length + r.length ≤ sizeLine → wipeE ρ' vs = wipeE ρ vs → ∃ ρ'', mlcS i g t m vs (r.map enc) n acc ρ' = some (acc ++ r.filterMap F, ρ'') ∧ wipeE ρ'' vs = wipeE ρ vs := by
    intro r
    induction r with
    | nil =>
      intro n acc ρ' hd _ e
      refine ⟨ρ', ?_, e⟩
      rw [List.map_nil]
      unfold mlcS
      rw [hlw ρ' e, Option.bind_some]
      have hl : (xs.map enc).length ≤ n := by
        have := congrArg List.length hd
        rw [List.length_drop, List.length_nil] at this
        rw [List.length_map]
        omega
      rw [show decide ((xs.map enc).length ≤ n) = true from decide_eq_true hl]
      simp [guardO]
    | cons d r ih =>
      intro n acc ρ' hd hl e
      rw [List.length_cons] at hl
      have hx : xs[n]? = some d := by
        have := congrArg List.head? hd
        rw [List.head?_drop] at this
        exact this
      have hr : xs.drop (n + 1) = r := by
        rw [← List.tail_drop, hd]
        rfl
      obtain ⟨ρ2, e1, e2⟩ := pure_turn (acc := acc) (h d (List.mem_of_getElem? hx)) e (by omega)
      obtain ⟨ρ3, e3, e4⟩ := ih (n + 1) (acc ++ (F d).toList) ρ2 hr (by
        rw [List.length_append]
        have : (F d).toList.length ≤ 1 := by cases F d <;> simp
        omega) e2
      refine ⟨ρ3, ?_, e4⟩
      rw [List.map_cons]
      unfold mlcS
      rw [hlw ρ' e, Option.bind_some, show (xs.map enc)[n]? = some (enc d) by rw [List.getElem?_map, hx]; rfl, Option.bind_some, e1, Option.bind_some, e3]
      cases hF : F d with
      | none => simp [List.filterMap_cons, hF]
      | some y => simp [List.filterMap_cons, hF]
  obtain ⟨ρ', h1, h2⟩ := key xs 0 [] (wipeE ρ vs) rfl (by simpa using hz) (wipe_wipe ρ vs)
  show lcE ρ vs ((guardO (decide (i ∉ vs))).bind fun _ => mlcS i g t m vs (xs.map enc) 0 [] (wipeE ρ vs)) = _
  rw [show decide (i ∉ vs) = true from decide_eq_true hi]
  show lcE ρ vs (mlcS i g t m vs (xs.map enc) 0 [] (wipeE ρ vs)) = _
  rw [h1]
  show some (R.new (.lst _), restE ρ ρ' vs) = _
  rw [restE_back h2]
  simp
/-! loops as folds: E s j the environment at the state s, j what else may lie there -/
theorem forI_fold {σ α J : Type} {g : MG} {b : MS} {enc : α → D} (E : σ → J → En) (f : σ → α → σ) (I : σ → List α → Prop)
    (step : ∀ s x r j, I s (x :: r) → ∃ ρ1 j', g (enc x) (E s j) = some ρ1 ∧ b ρ1 = some (.nx, E (f s x) j') ∧ I (f s x) r) :
    ∀ (xs : List α) (s : σ) (j : J), I s xs → ∃ j', mforI g b (xs.map enc) (E s j) = some (.nx, E (xs.foldl f s) j') ∧ I (xs.foldl f s) []
  | [], s, j, h => ⟨j, rfl, h⟩
  | x :: r, s, j, h => by
    obtain ⟨ρ1, j1, h1, h2, h3⟩ := step s x r j h
    obtain ⟨j', h4, h5⟩ := forI_fold E f I step r (f s x) j1 h3
    refine ⟨j', ?_, h5⟩
    rw [List.map_cons]
    unfold mforI
    rw [h1, Option.bind_some, h2, Option.bind_some]
    exact h4
theorem forS_fold {σ α J : Type} {i : Nat} {g : MG} {b : MS} {enc : α → D} {xs : List α} (E : σ → J → En) (f : σ → α → σ) (I : σ → List α → Prop) (hi : ∀ s j, lstB (E s j) i = some (xs.map enc))
    (step : ∀ s x r j, I s (x :: r) → ∃ ρ1 j', g (enc x) (E s j) = some ρ1 ∧ b ρ1 = some (.nx, E (f s x) j') ∧ I (f s x) r) (s : σ) (j : J) (h : I s xs) :
    ∃ j', mforS i g b (xs.map enc) 0 (E s j) = some (.nx, E (xs.foldl f s) j') ∧ I (xs.foldl f s) [] := by
  have key : ∀ (r : List α) (n : Nat) (s : σ) (j : J), xs.drop n = r → I s r → ∃ j', mforS i g b (r.map enc) n (E s j) = some (.nx, E (r.foldl f s) j') ∧ I (r.foldl f s) [] := by
    intro r
    induction r with
    | nil =>
      intro n s j hd h
      refine ⟨j, ?_, h⟩
      rw [List.map_nil]
      unfold mforS
      have hl : (xs.map enc).length ≤ n := by
        have := congrArg List.length hd
        rw [List.length_drop, List.length_nil] at this
        rw [List.length_map]
        omega
      rw [hi, Option.bind_some, show decide ((xs.map enc).length ≤ n) = true from decide_eq_true hl]
      rfl
    | cons x r ih =>
      intro n s j hd h
      have hx : xs[n]? = some x := by
        have := congrArg List.head? hd
        rw [List.head?_drop] at this
        exact this
      have hr : xs.drop (n + 1) = r := by
        rw [← List.tail_drop, hd]
        rfl
      obtain ⟨ρ1, j1, h1, h2, h3⟩ := step s x r j h
      obtain ⟨j', h4, h5⟩ := ih (n + 1) (f s x) j1 hr h3
      refine ⟨j', ?_, h5⟩
      rw [List.map_cons]
      unfold mforS
      rw [hi, Option.bind_some, show (xs.map enc)[n]? = some (enc x) by rw [List.getElem?_map, hx]; rfl, Option.bind_some, h1, Option.bind_some, h2, Option.bind_some]
      exact h4
  exact key xs 0 s j rfl h
/-- a slot that holds nothing or data -/
def sD (o : Option D) : Option A := o.map A.dat
theorem sD_none : sD none = none := rfl
theorem sD_some (d : D) : sD (some d) = some (.dat d) := rfl
end L3

namespace L3
open PySem PySem.Spec PyProof.Rows

/-! texts of numbers -/
def numS (k : Nat) : Str := Str.ofString (toString ((k : Nat) : Int))
theorem numS_cps (k : Nat) : (numS k).cps.toList = (Nat.toDigits 10 k).map Char.toNat := PySem.W.KIN.signs_num k
theorem numS_inj {j k : Nat} (h : numS j = numS k) : j = k := by
  have h1 := congrArg (fun s : Str => PySem.NumText.digitsVal s.cps.toList) h
  simp only [numS_cps, PySem.W.KIN.val_back] at h1
  exact h1
theorem numS_len (k : Nat) : (numS k).length ≤ k + 1 := by
  have h1 := congrArg List.length (numS_cps k)
  rw [List.length_map] at h1
  have h2 := PyProof.Rows.tDigits_len_le 10 k
  show (numS k).cps.size ≤ k + 1
  rw [← Array.length_toList, h1]
  exact h2
theorem numS_digit {k c : Nat} (h : c ∈ (numS k).cps.toList) : 48 ≤ c ∧ c < 58 := by
  rw [numS_cps] at h
  obtain ⟨ch, h1, rfl⟩ := List.mem_map.mp h
  have h2 := Nat.isDigit_of_mem_toDigits (by decide) (by decide) h1
  unfold Char.isDigit at h2
  rw [Bool.and_eq_true, decide_eq_true_eq, decide_eq_true_eq] at h2
  exact ⟨h2.1, Nat.lt_succ_of_le h2.2⟩
/-- n and a number -/
def nmS (k : Nat) : Str := Str.ofString "n" ++ numS k
theorem nmS_cps (k : Nat) : (nmS k).cps.toList = 110 :: (numS k).cps.toList := by
  unfold nmS
  rw [Str.cps_append, Array.toList_append]
  rfl
theorem nmS_inj {j k : Nat} (h : nmS j = nmS k) : j = k := by
  have h1 := congrArg (fun s : Str => s.cps.toList) h
  simp only [nmS_cps, List.cons.injEq, true_and] at h1
  exact numS_inj (PySem.W.str_of_cps h1)
theorem nmS_len (k : Nat) : (nmS k).length = 1 + (numS k).length := by
  show (nmS k).cps.size = 1 + (numS k).cps.size
  rw [← Array.length_toList, nmS_cps, List.length_cons, Array.length_toList]
  omega
theorem nmS_ok (k : Nat) : PyData.strOk (nmS k) = true := by
  unfold PyData.strOk
  rw [← Array.all_toList, nmS_cps, List.all_cons]
  simp only [Bool.and_eq_true, List.all_eq_true, decide_eq_true_eq]
  exact ⟨by decide, fun c hc => by have := numS_digit hc; omega⟩
theorem pigeon {α : Type} [DecidableEq α] : ∀ (l : List α) (f : Nat → α), (∀ i j, f i = f j → i = j) → ∃ k, k ≤ l.length ∧ f k ∉ l
  | [], f, _ => ⟨0, Nat.le_refl _, by simp⟩
  | a :: r, f, hf => by
    by_cases ha : ∃ j, f j = a
    · obtain ⟨j, hj⟩ := ha
      obtain ⟨k, h1, h2⟩ := pigeon r (fun k => f (if k < j then k else k + 1)) (fun x y h => by
        have := hf _ _ h
        split at this <;> split at this <;> omega)
      refine ⟨if k < j then k else k + 1, ?_, ?_⟩
      · rw [List.length_cons]; split <;> omega
      · rw [List.mem_cons]
        rintro (h | h)
        · have := hf _ _ (h.trans hj.symm)
          split at this <;> omega
        · exact h2 h
    · obtain ⟨k, h1, h2⟩ := pigeon r f hf
      refine ⟨k, by rw [List.length_cons]; omega, ?_⟩
      rw [List.mem_cons]
      rintro (h | h)
      · exact ha ⟨k, h⟩
      · exact h2 h
/-- the first name that is free -/
theorem first_free (l : List Str) : ∃ k, k ≤ l.length ∧ nmS k ∉ l ∧ ∀ j, j < k → nmS j ∈ l := by
  obtain ⟨k, h1, h2⟩ := pigeon l nmS fun i j h => nmS_inj h
  have key : ∀ (n k : Nat), k ≤ n → nmS k ∉ l → ∃ m, m ≤ k ∧ nmS m ∉ l ∧ ∀ j, j < m → nmS j ∈ l := by
    intro n
    induction n with
    | zero => intro k hk h; exact ⟨k, Nat.le_refl _, h, fun j hj => by omega⟩
    | succ n ih =>
      intro k hk h
      by_cases hall : ∀ j, j < k → nmS j ∈ l
      · exact ⟨k, Nat.le_refl _, h, hall⟩
      · obtain ⟨j, hj⟩ := Classical.not_forall.mp hall
        obtain ⟨hj1, hj2⟩ := Classical.not_imp.mp hj
        obtain ⟨m, h3, h4, h5⟩ := ih j (by omega) hj2
        exact ⟨m, by omega, h4, h5⟩
  obtain ⟨m, h3, h4, h5⟩ := key k k (Nat.le_refl _) h2
  exact ⟨m, by omega, h4, h5⟩

/-! in, of texts -/
theorem eqv_str (s t : Str) : PyData.eqv (.str s) (.str t) = (s == t) := by simp [PyData.eqv]
theorem any_str (s : Str) (l : List Str) : ((l.map PyData.str).any fun z => PyData.eqv z (.str s)) = decide (s ∈ l) := by
  induction l with
  | nil => rfl
  | cons t r ih =>
    rw [List.map_cons, List.any_cons, ih, eqv_str]
    by_cases h : s = t
    · subst h; simp
    · have h' : ¬ t = s := fun z => h z.symm
      simp [h, h']
theorem flat_strs (l : List Str) : (l.map PyData.str).all flatD = true := by
  induction l with
  | nil => rfl
  | cons t r ih => simp [flatD]
theorem in_strs (s : Str) (l : List Str) : inD (.str s) (.list (l.map PyData.str)) = some (.dat (.bool (decide (s ∈ l)))) := by
  unfold inD inB
  simp only []
  rw [if_pos (by unfold inOkS; rw [flat_strs]; rfl), any_str]
  rfl
theorem notIn_strs (s : Str) (l : List Str) : notInD (.str s) (.list (l.map PyData.str)) = some (.dat (.bool (!decide (s ∈ l)))) := by
  unfold notInD inB
  simp only []
  rw [if_pos (by unfold inOkS; rw [flat_strs]; rfl), any_str]
  rfl
theorem in_strsT (s : Str) (l : List Str) : inD (.str s) (.tuple (l.map PyData.str)) = some (.dat (.bool (decide (s ∈ l)))) := by
  unfold inD inB
  simp only []
  rw [if_pos (by unfold inOkS; rw [flat_strs]; rfl), any_str]
  rfl
theorem notIn_strsT (s : Str) (l : List Str) : notInD (.str s) (.tuple (l.map PyData.str)) = some (.dat (.bool (!decide (s ∈ l)))) := by
  unfold notInD inB
  simp only []
  rw [if_pos (by unfold inOkS; rw [flat_strs]; rfl), any_str]
  rfl
theorem str_num {k : Nat} (h : k < 1900) : strD [.int (k : Int)] = some (.dat (.str (numS k))) := by
  unfold strD
  simp only []
  rw [if_pos]
  · rfl
  · have := Nat.log2_le_self k
    show (k : Int).natAbs.log2 < 1920
    rw [Int.natAbs_natCast]
    omega
theorem add_num {k : Nat} (h : k < 1900) : addD (.str (Str.ofString "n")) (.str (numS k)) = some (.dat (.str (nmS k))) := by
  have h1 := numS_len k
  unfold addD
  simp only []
  rw [if_pos]
  · rfl
  · rw [sizeLine_eq]
    show 1 + (numS k).length ≤ _
    omega
end L3

namespace L3
open PySem PySem.Spec PyProof.Rows

/-! data that can be shown: no dicts, ints from 0 to a million, plain texts -/
mutual
def okD : D → Bool
  | .none => true
  | .bool _ => true
  | .int i => decide (0 ≤ i ∧ i ≤ 1000000)
  | .str x => PyData.strOk x
  | .list xs => okL xs
  | .tuple xs => okL xs
  | .dict _ => false
def okL : List D → Bool
  | [] => true
  | x :: xs => okD x && okL xs
end
mutual
def wtD : D → Nat
  | .none => 4
  | .bool _ => 5
  | .int i => i.toNat + 2
  | .str x => 10 * x.length + 2
  | .list xs => 2 + wtL xs
  | .tuple xs => 3 + wtL xs
  | .dict _ => 0
def wtL : List D → Nat
  | [] => 0
  | x :: xs => wtD x + 2 + wtL xs
end
mutual
theorem okD_lay : ∀ d : D, okD d = true → d.canLay0 = true
  | .none, _ => by simp only [PyData.canLay0]
  | .bool _, _ => by simp only [PyData.canLay0]
  | .int _, _ => by simp only [PyData.canLay0]
  | .str x, h => by simpa only [PyData.canLay0, okD] using h
  | .list xs, h => by simp only [PyData.canLay0]; exact okL_lay xs (by simpa only [okD] using h)
  | .tuple xs, h => by simp only [PyData.canLay0]; exact okL_lay xs (by simpa only [okD] using h)
  | .dict _, h => by simp [okD] at h
theorem okL_lay : ∀ ds : List D, okL ds = true → PyData.canLayAll0 ds = true
  | [], _ => by simp only [PyData.canLayAll0]
  | d :: ds, h => by
    have h' : okD d = true ∧ okL ds = true := by simpa only [okL, Bool.and_eq_true] using h
    simp only [PyData.canLayAll0, okD_lay d h'.1, okL_lay ds h'.2, Bool.and_self]
end
mutual
theorem okD_show : ∀ d : D, okD d = true → d.showable = true
  | .none, _ => by simp only [PyData.showable]
  | .bool _, _ => by simp only [PyData.showable]
  | .int i, h => by
    have h' : 0 ≤ i ∧ i ≤ 1000000 := by simpa only [okD, decide_eq_true_eq] using h
    simp only [PyData.showable, decide_eq_true_eq]
    have h1 : i.natAbs < 2 ^ 20 := by omega
    by_cases h0 : i.natAbs = 0
    · rw [h0]; decide
    · have := (Nat.log2_lt h0).mpr h1
      omega
  | .str x, h => by simp only [PyData.showable]
  | .list xs, h => by simp only [PyData.showable]; exact okL_show xs (by simpa only [okD] using h)
  | .tuple xs, h => by simp only [PyData.showable]; exact okL_show xs (by simpa only [okD] using h)
  | .dict _, h => by simp [okD] at h
theorem okL_show : ∀ ds : List D, okL ds = true → PyData.showableAll ds = true
  | [], _ => by simp only [PyData.showableAll]
  | d :: ds, h => by
    have h' : okD d = true ∧ okL ds = true := by simpa only [okL, Bool.and_eq_true] using h
    simp only [PyData.showableAll, okD_show d h'.1, okL_show ds h'.2, Bool.and_self]
end
mutual
theorem eqv_self : ∀ d : D, okD d = true → PyData.eqv d d = true
  | .none, _ => by simp only [PyData.eqv]
  | .bool _, _ => by simp [PyData.eqv]
  | .int i, h => by simp [PyData.eqv]
  | .str x, h => by simp [PyData.eqv]
  | .list xs, h => by simp only [PyData.eqv]; exact eqvL_self xs (by simpa only [okD] using h)
  | .tuple xs, h => by simp only [PyData.eqv]; exact eqvL_self xs (by simpa only [okD] using h)
  | .dict _, h => by simp [okD] at h
theorem eqvL_self : ∀ ds : List D, okL ds = true → PyData.eqvAll ds ds = true
  | [], _ => by simp only [PyData.eqvAll]
  | d :: ds, h => by
    have h' : okD d = true ∧ okL ds = true := by simpa only [okL, Bool.and_eq_true] using h
    simp only [PyData.eqvAll, eqv_self d h'.1, eqvL_self ds h'.2, Bool.and_self]
end
def sumL : List Str → Nat
  | [] => 0
  | t :: r => t.length + 2 + sumL r
theorem textFrom_le : ∀ (ts : List Str) (k : Nat) (acc : Str), (textFrom k acc ts).length ≤ acc.length + sumL ts
  | [], k, acc => Nat.le_refl _
  | t :: r, k, acc => by
    have h := textFrom_le r (k + 1) (acc ++ (if k > 0 then ", " else "" : String) ++ t)
    have e : (acc ++ (if k > 0 then ", " else "" : String) ++ t).length ≤ acc.length + 2 + t.length := by
      rw [strLen_append, strLen_append]
      have : ((if k > 0 then ", " else "" : String) : Str).length ≤ 2 := by split <;> decide
      omega
    show (textFrom (k + 1) _ r).length ≤ acc.length + (t.length + 2 + sumL r)
    omega
theorem listText_le (ts : List Str) : (listText ts).length ≤ 2 + sumL ts := by
  unfold listText
  rw [strLen_append]
  have h := textFrom_le ts 0 "["
  have e1 : (("[" : String) : Str).length = 1 := rfl
  have e2 : (("]" : String) : Str).length = 1 := rfl
  omega
theorem join_le : ∀ ts : List Str, (Str.join ", " ts).length ≤ sumL ts
  | [] => Nat.le_refl _
  | [x] => by show x.length ≤ x.length + 2 + 0; omega
  | x :: y :: r => by
    have ih := join_le (y :: r)
    show (x ++ ", " ++ Str.join ", " (y :: r)).length ≤ x.length + 2 + sumL (y :: r)
    have e2 : ((", " : String) : Str).length = 2 := rfl
    rw [strLen_append, strLen_append]
    omega
theorem tupleText_le (ts : List Str) : (tupleText ts).length ≤ 3 + sumL ts := by
  unfold tupleText
  rw [strLen_append, strLen_append]
  have h := join_le ts
  have e1 : (("(" : String) : Str).length = 1 := rfl
  have e2 : ((if ts.length == 1 then ",)" else ")" : String) : Str).length ≤ 2 := by split <;> decide
  omega
mutual
theorem shown_le : ∀ d : D, okD d = true → d.shown.length ≤ wtD d
  | .none, _ => by simp only [PyData.shown, wtD]; decide
  | .bool b, _ => by cases b <;> simp only [PyData.shown, wtD] <;> decide
  | .int i, h => by
    have h' : 0 ≤ i ∧ i ≤ 1000000 := by simpa only [okD, decide_eq_true_eq] using h
    obtain ⟨k, rfl⟩ := Int.eq_ofNat_of_zero_le h'.1
    simp only [PyData.shown, wtD]
    have := numS_len k
    show (numS k).length ≤ (k : Int).toNat + 2
    rw [Int.toNat_natCast]
    omega
  | .str x, h => by
    have h' : PyData.strOk x = true := by simpa only [okD] using h
    simp only [PyData.shown, wtD]
    refine PySem.StrLaws.reprText_len x fun c hc => ?_
    unfold PyData.strOk at h'
    rw [← Array.all_toList, List.all_eq_true] at h'
    have := h' c hc
    rw [decide_eq_true_eq] at this
    omega
  | .list xs, h => by
    have h' : okL xs = true := by simpa only [okD] using h
    simp only [PyData.shown, wtD]
    exact Nat.le_trans (listText_le _) (Nat.add_le_add_left (shownL_le xs h') 2)
  | .tuple xs, h => by
    have h' : okL xs = true := by simpa only [okD] using h
    simp only [PyData.shown, wtD]
    exact Nat.le_trans (tupleText_le _) (Nat.add_le_add_left (shownL_le xs h') 3)
  | .dict _, h => by simp [okD] at h
theorem shownL_le : ∀ ds : List D, okL ds = true → sumL (PyData.shownAll ds) ≤ wtL ds
  | [], _ => by simp only [PyData.shownAll, sumL, wtL]; omega
  | d :: ds, h => by
    have h' : okD d = true ∧ okL ds = true := by simpa only [okL, Bool.and_eq_true] using h
    simp only [PyData.shownAll, sumL, wtL]
    have h1 := shown_le d h'.1
    have h2 := shownL_le ds h'.2
    omega
end
theorem okL_map {α : Type} {f : α → D} {xs : List α} (h : ∀ x ∈ xs, okD (f x) = true) : okL (xs.map f) = true := by
  induction xs with
  | nil => rfl
  | cons x r ih => simp only [List.map_cons, okL, h x List.mem_cons_self, ih fun y hy => h y (List.mem_cons_of_mem _ hy), Bool.and_self]
theorem wtL_map {α : Type} {f : α → D} {n : Nat} {xs : List α} (h : ∀ x ∈ xs, wtD (f x) ≤ n) : wtL (xs.map f) ≤ xs.length * (n + 2) := by
  induction xs with
  | nil => simp [wtL]
  | cons x r ih =>
    have h1 := h x List.mem_cons_self
    have h2 := ih fun y hy => h y (List.mem_cons_of_mem _ hy)
    simp only [List.map_cons, wtL, List.length_cons]
    rw [Nat.add_mul]
    omega
theorem depthL_le {n : Nat} : ∀ {ds : List D}, (∀ d ∈ ds, d.depth ≤ n) → PyData.depthAll ds ≤ n
  | [], _ => by simp only [PyData.depthAll]; exact Nat.zero_le _
  | d :: ds, h => by
    simp only [PyData.depthAll]
    exact Nat.max_le.mpr ⟨h d List.mem_cons_self, depthL_le fun x hx => h x (List.mem_cons_of_mem _ hx)⟩
/-- what repr and == may be asked of -/
structure ShowOk (d : D) : Prop where
  ok : okD d = true
  dep : d.depth ≤ 64
  wt : wtD d ≤ 16777216
theorem ShowOk.shaped {d : D} (h : ShowOk d) : SeqAt.shaped d = true := by
  unfold SeqAt.shaped
  rw [okD_lay d h.ok, decide_eq_true h.dep]
  rfl
theorem repr_show {d : D} (h : ShowOk d) (hd : displayD d = true) : reprD [d] = some (.dat (.str d.shown)) := by
  unfold reprD
  simp only []
  rw [if_pos ⟨hd, h.shaped, okD_show d h.ok, Nat.le_trans (shown_le d h.ok) (by rw [sizeLine_eq]; exact h.wt)⟩]
theorem eq_show {d : D} (h : ShowOk d) : eqD d d = some (.dat (.bool true)) := by
  unfold eqD eqOk
  rw [h.shaped, Bool.and_self, Bool.or_true, if_pos rfl, eqv_self d h.ok]
end L3

namespace L3
open PySem PySem.Spec PyProof.Rows L2

/-! dicts from texts, typed -/
section
variable {α : Type}
def dE (f : α → D) (c : List (Str × α)) : List (Key × D) := c.map fun p => (.inr p.1, f p.2)
def keyT (c : List (Str × α)) : List Str := c.map (·.1)
def getT (c : List (Str × α)) (k : Str) : Option α := (c.find? fun p => decide (p.1 = k)).map (·.2)
def putT (c : List (Str × α)) (k : Str) (v : α) : List (Str × α) := if k ∈ keyT c then c.map (fun p => if p.1 = k then (p.1, v) else p) else c ++ [(k, v)]
theorem getT_nil (k : Str) : getT ([] : List (Str × α)) k = none := rfl
theorem getT_cons (p : Str × α) (c : List (Str × α)) (k : Str) : getT (p :: c) k = if p.1 = k then some p.2 else getT c k := by
  unfold getT
  rw [List.find?_cons]
  by_cases h : p.1 = k <;> simp [h]
theorem getT_none {c : List (Str × α)} {k : Str} : getT c k = none ↔ k ∉ keyT c := by
  induction c with
  | nil => simp [getT_nil, keyT]
  | cons p r ih =>
    rw [getT_cons]
    show _ ↔ k ∉ p.1 :: keyT r
    rw [List.mem_cons, not_or, ← ih]
    by_cases h : p.1 = k
    · simp [h]
    · have h' : ¬ k = p.1 := fun z => h z.symm
      simp [h, h']
theorem getT_mem {c : List (Str × α)} {k : Str} {v : α} (h : getT c k = some v) : (k, v) ∈ c := by
  induction c with
  | nil => cases h
  | cons p r ih =>
    rw [getT_cons] at h
    split at h
    · rename_i e
      cases h
      rw [← e]
      exact List.mem_cons_self
    · exact List.mem_cons_of_mem _ (ih h)
theorem getT_of_mem {c : List (Str × α)} (hn : (keyT c).Nodup) {k : Str} {v : α} (h : (k, v) ∈ c) : getT c k = some v := by
  induction c with
  | nil => cases h
  | cons p r ih =>
    rw [getT_cons]
    have hn' : p.1 ∉ keyT r ∧ (keyT r).Nodup := List.nodup_cons.mp hn
    rcases List.mem_cons.mp h with rfl | h
    · simp
    · rw [if_neg, ih hn'.2 h]
      intro e
      exact hn'.1 (by rw [e]; exact List.mem_map.mpr ⟨_, h, rfl⟩)
theorem getT_put (c : List (Str × α)) (k : Str) (v : α) (j : Str) : getT (putT c k v) j = if j = k then some v else getT c j := by
  unfold putT
  split
  · rename_i hk
    have key : ∀ c : List (Str × α), getT (c.map fun p => if p.1 = k then (p.1, v) else p) j = if j = k then (if k ∈ keyT c then some v else none) else getT c j := by
      intro c
      induction c with
      | nil => by_cases h : j = k <;> simp [h, getT_nil, keyT]
      | cons p r ih =>
        rw [List.map_cons, getT_cons, getT_cons, ih]
        by_cases hp : p.1 = k
        · by_cases hj : j = k
          · subst hj; simp [hp, keyT]
          · have : ¬ p.1 = j := fun z => hj (z.symm.trans hp)
            have h3 : ¬ k = j := fun z => hj z.symm
            simp [hp, hj, h3]
        · by_cases hj : j = k
          · subst hj
            have h2 : ¬ j = p.1 := fun z => hp z.symm
            have h3 : (j ∈ keyT (p :: r)) = (j ∈ keyT r) := by
              show (j ∈ p.1 :: keyT r) = _
              rw [List.mem_cons]
              simp [h2]
            simp [hp, h3]
          · simp [hp, hj]
    rw [key, if_pos hk]
  · rename_i hk
    have key : ∀ c : List (Str × α), k ∉ keyT c → getT (c ++ [(k, v)]) j = if j = k then some v else getT c j := by
      intro c
      induction c with
      | nil =>
        intro _
        rw [List.nil_append, getT_cons, getT_nil]
        by_cases h : j = k
        · simp [h]
        · have : ¬ k = j := fun z => h z.symm
          simp [h, this]
      | cons p r ih =>
        intro h
        have h' : ¬ k = p.1 ∧ k ∉ keyT r := by
          have : k ∉ p.1 :: keyT r := h
          rwa [List.mem_cons, not_or] at this
        rw [List.cons_append, getT_cons, ih h'.2, getT_cons]
        by_cases hj : j = k
        · have : ¬ p.1 = j := fun z => h'.1 (hj.symm.trans z.symm)
          simp [hj]
          intro z; exact absurd z.symm h'.1
        · simp [hj]
    exact key c hk
theorem keyT_put (c : List (Str × α)) (k : Str) (v : α) : keyT (putT c k v) = if k ∈ keyT c then keyT c else keyT c ++ [k] := by
  unfold putT
  split
  · unfold keyT
    rw [List.map_map]
    refine List.map_congr_left fun p _ => ?_
    simp only [Function.comp]
    split <;> rfl
  · unfold keyT
    rw [List.map_append]
    rfl
theorem nodup_put {c : List (Str × α)} (h : (keyT c).Nodup) (k : Str) (v : α) : (keyT (putT c k v)).Nodup := by
  rw [keyT_put]
  split
  · exact h
  · rename_i hk
    rw [List.nodup_append]
    exact ⟨h, by simp, fun a ha b hb e => by
      rw [List.mem_singleton.mp hb] at e
      exact hk (e ▸ ha)⟩
theorem put_len (c : List (Str × α)) (k : Str) (v : α) : (putT c k v).length ≤ c.length + 1 := by
  unfold putT
  split
  · rw [List.length_map]; omega
  · rw [List.length_append]; exact Nat.le_refl _
theorem dE_any (f : α → D) (c : List (Str × α)) (k : Str) : ((dE f c).any fun kv => decide (kv.1 = Sum.inr k)) = decide (k ∈ keyT c) := by
  induction c with
  | nil => rfl
  | cons p r ih =>
    show (decide ((Sum.inr p.1 : Key) = Sum.inr k) || (dE f r).any _) = decide (k ∈ p.1 :: keyT r)
    rw [ih, Bool.eq_iff_iff]
    simp only [Bool.or_eq_true, decide_eq_true_eq, List.mem_cons, Sum.inr.injEq]
    constructor
    · rintro (h | h)
      · exact .inl h.symm
      · exact .inr h
    · rintro (h | h)
      · exact .inl h.symm
      · exact .inr h
theorem dE_put (f : α → D) (c : List (Str × α)) (k : Str) (v : α) : putKD (dE f c) (.inr k) (f v) = dE f (putT c k v) := by
  unfold putKD putT
  rw [dE_any]
  by_cases h : k ∈ keyT c
  · rw [if_pos (decide_eq_true h), if_pos h]
    unfold dE
    rw [List.map_map, List.map_map]
    refine List.map_congr_left fun p _ => ?_
    by_cases hp : p.1 = k
    · simp [hp]
    · simp [hp]
  · rw [if_neg (by rw [decide_eq_true_eq]; exact h), if_neg h]
    unfold dE
    rw [List.map_append]
    rfl
theorem dE_val (f : α → D) (c : List (Str × α)) (k : Str) : valD (dkv (dE f c)) (.inr k) = (getT c k).map f := by
  induction c with
  | nil => rfl
  | cons p r ih =>
    rw [getT_cons]
    show (if keyD (kD (.inr p.1)) = some (.inr k) then some (f p.2) else valD (dkv (dE f r)) (.inr k)) = _
    rw [keyD_kD, ih]
    by_cases h : p.1 = k
    · simp [h]
    · simp [h]
theorem dE_keys (f : α → D) (c : List (Str × α)) : (dkv (dE f c)).map (·.1) = (keyT c).map PyData.str := by
  unfold dkv dE keyT
  rw [List.map_map, List.map_map, List.map_map]
  rfl
theorem dE_vals (f : α → D) (c : List (Str × α)) : (dkv (dE f c)).map (·.2) = c.map fun p => f p.2 := by
  unfold dkv dE
  rw [List.map_map, List.map_map]
  rfl
theorem dE_len (f : α → D) (c : List (Str × α)) : (dkv (dE f c)).length = c.length := by
  unfold dkv dE
  rw [List.length_map, List.length_map]
theorem strs_all (l : List Str) : (l.map PyData.str).all isStrD = true := by
  induction l with
  | nil => rfl
  | cons t r ih => simp [isStrD]
theorem sorted_dE (f : α → D) (c : List (Str × α)) (h : c.length < 64) : sortedD [.dict (dkv (dE f c))] = some (.new (.lst ((sortS (keyT c)).map PyData.str))) := by
  unfold sortedD
  simp only []
  rw [if_pos, dE_keys, sortD_str]
  rw [dE_keys, dE_len]
  exact ⟨strs_all _, h⟩
/-- dict(pairs) -/
def encP (f : α → D) (p : Str × α) : D := .tuple [.str p.1, f p.2]
theorem pairsD_enc (f : α → D) (c : List (Str × α)) : pairsD (c.map (encP f)) = some (dE f c) := by
  induction c with
  | nil => rfl
  | cons p r ih =>
    rw [List.map_cons]
    unfold pairsD
    rw [ih]
    rfl
theorem merge_dE (f : α → D) : ∀ (st c : List (Str × α)), mergeKD (dE f c) (dE f st) = dE f (st.foldl (fun c p => putT c p.1 p.2) c)
  | [], c => rfl
  | p :: r, c => by
    show mergeKD (putKD (dE f c) (.inr p.1) (f p.2)) (dE f r) = _
    rw [dE_put, merge_dE f r]
    rfl
theorem fold_put : ∀ (st c : List (Str × α)), (keyT (c ++ st)).Nodup → st.foldl (fun c p => putT c p.1 p.2) c = c ++ st
  | [], c, _ => by simp
  | p :: r, c, h => by
    have hp : p.1 ∉ keyT c := by
      intro hm
      unfold keyT at h hm
      rw [List.map_append, List.nodup_append] at h
      exact h.2.2 _ hm _ (List.mem_map.mpr ⟨p, List.mem_cons_self, rfl⟩) rfl
    rw [List.foldl_cons]
    have e : putT c p.1 p.2 = c ++ [p] := by
      unfold putT
      rw [if_neg hp]
    rw [e, fold_put r (c ++ [p]) (by rw [List.append_assoc]; exact h), List.append_assoc]
    rfl
theorem dict_pairs (f : α → D) {st : List (Str × α)} (h : (keyT st).Nodup) : dictD [.tuple (st.map (encP f))] = some (.new (.dic (dE f st))) := by
  unfold dictD
  simp only []
  rw [pairsD_enc]
  show some (R.new (.dic (mergeKD (dE f []) (dE f st)))) = _
  rw [merge_dE, fold_put st [] (by simpa using h)]
  rfl
end
/-! sorted lists with the same members -/
theorem sort_unique {l m : List Str} (h1 : l.Pairwise fun a b => leS a b = true) (h2 : m.Pairwise fun a b => leS a b = true) (n1 : l.Nodup) (n2 : m.Nodup) (h : ∀ a, a ∈ l ↔ a ∈ m) : l = m :=
  List.Perm.eq_of_pairwise (fun a b _ _ h1 h2 => leS_antisymm h1 h2) h1 h2 ((List.perm_ext_iff_of_nodup n1 n2).mpr h)
end L3

namespace L3
open PySem PySem.Spec PyProof.Rows
/-! values of any kind that can be shown: how long their text is at most -/
mutual
def okX : D → Bool
  | .none => true
  | .bool _ => true
  | .int i => decide (i.natAbs < 10 ^ 60)
  | .str x => PyData.strOk x
  | .list xs => okXL xs
  | .tuple xs => okXL xs
  | .dict kvs => okXK kvs
def okXL : List D → Bool
  | [] => true
  | x :: xs => okX x && okXL xs
def okXK : List (D × D) → Bool
  | [] => true
  | (k, v) :: r => okX k && okX v && okXK r
end
mutual
def wX : D → Nat
  | .none => 4
  | .bool _ => 5
  | .int _ => 61
  | .str x => 10 * x.length + 2
  | .list xs => 2 + wXL xs
  | .tuple xs => 3 + wXL xs
  | .dict kvs => 2 + wXK kvs
def wXL : List D → Nat
  | [] => 0
  | x :: xs => wX x + 2 + wXL xs
def wXK : List (D × D) → Nat
  | [] => 0
  | (k, v) :: r => wX k + wX v + 4 + wXK r
end
mutual
theorem okX_show : ∀ d : D, okX d = true → d.showable = true
  | .none, _ => by simp only [PyData.showable]
  | .bool _, _ => by simp only [PyData.showable]
  | .int i, h => by
    have h' : i.natAbs < 10 ^ 60 := by simpa only [okX, decide_eq_true_eq] using h
    simp only [PyData.showable, decide_eq_true_eq]
    by_cases h0 : i.natAbs = 0
    · rw [h0]; decide
    · have h1 : (10 : Nat) ^ 60 ≤ 2 ^ 200 := by decide +kernel
      have := (Nat.log2_lt h0 (k := 200)).mpr (by omega)
      omega
  | .str x, h => by simp only [PyData.showable]
  | .list xs, h => by simp only [PyData.showable]; exact okXL_show xs (by simpa only [okX] using h)
  | .tuple xs, h => by simp only [PyData.showable]; exact okXL_show xs (by simpa only [okX] using h)
  | .dict kvs, h => by simp only [PyData.showable]; exact okXK_show kvs (by simpa only [okX] using h)
theorem okXL_show : ∀ ds : List D, okXL ds = true → PyData.showableAll ds = true
  | [], _ => by simp only [PyData.showableAll]
  | d :: ds, h => by
    have h' : okX d = true ∧ okXL ds = true := by simpa only [okXL, Bool.and_eq_true] using h
    simp only [PyData.showableAll, okX_show d h'.1, okXL_show ds h'.2, Bool.and_self]
theorem okXK_show : ∀ ds : List (D × D), okXK ds = true → PyData.showableKv ds = true
  | [], _ => by simp only [PyData.showableKv]
  | (k, v) :: ds, h => by
    have h' : (okX k = true ∧ okX v = true) ∧ okXK ds = true := by simpa only [okXK, Bool.and_eq_true] using h
    simp only [PyData.showableKv, okX_show k h'.1.1, okX_show v h'.1.2, okXK_show ds h'.2, Bool.and_self]
end
theorem dictText_le (ts : List Str) : (dictText ts).length ≤ 2 + sumL ts := by
  unfold dictText
  rw [strLen_append, strLen_append]
  have h := join_le ts
  have e1 : (("{" : String) : Str).length = 1 := rfl
  have e2 : (("}" : String) : Str).length = 1 := rfl
  omega
mutual
theorem shownX_le : ∀ d : D, okX d = true → d.shown.length ≤ wX d
  | .none, _ => by simp only [PyData.shown, wX]; decide
  | .bool b, _ => by cases b <;> simp only [PyData.shown, wX] <;> decide
  | .int i, h => by
    have h' : i.natAbs < 10 ^ 60 := by simpa only [okX, decide_eq_true_eq] using h
    simp only [PyData.shown, wX]
    rw [PySem.ofString_length]
    exact int_text_length_le10 (by decide) h'
  | .str x, h => by
    have h' : PyData.strOk x = true := by simpa only [okX] using h
    simp only [PyData.shown, wX]
    refine PySem.StrLaws.reprText_len x fun c hc => ?_
    unfold PyData.strOk at h'
    rw [← Array.all_toList, List.all_eq_true] at h'
    have := h' c hc
    rw [decide_eq_true_eq] at this
    omega
  | .list xs, h => by
    have h' : okXL xs = true := by simpa only [okX] using h
    simp only [PyData.shown, wX]
    exact Nat.le_trans (listText_le _) (Nat.add_le_add_left (shownXL_le xs h') 2)
  | .tuple xs, h => by
    have h' : okXL xs = true := by simpa only [okX] using h
    simp only [PyData.shown, wX]
    exact Nat.le_trans (tupleText_le _) (Nat.add_le_add_left (shownXL_le xs h') 3)
  | .dict kvs, h => by
    have h' : okXK kvs = true := by simpa only [okX] using h
    simp only [PyData.shown, wX]
    exact Nat.le_trans (dictText_le _) (Nat.add_le_add_left (shownXK_le kvs h') 2)
theorem shownXL_le : ∀ ds : List D, okXL ds = true → sumL (PyData.shownAll ds) ≤ wXL ds
  | [], _ => by simp only [PyData.shownAll, sumL, wXL]; omega
  | d :: ds, h => by
    have h' : okX d = true ∧ okXL ds = true := by simpa only [okXL, Bool.and_eq_true] using h
    simp only [PyData.shownAll, sumL, wXL]
    have h1 := shownX_le d h'.1
    have h2 := shownXL_le ds h'.2
    omega
theorem shownXK_le : ∀ ds : List (D × D), okXK ds = true → sumL (PyData.shownKv ds) ≤ wXK ds
  | [], _ => by simp only [PyData.shownKv, sumL, wXK]; omega
  | (k, v) :: ds, h => by
    have h' : (okX k = true ∧ okX v = true) ∧ okXK ds = true := by simpa only [okXK, Bool.and_eq_true] using h
    simp only [PyData.shownKv, sumL, wXK]
    have h0 := shownX_le k h'.1.1
    have h1 := shownX_le v h'.1.2
    have h2 := shownXK_le ds h'.2
    rw [strLen_append, strLen_append]
    have e1 : ((": " : String) : Str).length = 2 := rfl
    omega
end
/-- what repr may be asked of -/
structure Tm (n w : Nat) (d : D) : Prop where
  ok : okX d = true
  fl : d.hasDict = false ∨ noLs d = true
  dep : d.depth ≤ n
  wt : wX d ≤ w
structure Pl (n w : Nat) (d : D) : Prop where
  ok : okX d = true
  nd : d.hasDict = false
  nl : noLs d = true
  dep : d.depth ≤ n
  wt : wX d ≤ w
theorem Pl.tm {n w : Nat} {d : D} (h : Pl n w d) : Tm n w d := ⟨h.ok, .inl h.nd, h.dep, h.wt⟩
theorem Tm.mono {n w m v : Nat} {d : D} (h : Tm n w d) (a : n ≤ m) (b : w ≤ v) : Tm m v d := ⟨h.ok, h.fl, Nat.le_trans h.dep a, Nat.le_trans h.wt b⟩
theorem Pl.mono {n w m v : Nat} {d : D} (h : Pl n w d) (a : n ≤ m) (b : w ≤ v) : Pl m v d := ⟨h.ok, h.nd, h.nl, Nat.le_trans h.dep a, Nat.le_trans h.wt b⟩
theorem Tm.repr {n w : Nat} {d : D} (h : Tm n w d) (hn : n ≤ 64) (hw : w ≤ 16777216) : reprE [d] = some (.dat (.str d.shown)) := by
  unfold reprE
  simp only []
  rw [if_pos]
  unfold reprOk
  rw [Bool.and_eq_true, Bool.and_eq_true, Bool.and_eq_true]
  refine ⟨⟨⟨?_, okX_show d h.ok⟩, decide_eq_true (Nat.le_trans h.dep hn)⟩, decide_eq_true (Nat.le_trans (shownX_le d h.ok) (by rw [sizeLine_eq]; exact Nat.le_trans h.wt hw))⟩
  rcases h.fl with z | z
  · rw [z]; rfl
  · rw [z, Bool.or_true]
/-! lists of such -/
def PlL (n : Nat) (w : Nat) (ds : List D) : Prop := (okXL ds = true ∧ PyData.hasDictAll ds = false ∧ noLsA ds = true ∧ PyData.depthAll ds ≤ n) ∧ wXL ds ≤ w
def TmL (n : Nat) (w : Nat) (ds : List D) : Prop := (okXL ds = true ∧ (PyData.hasDictAll ds = false ∨ noLsA ds = true) ∧ PyData.depthAll ds ≤ n) ∧ wXL ds ≤ w
theorem PlL.nil {n w : Nat} : PlL n w [] := ⟨⟨rfl, rfl, rfl, Nat.zero_le _⟩, Nat.zero_le _⟩
theorem PlL.cons {n a b : Nat} {d : D} {ds : List D} (h : Pl n a d) (t : PlL n b ds) : PlL n (a + 2 + b) (d :: ds) := by
  obtain ⟨⟨t1, t2, t3, t4⟩, t5⟩ := t
  refine ⟨⟨by rw [okXL, h.ok, t1]; rfl, by rw [PyData.hasDictAll, h.nd, t2]; rfl, by rw [noLsA, h.nl, t3]; rfl, by rw [PyData.depthAll]; exact Nat.max_le.mpr ⟨h.dep, t4⟩⟩, by have := h.wt; rw [wXL]; omega⟩
theorem PlL.tup {n w : Nat} {ds : List D} (h : PlL n w ds) : Pl (n + 1) (w + 3) (.tuple ds) := by
  obtain ⟨⟨t1, t2, t3, t4⟩, t5⟩ := h
  exact ⟨by rw [okX]; exact t1, by rw [PyData.hasDict]; exact t2, by rw [noLs]; exact t3, by rw [PyData.depth]; omega, by rw [wX]; omega⟩
theorem PlL.lst {n w : Nat} {ds : List D} (h : PlL n w ds) : Tm (n + 1) (w + 3) (.list ds) := by
  obtain ⟨⟨t1, t2, t3, t4⟩, t5⟩ := h
  exact ⟨by rw [okX]; exact t1, .inl (by rw [PyData.hasDict]; exact t2), by rw [PyData.depth]; omega, by rw [wX]; omega⟩
theorem TmL.tup {n w : Nat} {ds : List D} (h : TmL n w ds) : Tm (n + 1) (w + 3) (.tuple ds) := by
  obtain ⟨⟨t1, t2, t4⟩, t5⟩ := h
  exact ⟨by rw [okX]; exact t1, by rw [PyData.hasDict, noLs]; exact t2, by rw [PyData.depth]; omega, by rw [wX]; omega⟩
theorem okXL_app (a b : List D) : okXL (a ++ b) = (okXL a && okXL b) := by
  induction a with
  | nil => simp [okXL]
  | cons d r ih => rw [List.cons_append, okXL, okXL, ih, Bool.and_assoc]
theorem dict_app (a b : List D) : PyData.hasDictAll (a ++ b) = (PyData.hasDictAll a || PyData.hasDictAll b) := by
  induction a with
  | nil => simp [PyData.hasDictAll]
  | cons d r ih => rw [List.cons_append, PyData.hasDictAll, PyData.hasDictAll, ih, Bool.or_assoc]
theorem noLs_app (a b : List D) : noLsA (a ++ b) = (noLsA a && noLsA b) := by
  induction a with
  | nil => simp [noLsA]
  | cons d r ih => rw [List.cons_append, noLsA, noLsA, ih, Bool.and_assoc]
theorem depth_app (a b : List D) : PyData.depthAll (a ++ b) = max (PyData.depthAll a) (PyData.depthAll b) := by
  induction a with
  | nil => simp [PyData.depthAll]
  | cons d r ih => rw [List.cons_append, PyData.depthAll, PyData.depthAll, ih, Nat.max_assoc]
theorem wX_app (a b : List D) : wXL (a ++ b) = wXL a + wXL b := by
  induction a with
  | nil => simp [wXL]
  | cons d r ih => rw [List.cons_append, wXL, wXL, ih]; omega
theorem PlL.app {n v w : Nat} {a b : List D} (h : PlL n v a) (t : PlL n w b) : PlL n (v + w) (a ++ b) := by
  obtain ⟨⟨h1, h2, h3, h4⟩, h5⟩ := h
  obtain ⟨⟨t1, t2, t3, t4⟩, t5⟩ := t
  refine ⟨⟨by rw [okXL_app, h1, t1]; rfl, by rw [dict_app, h2, t2]; rfl, by rw [noLs_app, h3, t3]; rfl, by rw [depth_app]; exact Nat.max_le.mpr ⟨h4, t4⟩⟩, by rw [wX_app]; omega⟩
theorem PlL.mono {n m v w : Nat} {a : List D} (h : PlL n v a) (x : n ≤ m) (y : v ≤ w) : PlL m w a := ⟨⟨h.1.1, h.1.2.1, h.1.2.2.1, Nat.le_trans h.1.2.2.2 x⟩, Nat.le_trans h.2 y⟩
theorem PlL.tmL {n v : Nat} {a : List D} (h : PlL n v a) : TmL n v a := ⟨⟨h.1.1, .inl h.1.2.1, h.1.2.2.2⟩, h.2⟩
/-- one item may be anything -/
theorem PlL.mid {n m v w x : Nat} {a b : List D} {d : D} (h : PlL n v a) (t : Tm m x d) (u : PlL n w b) : TmL (max n m) (v + (x + 2) + w) (a ++ [d] ++ b) := by
  obtain ⟨⟨h1, h2, h3, h4⟩, h5⟩ := h
  obtain ⟨⟨u1, u2, u3, u4⟩, u5⟩ := u
  have o1 : okXL [d] = true := by rw [okXL, t.ok]; rfl
  have w1 : wXL [d] = wX d + 2 := rfl
  have d1 : PyData.depthAll [d] = d.depth := by rw [PyData.depthAll, PyData.depthAll]; omega
  have tw := t.wt
  have td := t.dep
  refine ⟨⟨by rw [okXL_app, okXL_app, h1, o1, u1]; rfl, ?_, ?_⟩, by rw [wX_app, wX_app, w1]; omega⟩
  · rw [dict_app, dict_app, noLs_app, noLs_app, h2, u2, h3, u3]
    rcases t.fl with z | z
    · left; rw [PyData.hasDictAll, PyData.hasDictAll, z]; rfl
    · right; rw [noLsA, noLsA, z]; rfl
  · rw [depth_app, depth_app, d1]
    omega
theorem PlL.split {n w : Nat} {ds : List D} (h : PlL n w ds) (i : Nat) : ∃ a b, a + b ≤ w ∧ PlL n a (ds.take i) ∧ PlL n b (ds.drop i) := by
  obtain ⟨⟨h1, h2, h3, h4⟩, h5⟩ := h
  have e := List.take_append_drop i ds
  have e1 : okXL (ds.take i ++ ds.drop i) = true := by rw [e]; exact h1
  have e2 : PyData.hasDictAll (ds.take i ++ ds.drop i) = false := by rw [e]; exact h2
  have e3 : noLsA (ds.take i ++ ds.drop i) = true := by rw [e]; exact h3
  have e4 : PyData.depthAll (ds.take i ++ ds.drop i) ≤ n := by rw [e]; exact h4
  have e5 : wXL (ds.take i ++ ds.drop i) ≤ w := by rw [e]; exact h5
  rw [okXL_app, Bool.and_eq_true] at e1
  rw [dict_app, Bool.or_eq_false_iff] at e2
  rw [noLs_app, Bool.and_eq_true] at e3
  rw [depth_app] at e4
  rw [wX_app] at e5
  exact ⟨wXL (ds.take i), wXL (ds.drop i), e5, ⟨⟨e1.1, e2.1, e3.1, by omega⟩, Nat.le_refl _⟩, ⟨⟨e1.2, e2.2, e3.2, by omega⟩, Nat.le_refl _⟩⟩
theorem PlL.get {n w : Nat} {ds : List D} (h : PlL n w ds) {i : Nat} {d : D} (e : ds[i]? = some d) : ∃ x, Pl n x d ∧ ds.drop i = d :: ds.drop (i + 1) ∧ ∃ a b, a + (x + 2) + b ≤ w ∧ PlL n a (ds.take i) ∧ PlL n b (ds.drop (i + 1)) := by
  obtain ⟨a, b, hab, h1, h2⟩ := h.split i
  obtain ⟨hi, e'⟩ := List.getElem?_eq_some_iff.mp e
  have ed : ds.drop i = d :: ds.drop (i + 1) := by rw [List.drop_eq_getElem_cons hi, e']
  rw [ed] at h2
  obtain ⟨⟨t1, t2, t3, t4⟩, t5⟩ := h2
  rw [okXL, Bool.and_eq_true] at t1
  rw [PyData.hasDictAll, Bool.or_eq_false_iff] at t2
  rw [noLsA, Bool.and_eq_true] at t3
  rw [PyData.depthAll] at t4
  rw [wXL] at t5
  exact ⟨wX d, ⟨t1.1, t2.1, t3.1, by omega, Nat.le_refl _⟩, ed, a, wXL (ds.drop (i + 1)), by omega, h1, ⟨⟨t1.2, t2.2, t3.2, by omega⟩, Nat.le_refl _⟩⟩
end L3

namespace K05
open PySem L3
noncomputable section
/-- _law_alike(_law_found, _law_due); slots: _law_found, _law_due -/
def b__law_alike : MS := (mret (mandV (m2 eqD (mvar 0) (mvar 1)) (m2 eqD (mn reprE (mcons (mvar 0) mnil)) (mn reprE (mcons (mvar 1) mnil)))))
def m_law_alike : MF := mdef 2 b__law_alike
/-- _law_bag(_law_script); slots: _law_script, _law_cell -/
def M__law_bag_1 : ME := (mn absD (mcons (mvar 1) mnil))
def b__law_bag : MS := (mret (mlst (mcons (mcon (.int 0)) (mcons (mcon (.int 1234567891)) (mcons (mcon (.int 0)) (mcons (mlc (miseqC (msl slD (mvar 0) monone (mosome (mcon (.int 63))))) (gnm 1) myes M__law_bag_1 [1]) mnil))))))
def m_law_bag : MF := mdef 2 b__law_bag
/-- _law_parts(_law_decl); slots: _law_decl, _law_name, _law_kind -/
def T__law_parts_1 : MT := (mtst (m2 isNotD (mvar 2) (mcon .none)))
def M__law_parts_1 : ME := (mvar 2)
def b__law_parts : MS := (mseq (mifS (mtst (m2 notInD (m2 ixD (mvar 0) (mcon (.int 0))) (mtup (mcons (mcon (.str (Str.ofString "record"))) (mcons (mcon (.str (Str.ofString "choice"))) mnil))))) (mret (mlst mnil)) mpass)
    (mret (mlc (miseqC (m2 ixD (mvar 0) (mcon (.int 2)))) (gtup [1, 2]) T__law_parts_1 M__law_parts_1 [1, 2])))
def m_law_parts : MF := mdef 3 b__law_parts
/-- _law_once_table(_law_decls); slots: _law_decls, _law_found, _law_decl, _law_part -/
def T__law_once_table_1 : MT := (mtru (m2 ixD (mvar 1) (mvar 3)))
def M__law_once_table_1 : ME := (mvar 3)
def L__law_once_table_2 : MS := (mifS (mtst (m2 inD (m2 ixD (mvar 2) (mcon (.int 0))) (mtup (mcons (mcon (.str (Str.ofString "plain"))) (mcons (mcon (.str (Str.ofString "once"))) (mcons (mcon (.str (Str.ofString "record"))) (mcons (mcon (.str (Str.ofString "choice"))) mnil))))))) (mput 1 (m2 ixD (mvar 2) (mcon (.int 1))) (morV (m2 eqD (m2 ixD (mvar 2) (mcon (.int 0))) (mcon (.str (Str.ofString "once")))) (m2 neD (mlc (miseqC (mcall m_law_parts (mcons (mvar 2) mnil))) (gnm 3) T__law_once_table_1 M__law_once_table_1 [3]) (mlst mnil)))) mpass)
def b__law_once_table : MS := (mseq (masg 1 (mdic [(.inr (Str.ofString "num"), .bool false), (.inr (Str.ofString "truth"), .bool false)]))
    (mseq (mfor (miseq (mvar 0)) (gnm 2) L__law_once_table_2)
    (mret (mvar 1))))
def m_law_once_table : MF := mdef 4 b__law_once_table
/-- _law_bounded(_law_decls, _law_functions); slots: _law_decls, _law_functions, _law_is_beyond, _law_table, _law_many, _law_decl, _law_is_so -/
def T__law_bounded_1 : MT := (mtst (m2 inD (m2 ixD (mvar 5) (mcon (.int 0))) (mtup (mcons (mcon (.str (Str.ofString "given"))) (mcons (mcon (.str (Str.ofString "def"))) mnil)))))
def M__law_bounded_1 : ME := (mvar 5)
def T__law_bounded_2 : MT := (mtru (mvar 6))
def M__law_bounded_2 : ME := (mvar 6)
def C__law_bounded_3 : MT := (mtru (mvar 2))
def L__law_bounded_3 : MS := (mseq (masg 3 (m1 valuesD (mcall m_law_once_table (mcons (mvar 0) mnil))))
    (mseq (masg 4 (mn lenD (mcons (mlc (miseqC (mvar 0)) (gnm 5) T__law_bounded_1 M__law_bounded_1 [5]) mnil)))
    (mseq (masg 2 (morV (m2 gtD (mn lenD (mcons (mlc (miseqC (mvar 3)) (gnm 6) T__law_bounded_2 M__law_bounded_2 [6]) mnil)) (mcon (.int 6))) (morV (m2 gtD (mm "list" countD (mvar 3) (mcons (mcon (.bool false)) mnil)) (mcon (.int 7))) (m2 gtD (mvar 4) (mvar 1)))))
    (masg 0 (mif (mtru (mvar 2)) (msl slD (mvar 0) monone (mosome (m1 negD (mcon (.int 1))))) (mvar 0))))))
def b__law_bounded : MS := (mseq (mpar 0 2 (mn tupleD (mcons (mvar 0) mnil)) (mcon (.bool true)))
    (mseq (mwh C__law_bounded_3 L__law_bounded_3)
    (mret (mvar 0))))
def m_law_bounded : MF := mdef 7 b__law_bounded
/-- _law_holding(_law_decls, _law_other); slots: _law_decls, _law_other, _law_found, _law_decl, _law_part -/
def T__law_holding_1 : MT := (mtst (m2 inD (mvar 4) (mvar 2)))
def M__law_holding_1 : ME := (mvar 4)
def L__law_holding_2 : MS := (mifS (mtst (m2 neD (mlc (miseqC (mcall m_law_parts (mcons (mvar 3) mnil))) (gnm 4) T__law_holding_1 M__law_holding_1 [4]) (mlst mnil))) (mdrop (mmut "list" 2 appendD (mcons (m2 ixD (mvar 3) (mcon (.int 1))) mnil))) mpass)
def b__law_holding : MS := (mseq (masg 2 (mlst (mcons (mvar 1) mnil)))
    (mseq (mfor (miseq (mvar 0)) (gnm 3) L__law_holding_2)
    (mret (mvar 2))))
def m_law_holding : MF := mdef 5 b__law_holding
/-- _law_is_once(_law_decls, _law_kind); slots: _law_decls, _law_kind -/
def b__law_is_once : MS := (mret (m2 ixD (mcall m_law_once_table (mcons (mvar 0) mnil)) (mvar 1)))
def m_law_is_once : MF := mdef 2 b__law_is_once
/-- _law_is_int(_law_thing); slots: _law_thing -/
def b__law_is_int : MS := (mret (mandV (misi "int" (mvar 0)) (mnotV (misi "bool" (mvar 0)))))
def m_law_is_int : MF := mdef 1 b__law_is_int
/-- _law_kinds(_law_decls); slots: _law_decls, _law_decl -/
def T__law_kinds_1 : MT := (mtst (m2 inD (m2 ixD (mvar 1) (mcon (.int 0))) (mtup (mcons (mcon (.str (Str.ofString "plain"))) (mcons (mcon (.str (Str.ofString "once"))) (mcons (mcon (.str (Str.ofString "record"))) (mcons (mcon (.str (Str.ofString "choice"))) mnil)))))))
def M__law_kinds_1 : ME := (m2 ixD (mvar 1) (mcon (.int 1)))
def b__law_kinds : MS := (mret (m2 addD (mlst (mcons (mcon (.str (Str.ofString "num"))) (mcons (mcon (.str (Str.ofString "truth"))) mnil))) (mlc (miseqC (mvar 0)) (gnm 1) T__law_kinds_1 M__law_kinds_1 [1])))
def m_law_kinds : MF := mdef 2 b__law_kinds
/-- _law_is_stock(_law_decls, _law_thing); slots: _law_decls, _law_thing, _law_kinds_here, _law_one, _law_at -/
def L__law_is_stock_1 : MS := (mseq (mifS (morT (mnot (mtru (misi "tuple" (mvar 3)))) (morT (mtst (m2 neD (mn lenD (mcons (mvar 3) mnil)) (mcon (.int 2)))) (morT (mnot (mtru (misi "str" (m2 ixD (mvar 3) (mcon (.int 0)))))) (mnot (mtru (mcall m_law_is_int (mcons (m2 ixD (mvar 3) (mcon (.int 1))) mnil))))))) (mret (mcon (.bool false))) mpass)
    (mifS (morT (mtst (m2 notInD (m2 ixD (mvar 3) (mcon (.int 0))) (mvar 2))) (morT (mtst (m2 ltD (m2 ixD (mvar 3) (mcon (.int 1))) (mcon (.int 1)))) (mandT (mtst (m2 gtD (m2 ixD (mvar 3) (mcon (.int 1))) (mcon (.int 1)))) (mnot (mtru (mcall m_law_is_once (mcons (mvar 0) (mcons (m2 ixD (mvar 3) (mcon (.int 0))) mnil)))))))) (mret (mcon (.bool false))) mpass))
def T__law_is_stock_2 : MT := (mtst (m2 geD (m2 ixD (m2 ixD (mvar 1) (mvar 4)) (mcon (.int 0))) (m2 ixD (m2 ixD (mvar 1) (m2 addD (mvar 4) (mcon (.int 1)))) (mcon (.int 0)))))
def M__law_is_stock_2 : ME := (mvar 4)
def b__law_is_stock : MS := (mseq (masg 2 (msl slD (mcall m_law_kinds (mcons (mvar 0) mnil)) (mosome (mcon (.int 2))) monone))
    (mseq (mifS (mnot (mtru (misi "tuple" (mvar 1)))) (mret (mcon (.bool false))) mpass)
    (mseq (mfor (miseq (mvar 1)) (gnm 3) L__law_is_stock_1)
    (mret (m2 eqD (mlc (mirng1 (mcons (m2 subD (mn lenD (mcons (mvar 1) mnil)) (mcon (.int 1))) mnil)) (gnm 4) T__law_is_stock_2 M__law_is_stock_2 [4]) (mlst mnil))))))
def m_law_is_stock : MF := mdef 5 b__law_is_stock
/-- _law_declared(_law_decls); slots: _law_decls, _law_found, _law_decl, _law_arm, _law_kind -/
def M__law_declared_1 : ME := (m2 ixD (mvar 2) (mcon (.int 1)))
def M__law_declared_2 : ME := (mvar 3)
def L__law_declared_3 : MS := (mifS (mtst (m2 eqD (m2 ixD (mvar 2) (mcon (.int 0))) (mcon (.str (Str.ofString "choice"))))) (mdrop (mmut "list" 1 extendD (mcons (mlc (miseqC (m2 ixD (mvar 2) (mcon (.int 2)))) (gtup [3, 4]) myes M__law_declared_2 [3, 4]) mnil))) mpass)
def b__law_declared : MS := (mseq (masg 1 (mlc (miseqC (mvar 0)) (gnm 2) myes M__law_declared_1 [2]))
    (mseq (mfor (miseq (mvar 0)) (gnm 2) L__law_declared_3)
    (mret (mvar 1))))
def m_law_declared : MF := mdef 5 b__law_declared
/-- _law_take(_law_bag_here, _law_many); slots: _law_bag_here, _law_many, _law_begin, _law_second, _law_cell, _law_stirred, _law_value -/
def b__law_take : MS := (mseq (mifS (mtst (m2 eqD (m2 ixD (mvar 0) (mcon (.int 0))) (mcon (.int 0)))) (mseq (masg 4 (m2 ixD (m2 addD (msl slD (m2 ixD (mvar 0) (mcon (.int 3))) (mosome (m2 ixD (mvar 0) (mcon (.int 2)))) monone) (mlst (mcons (mcon (.int 0)) mnil))) (mcon (.int 0))))
    (mseq (maugL 0 addI (mcon (.int 2)) (mcon (.int 1)))
    (mseq (mifS (mtst (m2 geD (mvar 4) (m2 powD (mcon (.int 10)) (mcon (.int 18))))) (mput 0 (mcon (.int 0)) (mvar 4)) mpass)
    (mseq (masg 5 (m2 addD (m2 addD (m2 mulD (m2 ixD (mvar 0) (mcon (.int 1))) (mcon (.int 48271))) (m2 modD (mn intD (mcons (mvar 4) mnil)) (mcon (.int 2147483647)))) (m2 mulD (mcon (.int 7919)) (m2 ixD (mvar 0) (mcon (.int 2))))))
    (mput 0 (mcon (.int 1)) (m2 modD (mn intD (mcons (mvar 5) mnil)) (mcon (.int 2147483647)))))))) mpass)
    (mseq (mifS (mtst (m2 gtD (m2 ixD (mvar 0) (mcon (.int 0))) (mcon (.int 0)))) (mseq (masg 6 (m2 modD (mn intD (mcons (m2 ixD (mvar 0) (mcon (.int 0))) mnil)) (mvar 1)))
    (mseq (mput 0 (mcon (.int 0)) (m2 fdivD (mn intD (mcons (m2 ixD (mvar 0) (mcon (.int 0))) mnil)) (mvar 1)))
    (mret (mvar 6)))) mpass)
    (mseq (masg 2 (m2 modD (mn intD (mcons (m2 mulD (m2 addD (m2 ixD (mvar 0) (mcon (.int 1))) (mcon (.int 1))) (mcon (.int 39373))) mnil)) (mcon (.int 1000000007))))
    (mseq (masg 3 (m2 modD (mn intD (mcons (m2 mulD (m2 modD (mn intD (mcons (m2 mulD (mvar 2) (mvar 2)) mnil)) (mcon (.int 998244353))) (mcon (.int 30011))) mnil)) (mcon (.int 998244353))))
    (mret (m2 modD (mn intD (mcons (m2 fdivD (mvar 3) (mcon (.int 7))) mnil)) (mvar 1)))))))
def m_law_take : MF := mdef 7 b__law_take
/-- _law_mixed(_law_bag_here, _law_things); slots: _law_bag_here, _law_things, _law_found, _law_thing -/
def L__law_mixed_1 : MS := (mdrop (mmut "list" 2 insertD (mcons (mcall m_law_take (mcons (mvar 0) (mcons (m2 addD (mn lenD (mcons (mvar 2) mnil)) (mcon (.int 1))) mnil))) (mcons (mvar 3) mnil))))
def b__law_mixed : MS := (mseq (masg 2 (mlst mnil))
    (mseq (mfor (miseq (mvar 1)) (gnm 3) L__law_mixed_1)
    (mret (mvar 2))))
def m_law_mixed : MF := mdef 4 b__law_mixed
/-- _law_some(_law_bag_here, _law_things); slots: _law_bag_here, _law_things -/
def b__law_some : MS := (mret (m2 ixD (mvar 1) (mcall m_law_take (mcons (mvar 0) (mcons (mn lenD (mcons (mvar 1) mnil)) mnil)))))
def m_law_some : MF := mdef 2 b__law_some
/-- _law_new_name(_law_bag_here, _law_taken); slots: _law_bag_here, _law_taken, _law_menu, _law_turn, _law_at, _law_name -/
def L__law_new_name_1 : MS := (mseq (masg 5 (mcall m_law_some (mcons (mvar 0) (mcons (mvar 2) mnil))))
    (mifS (mtst (m2 notInD (mvar 5) (mvar 1))) (mret (mvar 5)) mpass))
def C__law_new_name_2 : MT := (mtst (m2 inD (m2 addD (mcon (.str (Str.ofString "n"))) (mn strD (mcons (mvar 4) mnil))) (mvar 1)))
def L__law_new_name_2 : MS := (maug 4 addI (mcon (.int 1)))
def b__law_new_name : MS := (mseq (masg 2 (mlst (mcons (mcon (.str (Str.ofString "a"))) (mcons (mcon (.str (Str.ofString "b"))) (mcons (mcon (.str (Str.ofString "k"))) (mcons (mcon (.str (Str.ofString "x"))) (mcons (mcon (.str (Str.ofString "y"))) (mcons (mcon (.str (Str.ofString "z"))) (mcons (mcon (.str (Str.ofString "p"))) (mcons (mcon (.str (Str.ofString "q"))) (mcons (mcon (.str (Str.ofString "box"))) (mcons (mcon (.str (Str.ofString "key"))) (mcons (mcon (.str (Str.ofString "lock"))) (mcons (mcon (.str (Str.ofString "made"))) (mcons (mcon (.str (Str.ofString "last"))) (mcons (mcon (.str (Str.ofString "in"))) (mcons (mcon (.str (Str.ofString "to"))) (mcons (mcon (.str (Str.ofString "s1"))) (mcons (mcon (.str (Str.ofString "r2d2"))) mnil)))))))))))))))))))
    (mseq (mfor (mirng1 (mcons (mcon (.int 2)) mnil)) (gnm 3) L__law_new_name_1)
    (mseq (masg 4 (mcon (.int 0)))
    (mseq (mwh C__law_new_name_2 L__law_new_name_2)
    (mret (m2 addD (mcon (.str (Str.ofString "n"))) (mn strD (mcons (mvar 4) mnil))))))))
def m_law_new_name : MF := mdef 6 b__law_new_name
/-- _law_shaped(_law_bag_here, _law_decls, _law_word); slots: _law_bag_here, _law_decls, _law_word, _law_taken, _law_kinds_here, _law_name, _law_many, _law_arms, _law_turn, _law_some_here, _law_fields, _law_arm, _law_field, _law_one, _law_kind -/
def M__law_shaped_1 : ME := (mcall m_law_some (mcons (mvar 0) (mcons (mvar 4) mnil)))
def T__law_shaped_2 : MT := (mtst (m2 neD (mvar 13) (mvar 5)))
def M__law_shaped_2 : ME := (mvar 13)
def M__law_shaped_3 : ME := (mtup (mcons (mvar 12) (mcons (mcall m_law_some (mcons (mvar 0) (mcons (mvar 4) mnil))) mnil)))
def M__law_shaped_4 : ME := (mvar 13)
def L__law_shaped_5 : MS := (mseq (masg 11 (mcall m_law_new_name (mcons (mvar 0) (mcons (m2 addD (m2 addD (mvar 3) (mlst (mcons (mvar 5) mnil))) (mlc (miseqC (mvar 7)) (gtup [13, 14]) myes M__law_shaped_4 [13, 14])) mnil))))
    (mdrop (mmut "list" 7 appendD (mcons (mtup (mcons (mvar 11) (mcons (mcall m_law_some (mcons (mvar 0) (mcons (m2 addD (mvar 4) (mlst (mcons (mcon .none) (mcons (mcon .none) mnil)))) mnil))) mnil))) mnil))))
def b__law_shaped : MS := (mseq (mpar 3 4 (mcall m_law_declared (mcons (mvar 1) mnil)) (mcall m_law_kinds (mcons (mvar 1) mnil)))
    (mseq (masg 5 (mcall m_law_new_name (mcons (mvar 0) (mcons (mvar 3) mnil))))
    (mseq (masg 6 (mcall m_law_some (mcons (mvar 0) (mcons (mlst (mcons (mcon (.int 2)) (mcons (mcon (.int 1)) (mcons (mcon (.int 3)) (mcons (mcon (.int 2)) mnil))))) mnil))))
    (mseq (mifS (mtst (m2 eqD (mvar 2) (mcon (.str (Str.ofString "given"))))) (mseq (masg 9 (mn tupleD (mcons (mlc (mirng1 (mcons (mcall m_law_some (mcons (mvar 0) (mcons (mlst (mcons (mcon (.int 1)) (mcons (mcon (.int 2)) (mcons (mcon (.int 0)) (mcons (mcon (.int 3)) mnil))))) mnil))) mnil)) (gnm 8) myes M__law_shaped_1 [8]) mnil)))
    (mret (mtup (mcons (mcon (.str (Str.ofString "given"))) (mcons (mvar 5) (mcons (mvar 9) (mcons (mcall m_law_some (mcons (mvar 0) (mcons (m2 addD (msl slD (mvar 4) (mosome (mcon (.int 2))) monone) (mvar 4)) mnil))) mnil))))))) mpass)
    (mseq (mifS (mtst (m2 eqD (mvar 2) (mcon (.str (Str.ofString "record"))))) (mseq (masg 10 (msl slD (mcall m_law_mixed (mcons (mvar 0) (mcons (m2 addD (mlc (miseqC (mlst (mcons (mcon (.str (Str.ofString "a"))) (mcons (mcon (.str (Str.ofString "b"))) (mcons (mcon (.str (Str.ofString "in"))) (mcons (mcon (.str (Str.ofString "left"))) mnil)))))) (gnm 13) T__law_shaped_2 M__law_shaped_2 [13]) (mlst (mcons (mvar 5) mnil))) mnil))) monone (mosome (mvar 6))))
    (mret (mtup (mcons (mcon (.str (Str.ofString "record"))) (mcons (mvar 5) (mcons (mn tupleD (mcons (mlc (miseqC (mvar 10)) (gnm 12) myes M__law_shaped_3 [12]) mnil)) mnil)))))) mpass)
    (mseq (masg 7 (mlst mnil))
    (mseq (mfor (mirng1 (mcons (mvar 6) mnil)) (gnm 8) L__law_shaped_5)
    (mret (mtup (mcons (mcon (.str (Str.ofString "choice"))) (mcons (mvar 5) (mcons (mn tupleD (mcons (mvar 7) mnil)) mnil))))))))))))
def m_law_shaped : MF := mdef 15 b__law_shaped
/-- _law_library(_law_bag_here, _law_most); slots: _law_bag_here, _law_most, _law_decls, _law_words, _law_word, _law_many, _law_rest -/
def L__law_library_1 : MS := (mdrop (mmut "list" 3 extendD (mcons (m2 mulD (mlst (mcons (mvar 4) mnil)) (mvar 5)) mnil)))
def C__law_library_2 : MT := (mandT (mtst (m2 ltD (mn lenD (mcons (mvar 3) mnil)) (mvar 1))) (mtst (m2 gtD (mcall m_law_take (mcons (mvar 0) (mcons (mcon (.int 9)) mnil))) (mcon (.int 0)))))
def L__law_library_2 : MS := (mdrop (mmut "list" 3 appendD (mcons (mif (mtst (m2 gtD (mcall m_law_take (mcons (mvar 0) (mcons (mcon (.int 40)) mnil))) (mcon (.int 0)))) (m2 ixD (mvar 6) (mcall m_law_take (mcons (mvar 0) (mcons (mn lenD (mcons (mvar 6) mnil)) mnil)))) (mcon (.str (Str.ofString "given")))) mnil)))
def L__law_library_3 : MS := (mifS (mtst (m2 inD (mvar 4) (mtup (mcons (mcon (.str (Str.ofString "once"))) (mcons (mcon (.str (Str.ofString "plain"))) mnil))))) (mdrop (mmut "list" 2 appendD (mcons (mtup (mcons (mvar 4) (mcons (mcall m_law_new_name (mcons (mvar 0) (mcons (mcall m_law_declared (mcons (mvar 2) mnil)) mnil))) mnil))) mnil))) (mdrop (mmut "list" 2 appendD (mcons (mcall m_law_shaped (mcons (mvar 0) (mcons (mvar 2) (mcons (mvar 4) mnil)))) mnil))))
def b__law_library : MS := (mseq (mpar 2 3 (mlst mnil) (mlst mnil))
    (mseq (mfor (miseq (mtup (mcons (mtup (mcons (mcon (.str (Str.ofString "once"))) (mcons (mcall m_law_some (mcons (mvar 0) (mcons (mlst (mcons (mcon (.int 1)) (mcons (mcon (.int 2)) (mcons (mcon (.int 0)) (mcons (mcon (.int 4)) mnil))))) mnil))) mnil))) (mcons (mtup (mcons (mcon (.str (Str.ofString "plain"))) (mcons (mcall m_law_some (mcons (mvar 0) (mcons (mlst (mcons (mcon (.int 1)) (mcons (mcon (.int 0)) (mcons (mcon (.int 2)) (mcons (mcon (.int 3)) mnil))))) mnil))) mnil))) mnil)))) (gtup [4, 5]) L__law_library_1)
    (mseq (masg 3 (mcall m_law_mixed (mcons (mvar 0) (mcons (mvar 3) mnil))))
    (mseq (masg 6 (mlst (mcons (mcon (.str (Str.ofString "record"))) (mcons (mcon (.str (Str.ofString "choice"))) (mcons (mcon (.str (Str.ofString "given"))) (mcons (mcon (.str (Str.ofString "given"))) (mcons (mcon (.str (Str.ofString "given"))) (mcons (mcon (.str (Str.ofString "record"))) (mcons (mcon (.str (Str.ofString "given"))) mnil)))))))))
    (mseq (mwh C__law_library_2 L__law_library_2)
    (mseq (mfor (miseq (msl slD (mvar 3) monone (mosome (mvar 1)))) (gnm 4) L__law_library_3)
    (mret (mcall m_law_bounded (mcons (mfz (mvar 2)) (mcons (mcon (.int 12)) mnil))))))))))
def m_law_library : MF := mdef 7 b__law_library
/-- _law_odd(_law_bag_here); slots: _law_bag_here, _law_menu -/
def b__law_odd : MS := (mseq (masg 1 (mlst (mcons (mcon .none) (mcons (mcon (.bool true)) (mcons (mcon (.bool false)) (mcons (mcon (.int 0)) (mcons (mcon (.int 1)) (mcons (m1 negD (mcon (.int 1))) (mcons (mcon (.int 7)) (mcons (m2 powD (mcon (.int 10)) (mcon (.int 39))) (mcons (mcon (.str (Str.ofString ""))) (mcons (mcon (.str (Str.ofString "a"))) (mcons (mcon (.str (Str.ofString "num"))) (mcons (mcon (.str (Str.ofString "x1"))) (mcons (mcon (.str (Str.ofString "{"))) (mcons (mtup mnil) (mcons (mlst mnil) (mcons mdnew (mcons (mtup (mcons (mcon (.str (Str.ofString "num"))) (mcons (mcon (.int 1)) mnil))) mnil)))))))))))))))))))
    (mseq (masg 1 (m2 addD (m2 addD (mvar 1) (mlst (mcons (mtup (mcons (mcon (.str (Str.ofString "name"))) (mcons (mcon (.str (Str.ofString "a"))) mnil))) mnil))) (mlst (mcons (mlst (mcons (mcon (.str (Str.ofString "a"))) mnil)) (mcons (mdic [(.inr (Str.ofString "a"), .int 1)]) (mcons (mtup (mcons (mcon (.str (Str.ofString "give"))) mnil)) (mcons (mtup (mcons (mtup (mcons (mcon (.str (Str.ofString "give"))) (mcons (mtup (mcons (mcon (.str (Str.ofString "num"))) (mcons (mcon (.int 1)) mnil))) mnil))) mnil)) (mcons (mtup (mcons (mcon (.str (Str.ofString "plain"))) (mcons (mcon (.str (Str.ofString "a"))) mnil))) (mcons (mcon (.str (Str.ofString "X"))) (mcons (mcon (.str (Str.ofString "a b"))) mnil))))))))))
    (mret (mcall m_law_some (mcons (mvar 0) (mcons (m2 addD (mvar 1) (mlst (mcons (mtup (mcons (mcon (.str (Str.ofString "num"))) (mcons (mcon (.bool true)) mnil))) mnil))) mnil))))))
def m_law_odd : MF := mdef 2 b__law_odd
/-- _law_bent(_law_bag_here, _law_thing, _law_deep); slots: _law_bag_here, _law_thing, _law_deep, _law_way, _law_at, _law_more -/
def b__law_bent (rr : MF) : MS := (mseq (mifS (morT (mnot (mtru (misi "tuple" (mvar 1)))) (morT (mtst (m2 eqD (mvar 1) (mtup mnil))) (mtst (m2 eqD (mvar 2) (mcon (.int 0)))))) (mseq (mifS (mandT (mtru (misi "str" (mvar 1))) (mtst (m2 gtD (mcall m_law_take (mcons (mvar 0) (mcons (mcon (.int 3)) mnil))) (mcon (.int 0))))) (mseq (masg 5 (mlst (mcons (mcon (.str (Str.ofString "num"))) (mcons (mcon (.str (Str.ofString "truth"))) (mcons (mcon (.str (Str.ofString "a"))) (mcons (mcon (.str (Str.ofString ""))) (mcons (mcon (.str (Str.ofString "A"))) (mcons (mcon (.str (Str.ofString "give"))) (mcons (mcon (.str (Str.ofString "1"))) (mcons (m2 addD (mvar 1) (mcon (.str (Str.ofString "1")))) (mcons (msl slD (mvar 1) monone (mosome (m1 negD (mcon (.int 1))))) (mcons (m2 addD (mvar 1) (mcon (.str (Str.ofString "_")))) (mcons (m2 mulSD (mcon (.str (Str.ofString "x"))) (mcon (.int 21))) mnil)))))))))))))
    (mret (mcall m_law_some (mcons (mvar 0) (mcons (m2 addD (mvar 5) (mlst (mcons (m2 mulSD (mcon (.str (Str.ofString "x"))) (mcon (.int 20))) mnil))) mnil))))) mpass)
    (mseq (mifS (mandT (mtru (mcall m_law_is_int (mcons (mvar 1) mnil))) (mtst (m2 gtD (mcall m_law_take (mcons (mvar 0) (mcons (mcon (.int 3)) mnil))) (mcon (.int 0))))) (mret (mcall m_law_some (mcons (mvar 0) (mcons (mlst (mcons (m2 addD (mvar 1) (mcon (.int 1))) (mcons (m2 subD (mcon (.int 0)) (mvar 1)) (mcons (m2 eqD (mvar 1) (mcon (.int 1))) (mcons (mn strD (mcons (mvar 1) mnil)) (mcons (mcon (.int 999999999)) (mcons (mcon (.int 1000000000)) (mcons (m1 negD (mcon (.int 1))) mnil)))))))) mnil)))) mpass)
    (mret (mcall m_law_odd (mcons (mvar 0) mnil))))) mpass)
    (mseq (mpar 3 4 (mcall m_law_take (mcons (mvar 0) (mcons (mcon (.int 12)) mnil))) (mcall m_law_take (mcons (mvar 0) (mcons (mn lenD (mcons (mvar 1) mnil)) mnil))))
    (mseq (mifS (mtst (m2 eqD (mvar 3) (mcon (.int 0)))) (mret (mn listD (mcons (mvar 1) mnil))) mpass)
    (mseq (mifS (mtst (m2 eqD (mvar 3) (mcon (.int 1)))) (mret (m2 addD (msl slD (mvar 1) monone (mosome (mvar 4))) (msl slD (mvar 1) (mosome (m2 addD (mvar 4) (mcon (.int 1)))) monone))) mpass)
    (mseq (mifS (mtst (m2 eqD (mvar 3) (mcon (.int 2)))) (mret (m2 addD (m2 addD (msl slD (mvar 1) monone (mosome (mvar 4))) (mtup (mcons (mcall m_law_odd (mcons (mvar 0) mnil)) mnil))) (msl slD (mvar 1) (mosome (mvar 4)) monone))) mpass)
    (mseq (mifS (mtst (m2 eqD (mvar 3) (mcon (.int 3)))) (mret (m2 addD (m2 addD (msl slD (mvar 1) monone (mosome (mvar 4))) (msl slD (mvar 1) (mosome (mvar 4)) (mosome (m2 addD (mvar 4) (mcon (.int 1)))))) (msl slD (mvar 1) (mosome (mvar 4)) monone))) mpass)
    (mret (m2 addD (m2 addD (msl slD (mvar 1) monone (mosome (mvar 4))) (mtup (mcons (mcall rr (mcons (mvar 0) (mcons (m2 ixD (mvar 1) (mvar 4)) (mcons (m2 subD (mvar 2) (mcon (.int 1))) mnil)))) mnil))) (msl slD (mvar 1) (mosome (m2 addD (mvar 4) (mcon (.int 1)))) monone)))))))))
def m_law_bent : Nat → MF
  | 0 => fun _ => none
  | d + 1 => mdef 6 (b__law_bent (m_law_bent d))
/-- _law_near_stocks(_law_bag_here, _law_decls); slots: _law_bag_here, _law_decls, _law_kinds_here, _law_some_here, _law_stock, _law_found, _law_kind, _law_at, _law_count, _law_name, _law_turn -/
def T__law_near_stocks_1 : MT := (mtst (m2 eqD (mcall m_law_take (mcons (mvar 0) (mcons (mcon (.int 2)) mnil))) (mcon (.int 0))))
def M__law_near_stocks_1 : ME := (mvar 6)
def M__law_near_stocks_2 : ME := (mtup (mcons (mvar 6) (mcons (mif (mtru (mcall m_law_is_once (mcons (mvar 1) (mcons (mvar 6) mnil)))) (mcall m_law_some (mcons (mvar 0) (mcons (mlst (mcons (mcon (.int 1)) (mcons (mcon (.int 2)) (mcons (mcon (.int 5)) mnil)))) mnil))) (mcon (.int 1))) mnil)))
def M__law_near_stocks_3 : ME := (mtup (mcons (mvar 6) (mcons (mcon (.int 2)) mnil)))
def M__law_near_stocks_4 : ME := (mtup (mcons (mvar 6) (mcons (mcon (.int 1)) mnil)))
def M__law_near_stocks_5 : ME := (mtup (mcons (mvar 6) (mcons (mcon (.int 0)) mnil)))
def M__law_near_stocks_6 : ME := (mtup (mcons (mvar 6) (mcons (m2 eqD (mvar 8) (mcon (.int 1))) mnil)))
def L__law_near_stocks_7 : MS := (mdrop (mmut "list" 5 appendD (mcons (mtup (mcons (mtup (mcons (mvar 6) (mcons (mcon (.int 1)) mnil))) (mcons (mtup (mcons (mvar 6) (mcons (mcon (.int 2)) mnil))) mnil))) mnil)))
def L__law_near_stocks_8 : MS := (mdrop (mmut "list" 5 appendD (mcons (m2 addD (m2 addD (msl slD (mvar 4) monone (mosome (mvar 7))) (mtup (mcons (mtup (mcons (mvar 6) (mcons (mvar 8) mnil))) (mcons (mtup (mcons (mvar 6) (mcons (m2 addD (mvar 8) (mcon (.int 1))) mnil))) mnil)))) (msl slD (mvar 4) (mosome (m2 addD (mvar 7) (mcon (.int 1)))) monone)) mnil)))
def T__law_near_stocks_9 : MT := (mtst (m2 notInD (mvar 9) (mvar 2)))
def M__law_near_stocks_9 : ME := (mtup (mcons (mtup (mcons (mvar 9) (mcons (mcon (.int 1)) mnil))) mnil))
def M__law_near_stocks_10 : ME := (mcall (m_law_bent 6) (mcons (mvar 0) (mcons (mvar 4) (mcons (mcon (.int 3)) mnil))))
def b__law_near_stocks : MS := (mseq (masg 2 (mn sortedD (mcons (msl slD (mcall m_law_kinds (mcons (mvar 1) mnil)) (mosome (mcon (.int 2))) monone) mnil)))
    (mseq (masg 3 (mlc (miseqC (mvar 2)) (gnm 6) T__law_near_stocks_1 M__law_near_stocks_1 [6]))
    (mseq (masg 4 (mn tupleD (mcons (mlc (miseqC (mvar 3)) (gnm 6) myes M__law_near_stocks_2 [6]) mnil)))
    (mseq (masg 5 (mlst (mcons (mvar 4) (mcons (mn listD (mcons (mvar 4) mnil)) (mcons (mrevT (mvar 4)) (mcons (m2 addD (mvar 4) (mvar 4)) (mcons (mn tupleD (mcons (mlc (miseqC (mvar 2)) (gnm 6) myes M__law_near_stocks_3 [6]) mnil)) (mcons (mtup mnil) mnil))))))))
    (mseq (masg 5 (m2 addD (mvar 5) (mlst (mcons (mn tupleD (mcons (mlc (miseqC (mvar 2)) (gnm 6) myes M__law_near_stocks_4 [6]) mnil)) (mcons (mtup (mcons (mtup (mcons (mcon (.str (Str.ofString "num"))) (mcons (mcon (.int 1)) mnil))) mnil)) (mcons (mtup (mcons (mtup (mcons (mcon (.str (Str.ofString "zz"))) (mcons (mcon (.int 1)) mnil))) mnil)) (mcons (m2 addD (mvar 4) (mtup (mcons (mtup (mcons (mcon (.str (Str.ofString "~"))) (mcons (mcon (.int 1)) mnil))) mnil))) mnil)))))))
    (mseq (mdrop (mmut "list" 5 appendD (mcons (mn dictD (mcons (mvar 4) mnil)) mnil)))
    (mseq (masg 5 (m2 addD (mvar 5) (mlst (mcons (mn tupleD (mcons (mlc (miseqC (mvar 4)) (gtup [6, 8]) myes M__law_near_stocks_6 [6, 8]) mnil)) (mcons (mn tupleD (mcons (mlc (miseqC (mvar 3)) (gnm 6) myes M__law_near_stocks_5 [6]) mnil)) mnil)))))
    (mseq (mfor (miseq (mvar 2)) (gnm 6) L__law_near_stocks_7)
    (mseq (mfor (mienum (mcons (mvar 4) mnil)) (gtupG [(gnm 7), (gtup [6, 8])]) L__law_near_stocks_8)
    (mseq (masg 5 (m2 addD (mvar 5) (mlc (miseqC (mcall m_law_declared (mcons (mvar 1) mnil))) (gnm 9) T__law_near_stocks_9 M__law_near_stocks_9 [9])))
    (mret (m2 addD (m2 addD (mvar 5) (mlc (mirng1 (mcons (mcon (.int 5)) mnil)) (gnm 10) myes M__law_near_stocks_10 [10])) (mlst (mcons (mcall m_law_odd (mcons (mvar 0) mnil)) mnil))))))))))))))
def m_law_near_stocks : MF := mdef 11 b__law_near_stocks
/-- _law_turned(_law_decls, _law_kind); slots: _law_decls, _law_kind, _law_words, _law_decl -/
def M__law_turned_1 : ME := (mif (mtst (m2 eqD (m2 ixD (mvar 3) (mcon (.int 1))) (mvar 1))) (mtup (mcons (m2 ixD (mvar 2) (m2 ixD (mvar 3) (mcon (.int 0)))) (mcons (mvar 1) mnil))) (mvar 3))
def b__law_turned : MS := (mseq (masg 2 (mdic [(.inr (Str.ofString "once"), .str (Str.ofString "plain")), (.inr (Str.ofString "plain"), .str (Str.ofString "once"))]))
    (mret (mn tupleD (mcons (mlc (miseqC (mvar 0)) (gnm 3) myes M__law_turned_1 [3]) mnil))))
def m_law_turned : MF := mdef 4 b__law_turned
/-- once_table(declarations); slots: declarations, found, tree, _name, part -/
def M_once_table_1 : ME := (mm "dict" getD (mvar 1) (mcons (mvar 4) (mcons (mcon (.bool false)) mnil)))
def L_once_table_2 : MS := (mifS (mtst (m2 inD (m2 ixD (mvar 2) (mcon (.int 0))) (mtup (mcons (mcon (.str (Str.ofString "plain"))) (mcons (mcon (.str (Str.ofString "once"))) mnil))))) (mput 1 (m2 ixD (mvar 2) (mcon (.int 1))) (m2 eqD (m2 ixD (mvar 2) (mcon (.int 0))) (mcon (.str (Str.ofString "once"))))) (mifS (mtst (m2 inD (m2 ixD (mvar 2) (mcon (.int 0))) (mtup (mcons (mcon (.str (Str.ofString "record"))) (mcons (mcon (.str (Str.ofString "choice"))) mnil))))) (mput 1 (m2 ixD (mvar 2) (mcon (.int 1))) (mn anyD (mcons (mlc (miseqC (m2 ixD (mvar 2) (mcon (.int 2)))) (gtup [3, 4]) myes M_once_table_1 [3, 4]) mnil))) mpass))
def b_once_table : MS := (mseq (masg 1 mdnew)
    (mseq (mfor (miseq (mvar 0)) (gnm 2) L_once_table_2)
    (mret (mvar 1))))
def p_once_table : MF := mdef 5 b_once_table
/-- is_once(declarations, kind); slots: declarations, kind -/
def b_is_once : MS := (mret (mm "dict" getD (mcall p_once_table (mcons (mvar 0) mnil)) (mcons (mvar 1) (mcons (mcon (.bool false)) mnil))))
def p_is_once : MF := mdef 2 b_is_once
/-- is_integer(thing); slots: thing -/
def b_is_integer : MS := (mret (mandV (misi "int" (mvar 0)) (mnotV (misi "bool" (mvar 0)))))
def p_is_integer : MF := mdef 1 b_is_integer
/-- is_count(table, thing); slots: table, thing -/
def b_is_count : MS := (mseq (mifS (morT (mnot (mtru (misi "tuple" (mvar 1)))) (morT (mtst (m2 neD (mn lenD (mcons (mvar 1) mnil)) (mcon (.int 2)))) (morT (mnot (mtru (misi "str" (m2 ixD (mvar 1) (mcon (.int 0)))))) (mtst (m2 notInD (m2 ixD (mvar 1) (mcon (.int 0))) (mvar 0)))))) (mret (mcon (.bool false))) mpass)
    (mret (mandV (mcall p_is_integer (mcons (m2 ixD (mvar 1) (mcon (.int 1))) mnil)) (mandV (m2 geD (m2 ixD (mvar 1) (mcon (.int 1))) (mcon (.int 1))) (morV (m2 eqD (m2 ixD (mvar 1) (mcon (.int 1))) (mcon (.int 1))) (m2 ixD (mvar 0) (m2 ixD (mvar 1) (mcon (.int 0)))))))))
def p_is_count : MF := mdef 2 b_is_count
/-- is_stock(declarations, thing); slots: declarations, thing, table, one, other -/
def M_is_stock_1 : ME := (mcall p_is_count (mcons (mvar 2) (mcons (mvar 3) mnil)))
def M_is_stock_2 : ME := (m2 ltD (m2 ixD (mvar 3) (mcon (.int 0))) (m2 ixD (mvar 4) (mcon (.int 0))))
def b_is_stock : MS := (mseq (masg 2 (mcall p_once_table (mcons (mvar 0) mnil)))
    (mseq (mifS (morT (mnot (mtru (misi "tuple" (mvar 1)))) (mnot (mtru (mn allD (mcons (mlc (miseqC (mvar 1)) (gnm 3) myes M_is_stock_1 [3]) mnil))))) (mret (mcon (.bool false))) mpass)
    (mret (mn allD (mcons (mlc (mizip (mcons (mvar 1) (mcons (msl slD (mvar 1) (mosome (mcon (.int 1))) monone) mnil))) (gtup [3, 4]) myes M_is_stock_2 [3, 4]) mnil)))))
def p_is_stock : MF := mdef 5 b_is_stock
/-- once_kinds(declarations); slots: declarations, table, kind -/
def T_once_kinds_1 : MT := (mtru (m2 ixD (mvar 1) (mvar 2)))
def M_once_kinds_1 : ME := (mvar 2)
def b_once_kinds : MS := (mseq (masg 1 (mcall p_once_table (mcons (mvar 0) mnil)))
    (mret (mn tupleD (mcons (mlc (miseqC (mn sortedD (mcons (mvar 1) mnil))) (gnm 2) T_once_kinds_1 M_once_kinds_1 [2]) mnil))))
def p_once_kinds : MF := mdef 3 b_once_kinds
/-- plain_kinds(declarations); slots: declarations, table, kind -/
def T_plain_kinds_1 : MT := (mnot (mtru (m2 ixD (mvar 1) (mvar 2))))
def M_plain_kinds_1 : ME := (mvar 2)
def b_plain_kinds : MS := (mseq (masg 1 (mcall p_once_table (mcons (mvar 0) mnil)))
    (mret (mn tupleD (mcons (mlc (miseqC (mn sortedD (mcons (mvar 1) mnil))) (gnm 2) T_plain_kinds_1 M_plain_kinds_1 [2]) mnil))))
def p_plain_kinds : MF := mdef 3 b_plain_kinds
/-- law(_law_script); slots: _law_script, _law_bag_here, _law_turn, _law_decls, _law_kinds_here, _law_said, _law_due, _law_once, _law_plain, _law_told, _law_decl, _law_thing, _law_other, _law_changed, _law_holding_here, _law_some_here, _law_kept, _law_kind, _law_is_so -/
def M_law_1 : ME := (mcall m_law_is_once (mcons (mvar 3) (mcons (mvar 17) mnil)))
def T_law_2 : MT := (mtru (mvar 18))
def M_law_2 : ME := (mvar 17)
def T_law_3 : MT := (mtst (m2 notInD (mvar 17) (mvar 7)))
def M_law_3 : ME := (mvar 17)
def M_law_4 : ME := (mcall p_is_once (mcons (mvar 3) (mcons (mvar 17) mnil)))
def T_law_5 : MT := (mtst (m2 inD (m2 ixD (mvar 10) (mcon (.int 0))) (mtup (mcons (mcon (.str (Str.ofString "once"))) (mcons (mcon (.str (Str.ofString "plain"))) mnil)))))
def M_law_5 : ME := (mvar 10)
def T_law_6 : MT := (mtst (m2 neD (mcall p_is_once (mcons (mvar 3) (mcons (mvar 17) mnil))) (mcall p_is_once (mcons (mvar 12) (mcons (mvar 17) mnil)))))
def M_law_6 : ME := (mvar 17)
def T_law_7 : MT := (mtst (m2 notInD (mvar 17) (mvar 14)))
def M_law_7 : ME := (mvar 17)
def T_law_8 : MT := (mtru (mcall m_law_is_once (mcons (mvar 12) (mcons (mvar 17) mnil))))
def M_law_8 : ME := (mvar 17)
def L_law_9 : MS := (mseq (masg 12 (mcall m_law_turned (mcons (mvar 3) (mcons (m2 ixD (mvar 10) (mcon (.int 1))) mnil))))
    (mseq (masg 12 (mif (mtst (m2 eqD (mcall m_law_bounded (mcons (mfz (mvar 12)) (mcons (mcon (.int 12)) mnil))) (mvar 12))) (mvar 12) (mvar 3)))
    (mseq (masg 13 (mlc (miseqC (mvar 4)) (gnm 17) T_law_6 M_law_6 [17]))
    (mseq (masg 14 (mcall m_law_holding (mcons (mvar 3) (mcons (m2 ixD (mvar 10) (mcon (.int 1))) mnil))))
    (mseq (mifS (mtst (m2 neD (mlc (miseqC (mvar 13)) (gnm 17) T_law_7 M_law_7 [17]) (mlst mnil))) (mret (mcon (.bool false))) mpass)
    (mseq (mifS (mtst (m2 neD (m2 inD (m2 ixD (mvar 10) (mcon (.int 1))) (mvar 13)) (m2 neD (mvar 12) (mvar 3)))) (mret (mcon (.bool false))) mpass)
    (mseq (masg 15 (mn tupleD (mcons (mn sortedD (mcons (mlc (miseqC (mvar 4)) (gnm 17) T_law_8 M_law_8 [17]) mnil)) mnil)))
    (mifS (mnot (mtru (mcall m_law_alike (mcons (mcall p_once_kinds (mcons (mvar 12) mnil)) (mcons (mvar 15) mnil))))) (mret (mcon (.bool false))) mpass))))))))
def L_law_10 : MS := (mseq (masg 16 (mn reprE (mcons (mvar 11) mnil)))
    (mifS (morT (mnot (mtru (mcall m_law_alike (mcons (mcall p_is_stock (mcons (mvar 3) (mcons (mvar 11) mnil))) (mcons (mcall m_law_is_stock (mcons (mvar 3) (mcons (mvar 11) mnil))) mnil))))) (mtst (m2 neD (mn reprE (mcons (mvar 11) mnil)) (mvar 16)))) (mret (mcon (.bool false))) mpass))
def L_law_11 : MS := (mseq (masg 3 (mcall m_law_library (mcons (mvar 1) (mcons (mcall m_law_some (mcons (mvar 1) (mcons (mlst (mcons (mcon (.int 10)) (mcons (mcon (.int 14)) (mcons (mcon (.int 6)) (mcons (mcon (.int 18)) mnil))))) mnil))) mnil))))
    (mseq (mpar 4 5 (mcall m_law_kinds (mcons (mvar 3) mnil)) (mn reprE (mcons (mvar 3) mnil)))
    (mseq (masg 6 (mlc (miseqC (mvar 4)) (gnm 17) myes M_law_1 [17]))
    (mseq (masg 7 (mn tupleD (mcons (mn sortedD (mcons (mlc (mizip (mcons (mvar 4) (mcons (mvar 6) mnil))) (gtup [17, 18]) T_law_2 M_law_2 [17, 18]) mnil)) mnil)))
    (mseq (masg 8 (mn tupleD (mcons (mn sortedD (mcons (mlc (miseqC (msl slD (mvar 4) (mosome (mcon (.int 2))) monone)) (gnm 17) T_law_3 M_law_3 [17]) mnil)) mnil)))
    (mseq (masg 9 (mlst (mcons (mlc (miseqC (mvar 4)) (gnm 17) myes M_law_4 [17]) (mcons (mcall p_once_kinds (mcons (mvar 3) mnil)) (mcons (mcall p_plain_kinds (mcons (mvar 3) mnil)) mnil)))))
    (mseq (mifS (mnot (mtru (mcall m_law_alike (mcons (mvar 9) (mcons (mlst (mcons (mvar 6) (mcons (mvar 7) (mcons (mvar 8) mnil)))) mnil))))) (mret (mcon (.bool false))) mpass)
    (mseq (mfor (miseq (msl slD (mlc (miseqC (mvar 3)) (gnm 10) T_law_5 M_law_5 [10]) monone (mosome (mcon (.int 2))))) (gnm 10) L_law_9)
    (mseq (mfor (miseq (mcall m_law_near_stocks (mcons (mvar 1) (mcons (mvar 3) mnil)))) (gnm 11) L_law_10)
    (mifS (mtst (m2 neD (mn reprE (mcons (mvar 3) mnil)) (mvar 5))) (mret (mcon (.bool false))) mpass))))))))))
def b_law : MS := (mseq (masg 1 (mcall m_law_bag (mcons (mvar 0) mnil)))
    (mseq (mfor (mirng1 (mcons (mcon (.int 4)) mnil)) (gnm 2) L_law_11)
    (mret (mcon (.bool true)))))
def p_law : MF := mdef 19 b_law
end
end K05

namespace K05
open PySem PySem.Spec PyProof.Rows L3

/-! the bag -/
def BagOk (xs : List D) : Prop := ∃ (a b c : Int) (cs : List Int), xs = [.int a, .int b, .int c, .list (cs.map PyData.int)] ∧ cs.length ≤ 63
theorem cut_map (cs : List Int) (lo hi : Option Int) : cutL (cs.map PyData.int) lo hi = (cutL cs lo hi).map PyData.int := by
  unfold cutL
  rw [List.map_take, List.map_drop, List.length_map]
theorem cut_len {α : Type} (cs : List α) (lo hi : Option Int) : (cutL cs lo hi).length ≤ cs.length := by
  unfold cutL
  rw [List.length_take, List.length_drop]
  omega
theorem atI_0 (d : D) (r : List D) : L2.atI (d :: r) 0 = some d := by
  simp [L2.atI, L2.ixN]
theorem atI_l0 {a b c d : D} : L2.atI [a, b, c, d] 0 = some a := rfl
theorem atI_l1 {a b c d : D} : L2.atI [a, b, c, d] 1 = some b := rfl
theorem atI_l2 {a b c d : D} : L2.atI [a, b, c, d] 2 = some c := rfl
theorem atI_l3 {a b c d : D} : L2.atI [a, b, c, d] 3 = some d := rfl
theorem ixN_l0 : L2.ixN 4 0 = some 0 := rfl
theorem ixN_l1 : L2.ixN 4 1 = some 1 := rfl
theorem ixN_l2 : L2.ixN 4 2 = some 2 := rfl
theorem first_ok (cs : List Int) (lo : Int) : ∃ v, L2.atI (cutL (cs.map PyData.int) (some lo) none ++ [PyData.int 0]) 0 = some (.int v) := by
  rw [cut_map]
  cases cutL cs (some lo) none with
  | nil => exact ⟨0, atI_0 _ _⟩
  | cons x r => exact ⟨x, atI_0 _ _⟩
theorem size_63 {n : Nat} (h : n ≤ 63) : n + 1 ≤ sizeLine := by rw [sizeLine_eq]; omega
theorem bag_ok (ns : List Int) (h : ns.length ≤ 63) : ∃ bag, m_law_bag [.dat (.list (ns.map PyData.int))] = some (.new (.lst bag), [.dat (.list (ns.map PyData.int))]) ∧ BagOk bag := by
  unfold m_law_bag b__law_bag
  have hc : cutL (ns.map PyData.int) none (some 63) = ns.map PyData.int := by
    unfold cutL
    have h1 : HT.sIx (ns.map PyData.int).length 0 none = 0 := HT.sIx_none _ _
    have h2 : HT.sIx (ns.map PyData.int).length (ns.map PyData.int).length (some 63) = (ns.map PyData.int).length := by
      rw [show ((63 : Int)) = ((63 : Nat) : Int) from rfl, HT.sIx_nat, List.length_map]
      omega
    rw [h1, h2, List.drop_zero, Nat.sub_zero, List.take_length]
  have hp := lc_pure (g := gnm 1) (t := myes) (m := M__law_bag_1) (vs := [1]) (ρ := [some (.dat (.list (ns.map PyData.int))), none]) PyData.int (fun i => some (.int (if i < 0 then -i else i))) ns (fun i _ => by
      refine ⟨[some (.dat (.list (ns.map PyData.int))), some (.dat (.int i))], true, ?_, ?_, rfl, rfl, ?_⟩
      · simp [sizeLine_eq, startE, argA, bxIx, back, newC, notBor, bxAt, restE, noBx, lstB, lstAt, isNoD]
      · simp [sizeLine_eq, startE, argA, bxIx, back, newC, notBor, bxAt, restE, noBx, lstB, lstAt, isNoD]
      · simp [sizeLine_eq, startE, argA, bxIx, back, newC, notBor, bxAt, restE, noBx, lstB, lstAt, isNoD, M__law_bag_1]) (by rw [sizeLine_eq]; omega)
  rw [show (ns.filterMap fun i => some (PyData.int (if i < 0 then -i else i))) = (ns.map fun i => if i < 0 then -i else i).map PyData.int by rw [List.filterMap_eq_map', List.map_map]; rfl] at hp
  refine ⟨[.int 0, .int 1234567891, .int 0, .list ((ns.map fun i => if i < 0 then -i else i).map PyData.int)], ?_, 0, 1234567891, 0, _, rfl, by rw [List.length_map]; exact h⟩
  have hz : (4 : Nat) ≤ sizeLine := by decide
  simp [sizeLine_eq, startE, argA, bxIx, back, newC, notBor, bxAt, restE, noBx, lstB, lstAt, isNoD, hc, hp, hz]
theorem mul_l {i : Int} (j : Int) (h : -(2 ^ 64) < i ∧ i < 2 ^ 64) : mulD (.int i) (.int j) = some (.dat (.int (i * j))) := by
  unfold mulD
  simp only []
  rw [if_pos (Or.inl h)]
theorem mul_r (i : Int) {j : Int} (h : -(2 ^ 64) < j ∧ j < 2 ^ 64) : mulD (.int i) (.int j) = some (.dat (.int (i * j))) := by
  unfold mulD
  simp only []
  rw [if_pos (Or.inr h)]
theorem mul_mod (x y : Int) : mulD (.int (x % 1000000007)) (.int y) = some (.dat (.int (x % 1000000007 * y))) := mul_l y ⟨by omega, by omega⟩
theorem mul_c1 (x : Int) : mulD (.int x) (.int 48271) = some (.dat (.int (x * 48271))) := mul_r x (by decide)
theorem mul_c2 (x : Int) : mulD (.int 7919) (.int x) = some (.dat (.int (7919 * x))) := mul_l x (by decide)
theorem mul_c3 (x : Int) : mulD (.int x) (.int 39373) = some (.dat (.int (x * 39373))) := mul_r x (by decide)
theorem mul_c4 (x : Int) : mulD (.int x) (.int 30011) = some (.dat (.int (x * 30011))) := mul_r x (by decide)
theorem take_ok {xs : List D} (h : BagOk xs) (n : Int) (h0 : 0 < n) (h1 : n < 1073741824) : ∃ v ys, m_law_take [.box false (.lst xs), .dat (.int n)] = some (.dat (.int v), [.box false (.lst ys), .dat (.int n)]) ∧ BagOk ys ∧ 0 ≤ v ∧ v < n := by
  obtain ⟨a, b, c, cs, rfl, hl⟩ := h
  obtain ⟨v, hv⟩ := first_ok cs c
  have hz : (cutL (cs.map PyData.int) (some c) none).length + 1 ≤ 16777216 := by
    have := cut_len (cs.map PyData.int) (some c) none
    rw [List.length_map] at this
    omega
  unfold m_law_take b__law_take
  have e1 : 0 ≤ ((b + 1) * 39373) % 1000000007 := Int.emod_nonneg _ (by omega)
  have hn : n ≠ 0 := by omega
  have fin : ∀ (a b c : Int) (x : Int), BagOk [.int a, .int b, .int c, .list (cs.map PyData.int)] ∧ 0 ≤ x % n ∧ x % n < n := fun a b c x => ⟨⟨a, b, c, cs, rfl, hl⟩, Int.emod_nonneg _ hn, Int.emod_lt_of_pos _ h0⟩
  by_cases ha : a = 0
  · subst ha
    by_cases hb : 1000000000000000000 ≤ v
    · have hb2 : 0 < v := by omega
      simp [sizeLine_eq, startE, argA, bxIx, back, newC, notBor, bxAt, restE, noBx, lstB, lstAt, isNoD, atI_l0, atI_l1, atI_l2, atI_l3, ixN_l0, ixN_l1, ixN_l2, hv, addD, hz, mul_mod, mul_c1, mul_c2, mul_c3, mul_c4, modD, fdivD, powD, hb, hb2, h0, h1]
      exact ⟨_, _, ⟨rfl, rfl⟩, fin _ _ _ _⟩
    · simp [sizeLine_eq, startE, argA, bxIx, back, newC, notBor, bxAt, restE, noBx, lstB, lstAt, isNoD, atI_l0, atI_l1, atI_l2, atI_l3, ixN_l0, ixN_l1, ixN_l2, hv, addD, hz, mul_mod, mul_c1, mul_c2, mul_c3, mul_c4, modD, fdivD, powD, hb, h0, h1]
      exact ⟨_, _, ⟨rfl, rfl⟩, fin _ _ _ _⟩
  · have ha' : (a == 0) = false := by simp [ha]
    by_cases hb : 0 < a
    · simp [sizeLine_eq, startE, argA, bxIx, back, newC, notBor, bxAt, restE, noBx, lstB, lstAt, isNoD, atI_l0, atI_l1, atI_l2, atI_l3, ixN_l0, ixN_l1, ixN_l2, hv, addD, hz, mul_mod, mul_c1, mul_c2, mul_c3, mul_c4, modD, fdivD, powD, ha', hb, h0, h1]
      exact ⟨_, _, ⟨rfl, rfl⟩, fin _ _ _ _⟩
    · simp [sizeLine_eq, startE, argA, bxIx, back, newC, notBor, bxAt, restE, noBx, lstB, lstAt, isNoD, atI_l0, atI_l1, atI_l2, atI_l3, ixN_l0, ixN_l1, ixN_l2, hv, addD, hz, mul_mod, mul_c1, mul_c2, mul_c3, mul_c4, modD, fdivD, powD, ha', hb, h0, h1]
      exact ⟨_, _, ⟨rfl, rfl⟩, fin _ _ _ _⟩
end K05

namespace K05
open PySem PySem.Spec PyProof.Rows L3
/-- a list, as data or lent -/
def IsL (x : A) (ds : List D) : Prop := x = .dat (.list ds) ∨ x = .box false (.lst ds)
theorem atI_get (ds : List D) (v : Int) (h0 : 0 ≤ v) (h1 : v < ds.length) : ∃ d, L2.atI ds v = some d ∧ d ∈ ds := by
  have hv : v.toNat < ds.length := by omega
  refine ⟨ds[v.toNat], ?_, List.getElem_mem hv⟩
  unfold L2.atI L2.ixN
  rw [if_pos h0, if_pos h1, Option.bind_some, List.getElem?_eq_getElem hv]
theorem some_ok {bag : List D} (hb : BagOk bag) {x : A} {ds : List D} (hx : IsL x ds) (hd : ds ≠ []) (hl : ds.length < 1073741824) :
    ∃ d bag', m_law_some [.box false (.lst bag), x] = some (.dat d, [.box false (.lst bag'), x]) ∧ d ∈ ds ∧ BagOk bag' := by
  have hp : 0 < ds.length := List.length_pos_iff.mpr hd
  obtain ⟨v, bag', h1, h2, h3, h4⟩ := take_ok hb (ds.length : Int) (by omega) (by omega)
  obtain ⟨d, h5, h6⟩ := atI_get ds v h3 h4
  refine ⟨d, bag', ?_, h6, h2⟩
  unfold m_law_some b__law_some
  rcases hx with rfl | rfl
  · simp [sizeLine_eq, startE, argA, bxIx, back, newC, notBor, bxAt, restE, noBx, lstB, lstAt, isNoD, h1, h5]
  · simp [sizeLine_eq, startE, argA, bxIx, back, newC, notBor, bxAt, restE, noBx, lstB, lstAt, isNoD, h1, h5]
theorem perm_ins {α : Type} (ys : List α) (n : Nat) (y : α) : (ys.take n ++ ([y] ++ ys.drop n)).Perm (ys ++ [y]) := by
  have h1 : (ys.take n ++ ([y] ++ ys.drop n)).Perm (ys.take n ++ (ys.drop n ++ [y])) := List.Perm.append_left _ List.perm_append_comm
  have h2 : ys.take n ++ (ys.drop n ++ [y]) = ys ++ [y] := by rw [← List.append_assoc, List.take_append_drop]
  rw [h2] at h1
  exact h1
theorem mixed_ok {bag : List D} (hb : BagOk bag) {x : A} {ds : List D} (hx : IsL x ds) (hl : ds.length < 1000) :
    ∃ ys bag', m_law_mixed [.box false (.lst bag), x] = some (.new (.lst ys), [.box false (.lst bag'), x]) ∧ ys.Perm ds ∧ BagOk bag' := by
  have step : ∀ (d : D) (r : List D) (ρ : En), (∃ bag ys done z, BagOk bag ∧ ds = done ++ (d :: r) ∧ ys.Perm done ∧ ρ = [some (.box false (.lst bag)), some x, some (.box true (.lst ys)), z] ∧ (z = none ∨ ∃ e, z = some (.dat e))) →
      ∃ ρ1 o ρ2, gnm 3 d ρ = some ρ1 ∧ L__law_mixed_1 ρ1 = some (o, ρ2) ∧ (o = .nx ∨ o = .ct) ∧ (∃ bag ys done z, BagOk bag ∧ ds = done ++ r ∧ ys.Perm done ∧ ρ2 = [some (.box false (.lst bag)), some x, some (.box true (.lst ys)), z] ∧ (z = none ∨ ∃ e, z = some (.dat e))) := by
    rintro d r ρ ⟨bag, ys, done, z, hb, hd, hp, rfl, hz⟩
    have hlen : ys.length < 1000 := by
      rw [hp.length_eq]
      have := congrArg List.length hd
      rw [List.length_append] at this
      omega
    obtain ⟨v, bag', h1, h2, h3, h4⟩ := take_ok hb ((ys.length : Int) + 1) (by omega) (by omega)
    refine ⟨[some (.box false (.lst bag)), some x, some (.box true (.lst ys)), some (.dat d)], .nx, [some (.box false (.lst bag')), some x, some (.box true (.lst (ys.take v.toNat ++ ([d] ++ ys.drop v.toNat)))), some (.dat d)], ?_, ?_, .inl rfl, bag', _, done ++ [d], _, h2, by simp [hd], (perm_ins _ _ _).trans (hp.append_right [d]), rfl, .inr ⟨d, rfl⟩⟩
    · rcases hz with rfl | ⟨e, rfl⟩ <;> simp [sizeLine_eq, startE, argA, bxIx, back, newC, notBor, bxAt, restE, noBx, lstB, lstAt, isNoD]
    · have hlen2 : ys.length < 16777216 := by omega
      have hv2 : v < 9223372036854775808 := by omega
      unfold L__law_mixed_1
      simp [sizeLine_eq, startE, argA, bxIx, back, newC, notBor, bxAt, restE, noBx, lstB, lstAt, isNoD, h1, insertD, hlen2, h3, hv2]
  have h0 : ∃ bag' ys done z, BagOk bag' ∧ ds = done ++ ds ∧ ys.Perm done ∧ [some (A.box false (.lst bag)), some x, some (A.box true (.lst [])), none] = [some (A.box false (.lst bag')), some x, some (A.box true (.lst ys)), z] ∧ (z = none ∨ ∃ e, z = some (A.dat e)) := ⟨bag, [], [], none, hb, rfl, .nil, rfl, .inl rfl⟩
  rcases hx with rfl | rfl
  · obtain ⟨ρ', h1, bag', ys, done, z, h2, h3, h4, rfl, h5⟩ := forI_run (P := fun r ρ => ∃ bag ys done z, BagOk bag ∧ ds = done ++ r ∧ ys.Perm done ∧ ρ = [some (.box false (.lst bag)), some (.dat (.list ds)), some (.box true (.lst ys)), z] ∧ (z = none ∨ ∃ e, z = some (.dat e))) step ds _ h0
    refine ⟨ys, bag', ?_, by rw [h3, List.append_nil]; exact h4, h2⟩
    unfold m_law_mixed b__law_mixed
    simp [sizeLine_eq, startE, argA, bxIx, back, newC, notBor, bxAt, restE, noBx, lstB, lstAt, isNoD, h1]
  · obtain ⟨ρ', h1, bag', ys, done, z, h2, h3, h4, rfl, h5⟩ := forS_run (i := 1) (xs := ds) (P := fun r ρ => ∃ bag ys done z, BagOk bag ∧ ds = done ++ r ∧ ys.Perm done ∧ ρ = [some (.box false (.lst bag)), some (.box false (.lst ds)), some (.box true (.lst ys)), z] ∧ (z = none ∨ ∃ e, z = some (.dat e))) (by
      rintro r ρ ⟨bag, ys, done, z, _, _, _, rfl, _⟩
      rfl) step ds 0 _ rfl h0
    refine ⟨ys, bag', ?_, by rw [h3, List.append_nil]; exact h4, h2⟩
    unfold m_law_mixed b__law_mixed
    simp [sizeLine_eq, startE, argA, bxIx, back, newC, notBor, bxAt, restE, noBx, lstB, lstAt, isNoD, h1]
end K05

namespace K05
open PySem PySem.Spec PyProof.Rows L3
structure NameOk (s : Str) : Prop where
  ok : PyData.strOk s = true
  len : s.length ≤ 1002
  num : s ≠ Str.ofString "num"
  tru : s ≠ Str.ofString "truth"
def menuS : List Str := [Str.ofString "a", Str.ofString "b", Str.ofString "k", Str.ofString "x", Str.ofString "y", Str.ofString "z", Str.ofString "p", Str.ofString "q", Str.ofString "box", Str.ofString "key", Str.ofString "lock", Str.ofString "made", Str.ofString "last", Str.ofString "in", Str.ofString "to", Str.ofString "s1", Str.ofString "r2d2"]
theorem menu_ok : ∀ s ∈ menuS, NameOk s := by
  have h : menuS.all (fun s => PyData.strOk s && decide (s.length ≤ 1002) && decide (s ≠ Str.ofString "num") && decide (s ≠ Str.ofString "truth")) = true := by decide +kernel
  intro s hs
  have := List.all_eq_true.mp h s hs
  simp only [Bool.and_eq_true, decide_eq_true_eq] at this
  exact ⟨this.1.1.1, this.1.1.2, this.1.2, this.2⟩
theorem nmS_name {k : Nat} (h : k ≤ 1000) : NameOk (nmS k) := by
  have hl := numS_len k
  refine ⟨nmS_ok k, by rw [nmS_len]; omega, fun e => ?_, fun e => ?_⟩
  · have e1 := congrArg (fun s : Str => s.cps.toList) e
    rw [nmS_cps] at e1
    have e2 : (numS k).cps.toList = [117, 109] := by
      injection e1
    have := numS_digit (k := k) (c := 117) (by rw [e2]; simp)
    omega
  · have e1 := congrArg (fun s : Str => s.cps.toList) e
    rw [nmS_cps] at e1
    injection e1 with e2 e3
    exact absurd e2 (by decide)
theorem notIn_L {x : A} {l : List Str} (hx : IsL x (l.map PyData.str)) (s : Str) : notInD (.str s) x.vw = some (.dat (.bool (!decide (s ∈ l)))) := by
  rcases hx with rfl | rfl <;> exact notIn_strs s l
theorem in_L {x : A} {l : List Str} (hx : IsL x (l.map PyData.str)) (s : Str) : inD (.str s) x.vw = some (.dat (.bool (decide (s ∈ l)))) := by
  rcases hx with rfl | rfl <;> exact in_strs s l
theorem isL_var {x : A} {ds : List D} (hx : IsL x ds) (i : Nat) (ρ : En) : (varA i ρ (some x) = some (.dat (.list ds), ρ) ∧ x = .dat (.list ds)) ∨ (varA i ρ (some x) = some (.ref i, ρ) ∧ x = .box false (.lst ds)) := by
  rcases hx with rfl | rfl
  · exact .inl ⟨rfl, rfl⟩
  · exact .inr ⟨rfl, rfl⟩
theorem new_name_ok {bag : List D} (hb : BagOk bag) {x : A} {had : List Str} (hx : IsL x (had.map PyData.str)) (hl : had.length < 1000) :
    ∃ s bag', m_law_new_name [.box false (.lst bag), x] = some (.dat (.str s), [.box false (.lst bag'), x]) ∧ BagOk bag' ∧ s ∉ had ∧ NameOk s := by
  have step : ∀ (d : D) (r : List D) (ρ : En), (∃ bag z3 z5, BagOk bag ∧ ρ = [some (.box false (.lst bag)), some x, some (.box true (.lst (menuS.map PyData.str))), z3, none, z5] ∧ (z3 = none ∨ ∃ e, z3 = some (.dat e)) ∧ (z5 = none ∨ ∃ e, z5 = some (.dat e))) →
      ∃ ρ1 o ρ2, gnm 3 d ρ = some ρ1 ∧ L__law_new_name_1 ρ1 = some (o, ρ2) ∧ (((o = .nx ∨ o = .ct) ∧ ∃ bag z3 z5, BagOk bag ∧ ρ2 = [some (.box false (.lst bag)), some x, some (.box true (.lst (menuS.map PyData.str))), z3, none, z5] ∧ (z3 = none ∨ ∃ e, z3 = some (.dat e)) ∧ (z5 = none ∨ ∃ e, z5 = some (.dat e))) ∨
        ∃ r, o = .rt r ∧ ∃ s bag z3 z5, r = .dat (.str s) ∧ BagOk bag ∧ s ∉ had ∧ NameOk s ∧ ρ2 = [some (.box false (.lst bag)), some x, some (.box true (.lst (menuS.map PyData.str))), z3, none, z5]) := by
    rintro d r ρ ⟨bag, z3, z5, hb, rfl, h3, h5⟩
    obtain ⟨e, bag', h1, h2, h4⟩ := some_ok hb (x := .box false (.lst (menuS.map PyData.str))) (ds := menuS.map PyData.str) (.inr rfl) (by decide) (by decide)
    obtain ⟨s, hs, rfl⟩ := List.mem_map.mp h2
    refine ⟨[some (.box false (.lst bag)), some x, some (.box true (.lst (menuS.map PyData.str))), some (.dat d), none, z5], ?_⟩
    by_cases hin : s ∈ had
    · refine ⟨.nx, [some (.box false (.lst bag')), some x, some (.box true (.lst (menuS.map PyData.str))), some (.dat d), none, some (.dat (.str s))], ?_, ?_, .inl ⟨.inl rfl, bag', _, _, h4, rfl, .inr ⟨_, rfl⟩, .inr ⟨_, rfl⟩⟩⟩
      · rcases h3 with rfl | ⟨e, rfl⟩ <;> simp [sizeLine_eq, startE, argA, bxIx, back, newC, notBor, bxAt, restE, noBx, lstB, lstAt, isNoD]
      · have hv := notIn_L hx s
        unfold L__law_new_name_1
        rcases hx with rfl | rfl <;> rcases h5 with rfl | ⟨e, rfl⟩ <;> simp [sizeLine_eq, startE, argA, bxIx, back, newC, notBor, bxAt, restE, noBx, lstB, lstAt, isNoD, h1, notIn_strs, hin]
    · refine ⟨.rt (.dat (.str s)), [some (.box false (.lst bag')), some x, some (.box true (.lst (menuS.map PyData.str))), some (.dat d), none, some (.dat (.str s))], ?_, ?_, .inr ⟨_, rfl, s, bag', _, _, rfl, h4, hin, menu_ok s hs, rfl⟩⟩
      · rcases h3 with rfl | ⟨e, rfl⟩ <;> simp [sizeLine_eq, startE, argA, bxIx, back, newC, notBor, bxAt, restE, noBx, lstB, lstAt, isNoD]
      · unfold L__law_new_name_1
        rcases hx with rfl | rfl <;> rcases h5 with rfl | ⟨e, rfl⟩ <;> simp [sizeLine_eq, startE, argA, bxIx, back, newC, notBor, bxAt, restE, noBx, lstB, lstAt, isNoD, h1, notIn_strs, hin]
  have hm : ([.str (Str.ofString "a"), .str (Str.ofString "b"), .str (Str.ofString "k"), .str (Str.ofString "x"), .str (Str.ofString "y"), .str (Str.ofString "z"), .str (Str.ofString "p"), .str (Str.ofString "q"), .str (Str.ofString "box"), .str (Str.ofString "key"), .str (Str.ofString "lock"), .str (Str.ofString "made"), .str (Str.ofString "last"), .str (Str.ofString "in"), .str (Str.ofString "to"), .str (Str.ofString "s1"), .str (Str.ofString "r2d2")] : List D) = menuS.map PyData.str := rfl
  have hml : menuS.length = 17 := rfl
  rcases forI_ret (P := fun _ ρ => ∃ bag z3 z5, BagOk bag ∧ ρ = [some (.box false (.lst bag)), some x, some (.box true (.lst (menuS.map PyData.str))), z3, none, z5] ∧ (z3 = none ∨ ∃ e, z3 = some (.dat e)) ∧ (z5 = none ∨ ∃ e, z5 = some (.dat e)))
      (Z := fun r ρ2 => ∃ s bag z3 z5, r = .dat (.str s) ∧ BagOk bag ∧ s ∉ had ∧ NameOk s ∧ ρ2 = [some (.box false (.lst bag)), some x, some (.box true (.lst (menuS.map PyData.str))), z3, none, z5]) step (rngD 0 2) [some (.box false (.lst bag)), some x, some (.box true (.lst (menuS.map PyData.str))), none, none, none] ⟨bag, none, none, hb, rfl, .inl rfl, .inl rfl⟩ with ⟨ρ', h1, bag', z3, z5, h2, rfl, _⟩ | ⟨r, ρ', h1, s, bag', z3, z5, rfl, h2, h3, h4, rfl⟩
  · obtain ⟨k, k1, k2, k3⟩ := first_free had
    have hw : ∀ (m j : Nat), j + m = k → mwhN C__law_new_name_2 L__law_new_name_2 (m + 1) [some (.box false (.lst bag')), some x, some (.box true (.lst (menuS.map PyData.str))), z3, some (.dat (.int (j : Int))), z5] =
        some (.nx, [some (.box false (.lst bag')), some x, some (.box true (.lst (menuS.map PyData.str))), z3, some (.dat (.int (k : Int))), z5]) := by
      intro m
      induction m with
      | zero =>
        intro j hj
        have ej : j = k := by omega
        subst ej
        have hc : C__law_new_name_2 [some (.box false (.lst bag')), some x, some (.box true (.lst (menuS.map PyData.str))), z3, some (.dat (.int (j : Int))), z5] = some (false, [some (.box false (.lst bag')), some x, some (.box true (.lst (menuS.map PyData.str))), z3, some (.dat (.int (j : Int))), z5]) := by
          unfold C__law_new_name_2
          rcases hx with rfl | rfl <;> simp [sizeLine_eq, startE, argA, bxIx, back, newC, notBor, bxAt, restE, noBx, lstB, lstAt, isNoD, str_num (show j < 1900 by omega), add_num (show j < 1900 by omega), in_strs, k2]
        unfold mwhN
        rw [hc]
        rfl
      | succ m ih =>
        intro j hj
        have hin : nmS j ∈ had := k3 j (by omega)
        have hc : C__law_new_name_2 [some (.box false (.lst bag')), some x, some (.box true (.lst (menuS.map PyData.str))), z3, some (.dat (.int (j : Int))), z5] = some (true, [some (.box false (.lst bag')), some x, some (.box true (.lst (menuS.map PyData.str))), z3, some (.dat (.int (j : Int))), z5]) := by
          unfold C__law_new_name_2
          rcases hx with rfl | rfl <;> simp [sizeLine_eq, startE, argA, bxIx, back, newC, notBor, bxAt, restE, noBx, lstB, lstAt, isNoD, str_num (show j < 1900 by omega), add_num (show j < 1900 by omega), in_strs, hin]
        have hbd : L__law_new_name_2 [some (.box false (.lst bag')), some x, some (.box true (.lst (menuS.map PyData.str))), z3, some (.dat (.int (j : Int))), z5] = some (.nx, [some (.box false (.lst bag')), some x, some (.box true (.lst (menuS.map PyData.str))), z3, some (.dat (.int ((j + 1 : Nat) : Int))), z5]) := by
          unfold L__law_new_name_2
          simp [sizeLine_eq, startE, argA, bxIx, back, newC, notBor, bxAt, restE, noBx, lstB, lstAt, isNoD]
        unfold mwhN
        rw [hc, Option.bind_some, if_pos rfl, hbd]
        exact ih (j + 1) (by omega)
    have hw1 := mwh_of (hw k 0 (by omega))
    rw [show (((0 : Nat) : Int)) = 0 from rfl] at hw1
    refine ⟨nmS k, bag', ?_, h2, k2, nmS_name (by omega)⟩
    unfold m_law_new_name b__law_new_name
    rcases hx with rfl | rfl <;> simp [sizeLine_eq, startE, argA, bxIx, back, newC, notBor, bxAt, restE, noBx, lstB, lstAt, isNoD, hm, hml, h1, hw1, str_num (show k < 1900 by omega), add_num (show k < 1900 by omega)]
  · refine ⟨s, bag', ?_, h2, h3, h4⟩
    unfold m_law_new_name b__law_new_name
    rcases hx with rfl | rfl <;> simp [sizeLine_eq, startE, argA, bxIx, back, newC, notBor, bxAt, restE, noBx, lstB, lstAt, isNoD, hm, hml, h1]
end K05

namespace K05
open PySem PySem.Spec PyProof.Rows L3
/-! stocks, dicts of counts -/
abbrev St := List (Str × Int)
abbrev dI (c : St) : List (L2.Key × D) := dE PyData.int c
def encSt (st : St) : D := .tuple (st.map (encP PyData.int))
def posT (c : St) (k : Str) : Option (Str × Int) := match getT c k with
  | some n => if 0 < n then some (k, n) else none
  | none => none
def stockOf (c : St) : St := (sortS (keyT c)).filterMap (posT c)
theorem stock_items (c : St) : (sortS (keyT c)).filterMap (fun k => (posT c k).map (encP PyData.int)) = (stockOf c).map (encP PyData.int) := by
  unfold stockOf
  rw [List.map_filterMap]
theorem mem_sort {l : List Str} {k : Str} (h : k ∈ sortS l) : k ∈ l := (sortS_perm l).mem_iff.mp h
/-- a list or a tuple, as data or lent -/
def IsS (x : A) (ds : List D) : Prop := x = .dat (.list ds) ∨ x = .dat (.tuple ds) ∨ x = .box false (.lst ds)
/-! joined -/
def joinP (c : St) (p : Str × Int) : St := putT c p.1 (if p.2 > (getT c p.1).getD 0 then p.2 else (getT c p.1).getD 0)
def joinT (c : St) (st : St) : St := st.foldl joinP c
theorem getD_map (o : Option Int) : (o.map PyData.int).getD (PyData.int 0) = PyData.int (o.getD 0) := by cases o <;> rfl
def totalL (sts : List St) : Nat := (sts.map List.length).sum
theorem dI_len {c : St} (h : c.length < 64) : (dE PyData.int c).length < 16777216 := by
  unfold dE
  rw [List.length_map]
  omega
theorem max_comm (i j : Int) : (if i < j then j else i) = (if j < i then i else j) := by split <;> split <;> omega
/-- a loop over the stocks, the pairs of each put into a dict -/
theorem total_cons (st : St) (sts : List St) : totalL (st :: sts) = st.length + totalL sts := by simp [totalL]
def inS (L : MS) (E : St → St → (Option D × Option D) → En) (f : St → Str × Int → St) (ok : Str × Int → Prop) : Prop :=
  ∀ (c st : St) (j : Option D × Option D), c.length + st.length < 64 → (∀ p ∈ st, ok p) → ∃ j', L (E c st j) = some (.nx, E (st.foldl f c) st j') ∧ (st.foldl f c).length < 64
theorem put_fold_len {f : St → Str × Int → St} (hf : ∀ c p, (f c p).length ≤ c.length + 1) : ∀ (st c : St), (st.foldl f c).length ≤ c.length + st.length
  | [], c => Nat.le_refl _
  | p :: r, c => by
    have h1 := put_fold_len hf r (f c p)
    have h2 := hf c p
    rw [List.foldl_cons, List.length_cons]
    omega
/-- the outer loop -/
theorem outer_I {L : MS} {E : St → St → (Option D × Option D) → En} {f : St → Str × Int → St} {ok : Str × Int → Prop} (hin : inS L E f ok) {g : MG} {sts : List St} {E0 : St → (Option D × Option D × Option D) → En}
    (hg : ∀ c st j, g (encSt st) (E0 c j) = some (E c st (j.2.1, j.2.2))) (hE : ∀ c st j, E c st j = E0 c (some (encSt st), j.1, j.2)) (hf : ∀ c p, (f c p).length ≤ c.length + 1) (hl : totalL sts < 64) (hok : ∀ st ∈ sts, ∀ p ∈ st, ok p) (j : Option D × Option D × Option D) :
    (∃ j', mforI g L (sts.map encSt) (E0 [] j) = some (.nx, E0 (sts.foldl (fun c st => st.foldl f c) []) j')) ∧ (sts.foldl (fun c st => st.foldl f c) []).length < 64 ∧
    ∀ i, (∀ c j, lstB (E0 c j) i = some (sts.map encSt)) → ∃ j', mforS i g L (sts.map encSt) 0 (E0 [] j) = some (.nx, E0 (sts.foldl (fun c st => st.foldl f c) []) j') := by
  have step : ∀ (s : St) (x : St) (r : List St) (j : Option D × Option D × Option D), (s.length + totalL (x :: r) < 64 ∧ ∀ st ∈ x :: r, ∀ p ∈ st, ok p) → ∃ ρ1 j', g (encSt x) (E0 s j) = some ρ1 ∧ L ρ1 = some (.nx, E0 (x.foldl f s) j') ∧ ((x.foldl f s).length + totalL r < 64 ∧ ∀ st ∈ r, ∀ p ∈ st, ok p) := by
    intro s x r j ⟨h1, h2⟩
    rw [total_cons] at h1
    obtain ⟨j', h3, _⟩ := hin s x (j.2.1, j.2.2) (by omega) (h2 x List.mem_cons_self)
    have := put_fold_len hf x s
    exact ⟨_, _, hg s x j, by rw [h3, hE], by omega, fun st hst => h2 st (List.mem_cons_of_mem _ hst)⟩
  have h0 : (([] : St).length + totalL sts < 64 ∧ ∀ st ∈ sts, ∀ p ∈ st, ok p) := ⟨by simpa using hl, hok⟩
  obtain ⟨j', h1, h2⟩ := forI_fold (g := g) (b := L) (enc := encSt) E0 (fun c st => st.foldl f c) (fun c r => c.length + totalL r < 64 ∧ ∀ st ∈ r, ∀ p ∈ st, ok p) step sts [] j h0
  refine ⟨⟨j', h1⟩, Nat.lt_of_le_of_lt (Nat.le_add_right _ _) h2.1, fun i hi => ?_⟩
  obtain ⟨j', h1, _⟩ := forS_fold (g := g) (b := L) (enc := encSt) E0 (fun c st => st.foldl f c) (fun c r => c.length + totalL r < 64 ∧ ∀ st ∈ r, ∀ p ∈ st, ok p) hi step [] j h0
  exact ⟨j', h1⟩
theorem joinP_len (c : St) (p : Str × Int) : (joinP c p).length ≤ c.length + 1 := put_len _ _ _
/-! joined, the program's -/
/-! added, by the names of once kinds -/
def addP (o : Str → Bool) (c : St) (p : Str × Int) : St := putT c p.1 (if o p.1 = true then (getT c p.1).getD 0 + p.2 else 1)
theorem addP_len (o : Str → Bool) (c : St) (p : Str × Int) : (addP o c p).length ≤ c.length + 1 := put_len _ _ _
def addT (o : Str → Bool) (sts : List St) : St := sts.foldl (fun c st => st.foldl (addP o) c) []
end K05

namespace K05
open PySem PySem.Spec PyProof.Rows L3
/-! at or above -/
def geT (one other : St) : Bool := other.all fun p => decide (p.2 ≤ (getT one p.1).getD 0)
theorem bools_map {α : Type} (f : α → Bool) : ∀ xs : List α, boolsD (xs.map fun x => PyData.bool (f x)) = some (xs.map f)
  | [] => rfl
  | x :: r => by
    rw [List.map_cons]
    unfold boolsD
    rw [bools_map f r]
    rfl
theorem eq_nil {ds : List D} (h : okL ds = true) (hd : ∀ d ∈ ds, d.depth ≤ 60) : eqD (.list ds) (.list []) = some (.dat (.bool ds.isEmpty)) := by
  have h1 : SeqAt.shaped (.list ds) = true := by
    unfold SeqAt.shaped
    rw [Bool.and_eq_true, decide_eq_true_eq]
    refine ⟨okD_lay (.list ds) (by simpa only [okD] using h), ?_⟩
    have := depthL_le hd
    show PyData.depthAll ds + 1 ≤ 64
    omega
  have h2 : SeqAt.shaped (.list []) = true := by decide
  unfold eqD eqOk
  rw [h1, h2, Bool.and_self, Bool.or_true, if_pos rfl]
  cases ds <;> simp [PyData.eqv, PyData.eqvAll]
theorem ne_nil {ds : List D} (h : okL ds = true) (hd : ∀ d ∈ ds, d.depth ≤ 60) : neD (.list ds) (.list []) = some (.dat (.bool (!ds.isEmpty))) := by
  have h0 := eq_nil h hd
  unfold eqD at h0
  unfold neD
  split at h0
  · rename_i hq
    rw [if_pos hq]
    have : PyData.eqv (.list ds) (.list []) = ds.isEmpty := by
      injection h0 with h0
      injection h0 with h0
      injection h0
    rw [this]
  · cases h0
theorem okL_strs {l : List Str} (h : ∀ s ∈ l, PyData.strOk s = true) : okL (l.map PyData.str) = true := okL_map fun s hs => by simpa only [okD] using h s hs
theorem dep_strs (l : List Str) : ∀ d ∈ l.map PyData.str, d.depth ≤ 60 := fun d hd => by
  obtain ⟨s, _, rfl⟩ := List.mem_map.mp hd
  exact Nat.zero_le _
/-! without -/
def mx0 (i : Int) : Int := if 0 < i then i else 0
def woP (o : Str → Bool) (c : St) (p : Str × Int) : St := putT c p.1 (if o p.1 = true then mx0 ((getT c p.1).getD 0 - p.2) else 0)
theorem woP_len (o : Str → Bool) (c : St) (p : Str × Int) : (woP o c p).length ≤ c.length + 1 := put_len _ _ _
/-- found[k] = f k found[k], for each key -/
def eachP (f : Str → Int → Int) (c : St) (k : Str) : St := putT c k (f k ((getT c k).getD 0))
theorem eachP_len (f : Str → Int → Int) (c : St) (k : Str) : (eachP f c k).length ≤ c.length + 1 := put_len _ _ _
theorem each_get (f : Str → Int → Int) (j : Str) : ∀ (ks : List Str) (c : St), ks.Nodup → getT (ks.foldl (eachP f) c) j = if j ∈ ks then some (f j ((getT c j).getD 0)) else getT c j
  | [], c, _ => by simp
  | k :: r, c, h => by
    obtain ⟨h1, h2⟩ := List.nodup_cons.mp h
    rw [List.foldl_cons, each_get f j r _ h2]
    unfold eachP
    rw [getT_put]
    by_cases hj : j = k
    · subst hj
      simp [h1]
    · simp [hj]
theorem each_keys (f : Str → Int → Int) : ∀ (ks : List Str) (c : St), (∀ k ∈ ks, k ∈ keyT c) → keyT (ks.foldl (eachP f) c) = keyT c
  | [], c, _ => rfl
  | k :: r, c, h => by
    have hk : keyT (eachP f c k) = keyT c := by
      unfold eachP
      rw [keyT_put, if_pos (h k List.mem_cons_self)]
    rw [List.foldl_cons, each_keys f r _ (fun x hx => by rw [hk]; exact h x (List.mem_cons_of_mem _ hx)), hk]
theorem get_some {c : St} {k : Str} (h : k ∈ keyT c) : getT c k = some ((getT c k).getD 0) := by
  cases e : getT c k with
  | none => exact absurd h (getT_none.mp e)
  | some n => rfl
end K05

namespace K05
open PySem PySem.Spec PyProof.Rows L3
/-- which kinds are once, by the program and by the law -/
structure OnceOk (dt : D) (os : List Str) (K : List Str) : Prop where
  hp : p_once_kinds [.dat dt] = some (.dat (.tuple (os.map PyData.str)), [.dat dt])
  hl : ∀ k ∈ K, m_law_is_once [.dat dt, .dat (.str k)] = some (.dat (.bool (decide (k ∈ os))), [.dat dt, .dat (.str k)])
abbrev onc (os : List Str) (k : Str) : Bool := decide (k ∈ os)
/-! taken -/
def tkP (o : Str → Bool) (c : St) (p : Str × Int) : St := putT c p.1 (if o p.1 = true then (getT c p.1).getD 0 - p.2 else (getT c p.1).getD 0)
/-! stock_of -/
def kindSt (ks : List Str) : List St := (ks.filter fun k => !(decide (k ∈ [Str.ofString "num", Str.ofString "truth"]))).map fun k => [(k, 1)]
theorem kind_total (ks : List Str) : totalL (kindSt ks) ≤ ks.length := by
  unfold kindSt totalL
  rw [List.map_map]
  have h : ∀ l : List Str, (l.map (List.length ∘ fun k => [(k, (1 : Int))])).sum = l.length := fun l => by
    induction l with
    | nil => rfl
    | cons x r ih => rw [List.map_cons, List.sum_cons, ih, List.length_cons]; show 1 + r.length = _; omega
  rw [h]
  exact List.length_filter_le _ _
theorem kind_items (ks : List Str) : (ks.filterMap fun k => if k ∈ [Str.ofString "num", Str.ofString "truth"] then none else some (encSt [(k, 1)])) = (kindSt ks).map encSt := by
  unfold kindSt
  induction ks with
  | nil => rfl
  | cons k r ih =>
    by_cases h : k ∈ [Str.ofString "num", Str.ofString "truth"]
    · rw [List.filterMap_cons, if_pos h]
      simp only [List.filter_cons, decide_eq_true h, Bool.not_true, Bool.false_eq_true, if_false]
      exact ih
    · rw [List.filterMap_cons, if_neg h]
      simp only [List.filter_cons, decide_eq_false h, Bool.not_false, if_true, List.map_cons]
      rw [ih]
end K05

namespace K05
open PySem PySem.Spec PyProof.Rows L3
/-! declarations -/
inductive Dc where
  | once (n : Str)
  | plain (n : Str)
  | record (n : Str) (ps : List (Str × Option Str))
  | choice (n : Str) (ps : List (Str × Option Str))
  | given (n : Str) (ps : List Str) (g : Str)
def Dc.word : Dc → Str
  | .once _ => Str.ofString "once"
  | .plain _ => Str.ofString "plain"
  | .record _ _ => Str.ofString "record"
  | .choice _ _ => Str.ofString "choice"
  | .given _ _ _ => Str.ofString "given"
def Dc.name : Dc → Str
  | .once n => n
  | .plain n => n
  | .record n _ => n
  | .choice n _ => n
  | .given n _ _ => n
def encO : Option Str → D
  | none => .none
  | some s => .str s
def Dc.rest : Dc → List D
  | .once _ => []
  | .plain _ => []
  | .record _ ps => [.tuple (ps.map (encP encO))]
  | .choice _ ps => [.tuple (ps.map (encP encO))]
  | .given _ ps g => [.tuple (ps.map PyData.str), .str g]
def encDc (d : Dc) : D := .tuple (.str d.word :: .str d.name :: d.rest)
def Dc.isKd : Dc → Bool
  | .given _ _ _ => false
  | _ => true
def Dc.pairs : Dc → List (Str × Option Str)
  | .record _ ps => ps
  | .choice _ ps => ps
  | _ => []
def Dc.isRC : Dc → Bool
  | .record _ _ => true
  | .choice _ _ => true
  | _ => false
def Dc.isOnce : Dc → Bool
  | .once _ => true
  | _ => false
def Dc.arms : Dc → List Str
  | .choice _ ps => ps.map (·.1)
  | _ => []
def Dc.parts (d : Dc) : List Str := d.pairs.filterMap (·.2)
theorem atI_1 (a b : D) (r : List D) : L2.atI (a :: b :: r) 1 = some b := by
  unfold L2.atI L2.ixN
  rw [if_pos (by decide), if_pos (by simp only [List.length_cons]; omega)]
  rfl
theorem atI_2 (a b c : D) (r : List D) : L2.atI (a :: b :: c :: r) 2 = some c := by
  unfold L2.atI L2.ixN
  rw [if_pos (by decide), if_pos (by simp only [List.length_cons]; omega)]
  rfl
theorem ix0 (d : Dc) : ixD (encDc d) (.int 0) = some (.dat (.str d.word)) := by
  unfold encDc
  rw [q_ixD_2, atI_0]
  rfl
theorem ix1 (d : Dc) : ixD (encDc d) (.int 1) = some (.dat (.str d.name)) := by
  unfold encDc
  rw [q_ixD_2, atI_1]
  rfl
theorem ix2 (d : Dc) (h : d.isRC = true) : ixD (encDc d) (.int 2) = some (.dat (.tuple (d.pairs.map (encP encO)))) := by
  cases d with
  | once n => cases h
  | plain n => cases h
  | given n ps g => cases h
  | record n ps =>
    unfold encDc
    show ixD (.tuple [_, _, _]) _ = _
    rw [q_ixD_2, atI_2]
    rfl
  | choice n ps =>
    unfold encDc
    show ixD (.tuple [_, _, _]) _ = _
    rw [q_ixD_2, atI_2]
    rfl
theorem inW (w : Str) (ws : List Str) (b : Bool) (h : decide (w ∈ ws) = b) : inD (.str w) (.tuple (ws.map PyData.str)) = some (.dat (.bool b)) := by rw [in_strsT, h]
theorem notInW (w : Str) (ws : List Str) (b : Bool) (h : decide (w ∈ ws) = b) : notInD (.str w) (.tuple (ws.map PyData.str)) = some (.dat (.bool (!b))) := by rw [notIn_strsT, h]
theorem w_kind (d : Dc) : inD (.str d.word) (.tuple [.str (Str.ofString "plain"), .str (Str.ofString "once"), .str (Str.ofString "record"), .str (Str.ofString "choice")]) = some (.dat (.bool d.isKd)) := by
  cases d <;> exact inW _ [Str.ofString "plain", Str.ofString "once", Str.ofString "record", Str.ofString "choice"] _ rfl
theorem w_rc (d : Dc) : inD (.str d.word) (.tuple [.str (Str.ofString "record"), .str (Str.ofString "choice")]) = some (.dat (.bool d.isRC)) := by
  cases d <;> exact inW _ [Str.ofString "record", Str.ofString "choice"] _ rfl
theorem w_nrc (d : Dc) : notInD (.str d.word) (.tuple [.str (Str.ofString "record"), .str (Str.ofString "choice")]) = some (.dat (.bool (!d.isRC))) := by
  cases d <;> exact notInW _ [Str.ofString "record", Str.ofString "choice"] (Dc.isRC _) rfl
theorem w_po (d : Dc) : inD (.str d.word) (.tuple [.str (Str.ofString "plain"), .str (Str.ofString "once")]) = some (.dat (.bool (d.isKd && !d.isRC))) := by
  cases d <;> exact inW _ [Str.ofString "plain", Str.ofString "once"] _ rfl
theorem w_gd (d : Dc) : inD (.str d.word) (.tuple [.str (Str.ofString "given"), .str (Str.ofString "def")]) = some (.dat (.bool (!d.isKd))) := by
  cases d <;> exact inW _ [Str.ofString "given", Str.ofString "def"] _ rfl
theorem w_ngd (d : Dc) : notInD (.str d.word) (.tuple [.str (Str.ofString "given"), .str (Str.ofString "def")]) = some (.dat (.bool d.isKd)) := by
  have h : ∀ d : Dc, decide (d.word ∈ [Str.ofString "given", Str.ofString "def"]) = !d.isKd := fun d => by cases d <;> rfl
  have := notInW d.word [Str.ofString "given", Str.ofString "def"] _ (h d)
  rw [Bool.not_not] at this
  exact this
theorem w_once (d : Dc) : (d.word == Str.ofString "once") = d.isOnce := by cases d <;> rfl
theorem w_choice (d : Dc) : (d.word == Str.ofString "choice") = (match d with | .choice _ _ => true | _ => false) := by cases d <;> rfl
/-! parts -/
theorem law_parts_ok (d : Dc) (hl : d.pairs.length < 64) : m_law_parts [.dat (encDc d)] = some (.new (.lst (d.parts.map PyData.str)), [.dat (encDc d)]) := by
  have hp := lc_pure (g := gtup [1, 2]) (t := T__law_parts_1) (m := M__law_parts_1) (vs := [1, 2]) (ρ := [some (.dat (encDc d)), none, none]) (encP encO) (fun p => p.2.map PyData.str) d.pairs (fun p hp => by
    obtain ⟨a, o⟩ := p
    refine ⟨[some (.dat (encDc d)), some (.dat (.str a)), some (.dat (encO o))], o.isSome, ?_, ?_, ?_, ?_⟩
    · simp [sizeLine_eq, startE, argA, bxIx, back, newC, notBor, bxAt, restE, noBx, lstB, lstAt, isNoD, encP]
    · simp [sizeLine_eq, startE, argA, bxIx, back, newC, notBor, bxAt, restE, noBx, lstB, lstAt, isNoD]
    · cases o <;> simp [sizeLine_eq, startE, argA, bxIx, back, newC, notBor, bxAt, restE, noBx, lstB, lstAt, isNoD, T__law_parts_1, encO]
    · cases o <;> simp [sizeLine_eq, startE, argA, bxIx, back, newC, notBor, bxAt, restE, noBx, lstB, lstAt, isNoD, M__law_parts_1, encO]) (by rw [sizeLine_eq]; omega)
  rw [← List.map_filterMap] at hp
  unfold m_law_parts b__law_parts
  have h0 := ix0 d
  have h1 := w_nrc d
  by_cases h : d.isRC = true
  · have h2 := ix2 d h
    rw [h] at h1
    simp [sizeLine_eq, startE, argA, bxIx, back, newC, notBor, bxAt, restE, noBx, lstB, lstAt, isNoD, h0, h1, h2, hp]
    rfl
  · have h' : d.isRC = false := by simpa using h
    rw [h'] at h1
    have hn : d.parts = [] := by cases d <;> first | rfl | cases h'
    simp [sizeLine_eq, startE, argA, bxIx, back, newC, notBor, bxAt, restE, noBx, lstB, lstAt, isNoD, h0, h1, hn]
/-! declared -/
def declT (ds : List Dc) : List Str := ds.map Dc.name ++ ds.flatMap Dc.arms
theorem arms_len (d : Dc) : d.arms.length ≤ d.pairs.length := by cases d <;> simp [Dc.arms, Dc.pairs]
theorem law_declared_ok {x : A} {ds : List Dc} (hx : IsS x (ds.map encDc)) (hl : ds.length < 64) (hp : ∀ d ∈ ds, d.pairs.length < 64) : m_law_declared [x] = some (.new (.lst ((declT ds).map PyData.str)), [x]) := by
  have turn : ∀ d ∈ ds, PureTurn (gnm 2) myes M__law_declared_1 [2] [some x, none, none, none, none] (encDc d) (some (.str d.name)) := fun d _ =>
    ⟨[some x, none, some (.dat (encDc d)), none, none], true, by simp [sizeLine_eq, startE, argA, bxIx, back, newC, notBor, bxAt, restE, noBx, lstB, lstAt, isNoD], by simp [sizeLine_eq, startE, argA, bxIx, back, newC, notBor, bxAt, restE, noBx, lstB, lstAt, isNoD], rfl, rfl, by simp [sizeLine_eq, startE, argA, bxIx, back, newC, notBor, bxAt, restE, noBx, lstB, lstAt, isNoD, M__law_declared_1, ix1]⟩
  have step : ∀ (s : List Str) (d : Dc) (r : List Dc) (j : Option D), (s.length + 64 * (d :: r).length < 16777216 ∧ ∀ e ∈ d :: r, e.pairs.length < 64) →
      ∃ ρ1 j', gnm 2 (encDc d) [some x, some (.box true (.lst (s.map PyData.str))), sD j, none, none] = some ρ1 ∧ L__law_declared_3 ρ1 = some (.nx, [some x, some (.box true (.lst ((s ++ d.arms).map PyData.str))), sD j', none, none]) ∧ ((s ++ d.arms).length + 64 * r.length < 16777216 ∧ ∀ e ∈ r, e.pairs.length < 64) := by
    intro s d r j ⟨h1, h2⟩
    rw [List.length_cons] at h1
    have ha := arms_len d
    have hq := h2 d List.mem_cons_self
    refine ⟨[some x, some (.box true (.lst (s.map PyData.str))), some (.dat (encDc d)), none, none], some (encDc d), ?_, ?_, by rw [List.length_append]; omega, fun e he => h2 e (List.mem_cons_of_mem _ he)⟩
    · cases j <;> simp [sizeLine_eq, startE, argA, bxIx, back, newC, notBor, bxAt, restE, noBx, lstB, lstAt, isNoD, sD]
    · have h0 := ix0 d
      have hc := w_choice d
      unfold L__law_declared_3
      cases d with
      | choice n ps =>
        have h2' := ix2 (.choice n ps) rfl
        have hp := lc_pure (g := gtup [3, 4]) (t := myes) (m := M__law_declared_2) (vs := [3, 4]) (ρ := [some x, some (.box true (.lst (s.map PyData.str))), some (.dat (encDc (.choice n ps))), none, none]) (encP encO) (fun p => some (.str p.1)) ps (fun p hp => by
          refine ⟨[some x, some (.box true (.lst (s.map PyData.str))), some (.dat (encDc (.choice n ps))), some (.dat (.str p.1)), some (.dat (encO p.2))], true, ?_, ?_, rfl, rfl, ?_⟩
          · simp [sizeLine_eq, startE, argA, bxIx, back, newC, notBor, bxAt, restE, noBx, lstB, lstAt, isNoD, encP]
          · simp [sizeLine_eq, startE, argA, bxIx, back, newC, notBor, bxAt, restE, noBx, lstB, lstAt, isNoD]
          · simp [sizeLine_eq, startE, argA, bxIx, back, newC, notBor, bxAt, restE, noBx, lstB, lstAt, isNoD, M__law_declared_2]) (by rw [sizeLine_eq]; have : ps.length < 64 := hq; omega)
        rw [List.filterMap_eq_map'] at hp
        have hz : s.length + ps.length ≤ 16777216 := by have : ps.length < 64 := hq; omega
        have h2' : ixD (encDc (.choice n ps)) (.int 2) = some (.dat (.tuple (ps.map (encP encO)))) := h2'
        simp [sizeLine_eq, startE, argA, bxIx, back, newC, notBor, bxAt, restE, noBx, lstB, lstAt, isNoD, h0, hc, h2', hp, extendD, hz, sD, Dc.arms]
      | once n => simp [sizeLine_eq, startE, argA, bxIx, back, newC, notBor, bxAt, restE, noBx, lstB, lstAt, isNoD, h0, hc, sD, Dc.arms]
      | plain n => simp [sizeLine_eq, startE, argA, bxIx, back, newC, notBor, bxAt, restE, noBx, lstB, lstAt, isNoD, h0, hc, sD, Dc.arms]
      | record n ps => simp [sizeLine_eq, startE, argA, bxIx, back, newC, notBor, bxAt, restE, noBx, lstB, lstAt, isNoD, h0, hc, sD, Dc.arms]
      | given n ps g => simp [sizeLine_eq, startE, argA, bxIx, back, newC, notBor, bxAt, restE, noBx, lstB, lstAt, isNoD, h0, hc, sD, Dc.arms]
  have hfold : ∀ (r : List Dc) (s : List Str), r.foldl (fun s d => s ++ d.arms) s = s ++ r.flatMap Dc.arms := by
    intro r
    induction r with
    | nil => intro s; simp
    | cons d r ih => intro s; rw [List.foldl_cons, ih, List.flatMap_cons, List.append_assoc]
  have h0 : (ds.map Dc.name).length + 64 * ds.length < 16777216 ∧ ∀ e ∈ ds, e.pairs.length < 64 := ⟨by rw [List.length_map]; omega, hp⟩
  have e1 : (ds.filterMap fun d => some (PyData.str d.name)) = (ds.map Dc.name).map PyData.str := by rw [List.filterMap_eq_map', List.map_map]; rfl
  unfold m_law_declared b__law_declared declT
  rcases hx with rfl | rfl | rfl
  · have hq := lc_pure _ _ ds turn (by rw [sizeLine_eq]; omega)
    obtain ⟨j', h1, _⟩ := forI_fold (g := gnm 2) (b := L__law_declared_3) (enc := encDc) (fun (s : List Str) (j : Option D) => [some (.dat (.list (ds.map encDc))), some (.box true (.lst (s.map PyData.str))), sD j, none, none]) (fun s d => s ++ d.arms) (fun s r => s.length + 64 * r.length < 16777216 ∧ ∀ e ∈ r, e.pairs.length < 64) step ds (ds.map Dc.name) none h0
    rw [e1] at hq
    rw [hfold] at h1
    simp [sizeLine_eq, startE, argA, bxIx, back, newC, notBor, bxAt, restE, noBx, lstB, lstAt, isNoD, sD] at h1 hq ⊢
    simp [sizeLine_eq, startE, argA, bxIx, back, newC, notBor, bxAt, restE, noBx, lstB, lstAt, isNoD, hq, h1]
  · have hq := lc_pure _ _ ds turn (by rw [sizeLine_eq]; omega)
    obtain ⟨j', h1, _⟩ := forI_fold (g := gnm 2) (b := L__law_declared_3) (enc := encDc) (fun (s : List Str) (j : Option D) => [some (.dat (.tuple (ds.map encDc))), some (.box true (.lst (s.map PyData.str))), sD j, none, none]) (fun s d => s ++ d.arms) (fun s r => s.length + 64 * r.length < 16777216 ∧ ∀ e ∈ r, e.pairs.length < 64) step ds (ds.map Dc.name) none h0
    rw [e1] at hq
    rw [hfold] at h1
    simp [sizeLine_eq, startE, argA, bxIx, back, newC, notBor, bxAt, restE, noBx, lstB, lstAt, isNoD, sD] at h1 hq ⊢
    simp [sizeLine_eq, startE, argA, bxIx, back, newC, notBor, bxAt, restE, noBx, lstB, lstAt, isNoD, hq, h1]
  · have hq := lcS_pure (i := 0) _ _ ds (by decide) rfl turn (by rw [sizeLine_eq]; omega)
    obtain ⟨j', h1, _⟩ := forS_fold (i := 0) (g := gnm 2) (b := L__law_declared_3) (enc := encDc) (xs := ds) (fun (s : List Str) (j : Option D) => [some (.box false (.lst (ds.map encDc))), some (.box true (.lst (s.map PyData.str))), sD j, none, none]) (fun s d => s ++ d.arms) (fun s r => s.length + 64 * r.length < 16777216 ∧ ∀ e ∈ r, e.pairs.length < 64) (fun _ _ => rfl) step (ds.map Dc.name) none h0
    rw [e1] at hq
    rw [hfold] at h1
    simp [sizeLine_eq, startE, argA, bxIx, back, newC, notBor, bxAt, restE, noBx, lstB, lstAt, isNoD, sD] at h1 hq ⊢
    simp [sizeLine_eq, startE, argA, bxIx, back, newC, notBor, bxAt, restE, noBx, lstB, lstAt, isNoD, hq, h1]
end K05

namespace K05
open PySem PySem.Spec PyProof.Rows L3
/-! kinds -/
def kdT (ds : List Dc) : List Str := (ds.filter Dc.isKd).map Dc.name
def kindsT (ds : List Dc) : List Str := [Str.ofString "num", Str.ofString "truth"] ++ kdT ds
theorem law_kinds_ok {x : A} {ds : List Dc} (hx : IsS x (ds.map encDc)) (hl : ds.length < 64) : m_law_kinds [x] = some (.new (.lst ((kindsT ds).map PyData.str)), [x]) := by
  have turn : ∀ d ∈ ds, PureTurn (gnm 1) T__law_kinds_1 M__law_kinds_1 [1] [some x, none] (encDc d) (if d.isKd = true then some (.str d.name) else none) := fun d _ => by
    refine ⟨[some x, some (.dat (encDc d))], d.isKd, by simp [sizeLine_eq, startE, argA, bxIx, back, newC, notBor, bxAt, restE, noBx, lstB, lstAt, isNoD], by simp [sizeLine_eq, startE, argA, bxIx, back, newC, notBor, bxAt, restE, noBx, lstB, lstAt, isNoD], ?_, ?_⟩
    · unfold T__law_kinds_1
      simp [sizeLine_eq, startE, argA, bxIx, back, newC, notBor, bxAt, restE, noBx, lstB, lstAt, isNoD, ix0, w_kind]
    · by_cases h : d.isKd = true
      · rw [if_pos h]
        exact ⟨h, by simp [sizeLine_eq, startE, argA, bxIx, back, newC, notBor, bxAt, restE, noBx, lstB, lstAt, isNoD, M__law_kinds_1, ix1]⟩
      · rw [if_neg h]
        simpa using h
  have e1 : (ds.filterMap fun d => if d.isKd = true then some (PyData.str d.name) else none) = (kdT ds).map PyData.str := by
    clear hx hl turn
    unfold kdT
    induction ds with
    | nil => rfl
    | cons d r ih =>
      by_cases h : d.isKd = true
      · simp [h, ih]
      · simp [h, ih]
  have hz : (kdT ds).length ≤ ds.length := by
    unfold kdT
    rw [List.length_map]
    exact List.length_filter_le _ _
  have ha : addD (.list [.str (Str.ofString "num"), .str (Str.ofString "truth")]) (.list ((kdT ds).map PyData.str)) = some (.new (.lst ((kindsT ds).map PyData.str))) := by
    unfold addD
    simp only []
    rw [if_pos]
    · rfl
    · rw [sizeLine_eq, List.length_map]
      simp only [List.length_cons, List.length_nil]
      omega
  unfold m_law_kinds b__law_kinds
  rcases hx with rfl | rfl | rfl
  · have hq := lc_pure _ _ ds turn (by rw [sizeLine_eq]; omega)
    rw [e1] at hq
    simp [sizeLine_eq, startE, argA, bxIx, back, newC, notBor, bxAt, restE, noBx, lstB, lstAt, isNoD, hq, ha]
  · have hq := lc_pure _ _ ds turn (by rw [sizeLine_eq]; omega)
    rw [e1] at hq
    simp [sizeLine_eq, startE, argA, bxIx, back, newC, notBor, bxAt, restE, noBx, lstB, lstAt, isNoD, hq, ha]
  · have hq := lcS_pure (i := 0) _ _ ds (by decide) rfl turn (by rw [sizeLine_eq]; omega)
    rw [e1] at hq
    simp [sizeLine_eq, startE, argA, bxIx, back, newC, notBor, bxAt, restE, noBx, lstB, lstAt, isNoD, hq, ha]
theorem alikes_str (l : List Str) : alikeB (l.map PyData.str) = true := by
  unfold alikeB
  rw [List.all_eq_true]
  intro d hd
  rw [List.all_eq_true]
  intro e he
  obtain ⟨s, _, rfl⟩ := List.mem_map.mp hd
  obtain ⟨t, _, rfl⟩ := List.mem_map.mp he
  simp [PySem.W.alike]
theorem sorted_strs (l : List Str) : sortedD [.list (l.map PyData.str)] = some (.new (.lst ((sortS l).map PyData.str))) := by
  unfold sortedD
  simp only []
  rw [if_pos, sortD_str]
  unfold sortOk
  rw [alikes_str]
  have h1 : (l.map PyData.str).all noTup = true := by
    rw [List.all_eq_true]
    intro d hd
    obtain ⟨s, _, rfl⟩ := List.mem_map.mp hd
    rfl
  have h2 : (l.map PyData.str).all (fun d => decide (d.depth ≤ 64)) = true := by
    rw [List.all_eq_true]
    intro d hd
    obtain ⟨s, _, rfl⟩ := List.mem_map.mp hd
    rfl
  rw [h1, h2]
  simp
theorem cut2 (a b : D) (r : List D) (h : r.length < 1000) : cutL (a :: b :: r) (some 2) none = r := by
  unfold cutL
  rw [show ((2 : Int)) = ((2 : Nat) : Int) from rfl, HT.sIx_nat, HT.sIx_none]
  simp only [List.length_cons]
  have e : min 2 (r.length + 1 + 1) = 2 := by omega
  rw [e]
  simp
/-! once: the program's table -/
abbrev Tb := List (Str × Bool)
def stepP (t : Tb) (d : Dc) : Tb := if d.isKd = true then putT t d.name (d.isOnce || d.parts.any fun p => (getT t p).getD false) else t
def tabP (ds : List Dc) : Tb := ds.foldl stepP []
theorem stepP_len (t : Tb) (d : Dc) : (stepP t d).length ≤ t.length + 1 := by
  unfold stepP
  split
  · exact put_len _ _ _
  · omega
theorem getB_map (o : Option Bool) : (o.map PyData.bool).getD (PyData.bool false) = PyData.bool (o.getD false) := by cases o <;> rfl
theorem any_bools {α : Type} (f : α → Bool) (xs : List α) : anyD [.list (xs.map fun x => PyData.bool (f x))] = some (.dat (.bool (xs.any f))) := by
  unfold anyD
  simp only []
  rw [bools_map f]
  simp only [Option.map_some, List.any_map]
  rfl
theorem dB_len {t : Tb} (h : t.length < 64) : (dE PyData.bool t).length < 16777216 := by
  unfold dE
  rw [List.length_map]
  omega
theorem once_in (x : A) (t : Tb) (d : Dc) (j : Option D) (hd : d.pairs.length < 64) (ht : t.length < 64) :
    L_once_table_2 [some x, some (.box true (.dic (dE PyData.bool t))), some (.dat (encDc d)), none, none] = some (.nx, [some x, some (.box true (.dic (dE PyData.bool (stepP t d)))), some (.dat (encDc d)), none, none]) := by
  have hs := dB_len ht
  have h0 := ix0 d
  have h1 := ix1 d
  have hp := w_po d
  have hr := w_rc d
  have ho := w_once d
  unfold L_once_table_2
  by_cases hrc : d.isRC = true
  · have h2 := ix2 d hrc
    have hk : d.isKd = true := by cases d <;> first | rfl | cases hrc
    have hno : d.isOnce = false := by cases d <;> first | rfl | cases hrc
    have hq := lc_pure (g := gtup [3, 4]) (t := myes) (m := M_once_table_1) (vs := [3, 4]) (ρ := [some x, some (.box true (.dic (dE PyData.bool t))), some (.dat (encDc d)), none, none]) (encP encO) (fun p => some (.bool (match p.2 with | some k => (getT t k).getD false | none => false))) d.pairs (fun p _ => by
      obtain ⟨a, o⟩ := p
      refine ⟨[some x, some (.box true (.dic (dE PyData.bool t))), some (.dat (encDc d)), some (.dat (.str a)), some (.dat (encO o))], true, ?_, ?_, rfl, rfl, ?_⟩
      · simp [sizeLine_eq, startE, argA, bxIx, back, newC, notBor, bxAt, restE, noBx, lstB, lstAt, isNoD, encP]
      · simp [sizeLine_eq, startE, argA, bxIx, back, newC, notBor, bxAt, restE, noBx, lstB, lstAt, isNoD]
      · cases o with
        | none => simp [sizeLine_eq, startE, argA, bxIx, back, newC, notBor, bxAt, restE, noBx, lstB, lstAt, isNoD, M_once_table_1, encO]
        | some k => simp [sizeLine_eq, startE, argA, bxIx, back, newC, notBor, bxAt, restE, noBx, lstB, lstAt, isNoD, M_once_table_1, encO, dE_val, getB_map]) (by rw [sizeLine_eq]; omega)
    rw [List.filterMap_eq_map'] at hq
    have ha := any_bools (fun p : Str × Option Str => match p.2 with | some k => (getT t k).getD false | none => false) d.pairs
    have hany : (d.pairs.any fun p => match p.2 with | some k => (getT t k).getD false | none => false) = d.parts.any fun p => (getT t p).getD false := by
      unfold Dc.parts
      rw [List.any_filterMap]
      refine congrArg (d.pairs.any ·) (funext fun p => ?_)
      cases p.2 <;> rfl
    rw [hany] at ha
    rw [hrc, hk] at hp
    rw [hrc] at hr
    have he : stepP t d = putT t d.name (d.parts.any fun p => (getT t p).getD false) := by
      unfold stepP
      rw [if_pos hk, hno, Bool.false_or]
    rw [he]
    simp [sizeLine_eq, startE, argA, bxIx, back, newC, notBor, bxAt, restE, noBx, lstB, lstAt, isNoD, h0, h1, h2, hp, hr, hq, ha, hs, dE_put]
  · have hrc' : d.isRC = false := by simpa using hrc
    rw [hrc'] at hp hr
    have hn : d.parts = [] := by cases d <;> first | rfl | cases hrc'
    by_cases hk : d.isKd = true
    · rw [hk] at hp
      have he : stepP t d = putT t d.name d.isOnce := by
        unfold stepP
        rw [if_pos hk, hn]
        simp
      rw [he]
      simp [sizeLine_eq, startE, argA, bxIx, back, newC, notBor, bxAt, restE, noBx, lstB, lstAt, isNoD, h0, h1, hp, ho, hs, dE_put]
    · have hk' : d.isKd = false := by simpa using hk
      rw [hk'] at hp
      have he : stepP t d = t := by
        unfold stepP
        rw [if_neg hk]
      rw [he]
      simp [sizeLine_eq, startE, argA, bxIx, back, newC, notBor, bxAt, restE, noBx, lstB, lstAt, isNoD, h0, hp, hr]
theorem once_table_ok {ds : List Dc} (hl : ds.length < 64) (hp : ∀ d ∈ ds, d.pairs.length < 64) : p_once_table [.dat (.tuple (ds.map encDc))] = some (.new (.dic (dE PyData.bool (tabP ds))), [.dat (.tuple (ds.map encDc))]) := by
  obtain ⟨j', h1, _⟩ := forI_fold (g := gnm 2) (b := L_once_table_2) (enc := encDc) (fun (t : Tb) (j : Option D) => [some (.dat (.tuple (ds.map encDc))), some (.box true (.dic (dE PyData.bool t))), sD j, none, none]) stepP (fun t r => t.length + r.length < 64 ∧ ∀ d ∈ r, d.pairs.length < 64) (fun t d r j hI => by
    have h1 := hI.1
    rw [List.length_cons] at h1
    have hs := stepP_len t d
    refine ⟨[some (.dat (.tuple (ds.map encDc))), some (.box true (.dic (dE PyData.bool t))), some (.dat (encDc d)), none, none], some (encDc d), ?_, once_in _ t d j (hI.2 d List.mem_cons_self) (by omega), by omega, fun e he => hI.2 e (List.mem_cons_of_mem _ he)⟩
    cases j <;> simp [sizeLine_eq, startE, argA, bxIx, back, newC, notBor, bxAt, restE, noBx, lstB, lstAt, isNoD, sD]) ds [] none ⟨by simpa using hl, hp⟩
  unfold p_once_table b_once_table tabP
  simp [sizeLine_eq, startE, argA, bxIx, back, newC, notBor, bxAt, restE, noBx, lstB, lstAt, isNoD, sD, dE] at h1 ⊢
  simp [sizeLine_eq, startE, argA, bxIx, back, newC, notBor, bxAt, restE, noBx, lstB, lstAt, isNoD, h1]
def osT (ds : List Dc) : List Str := (sortS (keyT (tabP ds))).filter fun k => (getT (tabP ds) k).getD false
theorem tabP_len (ds : List Dc) : (tabP ds).length ≤ ds.length := by
  have h : ∀ (r : List Dc) (t : Tb), (r.foldl stepP t).length ≤ t.length + r.length := by
    intro r
    induction r with
    | nil => intro t; exact Nat.le_refl _
    | cons d r ih =>
      intro t
      have h1 := ih (stepP t d)
      have h2 := stepP_len t d
      rw [List.foldl_cons, List.length_cons]
      omega
  have := h ds []
  simpa [tabP] using this
theorem once_kinds_ok {ds : List Dc} (hl : ds.length < 64) (hp : ∀ d ∈ ds, d.pairs.length < 64) : p_once_kinds [.dat (.tuple (ds.map encDc))] = some (.dat (.tuple ((osT ds).map PyData.str)), [.dat (.tuple (ds.map encDc))]) := by
  have h1 := once_table_ok hl hp
  have h2 := tabP_len ds
  have h3 := sorted_dE PyData.bool (tabP ds) (by omega)
  have hq := lc_pure (g := gnm 2) (t := T_once_kinds_1) (m := M_once_kinds_1) (vs := [2]) (ρ := [some (.dat (.tuple (ds.map encDc))), some (.box true (.dic (dE PyData.bool (tabP ds)))), none]) PyData.str (fun k => if (getT (tabP ds) k).getD false = true then some (.str k) else none) (sortS (keyT (tabP ds))) (fun k hk => by
    have hm := mem_sort hk
    cases hg : getT (tabP ds) k with
    | none => exact absurd hm (getT_none.mp hg)
    | some b =>
      refine ⟨[some (.dat (.tuple (ds.map encDc))), some (.box true (.dic (dE PyData.bool (tabP ds)))), some (.dat (.str k))], b, by simp [sizeLine_eq, startE, argA, bxIx, back, newC, notBor, bxAt, restE, noBx, lstB, lstAt, isNoD], by simp [sizeLine_eq, startE, argA, bxIx, back, newC, notBor, bxAt, restE, noBx, lstB, lstAt, isNoD], ?_, ?_⟩
      · simp [sizeLine_eq, startE, argA, bxIx, back, newC, notBor, bxAt, restE, noBx, lstB, lstAt, isNoD, T_once_kinds_1, dE_val, hg]
      · cases b
        · simp
        · simp [sizeLine_eq, startE, argA, bxIx, back, newC, notBor, bxAt, restE, noBx, lstB, lstAt, isNoD, M_once_kinds_1]) (by
    rw [(sortS_perm _).length_eq, sizeLine_eq]
    unfold keyT
    rw [List.length_map]
    omega)
  have e1 : ((sortS (keyT (tabP ds))).filterMap fun k => if (getT (tabP ds) k).getD false = true then some (PyData.str k) else none) = (osT ds).map PyData.str := by
    unfold osT
    generalize sortS (keyT (tabP ds)) = l
    induction l with
    | nil => rfl
    | cons k r ih =>
      by_cases h : (getT (tabP ds) k).getD false = true
      · simp [h, ih]
      · simp [h, ih]
  rw [e1] at hq
  unfold p_once_kinds b_once_kinds
  simp [sizeLine_eq, startE, argA, bxIx, back, newC, notBor, bxAt, restE, noBx, lstB, lstAt, isNoD, h1, h3, hq]
end K05

namespace K05
open PySem PySem.Spec PyProof.Rows L3
/-! well-made libraries: parts are kinds known ahead -/
def Wf : List Str → List Dc → Prop
  | _, [] => True
  | K, d :: r => NameOk d.name ∧ d.pairs.length < 8 ∧ (∀ p ∈ d.parts, p ∈ K) ∧ Wf (if d.isKd = true then K ++ [d.name] else K) r
def K0 : List Str := [Str.ofString "num", Str.ofString "truth"]
theorem Wf.pairs8 {K : List Str} {ds : List Dc} (h : Wf K ds) : ∀ d ∈ ds, d.pairs.length < 8 := by
  induction ds generalizing K with
  | nil => exact fun d hd => by cases hd
  | cons e r ih =>
    obtain ⟨_, h2, _, h4⟩ := h
    intro d hd
    rcases List.mem_cons.mp hd with rfl | hd
    · exact h2
    · exact ih h4 d hd
theorem Wf.pairs {K : List Str} {ds : List Dc} (h : Wf K ds) : ∀ d ∈ ds, d.pairs.length < 64 := fun d hd => Nat.lt_trans (h.pairs8 d hd) (by decide)
theorem Wf.names {K : List Str} {ds : List Dc} (h : Wf K ds) : ∀ d ∈ ds, NameOk d.name := by
  induction ds generalizing K with
  | nil => exact fun d hd => by cases hd
  | cons e r ih =>
    obtain ⟨h1, _, _, h4⟩ := h
    intro d hd
    rcases List.mem_cons.mp hd with rfl | hd
    · exact h1
    · exact ih h4 d hd
def kAfter (K : List Str) : List Dc → List Str
  | [] => K
  | d :: r => kAfter (if d.isKd = true then K ++ [d.name] else K) r
theorem kAfter_eq : ∀ (ds : List Dc) (K : List Str), kAfter K ds = K ++ kdT ds
  | [], K => by simp [kAfter, kdT]
  | d :: r, K => by
    unfold kAfter
    rw [kAfter_eq r]
    unfold kdT
    by_cases h : d.isKd = true
    · simp [h]
    · simp [h]
theorem Wf.snoc {d : Dc} (h1 : NameOk d.name) (h2 : d.pairs.length < 8) : ∀ {ds : List Dc} {K : List Str}, Wf K ds → (∀ p ∈ d.parts, p ∈ kAfter K ds) → Wf K (ds ++ [d])
  | [], K, _, h3 => ⟨h1, h2, h3, trivial⟩
  | e :: r, K, h, h3 => ⟨h.1, h.2.1, h.2.2.1, Wf.snoc h1 h2 h.2.2.2 h3⟩
theorem Wf.take : ∀ {ds : List Dc} {K : List Str} (n : Nat), Wf K ds → Wf K (ds.take n)
  | _, _, 0, _ => trivial
  | [], _, _ + 1, _ => trivial
  | d :: r, K, n + 1, h => ⟨h.1, h.2.1, h.2.2.1, Wf.take n h.2.2.2⟩
/-- a table that knows the kinds K -/
def TbOk (K : List Str) (t : Tb) : Prop := ∀ k ∈ K, k ∈ keyT t ∧ PyData.strOk k = true
theorem TbOk.step {K : List Str} {t : Tb} (h : TbOk K t) (d : Dc) (hn : NameOk d.name) : TbOk (if d.isKd = true then K ++ [d.name] else K) (stepP t d) := by
  unfold stepP
  by_cases hk : d.isKd = true
  · rw [if_pos hk, if_pos hk]
    intro k hkm
    rw [keyT_put]
    rcases List.mem_append.mp hkm with hm | hm
    · refine ⟨?_, (h k hm).2⟩
      split
      · exact (h k hm).1
      · exact List.mem_append_left _ (h k hm).1
    · rw [List.mem_singleton.mp hm]
      refine ⟨?_, hn.ok⟩
      split
      · assumption
      · exact List.mem_append_right _ (List.mem_singleton_self _)
  · rw [if_neg hk, if_neg hk]
    exact h
theorem filt_map {α : Type} (q : α → Bool) (f : α → D) (l : List α) : (l.filterMap fun k => if q k = true then some (f k) else none) = (l.filter q).map f := by
  induction l with
  | nil => rfl
  | cons k r ih =>
    by_cases h : q k = true
    · simp [h, ih]
    · simp [h, ih]
theorem parts_len (d : Dc) : d.parts.length ≤ d.pairs.length := by
  unfold Dc.parts
  exact List.length_filterMap_le _ _
theorem ne_filter {q : Str → Bool} {l : List Str} (h : ∀ s ∈ l, PyData.strOk s = true) : neD (.list ((l.filter q).map PyData.str)) (.list []) = some (.dat (.bool (l.any q))) := by
  rw [ne_nil (okL_strs fun s hs => h s (List.mem_filter.mp hs).1) (dep_strs _)]
  refine congrArg (fun b => some (R.dat (.bool b))) ?_
  clear h
  induction l with
  | nil => rfl
  | cons k r ih =>
    rw [List.any_cons, ← ih]
    by_cases hq : q k = true
    · simp [hq]
    · simp [hq]
theorem get_someB {c : Tb} {k : Str} (h : k ∈ keyT c) : getT c k = some ((getT c k).getD false) := by
  cases e : getT c k with
  | none => exact absurd h (getT_none.mp e)
  | some n => rfl
theorem law_once_in (dt : D) (t : Tb) (d : Dc) (hd : d.pairs.length < 64) (ht : t.length < 80) (hk : ∀ p ∈ d.parts, p ∈ keyT t ∧ PyData.strOk p = true) :
    L__law_once_table_2 [some (.dat dt), some (.box true (.dic (dE PyData.bool t))), some (.dat (encDc d)), none] = some (.nx, [some (.dat dt), some (.box true (.dic (dE PyData.bool (stepP t d)))), some (.dat (encDc d)), none]) := by
  have hs : (dE PyData.bool t).length < 16777216 := by
    unfold dE
    rw [List.length_map]
    omega
  have h0 := ix0 d
  have h1 := ix1 d
  have hw := w_kind d
  have ho := w_once d
  have hp := law_parts_ok d hd
  have hl := parts_len d
  have hq := lc_pure (g := gnm 3) (t := T__law_once_table_1) (m := M__law_once_table_1) (vs := [3]) (ρ := [some (.dat dt), some (.box true (.dic (dE PyData.bool t))), some (.dat (encDc d)), none]) PyData.str (fun p => if (getT t p).getD false = true then some (.str p) else none) d.parts (fun p hp => by
    have hg := get_someB (hk p hp).1
    generalize hb : (getT t p).getD false = b at hg ⊢
    refine ⟨[some (.dat dt), some (.box true (.dic (dE PyData.bool t))), some (.dat (encDc d)), some (.dat (.str p))], b, by simp [sizeLine_eq, startE, argA, bxIx, back, newC, notBor, bxAt, restE, noBx, lstB, lstAt, isNoD], by simp [sizeLine_eq, startE, argA, bxIx, back, newC, notBor, bxAt, restE, noBx, lstB, lstAt, isNoD], ?_, ?_⟩
    · simp [sizeLine_eq, startE, argA, bxIx, back, newC, notBor, bxAt, restE, noBx, lstB, lstAt, isNoD, T__law_once_table_1, dE_val, hg]
    · cases b
      · simp
      · simp [sizeLine_eq, startE, argA, bxIx, back, newC, notBor, bxAt, restE, noBx, lstB, lstAt, isNoD, M__law_once_table_1]) (by rw [sizeLine_eq]; omega)
  rw [filt_map (fun p => (getT t p).getD false)] at hq
  have hne := ne_filter (q := fun p => (getT t p).getD false) (l := d.parts) (fun s hs => (hk s hs).2)
  unfold L__law_once_table_2
  by_cases hkd : d.isKd = true
  · rw [hkd] at hw
    have he : stepP t d = putT t d.name (d.isOnce || d.parts.any fun p => (getT t p).getD false) := by
      unfold stepP
      rw [if_pos hkd]
    rw [he]
    by_cases hon : d.isOnce = true
    · rw [hon] at ho
      simp [sizeLine_eq, startE, argA, bxIx, back, newC, notBor, bxAt, restE, noBx, lstB, lstAt, isNoD, h0, h1, hw, ho, hs, dE_put, hon]
    · have hon' : d.isOnce = false := by simpa using hon
      rw [hon'] at ho
      simp [sizeLine_eq, startE, argA, bxIx, back, newC, notBor, bxAt, restE, noBx, lstB, lstAt, isNoD, h0, h1, hw, ho, hs, dE_put, hon', hp, hq, hne]
  · have hkd' : d.isKd = false := by simpa using hkd
    rw [hkd'] at hw
    have he : stepP t d = t := by
      unfold stepP
      rw [if_neg hkd]
    rw [he]
    simp [sizeLine_eq, startE, argA, bxIx, back, newC, notBor, bxAt, restE, noBx, lstB, lstAt, isNoD, h0, hw]
def tab0 : Tb := [(Str.ofString "num", false), (Str.ofString "truth", false)]
def tabL (ds : List Dc) : Tb := ds.foldl stepP tab0
theorem law_once_table_ok {ds : List Dc} (hl : ds.length < 64) (hw : Wf K0 ds) : m_law_once_table [.dat (.tuple (ds.map encDc))] = some (.new (.dic (dE PyData.bool (tabL ds))), [.dat (.tuple (ds.map encDc))]) := by
  obtain ⟨j', h1, _⟩ := forI_fold (g := gnm 2) (b := L__law_once_table_2) (enc := encDc) (fun (t : Tb) (j : Option D) => [some (.dat (.tuple (ds.map encDc))), some (.box true (.dic (dE PyData.bool t))), sD j, none]) stepP (fun t r => t.length + r.length < 66 ∧ ∃ K, TbOk K t ∧ Wf K r) (fun t d r j hI => by
    obtain ⟨h1, K, hK, hr⟩ := hI
    rw [List.length_cons] at h1
    have hs := stepP_len t d
    refine ⟨[some (.dat (.tuple (ds.map encDc))), some (.box true (.dic (dE PyData.bool t))), some (.dat (encDc d)), none], some (encDc d), ?_, law_once_in _ t d (Nat.lt_trans hr.2.1 (by decide)) (by omega) (fun p hp => hK p (hr.2.2.1 p hp)), by omega, _, hK.step d hr.1, hr.2.2.2⟩
    cases j <;> simp [sizeLine_eq, startE, argA, bxIx, back, newC, notBor, bxAt, restE, noBx, lstB, lstAt, isNoD, sD]) ds tab0 none ⟨by show 2 + ds.length < 66; omega, K0, by
      intro k hk
      exact ⟨hk, by
        have : K0.all (fun s => PyData.strOk s) = true := by decide +kernel
        exact List.all_eq_true.mp this k hk⟩, hw⟩
  have e0 : mergeKD [] [((.inr (Str.ofString "num") : L2.Key), PyData.bool false), (.inr (Str.ofString "truth"), .bool false)] = dE PyData.bool tab0 := by
    have := merge_dE PyData.bool tab0 []
    rw [fold_put tab0 [] (by decide +kernel)] at this
    exact this
  unfold m_law_once_table b__law_once_table
  rw [show tabL ds = ds.foldl stepP tab0 from rfl]
  simp [sizeLine_eq, startE, argA, bxIx, back, newC, notBor, bxAt, restE, noBx, lstB, lstAt, isNoD, e0, sD] at h1 ⊢
  simp [sizeLine_eq, startE, argA, bxIx, back, newC, notBor, bxAt, restE, noBx, lstB, lstAt, isNoD, h1]
end K05

namespace K05
open PySem PySem.Spec PyProof.Rows L3
theorem get_pre (t : Tb) (k : Str) : getT (tab0 ++ t) k = if k ∈ K0 then some false else getT t k := by
  show getT ((Str.ofString "num", false) :: (Str.ofString "truth", false) :: t) k = _
  rw [getT_cons, getT_cons]
  by_cases h1 : Str.ofString "num" = k
  · subst h1; simp [K0]
  · by_cases h2 : Str.ofString "truth" = k
    · subst h2; simp [K0]
    · have h3 : ¬ k = Str.ofString "num" := fun z => h1 z.symm
      have h4 : ¬ k = Str.ofString "truth" := fun z => h2 z.symm
      simp [h1, h2, h3, h4, K0]
theorem put_pre (t : Tb) {k : Str} (v : Bool) (h : k ∉ K0) : putT (tab0 ++ t) k v = tab0 ++ putT t k v := by
  have h1 : ¬ Str.ofString "num" = k := fun z => h (by rw [← z]; simp [K0])
  have h2 : ¬ Str.ofString "truth" = k := fun z => h (by rw [← z]; simp [K0])
  have hm : (k ∈ keyT (tab0 ++ t)) = (k ∈ keyT t) := by
    show (k ∈ Str.ofString "num" :: Str.ofString "truth" :: keyT t) = _
    rw [List.mem_cons, List.mem_cons]
    have h3 : ¬ k = Str.ofString "num" := fun z => h1 z.symm
    have h4 : ¬ k = Str.ofString "truth" := fun z => h2 z.symm
    simp [h3, h4]
  unfold putT
  by_cases hc : k ∈ keyT t
  · rw [if_pos (by rw [hm]; exact hc), if_pos hc, List.map_append]
    refine congrArg (· ++ _) ?_
    simp [tab0, h1, h2]
  · rw [if_neg (by rw [hm]; exact hc), if_neg hc, List.append_assoc]
theorem nm_k0 {s : Str} (h : NameOk s) : s ∉ K0 := by
  intro hm
  rcases List.mem_cons.mp hm with rfl | hm
  · exact h.num rfl
  · exact h.tru (List.mem_singleton.mp hm)
def TbN (t : Tb) : Prop := ∀ k ∈ keyT t, NameOk k
theorem any_pre (t : Tb) (ht : TbN t) (l : List Str) : (l.any fun p => (getT (tab0 ++ t) p).getD false) = l.any fun p => (getT t p).getD false := by
  refine congrArg (l.any ·) (funext fun p => ?_)
  rw [get_pre]
  by_cases h : p ∈ K0
  · rw [if_pos h]
    have : getT t p = none := getT_none.mpr fun z => nm_k0 (ht p z) h
    rw [this]
    rfl
  · rw [if_neg h]
theorem step_pre (t : Tb) (ht : TbN t) (d : Dc) (hn : NameOk d.name) : stepP (tab0 ++ t) d = tab0 ++ stepP t d ∧ TbN (stepP t d) := by
  unfold stepP
  by_cases hk : d.isKd = true
  · rw [if_pos hk, if_pos hk, any_pre t ht, put_pre t _ (nm_k0 hn)]
    refine ⟨rfl, fun k hkm => ?_⟩
    rw [keyT_put] at hkm
    split at hkm
    · exact ht k hkm
    · rcases List.mem_append.mp hkm with hm | hm
      · exact ht k hm
      · rw [List.mem_singleton.mp hm]; exact hn
  · rw [if_neg hk, if_neg hk]
    exact ⟨rfl, ht⟩
theorem tab_pre {ds : List Dc} (hn : ∀ d ∈ ds, NameOk d.name) : tabL ds = tab0 ++ tabP ds ∧ TbN (tabP ds) := by
  have key : ∀ (r : List Dc) (t : Tb), TbN t → (∀ d ∈ r, NameOk d.name) → r.foldl stepP (tab0 ++ t) = tab0 ++ r.foldl stepP t ∧ TbN (r.foldl stepP t) := by
    intro r
    induction r with
    | nil => intro t ht _; exact ⟨rfl, ht⟩
    | cons d r ih =>
      intro t ht h
      obtain ⟨h1, h2⟩ := step_pre t ht d (h d List.mem_cons_self)
      rw [List.foldl_cons, List.foldl_cons, h1]
      exact ih _ h2 fun e he => h e (List.mem_cons_of_mem _ he)
  have := key ds [] (fun k hk => by cases hk) hn
  rw [List.append_nil] at this
  exact this
theorem tab_keys (ds : List Dc) : ∀ k ∈ kdT ds, k ∈ keyT (tabP ds) := by
  have key : ∀ (r : List Dc) (t : Tb) (k : Str), (k ∈ keyT t ∨ k ∈ kdT r) → k ∈ keyT (r.foldl stepP t) := by
    intro r
    induction r with
    | nil => intro t k h; exact h.elim id fun z => by cases z
    | cons d r ih =>
      intro t k h
      rw [List.foldl_cons]
      refine ih _ k ?_
      unfold stepP
      by_cases hk : d.isKd = true
      · rw [if_pos hk, keyT_put]
        rcases h with h | h
        · left; split
          · exact h
          · exact List.mem_append_left _ h
        · have : k ∈ d.name :: kdT r := by
            unfold kdT at h ⊢
            rw [List.filter_cons, if_pos hk] at h
            exact h
          rcases List.mem_cons.mp this with rfl | h
          · left; split
            · assumption
            · exact List.mem_append_right _ (List.mem_singleton_self _)
          · exact .inr h
      · rw [if_neg hk]
        refine h.imp id fun h => ?_
        unfold kdT at h ⊢
        rw [List.filter_cons, if_neg hk] at h
        exact h
  exact fun k hk => key ds [] k (.inr hk)
theorem once_ok {ds : List Dc} (hl : ds.length < 64) (hw : Wf K0 ds) : OnceOk (.tuple (ds.map encDc)) (osT ds) (kdT ds) := by
  refine ⟨once_kinds_ok hl hw.pairs, fun k hk => ?_⟩
  have h1 := law_once_table_ok hl hw
  obtain ⟨h2, h3⟩ := tab_pre hw.names
  have hkm := tab_keys ds k hk
  have hg := get_someB hkm
  have hg2 : getT (tabL ds) k = some ((getT (tabP ds) k).getD false) := by
    rw [h2, get_pre, if_neg (nm_k0 (h3 k hkm)), ← hg]
  have hd : decide (k ∈ osT ds) = (getT (tabP ds) k).getD false := by
    rw [Bool.eq_iff_iff, decide_eq_true_eq]
    unfold osT
    rw [List.mem_filter]
    exact ⟨fun h => h.2, fun h => ⟨(sortS_perm _).mem_iff.mpr hkm, h⟩⟩
  rw [hd]
  unfold m_law_is_once b__law_is_once
  simp [sizeLine_eq, startE, argA, bxIx, back, newC, notBor, bxAt, restE, noBx, lstB, lstAt, isNoD, h1, dE_val, hg2]
/-! within -/
theorem Wf.parts {K : List Str} {ds : List Dc} (h : Wf K ds) (hK : ∀ k ∈ K, PyData.strOk k = true) : ∀ d ∈ ds, ∀ p ∈ d.parts, PyData.strOk p = true := by
  induction ds generalizing K with
  | nil => exact fun d hd => by cases hd
  | cons e r ih =>
    intro d hd
    rcases List.mem_cons.mp hd with rfl | hd
    · exact fun p hp => hK p (h.2.2.1 p hp)
    · refine ih h.2.2.2 (fun k hk => ?_) d hd
      split at hk
      · rcases List.mem_append.mp hk with hm | hm
        · exact hK k hm
        · rw [List.mem_singleton.mp hm]; exact h.1.ok
      · exact hK k hk
theorem K0_ok : ∀ k ∈ K0, PyData.strOk k = true := by
  have : K0.all (fun s => PyData.strOk s) = true := by decide +kernel
  exact List.all_eq_true.mp this
end K05

namespace K05
open PySem PySem.Spec PyProof.Rows L3
theorem strs_of {ys : List D} (h : ∀ d ∈ ys, ∃ s, d = .str s) : ∃ zs : List Str, ys = zs.map PyData.str := by
  induction ys with
  | nil => exact ⟨[], rfl⟩
  | cons d r ih =>
    obtain ⟨s, rfl⟩ := h d List.mem_cons_self
    obtain ⟨zs, rfl⟩ := ih fun e he => h e (List.mem_cons_of_mem _ he)
    exact ⟨s :: zs, rfl⟩
theorem cut_mapF {α β : Type} (f : α → β) (cs : List α) (lo hi : Option Int) : cutL (cs.map f) lo hi = (cutL cs lo hi).map f := by
  unfold cutL
  rw [List.map_take, List.map_drop, List.length_map]
theorem add_strs (l m : List Str) (h : l.length + m.length < 10000) : addD (.list (l.map PyData.str)) (.list (m.map PyData.str)) = some (.new (.lst ((l ++ m).map PyData.str))) := by
  unfold addD
  simp only []
  rw [if_pos (by rw [sizeLine_eq, List.length_map, List.length_map]; omega), List.map_append]
/-- draw of small numbers -/
theorem some_nums {bag : List D} (hb : BagOk bag) {l : List D} {B : Int} (hl : l ≠ []) (hz : l.length < 1000) (h : ∀ d ∈ l, ∃ m : Int, d = .int m ∧ 0 ≤ m ∧ m ≤ B) :
    ∃ m bag', m_law_some [.box false (.lst bag), .dat (.list l)] = some (.dat (.int m), [.box false (.lst bag'), .dat (.list l)]) ∧ BagOk bag' ∧ 0 ≤ m ∧ m ≤ B ∧ PyData.int m ∈ l := by
  obtain ⟨d, bag', h1, h2, h3⟩ := some_ok hb (x := .dat (.list l)) (.inl rfl) hl (by omega)
  obtain ⟨m, rfl, h4, h5⟩ := h d h2
  exact ⟨m, bag', h1, h3, h4, h5, h2⟩
section
variable (x : A) (w : D) (had ks : List Str) (s0 : Str) (m : Int)
/-- the environment of shaped behind its first three lines -/
abbrev shE (bag : List D) (j7 j8 j9 j10 j11 j12 : Option A) : En := [some (.box false (.lst bag)), some x, some (.dat w), some (.box true (.lst (had.map PyData.str))), some (.box true (.lst (ks.map PyData.str))), some (.dat (.str s0)), some (.dat (.int m)), j7, j8, j9, j10, j11, j12, none, none]
theorem given_lc {bag : List D} (hb : BagOk bag) (hk : ks ≠ []) (hz : ks.length < 1000) {n : Int} (h0 : 0 ≤ n) (h1 : n ≤ 3) :
    ∃ (ps : List Str) (bag' : List D), lcT (gnm 8) myes M__law_shaped_1 [8] (.items (rngD 0 n)) (shE x w had ks s0 m bag none none none none none none) = some (.new (.lst (ps.map PyData.str)), shE x w had ks s0 m bag' none none none none none none) ∧ BagOk bag' ∧ (∀ k ∈ ps, k ∈ ks) ∧ ps.length ≤ 3 := by
  have hl : (rngD 0 n).length ≤ 3 := by
    unfold rngD
    rw [List.length_map, List.length_range]
    omega
  obtain ⟨acc, ρ', h2, bag', ps, j, h3, rfl, h4, rfl, h5⟩ := lcI_run (g := gnm 8) (t := myes) (m := M__law_shaped_1) (vs := [8]) (P := fun r acc ρ => ∃ (bag : List D) (ps : List Str) (j : Option D), BagOk bag ∧ acc = ps.map PyData.str ∧ (∀ k ∈ ps, k ∈ ks) ∧ ρ = shE x w had ks s0 m bag none (sD j) none none none none ∧ ps.length + r.length ≤ 3) (fun d r acc ρ hP => by
    obtain ⟨bag, ps, j, hb, rfl, h2, rfl, h3⟩ := hP
    obtain ⟨e, bag', h4, h5, h6⟩ := some_ok hb (x := .box false (.lst (ks.map PyData.str))) (ds := ks.map PyData.str) (.inr rfl) (by simpa using hk) (by rw [List.length_map]; omega)
    obtain ⟨k, hkm, rfl⟩ := List.mem_map.mp h5
    rw [List.length_cons] at h3
    refine ⟨(ps ++ [k]).map PyData.str, shE x w had ks s0 m bag' none (some (.dat d)) none none none none, ?_, bag', ps ++ [k], some d, h6, rfl, fun y hy => (List.mem_append.mp hy).elim (h2 y) fun z => by rw [List.mem_singleton.mp z]; exact hkm, rfl, by rw [List.length_append, List.length_singleton]; omega⟩
    rw [List.map_append]
    refine turn_yes (ρ1 := shE x w had ks s0 m bag none (some (.dat d)) none none none none) (ρ2 := shE x w had ks s0 m bag none (some (.dat d)) none none none none) (ρ3 := shE x w had ks s0 m bag' none (some (.dat d)) none none none none) (y := .dat (.str k)) ?_ rfl ?_ ?_ ?_
    · cases j <;> simp [sizeLine_eq, startE, argA, bxIx, back, newC, notBor, bxAt, restE, noBx, lstB, lstAt, isNoD, sD]
    · simp [sizeLine_eq, startE, argA, bxIx, back, newC, notBor, bxAt, restE, noBx, lstB, lstAt, isNoD, M__law_shaped_1, h4]
    · simp [sizeLine_eq, startE, argA, bxIx, back, newC, notBor, bxAt, restE, noBx, lstB, lstAt, isNoD]
    · rw [sizeLine_eq, List.length_map]; omega) (rngD 0 n) [] (shE x w had ks s0 m bag none none none none none none) ⟨bag, [], none, hb, rfl, (by simp), rfl, by simpa using hl⟩
  refine ⟨ps, bag', ?_, h3, h4, by have : ps.length + 0 ≤ 3 := h5; omega⟩
  show lcE _ [8] (mlcI (gnm 8) myes M__law_shaped_1 [8] (rngD 0 n) [] _) = _
  have hw : wipeE (shE x w had ks s0 m bag none none none none none none) [8] = shE x w had ks s0 m bag none none none none none none := rfl
  rw [hw, h2]
  cases j <;> simp [sizeLine_eq, startE, argA, bxIx, back, newC, notBor, bxAt, restE, noBx, lstB, lstAt, isNoD, sD]
theorem record_lc {bag : List D} (hb : BagOk bag) (hk : ks ≠ []) (hz : ks.length < 1000) {fs : List Str} (hf : fs.length < 8) :
    ∃ (ps : List (Str × Option Str)) (bag' : List D), lcT (gnm 12) myes M__law_shaped_3 [12] (.slot 10 (fs.map PyData.str)) (shE x w had ks s0 m bag none none none (some (.box true (.lst (fs.map PyData.str)))) none none) = some (.new (.lst (ps.map (encP encO))), shE x w had ks s0 m bag' none none none (some (.box true (.lst (fs.map PyData.str)))) none none) ∧ BagOk bag' ∧ ps.length < 8 ∧ ∀ p ∈ ps, (∃ k ∈ ks, p.2 = some k) ∧ p.1 ∈ fs := by
  obtain ⟨acc, ρ', h2, bag', ps, j, h3, rfl, h4, rfl, h5⟩ := lcS_run (i := 10) (xs := fs.map PyData.str) (g := gnm 12) (t := myes) (m := M__law_shaped_3) (vs := [12]) (P := fun r acc ρ => ∃ (bag : List D) (ps : List (Str × Option Str)) (j : Option D), BagOk bag ∧ acc = ps.map (encP encO) ∧ (∀ p ∈ ps, (∃ k ∈ ks, p.2 = some k) ∧ p.1 ∈ fs) ∧ ρ = shE x w had ks s0 m bag none none none (some (.box true (.lst (fs.map PyData.str)))) none (sD j) ∧ ps.length + r.length < 8 ∧ ∀ d ∈ r, ∃ s ∈ fs, d = .str s) (by
      rintro r acc ρ ⟨bag, ps, j, _, _, _, rfl, _⟩
      rfl) (fun d r acc ρ hP => by
    obtain ⟨bag, ps, j, hb, rfl, h2, rfl, h3, h7⟩ := hP
    obtain ⟨s, hsf, rfl⟩ := h7 d List.mem_cons_self
    obtain ⟨e, bag', h4, h5, h6⟩ := some_ok hb (x := .box false (.lst (ks.map PyData.str))) (ds := ks.map PyData.str) (.inr rfl) (by simpa using hk) (by rw [List.length_map]; omega)
    obtain ⟨k, hkm, rfl⟩ := List.mem_map.mp h5
    rw [List.length_cons] at h3
    refine ⟨(ps ++ [(s, some k)]).map (encP encO), shE x w had ks s0 m bag' none none none (some (.box true (.lst (fs.map PyData.str)))) none (some (.dat (.str s))), ?_, bag', ps ++ [(s, some k)], some (.str s), h6, rfl, fun y hy => (List.mem_append.mp hy).elim (h2 y) fun z => by rw [List.mem_singleton.mp z]; exact ⟨⟨k, hkm, rfl⟩, hsf⟩, rfl, by rw [List.length_append, List.length_singleton]; omega, fun e he => h7 e (List.mem_cons_of_mem _ he)⟩
    rw [List.map_append]
    refine turn_yes (ρ1 := shE x w had ks s0 m bag none none none (some (.box true (.lst (fs.map PyData.str)))) none (some (.dat (.str s)))) (ρ2 := shE x w had ks s0 m bag none none none (some (.box true (.lst (fs.map PyData.str)))) none (some (.dat (.str s)))) (ρ3 := shE x w had ks s0 m bag' none none none (some (.box true (.lst (fs.map PyData.str)))) none (some (.dat (.str s)))) (y := .dat (encP encO (s, some k))) ?_ rfl ?_ ?_ ?_
    · cases j <;> simp [sizeLine_eq, startE, argA, bxIx, back, newC, notBor, bxAt, restE, noBx, lstB, lstAt, isNoD, sD]
    · simp [sizeLine_eq, startE, argA, bxIx, back, newC, notBor, bxAt, restE, noBx, lstB, lstAt, isNoD, M__law_shaped_3, h4, encP, encO]
    · simp [sizeLine_eq, startE, argA, bxIx, back, newC, notBor, bxAt, restE, noBx, lstB, lstAt, isNoD]
    · rw [sizeLine_eq, List.length_map]; omega) (fs.map PyData.str) 0 [] (shE x w had ks s0 m bag none none none (some (.box true (.lst (fs.map PyData.str)))) none none) rfl ⟨bag, [], none, hb, rfl, (by simp), rfl, by simpa using hf, fun d hd => by
      obtain ⟨s, hs, rfl⟩ := List.mem_map.mp hd
      exact ⟨s, hs, rfl⟩⟩
  refine ⟨ps, bag', ?_, h3, by simpa using h5.1, h4⟩
  show lcE _ [12] ((guardO (decide (10 ∉ [12]))).bind fun _ => mlcS 10 (gnm 12) myes M__law_shaped_3 [12] (fs.map PyData.str) 0 [] _) = _
  have hw : wipeE (shE x w had ks s0 m bag none none none (some (.box true (.lst (fs.map PyData.str)))) none none) [12] = shE x w had ks s0 m bag none none none (some (.box true (.lst (fs.map PyData.str)))) none none := rfl
  rw [hw, h2]
  cases j <;> simp [sizeLine_eq, startE, argA, bxIx, back, newC, notBor, bxAt, restE, noBx, lstB, lstAt, isNoD, sD]
theorem arms_loop {bag : List D} (hb : BagOk bag) (hz : ks.length < 1000) (hh : had.length < 900) {n : Int} (h1 : n ≤ 3) :
    ∃ (as : List (Str × Option Str)) (bag' : List D) (j8 j11 : Option A), mforI (gnm 8) L__law_shaped_5 (rngD 0 n) (shE x w had ks s0 m bag (some (.box true (.lst []))) none none none none none) = some (.nx, shE x w had ks s0 m bag' (some (.box true (.lst (as.map (encP encO))))) j8 none none j11 none) ∧ BagOk bag' ∧ as.length < 8 ∧ ∀ p ∈ as, (∀ k, p.2 = some k → k ∈ ks) ∧ NameOk p.1 := by
  have hl : (rngD 0 n).length ≤ 3 := by
    unfold rngD
    rw [List.length_map, List.length_range]
    omega
  obtain ⟨ρ', h2, bag', as, j8, j11, h3, h4, rfl, h5⟩ := forI_run (g := gnm 8) (b := L__law_shaped_5) (P := fun r ρ => ∃ (bag : List D) (as : List (Str × Option Str)) (j8 j11 : Option D), BagOk bag ∧ (∀ p ∈ as, (∀ k, p.2 = some k → k ∈ ks) ∧ NameOk p.1) ∧ ρ = shE x w had ks s0 m bag (some (.box true (.lst (as.map (encP encO))))) (sD j8) none none (sD j11) none ∧ as.length + r.length ≤ 3) (fun d r ρ hP => by
    obtain ⟨bag, as, j8, j11, hb, h2, rfl, h3⟩ := hP
    rw [List.length_cons] at h3
    have hq := lcS_pure (i := 7) (g := gtup [13, 14]) (t := myes) (m := M__law_shaped_4) (vs := [13, 14]) (ρ := shE x w had ks s0 m bag (some (.box true (.lst (as.map (encP encO))))) (some (.dat d)) none none (sD j11) none) (encP encO) (fun p => some (.str p.1)) as (by decide) rfl (fun p _ => by
      obtain ⟨a, o⟩ := p
      refine ⟨[some (.box false (.lst bag)), some x, some (.dat w), some (.box true (.lst (had.map PyData.str))), some (.box true (.lst (ks.map PyData.str))), some (.dat (.str s0)), some (.dat (.int m)), some (.box true (.lst (as.map (encP encO)))), some (.dat d), none, none, sD j11, none, some (.dat (.str a)), some (.dat (encO o))], true, ?_, ?_, rfl, rfl, ?_⟩
      · simp [sizeLine_eq, startE, argA, bxIx, back, newC, notBor, bxAt, restE, noBx, lstB, lstAt, isNoD, encP]
      · simp [sizeLine_eq, startE, argA, bxIx, back, newC, notBor, bxAt, restE, noBx, lstB, lstAt, isNoD]
      · simp [sizeLine_eq, startE, argA, bxIx, back, newC, notBor, bxAt, restE, noBx, lstB, lstAt, isNoD, M__law_shaped_4]) (by rw [sizeLine_eq]; omega)
    rw [List.filterMap_eq_map', show as.map (fun p => PyData.str p.1) = (as.map (·.1)).map PyData.str by rw [List.map_map]; rfl] at hq
    have a1 := add_strs had [s0] (by simp; omega)
    have a2 := add_strs (had ++ [s0]) (as.map (·.1)) (by simp; omega)
    obtain ⟨arm, bag1, n1, n2, n3, n4⟩ := new_name_ok hb (x := .dat (.list ((had ++ [s0] ++ as.map (·.1)).map PyData.str))) (had := had ++ [s0] ++ as.map (·.1)) (.inl rfl) (by simp; omega)
    obtain ⟨e, bag2, h4, h5, h6⟩ := some_ok n2 (x := .dat (.list (ks.map PyData.str ++ [.none, .none]))) (ds := ks.map PyData.str ++ [.none, .none]) (.inl rfl) (by simp) (by simp; omega)
    obtain ⟨o, rfl, ho⟩ : ∃ o, e = encO o ∧ ∀ k, o = some k → k ∈ ks := by
      rcases List.mem_append.mp h5 with h | h
      · obtain ⟨k, hk, rfl⟩ := List.mem_map.mp h
        exact ⟨some k, rfl, fun k' e => by cases e; exact hk⟩
      · refine ⟨none, ?_, fun k e => by cases e⟩
        rcases List.mem_cons.mp h with rfl | h
        · rfl
        · rw [List.mem_singleton.mp h]; rfl
    have a3 : addD (.list (ks.map PyData.str)) (.list [.none, .none]) = some (.new (.lst (ks.map PyData.str ++ [.none, .none]))) := by
      unfold addD
      simp only []
      rw [if_pos (by rw [sizeLine_eq, List.length_map]; simp; omega)]
    have hz2 : as.length < 16777216 := by omega
    simp only [List.map_cons, List.map_nil] at a1
    refine ⟨shE x w had ks s0 m bag (some (.box true (.lst (as.map (encP encO))))) (some (.dat d)) none none (sD j11) none, .nx, shE x w had ks s0 m bag2 (some (.box true (.lst ((as ++ [(arm, o)]).map (encP encO))))) (some (.dat d)) none none (some (.dat (.str arm))) none, ?_, ?_, .inl rfl, bag2, as ++ [(arm, o)], some d, some (.str arm), h6, fun p hp => (List.mem_append.mp hp).elim (h2 p) fun z => by rw [List.mem_singleton.mp z]; exact ⟨ho, n4⟩, rfl, by rw [List.length_append, List.length_singleton]; omega⟩
    · cases j8 <;> cases j11 <;> simp [sizeLine_eq, startE, argA, bxIx, back, newC, notBor, bxAt, restE, noBx, lstB, lstAt, isNoD, sD]
    · unfold L__law_shaped_5
      simp at a1 a2 n1
      cases j11 <;> simp [sizeLine_eq, startE, argA, bxIx, back, newC, notBor, bxAt, restE, noBx, lstB, lstAt, isNoD, sD] at hq ⊢ <;> simp [sizeLine_eq, startE, argA, bxIx, back, newC, notBor, bxAt, restE, noBx, lstB, lstAt, isNoD, hq, a1, a2, n1, a3, h4, appendD, hz2, encP]) (rngD 0 n) (shE x w had ks s0 m bag (some (.box true (.lst []))) none none none none none) ⟨bag, [], none, none, hb, (by simp), rfl, by simpa using hl⟩
  exact ⟨as, bag', sD j8, sD j11, h2, h3, by have : as.length + 0 ≤ 3 := h5; omega, h4⟩
end
end K05

namespace K05
open PySem PySem.Spec PyProof.Rows L3
theorem kd_len (ds : List Dc) : (kdT ds).length ≤ ds.length := by
  unfold kdT
  rw [List.length_map]
  exact List.length_filter_le _ _
theorem decl_len (ds : List Dc) (h : ∀ d ∈ ds, d.pairs.length < 8) : (declT ds).length ≤ 9 * ds.length := by
  unfold declT
  rw [List.length_append, List.length_map]
  have : (ds.flatMap Dc.arms).length ≤ 8 * ds.length := by
    induction ds with
    | nil => simp
    | cons d r ih =>
      have h1 := arms_len d
      have h2 := h d List.mem_cons_self
      have h3 := ih fun e he => h e (List.mem_cons_of_mem _ he)
      rw [List.flatMap_cons, List.length_append, List.length_cons]
      omega
  omega
def SOk (s : Str) : Prop := PyData.strOk s = true ∧ s.length ≤ 1002
def Dc.strs : Dc → List Str
  | .once n => [n]
  | .plain n => [n]
  | .record n ps => n :: ps.flatMap fun p => p.1 :: p.2.toList
  | .choice n ps => n :: ps.flatMap fun p => p.1 :: p.2.toList
  | .given n ps g => n :: g :: ps
def Dc.cnt : Dc → Nat
  | .given _ ps _ => ps.length
  | _ => 0
def DOk (d : Dc) : Prop := (∀ s ∈ d.strs, SOk s) ∧ d.cnt < 8
theorem NameOk.sok {s : Str} (h : NameOk s) : SOk s := ⟨h.ok, h.len⟩
theorem kinds_sok {ds : List Dc} (hw : Wf K0 ds) : ∀ k ∈ kindsT ds, SOk k := by
  intro k hk
  rcases List.mem_append.mp hk with hk | hk
  · have h : K0.all (fun s => PyData.strOk s && decide (s.length ≤ 1002)) = true := by decide +kernel
    have := List.all_eq_true.mp h k hk
    simp only [Bool.and_eq_true, decide_eq_true_eq] at this
    exact this
  · obtain ⟨d, hd, rfl⟩ := List.mem_map.mp hk
    exact (hw.names d (List.mem_filter.mp hd).1).sok
theorem pairs_sok {ps : List (Str × Option Str)} (h1 : ∀ p ∈ ps, SOk p.1) (h2 : ∀ p ∈ ps, ∀ k, p.2 = some k → SOk k) : ∀ s ∈ (ps.flatMap fun p => p.1 :: p.2.toList), SOk s := by
  intro s hs
  obtain ⟨p, hp, hs⟩ := List.mem_flatMap.mp hs
  rcases List.mem_cons.mp hs with rfl | hs
  · exact h1 p hp
  · exact h2 p hp s (by simpa using hs)
/-- three words: what a further declaration may be -/
theorem shaped_ok {bag : List D} (hb : BagOk bag) {ds : List Dc} (hl : ds.length < 20) (hw : Wf K0 ds) (w : Str) :
    ∃ (d : Dc) (bag' : List D), m_law_shaped [.box false (.lst bag), .box false (.lst (ds.map encDc)), .dat (.str w)] = some (.dat (encDc d), [.box false (.lst bag'), .box false (.lst (ds.map encDc)), .dat (.str w)]) ∧ BagOk bag' ∧ NameOk d.name ∧ d.pairs.length < 8 ∧ (∀ p ∈ d.parts, p ∈ kindsT ds) ∧ d.name ∉ declT ds ∧ DOk d := by
  have hp := hw.pairs
  have hso := kinds_sok hw
  have hp8 := hw.pairs8
  have h1 := law_declared_ok (x := .box false (.lst (ds.map encDc))) (.inr (.inr rfl)) (by omega) hp
  have h2 := law_kinds_ok (x := .box false (.lst (ds.map encDc))) (.inr (.inr rfl)) (by omega)
  have hdl := decl_len ds hp8
  have hkl := kd_len ds
  have hkz : (kindsT ds).length < 1000 := by
    unfold kindsT
    simp only [List.length_append, List.length_cons, List.length_nil]
    omega
  have hkn : kindsT ds ≠ [] := by unfold kindsT; simp
  obtain ⟨s0, bag1, n1, n2, n3, n4⟩ := new_name_ok hb (x := .box false (.lst ((declT ds).map PyData.str))) (had := declT ds) (.inr rfl) (by omega)
  obtain ⟨m, bag2, m1, m2, m3, m4, m5⟩ := some_nums n2 (l := [.int 2, .int 1, .int 3, .int 2]) (B := 3) (by simp) (by simp) (by
    intro d hd
    simp only [List.mem_cons, List.not_mem_nil, or_false] at hd
    rcases hd with rfl | rfl | rfl | rfl
    · exact ⟨2, rfl, by decide, by decide⟩
    · exact ⟨1, rfl, by decide, by decide⟩
    · exact ⟨3, rfl, by decide, by decide⟩
    · exact ⟨2, rfl, by decide, by decide⟩)
  by_cases hg : w = Str.ofString "given"
  · subst hg
    obtain ⟨n, bag3, q1, q2, q3, q4, _⟩ := some_nums m2 (l := [.int 1, .int 2, .int 0, .int 3]) (B := 3) (by simp) (by simp) (by
      intro d hd
      simp only [List.mem_cons, List.not_mem_nil, or_false] at hd
      rcases hd with rfl | rfl | rfl | rfl
      · exact ⟨1, rfl, by decide, by decide⟩
      · exact ⟨2, rfl, by decide, by decide⟩
      · exact ⟨0, rfl, by decide, by decide⟩
      · exact ⟨3, rfl, by decide, by decide⟩)
    obtain ⟨ps, bag4, r1, r2, r3, r3l⟩ := given_lc (.box false (.lst (ds.map encDc))) (.str (Str.ofString "given")) (declT ds) (kindsT ds) s0 m q2 hkn hkz q3 q4
    have c2 : cutL ((kindsT ds).map PyData.str) (some 2) none = (kdT ds).map PyData.str := cut2 (.str (Str.ofString "num")) (.str (Str.ofString "truth")) ((kdT ds).map PyData.str) (by rw [List.length_map]; omega)
    have a1 := add_strs (kdT ds) (kindsT ds) (by omega)
    obtain ⟨e, bag5, t1, t2, t3⟩ := some_ok r2 (x := .dat (.list ((kdT ds ++ kindsT ds).map PyData.str))) (ds := (kdT ds ++ kindsT ds).map PyData.str) (.inl rfl) (by simp [hkn]) (by rw [List.length_map, List.length_append]; omega)
    obtain ⟨g, hgm, rfl⟩ := List.mem_map.mp t2
    have hn2 : -4611686018427387904 ≤ n := by omega
    have hn3 : n < 4611686018427387904 := by omega
    refine ⟨.given s0 ps g, bag5, ?_, t3, n4, by show 0 < 8; decide, (fun p hp => by cases hp), n3, fun s hs => ?_, by show ps.length < 8; omega⟩
    rotate_left
    · rcases List.mem_cons.mp hs with rfl | hs
      · exact n4.sok
      · rcases List.mem_cons.mp hs with rfl | hs
        · rcases List.mem_append.mp hgm with z | z
          · exact hso _ (List.mem_append_right _ z)
          · exact hso _ z
        · exact hso s (r3 s hs)
    unfold m_law_shaped b__law_shaped
    simp at a1 t1
    simp [sizeLine_eq, startE, argA, bxIx, back, newC, notBor, bxAt, restE, noBx, lstB, lstAt, isNoD, h1, h2, n1, m1, q1, hn2, hn3, r1, c2, a1, t1]
    rfl
  · by_cases hr : w = Str.ofString "record"
    · subst hr
      have hrg : (Str.ofString "record" == Str.ofString "given") = false := by decide +kernel
      have hq := lc_pure (g := gnm 13) (t := T__law_shaped_2) (m := M__law_shaped_2) (vs := [13]) (ρ := shE (.box false (.lst (ds.map encDc))) (.str (Str.ofString "record")) (declT ds) (kindsT ds) s0 m bag2 none none none none none none) PyData.str (fun s => if (!(s == s0)) = true then some (.str s) else none) [Str.ofString "a", Str.ofString "b", Str.ofString "in", Str.ofString "left"] (fun s _ => by
        refine ⟨[some (.box false (.lst bag2)), some (.box false (.lst (ds.map encDc))), some (.dat (.str (Str.ofString "record"))), some (.box true (.lst ((declT ds).map PyData.str))), some (.box true (.lst ((kindsT ds).map PyData.str))), some (.dat (.str s0)), some (.dat (.int m)), none, none, none, none, none, none, some (.dat (.str s)), none], !(s == s0), by simp [sizeLine_eq, startE, argA, bxIx, back, newC, notBor, bxAt, restE, noBx, lstB, lstAt, isNoD], by simp [sizeLine_eq, startE, argA, bxIx, back, newC, notBor, bxAt, restE, noBx, lstB, lstAt, isNoD], ?_, ?_⟩
        · simp [sizeLine_eq, startE, argA, bxIx, back, newC, notBor, bxAt, restE, noBx, lstB, lstAt, isNoD, T__law_shaped_2]
        · cases hc : s == s0
          · simp [sizeLine_eq, startE, argA, bxIx, back, newC, notBor, bxAt, restE, noBx, lstB, lstAt, isNoD, M__law_shaped_2]
          · simp) (by rw [sizeLine_eq]; decide)
      rw [filt_map (fun s => !(s == s0))] at hq
      generalize hfl : ([Str.ofString "a", Str.ofString "b", Str.ofString "in", Str.ofString "left"].filter fun s => !(s == s0)) = fl at hq
      have hfll : fl.length ≤ 4 := by
        rw [← hfl]
        exact List.length_filter_le _ _
      have a1 := add_strs fl [s0] (by simp; omega)
      obtain ⟨ys, bag3, x1, x2, x3⟩ := mixed_ok m2 (x := .dat (.list ((fl ++ [s0]).map PyData.str))) (ds := (fl ++ [s0]).map PyData.str) (.inl rfl) (by simp; omega)
      obtain ⟨zs, rfl⟩ := strs_of (ys := ys) fun d hd => by
        obtain ⟨s, _, rfl⟩ := List.mem_map.mp (x2.mem_iff.mp hd)
        exact ⟨s, rfl⟩
      have hzs : (cutL zs none (some m)).length < 8 := by
        have e1 := cut_len zs none (some m)
        have e2 := x2.length_eq
        simp at e2
        omega
      have c1 := cut_mapF PyData.str zs none (some m)
      obtain ⟨ps, bag4, r1, r2, r3, r4⟩ := record_lc (.box false (.lst (ds.map encDc))) (.str (Str.ofString "record")) (declT ds) (kindsT ds) s0 m x3 hkn hkz hzs
      have hfok : ∀ s ∈ zs, SOk s := fun s hs => by
        have h1 := x2.mem_iff.mp (List.mem_map_of_mem (f := PyData.str) hs)
        obtain ⟨s', hs', e⟩ := List.mem_map.mp h1
        injection e with e
        subst e
        rcases List.mem_append.mp hs' with z | z
        · rw [← hfl] at z
          have h : [Str.ofString "a", Str.ofString "b", Str.ofString "in", Str.ofString "left"].all (fun s => PyData.strOk s && decide (s.length ≤ 1002)) = true := by decide +kernel
          have := List.all_eq_true.mp h s' (List.mem_filter.mp z).1
          simp only [Bool.and_eq_true, decide_eq_true_eq] at this
          exact this
        · rw [List.mem_singleton.mp z]; exact n4.sok
      refine ⟨.record s0 ps, bag4, ?_, r2, n4, r3, fun p hp => ?_, n3, fun s hs => ?_, by show 0 < 8; decide⟩
      rotate_left 2
      · rcases List.mem_cons.mp hs with rfl | hs
        · exact n4.sok
        · refine pairs_sok (fun p hp => ?_) (fun p hp k hk => ?_) s hs
          · have := (r4 p hp).2
            unfold cutL at this
            exact hfok _ (List.mem_of_mem_drop (List.mem_of_mem_take this))
          · obtain ⟨⟨k', h1, h2⟩, _⟩ := r4 p hp
            rw [h2] at hk
            cases hk
            exact hso _ h1
      · unfold m_law_shaped b__law_shaped
        simp at a1 x1 hq
        simp [sizeLine_eq, startE, argA, bxIx, back, newC, notBor, bxAt, restE, noBx, lstB, lstAt, isNoD, h1, h2, n1, m1, hrg, hq, a1, x1, c1, r1]
        rfl
      · obtain ⟨q, hq1, hq2⟩ := List.mem_filterMap.mp hp
        obtain ⟨⟨k, hk1, hk2⟩, _⟩ := r4 q hq1
        have : q.2 = some p := hq2
        rw [hk2] at this
        cases this
        exact hk1
    · have hwg : (w == Str.ofString "given") = false := by simpa using hg
      have hwr : (w == Str.ofString "record") = false := by simpa using hr
      obtain ⟨as, bag3, j8, j11, r1, r2, r3, r4⟩ := arms_loop (.box false (.lst (ds.map encDc))) (.str w) (declT ds) (kindsT ds) s0 m m2 hkz (by omega) m4
      have hn2 : -4611686018427387904 ≤ m := by omega
      have hn3 : m < 4611686018427387904 := by omega
      refine ⟨.choice s0 as, bag3, ?_, r2, n4, r3, fun p hp => ?_, n3, fun s hs => ?_, by show 0 < 8; decide⟩
      rotate_left 2
      · rcases List.mem_cons.mp hs with rfl | hs
        · exact n4.sok
        · exact pairs_sok (fun p hp => (r4 p hp).2.sok) (fun p hp k hk => hso k ((r4 p hp).1 k hk)) s hs
      · unfold m_law_shaped b__law_shaped
        simp [sizeLine_eq, startE, argA, bxIx, back, newC, notBor, bxAt, restE, noBx, lstB, lstAt, isNoD, h1, h2, n1, m1, hwg, hwr, hn2, hn3, r1]
        rfl
      · obtain ⟨q, hq1, hq2⟩ := List.mem_filterMap.mp hp
        exact (r4 q hq1).1 p hq2
end K05

namespace K05
open PySem PySem.Spec PyProof.Rows L3
theorem mul_rep (w : Str) {n : Int} (h0 : 0 ≤ n) (h1 : n ≤ 100) : mulD (.list [.str w]) (.int n) = some (.new (.lst ((List.replicate n.toNat w).map PyData.str))) := by
  unfold mulD
  simp only []
  rw [if_pos ⟨by omega, by omega, by rw [sizeLine_eq]; simp only [List.length_cons, List.length_nil]; omega⟩]
  refine congrArg (fun l => some (R.new (Bx.lst l))) ?_
  rw [List.map_replicate]
  generalize n.toNat = k
  induction k with
  | zero => rfl
  | succ k ih => rw [List.replicate_succ, List.flatten_cons, ih, List.replicate_succ]; rfl
def restW : List Str := [Str.ofString "record", Str.ofString "choice", Str.ofString "given", Str.ofString "given", Str.ofString "given", Str.ofString "record", Str.ofString "given"]
section
variable (mo : Int)
abbrev liE (bag : List D) (ds : List Dc) (ws : List Str) (j4 j5 j6 : Option A) : En := [some (.box false (.lst bag)), some (.dat (.int mo)), some (.box true (.lst (ds.map encDc))), some (.box true (.lst (ws.map PyData.str))), j4, j5, j6]
theorem li_ext (bag : List D) (ds : List Dc) (ws : List Str) (w : Str) {n : Int} (h0 : 0 ≤ n) (h1 : n ≤ 100) (hw : ws.length < 1000) (j6 : Option A) :
    L__law_library_1 (liE mo bag ds ws (some (.dat (.str w))) (some (.dat (.int n))) j6) = some (.nx, liE mo bag ds (ws ++ List.replicate n.toNat w) (some (.dat (.str w))) (some (.dat (.int n))) j6) := by
  have h2 := mul_rep w h0 h1
  have h3 : extendD (.lst (ws.map PyData.str)) [.list ((List.replicate n.toNat w).map PyData.str)] = some (.none, .lst ((ws ++ List.replicate n.toNat w).map PyData.str)) := by
    unfold extendD
    simp only []
    rw [if_pos (by rw [sizeLine_eq, List.length_map, List.length_map, List.length_replicate]; omega), List.map_append]
  unfold L__law_library_1
  simp at h2 h3
  simp [sizeLine_eq, startE, argA, bxIx, back, newC, notBor, bxAt, restE, noBx, lstB, lstAt, isNoD, h2, h3]
theorem li_more {ds : List Dc} (j4 j5 : Option A) (hm : mo ≤ 18) : ∀ (k : Nat) (bag : List D) (ws : List Str), BagOk bag → mo ≤ (ws.length : Int) + k → ws.length + k < 100 →
    ∃ (n : Nat) (bag' : List D) (ws' : List Str), mwhN C__law_library_2 L__law_library_2 n (liE mo bag ds ws j4 j5 (some (.box true (.lst (restW.map PyData.str))))) = some (.nx, liE mo bag' ds ws' j4 j5 (some (.box true (.lst (restW.map PyData.str))))) ∧ BagOk bag' ∧ ws'.length < 100
  | k, bag, ws, hb, h1, h2 => by
    by_cases hc : (ws.length : Int) < mo
    · obtain ⟨v, bag1, t1, t2, t3, t4⟩ := take_ok hb 9 (by decide) (by decide)
      by_cases hv : 0 < v
      · have hC : C__law_library_2 (liE mo bag ds ws j4 j5 (some (.box true (.lst (restW.map PyData.str))))) = some (true, liE mo bag1 ds ws j4 j5 (some (.box true (.lst (restW.map PyData.str))))) := by
          unfold C__law_library_2
          simp [sizeLine_eq, startE, argA, bxIx, back, newC, notBor, bxAt, restE, noBx, lstB, lstAt, isNoD, hc, t1, hv]
        obtain ⟨v2, bag2, u1, u2, u3, u4⟩ := take_ok t2 40 (by decide) (by decide)
        have hz : ws.length < 16777216 := by omega
        obtain ⟨bag3, w', hL, hb3⟩ : ∃ (bag3 : List D) (w' : Str), L__law_library_2 (liE mo bag1 ds ws j4 j5 (some (.box true (.lst (restW.map PyData.str))))) = some (.nx, liE mo bag3 ds (ws ++ [w']) j4 j5 (some (.box true (.lst (restW.map PyData.str))))) ∧ BagOk bag3 := by
          by_cases hv2 : 0 < v2
          · obtain ⟨v3, bag3, y1, y2, y3, y4⟩ := take_ok u2 7 (by decide) (by decide)
            obtain ⟨e, e1, e2⟩ := atI_get (restW.map PyData.str) v3 y3 (by rw [List.length_map]; exact y4)
            obtain ⟨w', hw', rfl⟩ := List.mem_map.mp e2
            refine ⟨bag3, w', ?_, y2⟩
            have hrl : restW.length = 7 := rfl
            unfold L__law_library_2
            simp [sizeLine_eq, startE, argA, bxIx, back, newC, notBor, bxAt, restE, noBx, lstB, lstAt, isNoD, u1, hv2, hrl, y1, e1, appendD, hz]
          · refine ⟨bag2, Str.ofString "given", ?_, u2⟩
            unfold L__law_library_2
            simp [sizeLine_eq, startE, argA, bxIx, back, newC, notBor, bxAt, restE, noBx, lstB, lstAt, isNoD, u1, hv2, appendD, hz]
        cases k with
        | zero => exact absurd hc (by omega)
        | succ k =>
          obtain ⟨n, bag', ws', z1, z2, z3⟩ := li_more j4 j5 hm k bag3 (ws ++ [w']) hb3 (by rw [List.length_append, List.length_singleton]; omega) (by rw [List.length_append, List.length_singleton]; omega)
          refine ⟨n + 1, bag', ws', ?_, z2, z3⟩
          unfold mwhN
          rw [hC, Option.bind_some, if_pos rfl, hL]
          exact z1
      · refine ⟨1, bag1, ws, ?_, t2, by omega⟩
        have hC : C__law_library_2 (liE mo bag ds ws j4 j5 (some (.box true (.lst (restW.map PyData.str))))) = some (false, liE mo bag1 ds ws j4 j5 (some (.box true (.lst (restW.map PyData.str))))) := by
          unfold C__law_library_2
          simp [sizeLine_eq, startE, argA, bxIx, back, newC, notBor, bxAt, restE, noBx, lstB, lstAt, isNoD, hc, t1, hv]
        unfold mwhN
        rw [hC]
        rfl
    · refine ⟨1, bag, ws, ?_, hb, by omega⟩
      have hC : C__law_library_2 (liE mo bag ds ws j4 j5 (some (.box true (.lst (restW.map PyData.str))))) = some (false, liE mo bag ds ws j4 j5 (some (.box true (.lst (restW.map PyData.str))))) := by
        unfold C__law_library_2
        simp [sizeLine_eq, startE, argA, bxIx, back, newC, notBor, bxAt, restE, noBx, lstB, lstAt, isNoD, hc]
      unfold mwhN
      rw [hC]
      rfl
theorem in_op (w : Str) : inD (.str w) (.tuple [.str (Str.ofString "once"), .str (Str.ofString "plain")]) = some (.dat (.bool (decide (w ∈ [Str.ofString "once", Str.ofString "plain"])))) := in_strsT w [Str.ofString "once", Str.ofString "plain"]
theorem li_decl {bag : List D} (hb : BagOk bag) {ds : List Dc} (hl : ds.length < 19) (hw : Wf K0 ds) (ws : List Str) (w : Str) (j5 j6 : Option A) :
    ∃ (d : Dc) (bag' : List D), L__law_library_3 (liE mo bag ds ws (some (.dat (.str w))) j5 j6) = some (.nx, liE mo bag' (ds ++ [d]) ws (some (.dat (.str w))) j5 j6) ∧ BagOk bag' ∧ Wf K0 (ds ++ [d]) ∧ d.name ∉ declT ds ∧ DOk d := by
  have hz : ds.length < 16777216 := by omega
  have hkk : kAfter K0 ds = kindsT ds := by rw [kAfter_eq]; rfl
  by_cases h : w ∈ [Str.ofString "once", Str.ofString "plain"]
  · have h1 := law_declared_ok (x := .box false (.lst (ds.map encDc))) (.inr (.inr rfl)) (by omega) hw.pairs
    have hdl := decl_len ds hw.pairs8
    obtain ⟨s0, bag1, n1, n2, n3, n4⟩ := new_name_ok hb (x := .dat (.list ((declT ds).map PyData.str))) (had := declT ds) (.inl rfl) (by omega)
    have hin := in_op w
    rw [decide_eq_true h] at hin
    obtain ⟨d, hd, hdn, hdp, hdk⟩ : ∃ d : Dc, encDc d = .tuple [.str w, .str s0] ∧ d.name = s0 ∧ d.pairs = [] ∧ DOk d := by
      rcases List.mem_cons.mp h with rfl | h
      · exact ⟨.once s0, rfl, rfl, rfl, fun s hs => by rw [List.mem_singleton.mp hs]; exact n4.sok, by show 0 < 8; decide⟩
      · rw [List.mem_singleton.mp h]
        exact ⟨.plain s0, rfl, rfl, rfl, fun s hs => by rw [List.mem_singleton.mp hs]; exact n4.sok, by show 0 < 8; decide⟩
    refine ⟨d, bag1, ?_, n2, hw.snoc (by rw [hdn]; exact n4) (by rw [hdp]; decide) (fun p hp => by unfold Dc.parts at hp; rw [hdp] at hp; cases hp), by rw [hdn]; exact n3, hdk⟩
    unfold L__law_library_3
    simp [sizeLine_eq, startE, argA, bxIx, back, newC, notBor, bxAt, restE, noBx, lstB, lstAt, isNoD, hin, h1, n1, appendD, hz, hd]
  · obtain ⟨d, bag1, s1, s2, s3, s4, s5, s6, s7⟩ := shaped_ok hb (by omega) hw w
    have hin := in_op w
    rw [decide_eq_false h] at hin
    refine ⟨d, bag1, ?_, s2, hw.snoc s3 s4 (by rw [hkk]; exact s5), s6, s7⟩
    unfold L__law_library_3
    simp [sizeLine_eq, startE, argA, bxIx, back, newC, notBor, bxAt, restE, noBx, lstB, lstAt, isNoD, hin, s1, appendD, hz]
theorem cut_last (ds : List D) : cutL ds none (some (-1)) = ds.take (ds.length - 1) := by
  unfold cutL
  rw [HT.sIx_none, List.drop_zero, Nat.sub_zero]
  congr 1
  show (if (-1 : Int) < 0 then ((-1 : Int) + (ds.length : Int)).toNat else min (-1 : Int).toNat ds.length) = ds.length - 1
  rw [if_pos (by decide)]
  omega
end
end K05

namespace K05
open PySem PySem.Spec PyProof.Rows L3
/-! bounded -/
def oneF (d : Dc) : Option D := if (!d.isKd) = true then some (encDc d) else none
def isB : D → Bool
  | .bool b => b
  | _ => false
/-- is beyond -/
def truN (B : List Bool) : Int := ((B.filterMap fun b => if b = true then some (PyData.bool b) else none).length : Int)
def falN (B : List Bool) : Int := ((B.count false : Nat) : Int)
def fnN (ds : List Dc) : Int := ((ds.filterMap oneF).length : Int)
def byB (ds : List Dc) : Bool := decide ((6 : Int) < truN ((tabL ds).map (·.2))) || (decide ((7 : Int) < falN ((tabL ds).map (·.2))) || decide ((12 : Int) < fnN ds))
abbrev bdE (ds : List Dc) (b : Bool) (t m : Option A) : En := [some (.dat (.tuple (ds.map encDc))), some (.dat (.int 12)), some (.dat (.bool b)), t, m, none, none]
theorem bd_turn {ds : List Dc} (hl : ds.length < 64) (hw : Wf K0 ds) {t m : Option A} (ht : t = none ∨ ∃ l, t = some (.box true (.lst l))) (hm : m = none ∨ ∃ i, m = some (.dat (.int i))) :
    ∃ l i, L__law_bounded_3 (bdE ds true t m) = some (.nx, bdE (if byB ds = true then ds.take (ds.length - 1) else ds) (byB ds) (some (.box true (.lst l))) (some (.dat (.int i)))) := by
  have h1 := law_once_table_ok hl hw
  have hlen : (tabL ds).length ≤ 2 + ds.length := by
    have : ∀ (l : List Dc) (t : Tb), (l.foldl stepP t).length ≤ t.length + l.length := by
      intro l
      induction l with
      | nil => exact fun t => Nat.le_refl _
      | cons d r ih =>
        intro t
        have h1 := ih (stepP t d)
        have h2 := stepP_len t d
        rw [List.foldl_cons, List.length_cons]
        omega
    exact this ds tab0
  have hv : valuesD (.dict (dkv (dE PyData.bool (tabL ds)))) = some (.new (.lst (((tabL ds).map (·.2)).map PyData.bool))) := by
    unfold valuesD
    simp only []
    rw [dE_vals, List.map_map]
    rfl
  have hB : ((tabL ds).map (·.2)).length ≤ 2 + ds.length := by rw [List.length_map]; exact hlen
  unfold byB
  generalize (tabL ds).map (·.2) = B at hv hB
  have hc : countD (.list (B.map PyData.bool)) [.bool false] = some (.dat (.int (falN B))) := by
    have hb : boolsD (B.map PyData.bool) = some B := by
      have := bools_map (fun b : Bool => b) B
      rw [List.map_id'] at this
      exact this
    show (boolsD (B.map PyData.bool)).map _ = _
    rw [hb]; rfl
  have turn1 : ∀ d ∈ ds, PureTurn (gnm 5) T__law_bounded_1 M__law_bounded_1 [5] [some (.dat (.tuple (ds.map encDc))), some (.dat (.int 12)), some (.dat (.bool true)), some (.box true (.lst (B.map PyData.bool))), m, none, none] (encDc d) (oneF d) := fun d _ => by
    refine ⟨[some (.dat (.tuple (ds.map encDc))), some (.dat (.int 12)), some (.dat (.bool true)), some (.box true (.lst (B.map PyData.bool))), m, some (.dat (encDc d)), none], !d.isKd, by simp [sizeLine_eq, startE, argA, bxIx, back, newC, notBor, bxAt, restE, noBx, lstB, lstAt, isNoD], by simp [sizeLine_eq, startE, argA, bxIx, back, newC, notBor, bxAt, restE, noBx, lstB, lstAt, isNoD], ?_, ?_⟩
    · unfold T__law_bounded_1
      simp [sizeLine_eq, startE, argA, bxIx, back, newC, notBor, bxAt, restE, noBx, lstB, lstAt, isNoD, ix0, w_gd]
    · unfold oneF
      by_cases h : (!d.isKd) = true
      · rw [if_pos h]
        exact ⟨h, by simp [sizeLine_eq, startE, argA, bxIx, back, newC, notBor, bxAt, restE, noBx, lstB, lstAt, isNoD, M__law_bounded_1]⟩
      · rw [if_neg h]
        simpa using h
  have hq1 := lc_pure _ _ ds turn1 (by rw [sizeLine_eq]; omega)
  have turn2 : ∀ b ∈ B, PureTurn (gnm 6) T__law_bounded_2 M__law_bounded_2 [6] [some (.dat (.tuple (ds.map encDc))), some (.dat (.int 12)), some (.dat (.bool true)), some (.box true (.lst (B.map PyData.bool))), some (.dat (.int (fnN ds))), none, none] (PyData.bool b) (if b = true then some (PyData.bool b) else none) := fun b _ => by
    refine ⟨[some (.dat (.tuple (ds.map encDc))), some (.dat (.int 12)), some (.dat (.bool true)), some (.box true (.lst (B.map PyData.bool))), some (.dat (.int (fnN ds))), none, some (.dat (.bool b))], b, by simp [sizeLine_eq, startE, argA, bxIx, back, newC, notBor, bxAt, restE, noBx, lstB, lstAt, isNoD], by simp [sizeLine_eq, startE, argA, bxIx, back, newC, notBor, bxAt, restE, noBx, lstB, lstAt, isNoD], ?_, ?_⟩
    · unfold T__law_bounded_2
      simp [sizeLine_eq, startE, argA, bxIx, back, newC, notBor, bxAt, restE, noBx, lstB, lstAt, isNoD]
    · by_cases h : b = true
      · rw [if_pos h]
        exact ⟨h, by simp [sizeLine_eq, startE, argA, bxIx, back, newC, notBor, bxAt, restE, noBx, lstB, lstAt, isNoD, M__law_bounded_2]⟩
      · rw [if_neg h]
        simpa using h
  have hq2 := lcS_pure (i := 3) _ _ B (by decide) rfl turn2 (by rw [sizeLine_eq]; omega)
  have hcut := cut_last (ds.map encDc)
  rw [List.length_map, ← List.map_take] at hcut
  refine ⟨B.map PyData.bool, fnN ds, ?_⟩
  have hf : fnN ds = ((ds.filterMap oneF).length : Int) := rfl
  have ht2 : truN B = ((B.filterMap fun b => if b = true then some (PyData.bool b) else none).length : Int) := rfl
  generalize B.map PyData.bool = BB at *
  generalize ds.filterMap oneF = F1 at *
  generalize (B.filterMap fun b => if b = true then some (PyData.bool b) else none) = F2 at *
  unfold L__law_bounded_3
  simp only [bdE]
  cases hbb : (decide ((6 : Int) < truN B) || (decide ((7 : Int) < falN B) || decide ((12 : Int) < fnN ds))) with
  | true =>
    rw [if_pos rfl]
    generalize (ds.take (ds.length - 1)).map encDc = E2 at hcut ⊢
    by_cases hA : (6 : Int) < truN B
    · rcases ht with rfl | ⟨l, rfl⟩ <;> rcases hm with rfl | ⟨i, rfl⟩ <;>
        simp [sizeLine_eq, startE, argA, bxIx, back, newC, notBor, bxAt, restE, noBx, lstB, lstAt, isNoD, h1, hv, hq1, ← hf, hq2, ← ht2, hA, hcut]
    · by_cases hC : (7 : Int) < falN B
      · rcases ht with rfl | ⟨l, rfl⟩ <;> rcases hm with rfl | ⟨i, rfl⟩ <;>
          simp [sizeLine_eq, startE, argA, bxIx, back, newC, notBor, bxAt, restE, noBx, lstB, lstAt, isNoD, h1, hv, hq1, ← hf, hq2, ← ht2, hA, hc, hC, hcut]
      · have hD : (12 : Int) < fnN ds := by simpa [hA, hC] using hbb
        rcases ht with rfl | ⟨l, rfl⟩ <;> rcases hm with rfl | ⟨i, rfl⟩ <;>
          simp [sizeLine_eq, startE, argA, bxIx, back, newC, notBor, bxAt, restE, noBx, lstB, lstAt, isNoD, h1, hv, hq1, ← hf, hq2, ← ht2, hA, hc, hC, hD, hcut]
  | false =>
    rw [if_neg Bool.false_ne_true]
    simp only [Bool.or_eq_false_iff, decide_eq_false_iff_not] at hbb
    obtain ⟨hA, hC, hD⟩ := hbb
    rcases ht with rfl | ⟨l, rfl⟩ <;> rcases hm with rfl | ⟨i, rfl⟩ <;>
      simp [sizeLine_eq, startE, argA, bxIx, back, newC, notBor, bxAt, restE, noBx, lstB, lstAt, isNoD, h1, hv, hq1, ← hf, hq2, ← ht2, hA, hc, hC, hD]
theorem byB_nil : byB [] = false := by decide +kernel
theorem bd_loop : ∀ (k : Nat) (ds : List Dc), ds.length = k → ds.length < 64 → Wf K0 ds → ∀ (t m : Option A), (t = none ∨ ∃ l, t = some (.box true (.lst l))) → (m = none ∨ ∃ i, m = some (.dat (.int i))) →
    ∃ (n j : Nat) (t' m' : Option A), mwhN C__law_bounded_3 L__law_bounded_3 n (bdE ds true t m) = some (.nx, bdE (ds.take j) false t' m')
  | k, ds, hk, hl, hw, t, m, ht, hm => by
    obtain ⟨l, i, h⟩ := bd_turn hl hw ht hm
    have hC : ∀ (ds : List Dc) (b : Bool) (t m : Option A), C__law_bounded_3 (bdE ds b t m) = some (b, bdE ds b t m) := fun ds b t m => by
      unfold C__law_bounded_3
      cases b <;> simp [sizeLine_eq, startE, argA, bxIx, back, newC, notBor, bxAt, restE, noBx, lstB, lstAt, isNoD]
    cases hb : byB ds with
    | false =>
      refine ⟨2, ds.length, some (.box true (.lst l)), some (.dat (.int i)), ?_⟩
      rw [hb, if_neg Bool.false_ne_true] at h
      unfold mwhN
      rw [hC, Option.bind_some, if_pos rfl, h]
      show mwhN C__law_bounded_3 L__law_bounded_3 1 (bdE ds false (some (A.box true (Bx.lst l))) (some (A.dat (PyData.int i)))) = _
      unfold mwhN
      rw [hC, List.take_length]
      rfl
    | true =>
      cases k with
      | zero =>
        have : ds = [] := List.eq_nil_of_length_eq_zero hk
        rw [this, byB_nil] at hb
        cases hb
      | succ k =>
        rw [hb, if_pos rfl] at h
        obtain ⟨n, j, t', m', z⟩ := bd_loop k (ds.take (ds.length - 1)) (by rw [List.length_take]; omega) (by rw [List.length_take]; omega) (hw.take _) (some (.box true (.lst l))) (some (.dat (.int i))) (.inr ⟨_, rfl⟩) (.inr ⟨_, rfl⟩)
        refine ⟨n + 1, min j (ds.length - 1), t', m', ?_⟩
        unfold mwhN
        rw [hC, Option.bind_some, if_pos rfl, h]
        show mwhN _ _ n _ = _
        rw [z, List.take_take]
theorem bounded_ok {x : A} {ds : List Dc} (hx : x = .dat (.list (ds.map encDc)) ∨ x = .dat (.tuple (ds.map encDc))) (hl : ds.length < 64) (hw : Wf K0 ds) : ∃ j : Nat, m_law_bounded [x, .dat (.int 12)] = some (.dat (.tuple ((ds.take j).map encDc)), [x, .dat (.int 12)]) := by
  obtain ⟨n, j, t', m', h⟩ := bd_loop ds.length ds rfl hl hw none none (.inl rfl) (.inl rfl)
  have h' := mwh_of h
  refine ⟨j, ?_⟩
  simp only [bdE] at h'
  generalize ds.map encDc = E at hx h'
  generalize (ds.take j).map encDc = E2 at h' ⊢
  unfold m_law_bounded b__law_bounded
  rcases hx with rfl | rfl <;> simp [sizeLine_eq, startE, argA, bxIx, back, newC, notBor, bxAt, restE, noBx, lstB, lstAt, isNoD, h']
theorem library_ok {bag : List D} (hb : BagOk bag) {mo : Int} (hm0 : 0 ≤ mo) (hm : mo ≤ 18) :
    ∃ (ds : List Dc) (bag' : List D), m_law_library [.box false (.lst bag), .dat (.int mo)] = some (.dat (.tuple (ds.map encDc)), [.box false (.lst bag'), .dat (.int mo)]) ∧ BagOk bag' ∧ ds.length ≤ 18 ∧ Wf K0 ds ∧ (ds.map Dc.name).Nodup ∧ ∀ d ∈ ds, DOk d := by
  obtain ⟨n1, bag1, p1, p2, p3, p4, _⟩ := some_nums hb (l := [.int 1, .int 2, .int 0, .int 4]) (B := 4) (by simp) (by simp) (by
    intro d hd
    simp only [List.mem_cons, List.not_mem_nil, or_false] at hd
    rcases hd with rfl | rfl | rfl | rfl
    · exact ⟨1, rfl, by decide, by decide⟩
    · exact ⟨2, rfl, by decide, by decide⟩
    · exact ⟨0, rfl, by decide, by decide⟩
    · exact ⟨4, rfl, by decide, by decide⟩)
  obtain ⟨n2, bag2, q1, q2, q3, q4, _⟩ := some_nums p2 (l := [.int 1, .int 0, .int 2, .int 3]) (B := 4) (by simp) (by simp) (by
    intro d hd
    simp only [List.mem_cons, List.not_mem_nil, or_false] at hd
    rcases hd with rfl | rfl | rfl | rfl
    · exact ⟨1, rfl, by decide, by decide⟩
    · exact ⟨0, rfl, by decide, by decide⟩
    · exact ⟨2, rfl, by decide, by decide⟩
    · exact ⟨3, rfl, by decide, by decide⟩)
  have e1 := li_ext mo bag2 [] [] (Str.ofString "once") p3 (by omega) (by simp) none
  have e2 := li_ext mo bag2 [] ([] ++ List.replicate n1.toNat (Str.ofString "once")) (Str.ofString "plain") q3 (by omega) (by simp; omega) none
  generalize hw1 : ([] ++ List.replicate n1.toNat (Str.ofString "once")) ++ List.replicate n2.toNat (Str.ofString "plain") = ws1 at e2
  have hw1l : ws1.length ≤ 8 := by rw [← hw1]; simp; omega
  have hfor : mforI (gtup [4, 5]) L__law_library_1 [.tuple [.str (Str.ofString "once"), .int n1], .tuple [.str (Str.ofString "plain"), .int n2]] (liE mo bag2 [] [] none none none) = some (.nx, liE mo bag2 [] ws1 (some (.dat (.str (Str.ofString "plain")))) (some (.dat (.int n2))) none) := by
    have g1 : gtup [4, 5] (.tuple [.str (Str.ofString "once"), .int n1]) (liE mo bag2 [] [] none none none) = some (liE mo bag2 [] [] (some (.dat (.str (Str.ofString "once")))) (some (.dat (.int n1))) none) := by simp [sizeLine_eq, startE, argA, bxIx, back, newC, notBor, bxAt, restE, noBx, lstB, lstAt, isNoD]
    have g2 : ∀ ws : List Str, gtup [4, 5] (.tuple [.str (Str.ofString "plain"), .int n2]) (liE mo bag2 [] ws (some (.dat (.str (Str.ofString "once")))) (some (.dat (.int n1))) none) = some (liE mo bag2 [] ws (some (.dat (.str (Str.ofString "plain")))) (some (.dat (.int n2))) none) := fun ws => by simp [sizeLine_eq, startE, argA, bxIx, back, newC, notBor, bxAt, restE, noBx, lstB, lstAt, isNoD]
    unfold mforI
    rw [g1, Option.bind_some, e1, Option.bind_some]
    show mforI _ _ _ _ = _
    unfold mforI
    rw [g2, Option.bind_some, e2, Option.bind_some]
    rfl
  obtain ⟨ys, bag3, x1, x2, x3⟩ := mixed_ok q2 (x := .box false (.lst (ws1.map PyData.str))) (ds := ws1.map PyData.str) (.inr rfl) (by rw [List.length_map]; omega)
  obtain ⟨zs, rfl⟩ := strs_of (ys := ys) fun d hd => by
    obtain ⟨s, _, rfl⟩ := List.mem_map.mp (x2.mem_iff.mp hd)
    exact ⟨s, rfl⟩
  have hzl : zs.length ≤ 8 := by
    have := x2.length_eq
    rw [List.length_map, List.length_map] at this
    omega
  obtain ⟨nw, bag4, ws, y1, y2, y3⟩ := li_more mo (ds := []) (some (.dat (.str (Str.ofString "plain")))) (some (.dat (.int n2))) hm 18 bag3 zs x3 (by omega) (by omega)
  have y1' := mwh_of y1
  have hcl : (cutL ws none (some mo)).length ≤ 18 := by
    unfold cutL
    obtain ⟨k, rfl⟩ := Int.eq_ofNat_of_zero_le hm0
    rw [HT.sIx_none, List.drop_zero, Nat.sub_zero, List.length_take, HT.sIx_nat]
    omega
  have c1 := cut_mapF PyData.str ws none (some mo)
  obtain ⟨ρ', z1, bag5, ds, j4, z2, ⟨z3, z3n, z3o⟩, rfl, z4⟩ := forI_run (g := gnm 4) (b := L__law_library_3) (P := fun r ρ => ∃ (bag : List D) (ds : List Dc) (j4 : Option D), BagOk bag ∧ (Wf K0 ds ∧ (ds.map Dc.name).Nodup ∧ ∀ d ∈ ds, DOk d) ∧ ρ = liE mo bag ds ws (sD j4) (some (.dat (.int n2))) (some (.box true (.lst (restW.map PyData.str)))) ∧ ds.length + r.length ≤ 18 ∧ ∀ d ∈ r, ∃ s, d = .str s) (fun d r ρ hP => by
    obtain ⟨bag, ds, j4, hb, ⟨hw, hnd, hdo⟩, rfl, h1, h2⟩ := hP
    obtain ⟨w, rfl⟩ := h2 d List.mem_cons_self
    rw [List.length_cons] at h1
    obtain ⟨d', bag', h3, h4, h5, h6, h7⟩ := li_decl mo hb (by omega) hw ws w (some (.dat (.int n2))) (some (.box true (.lst (restW.map PyData.str))))
    refine ⟨_, .nx, _, ?_, h3, .inl rfl, bag', ds ++ [d'], some (.str w), h4, ⟨h5, by
      rw [List.map_append]
      refine List.nodup_append.mpr ⟨hnd, by simp, fun a ha b hb e => h6 ?_⟩
      rw [List.map_singleton, List.mem_singleton] at hb
      rw [← hb, ← e]
      exact List.mem_append_left _ ha, fun e he => (List.mem_append.mp he).elim (hdo e) fun z => by rw [List.mem_singleton.mp z]; exact h7⟩, rfl, by rw [List.length_append, List.length_singleton]; omega, fun e he => h2 e (List.mem_cons_of_mem _ he)⟩
    cases j4 <;> simp [sizeLine_eq, startE, argA, bxIx, back, newC, notBor, bxAt, restE, noBx, lstB, lstAt, isNoD, sD]) ((cutL ws none (some mo)).map PyData.str) (liE mo bag4 [] ws (some (.dat (.str (Str.ofString "plain")))) (some (.dat (.int n2))) (some (.box true (.lst (restW.map PyData.str))))) ⟨bag4, [], some (.str (Str.ofString "plain")), y2, ⟨trivial, .nil, fun d hd => by cases hd⟩, rfl, by simpa using hcl, fun d hd => by
      obtain ⟨s, _, rfl⟩ := List.mem_map.mp hd
      exact ⟨s, rfl⟩⟩
  have hdl : ds.length ≤ 18 := by have := z4.1; simpa using this
  obtain ⟨j, v1⟩ := bounded_ok (x := .dat (.list (ds.map encDc))) (.inl rfl) (by omega) z3
  refine ⟨ds.take j, bag5, ?_, z2, by rw [List.length_take]; omega, z3.take _, by rw [List.map_take]; exact z3n.sublist (List.take_sublist _ _), fun d hd => z3o d (List.mem_of_mem_take hd)⟩
  have hrest : ([.str (Str.ofString "record"), .str (Str.ofString "choice"), .str (Str.ofString "given"), .str (Str.ofString "given"), .str (Str.ofString "given"), .str (Str.ofString "record"), .str (Str.ofString "given")] : List D) = restW.map PyData.str := rfl
  have hrl : restW.length = 7 := rfl
  unfold m_law_library b__law_library
  simp only [liE, List.map_nil] at hfor y1' z1
  generalize (ds.take j).map encDc = E2 at v1 ⊢
  simp [sizeLine_eq, startE, argA, bxIx, back, newC, notBor, bxAt, restE, noBx, lstB, lstAt, isNoD, p1, q1, hfor, x1, hrest, hrl, y1', c1, z1, v1]
end K05

namespace K05
open PySem PySem.Spec PyProof.Rows L3
/-! is_stock of any value -/
def itemB (t : Tb) : D → Bool
  | .tuple [.str k, .int n] => (match getT t k with | some o => decide (1 ≤ n) && ((n == 1) || o) | none => false)
  | _ => false
def fstS : D → Str
  | .tuple (.str k :: _) => k
  | _ => Str.empty
def ltS (x y : Str) : Bool := decide (x.cps.toList < y.cps.toList)
def ordB (ds : List D) : Bool := (List.range (ds.length - 1)).all fun i => ltS (fstS (ds[i]?.getD .none)) (fstS (ds[i + 1]?.getD .none))
def stockB (t : Tb) : D → Bool
  | .tuple ds => ds.all (itemB t) && ordB ds
  | _ => false
theorem item_form {t : Tb} {d : D} (h : itemB t d = true) : ∃ k n, d = .tuple [.str k, .int n] ∧ k ∈ keyT t := by
  unfold itemB at h
  split at h
  · rename_i k n
    cases e : getT t k with
    | none => rw [e] at h; cases h
    | some o => exact ⟨k, n, rfl, by
        apply Classical.byContradiction
        intro z
        rw [getT_none.mpr z] at e
        cases e⟩
  · cases h
theorem is_int_ok (d : D) : p_is_integer [.dat d] = some (.dat (.bool (match d with | .int _ => true | _ => false)), [.dat d]) := by
  unfold p_is_integer b_is_integer
  cases d <;> simp [sizeLine_eq, startE, argA, bxIx, back, newC, notBor, bxAt, restE, noBx, lstB, lstAt, isNoD]
theorem law_is_int_ok (d : D) : m_law_is_int [.dat d] = some (.dat (.bool (match d with | .int _ => true | _ => false)), [.dat d]) := by
  unfold m_law_is_int b__law_is_int
  cases d <;> simp [sizeLine_eq, startE, argA, bxIx, back, newC, notBor, bxAt, restE, noBx, lstB, lstAt, isNoD]
theorem notIn_dE (t : Tb) (k : Str) : notInD (.str k) (.dict (dkv (dE PyData.bool t))) = some (.dat (.bool (!(getT t k).isSome))) := by
  unfold notInD inB
  simp [keyD, dE_val]
theorem at0 (a b : D) : L2.atI [a, b] 0 = some a := rfl
theorem at1 (a b : D) : L2.atI [a, b] 1 = some b := rfl
theorem is_count_ok (t : Tb) (d : D) : p_is_count [.box false (.dic (dE PyData.bool t)), .dat d] = some (.dat (.bool (itemB t d)), [.box false (.dic (dE PyData.bool t)), .dat d]) := by
  have hi := is_int_ok
  unfold p_is_count b_is_count
  cases d with
  | tuple ds =>
    match ds with
    | [] => simp [sizeLine_eq, startE, argA, bxIx, back, newC, notBor, bxAt, restE, noBx, lstB, lstAt, isNoD, itemB]
    | [a] => simp [sizeLine_eq, startE, argA, bxIx, back, newC, notBor, bxAt, restE, noBx, lstB, lstAt, isNoD, itemB]
    | a :: b :: c :: r =>
      have e : (((r.length : Int) + 1 + 1 + 1) == 2) = false := by
        rw [beq_eq_false_iff_ne]
        omega
      simp [sizeLine_eq, startE, argA, bxIx, back, newC, notBor, bxAt, restE, noBx, lstB, lstAt, isNoD, itemB, e]
    | [a, b] =>
      cases a with
      | str k =>
        have hn := notIn_dE t k
        cases hg : getT t k with
        | none =>
          rw [hg] at hn
          cases b <;> simp [sizeLine_eq, startE, argA, bxIx, back, newC, notBor, bxAt, restE, noBx, lstB, lstAt, isNoD, itemB, at0, at1, hn, hg]
        | some o =>
          rw [hg] at hn
          cases b with
          | int n =>
            have h2 := hi (.int n)
            by_cases h1 : (1 : Int) ≤ n
            · by_cases h3 : n = 1
              · subst h3
                simp [sizeLine_eq, startE, argA, bxIx, back, newC, notBor, bxAt, restE, noBx, lstB, lstAt, isNoD, itemB, at0, at1, hn, hg, h2]
              · have e3 : (n == 1) = false := by simpa using h3
                simp [sizeLine_eq, startE, argA, bxIx, back, newC, notBor, bxAt, restE, noBx, lstB, lstAt, isNoD, itemB, at0, at1, hn, hg, h2, h1, e3, dE_val]
            · simp [sizeLine_eq, startE, argA, bxIx, back, newC, notBor, bxAt, restE, noBx, lstB, lstAt, isNoD, itemB, at0, at1, hn, hg, h2, h1]
          | none => have h2 := hi .none; simp [sizeLine_eq, startE, argA, bxIx, back, newC, notBor, bxAt, restE, noBx, lstB, lstAt, isNoD, itemB, at0, at1, hn, hg, h2]
          | bool z => have h2 := hi (.bool z); simp [sizeLine_eq, startE, argA, bxIx, back, newC, notBor, bxAt, restE, noBx, lstB, lstAt, isNoD, itemB, at0, at1, hn, hg, h2]
          | str z => have h2 := hi (.str z); simp [sizeLine_eq, startE, argA, bxIx, back, newC, notBor, bxAt, restE, noBx, lstB, lstAt, isNoD, itemB, at0, at1, hn, hg, h2]
          | list z => have h2 := hi (.list z); simp [sizeLine_eq, startE, argA, bxIx, back, newC, notBor, bxAt, restE, noBx, lstB, lstAt, isNoD, itemB, at0, at1, hn, hg, h2]
          | tuple z => have h2 := hi (.tuple z); simp [sizeLine_eq, startE, argA, bxIx, back, newC, notBor, bxAt, restE, noBx, lstB, lstAt, isNoD, itemB, at0, at1, hn, hg, h2]
          | dict z => have h2 := hi (.dict z); simp [sizeLine_eq, startE, argA, bxIx, back, newC, notBor, bxAt, restE, noBx, lstB, lstAt, isNoD, itemB, at0, at1, hn, hg, h2]
      | none => simp [sizeLine_eq, startE, argA, bxIx, back, newC, notBor, bxAt, restE, noBx, lstB, lstAt, isNoD, itemB, at0]
      | bool _ => simp [sizeLine_eq, startE, argA, bxIx, back, newC, notBor, bxAt, restE, noBx, lstB, lstAt, isNoD, itemB, at0]
      | int _ => simp [sizeLine_eq, startE, argA, bxIx, back, newC, notBor, bxAt, restE, noBx, lstB, lstAt, isNoD, itemB, at0]
      | list _ => simp [sizeLine_eq, startE, argA, bxIx, back, newC, notBor, bxAt, restE, noBx, lstB, lstAt, isNoD, itemB, at0]
      | tuple _ => simp [sizeLine_eq, startE, argA, bxIx, back, newC, notBor, bxAt, restE, noBx, lstB, lstAt, isNoD, itemB, at0]
      | dict _ => simp [sizeLine_eq, startE, argA, bxIx, back, newC, notBor, bxAt, restE, noBx, lstB, lstAt, isNoD, itemB, at0]
  | none => simp [sizeLine_eq, startE, argA, bxIx, back, newC, notBor, bxAt, restE, noBx, lstB, lstAt, isNoD, itemB]
  | bool _ => simp [sizeLine_eq, startE, argA, bxIx, back, newC, notBor, bxAt, restE, noBx, lstB, lstAt, isNoD, itemB]
  | int _ => simp [sizeLine_eq, startE, argA, bxIx, back, newC, notBor, bxAt, restE, noBx, lstB, lstAt, isNoD, itemB]
  | str _ => simp [sizeLine_eq, startE, argA, bxIx, back, newC, notBor, bxAt, restE, noBx, lstB, lstAt, isNoD, itemB]
  | list _ => simp [sizeLine_eq, startE, argA, bxIx, back, newC, notBor, bxAt, restE, noBx, lstB, lstAt, isNoD, itemB]
  | dict _ => simp [sizeLine_eq, startE, argA, bxIx, back, newC, notBor, bxAt, restE, noBx, lstB, lstAt, isNoD, itemB]
theorem cut_tail (xs : List D) : cutL xs (some 1) none = xs.drop 1 := by
  unfold cutL
  rw [show HT.sIx xs.length xs.length none = xs.length from HT.sIx_none _ _]
  cases xs with
  | nil => simp
  | cons a r =>
    have : HT.sIx (a :: r).length 0 (some 1) = 1 := by
      show (if (1 : Int) < 0 then ((1 : Int) + ((a :: r).length : Int)).toNat else min (1 : Int).toNat (a :: r).length) = 1
      rw [if_neg (by decide)]
      simp
    rw [this]
    simp
theorem map_idD (ds : List D) : ds.map (fun d => d) = ds := List.map_id' ds
theorem zip_range (ds : List D) (f : D → D → D) : zipD ds (ds.drop 1) = (List.range (ds.length - 1)).map fun i => .tuple [ds[i]?.getD .none, ds[i + 1]?.getD .none] := by
  unfold zipD
  refine List.ext_getElem? fun i => ?_
  rw [List.getElem?_zipWith, List.getElem?_map, List.getElem?_drop]
  by_cases h : i < ds.length - 1
  · rw [List.getElem?_range h, Nat.add_comm 1 i, Option.map_some, List.getElem?_eq_getElem (show i < ds.length by omega), List.getElem?_eq_getElem (show i + 1 < ds.length by omega)]
    rfl
  · rw [List.getElem?_eq_none (l := List.range (ds.length - 1)) (by rw [List.length_range]; omega), List.getElem?_eq_none (l := ds) (i := 1 + i) (by omega)]
    cases ds[i]? <;> rfl
theorem all_pairs {t : Tb} {ds : List D} (h : ds.all (itemB t) = true) {i : Nat} (hi : i < ds.length) : ∃ k n, ds[i]?.getD .none = .tuple [.str k, .int n] ∧ ds[i]? = some (.tuple [.str k, .int n]) ∧ k ∈ keyT t := by
  have hm := List.all_eq_true.mp h _ (List.getElem_mem hi)
  obtain ⟨k, n, e, hk⟩ := item_form hm
  exact ⟨k, n, by rw [List.getElem?_eq_getElem hi]; exact e, by rw [List.getElem?_eq_getElem hi, e], hk⟩
theorem allD_map {α : Type} (f : α → Bool) (l : List α) : allD [.list (l.map fun x => PyData.bool (f x))] = some (.dat (.bool (l.all f))) := by
  unfold allD
  simp only []
  rw [bools_map]
  simp [List.all_map]
theorem filt_some {α β : Type} (f : α → β) (l : List α) : l.filterMap (fun x => some (f x)) = l.map f := by
  rw [← List.filterMap_eq_map]; rfl
/-- the program's -/
theorem is_stock_ok {ds : List Dc} (hl : ds.length < 64) (hw : Wf K0 ds) (d : D) (hd : ∀ xs, d = .tuple xs → xs.length ≤ 1000000) : p_is_stock [.dat (.tuple (ds.map encDc)), .dat d] = some (.dat (.bool (stockB (tabP ds) d)), [.dat (.tuple (ds.map encDc)), .dat d]) := by
  have h1 := once_table_ok hl hw.pairs
  unfold p_is_stock b_is_stock
  generalize PyData.tuple (ds.map encDc) = dt at *
  generalize tabP ds = t at *
  cases d with
  | tuple xs =>
    have hz := hd xs rfl
    have hc := is_count_ok t
    have hq := lc_pure (g := gnm 3) (t := myes) (m := M_is_stock_1) (vs := [3]) (ρ := [some (.dat dt), some (.dat (.tuple xs)), some (.box true (.dic (dE PyData.bool t))), none, none]) (fun d : D => d) (fun d => some (.bool (itemB t d))) xs (fun d _ => by
      refine ⟨[some (.dat dt), some (.dat (.tuple xs)), some (.box true (.dic (dE PyData.bool t))), some (.dat d), none], true, by simp [sizeLine_eq, startE, argA, bxIx, back, newC, notBor, bxAt, restE, noBx, lstB, lstAt, isNoD], by simp [sizeLine_eq, startE, argA, bxIx, back, newC, notBor, bxAt, restE, noBx, lstB, lstAt, isNoD], rfl, rfl, ?_⟩
      have := hc d
      simp [sizeLine_eq, startE, argA, bxIx, back, newC, notBor, bxAt, restE, noBx, lstB, lstAt, isNoD, M_is_stock_1, this]) (by rw [sizeLine_eq]; omega)
    rw [map_idD, filt_some] at hq
    have ha := allD_map (itemB t) xs
    cases hb : xs.all (itemB t) with
    | false =>
      rw [hb] at ha
      simp [sizeLine_eq, startE, argA, bxIx, back, newC, notBor, bxAt, restE, noBx, lstB, lstAt, isNoD, h1, hq, ha, stockB, hb]
    | true =>
      rw [hb] at ha
      have hcut : cutL xs (some 1) none = xs.drop 1 := cut_tail xs
      have hq2 := lc_pure (g := gtup [3, 4]) (t := myes) (m := M_is_stock_2) (vs := [3, 4]) (ρ := [some (.dat dt), some (.dat (.tuple xs)), some (.box true (.dic (dE PyData.bool t))), none, none]) (fun i : Nat => .tuple [xs[i]?.getD .none, xs[i + 1]?.getD .none]) (fun i => some (.bool (ltS (fstS (xs[i]?.getD .none)) (fstS (xs[i + 1]?.getD .none))))) (List.range (xs.length - 1)) (fun i hi => by
        have hi := List.mem_range.mp hi
        obtain ⟨k1, n1, e1, _, _⟩ := all_pairs hb (show i < xs.length by omega)
        obtain ⟨k2, n2, e2, _, _⟩ := all_pairs hb (show i + 1 < xs.length by omega)
        rw [e1, e2]
        refine ⟨[some (.dat dt), some (.dat (.tuple xs)), some (.box true (.dic (dE PyData.bool t))), some (.dat (.tuple [.str k1, .int n1])), some (.dat (.tuple [.str k2, .int n2]))], true, by simp [sizeLine_eq, startE, argA, bxIx, back, newC, notBor, bxAt, restE, noBx, lstB, lstAt, isNoD], by simp [sizeLine_eq, startE, argA, bxIx, back, newC, notBor, bxAt, restE, noBx, lstB, lstAt, isNoD], rfl, rfl, ?_⟩
        simp [sizeLine_eq, startE, argA, bxIx, back, newC, notBor, bxAt, restE, noBx, lstB, lstAt, isNoD, M_is_stock_2, at0, fstS, ltS]) (by rw [sizeLine_eq, List.length_range]; omega)
      rw [filt_some, ← zip_range xs (fun a _ => a)] at hq2
      have ha2 := allD_map (fun i : Nat => ltS (fstS (xs[i]?.getD .none)) (fstS (xs[i + 1]?.getD .none))) (List.range (xs.length - 1))
      rw [show ((List.range (xs.length - 1)).all fun i : Nat => ltS (fstS (xs[i]?.getD .none)) (fstS (xs[i + 1]?.getD .none))) = ordB xs from rfl] at ha2
      have hs : stockB t (.tuple xs) = ordB xs := by show (xs.all (itemB t) && ordB xs) = ordB xs; rw [hb, Bool.true_and]
      rw [hs]
      generalize ((List.range (xs.length - 1)).map fun i : Nat => PyData.bool (ltS (fstS (xs[i]?.getD .none)) (fstS (xs[i + 1]?.getD .none)))) = ys at hq2 ha2
      rw [List.drop_one] at hq2 hcut
      simp [sizeLine_eq, startE, argA, bxIx, back, newC, notBor, bxAt, restE, noBx, lstB, lstAt, isNoD, h1, hq, ha, hcut, hq2, ha2]
  | none => simp [sizeLine_eq, startE, argA, bxIx, back, newC, notBor, bxAt, restE, noBx, lstB, lstAt, isNoD, h1, stockB]
  | bool _ => simp [sizeLine_eq, startE, argA, bxIx, back, newC, notBor, bxAt, restE, noBx, lstB, lstAt, isNoD, h1, stockB]
  | int _ => simp [sizeLine_eq, startE, argA, bxIx, back, newC, notBor, bxAt, restE, noBx, lstB, lstAt, isNoD, h1, stockB]
  | str _ => simp [sizeLine_eq, startE, argA, bxIx, back, newC, notBor, bxAt, restE, noBx, lstB, lstAt, isNoD, h1, stockB]
  | list _ => simp [sizeLine_eq, startE, argA, bxIx, back, newC, notBor, bxAt, restE, noBx, lstB, lstAt, isNoD, h1, stockB]
  | dict _ => simp [sizeLine_eq, startE, argA, bxIx, back, newC, notBor, bxAt, restE, noBx, lstB, lstAt, isNoD, h1, stockB]
end K05

namespace K05
open PySem PySem.Spec PyProof.Rows L3
/-! is_stock, the law's -/
theorem keyT_tab : ∀ (r : List Dc) (t : Tb), (r.map Dc.name).Nodup → (∀ d ∈ r, d.name ∉ keyT t) → keyT (r.foldl stepP t) = keyT t ++ kdT r
  | [], t, _, _ => by simp [kdT]
  | d :: r, t, hn, hd => by
    rw [List.map_cons, List.nodup_cons] at hn
    have h0 := hd d List.mem_cons_self
    rw [List.foldl_cons]
    by_cases hk : d.isKd = true
    · have e : stepP t d = putT t d.name (d.isOnce || d.parts.any fun p => (getT t p).getD false) := by unfold stepP; rw [if_pos hk]
      rw [e]
      have hkey : keyT (putT t d.name (d.isOnce || d.parts.any fun p => (getT t p).getD false)) = keyT t ++ [d.name] := by
        rw [keyT_put, if_neg h0]
      rw [keyT_tab r _ hn.2 fun e he => by
        rw [hkey]
        intro hm
        rcases List.mem_append.mp hm with hm | hm
        · exact hd e (List.mem_cons_of_mem _ he) hm
        · exact hn.1 (List.mem_map.mpr ⟨e, he, List.mem_singleton.mp hm⟩), hkey]
      unfold kdT
      simp [hk]
    · have e : stepP t d = t := by unfold stepP; rw [if_neg hk]
      rw [e, keyT_tab r t hn.2 fun e he => hd e (List.mem_cons_of_mem _ he)]
      unfold kdT
      simp [hk]
theorem keys_kd {ds : List Dc} (hn : (ds.map Dc.name).Nodup) : keyT (tabP ds) = kdT ds := by
  have := keyT_tab ds [] hn (fun d _ h => by cases h)
  rw [show keyT ([] : Tb) = [] from rfl, List.nil_append] at this
  exact this
theorem isSome_key (t : Tb) (k : Str) : (getT t k).isSome = decide (k ∈ keyT t) := by
  rw [Bool.eq_iff_iff, decide_eq_true_eq]
  constructor
  · intro h
    apply Classical.byContradiction
    intro z
    rw [getT_none.mpr z] at h
    cases h
  · intro h
    rw [get_someB h]
    rfl
theorem ostock_dec (ds : List Dc) (k : Str) (hk : k ∈ keyT (tabP ds)) : decide (k ∈ osT ds) = (getT (tabP ds) k).getD false := by
  rw [Bool.eq_iff_iff, decide_eq_true_eq]
  unfold osT
  rw [List.mem_filter]
  exact ⟨fun h => h.2, fun h => ⟨(sortS_perm _).mem_iff.mpr hk, h⟩⟩
theorem law_once_kd {ds : List Dc} (hl : ds.length < 64) (hw : Wf K0 ds) {k : Str} (hk : k ∈ kdT ds) : m_law_is_once [.dat (.tuple (ds.map encDc)), .dat (.str k)] = some (.dat (.bool ((getT (tabP ds) k).getD false)), [.dat (.tuple (ds.map encDc)), .dat (.str k)]) := by
  rw [← ostock_dec ds k (tab_keys ds k hk)]
  exact (once_ok hl hw).hl k hk
section
variable (dt th : D) (ks : List Str) (t : Tb)
abbrev lsE (one : Option A) : En := [some (.dat dt), some (.dat th), some (.box true (.lst (ks.map PyData.str))), one, none]
theorem ls_turn (hks : ks = keyT t) (ho : ∀ k ∈ ks, m_law_is_once [.dat dt, .dat (.str k)] = some (.dat (.bool ((getT t k).getD false)), [.dat dt, .dat (.str k)])) (d : D) :
    L__law_is_stock_1 (lsE dt th ks (some (.dat d))) = some (if itemB t d = true then .nx else .rt (.dat (.bool false)), lsE dt th ks (some (.dat d))) := by
  have hi := law_is_int_ok
  have hn : ∀ k, notInD (.str k) (.list (ks.map PyData.str)) = some (.dat (.bool (!(getT t k).isSome))) := fun k => by
    rw [notIn_strs, isSome_key, ← hks]
  unfold L__law_is_stock_1
  simp only [lsE]
  cases d with
  | tuple ds =>
    match ds with
    | [] => simp [sizeLine_eq, startE, argA, bxIx, back, newC, notBor, bxAt, restE, noBx, lstB, lstAt, isNoD, itemB]
    | [a] => simp [sizeLine_eq, startE, argA, bxIx, back, newC, notBor, bxAt, restE, noBx, lstB, lstAt, isNoD, itemB]
    | a :: b :: c :: r =>
      have e : (((r.length : Int) + 1 + 1 + 1) == 2) = false := by
        rw [beq_eq_false_iff_ne]
        omega
      simp [sizeLine_eq, startE, argA, bxIx, back, newC, notBor, bxAt, restE, noBx, lstB, lstAt, isNoD, itemB, e]
    | [a, b] =>
      cases a with
      | str k =>
        have hn := hn k
        cases b with
        | int n =>
          have h2 := hi (.int n)
          cases hg : getT t k with
          | none =>
            rw [hg] at hn
            simp [sizeLine_eq, startE, argA, bxIx, back, newC, notBor, bxAt, restE, noBx, lstB, lstAt, isNoD, itemB, at0, at1, hn, hg, h2]
          | some o =>
            rw [hg] at hn
            have hkm : k ∈ ks := by
              rw [hks]
              have := isSome_key t k
              rw [hg] at this
              simpa using this.symm
            have ho' := ho k hkm
            rw [hg] at ho'
            by_cases h1 : n < 1
            · have h1' : ¬ (1 : Int) ≤ n := by omega
              simp [sizeLine_eq, startE, argA, bxIx, back, newC, notBor, bxAt, restE, noBx, lstB, lstAt, isNoD, itemB, at0, at1, hn, hg, h2, h1, h1']
            · have h1' : (1 : Int) ≤ n := by omega
              by_cases h3 : 1 < n
              · have e3 : (n == 1) = false := by
                  rw [beq_eq_false_iff_ne]
                  omega
                cases o <;> simp [sizeLine_eq, startE, argA, bxIx, back, newC, notBor, bxAt, restE, noBx, lstB, lstAt, isNoD, itemB, at0, at1, hn, hg, h2, h1, h1', h3, e3, ho']
              · have e3 : n = 1 := by omega
                subst e3
                simp [sizeLine_eq, startE, argA, bxIx, back, newC, notBor, bxAt, restE, noBx, lstB, lstAt, isNoD, itemB, at0, at1, hn, hg, h2]
        | none => have h2 := hi .none; simp [sizeLine_eq, startE, argA, bxIx, back, newC, notBor, bxAt, restE, noBx, lstB, lstAt, isNoD, itemB, at0, at1, h2]
        | bool z => have h2 := hi (.bool z); simp [sizeLine_eq, startE, argA, bxIx, back, newC, notBor, bxAt, restE, noBx, lstB, lstAt, isNoD, itemB, at0, at1, h2]
        | str z => have h2 := hi (.str z); simp [sizeLine_eq, startE, argA, bxIx, back, newC, notBor, bxAt, restE, noBx, lstB, lstAt, isNoD, itemB, at0, at1, h2]
        | list z => have h2 := hi (.list z); simp [sizeLine_eq, startE, argA, bxIx, back, newC, notBor, bxAt, restE, noBx, lstB, lstAt, isNoD, itemB, at0, at1, h2]
        | tuple z => have h2 := hi (.tuple z); simp [sizeLine_eq, startE, argA, bxIx, back, newC, notBor, bxAt, restE, noBx, lstB, lstAt, isNoD, itemB, at0, at1, h2]
        | dict z => have h2 := hi (.dict z); simp [sizeLine_eq, startE, argA, bxIx, back, newC, notBor, bxAt, restE, noBx, lstB, lstAt, isNoD, itemB, at0, at1, h2]
      | none => simp [sizeLine_eq, startE, argA, bxIx, back, newC, notBor, bxAt, restE, noBx, lstB, lstAt, isNoD, itemB, at0]
      | bool _ => simp [sizeLine_eq, startE, argA, bxIx, back, newC, notBor, bxAt, restE, noBx, lstB, lstAt, isNoD, itemB, at0]
      | int _ => simp [sizeLine_eq, startE, argA, bxIx, back, newC, notBor, bxAt, restE, noBx, lstB, lstAt, isNoD, itemB, at0]
      | list _ => simp [sizeLine_eq, startE, argA, bxIx, back, newC, notBor, bxAt, restE, noBx, lstB, lstAt, isNoD, itemB, at0]
      | tuple _ => simp [sizeLine_eq, startE, argA, bxIx, back, newC, notBor, bxAt, restE, noBx, lstB, lstAt, isNoD, itemB, at0]
      | dict _ => simp [sizeLine_eq, startE, argA, bxIx, back, newC, notBor, bxAt, restE, noBx, lstB, lstAt, isNoD, itemB, at0]
  | none => simp [sizeLine_eq, startE, argA, bxIx, back, newC, notBor, bxAt, restE, noBx, lstB, lstAt, isNoD, itemB]
  | bool _ => simp [sizeLine_eq, startE, argA, bxIx, back, newC, notBor, bxAt, restE, noBx, lstB, lstAt, isNoD, itemB]
  | int _ => simp [sizeLine_eq, startE, argA, bxIx, back, newC, notBor, bxAt, restE, noBx, lstB, lstAt, isNoD, itemB]
  | str _ => simp [sizeLine_eq, startE, argA, bxIx, back, newC, notBor, bxAt, restE, noBx, lstB, lstAt, isNoD, itemB]
  | list _ => simp [sizeLine_eq, startE, argA, bxIx, back, newC, notBor, bxAt, restE, noBx, lstB, lstAt, isNoD, itemB]
  | dict _ => simp [sizeLine_eq, startE, argA, bxIx, back, newC, notBor, bxAt, restE, noBx, lstB, lstAt, isNoD, itemB]
theorem ls_loop (hks : ks = keyT t) (ho : ∀ k ∈ ks, m_law_is_once [.dat dt, .dat (.str k)] = some (.dat (.bool ((getT t k).getD false)), [.dat dt, .dat (.str k)])) :
    ∀ (r : List D) (one : Option A), (one = none ∨ ∃ d, one = some (.dat d)) → ∃ one', (one' = none ∨ ∃ d, one' = some (.dat d)) ∧ mforI (gnm 3) L__law_is_stock_1 r (lsE dt th ks one) = some (if r.all (itemB t) = true then .nx else .rt (.dat (.bool false)), lsE dt th ks one')
  | [], one, h => ⟨one, h, rfl⟩
  | d :: r, one, h => by
    have h1 := ls_turn dt th ks t hks ho d
    have hg : gnm 3 d (lsE dt th ks one) = some (lsE dt th ks (some (.dat d))) := by rcases h with rfl | ⟨e, rfl⟩ <;> simp [sizeLine_eq, startE, argA, bxIx, back, newC, notBor, bxAt, restE, noBx, lstB, lstAt, isNoD]
    unfold mforI
    rw [hg, Option.bind_some, h1, Option.bind_some]
    cases hb : itemB t d with
    | false => exact ⟨some (.dat d), .inr ⟨_, rfl⟩, by simp [hb]⟩
    | true =>
      obtain ⟨one', h2, h3⟩ := ls_loop hks ho r (some (.dat d)) (.inr ⟨_, rfl⟩)
      refine ⟨one', h2, ?_⟩
      rw [if_pos rfl, List.all_cons, hb, Bool.true_and]
      exact h3
end
theorem eq_ints (is : List Int) (h : ∀ i ∈ is, 0 ≤ i ∧ i ≤ 1000000) : eqD (.list (is.map PyData.int)) (.list []) = some (.dat (.bool is.isEmpty)) := by
  rw [eq_nil (okL_map fun i hi => by simpa only [okD, decide_eq_true_eq] using h i hi) (fun d hd => by
    obtain ⟨i, _, rfl⟩ := List.mem_map.mp hd
    show (0 : Nat) ≤ 60
    omega)]
  cases is <;> rfl
/-- the law's -/
theorem law_is_stock_ok {ds : List Dc} (hl : ds.length < 64) (hw : Wf K0 ds) (hn : (ds.map Dc.name).Nodup) (d : D) (hd : ∀ xs, d = .tuple xs → xs.length ≤ 1000000) :
    m_law_is_stock [.dat (.tuple (ds.map encDc)), .dat d] = some (.dat (.bool (stockB (tabP ds) d)), [.dat (.tuple (ds.map encDc)), .dat d]) := by
  have h1 := law_kinds_ok (x := .dat (.tuple (ds.map encDc))) (.inr (.inl rfl)) hl
  have hkl := kd_len ds
  have c2 : cutL ((kindsT ds).map PyData.str) (some 2) none = (kdT ds).map PyData.str := cut2 (.str (Str.ofString "num")) (.str (Str.ofString "truth")) ((kdT ds).map PyData.str) (by rw [List.length_map]; omega)
  have ho : ∀ k ∈ kdT ds, m_law_is_once [.dat (.tuple (ds.map encDc)), .dat (.str k)] = some (.dat (.bool ((getT (tabP ds) k).getD false)), [.dat (.tuple (ds.map encDc)), .dat (.str k)]) := fun k hk => law_once_kd hl hw hk
  have hks := (keys_kd hn).symm
  unfold m_law_is_stock b__law_is_stock
  generalize PyData.tuple (ds.map encDc) = dt at *
  generalize tabP ds = t at *
  generalize kdT ds = ks at *
  generalize (kindsT ds).map PyData.str = kk at *
  cases d with
  | tuple xs =>
    have hz := hd xs rfl
    obtain ⟨one, h2, h3⟩ := ls_loop dt (.tuple xs) ks t hks ho xs none (.inl rfl)
    simp only [lsE] at h3
    have hsb : stockB t (.tuple xs) = (xs.all (itemB t) && ordB xs) := rfl
    rw [hsb]
    cases hb : xs.all (itemB t) with
    | false =>
      rw [hb, if_neg Bool.false_ne_true] at h3
      simp [sizeLine_eq, startE, argA, bxIx, back, newC, notBor, bxAt, restE, noBx, lstB, lstAt, isNoD, h1, c2, h3]
    | true =>
      rw [hb, if_pos rfl] at h3
      have hr : rngD 0 ((xs.length : Int) - 1) = (List.range (xs.length - 1)).map fun i : Nat => PyData.int (i : Int) := by
        unfold rngD
        rw [show (((xs.length : Int) - 1) - 0).toNat = xs.length - 1 by omega]
        exact List.map_congr_left fun i _ => by rw [Int.zero_add]
      have hq := lc_pure (g := gnm 4) (t := T__law_is_stock_2) (m := M__law_is_stock_2) (vs := [4]) (ρ := [some (.dat dt), some (.dat (.tuple xs)), some (.box true (.lst (ks.map PyData.str))), one, none]) (fun i : Nat => PyData.int (i : Int)) (fun i => if (!ltS (fstS (xs[i]?.getD .none)) (fstS (xs[i + 1]?.getD .none))) = true then some (.int (i : Int)) else none) (List.range (xs.length - 1)) (fun i hi => by
        have hi := List.mem_range.mp hi
        obtain ⟨k1, n1, e1, f1, _⟩ := all_pairs hb (show i < xs.length by omega)
        obtain ⟨k2, n2, e2, f2, _⟩ := all_pairs hb (show i + 1 < xs.length by omega)
        rw [e1, e2]
        have g1 := L2.atI_nat f1
        have g2 : L2.atI xs ((i : Int) + 1) = some (.tuple [.str k2, .int n2]) := L2.atI_nat (j := i + 1) f2
        refine ⟨[some (.dat dt), some (.dat (.tuple xs)), some (.box true (.lst (ks.map PyData.str))), one, some (.dat (.int (i : Int)))], !ltS k1 k2, by simp [sizeLine_eq, startE, argA, bxIx, back, newC, notBor, bxAt, restE, noBx, lstB, lstAt, isNoD], by simp [sizeLine_eq, startE, argA, bxIx, back, newC, notBor, bxAt, restE, noBx, lstB, lstAt, isNoD], ?_, ?_⟩
        · unfold T__law_is_stock_2
          simp [sizeLine_eq, startE, argA, bxIx, back, newC, notBor, bxAt, restE, noBx, lstB, lstAt, isNoD, g1, g2, at0, ltS]
        · by_cases hb2 : (!ltS (fstS (PyData.tuple [PyData.str k1, PyData.int n1])) (fstS (PyData.tuple [PyData.str k2, PyData.int n2]))) = true
          · rw [if_pos hb2]
            exact ⟨hb2, by simp [sizeLine_eq, startE, argA, bxIx, back, newC, notBor, bxAt, restE, noBx, lstB, lstAt, isNoD, M__law_is_stock_2]⟩
          · rw [if_neg hb2]
            exact Bool.eq_false_iff.mpr hb2) (by rw [sizeLine_eq, List.length_range]; omega)
      rw [← hr] at hq
      have hf : ((List.range (xs.length - 1)).filterMap fun i : Nat => if (!ltS (fstS (xs[i]?.getD .none)) (fstS (xs[i + 1]?.getD .none))) = true then some (PyData.int (i : Int)) else none) = (((List.range (xs.length - 1)).filter fun i : Nat => !ltS (fstS (xs[i]?.getD .none)) (fstS (xs[i + 1]?.getD .none))).map fun i : Nat => (i : Int)).map PyData.int := by
        rw [List.map_map]
        exact filt_map (fun i : Nat => !ltS (fstS (xs[i]?.getD .none)) (fstS (xs[i + 1]?.getD .none))) (fun i : Nat => PyData.int (i : Int)) _
      have he := eq_ints (((List.range (xs.length - 1)).filter fun i : Nat => !ltS (fstS (xs[i]?.getD .none)) (fstS (xs[i + 1]?.getD .none))).map fun i : Nat => (i : Int)) (fun i hi => by
        obtain ⟨j, hj, rfl⟩ := List.mem_map.mp hi
        have := List.mem_range.mp (List.mem_filter.mp hj).1
        omega)
      have hord : ((((List.range (xs.length - 1)).filter fun i : Nat => !ltS (fstS (xs[i]?.getD .none)) (fstS (xs[i + 1]?.getD .none))).map fun i : Nat => (i : Int)).isEmpty) = ordB xs := by
        unfold ordB
        generalize List.range (xs.length - 1) = l
        induction l with
        | nil => rfl
        | cons i r ih =>
          rw [List.all_cons, ← ih]
          by_cases hq : ltS (fstS (xs[i]?.getD .none)) (fstS (xs[i + 1]?.getD .none)) = true
          · simp [hq]
          · simp [hq]
      rw [hf] at hq
      rw [hord] at he
      generalize ((((List.range (xs.length - 1)).filter fun i : Nat => !ltS (fstS (xs[i]?.getD .none)) (fstS (xs[i + 1]?.getD .none))).map fun i : Nat => (i : Int)).map PyData.int) = ys at hq he
      have b1 : -4611686018427387904 ≤ (xs.length : Int) - 1 := by omega
      have b2 : (xs.length : Int) - 1 < 4611686018427387904 := by omega
      simp [sizeLine_eq, startE, argA, bxIx, back, newC, notBor, bxAt, restE, noBx, lstB, lstAt, isNoD, h1, c2, h3, hq, he, b1, b2]
  | none => simp [sizeLine_eq, startE, argA, bxIx, back, newC, notBor, bxAt, restE, noBx, lstB, lstAt, isNoD, h1, c2, stockB]
  | bool _ => simp [sizeLine_eq, startE, argA, bxIx, back, newC, notBor, bxAt, restE, noBx, lstB, lstAt, isNoD, h1, c2, stockB]
  | int _ => simp [sizeLine_eq, startE, argA, bxIx, back, newC, notBor, bxAt, restE, noBx, lstB, lstAt, isNoD, h1, c2, stockB]
  | str _ => simp [sizeLine_eq, startE, argA, bxIx, back, newC, notBor, bxAt, restE, noBx, lstB, lstAt, isNoD, h1, c2, stockB]
  | list _ => simp [sizeLine_eq, startE, argA, bxIx, back, newC, notBor, bxAt, restE, noBx, lstB, lstAt, isNoD, h1, c2, stockB]
  | dict _ => simp [sizeLine_eq, startE, argA, bxIx, back, newC, notBor, bxAt, restE, noBx, lstB, lstAt, isNoD, h1, c2, stockB]
end K05

namespace K05
open PySem PySem.Spec PyProof.Rows L3
/-! once, kind by kind -/
def onceT (ds : List Dc) (k : Str) : Bool := (getT (tabP ds) k).getD false
def plT (ds : List Dc) : List Str := (sortS (keyT (tabP ds))).filter fun k => !onceT ds k
theorem filter_sort (p : Str → Bool) (l : List Str) : (sortS l).filter p = sortS (l.filter p) :=
  sortS_eq ((sortS_perm l).filter p) ((sortS_pw l).sublist List.filter_sublist)
theorem is_once_ok {ds : List Dc} (hl : ds.length < 64) (hw : Wf K0 ds) (k : Str) : p_is_once [.dat (.tuple (ds.map encDc)), .dat (.str k)] = some (.dat (.bool (onceT ds k)), [.dat (.tuple (ds.map encDc)), .dat (.str k)]) := by
  have h1 := once_table_ok hl hw.pairs
  unfold p_is_once b_is_once
  simp [sizeLine_eq, startE, argA, bxIx, back, newC, notBor, bxAt, restE, noBx, lstB, lstAt, isNoD, h1, dE_val, getB_map, onceT]
theorem once_k0 {ds : List Dc} (hw : Wf K0 ds) {k : Str} (hk : k ∈ K0) : onceT ds k = false := by
  unfold onceT
  have h3 := (tab_pre hw.names).2
  rw [getT_none.mpr fun z => nm_k0 (h3 k z) hk]
  rfl
theorem law_once_ok {ds : List Dc} (hl : ds.length < 64) (hw : Wf K0 ds) {k : Str} (hk : k ∈ kindsT ds) : m_law_is_once [.dat (.tuple (ds.map encDc)), .dat (.str k)] = some (.dat (.bool (onceT ds k)), [.dat (.tuple (ds.map encDc)), .dat (.str k)]) := by
  rcases List.mem_append.mp hk with hk | hk
  · have hk0 : k ∈ K0 := hk
    rw [once_k0 hw hk0]
    have h1 := law_once_table_ok hl hw
    obtain ⟨h2, h3⟩ := tab_pre hw.names
    have hg2 : getT (tabL ds) k = some false := by rw [h2, get_pre, if_pos hk0]
    unfold m_law_is_once b__law_is_once
    simp [sizeLine_eq, startE, argA, bxIx, back, newC, notBor, bxAt, restE, noBx, lstB, lstAt, isNoD, h1, dE_val, hg2]
  · exact law_once_kd hl hw hk
theorem plain_kinds_ok {ds : List Dc} (hl : ds.length < 64) (hp : ∀ d ∈ ds, d.pairs.length < 64) : p_plain_kinds [.dat (.tuple (ds.map encDc))] = some (.dat (.tuple ((plT ds).map PyData.str)), [.dat (.tuple (ds.map encDc))]) := by
  have h1 := once_table_ok hl hp
  have h2 := tabP_len ds
  have h3 := sorted_dE PyData.bool (tabP ds) (by omega)
  have hq := lc_pure (g := gnm 2) (t := T_plain_kinds_1) (m := M_plain_kinds_1) (vs := [2]) (ρ := [some (.dat (.tuple (ds.map encDc))), some (.box true (.dic (dE PyData.bool (tabP ds)))), none]) PyData.str (fun k => if (!onceT ds k) = true then some (.str k) else none) (sortS (keyT (tabP ds))) (fun k hk => by
    have hm := mem_sort hk
    cases hg : getT (tabP ds) k with
    | none => exact absurd hm (getT_none.mp hg)
    | some b =>
      have ho : onceT ds k = b := by unfold onceT; rw [hg]; rfl
      rw [ho]
      refine ⟨[some (.dat (.tuple (ds.map encDc))), some (.box true (.dic (dE PyData.bool (tabP ds)))), some (.dat (.str k))], !b, by simp [sizeLine_eq, startE, argA, bxIx, back, newC, notBor, bxAt, restE, noBx, lstB, lstAt, isNoD], by simp [sizeLine_eq, startE, argA, bxIx, back, newC, notBor, bxAt, restE, noBx, lstB, lstAt, isNoD], ?_, ?_⟩
      · simp [sizeLine_eq, startE, argA, bxIx, back, newC, notBor, bxAt, restE, noBx, lstB, lstAt, isNoD, T_plain_kinds_1, dE_val, hg]
      · cases b
        · simp [sizeLine_eq, startE, argA, bxIx, back, newC, notBor, bxAt, restE, noBx, lstB, lstAt, isNoD, M_plain_kinds_1]
        · simp) (by
    rw [(sortS_perm _).length_eq, sizeLine_eq]
    unfold keyT
    rw [List.length_map]
    omega)
  rw [filt_map (fun k => !onceT ds k) PyData.str] at hq
  rw [show (sortS (keyT (tabP ds))).filter (fun k => !onceT ds k) = plT ds from rfl] at hq
  unfold p_plain_kinds b_plain_kinds
  simp [sizeLine_eq, startE, argA, bxIx, back, newC, notBor, bxAt, restE, noBx, lstB, lstAt, isNoD, h1, h3, hq]
theorem osT_eq {ds : List Dc} (hn : (ds.map Dc.name).Nodup) : osT ds = sortS ((kdT ds).filter (onceT ds)) := by
  rw [← filter_sort, ← keys_kd hn]
  rfl
theorem osT_kinds {ds : List Dc} (hw : Wf K0 ds) (hn : (ds.map Dc.name).Nodup) {ks : List Str} (hk : ks = kindsT ds) : sortS (ks.filter (onceT ds)) = osT ds := by
  rw [osT_eq hn, hk]
  have h1 := once_k0 hw (k := Str.ofString "num") (by simp [K0])
  have h2 := once_k0 hw (k := Str.ofString "truth") (by simp [K0])
  unfold kindsT
  rw [List.filter_append]
  simp [h1, h2]
theorem plT_eq {ds : List Dc} (hn : (ds.map Dc.name).Nodup) : sortS ((kdT ds).filter fun k => !decide (k ∈ osT ds)) = plT ds := by
  unfold plT
  rw [filter_sort, keys_kd hn]
  refine congrArg sortS (List.filter_congr fun k hk => ?_)
  rw [ostock_dec ds k (by rw [keys_kd hn]; exact hk)]
  rfl
/-! declared the other way -/
def flipD (k : Str) (d : Dc) : Dc := if d.name = k then (match d with | .plain n => .once n | .once n => .plain n | d => d) else d
def turnT (ds : List Dc) (k : Str) : List Dc := ds.map (flipD k)
def isPO (d : Dc) : Bool := d.isKd && !d.isRC
theorem flip_name (k : Str) (d : Dc) : (flipD k d).name = d.name := by
  unfold flipD
  split
  · cases d <;> rfl
  · rfl
theorem flip_kd (k : Str) (d : Dc) : (flipD k d).isKd = d.isKd := by
  unfold flipD
  split
  · cases d <;> rfl
  · rfl
theorem flip_pairs (k : Str) (d : Dc) : (flipD k d).pairs = d.pairs := by
  unfold flipD
  split
  · cases d <;> rfl
  · rfl
theorem flip_parts (k : Str) (d : Dc) : (flipD k d).parts = d.parts := by unfold Dc.parts; rw [flip_pairs]
theorem turn_names (ds : List Dc) (k : Str) : (turnT ds k).map Dc.name = ds.map Dc.name := by
  unfold turnT
  rw [List.map_map]
  exact List.map_congr_left fun d _ => flip_name k d
theorem turn_kd (ds : List Dc) (k : Str) : kdT (turnT ds k) = kdT ds := by
  unfold kdT turnT
  induction ds with
  | nil => rfl
  | cons d r ih =>
    rw [List.map_cons, List.filter_cons, List.filter_cons, flip_kd]
    split
    · rw [List.map_cons, List.map_cons, ih, flip_name]
    · exact ih
theorem turn_wf (k : Str) : ∀ {ds : List Dc} {K : List Str}, Wf K ds → Wf K (turnT ds k)
  | [], _, _ => trivial
  | d :: r, K, h => by
    obtain ⟨h1, h2, h3, h4⟩ := h
    show Wf K (flipD k d :: turnT r k)
    refine ⟨by rw [flip_name]; exact h1, by rw [flip_pairs]; exact h2, by rw [flip_parts]; exact h3, ?_⟩
    rw [flip_kd, flip_name]
    exact turn_wf k h4
/-- what holds a kind -/
def holdP (f : List Str) (d : Dc) : List Str := if d.parts.any (fun p => decide (p ∈ f)) = true then f ++ [d.name] else f
def holdT (ds : List Dc) (k : Str) : List Str := ds.foldl holdP [k]
theorem hold_mono (d : Dc) (f : List Str) {k : Str} (h : k ∈ f) : k ∈ holdP f d := by
  unfold holdP
  split
  · exact List.mem_append_left _ h
  · exact h
theorem get_step (t : Tb) (d : Dc) (k : Str) : (getT (stepP t d) k).getD false = if d.isKd = true ∧ d.name = k then (d.isOnce || d.parts.any fun p => (getT t p).getD false) else (getT t k).getD false := by
  unfold stepP
  by_cases hk : d.isKd = true
  · rw [if_pos hk, getT_put]
    by_cases hn : d.name = k
    · rw [if_pos hn.symm, if_pos ⟨hk, hn⟩]; rfl
    · rw [if_neg fun z => hn z.symm, if_neg fun z => hn z.2]
  · rw [if_neg hk, if_neg fun z => hk z.1]
theorem hold_inv (kd : Str) : ∀ (r : List Dc) (t1 t2 : Tb) (f : List Str), kd ∈ f → (∀ k, (getT t1 k).getD false ≠ (getT t2 k).getD false → k ∈ f) →
    ∀ k, (getT (r.foldl stepP t1) k).getD false ≠ (getT ((r.map (flipD kd)).foldl stepP t2) k).getD false → k ∈ r.foldl holdP f
  | [], _, _, _, _, h => h
  | d :: r, t1, t2, f, hk, h => by
    rw [List.map_cons, List.foldl_cons, List.foldl_cons, List.foldl_cons]
    refine hold_inv kd r _ _ _ (hold_mono d f hk) fun k => ?_
    rw [get_step, get_step, flip_kd, flip_name, flip_parts]
    by_cases hc : d.isKd = true ∧ d.name = k
    · rw [if_pos hc, if_pos hc]
      intro hne
      by_cases hd : d.name = kd
      · rw [← hc.2, hd]
        exact hold_mono d f hk
      · have e : flipD kd d = d := by unfold flipD; rw [if_neg hd]
        rw [e] at hne
        have hex : ∃ p ∈ d.parts, (getT t1 p).getD false ≠ (getT t2 p).getD false := by
          apply Classical.byContradiction
          intro z
          apply hne
          have : (d.parts.any fun p => (getT t1 p).getD false) = d.parts.any fun p => (getT t2 p).getD false := by
            rw [Bool.eq_iff_iff, List.any_eq_true, List.any_eq_true]
            constructor
            · rintro ⟨p, hp, hp2⟩
              refine ⟨p, hp, ?_⟩
              apply Classical.byContradiction
              intro y
              exact z ⟨p, hp, fun e => y (e ▸ hp2)⟩
            · rintro ⟨p, hp, hp2⟩
              refine ⟨p, hp, ?_⟩
              apply Classical.byContradiction
              intro y
              exact z ⟨p, hp, fun e => y (e.symm ▸ hp2)⟩
          rw [this]
        obtain ⟨p, hp, hpn⟩ := hex
        unfold holdP
        rw [if_pos (List.any_eq_true.mpr ⟨p, hp, decide_eq_true (h p hpn)⟩), ← hc.2]
        exact List.mem_append_right _ (List.mem_singleton_self _)
    · rw [if_neg hc, if_neg hc]
      exact fun hne => hold_mono d f (h k hne)
theorem hold_all (ds : List Dc) (kd : Str) (k : Str) (h : onceT ds k ≠ onceT (turnT ds kd) k) : k ∈ holdT ds kd :=
  hold_inv kd ds [] [] [kd] (List.mem_singleton_self _) (fun _ z => absurd rfl z) k h
/-- a kind's own declaration tells -/
theorem get_own : ∀ (r : List Dc) (t : Tb) (d : Dc), (r.map Dc.name).Nodup → d ∈ r → isPO d = true → (getT (r.foldl stepP t) d.name).getD false = d.isOnce
  | [], _, _, _, h, _ => by cases h
  | e :: r, t, d, hn, h, hp => by
    rw [List.map_cons, List.nodup_cons] at hn
    rw [List.foldl_cons]
    rcases List.mem_cons.mp h with rfl | h
    · have key : ∀ (r : List Dc) (t : Tb), d.name ∉ r.map Dc.name → (getT (r.foldl stepP t) d.name).getD false = (getT t d.name).getD false := by
        intro r
        induction r with
        | nil => exact fun t _ => rfl
        | cons e r ih =>
          intro t hm
          rw [List.foldl_cons, ih _ fun z => hm (List.mem_cons_of_mem _ z), get_step, if_neg (fun z : e.isKd = true ∧ e.name = d.name => hm (z.2 ▸ List.mem_cons_self))]
      rw [key r _ hn.1, get_step]
      unfold isPO at hp
      rw [Bool.and_eq_true] at hp
      rw [if_pos ⟨hp.1, rfl⟩]
      have : d.parts = [] := by cases d <;> first | rfl | (simp [Dc.isRC] at hp)
      rw [this]
      simp
    · exact get_own r _ d hn.2 h hp
theorem flip_once {d : Dc} (hp : isPO d = true) : (flipD d.name d).isOnce = !d.isOnce := by
  unfold flipD
  rw [if_pos rfl]
  cases d <;> first | rfl | (simp [isPO, Dc.isRC, Dc.isKd] at hp)
theorem flip_po {d : Dc} (k : Str) (hp : isPO d = true) : isPO (flipD k d) = true := by
  unfold flipD
  split
  · cases d <;> first | rfl | exact hp
  · exact hp
theorem turn_differs {ds : List Dc} (hn : (ds.map Dc.name).Nodup) {d : Dc} (hd : d ∈ ds) (hp : isPO d = true) : onceT ds d.name ≠ onceT (turnT ds d.name) d.name := by
  have h1 : onceT ds d.name = d.isOnce := get_own ds [] d hn hd hp
  have h2 := get_own (turnT ds d.name) [] (flipD d.name d) (by rw [turn_names]; exact hn) (List.mem_map_of_mem hd) (flip_po _ hp)
  rw [flip_name] at h2
  have h2' : onceT (turnT ds d.name) d.name = (flipD d.name d).isOnce := h2
  rw [h1, h2', flip_once hp]
  cases d.isOnce <;> decide
theorem name_inj : ∀ {ds : List Dc} {d e : Dc}, (ds.map Dc.name).Nodup → d ∈ ds → e ∈ ds → d.name = e.name → d = e
  | [], _, _, _, h, _, _ => by cases h
  | a :: r, d, e, hn, hd, he, hde => by
    rw [List.map_cons, List.nodup_cons] at hn
    rcases List.mem_cons.mp hd with h1 | h1
    · rcases List.mem_cons.mp he with h2 | h2
      · rw [h1, h2]
      · exact absurd (show a.name ∈ r.map Dc.name from List.mem_map.mpr ⟨e, h2, by rw [← hde, h1]⟩) hn.1
    · rcases List.mem_cons.mp he with h2 | h2
      · exact absurd (show a.name ∈ r.map Dc.name from List.mem_map.mpr ⟨d, h1, by rw [hde, h2]⟩) hn.1
      · exact name_inj hn.2 h1 h2 hde
theorem words_val (b : Bool) : valD (dkv (mergeKD [] [(.inr (Str.ofString "once"), .str (Str.ofString "plain")), (.inr (Str.ofString "plain"), .str (Str.ofString "once"))])) (.inr (if b = true then Str.ofString "once" else Str.ofString "plain")) = some (.str (if b = true then Str.ofString "plain" else Str.ofString "once")) := by
  cases b <;> rfl
theorem turned_ok {ds : List Dc} (hl : ds.length < 64) (hn : (ds.map Dc.name).Nodup) {kd : Dc} (hd : kd ∈ ds) (hp : isPO kd = true) : m_law_turned [.dat (.tuple (ds.map encDc)), .dat (.str kd.name)] = some (.dat (.tuple ((turnT ds kd.name).map encDc)), [.dat (.tuple (ds.map encDc)), .dat (.str kd.name)]) := by
  have hv := words_val
  generalize hW : (mergeKD [] [((.inr (Str.ofString "once") : L2.Key), (.str (Str.ofString "plain") : D)), (.inr (Str.ofString "plain"), .str (Str.ofString "once"))]) = W at hv
  have hq := lc_pure (g := gnm 3) (t := myes) (m := M__law_turned_1) (vs := [3]) (ρ := [some (.dat (.tuple (ds.map encDc))), some (.dat (.str kd.name)), some (.box true (.dic W)), none]) encDc (fun d => some (encDc (flipD kd.name d))) ds (fun d hdm => by
    refine ⟨[some (.dat (.tuple (ds.map encDc))), some (.dat (.str kd.name)), some (.box true (.dic W)), some (.dat (encDc d))], true, by simp [sizeLine_eq, startE, argA, bxIx, back, newC, notBor, bxAt, restE, noBx, lstB, lstAt, isNoD], by simp [sizeLine_eq, startE, argA, bxIx, back, newC, notBor, bxAt, restE, noBx, lstB, lstAt, isNoD], rfl, rfl, ?_⟩
    have h0 := ix0 d
    have h1 := ix1 d
    unfold M__law_turned_1
    by_cases he : d.name = kd.name
    · have hd2 : d = kd := name_inj hn hdm hd he
      subst hd2
      have hb : (d.name == d.name) = true := by simp
      cases d with
      | plain n =>
        have hv := hv false
        simp only [Dc.word, Dc.name] at h0 h1 hb
        simp at hv
        simp [sizeLine_eq, startE, argA, bxIx, back, newC, notBor, bxAt, restE, noBx, lstB, lstAt, isNoD, at0, at1, hv, flipD, encDc, Dc.word, Dc.name, Dc.rest]
      | once n =>
        have hv := hv true
        simp only [Dc.word, Dc.name] at h0 h1 hb
        simp at hv
        simp [sizeLine_eq, startE, argA, bxIx, back, newC, notBor, bxAt, restE, noBx, lstB, lstAt, isNoD, at0, at1, hv, flipD, encDc, Dc.word, Dc.name, Dc.rest]
      | record n ps => simp [isPO, Dc.isRC, Dc.isKd] at hp
      | choice n ps => simp [isPO, Dc.isRC, Dc.isKd] at hp
      | given n ps g => simp [isPO, Dc.isRC, Dc.isKd] at hp
    · have e : flipD kd.name d = d := by unfold flipD; rw [if_neg he]
      have hb : (d.name == kd.name) = false := by simpa using he
      rw [e]
      simp [sizeLine_eq, startE, argA, bxIx, back, newC, notBor, bxAt, restE, noBx, lstB, lstAt, isNoD, h1, hb]) (by rw [sizeLine_eq]; omega)
  rw [filt_some, show (ds.map fun d => encDc (flipD kd.name d)) = (turnT ds kd.name).map encDc by unfold turnT; rw [List.map_map]; rfl] at hq
  generalize (turnT ds kd.name).map encDc = E2 at hq ⊢
  unfold m_law_turned b__law_turned
  subst hW
  simp [sizeLine_eq, startE, argA, bxIx, back, newC, notBor, bxAt, restE, noBx, lstB, lstAt, isNoD, hq]
theorem hold_len (ds : List Dc) : ∀ (f : List Str), (ds.foldl holdP f).length ≤ f.length + ds.length := by
  induction ds with
  | nil => exact fun f => Nat.le_refl _
  | cons d r ih =>
    intro f
    rw [List.foldl_cons, List.length_cons]
    have h1 := ih (holdP f d)
    have h2 : (holdP f d).length ≤ f.length + 1 := by
      unfold holdP
      split
      · rw [List.length_append, List.length_singleton]; omega
      · omega
    omega
theorem holding_ok {ds : List Dc} (hl : ds.length < 64) (hw : Wf K0 ds) (kd : Str) : m_law_holding [.dat (.tuple (ds.map encDc)), .dat (.str kd)] = some (.new (.lst ((holdT ds kd).map PyData.str)), [.dat (.tuple (ds.map encDc)), .dat (.str kd)]) := by
  have hparts := hw.parts K0_ok
  obtain ⟨j', h1, _⟩ := forI_fold (g := gnm 3) (b := L__law_holding_2) (enc := encDc) (fun (f : List Str) (j : Option D) => [some (.dat (.tuple (ds.map encDc))), some (.dat (.str kd)), some (.box true (.lst (f.map PyData.str))), sD j, none]) holdP (fun f r => f.length + r.length < 1000 ∧ ∀ d ∈ r, d.pairs.length < 64 ∧ ∀ p ∈ d.parts, PyData.strOk p = true) (fun f d r j hI => by
    have hI1 := hI.1
    rw [List.length_cons] at hI1
    obtain ⟨hd1, hd2⟩ := hI.2 d List.mem_cons_self
    refine ⟨[some (.dat (.tuple (ds.map encDc))), some (.dat (.str kd)), some (.box true (.lst (f.map PyData.str))), some (.dat (encDc d)), none], some (encDc d), by cases j <;> simp [sizeLine_eq, startE, argA, bxIx, back, newC, notBor, bxAt, restE, noBx, lstB, lstAt, isNoD, sD], ?_, ?_, fun e he => hI.2 e (List.mem_cons_of_mem _ he)⟩
    · have hpz := parts_len d
      have hq := lc_pure (g := gnm 4) (t := T__law_holding_1) (m := M__law_holding_1) (vs := [4]) (ρ := [some (.dat (.tuple (ds.map encDc))), some (.dat (.str kd)), some (.box true (.lst (f.map PyData.str))), some (.dat (encDc d)), none]) PyData.str (fun p => if decide (p ∈ f) = true then some (.str p) else none) d.parts (fun p hp => by
        refine ⟨[some (.dat (.tuple (ds.map encDc))), some (.dat (.str kd)), some (.box true (.lst (f.map PyData.str))), some (.dat (encDc d)), some (.dat (.str p))], decide (p ∈ f), by simp [sizeLine_eq, startE, argA, bxIx, back, newC, notBor, bxAt, restE, noBx, lstB, lstAt, isNoD], by simp [sizeLine_eq, startE, argA, bxIx, back, newC, notBor, bxAt, restE, noBx, lstB, lstAt, isNoD], ?_, ?_⟩
        · simp [sizeLine_eq, startE, argA, bxIx, back, newC, notBor, bxAt, restE, noBx, lstB, lstAt, isNoD, T__law_holding_1, in_strs]
        · by_cases hb : decide (p ∈ f) = true
          · rw [if_pos hb]
            exact ⟨hb, by simp [sizeLine_eq, startE, argA, bxIx, back, newC, notBor, bxAt, restE, noBx, lstB, lstAt, isNoD, M__law_holding_1]⟩
          · rw [if_neg hb]
            exact Bool.eq_false_iff.mpr hb) (by rw [sizeLine_eq]; omega)
      rw [filt_map (fun p => decide (p ∈ f)) PyData.str] at hq
      have hne := ne_filter (q := fun p => decide (p ∈ f)) (l := d.parts) hd2
      have hpo := law_parts_ok d hd1
      have h1 := ix1 d
      have hz : f.length < 16777216 := by omega
      generalize ((d.parts.filter fun p => decide (p ∈ f)).map PyData.str) = F1 at hq hne
      generalize d.parts.map PyData.str = F2 at hq hpo
      unfold L__law_holding_2 holdP
      cases hb : d.parts.any (fun p => decide (p ∈ f)) with
      | false =>
        rw [hb] at hne
        simp [sizeLine_eq, startE, argA, bxIx, back, newC, notBor, bxAt, restE, noBx, lstB, lstAt, isNoD, hpo, hq, hne, sD]
      | true =>
        rw [hb] at hne
        simp [sizeLine_eq, startE, argA, bxIx, back, newC, notBor, bxAt, restE, noBx, lstB, lstAt, isNoD, hpo, hq, hne, h1, appendD, hz, sD]
    · have h2 : (holdP f d).length ≤ f.length + 1 := by
        unfold holdP
        split
        · rw [List.length_append, List.length_singleton]; omega
        · omega
      omega) ds [kd] none ⟨by simp only [List.length_cons, List.length_nil]; omega, fun d hd => ⟨hw.pairs d hd, hparts d hd⟩⟩
  rw [show ds.foldl holdP [kd] = holdT ds kd from rfl] at h1
  unfold m_law_holding b__law_holding
  simp [sizeLine_eq, startE, argA, bxIx, back, newC, notBor, bxAt, restE, noBx, lstB, lstAt, isNoD, sD] at h1 ⊢
  simp [sizeLine_eq, startE, argA, bxIx, back, newC, notBor, bxAt, restE, noBx, lstB, lstAt, isNoD, h1]
end K05

namespace K05
open PySem PySem.Spec PyProof.Rows L3
/-! odd values -/
theorem addL (a b : List D) (h : a.length + b.length ≤ 16777216) : addD (.list a) (.list b) = some (.new (.lst (a ++ b))) := by
  unfold addD
  simp only []
  rw [if_pos (by rw [sizeLine_eq]; exact h)]
theorem addTu (a b : List D) (h : a.length + b.length ≤ 16777216) : addD (.tuple a) (.tuple b) = some (.dat (.tuple (a ++ b))) := by
  unfold addD
  simp only []
  rw [if_pos (by rw [sizeLine_eq]; exact h)]
theorem addSt (x y : Str) (h : x.length + y.length ≤ 16777216) : addD (.str x) (.str y) = some (.dat (.str (x ++ y))) := by
  unfold addD
  simp only []
  rw [if_pos (by rw [sizeLine_eq]; exact h)]
def oddL : List D := [.none, .bool true, .bool false, .int 0, .int 1, .int (-1), .int 7, .int 1000000000000000000000000000000000000000, .str (Str.ofString ""), .str (Str.ofString "a"), .str (Str.ofString "num"), .str (Str.ofString "x1"), .str (Str.ofString "{"), .tuple [], .list [], .dict [], .tuple [.str (Str.ofString "num"), .int 1],
  .tuple [.str (Str.ofString "name"), .str (Str.ofString "a")], .list [.str (Str.ofString "a")], .dict [(.str (Str.ofString "a"), .int 1)], .tuple [.str (Str.ofString "give")], .tuple [.tuple [.str (Str.ofString "give"), .tuple [.str (Str.ofString "num"), .int 1]]], .tuple [.str (Str.ofString "plain"), .str (Str.ofString "a")], .str (Str.ofString "X"), .str (Str.ofString "a b"), .tuple [.str (Str.ofString "num"), .bool true]]
theorem odd_tm : ∀ d ∈ oddL, Tm 3 1000 d := by
  have h : oddL.all (fun d => okX d && (!d.hasDict || noLs d) && decide (d.depth ≤ 3) && decide (wX d ≤ 1000)) = true := by decide +kernel
  intro d hd
  have := List.all_eq_true.mp h d hd
  simp only [Bool.and_eq_true, Bool.or_eq_true, decide_eq_true_eq, Bool.not_eq_true'] at this
  exact ⟨this.1.1.1, this.1.1.2, this.1.2, this.2⟩
theorem pow39 : powD (.int 10) (.int 39) = some (.dat (.int 1000000000000000000000000000000000000000)) := by
  unfold powD
  simp only []
  rw [if_pos (by decide)]
  rfl
theorem odd_ok {bag : List D} (hb : BagOk bag) : ∃ d bag', m_law_odd [.box false (.lst bag)] = some (.dat d, [.box false (.lst bag')]) ∧ BagOk bag' ∧ Tm 3 1000 d := by
  obtain ⟨d, bag', h1, h2, h3⟩ := some_ok hb (x := .dat (.list oddL)) (ds := oddL) (.inl rfl) (by simp [oddL]) (by decide)
  refine ⟨d, bag', ?_, h3, odd_tm d h2⟩
  unfold m_law_odd b__law_odd
  have e := pow39
  unfold oddL at h1
  have d0 : dkv [] = [] := rfl
  have d1 : dkv (mergeKD [] [(.inr (Str.ofString "a"), .int 1)]) = [(.str (Str.ofString "a"), .int 1)] := rfl
  simp [sizeLine_eq, startE, argA, bxIx, back, newC, notBor, bxAt, restE, noBx, lstB, lstAt, isNoD, e, addL, d0, d1, h1]
/-! bent -/
theorem cutS_ok {x : Str} (h : PyData.strOk x = true) (lo hi : Option Int) : PyData.strOk (L2.cutS x lo hi) = true ∧ (L2.cutS x lo hi).length ≤ x.length := by
  unfold L2.cutS PyData.strOk at *
  rw [← Array.all_toList, List.all_eq_true] at *
  refine ⟨fun c hc => h c (List.mem_of_mem_drop (List.mem_of_mem_take hc)), ?_⟩
  show (List.toArray _).size ≤ x.cps.size
  rw [List.size_toArray, List.length_take, List.length_drop, Array.length_toList]
  have : x.length = x.cps.size := rfl
  omega
theorem strOk_app {x y : Str} (h : PyData.strOk x = true) (h2 : PyData.strOk y = true) : PyData.strOk (x ++ y) = true := by
  unfold PyData.strOk at *
  rw [← Array.all_toList, List.all_eq_true] at *
  intro c hc
  have e : (x ++ y).cps = x.cps ++ y.cps := rfl
  rw [e, Array.toList_append] at hc
  rcases List.mem_append.mp hc with hc | hc
  · exact h c hc
  · exact h2 c hc
theorem tm_str {x : Str} {w : Nat} (h : PyData.strOk x = true) (hl : 10 * x.length + 2 ≤ w) : Tm 0 w (.str x) := ⟨h, .inl rfl, Nat.le_refl _, hl⟩
theorem tm_int {i : Int} {w : Nat} (h : i.natAbs < 10 ^ 60) (hl : 61 ≤ w) : Tm 0 w (.int i) := ⟨by show decide _ = true; exact decide_eq_true h, .inl rfl, Nat.le_refl _, hl⟩
theorem tm_bool {b : Bool} {w : Nat} (hl : 5 ≤ w) : Tm 0 w (.bool b) := ⟨rfl, .inl rfl, Nat.le_refl _, hl⟩
def BR (n w : Nat) (r : R) : Prop := ∃ d, (r = .dat d ∨ ∃ l, r = .new (.lst l) ∧ d = .list l) ∧ Tm n w d
theorem x21 : mulSD (.str (Str.ofString "x")) (.int 21) = some (.dat (.str (repS (Str.ofString "x") 21))) ∧ mulSD (.str (Str.ofString "x")) (.int 20) = some (.dat (.str (repS (Str.ofString "x") 20))) := by
  constructor <;>
  · unfold mulSD
    simp only []
    rw [if_pos (by decide +kernel)]
    rfl
theorem x21_ok : (PyData.strOk (repS (Str.ofString "x") 21) = true ∧ (repS (Str.ofString "x") 21).length ≤ 21) ∧ (PyData.strOk (repS (Str.ofString "x") 20) = true ∧ (repS (Str.ofString "x") 20).length ≤ 21) := by decide +kernel
theorem leaf_str {bag : List D} (hb : BagOk bag) {x : Str} (hx : PyData.strOk x = true) (hl : x.length ≤ 2000) (f : Nat) (k : Int) :
    ∃ d bag', m_law_bent (f + 1) [.box false (.lst bag), .dat (.str x), .dat (.int k)] = some (.dat d, [.box false (.lst bag'), .dat (.str x), .dat (.int k)]) ∧ BagOk bag' ∧ Tm 3 (10 * x.length + 1000) d := by
  obtain ⟨v, bag1, t1, t2, t3, t4⟩ := take_ok hb 3 (by decide) (by decide)
  have hi := law_is_int_ok (.str x)
  unfold m_law_bent b__law_bent
  by_cases hv : 0 < v
  · obtain ⟨e1, e2⟩ := x21
    obtain ⟨⟨o1, l1⟩, o2, l2⟩ := x21_ok
    generalize hA : repS (Str.ofString "x") 21 = sA at *
    generalize hB : repS (Str.ofString "x") 20 = sB at *
    have a1 := addSt x (Str.ofString "1") (by have : (Str.ofString "1").length = 1 := rfl; omega)
    have a2 := addSt x (Str.ofString "_") (by have : (Str.ofString "_").length = 1 := rfl; omega)
    have hz : x.length ≤ 16777216 := by omega
    have c1 : slD (.str x) none (some (-1)) = some (.dat (.str (L2.cutS x none (some (-1))))) := by
      unfold slD
      simp only []
      rw [if_pos (by rw [sizeLine_eq]; exact hz)]
    obtain ⟨d, bag', h1, h2, h3⟩ := some_ok t2 (x := .dat (.list [.str (Str.ofString "num"), .str (Str.ofString "truth"), .str (Str.ofString "a"), .str (Str.ofString ""), .str (Str.ofString "A"), .str (Str.ofString "give"), .str (Str.ofString "1"), .str (x ++ Str.ofString "1"), .str (L2.cutS x none (some (-1))), .str (x ++ Str.ofString "_"), .str sA, .str sB])) (.inl rfl) (by simp) (by simp)
    refine ⟨d, bag', ?_, h3, ?_⟩
    · simp [sizeLine_eq, startE, argA, bxIx, back, newC, notBor, bxAt, restE, noBx, lstB, lstAt, isNoD, t1, hv, e1, e2, a1, a2, c1, addL, h1]
    · have s1 : PyData.strOk (Str.ofString "1") = true := by decide +kernel
      have s2 : PyData.strOk (Str.ofString "_") = true := by decide +kernel
      have q1 : (x ++ Str.ofString "1").length = x.length + 1 := by rw [strLen_append]; rfl
      have q2 : (x ++ Str.ofString "_").length = x.length + 1 := by rw [strLen_append]; rfl
      obtain ⟨c2, c3⟩ := cutS_ok hx none (some (-1))
      simp only [List.mem_cons, List.not_mem_nil, or_false] at h2
      rcases h2 with rfl | rfl | rfl | rfl | rfl | rfl | rfl | rfl | rfl | rfl | rfl | rfl
      · exact (tm_str (w := 1000) (by decide +kernel) (by decide +kernel)).mono (by omega) (by omega)
      · exact (tm_str (w := 1000) (by decide +kernel) (by decide +kernel)).mono (by omega) (by omega)
      · exact (tm_str (w := 1000) (by decide +kernel) (by decide +kernel)).mono (by omega) (by omega)
      · exact (tm_str (w := 1000) (by decide +kernel) (by decide +kernel)).mono (by omega) (by omega)
      · exact (tm_str (w := 1000) (by decide +kernel) (by decide +kernel)).mono (by omega) (by omega)
      · exact (tm_str (w := 1000) (by decide +kernel) (by decide +kernel)).mono (by omega) (by omega)
      · exact (tm_str (w := 1000) (by decide +kernel) (by decide +kernel)).mono (by omega) (by omega)
      · exact (tm_str (strOk_app hx s1) (by omega)).mono (by omega) (Nat.le_refl _)
      · exact (tm_str c2 (by omega)).mono (by omega) (Nat.le_refl _)
      · exact (tm_str (strOk_app hx s2) (by omega)).mono (by omega) (Nat.le_refl _)
      · exact (tm_str o1 (by omega)).mono (by omega) (Nat.le_refl _)
      · exact (tm_str o2 (by omega)).mono (by omega) (Nat.le_refl _)
  · obtain ⟨d, bag', h1, h2, h3⟩ := odd_ok t2
    refine ⟨d, bag', ?_, h2, h3.mono (Nat.le_refl _) (by omega)⟩
    simp [sizeLine_eq, startE, argA, bxIx, back, newC, notBor, bxAt, restE, noBx, lstB, lstAt, isNoD, t1, hv, hi, h1]
theorem strOk_int (i : Int) : PyData.strOk (Str.ofString (toString i)) = true := by
  unfold PyData.strOk
  rw [← Array.all_toList, List.all_eq_true]
  intro c hc
  rw [decide_eq_true_eq]
  rw [Str.ofString_eq_toList] at hc
  obtain ⟨x, _, rfl⟩ := List.mem_map.mp (by simpa using hc)
  exact x.valid.elim (fun h => by have : x.toNat = x.val.toNat := rfl; omega) fun h => by have : x.toNat = x.val.toNat := rfl; omega
theorem leaf_int {bag : List D} (hb : BagOk bag) {i : Int} (h0 : -1000 ≤ i) (hl : i ≤ 1000) (f : Nat) (k : Int) :
    ∃ d bag', m_law_bent (f + 1) [.box false (.lst bag), .dat (.int i), .dat (.int k)] = some (.dat d, [.box false (.lst bag'), .dat (.int i), .dat (.int k)]) ∧ BagOk bag' ∧ Tm 3 1000 d := by
  obtain ⟨v, bag1, t1, t2, t3, t4⟩ := take_ok hb 3 (by decide) (by decide)
  have hi := law_is_int_ok (.int i)
  unfold m_law_bent b__law_bent
  by_cases hv : 0 < v
  · have hs : strD [.int i] = some (.dat (.str (toString i))) := by
      unfold strD
      simp only []
      rw [if_pos]
      by_cases h0 : i.natAbs = 0
      · rw [h0]; decide
      · have := (Nat.log2_lt h0 (k := 20)).mpr (by omega)
        omega
    have hp : i.natAbs < 10 ^ 60 := by
      have : (1001 : Nat) ≤ 10 ^ 60 := by decide +kernel
      omega
    have hsl : (Str.ofString (toString i)).length ≤ 61 := by
      rw [PySem.ofString_length]
      exact int_text_length_le10 (by decide) hp
    have hso : PyData.strOk (Str.ofString (toString i)) = true := strOk_int i
    obtain ⟨d, bag', h1, h2, h3⟩ := some_ok t2 (x := .dat (.list [.int (i + 1), .int (0 - i), .bool (i == 1), .str (Str.ofString (toString i)), .int 999999999, .int 1000000000, .int (-1)])) (.inl rfl) (by simp) (by simp)
    refine ⟨d, bag', ?_, h3, ?_⟩
    · simp at h1
      simp [sizeLine_eq, startE, argA, bxIx, back, newC, notBor, bxAt, restE, noBx, lstB, lstAt, isNoD, t1, hv, hi, hs, h1]
    · simp only [List.mem_cons, List.not_mem_nil, or_false] at h2
      have hb60 : (1000000001 : Nat) ≤ 10 ^ 60 := by decide +kernel
      rcases h2 with rfl | rfl | rfl | rfl | rfl | rfl | rfl
      · exact (tm_int (by omega) (by decide)).mono (by omega) (Nat.le_refl _)
      · exact (tm_int (by omega) (by decide)).mono (by omega) (Nat.le_refl _)
      · exact (tm_bool (by decide)).mono (by omega) (Nat.le_refl _)
      · exact (tm_str hso (by omega)).mono (by omega) (Nat.le_refl _)
      · exact (tm_int (by omega) (by decide)).mono (by omega) (Nat.le_refl _)
      · exact (tm_int (by omega) (by decide)).mono (by omega) (Nat.le_refl _)
      · exact (tm_int (by omega) (by decide)).mono (by omega) (Nat.le_refl _)
  · obtain ⟨d, bag', h1, h2, h3⟩ := odd_ok t2
    refine ⟨d, bag', ?_, h2, h3⟩
    simp [sizeLine_eq, startE, argA, bxIx, back, newC, notBor, bxAt, restE, noBx, lstB, lstAt, isNoD, t1, hv, hi, h1]
theorem cutA (ds : List D) (i : Nat) : cutL ds none (some (i : Int)) = ds.take i := by
  unfold cutL
  rw [HT.sIx_none, HT.sIx_nat, List.drop_zero, Nat.sub_zero]
  rcases Nat.le_total i ds.length with h | h
  · rw [Nat.min_eq_left h]
  · rw [Nat.min_eq_right h, List.take_length, List.take_of_length_le h]
theorem cutB (ds : List D) (i : Nat) : cutL ds (some (i : Int)) none = ds.drop i := by
  unfold cutL
  rw [HT.sIx_none, HT.sIx_nat]
  rcases Nat.le_total i ds.length with h | h
  · rw [Nat.min_eq_left h, List.take_of_length_le (by rw [List.length_drop]; omega)]
  · rw [Nat.min_eq_right h, List.drop_of_length_le h, List.drop_length, List.take_nil]
theorem cutC (ds : List D) (i : Nat) (h : i < ds.length) : cutL ds (some (i : Int)) (some ((i : Int) + 1)) = [ds[i]] := by
  unfold cutL
  rw [show ((i : Int) + 1) = ((i + 1 : Nat) : Int) from by omega, HT.sIx_nat, HT.sIx_nat, Nat.min_eq_left (by omega), Nat.min_eq_left (by omega), show i + 1 - i = 1 by omega, List.drop_eq_getElem_cons h]
  rfl
theorem len_wX : ∀ ds : List D, ds.length ≤ wXL ds
  | [] => Nat.zero_le _
  | d :: r => by
    have := len_wX r
    rw [wXL, List.length_cons]
    omega
mutual
theorem okX_lay : ∀ d : D, okX d = true → d.hasDict = false → d.canLay0 = true
  | .none, _, _ => by simp only [PyData.canLay0]
  | .bool _, _, _ => by simp only [PyData.canLay0]
  | .int _, _, _ => by simp only [PyData.canLay0]
  | .str x, h, _ => by simpa only [PyData.canLay0, okX] using h
  | .list xs, h, e => by simp only [PyData.canLay0]; exact okXL_lay xs (by simpa only [okX] using h) (by simpa only [PyData.hasDict] using e)
  | .tuple xs, h, e => by simp only [PyData.canLay0]; exact okXL_lay xs (by simpa only [okX] using h) (by simpa only [PyData.hasDict] using e)
  | .dict _, _, e => by simp [PyData.hasDict] at e
theorem okXL_lay : ∀ ds : List D, okXL ds = true → PyData.hasDictAll ds = false → PyData.canLayAll0 ds = true
  | [], _, _ => by simp only [PyData.canLayAll0]
  | d :: ds, h, e => by
    have h' : okX d = true ∧ okXL ds = true := by simpa only [okXL, Bool.and_eq_true] using h
    have e' : d.hasDict = false ∧ PyData.hasDictAll ds = false := by simpa only [PyData.hasDictAll, Bool.or_eq_false_iff] using e
    simp only [PyData.canLayAll0, okX_lay d h'.1 e'.1, okXL_lay ds h'.2 e'.2, Bool.and_self]
end
theorem eq_tnil {n w : Nat} {ds : List D} (h : PlL n w ds) (hn : n ≤ 60) : eqD (.tuple ds) (.tuple []) = some (.dat (.bool ds.isEmpty)) := by
  have hp := h.tup
  have h1 : SeqAt.shaped (.tuple ds) = true := by
    unfold SeqAt.shaped
    rw [okX_lay _ hp.ok hp.nd, decide_eq_true (Nat.le_trans hp.dep (by omega))]
    rfl
  have h2 : SeqAt.shaped (.tuple []) = true := by decide
  unfold eqD eqOk
  rw [h1, h2]
  cases ds with
  | nil => simp [PyData.eqv, PyData.eqvAll]
  | cons d r => simp [PyData.eqv, PyData.eqvAll]
theorem bent_tup {bag : List D} (hb : BagOk bag) {n m w : Nat} {ds : List D} (hp : PlL n w ds) (hne : ds ≠ []) (hn : n ≤ 60) (hw : w ≤ 1000000) (f k : Nat)
    (ih : ∀ d ∈ ds, ∀ bag, BagOk bag → ∃ r bag', m_law_bent f [.box false (.lst bag), .dat d, .dat (.int (k : Int))] = some (r, [.box false (.lst bag'), .dat d, .dat (.int (k : Int))]) ∧ BagOk bag' ∧ BR m (2 * wX d + 2000) r) :
    ∃ r bag', m_law_bent (f + 1) [.box false (.lst bag), .dat (.tuple ds), .dat (.int ((k : Int) + 1))] = some (r, [.box false (.lst bag'), .dat (.tuple ds), .dat (.int ((k : Int) + 1))]) ∧ BagOk bag' ∧ BR (max n (max m 3) + 1) (2 * (w + 3) + 2000) r := by
  have hl : ds.length ≤ 1000000 := Nat.le_trans (len_wX ds) (Nat.le_trans hp.2 hw)
  have hpos : 0 < ds.length := List.length_pos_iff.mpr hne
  have hem : ds.isEmpty = false := by cases ds with | nil => exact absurd rfl hne | cons _ _ => rfl
  have he := eq_tnil hp hn
  rw [hem] at he
  have hk1 : (((k : Int) + 1) == 0) = false := by rw [beq_eq_false_iff_ne]; omega
  obtain ⟨v, bag1, t1, t2, t3, t4⟩ := take_ok hb 12 (by decide) (by decide)
  obtain ⟨u, bag2, u1, u2, u3, u4⟩ := take_ok t2 (ds.length : Int) (by omega) (by omega)
  obtain ⟨i, rfl⟩ := Int.eq_ofNat_of_zero_le u3
  have hi : i < ds.length := by omega
  have cA := cutA ds i
  have cB := cutB ds i
  have cB1 : cutL ds (some ((i : Int) + 1)) none = ds.drop (i + 1) := cutB ds (i + 1)
  have cC := cutC ds i hi
  have hat : L2.atI ds (i : Int) = some ds[i] := L2.atI_nat (List.getElem?_eq_getElem hi)
  obtain ⟨x, g1, g2, a, b, g3, g4, g5⟩ := hp.get (List.getElem?_eq_getElem hi)
  have lt : (ds.take i).length ≤ 1000000 := by rw [List.length_take]; omega
  have ld : (ds.drop i).length ≤ 1000000 := by rw [List.length_drop]; omega
  have ld1 : (ds.drop (i + 1)).length ≤ 1000000 := by rw [List.length_drop]; omega
  by_cases v0 : v = 0
  · subst v0
    refine ⟨.new (.lst ds), bag2, ?_, u2, .list ds, .inr ⟨_, rfl, rfl⟩, (hp.lst).mono (by omega) (by omega)⟩
    unfold m_law_bent b__law_bent
    simp [sizeLine_eq, startE, argA, bxIx, back, newC, notBor, bxAt, restE, noBx, lstB, lstAt, isNoD, he, hk1, t1, u1]
  · have w0 : (v == 0) = false := by rw [beq_eq_false_iff_ne]; exact v0
    by_cases v1 : v = 1
    · subst v1
      have e := addTu (ds.take i) (ds.drop (i + 1)) (by omega)
      refine ⟨.dat (.tuple (ds.take i ++ ds.drop (i + 1))), bag2, ?_, u2, _, .inl rfl, (g4.app g5).tup.tm.mono (by omega) (by omega)⟩
      unfold m_law_bent b__law_bent
      generalize ds.take i = p1 at *
      generalize ds.drop (i + 1) = p2 at *
      simp [sizeLine_eq, startE, argA, bxIx, back, newC, notBor, bxAt, restE, noBx, lstB, lstAt, isNoD, he, hk1, t1, u1, cA, cB1, e]
    · have w1 : (v == 1) = false := by rw [beq_eq_false_iff_ne]; exact v1
      by_cases v2 : v = 2
      · subst v2
        obtain ⟨o, bag3, o1, o2, o3⟩ := odd_ok u2
        have e1 := addTu (ds.take i) [o] (by rw [List.length_singleton]; omega)
        have e2 := addTu (ds.take i ++ [o]) (ds.drop i) (by rw [List.length_append, List.length_singleton]; omega)
        have g6 : PlL n (x + 2 + b) (ds.drop i) := by rw [g2]; exact g5.cons g1
        refine ⟨.dat (.tuple (ds.take i ++ [o] ++ ds.drop i)), bag3, ?_, o2, _, .inl rfl, (g4.mid o3 g6).tup.mono (by omega) (by omega)⟩
        unfold m_law_bent b__law_bent
        generalize ds.take i ++ [o] ++ ds.drop i = p3 at *
        generalize ds.take i ++ [o] = p4 at *
        generalize ds.take i = p1 at *
        generalize ds.drop i = p2 at *
        simp [sizeLine_eq, startE, argA, bxIx, back, newC, notBor, bxAt, restE, noBx, lstB, lstAt, isNoD, he, hk1, t1, u1, cA, cB, o1, e1, e2]
      · have w2 : (v == 2) = false := by rw [beq_eq_false_iff_ne]; exact v2
        by_cases v3 : v = 3
        · subst v3
          have e1 := addTu (ds.take i) [ds[i]] (by rw [List.length_singleton]; omega)
          have e2 := addTu (ds.take i ++ [ds[i]]) (ds.drop i) (by rw [List.length_append, List.length_singleton]; omega)
          have g6 : PlL n (x + 2 + b) (ds.drop i) := by rw [g2]; exact g5.cons g1
          refine ⟨.dat (.tuple (ds.take i ++ [ds[i]] ++ ds.drop i)), bag2, ?_, u2, _, .inl rfl, (g4.mid g1.tm g6).tup.mono (by omega) (by omega)⟩
          unfold m_law_bent b__law_bent
          generalize ds.take i ++ [ds[i]] ++ ds.drop i = p3 at *
          generalize ds.take i ++ [ds[i]] = p4 at *
          generalize ds.take i = p1 at *
          generalize ds.drop i = p2 at *
          simp [sizeLine_eq, startE, argA, bxIx, back, newC, notBor, bxAt, restE, noBx, lstB, lstAt, isNoD, he, hk1, t1, u1, cA, cB, cC, e1, e2]
        · have w3 : (v == 3) = false := by rw [beq_eq_false_iff_ne]; exact v3
          obtain ⟨r, bag3, o1, o2, d', o3, o4⟩ := ih ds[i] (List.getElem_mem hi) bag2 u2
          have e1 := addTu (ds.take i) [d'] (by rw [List.length_singleton]; omega)
          have e2 := addTu (ds.take i ++ [d']) (ds.drop (i + 1)) (by rw [List.length_append, List.length_singleton]; omega)
          have gw := g1.wt
          refine ⟨.dat (.tuple (ds.take i ++ [d'] ++ ds.drop (i + 1))), bag3, ?_, o2, _, .inl rfl, (g4.mid (o4.mono (Nat.le_refl _) (show 2 * wX ds[i] + 2000 ≤ 2 * x + 2000 by omega)) g5).tup.mono (by omega) (by omega)⟩
          unfold m_law_bent b__law_bent
          generalize ds.take i ++ [d'] ++ ds.drop (i + 1) = p3 at *
          generalize ds.take i ++ [d'] = p4 at *
          generalize ds.take i = p1 at *
          generalize ds.drop (i + 1) = p2 at *
          generalize ds[i] = di at *
          rcases o3 with rfl | ⟨l, rfl, rfl⟩ <;>
            simp [sizeLine_eq, startE, argA, bxIx, back, newC, notBor, bxAt, restE, noBx, lstB, lstAt, isNoD, he, hk1, t1, u1, w0, w1, w2, w3, cA, cB1, hat, o1, e1, e2]
end K05

namespace K05
open PySem PySem.Spec PyProof.Rows L3
/-! values near stocks -/
theorem PlL.of_all {n v : Nat} : ∀ {ds : List D}, (∀ d ∈ ds, Pl n v d) → PlL n (ds.length * (v + 2)) ds
  | [], _ => PlL.nil
  | d :: r, h => by
    have h1 := PlL.cons (h d List.mem_cons_self) (PlL.of_all fun e he => h e (List.mem_cons_of_mem _ he))
    refine h1.mono (Nat.le_refl _) ?_
    rw [List.length_cons, Nat.add_mul]
    omega
theorem pl_str {x : Str} (h : SOk x) : Pl 0 10022 (.str x) := ⟨h.1, rfl, rfl, Nat.le_refl _, by have := h.2; show 10 * x.length + 2 ≤ 10022; omega⟩
theorem pl_int {i : Int} (h : i.natAbs < 10 ^ 60) : Pl 0 61 (.int i) := ⟨by show decide _ = true; exact decide_eq_true h, rfl, rfl, Nat.le_refl _, Nat.le_refl _⟩
theorem pl_bool {b : Bool} : Pl 0 61 (.bool b) := ⟨rfl, rfl, rfl, Nat.le_refl _, by show 5 ≤ 61; decide⟩
theorem pl_two {x : Str} {d : D} (h : SOk x) (hd : Pl 0 61 d) : Pl 1 10092 (.tuple [.str x, d]) :=
  (PlL.tup (PlL.cons (pl_str h) (PlL.cons hd (PlL.nil (n := 0) (w := 0))))).mono (Nat.le_refl _) (by decide)
theorem i60 {i : Int} (h0 : -2000 ≤ i) (h1 : i ≤ 2000) : i.natAbs < 10 ^ 60 := by
  have : (2001 : Nat) ≤ 10 ^ 60 := by decide +kernel
  omega
abbrev G (d : D) : Prop := Tm 20 1000000 d
/-- a tuple of at most 40 pairs -/
theorem g_pairs {ds : List D} (h : ∀ d ∈ ds, Pl 1 10092 d) (hl : ds.length ≤ 40) : PlL 1 403760 ds := by
  refine (PlL.of_all h).mono (Nat.le_refl _) ?_
  have : ds.length * (10092 + 2) ≤ 40 * (10092 + 2) := Nat.mul_le_mul_right _ hl
  omega
theorem g_tup {ds : List D} (h : ∀ d ∈ ds, Pl 1 10092 d) (hl : ds.length ≤ 40) : G (.tuple ds) := (g_pairs h hl).tup.tm.mono (by decide) (by decide)
theorem g_lst {ds : List D} (h : ∀ d ∈ ds, Pl 1 10092 d) (hl : ds.length ≤ 40) : G (.list ds) := (g_pairs h hl).lst.mono (by decide) (by decide)
section
variable (dt : D)
abbrev nsE (bag : List D) (k2 k3 k4 k5 k6 k7 k8 : Option A) : En := [some (.box false (.lst bag)), some (.dat dt), k2, k3, k4, k5, k6, k7, k8, none, none]
theorem ns_some {bag : List D} (hb : BagOk bag) (K : List Str) (hK : K.length ≤ 20) :
    ∃ (S : List Str) (bag' : List D), lcT (gnm 6) T__law_near_stocks_1 M__law_near_stocks_1 [6] (.slot 2 (K.map PyData.str)) (nsE dt bag (some (.box true (.lst (K.map PyData.str)))) none none none none none none) = some (.new (.lst (S.map PyData.str)), nsE dt bag' (some (.box true (.lst (K.map PyData.str)))) none none none none none none) ∧ BagOk bag' ∧ S.Sublist K := by
  obtain ⟨acc, ρ', h2, bag', S, P0, j, h3, rfl, hs, hp, rfl, _⟩ := lcS_run (i := 2) (xs := K.map PyData.str) (g := gnm 6) (t := T__law_near_stocks_1) (m := M__law_near_stocks_1) (vs := [6]) (P := fun r acc ρ => ∃ (bag : List D) (S P0 : List Str) (j : Option D), BagOk bag ∧ acc = S.map PyData.str ∧ S.Sublist P0 ∧ (∃ q, P0 ++ q = K ∧ r = q.map PyData.str) ∧ ρ = nsE dt bag (some (.box true (.lst (K.map PyData.str)))) none none none (sD j) none none ∧ S.length ≤ P0.length) (by
      rintro r acc ρ ⟨bag, S, P0, j, _, _, _, _, rfl, _⟩
      rfl) (fun d r acc ρ hP => by
    obtain ⟨bag, S, P0, j, hb, rfl, hs, ⟨q, hq, hr⟩, rfl, hl⟩ := hP
    cases q with
    | nil => cases hr
    | cons k q =>
      rw [List.map_cons] at hr
      injection hr with e1 e2
      subst e1
      obtain ⟨v, bag', t1, t2, t3, t4⟩ := take_ok hb 2 (by decide) (by decide)
      have hP0 : P0.length ≤ 20 := by have := congrArg List.length hq; rw [List.length_append] at this; omega
      by_cases hv : v = 0
      · subst hv
        refine ⟨(S ++ [k]).map PyData.str, nsE dt bag' (some (.box true (.lst (K.map PyData.str)))) none none none (some (.dat (.str k))) none none, ?_, bag', S ++ [k], P0 ++ [k], some (.str k), t2, rfl, hs.append (List.Sublist.refl _), ⟨q, by rw [List.append_assoc]; exact hq, e2⟩, rfl, by rw [List.length_append, List.length_append]; simp; exact hl⟩
        rw [List.map_append]
        refine turn_yes (ρ1 := nsE dt bag (some (.box true (.lst (K.map PyData.str)))) none none none (some (.dat (.str k))) none none) (ρ2 := nsE dt bag' (some (.box true (.lst (K.map PyData.str)))) none none none (some (.dat (.str k))) none none) (ρ3 := nsE dt bag' (some (.box true (.lst (K.map PyData.str)))) none none none (some (.dat (.str k))) none none) (y := .dat (.str k)) ?_ ?_ ?_ ?_ ?_
        · cases j <;> simp [sizeLine_eq, startE, argA, bxIx, back, newC, notBor, bxAt, restE, noBx, lstB, lstAt, isNoD, sD]
        · simp [sizeLine_eq, startE, argA, bxIx, back, newC, notBor, bxAt, restE, noBx, lstB, lstAt, isNoD, T__law_near_stocks_1, t1]
        · simp [sizeLine_eq, startE, argA, bxIx, back, newC, notBor, bxAt, restE, noBx, lstB, lstAt, isNoD, M__law_near_stocks_1]
        · simp [sizeLine_eq, startE, argA, bxIx, back, newC, notBor, bxAt, restE, noBx, lstB, lstAt, isNoD]
        · rw [sizeLine_eq, List.length_map]; omega
      · have hv0 : (v == 0) = false := by rw [beq_eq_false_iff_ne]; exact hv
        refine ⟨S.map PyData.str, nsE dt bag' (some (.box true (.lst (K.map PyData.str)))) none none none (some (.dat (.str k))) none none, ?_, bag', S, P0 ++ [k], some (.str k), t2, rfl, hs.trans (List.sublist_append_left _ _), ⟨q, by rw [List.append_assoc]; exact hq, e2⟩, rfl, by rw [List.length_append]; omega⟩
        refine turn_no (ρ1 := nsE dt bag (some (.box true (.lst (K.map PyData.str)))) none none none (some (.dat (.str k))) none none) ?_ ?_
        · cases j <;> simp [sizeLine_eq, startE, argA, bxIx, back, newC, notBor, bxAt, restE, noBx, lstB, lstAt, isNoD, sD]
        · simp [sizeLine_eq, startE, argA, bxIx, back, newC, notBor, bxAt, restE, noBx, lstB, lstAt, isNoD, T__law_near_stocks_1, t1, hv0]) (K.map PyData.str) 0 [] (nsE dt bag (some (.box true (.lst (K.map PyData.str)))) none none none none none none) rfl ⟨bag, [], [], none, hb, rfl, List.Sublist.refl _, ⟨K, rfl, rfl⟩, rfl, Nat.le_refl _⟩
  obtain ⟨q, hq, hr⟩ := hp
  have hq0 : q = [] := List.map_eq_nil_iff.mp hr.symm
  subst hq0
  rw [List.append_nil] at hq
  subst hq
  refine ⟨S, bag', ?_, h3, hs⟩
  show lcE _ [6] ((guardO (decide (2 ∉ [6]))).bind fun _ => mlcS 2 (gnm 6) T__law_near_stocks_1 M__law_near_stocks_1 [6] (P0.map PyData.str) 0 [] _) = _
  have hw : wipeE (nsE dt bag (some (.box true (.lst (P0.map PyData.str)))) none none none none none none) [6] = nsE dt bag (some (.box true (.lst (P0.map PyData.str)))) none none none none none none := rfl
  rw [hw, h2]
  cases j <;> simp [sizeLine_eq, startE, argA, bxIx, back, newC, notBor, bxAt, restE, noBx, lstB, lstAt, isNoD, sD]
theorem ns_stock {bag : List D} (hb : BagOk bag) (c2 : Option A) (S : List Str) (hS : S.length ≤ 20) (o : Str → Bool) (ho : ∀ k ∈ S, m_law_is_once [.dat dt, .dat (.str k)] = some (.dat (.bool (o k)), [.dat dt, .dat (.str k)])) :
    ∃ (st : St) (bag' : List D), lcT (gnm 6) myes M__law_near_stocks_2 [6] (.slot 3 (S.map PyData.str)) (nsE dt bag c2 (some (.box true (.lst (S.map PyData.str)))) none none none none none) = some (.new (.lst (st.map (encP PyData.int))), nsE dt bag' c2 (some (.box true (.lst (S.map PyData.str)))) none none none none none) ∧ BagOk bag' ∧ keyT st = S ∧ ∀ p ∈ st, 1 ≤ p.2 ∧ p.2 ≤ 5 := by
  obtain ⟨acc, ρ', h2, bag', st, j, h3, rfl, hk, hc, rfl⟩ := lcS_run (i := 3) (xs := S.map PyData.str) (g := gnm 6) (t := myes) (m := M__law_near_stocks_2) (vs := [6]) (P := fun r acc ρ => ∃ (bag : List D) (st : St) (j : Option D), BagOk bag ∧ acc = st.map (encP PyData.int) ∧ (∃ q, keyT st ++ q = S ∧ r = q.map PyData.str) ∧ (∀ p ∈ st, 1 ≤ p.2 ∧ p.2 ≤ 5) ∧ ρ = nsE dt bag c2 (some (.box true (.lst (S.map PyData.str)))) none none (sD j) none none) (by
      rintro r acc ρ ⟨bag, st, j, _, _, _, _, rfl⟩
      rfl) (fun d r acc ρ hP => by
    obtain ⟨bag, st, j, hb, rfl, ⟨q, hq, hr⟩, hc, rfl⟩ := hP
    cases q with
    | nil => cases hr
    | cons k q =>
      rw [List.map_cons] at hr
      injection hr with e1 e2
      subst e1
      have hkS : k ∈ S := by rw [← hq]; simp
      have hl : st.length ≤ 20 := by
        have := congrArg List.length hq
        rw [List.length_append] at this
        have e : (keyT st).length = st.length := by unfold keyT; rw [List.length_map]
        omega
      have ho' := ho k hkS
      have fin : ∀ (bag' : List D) (n : Int), BagOk bag' → 1 ≤ n → n ≤ 5 → M__law_near_stocks_2 (nsE dt bag c2 (some (.box true (.lst (S.map PyData.str)))) none none (some (.dat (.str k))) none none) = some (.dat (encP PyData.int (k, n)), nsE dt bag' c2 (some (.box true (.lst (S.map PyData.str)))) none none (some (.dat (.str k))) none none) →
          ∃ acc' ρ', mturn (gnm 6) myes M__law_near_stocks_2 [6] (.str k) (st.map (encP PyData.int)) (nsE dt bag c2 (some (.box true (.lst (S.map PyData.str)))) none none (sD j) none none) = some (acc', ρ') ∧ ∃ (bag : List D) (st : St) (j : Option D), BagOk bag ∧ acc' = st.map (encP PyData.int) ∧ (∃ q, keyT st ++ q = S ∧ r = q.map PyData.str) ∧ (∀ p ∈ st, 1 ≤ p.2 ∧ p.2 ≤ 5) ∧ ρ' = nsE dt bag c2 (some (.box true (.lst (S.map PyData.str)))) none none (sD j) none none := fun bag' n hb' n1 n5 hm => by
        refine ⟨(st ++ [(k, n)]).map (encP PyData.int), nsE dt bag' c2 (some (.box true (.lst (S.map PyData.str)))) none none (some (.dat (.str k))) none none, ?_, bag', st ++ [(k, n)], some (.str k), hb', rfl, ⟨q, by unfold keyT at hq ⊢; rw [List.map_append, List.append_assoc]; exact hq, e2⟩, fun p hp => (List.mem_append.mp hp).elim (hc p) fun z => by rw [List.mem_singleton.mp z]; exact ⟨n1, n5⟩, rfl⟩
        rw [List.map_append]
        refine turn_yes (ρ1 := nsE dt bag c2 (some (.box true (.lst (S.map PyData.str)))) none none (some (.dat (.str k))) none none) (ρ2 := nsE dt bag c2 (some (.box true (.lst (S.map PyData.str)))) none none (some (.dat (.str k))) none none) (ρ3 := nsE dt bag' c2 (some (.box true (.lst (S.map PyData.str)))) none none (some (.dat (.str k))) none none) (y := .dat (encP PyData.int (k, n))) ?_ rfl hm ?_ ?_
        · cases j <;> simp [sizeLine_eq, startE, argA, bxIx, back, newC, notBor, bxAt, restE, noBx, lstB, lstAt, isNoD, sD]
        · simp [sizeLine_eq, startE, argA, bxIx, back, newC, notBor, bxAt, restE, noBx, lstB, lstAt, isNoD]
        · rw [sizeLine_eq, List.length_map]; omega
      cases hok : o k with
      | true =>
        rw [hok] at ho'
        obtain ⟨n, bag', h4, h5, h6, h7, h8⟩ := some_nums hb (l := [.int 1, .int 2, .int 5]) (B := 5) (by simp) (by simp) (by
          intro d hd
          simp only [List.mem_cons, List.not_mem_nil, or_false] at hd
          rcases hd with rfl | rfl | rfl
          · exact ⟨1, rfl, by decide, by decide⟩
          · exact ⟨2, rfl, by decide, by decide⟩
          · exact ⟨5, rfl, by decide, by decide⟩)
        have hn1 : 1 ≤ n := by
          simp only [List.mem_cons, List.not_mem_nil, or_false] at h8
          rcases h8 with h8 | h8 | h8 <;> (injection h8 with h8; omega)
        exact fin bag' n h5 hn1 h7 (by simp [sizeLine_eq, startE, argA, bxIx, back, newC, notBor, bxAt, restE, noBx, lstB, lstAt, isNoD, M__law_near_stocks_2, ho', h4, encP])
      | false =>
        rw [hok] at ho'
        exact fin bag 1 hb (by decide) (by decide) (by simp [sizeLine_eq, startE, argA, bxIx, back, newC, notBor, bxAt, restE, noBx, lstB, lstAt, isNoD, M__law_near_stocks_2, ho', encP])) (S.map PyData.str) 0 [] (nsE dt bag c2 (some (.box true (.lst (S.map PyData.str)))) none none none none none) rfl ⟨bag, [], none, hb, rfl, ⟨S, rfl, rfl⟩, (fun p hp => by cases hp), rfl⟩
  obtain ⟨q, hq, hr⟩ := hk
  have hq0 : q = [] := List.map_eq_nil_iff.mp hr.symm
  subst hq0
  rw [List.append_nil] at hq
  refine ⟨st, bag', ?_, h3, hq, hc⟩
  show lcE _ [6] ((guardO (decide (3 ∉ [6]))).bind fun _ => mlcS 3 (gnm 6) myes M__law_near_stocks_2 [6] (S.map PyData.str) 0 [] _) = _
  have hw : wipeE (nsE dt bag c2 (some (.box true (.lst (S.map PyData.str)))) none none none none none) [6] = nsE dt bag c2 (some (.box true (.lst (S.map PyData.str)))) none none none none none := rfl
  rw [hw, h2]
  cases j <;> simp [sizeLine_eq, startE, argA, bxIx, back, newC, notBor, bxAt, restE, noBx, lstB, lstAt, isNoD, sD]
end
theorem seq_nx {a b : MS} {ρ ρ' : En} {r : Option (O × En)} (h : a ρ = some (.nx, ρ')) (h2 : b ρ' = r) : mseq a b ρ = r := by
  unfold mseq
  rw [h, Option.bind_some]
  exact h2
theorem mdef_of {n : Nat} {b : MS} {as : List A} {r : R} {ρ' : En} {o : List A} (h : b (startE n as) = some (.rt r, ρ')) (h2 : outAs ρ' as 0 = some o) : mdef n b as = some (r, o) := by
  unfold mdef
  rw [h, Option.bind_some]
  show (outAs ρ' as 0).map _ = _
  rw [h2]
  rfl
def prI (n : Int) (k : Str) : D := .tuple [.str k, .int n]
section
variable (dt : D)
theorem ns_pr {bag : List D} (n : Int) (m : ME) (hm : ∀ (k : Str) (k2 k3 k4 k5 k7 k8 : Option A), m (nsE dt bag k2 k3 k4 k5 (some (.dat (.str k))) k7 k8) = some (.dat (prI n k), nsE dt bag k2 k3 k4 k5 (some (.dat (.str k))) k7 k8)) (K : List Str) (hK : K.length ≤ 20) :
    (∀ (k3 k4 k5 : Option A), lcT (gnm 6) myes m [6] (.slot 2 (K.map PyData.str)) (nsE dt bag (some (.box true (.lst (K.map PyData.str)))) k3 k4 k5 none none none) = some (.new (.lst (K.map (prI n))), nsE dt bag (some (.box true (.lst (K.map PyData.str)))) k3 k4 k5 none none none)) ∧
    (∀ (k2 k4 k5 : Option A), lcT (gnm 6) myes m [6] (.slot 3 (K.map PyData.str)) (nsE dt bag k2 (some (.box true (.lst (K.map PyData.str)))) k4 k5 none none none) = some (.new (.lst (K.map (prI n))), nsE dt bag k2 (some (.box true (.lst (K.map PyData.str)))) k4 k5 none none none)) := by
  constructor
  · intro k3 k4 k5
    have := lcS_pure (i := 2) (g := gnm 6) (t := myes) (m := m) (vs := [6]) (ρ := nsE dt bag (some (.box true (.lst (K.map PyData.str)))) k3 k4 k5 none none none) PyData.str (fun k => some (prI n k)) K (by decide) rfl (fun k _ => ⟨nsE dt bag (some (.box true (.lst (K.map PyData.str)))) k3 k4 k5 (some (.dat (.str k))) none none, true, by simp [sizeLine_eq, startE, argA, bxIx, back, newC, notBor, bxAt, restE, noBx, lstB, lstAt, isNoD], by simp [sizeLine_eq, startE, argA, bxIx, back, newC, notBor, bxAt, restE, noBx, lstB, lstAt, isNoD], rfl, rfl, hm ..⟩) (by rw [sizeLine_eq]; omega)
    rw [filt_some] at this
    exact this
  · intro k2 k4 k5
    have := lcS_pure (i := 3) (g := gnm 6) (t := myes) (m := m) (vs := [6]) (ρ := nsE dt bag k2 (some (.box true (.lst (K.map PyData.str)))) k4 k5 none none none) PyData.str (fun k => some (prI n k)) K (by decide) rfl (fun k _ => ⟨nsE dt bag k2 (some (.box true (.lst (K.map PyData.str)))) k4 k5 (some (.dat (.str k))) none none, true, by simp [sizeLine_eq, startE, argA, bxIx, back, newC, notBor, bxAt, restE, noBx, lstB, lstAt, isNoD], by simp [sizeLine_eq, startE, argA, bxIx, back, newC, notBor, bxAt, restE, noBx, lstB, lstAt, isNoD], rfl, rfl, hm ..⟩) (by rw [sizeLine_eq]; omega)
    rw [filt_some] at this
    exact this
theorem ns_bool {bag : List D} (k2 k3 k5 : Option A) (st : St) (hl : st.length ≤ 20) :
    lcT (gtup [6, 8]) myes M__law_near_stocks_6 [6, 8] (.items (st.map (encP PyData.int))) (nsE dt bag k2 k3 (some (.dat (.tuple (st.map (encP PyData.int))))) k5 none none none) = some (.new (.lst (st.map fun p => .tuple [.str p.1, .bool (p.2 == 1)])), nsE dt bag k2 k3 (some (.dat (.tuple (st.map (encP PyData.int))))) k5 none none none) := by
  have := lc_pure (g := gtup [6, 8]) (t := myes) (m := M__law_near_stocks_6) (vs := [6, 8]) (ρ := nsE dt bag k2 k3 (some (.dat (.tuple (st.map (encP PyData.int))))) k5 none none none) (encP PyData.int) (fun p => some (.tuple [.str p.1, .bool (p.2 == 1)])) st (fun p _ => by
    obtain ⟨k, n⟩ := p
    refine ⟨nsE dt bag k2 k3 (some (.dat (.tuple (st.map (encP PyData.int))))) k5 (some (.dat (.str k))) none (some (.dat (.int n))), true, ?_, ?_, rfl, rfl, ?_⟩
    · simp [sizeLine_eq, startE, argA, bxIx, back, newC, notBor, bxAt, restE, noBx, lstB, lstAt, isNoD, encP]
    · simp [sizeLine_eq, startE, argA, bxIx, back, newC, notBor, bxAt, restE, noBx, lstB, lstAt, isNoD]
    · simp [sizeLine_eq, startE, argA, bxIx, back, newC, notBor, bxAt, restE, noBx, lstB, lstAt, isNoD, M__law_near_stocks_6]) (by rw [sizeLine_eq]; omega)
  rw [filt_some] at this
  exact this
/-- one after the other: two of a kind -/
theorem ns_loop7 {bag : List D} (k2 k3 k4 : Option A) (K : List Str) (hK : K.length ≤ 20) (L : List D) (hL : L.length ≤ 100) :
    ∃ (k6 : Option D), mforI (gnm 6) L__law_near_stocks_7 (K.map PyData.str) (nsE dt bag k2 k3 k4 (some (.box true (.lst L))) none none none) = some (.nx, nsE dt bag k2 k3 k4 (some (.box true (.lst (L ++ K.map fun k => .tuple [prI 1 k, prI 2 k])))) (sD k6) none none) := by
  obtain ⟨j', h1, _⟩ := forI_fold (g := gnm 6) (b := L__law_near_stocks_7) (enc := PyData.str) (fun (L : List D) (j : Option D) => nsE dt bag k2 k3 k4 (some (.box true (.lst L))) (sD j) none none) (fun L k => L ++ [.tuple [prI 1 k, prI 2 k]]) (fun L r => L.length + r.length ≤ 200) (fun L k r j hI => by
    rw [List.length_cons] at hI
    have hz : L.length < 16777216 := by omega
    refine ⟨nsE dt bag k2 k3 k4 (some (.box true (.lst L))) (some (.dat (.str k))) none none, some (.str k), by cases j <;> simp [sizeLine_eq, startE, argA, bxIx, back, newC, notBor, bxAt, restE, noBx, lstB, lstAt, isNoD, sD], ?_, by rw [List.length_append, List.length_singleton]; omega⟩
    unfold L__law_near_stocks_7
    simp [sizeLine_eq, startE, argA, bxIx, back, newC, notBor, bxAt, restE, noBx, lstB, lstAt, isNoD, appendD, hz, sD, prI]) K L none (by omega)
  refine ⟨j', ?_⟩
  have e : ∀ (r : List Str) (L : List D), r.foldl (fun L k => L ++ [PyData.tuple [prI 1 k, prI 2 k]]) L = L ++ r.map fun k => .tuple [prI 1 k, prI 2 k] := by
    intro r
    induction r with
    | nil => intro L; simp
    | cons k r ih => intro L; rw [List.foldl_cons, ih, List.map_cons, List.append_assoc]; rfl
  rw [e] at h1
  exact h1
theorem enum_map (st : St) : enumD (st.map (encP PyData.int)) = (List.range st.length).map fun i => .tuple [.int (i : Nat), (st.map (encP PyData.int))[i]?.getD .none] := by
  unfold enumD
  refine List.ext_getElem? fun i => ?_
  rw [List.getElem?_mapIdx, List.getElem?_map (l := List.range st.length)]
  by_cases h : i < st.length
  · rw [List.getElem?_range h, List.getElem?_eq_getElem (by rw [List.length_map]; exact h)]
    simp [h]
  · rw [List.getElem?_eq_none (l := List.range st.length) (by rw [List.length_range]; omega), List.getElem?_eq_none (by rw [List.length_map]; omega)]
    rfl
def atF (st : St) (i : Nat) : D := .tuple ((st.map (encP PyData.int)).take i ++ [prI (st[i]?.getD ("" , 0)).2 (st[i]?.getD ("", 0)).1, prI ((st[i]?.getD ("", 0)).2 + 1) (st[i]?.getD ("", 0)).1] ++ (st.map (encP PyData.int)).drop (i + 1))
theorem ns_loop8 {bag : List D} (k2 k3 : Option A) (st : St) (hst : st.length ≤ 20) (L : List D) (hL : L.length ≤ 200) (k6 : Option D) :
    ∃ (k6' k7 k8 : Option D), mforI (gtupG [gnm 7, gtup [6, 8]]) L__law_near_stocks_8 (enumD (st.map (encP PyData.int))) (nsE dt bag k2 k3 (some (.dat (.tuple (st.map (encP PyData.int))))) (some (.box true (.lst L))) (sD k6) none none) = some (.nx, nsE dt bag k2 k3 (some (.dat (.tuple (st.map (encP PyData.int))))) (some (.box true (.lst (L ++ (List.range st.length).map (atF st))))) (sD k6') (sD k7) (sD k8)) := by
  obtain ⟨⟨a, b, c⟩, h1, _⟩ := forI_fold (σ := List D) (J := Option D × Option D × Option D) (g := gtupG [gnm 7, gtup [6, 8]]) (b := L__law_near_stocks_8) (enc := fun i : Nat => (.tuple [.int (i : Nat), (st.map (encP PyData.int))[i]?.getD .none] : D)) (fun (L : List D) j => nsE dt bag k2 k3 (some (.dat (.tuple (st.map (encP PyData.int))))) (some (.box true (.lst L))) (sD j.1) (sD j.2.1) (sD j.2.2)) (fun L i => L ++ [atF st i]) (fun L r => L.length + r.length ≤ 300 ∧ ∀ i ∈ r, i < st.length) (fun L i r j hI => by
    obtain ⟨hI1, hI2⟩ := hI
    rw [List.length_cons] at hI1
    have hi := hI2 i List.mem_cons_self
    have hz : L.length < 16777216 := by omega
    have hlm : (st.map (encP PyData.int)).length = st.length := List.length_map _
    obtain ⟨⟨k, n⟩, hkn⟩ : ∃ p, st[i]? = some p := ⟨_, List.getElem?_eq_getElem hi⟩
    have hx : (st.map (encP PyData.int))[i]?.getD .none = .tuple [.str k, .int n] := by rw [List.getElem?_map, hkn]; rfl
    have hA : atF st i = .tuple ((st.map (encP PyData.int)).take i ++ [prI n k, prI (n + 1) k] ++ (st.map (encP PyData.int)).drop (i + 1)) := by unfold atF; rw [hkn]; rfl
    have cA := cutA (st.map (encP PyData.int)) i
    have cB1 : cutL (st.map (encP PyData.int)) (some ((i : Int) + 1)) none = (st.map (encP PyData.int)).drop (i + 1) := cutB (st.map (encP PyData.int)) (i + 1)
    have e1 := addTu ((st.map (encP PyData.int)).take i) [prI n k, prI (n + 1) k] (by rw [List.length_take]; simp only [List.length_cons, List.length_nil]; omega)
    have e2 := addTu ((st.map (encP PyData.int)).take i ++ [prI n k, prI (n + 1) k]) ((st.map (encP PyData.int)).drop (i + 1)) (by rw [List.length_append, List.length_take, List.length_drop]; simp only [List.length_cons, List.length_nil]; omega)
    rw [hx, hA]
    refine ⟨nsE dt bag k2 k3 (some (.dat (.tuple (st.map (encP PyData.int))))) (some (.box true (.lst L))) (some (.dat (.str k))) (some (.dat (.int (i : Int)))) (some (.dat (.int n))), (some (.str k), some (.int (i : Int)), some (.int n)), ?_, ?_, by rw [List.length_append, List.length_singleton]; omega, fun i hi => hI2 i (List.mem_cons_of_mem _ hi)⟩
    · obtain ⟨a, b, c⟩ := j
      cases a <;> cases b <;> cases c <;> simp [sizeLine_eq, startE, argA, bxIx, back, newC, notBor, bxAt, restE, noBx, lstB, lstAt, isNoD, sD]
    · unfold L__law_near_stocks_8
      unfold prI at e1 e2 ⊢
      generalize ((st.map (encP PyData.int)).take i ++ [PyData.tuple [.str k, .int n], PyData.tuple [.str k, .int (n + 1)]] ++ (st.map (encP PyData.int)).drop (i + 1)) = p3 at *
      generalize ((st.map (encP PyData.int)).take i ++ [PyData.tuple [.str k, .int n], PyData.tuple [.str k, .int (n + 1)]]) = p4 at *
      generalize (st.map (encP PyData.int)).take i = p1 at *
      generalize (st.map (encP PyData.int)).drop (i + 1) = p2 at *
      generalize st.map (encP PyData.int) = X at *
      simp [sizeLine_eq, startE, argA, bxIx, back, newC, notBor, bxAt, restE, noBx, lstB, lstAt, isNoD, appendD, hz, sD, cA, cB1, e1, e2]) (List.range st.length) L (k6, none, none) ⟨by rw [List.length_range]; omega, fun i hi => List.mem_range.mp hi⟩
  refine ⟨a, b, c, ?_⟩
  have e : ∀ (r : List Nat) (L : List D), r.foldl (fun L i => L ++ [atF st i]) L = L ++ r.map (atF st) := by
    intro r
    induction r with
    | nil => intro L; simp
    | cons k r ih => intro L; rw [List.foldl_cons, ih, List.map_cons, List.append_assoc]; rfl
  rw [e, ← enum_map] at h1
  exact h1
/-- five of them -/
theorem ns_bent {bag : List D} (hb : BagOk bag) (k2 k3 k5 k6 k7 k8 : Option A) (d0 : D) (hbent : ∀ bag, BagOk bag → ∃ r bag', m_law_bent 6 [.box false (.lst bag), .dat d0, .dat (.int 3)] = some (r, [.box false (.lst bag'), .dat d0, .dat (.int 3)]) ∧ BagOk bag' ∧ BR 20 1000000 r) :
    ∃ (Q : List D) (bag' : List D), lcT (gnm 10) myes M__law_near_stocks_10 [10] (.items (rngD 0 5)) (nsE dt bag k2 k3 (some (.dat d0)) k5 k6 k7 k8) = some (.new (.lst Q), nsE dt bag' k2 k3 (some (.dat d0)) k5 k6 k7 k8) ∧ BagOk bag' ∧ (∀ d ∈ Q, G d) ∧ Q.length ≤ 5 := by
  have hr5 : (rngD 0 5).length = 5 := rfl
  let E : List D → Option D → En := fun bag j => [some (.box false (.lst bag)), some (.dat dt), k2, k3, some (.dat d0), k5, k6, k7, k8, none, sD j]
  obtain ⟨acc, ρ', h2, bag', j, h3, h4, rfl, h5⟩ := lcI_run (g := gnm 10) (t := myes) (m := M__law_near_stocks_10) (vs := [10]) (P := fun r acc ρ => ∃ (bag : List D) (j : Option D), BagOk bag ∧ (∀ d ∈ acc, G d) ∧ ρ = E bag j ∧ acc.length + r.length ≤ 5) (fun d r acc ρ hP => by
    obtain ⟨bag, j, hb, h2, rfl, h3⟩ := hP
    rw [List.length_cons] at h3
    obtain ⟨rr, bag', h4, h5, d', h6, h7⟩ := hbent bag hb
    refine ⟨acc ++ [d'], E bag' (some d), ?_, bag', some d, h5, fun y hy => (List.mem_append.mp hy).elim (h2 y) fun z => by rw [List.mem_singleton.mp z]; exact h7, rfl, by rw [List.length_append, List.length_singleton]; omega⟩
    refine turn_yes (ρ1 := E bag (some d)) (ρ2 := E bag (some d)) (ρ3 := E bag' (some d)) (y := rr) ?_ rfl ?_ ?_ ?_
    · cases j <;> simp [sizeLine_eq, startE, argA, bxIx, back, newC, notBor, bxAt, restE, noBx, lstB, lstAt, isNoD, E, sD]
    · simp [sizeLine_eq, startE, argA, bxIx, back, newC, notBor, bxAt, restE, noBx, lstB, lstAt, isNoD, E, sD, M__law_near_stocks_10, h4]
    · rcases h6 with rfl | ⟨l, rfl, rfl⟩ <;> simp [sizeLine_eq, startE, argA, bxIx, back, newC, notBor, bxAt, restE, noBx, lstB, lstAt, isNoD, E, sD]
    · rw [sizeLine_eq]; omega) (rngD 0 5) [] (E bag none) ⟨bag, none, hb, (fun d hd => by cases hd), rfl, by rw [hr5]; decide⟩
  refine ⟨acc, bag', ?_, h3, h4, by have : acc.length + 0 ≤ 5 := h5; omega⟩
  show lcE _ [10] (mlcI (gnm 10) myes M__law_near_stocks_10 [10] (rngD 0 5) [] _) = _
  have hw : wipeE (nsE dt bag k2 k3 (some (.dat d0)) k5 k6 k7 k8) [10] = E bag none := rfl
  rw [hw, h2]
  cases j <;> simp [sizeLine_eq, startE, argA, bxIx, back, newC, notBor, bxAt, restE, noBx, lstB, lstAt, isNoD, E, sD]
end
end K05

namespace K05
open PySem PySem.Spec PyProof.Rows L3
/-! values near stocks, all of them -/
theorem bent_nil {bag : List D} (hb : BagOk bag) (f : Nat) (k : Int) : ∃ d bag', m_law_bent (f + 1) [.box false (.lst bag), .dat (.tuple []), .dat (.int k)] = some (.dat d, [.box false (.lst bag'), .dat (.tuple []), .dat (.int k)]) ∧ BagOk bag' ∧ Tm 3 1000 d := by
  obtain ⟨d, bag', h1, h2, h3⟩ := odd_ok hb
  have he := eq_tnil (PlL.nil (n := 0) (w := 0)) (by decide)
  have hi := law_is_int_ok (.tuple [])
  refine ⟨d, bag', ?_, h2, h3⟩
  unfold m_law_bent b__law_bent
  simp [sizeLine_eq, startE, argA, bxIx, back, newC, notBor, bxAt, restE, noBx, lstB, lstAt, isNoD, he, hi, h1]
theorem pair_pl {k : Str} {n : Int} (hk : SOk k) (h0 : -2000 ≤ n) (h1 : n ≤ 2000) : Pl 1 10092 (prI n k) := pl_two hk (pl_int (i60 h0 h1))
theorem bent_pair {k : Str} {n : Int} (hk : SOk k) (h0 : -1000 ≤ n) (h1 : n ≤ 1000) (f : Nat) {bag : List D} (hb : BagOk bag) :
    ∃ r bag', m_law_bent (f + 2) [.box false (.lst bag), .dat (.tuple [.str k, .int n]), .dat (.int ((1 : Nat) + 1 : Int))] = some (r, [.box false (.lst bag'), .dat (.tuple [.str k, .int n]), .dat (.int ((1 : Nat) + 1 : Int))]) ∧ BagOk bag' ∧ BR 4 (2 * wX (.tuple [.str k, .int n]) + 2000) r := by
  have hp := PlL.cons (pl_str hk) (PlL.cons (pl_int (i60 (i := n) (by omega) (by omega))) (PlL.nil (n := 0) (w := 0)))
  have hp' : PlL 0 (wXL [.str k, .int n]) [.str k, .int n] := ⟨hp.1, Nat.le_refl _⟩
  obtain ⟨r, bag', h2, h3, h4⟩ := bent_tup hb hp' (by simp) (by decide) (Nat.le_trans hp.2 (by decide)) (f + 1) 1 (m := 3) (fun d hd bag hb => by
    simp only [List.mem_cons, List.not_mem_nil, or_false] at hd
    rcases hd with rfl | rfl
    · obtain ⟨d, bag', q1, q2, q3⟩ := leaf_str hb hk.1 (by have := hk.2; omega) f ((1 : Nat) : Int)
      exact ⟨_, bag', q1, q2, d, .inl rfl, q3.mono (Nat.le_refl _) (by show 10 * k.length + 1000 ≤ 2 * (10 * k.length + 2) + 2000; omega)⟩
    · obtain ⟨d, bag', q1, q2, q3⟩ := leaf_int hb h0 h1 f ((1 : Nat) : Int)
      exact ⟨_, bag', q1, q2, d, .inl rfl, q3.mono (Nat.le_refl _) (by show 1000 ≤ 2 * 61 + 2000; omega)⟩)
  refine ⟨r, bag', h2, h3, ?_⟩
  obtain ⟨d', e, t⟩ := h4
  exact ⟨d', e, t.mono (by decide) (by show 2 * (wXL [.str k, .int n] + 3) + 2000 ≤ 2 * (3 + wXL [.str k, .int n]) + 2000; omega)⟩
theorem stock_bent {st : St} (hst : ∀ p ∈ st, SOk p.1 ∧ -1000 ≤ p.2 ∧ p.2 ≤ 1000) (hl : st.length ≤ 20) {bag : List D} (hb : BagOk bag) :
    ∃ r bag', m_law_bent 6 [.box false (.lst bag), .dat (.tuple (st.map (encP PyData.int))), .dat (.int 3)] = some (r, [.box false (.lst bag'), .dat (.tuple (st.map (encP PyData.int))), .dat (.int 3)]) ∧ BagOk bag' ∧ BR 20 1000000 r := by
  cases st with
  | nil =>
    obtain ⟨d, bag', h1, h2, h3⟩ := bent_nil hb 5 3
    exact ⟨_, bag', h1, h2, d, .inl rfl, h3.mono (by decide) (by decide)⟩
  | cons p st =>
    have hp : PlL 1 403760 ((p :: st).map (encP PyData.int)) := g_pairs (fun d hd => by
      obtain ⟨q, hq, rfl⟩ := List.mem_map.mp hd
      obtain ⟨a, b, c⟩ := hst q hq
      exact pair_pl a (by omega) (by omega)) (by rw [List.length_map]; omega)
    obtain ⟨r, bag', h2, h3, d', e, t⟩ := bent_tup hb hp (by simp) (by decide) (by decide) 5 2 (m := 4) (fun d hd bag hb => by
      obtain ⟨q, hq, rfl⟩ := List.mem_map.mp hd
      obtain ⟨a, b, c⟩ := hst q hq
      exact bent_pair a b c 3 hb)
    exact ⟨r, bag', h2, h3, d', e, t.mono (by decide) (by decide)⟩
theorem dict_g {st : St} (hst : ∀ p ∈ st, SOk p.1 ∧ -1000 ≤ p.2 ∧ p.2 ≤ 1000) (hl : st.length ≤ 20) : G (.dict (dkv (dE PyData.int st))) := by
  have key : ∀ st : St, (∀ p ∈ st, SOk p.1 ∧ -1000 ≤ p.2 ∧ p.2 ≤ 1000) → okXK (dkv (dE PyData.int st)) = true ∧ noLsK (dkv (dE PyData.int st)) = true ∧ PyData.depthKv (dkv (dE PyData.int st)) = 0 ∧ wXK (dkv (dE PyData.int st)) ≤ st.length * 10087 := by
    intro st
    induction st with
    | nil => exact fun _ => ⟨rfl, rfl, rfl, Nat.zero_le _⟩
    | cons p r ih =>
      intro h
      obtain ⟨a, b, c, d⟩ := ih fun q hq => h q (List.mem_cons_of_mem _ hq)
      obtain ⟨e, f, g⟩ := h p List.mem_cons_self
      have s1 := pl_str e
      have s2 := pl_int (i60 (i := p.2) (by omega) (by omega))
      show okXK ((.str p.1, .int p.2) :: dkv (dE PyData.int r)) = true ∧ noLsK ((.str p.1, .int p.2) :: dkv (dE PyData.int r)) = true ∧ PyData.depthKv ((.str p.1, .int p.2) :: dkv (dE PyData.int r)) = 0 ∧ wXK ((.str p.1, .int p.2) :: dkv (dE PyData.int r)) ≤ (r.length + 1) * 10087
      have w1 := s1.wt
      have w2 := s2.wt
      refine ⟨by rw [okXK, s1.ok, s2.ok, a]; rfl, by rw [noLsK, s2.nl, b]; rfl, by rw [PyData.depthKv, c]; rfl, by rw [wXK, Nat.add_mul]; omega⟩
  obtain ⟨a, b, c, d⟩ := key st hst
  have : st.length * 10087 ≤ 20 * 10087 := Nat.mul_le_mul_right _ hl
  exact ⟨by rw [okX]; exact a, .inr (by rw [noLs]; exact b), by rw [PyData.depth, c]; decide, by rw [wX]; omega⟩
theorem decl_sok {ds : List Dc} (h : ∀ d ∈ ds, DOk d) : ∀ s ∈ declT ds, SOk s := by
  intro s hs
  unfold declT at hs
  rcases List.mem_append.mp hs with hs | hs
  · obtain ⟨d, hd, rfl⟩ := List.mem_map.mp hs
    exact (h d hd).1 _ (by cases d <;> exact List.mem_cons_self)
  · obtain ⟨d, hd, hs⟩ := List.mem_flatMap.mp hs
    refine (h d hd).1 _ ?_
    cases d with
    | choice n ps =>
      obtain ⟨p, hp, rfl⟩ := List.mem_map.mp (show s ∈ ps.map (·.1) from hs)
      exact List.mem_cons_of_mem _ (List.mem_flatMap.mpr ⟨p, hp, List.mem_cons_self⟩)
    | once n => cases hs
    | plain n => cases hs
    | record n ps => cases hs
    | given n ps g => cases hs
theorem ns_decl {bag : List D} (dt : D) (K : List Str) (k3 k4 k5 k6 k7 k8 : Option A) (N : List Str) (hN : N.length ≤ 1000) :
    lcT (gnm 9) T__law_near_stocks_9 M__law_near_stocks_9 [9] (.items (N.map PyData.str)) (nsE dt bag (some (.dat (.list (K.map PyData.str)))) k3 k4 k5 k6 k7 k8) = some (.new (.lst ((N.filter fun s => !decide (s ∈ K)).map fun s => .tuple [prI 1 s])), nsE dt bag (some (.dat (.list (K.map PyData.str)))) k3 k4 k5 k6 k7 k8) := by
  have := lc_pure (g := gnm 9) (t := T__law_near_stocks_9) (m := M__law_near_stocks_9) (vs := [9]) (ρ := nsE dt bag (some (.dat (.list (K.map PyData.str)))) k3 k4 k5 k6 k7 k8) PyData.str (fun s => if (!decide (s ∈ K)) = true then some (.tuple [prI 1 s]) else none) N (fun s _ => by
    refine ⟨[some (.box false (.lst bag)), some (.dat dt), some (.dat (.list (K.map PyData.str))), k3, k4, k5, k6, k7, k8, some (.dat (.str s)), none], !decide (s ∈ K), by simp [sizeLine_eq, startE, argA, bxIx, back, newC, notBor, bxAt, restE, noBx, lstB, lstAt, isNoD], by simp [sizeLine_eq, startE, argA, bxIx, back, newC, notBor, bxAt, restE, noBx, lstB, lstAt, isNoD], ?_, ?_⟩
    · simp [sizeLine_eq, startE, argA, bxIx, back, newC, notBor, bxAt, restE, noBx, lstB, lstAt, isNoD, T__law_near_stocks_9, notIn_strs]
    · by_cases hb : (!decide (s ∈ K)) = true
      · rw [if_pos hb]
        exact ⟨hb, by simp [sizeLine_eq, startE, argA, bxIx, back, newC, notBor, bxAt, restE, noBx, lstB, lstAt, isNoD, M__law_near_stocks_9, prI]⟩
      · rw [if_neg hb]
        exact Bool.eq_false_iff.mpr hb) (by rw [sizeLine_eq]; omega)
  rw [filt_map (fun s => !decide (s ∈ K)) (fun s => PyData.tuple [prI 1 s])] at this
  exact this
theorem near_ok {bag : List D} (hb : BagOk bag) {ds : List Dc} (hl : ds.length ≤ 18) (hw : Wf K0 ds) (hn : (ds.map Dc.name).Nodup) (hdo : ∀ d ∈ ds, DOk d) :
    ∃ (L : List D) (bag' : List D), m_law_near_stocks [.box false (.lst bag), .dat (.tuple (ds.map encDc))] = some (.new (.lst L), [.box false (.lst bag'), .dat (.tuple (ds.map encDc))]) ∧ BagOk bag' ∧ ∀ d ∈ L, G d := by
  have h1 := law_kinds_ok (x := .dat (.tuple (ds.map encDc))) (.inr (.inl rfl)) (by omega)
  have hkl := kd_len ds
  have c2 : cutL ((kindsT ds).map PyData.str) (some 2) none = (kdT ds).map PyData.str := cut2 (.str (Str.ofString "num")) (.str (Str.ofString "truth")) ((kdT ds).map PyData.str) (by rw [List.length_map]; omega)
  have hso := sorted_strs (kdT ds)
  have hKl : (sortS (kdT ds)).length ≤ 20 := by rw [(sortS_perm _).length_eq]; omega
  have hKm : ∀ k ∈ sortS (kdT ds), k ∈ kindsT ds := fun k hk => List.mem_append_right _ (mem_sort hk)
  have hKs : ∀ k ∈ sortS (kdT ds), SOk k := fun k hk => kinds_sok hw k (hKm k hk)
  have hnd : (sortS (kdT ds)).Nodup := by
    refine (sortS_perm _).nodup_iff.mpr ?_
    unfold kdT
    exact hn.sublist (List.Sublist.map _ List.filter_sublist)
  have hdc := law_declared_ok (x := .dat (.tuple (ds.map encDc))) (.inr (.inl rfl)) (by omega) hw.pairs
  have hdl := decl_len ds hw.pairs8
  have hds := decl_sok hdo
  generalize hdt : PyData.tuple (ds.map encDc) = dt at *
  have ho0 : ∀ k ∈ kindsT ds, m_law_is_once [.dat dt, .dat (.str k)] = some (.dat (.bool (onceT ds k)), [.dat dt, .dat (.str k)]) := fun k hk => by rw [← hdt]; exact law_once_ok (by omega) hw hk
  have ho : ∀ k ∈ sortS (kdT ds), m_law_is_once [.dat dt, .dat (.str k)] = some (.dat (.bool (onceT ds k)), [.dat dt, .dat (.str k)]) := fun k hk => ho0 k (hKm k hk)
  generalize sortS (kdT ds) = K at *
  generalize declT ds = N at *
  obtain ⟨S, bag1, s1, s2, s3⟩ := ns_some dt hb K hKl
  have hSl : S.length ≤ 20 := Nat.le_trans s3.length_le hKl
  obtain ⟨st, bag2, t1, t2, t3, t4⟩ := ns_stock dt s2 (some (.box true (.lst (K.map PyData.str)))) S hSl (onceT ds) (fun k hk => ho k (s3.subset hk))
  have hstl : st.length ≤ 20 := by
    have e : (keyT st).length = st.length := by unfold keyT; rw [List.length_map]
    rw [← e, t3]; exact hSl
  have hst : ∀ p ∈ st, SOk p.1 ∧ -1000 ≤ p.2 ∧ p.2 ≤ 1000 := fun p hp => by
    have h := t4 p hp
    refine ⟨hKs _ (s3.subset ?_), by omega, by omega⟩
    rw [← t3]
    exact List.mem_map_of_mem hp
  have hdict := dict_pairs PyData.int (st := st) (by rw [t3]; exact hnd.sublist s3)
  have hX : ∀ d ∈ st.map (encP PyData.int), Pl 1 10092 d := fun d hd => by
    obtain ⟨q, hq, rfl⟩ := List.mem_map.mp hd
    obtain ⟨a, b, c⟩ := hst q hq
    exact pair_pl a (by omega) (by omega)
  have hXl : (st.map (encP PyData.int)).length ≤ 20 := by rw [List.length_map]; exact hstl
  have hKp : ∀ n : Int, 0 ≤ n → n ≤ 2 → ∀ d ∈ K.map (prI n), Pl 1 10092 d := fun n hn0 hn d hd => by
    obtain ⟨k, hk, rfl⟩ := List.mem_map.mp hd
    exact pair_pl (hKs k hk) (by omega) (by omega)
  have hSp : ∀ d ∈ S.map (prI 0), Pl 1 10092 d := fun d hd => by
    obtain ⟨k, hk, rfl⟩ := List.mem_map.mp hd
    exact pair_pl (hKs k (s3.subset hk)) (by decide) (by decide)
  obtain ⟨p3, _⟩ := ns_pr dt (bag := bag2) 2 M__law_near_stocks_3 (fun k k2 k3 k4 k5 k7 k8 => by simp [sizeLine_eq, startE, argA, bxIx, back, newC, notBor, bxAt, restE, noBx, lstB, lstAt, isNoD, M__law_near_stocks_3, prI]) K hKl
  obtain ⟨p4, _⟩ := ns_pr dt (bag := bag2) 1 M__law_near_stocks_4 (fun k k2 k3 k4 k5 k7 k8 => by simp [sizeLine_eq, startE, argA, bxIx, back, newC, notBor, bxAt, restE, noBx, lstB, lstAt, isNoD, M__law_near_stocks_4, prI]) K hKl
  obtain ⟨_, p5⟩ := ns_pr dt (bag := bag2) 0 M__law_near_stocks_5 (fun k k2 k3 k4 k5 k7 k8 => by simp [sizeLine_eq, startE, argA, bxIx, back, newC, notBor, bxAt, restE, noBx, lstB, lstAt, isNoD, M__law_near_stocks_5, prI]) S hSl
  have aXX := addTu (st.map (encP PyData.int)) (st.map (encP PyData.int)) (by omega)
  have aXT := addTu (st.map (encP PyData.int)) [.tuple [.str (Str.ofString "~"), .int 1]] (by simp only [List.length_cons, List.length_nil]; omega)
  have sNum : SOk (Str.ofString "num") := by unfold SOk; decide +kernel
  have sZz : SOk (Str.ofString "zz") := by unfold SOk; decide +kernel
  have sT : SOk (Str.ofString "~") := by unfold SOk; decide +kernel
  -- the first six
  obtain ⟨L1, hL1⟩ : ∃ L1 : List D, L1 = [.tuple (st.map (encP PyData.int)), .list (st.map (encP PyData.int)), .tuple (st.map (encP PyData.int)).reverse, .tuple (st.map (encP PyData.int) ++ st.map (encP PyData.int)), .tuple (K.map (prI 2)), .tuple []] := ⟨_, rfl⟩
  have g1 : ∀ d ∈ L1, G d := by
    rw [hL1]
    intro d hd
    simp only [List.mem_cons, List.not_mem_nil, or_false] at hd
    rcases hd with rfl | rfl | rfl | rfl | rfl | rfl
    · exact g_tup hX (by omega)
    · exact g_lst hX (by omega)
    · exact g_tup (fun d hd => hX d (List.mem_reverse.mp hd)) (by rw [List.length_reverse]; omega)
    · exact g_tup (fun d hd => (List.mem_append.mp hd).elim (hX d) (hX d)) (by rw [List.length_append]; omega)
    · exact g_tup (hKp 2 (by decide) (by decide)) (by rw [List.length_map]; omega)
    · exact g_tup (fun d hd => by cases hd) (by decide)
  have l1 : L1.length = 6 := by rw [hL1]; rfl
  obtain ⟨L2, hL2⟩ : ∃ L2 : List D, L2 = L1 ++ [.tuple (K.map (prI 1)), .tuple [.tuple [.str (Str.ofString "num"), .int 1]], .tuple [.tuple [.str (Str.ofString "zz"), .int 1]], .tuple (st.map (encP PyData.int) ++ [.tuple [.str (Str.ofString "~"), .int 1]])] := ⟨_, rfl⟩
  have g2 : ∀ d ∈ L2, G d := by
    rw [hL2]
    intro d hd
    rcases List.mem_append.mp hd with hd | hd
    · exact g1 d hd
    simp only [List.mem_cons, List.not_mem_nil, or_false] at hd
    rcases hd with rfl | rfl | rfl | rfl
    · exact g_tup (hKp 1 (by decide) (by decide)) (by rw [List.length_map]; omega)
    · exact g_tup (fun d hd => by rw [List.mem_singleton.mp hd]; exact pair_pl sNum (n := 1) (by decide) (by decide)) (by decide)
    · exact g_tup (fun d hd => by rw [List.mem_singleton.mp hd]; exact pair_pl sZz (n := 1) (by decide) (by decide)) (by decide)
    · exact g_tup (fun d hd => (List.mem_append.mp hd).elim (hX d) fun z => by rw [List.mem_singleton.mp z]; exact pair_pl sT (n := 1) (by decide) (by decide)) (by rw [List.length_append]; simp only [List.length_cons, List.length_nil]; omega)
  have l2 : L2.length = 10 := by rw [hL2, List.length_append, l1]; rfl
  have aL1 := addL L1 [.tuple (K.map (prI 1)), .tuple [.tuple [.str (Str.ofString "num"), .int 1]], .tuple [.tuple [.str (Str.ofString "zz"), .int 1]], .tuple (st.map (encP PyData.int) ++ [.tuple [.str (Str.ofString "~"), .int 1]])] (by rw [l1]; simp only [List.length_cons, List.length_nil]; omega)
  rw [← hL2] at aL1
  obtain ⟨L3, hL3⟩ : ∃ L3 : List D, L3 = L2 ++ [.dict (dkv (dE PyData.int st))] := ⟨_, rfl⟩
  have g3 : ∀ d ∈ L3, G d := by
    rw [hL3]
    intro d hd
    rcases List.mem_append.mp hd with hd | hd
    · exact g2 d hd
    · rw [List.mem_singleton.mp hd]; exact dict_g hst hstl
  have l3 : L3.length = 11 := by rw [hL3, List.length_append, l2]; rfl
  have p6 := ns_bool dt (bag := bag2) (some (.box true (.lst (K.map PyData.str)))) (some (.box true (.lst (S.map PyData.str)))) (some (.box true (.lst L3))) st hstl
  obtain ⟨L4, hL4⟩ : ∃ L4 : List D, L4 = L3 ++ [.tuple (st.map fun p => .tuple [.str p.1, .bool (p.2 == 1)]), .tuple (S.map (prI 0))] := ⟨_, rfl⟩
  have g4 : ∀ d ∈ L4, G d := by
    rw [hL4]
    intro d hd
    rcases List.mem_append.mp hd with hd | hd
    · exact g3 d hd
    simp only [List.mem_cons, List.not_mem_nil, or_false] at hd
    rcases hd with rfl | rfl
    · exact g_tup (fun d hd => by
        obtain ⟨q, hq, rfl⟩ := List.mem_map.mp hd
        exact pl_two (hst q hq).1 pl_bool) (by rw [List.length_map]; omega)
    · exact g_tup hSp (by rw [List.length_map]; omega)
  have l4 : L4.length = 13 := by rw [hL4, List.length_append, l3]; rfl
  have aL3 := addL L3 [.tuple (st.map fun p => .tuple [.str p.1, .bool (p.2 == 1)]), .tuple (S.map (prI 0))] (by rw [l3]; simp only [List.length_cons, List.length_nil]; omega)
  rw [← hL4] at aL3
  obtain ⟨k6, q7⟩ := ns_loop7 dt (bag := bag2) (some (.dat (.list (K.map PyData.str)))) (some (.box true (.lst (S.map PyData.str)))) (some (.dat (.tuple (st.map (encP PyData.int))))) K hKl L4 (by omega)
  obtain ⟨L5, hL5⟩ : ∃ L5 : List D, L5 = L4 ++ K.map fun k => .tuple [prI 1 k, prI 2 k] := ⟨_, rfl⟩
  have g5 : ∀ d ∈ L5, G d := by
    rw [hL5]
    intro d hd
    rcases List.mem_append.mp hd with hd | hd
    · exact g4 d hd
    · obtain ⟨k, hk, rfl⟩ := List.mem_map.mp hd
      exact g_tup (fun d hd => by
        simp only [List.mem_cons, List.not_mem_nil, or_false] at hd
        rcases hd with rfl | rfl
        · exact pair_pl (hKs k hk) (by decide) (by decide)
        · exact pair_pl (hKs k hk) (by decide) (by decide)) (by simp only [List.length_cons, List.length_nil]; omega)
  have l5 : L5.length ≤ 33 := by rw [hL5, List.length_append, l4, List.length_map]; omega
  rw [← hL5] at q7
  obtain ⟨k6', k7, k8, q8⟩ := ns_loop8 dt (bag := bag2) (some (.dat (.list (K.map PyData.str)))) (some (.box true (.lst (S.map PyData.str)))) st hstl L5 (by omega) k6
  obtain ⟨L6, hL6⟩ : ∃ L6 : List D, L6 = L5 ++ (List.range st.length).map (atF st) := ⟨_, rfl⟩
  have g6 : ∀ d ∈ L6, G d := by
    rw [hL6]
    intro d hd
    rcases List.mem_append.mp hd with hd | hd
    · exact g5 d hd
    · obtain ⟨i, hi, rfl⟩ := List.mem_map.mp hd
      have hi := List.mem_range.mp hi
      have hm : st[i]?.getD ("", 0) ∈ st := by rw [List.getElem?_eq_getElem hi]; exact List.getElem_mem hi
      obtain ⟨a, b, c⟩ := hst _ hm
      exact g_tup (fun d hd => by
        rcases List.mem_append.mp hd with hd | hd
        · rcases List.mem_append.mp hd with hd | hd
          · exact hX d (List.mem_of_mem_take hd)
          · simp only [List.mem_cons, List.not_mem_nil, or_false] at hd
            rcases hd with rfl | rfl
            · exact pair_pl a (by omega) (by omega)
            · exact pair_pl a (by omega) (by omega)
        · exact hX d (List.mem_of_mem_drop hd)) (by
          rw [List.length_append, List.length_append, List.length_take, List.length_drop]
          simp only [List.length_cons, List.length_nil]
          omega)
  have l6 : L6.length ≤ 53 := by rw [hL6, List.length_append, List.length_map, List.length_range]; omega
  rw [← hL6] at q8
  have q9 := ns_decl (bag := bag2) dt K (some (.box true (.lst (S.map PyData.str)))) (some (.dat (.tuple (st.map (encP PyData.int))))) (some (.box true (.lst L6))) (sD k6') (sD k7) (sD k8) N (by omega)
  obtain ⟨L7, hL7⟩ : ∃ L7 : List D, L7 = L6 ++ (N.filter fun s => !decide (s ∈ K)).map fun s => .tuple [prI 1 s] := ⟨_, rfl⟩
  have g7 : ∀ d ∈ L7, G d := by
    rw [hL7]
    intro d hd
    rcases List.mem_append.mp hd with hd | hd
    · exact g6 d hd
    · obtain ⟨s, hs, rfl⟩ := List.mem_map.mp hd
      exact g_tup (fun d hd => by rw [List.mem_singleton.mp hd]; exact pair_pl (hds s (List.mem_filter.mp hs).1) (by decide) (by decide)) (by simp only [List.length_cons, List.length_nil]; omega)
  have hNl : ((N.filter fun s => !decide (s ∈ K)).map fun s => PyData.tuple [prI 1 s]).length ≤ 1000 := by
    rw [List.length_map]
    exact Nat.le_trans (List.length_filter_le _ _) (by omega)
  have l7 : L7.length ≤ 1053 := by rw [hL7, List.length_append]; omega
  have aL6 := addL L6 ((N.filter fun s => !decide (s ∈ K)).map fun s => PyData.tuple [prI 1 s]) (by omega)
  rw [← hL7] at aL6
  obtain ⟨Q, bag3, r1, r2, r3, r4⟩ := ns_bent dt t2 (some (.dat (.list (K.map PyData.str)))) (some (.box true (.lst (S.map PyData.str)))) (some (.box true (.lst L7))) (sD k6') (sD k7) (sD k8) (.tuple (st.map (encP PyData.int))) (fun bag hb => stock_bent hst hstl hb)
  obtain ⟨od, bag4, o1, o2, o3⟩ := odd_ok r2
  have aL7 := addL L7 Q (by omega)
  have aL8 := addL (L7 ++ Q) [od] (by rw [List.length_append, List.length_singleton]; omega)
  refine ⟨L7 ++ Q ++ [od], bag4, ?_, o2, fun d hd => ?_⟩
  rotate_left
  · rcases List.mem_append.mp hd with hd | hd
    · rcases List.mem_append.mp hd with hd | hd
      · exact g7 d hd
      · exact r3 d hd
    · rw [List.mem_singleton.mp hd]
      exact o3.mono (by decide) (by decide)
  generalize hNF : ((N.filter fun s => !decide (s ∈ K)).map fun s => PyData.tuple [prI 1 s]) = NF at *
  generalize (st.map fun p => (PyData.tuple [.str p.1, .bool (p.2 == 1)] : D)) = BX at *
  generalize hXX : st.map (encP PyData.int) = X at *
  generalize dE PyData.int st = dd at *
  have hz2 : L2.length < 16777216 := by omega
  unfold m_law_near_stocks b__law_near_stocks
  refine mdef_of (ρ' := nsE dt bag4 (some (.dat (.list (K.map PyData.str)))) (some (.box true (.lst (S.map PyData.str)))) (some (.dat (.tuple X))) (some (.box true (.lst L7))) (sD k6') (sD k7) (sD k8)) ?_ (by simp [sizeLine_eq, startE, argA, bxIx, back, newC, notBor, bxAt, restE, noBx, lstB, lstAt, isNoD])
  show mseq _ _ (nsE dt bag none none none none none none none) = _
  refine seq_nx (ρ' := nsE dt bag (some (.box true (.lst (K.map PyData.str)))) none none none none none none) (by simp [sizeLine_eq, startE, argA, bxIx, back, newC, notBor, bxAt, restE, noBx, lstB, lstAt, isNoD, h1, c2, hso]) ?_
  refine seq_nx (ρ' := nsE dt bag1 (some (.box true (.lst (K.map PyData.str)))) (some (.box true (.lst (S.map PyData.str)))) none none none none none) (by simp [sizeLine_eq, startE, argA, bxIx, back, newC, notBor, bxAt, restE, noBx, lstB, lstAt, isNoD, s1]) ?_
  refine seq_nx (ρ' := nsE dt bag2 (some (.box true (.lst (K.map PyData.str)))) (some (.box true (.lst (S.map PyData.str)))) (some (.dat (.tuple X))) none none none none) (by simp [sizeLine_eq, startE, argA, bxIx, back, newC, notBor, bxAt, restE, noBx, lstB, lstAt, isNoD, t1]) ?_
  refine seq_nx (ρ' := nsE dt bag2 (some (.box true (.lst (K.map PyData.str)))) (some (.box true (.lst (S.map PyData.str)))) (some (.dat (.tuple X))) (some (.box true (.lst L1))) none none none) (by rw [hL1]; simp [sizeLine_eq, startE, argA, bxIx, back, newC, notBor, bxAt, restE, noBx, lstB, lstAt, isNoD, aXX, p3]) ?_
  refine seq_nx (ρ' := nsE dt bag2 (some (.box true (.lst (K.map PyData.str)))) (some (.box true (.lst (S.map PyData.str)))) (some (.dat (.tuple X))) (some (.box true (.lst L2))) none none none) (by simp [sizeLine_eq, startE, argA, bxIx, back, newC, notBor, bxAt, restE, noBx, lstB, lstAt, isNoD, p4, aXT, aL1]) ?_
  refine seq_nx (ρ' := nsE dt bag2 (some (.box true (.lst (K.map PyData.str)))) (some (.box true (.lst (S.map PyData.str)))) (some (.dat (.tuple X))) (some (.box true (.lst L3))) none none none) (by rw [hL3]; simp [sizeLine_eq, startE, argA, bxIx, back, newC, notBor, bxAt, restE, noBx, lstB, lstAt, isNoD, hdict, appendD, hz2]) ?_
  refine seq_nx (ρ' := nsE dt bag2 (some (.box true (.lst (K.map PyData.str)))) (some (.box true (.lst (S.map PyData.str)))) (some (.dat (.tuple X))) (some (.box true (.lst L4))) none none none) (by simp [sizeLine_eq, startE, argA, bxIx, back, newC, notBor, bxAt, restE, noBx, lstB, lstAt, isNoD, p6, p5, aL3]) ?_
  refine seq_nx (ρ' := nsE dt bag2 (some (.dat (.list (K.map PyData.str)))) (some (.box true (.lst (S.map PyData.str)))) (some (.dat (.tuple X))) (some (.box true (.lst L5))) (sD k6) none none) (by simp [sizeLine_eq, startE, argA, bxIx, back, newC, notBor, bxAt, restE, noBx, lstB, lstAt, isNoD, q7]) ?_
  refine seq_nx (ρ' := nsE dt bag2 (some (.dat (.list (K.map PyData.str)))) (some (.box true (.lst (S.map PyData.str)))) (some (.dat (.tuple X))) (some (.box true (.lst L6))) (sD k6') (sD k7) (sD k8)) (by simp [sizeLine_eq, startE, argA, bxIx, back, newC, notBor, bxAt, restE, noBx, lstB, lstAt, isNoD, q8]) ?_
  refine seq_nx (ρ' := nsE dt bag2 (some (.dat (.list (K.map PyData.str)))) (some (.box true (.lst (S.map PyData.str)))) (some (.dat (.tuple X))) (some (.box true (.lst L7))) (sD k6') (sD k7) (sD k8)) (by simp [sizeLine_eq, startE, argA, bxIx, back, newC, notBor, bxAt, restE, noBx, lstB, lstAt, isNoD, hdc, q9, aL6]) ?_
  generalize L7 ++ Q ++ [od] = L9 at *
  generalize L7 ++ Q = L8 at *
  simp [sizeLine_eq, startE, argA, bxIx, back, newC, notBor, bxAt, restE, noBx, lstB, lstAt, isNoD, r1, aL7, o1, aL8]
end K05

namespace K05
open PySem PySem.Spec PyProof.Rows L3
/-! what == and repr may be asked of -/
structure Nd (n w : Nat) (d : D) : Prop where
  ok : okX d = true
  nd : d.hasDict = false
  dep : d.depth ≤ n
  wt : wX d ≤ w
theorem Nd.tm {n w : Nat} {d : D} (h : Nd n w d) : Tm n w d := ⟨h.ok, .inl h.nd, h.dep, h.wt⟩
theorem ndOf {n w : Nat} {d : D} (h : Pl n w d) : Nd n w d := ⟨h.ok, h.nd, h.dep, h.wt⟩
theorem Nd.shaped {n w : Nat} {d : D} (h : Nd n w d) (hn : n ≤ 64) : SeqAt.shaped d = true := by
  unfold SeqAt.shaped
  rw [okX_lay d h.ok h.nd, decide_eq_true (Nat.le_trans h.dep hn)]
  rfl
mutual
theorem eqvX_self : ∀ d : D, d.hasDict = false → PyData.eqv d d = true
  | .none, _ => by simp only [PyData.eqv]
  | .bool _, _ => by simp [PyData.eqv]
  | .int i, _ => by simp [PyData.eqv]
  | .str x, _ => by simp [PyData.eqv]
  | .list xs, h => by simp only [PyData.eqv]; exact eqvXL_self xs (by simpa only [PyData.hasDict] using h)
  | .tuple xs, h => by simp only [PyData.eqv]; exact eqvXL_self xs (by simpa only [PyData.hasDict] using h)
  | .dict _, h => by simp [PyData.hasDict] at h
theorem eqvXL_self : ∀ ds : List D, PyData.hasDictAll ds = false → PyData.eqvAll ds ds = true
  | [], _ => by simp only [PyData.eqvAll]
  | d :: ds, h => by
    have h' : d.hasDict = false ∧ PyData.hasDictAll ds = false := by simpa only [PyData.hasDictAll, Bool.or_eq_false_iff] using h
    simp only [PyData.eqvAll, eqvX_self d h'.1, eqvXL_self ds h'.2, Bool.and_self]
end
theorem eq_nd {n w m v : Nat} {d e : D} (h : Nd n w d) (h' : Nd m v e) (hn : n ≤ 64) (hm : m ≤ 64) : eqD d e = some (.dat (.bool (PyData.eqv d e))) ∧ neD d e = some (.dat (.bool (!PyData.eqv d e))) := by
  unfold eqD neD eqOk
  rw [h.shaped hn, h'.shaped hm, Bool.and_self, Bool.or_true, if_pos rfl, if_pos rfl]
  exact ⟨rfl, rfl⟩
/-- alike: the same twice -/
theorem alike_nd {n w : Nat} {d : D} (h : Nd n w d) (hn : n ≤ 64) (hw : w ≤ 16777216) {x y : A} (hx : x = .dat d ∨ ∃ l, d = .list l ∧ x = .box false (.lst l)) (hy : y = .dat d ∨ ∃ l, d = .list l ∧ y = .box false (.lst l)) : m_law_alike [x, y] = some (.dat (.bool true), [x, y]) := by
  have h1 := (eq_nd h h hn hn).1
  rw [eqvX_self d h.nd] at h1
  have h2 := h.tm.repr hn hw
  unfold m_law_alike b__law_alike
  rcases hx with rfl | ⟨l, rfl, rfl⟩
  · rcases hy with rfl | ⟨l, rfl, rfl⟩ <;> simp [sizeLine_eq, startE, argA, bxIx, back, newC, notBor, bxAt, restE, noBx, lstB, lstAt, isNoD, h1, h2]
  · rcases hy with rfl | ⟨l', e, rfl⟩
    · simp [sizeLine_eq, startE, argA, bxIx, back, newC, notBor, bxAt, restE, noBx, lstB, lstAt, isNoD, h1, h2]
    · cases e
      simp [sizeLine_eq, startE, argA, bxIx, back, newC, notBor, bxAt, restE, noBx, lstB, lstAt, isNoD, h1, h2]
theorem alike_bool (b : Bool) : m_law_alike [.dat (.bool b), .dat (.bool b)] = some (.dat (.bool true), [.dat (.bool b), .dat (.bool b)]) := by
  have h2 := (ndOf (pl_bool (b := b))).tm.repr (by decide) (by decide)
  unfold m_law_alike b__law_alike
  simp [sizeLine_eq, startE, argA, bxIx, back, newC, notBor, bxAt, restE, noBx, lstB, lstAt, isNoD, h2]
/-! declarations can be shown -/
theorem pl_none : Pl 0 10022 .none := ⟨rfl, rfl, rfl, Nat.le_refl _, by decide⟩
theorem pl_encO {o : Option Str} (h : ∀ k, o = some k → SOk k) : Pl 0 10022 (encO o) := by
  cases o with
  | none => exact pl_none
  | some k => exact pl_str (h k rfl)
theorem pl_pair {p : Str × Option Str} (h1 : SOk p.1) (h2 : ∀ k, p.2 = some k → SOk k) : Pl 1 20051 (encP encO p) :=
  (PlL.tup (PlL.cons (pl_str h1) (PlL.cons (pl_encO h2) (PlL.nil (n := 0) (w := 0))))).mono (Nat.le_refl _) (by decide)
theorem pl_pairs {ps : List (Str × Option Str)} (h : ∀ s ∈ (ps.flatMap fun p => p.1 :: p.2.toList), SOk s) (hl : ps.length < 8) : Pl 2 140374 (.tuple (ps.map (encP encO))) := by
  have h1 : PlL 1 ((ps.map (encP encO)).length * (20051 + 2)) (ps.map (encP encO)) := PlL.of_all fun d hd => by
    obtain ⟨p, hp, rfl⟩ := List.mem_map.mp hd
    exact pl_pair (h _ (List.mem_flatMap.mpr ⟨p, hp, List.mem_cons_self⟩)) fun k hk => h _ (List.mem_flatMap.mpr ⟨p, hp, List.mem_cons_of_mem _ (by rw [hk]; exact List.mem_cons_self)⟩)
  refine h1.tup.mono (Nat.le_refl _) ?_
  rw [List.length_map]
  have : ps.length * (20051 + 2) ≤ 7 * (20051 + 2) := Nat.mul_le_mul_right _ (by omega)
  omega
theorem pl_strs {l : List Str} (h : ∀ s ∈ l, SOk s) : PlL 0 (l.length * 10024) (l.map PyData.str) := by
  have := PlL.of_all (n := 0) (v := 10022) (ds := l.map PyData.str) fun d hd => by
    obtain ⟨s, hs, rfl⟩ := List.mem_map.mp hd
    exact pl_str (h s hs)
  rw [List.length_map] at this
  exact this
theorem word_sok (d : Dc) : SOk d.word := by cases d <;> (simp only [Dc.word]; unfold SOk; decide +kernel)
theorem pl_dc {d : Dc} (h : DOk d) (hp : d.pairs.length < 8) : Pl 3 180000 (encDc d) := by
  obtain ⟨h1, h2⟩ := h
  have hw := word_sok d
  cases d with
  | once n => exact (PlL.tup (PlL.cons (pl_str hw) (PlL.cons (pl_str (h1 n List.mem_cons_self)) (PlL.nil (n := 0) (w := 0))))).mono (by decide) (by decide)
  | plain n => exact (PlL.tup (PlL.cons (pl_str hw) (PlL.cons (pl_str (h1 n List.mem_cons_self)) (PlL.nil (n := 0) (w := 0))))).mono (by decide) (by decide)
  | record n ps =>
    have q := pl_pairs (ps := ps) (fun s hs => h1 s (List.mem_cons_of_mem _ hs)) hp
    exact (PlL.tup (PlL.cons ((pl_str hw).mono (Nat.zero_le 2) (Nat.le_refl _)) (PlL.cons ((pl_str (h1 n List.mem_cons_self)).mono (Nat.zero_le 2) (Nat.le_refl _)) (PlL.cons q (PlL.nil (n := 2) (w := 0)))))).mono (by decide) (by decide)
  | choice n ps =>
    have q := pl_pairs (ps := ps) (fun s hs => h1 s (List.mem_cons_of_mem _ hs)) hp
    exact (PlL.tup (PlL.cons ((pl_str hw).mono (Nat.zero_le 2) (Nat.le_refl _)) (PlL.cons ((pl_str (h1 n List.mem_cons_self)).mono (Nat.zero_le 2) (Nat.le_refl _)) (PlL.cons q (PlL.nil (n := 2) (w := 0)))))).mono (by decide) (by decide)
  | given n ps g =>
    have h2' : ps.length < 8 := h2
    have q := (pl_strs (l := ps) fun s hs => h1 s (List.mem_cons_of_mem _ (List.mem_cons_of_mem _ hs))).tup.mono (m := 1) (v := 140374) (Nat.le_refl _) (by omega)
    exact (PlL.tup (PlL.cons ((pl_str hw).mono (Nat.zero_le 1) (Nat.le_refl _)) (PlL.cons ((pl_str (h1 n List.mem_cons_self)).mono (Nat.zero_le 1) (Nat.le_refl _)) (PlL.cons q (PlL.cons ((pl_str (h1 g (List.mem_cons_of_mem _ List.mem_cons_self))).mono (Nat.zero_le 1) (Nat.le_refl _)) (PlL.nil (n := 1) (w := 0))))))).mono (by decide) (by decide)
theorem pl_dcs {ds : List Dc} (h : ∀ d ∈ ds, DOk d) (hp : ∀ d ∈ ds, d.pairs.length < 8) (hl : ds.length ≤ 18) : Nd 4 3300000 (.tuple (ds.map encDc)) := by
  have h1 : PlL 3 ((ds.map encDc).length * (180000 + 2)) (ds.map encDc) := PlL.of_all fun d hd => by
    obtain ⟨p, hq, rfl⟩ := List.mem_map.mp hd
    exact pl_dc (h p hq) (hp p hq)
  rw [List.length_map] at h1
  have h2 := Nat.mul_le_mul_right (180000 + 2) hl
  have h3 : ds.length * (180000 + 2) + 3 ≤ 3300000 := Nat.le_trans (Nat.add_le_add_right h2 3) (by decide)
  exact ndOf (h1.tup.mono (Nat.le_refl _) h3)
theorem flip_dok {d : Dc} (k : Str) (h : DOk d) : DOk (flipD k d) := by
  unfold flipD
  split
  · cases d <;> exact h
  · exact h
theorem turn_dok {ds : List Dc} (k : Str) (h : ∀ d ∈ ds, DOk d) : ∀ d ∈ turnT ds k, DOk d := fun d hd => by
  obtain ⟨e, he, rfl⟩ := List.mem_map.mp hd
  exact flip_dok k (h e he)
theorem eqv_point {α : Type} (f g : α → D) : ∀ {l : List α}, PyData.eqvAll (l.map f) (l.map g) = true → ∀ x ∈ l, PyData.eqv (f x) (g x) = true
  | [], _, x, hx => by cases hx
  | y :: r, h, x, hx => by
    rw [List.map_cons, List.map_cons, PyData.eqvAll, Bool.and_eq_true] at h
    rcases List.mem_cons.mp hx with rfl | hx
    · exact h.1
    · exact eqv_point f g h.2 x hx
theorem turn_ne {ds : List Dc} {d : Dc} (hd : d ∈ ds) (hp : isPO d = true) : PyData.eqv (.tuple ((turnT ds d.name).map encDc)) (.tuple (ds.map encDc)) = false := by
  apply Bool.eq_false_iff.mpr
  intro h
  rw [PyData.eqv] at h
  unfold turnT at h
  rw [List.map_map] at h
  have := eqv_point (encDc ∘ flipD d.name) encDc h d hd
  have hne : (Str.ofString "once" == Str.ofString "plain") = false := by decide +kernel
  have hne2 : (Str.ofString "plain" == Str.ofString "once") = false := by decide +kernel
  cases d with
  | once n => simp [flipD, encDc, Dc.word, Dc.name, Dc.rest, PyData.eqv, PyData.eqvAll, hne2] at this
  | plain n => simp [flipD, encDc, Dc.word, Dc.name, Dc.rest, PyData.eqv, PyData.eqvAll, hne] at this
  | record n ps => simp [isPO, Dc.isRC, Dc.isKd] at hp
  | choice n ps => simp [isPO, Dc.isRC, Dc.isKd] at hp
  | given n ps g => simp [isPO, Dc.isRC, Dc.isKd] at hp
end K05

namespace K05
open PySem PySem.Spec PyProof.Rows L3
def nbA : Option A → Bool
  | some (.box false _) => false
  | _ => true
theorem notBor_eq (ρ : En) (i : Nat) : notBor ρ i = (decide (i < ρ.length) && nbA ρ[i]?.join) := by
  unfold notBor nbA
  cases ρ[i]?.join with
  | none => rfl
  | some a => cases a with
    | dat d => rfl
    | box o b => cases o <;> rfl
theorem nb_none : nbA none = true := rfl
theorem nb_dat (d : D) : nbA (some (.dat d)) = true := rfl
theorem nb_own (b : Bx) : nbA (some (.box true b)) = true := rfl
/-! a kind declared the other way -/
theorem seq_nx' {a b : MS} {ρ ρ' : En} {r : Option (O × En)} (h : a ρ = some (.nx, ρ')) (h2 : b ρ' = r) : mseq a b ρ = r := seq_nx h h2
theorem w_po2 (d : Dc) : inD (.str d.word) (.tuple [.str (Str.ofString "once"), .str (Str.ofString "plain")]) = some (.dat (.bool (isPO d))) := by
  rw [in_op]
  refine congrArg (fun b => some (R.dat (.bool b))) ?_
  have a1 : decide (Str.ofString "once" ∈ [Str.ofString "once", Str.ofString "plain"]) = true := by decide +kernel
  have a2 : decide (Str.ofString "plain" ∈ [Str.ofString "once", Str.ofString "plain"]) = true := by decide +kernel
  have a3 : decide (Str.ofString "record" ∈ [Str.ofString "once", Str.ofString "plain"]) = false := by decide +kernel
  have a4 : decide (Str.ofString "choice" ∈ [Str.ofString "once", Str.ofString "plain"]) = false := by decide +kernel
  have a5 : decide (Str.ofString "given" ∈ [Str.ofString "once", Str.ofString "plain"]) = false := by decide +kernel
  cases d
  · exact a1
  · exact a2
  · exact a3
  · exact a4
  · exact a5
theorem neB (a b : Bool) : neD (.bool a) (.bool b) = some (.dat (.bool (!(a == b)))) := by simp
theorem lc_kinds {ρ : En} {m : ME} {t : MT} (ks : List Str) (q : Str → Bool) (hz : ks.length ≤ 1000) (g0 : ∀ k : Str, gnm 17 (.str k) (wipeE ρ [17]) = some (ρ.set 17 (some (.dat (.str k))))) (g1 : ∀ k : Str, wipeE (ρ.set 17 (some (.dat (.str k)))) [17] = wipeE ρ [17])
    (ht : ∀ k ∈ ks, t (ρ.set 17 (some (.dat (.str k)))) = some (q k, ρ.set 17 (some (.dat (.str k))))) (hm : ∀ k : Str, m (ρ.set 17 (some (.dat (.str k)))) = some (.dat (.str k), ρ.set 17 (some (.dat (.str k))))) :
    lcT (gnm 17) t m [17] (.items (ks.map PyData.str)) ρ = some (.new (.lst ((ks.filter q).map PyData.str)), ρ) := by
  have := lc_pure (g := gnm 17) (t := t) (m := m) (vs := [17]) (ρ := ρ) PyData.str (fun k => if q k = true then some (.str k) else none) ks (fun k hk => by
    refine ⟨ρ.set 17 (some (.dat (.str k))), q k, g0 k, g1 k, ht k hk, ?_⟩
    by_cases hb : q k = true
    · rw [if_pos hb]
      exact ⟨hb, hm k⟩
    · rw [if_neg hb]
      exact Bool.eq_false_iff.mpr hb) (by rw [sizeLine_eq]; omega)
  rw [filt_map q PyData.str] at this
  exact this
abbrev lE (sc dt : D) (bag : List D) (j2 : Option A) (ks : List D) (j5 j6 j7 j8 j9 j10 j11 j12 j13 j14 j15 j16 : Option A) : En := [some (.dat sc), some (.box true (.lst bag)), j2, some (.dat dt), some (.dat (.list ks)), j5, j6, j7, j8, j9, j10, j11, j12, j13, j14, j15, j16, none, none]
theorem strs_nd {l : List Str} (h : ∀ s ∈ l, SOk s) (hl : l.length ≤ 30) : Nd 1 301000 (.tuple (l.map PyData.str)) := by
  have h2 := Nat.mul_le_mul_right 10024 hl
  exact ndOf ((pl_strs h).tup.mono (Nat.le_refl _) (by omega))
theorem osT_sok {ds : List Dc} (hw : Wf K0 ds) (hn : (ds.map Dc.name).Nodup) : ∀ s ∈ osT ds, SOk s := fun s hs => by
  rw [osT_eq hn] at hs
  exact kinds_sok hw s (List.mem_append_right _ (List.mem_filter.mp (mem_sort hs)).1)
theorem plT_sok {ds : List Dc} (hw : Wf K0 ds) (hn : (ds.map Dc.name).Nodup) : ∀ s ∈ plT ds, SOk s := fun s hs => by
  unfold plT at hs
  have := mem_sort (List.mem_filter.mp hs).1
  rw [keys_kd hn] at this
  exact kinds_sok hw s (List.mem_append_right _ this)
theorem osT_len {ds : List Dc} (hn : (ds.map Dc.name).Nodup) : (osT ds).length ≤ ds.length := by
  rw [osT_eq hn, (sortS_perm _).length_eq]
  exact Nat.le_trans (List.length_filter_le _ _) (kd_len ds)
theorem plT_len {ds : List Dc} (hn : (ds.map Dc.name).Nodup) : (plT ds).length ≤ ds.length := by
  unfold plT
  refine Nat.le_trans (List.length_filter_le _ _) ?_
  rw [(sortS_perm _).length_eq, keys_kd hn]
  exact kd_len ds
theorem other_ok (sc : D) {ds : List Dc} (hl : ds.length ≤ 18) (hw : Wf K0 ds) (hn : (ds.map Dc.name).Nodup) (hdo : ∀ d ∈ ds, DOk d) {d : Dc} (hd : d ∈ ds) (hp : isPO d = true) (bag : List D) (j2 j5 j6 j7 j8 j9 j11 j12 j13 j14 j15 j16 : Option A)
    (n12 : nbA j12 = true) (n13 : nbA j13 = true) (n14 : nbA j14 = true) (n15 : nbA j15 = true) :
    ∃ i12 i13 i14 i15, L_law_9 (lE sc (.tuple (ds.map encDc)) bag j2 ((kindsT ds).map PyData.str) j5 j6 j7 j8 j9 (some (.dat (encDc d))) j11 j12 j13 j14 j15 j16) = some (.nx, lE sc (.tuple (ds.map encDc)) bag j2 ((kindsT ds).map PyData.str) j5 j6 j7 j8 j9 (some (.dat (encDc d))) j11 i12 i13 i14 i15 j16) ∧ nbA i12 = true ∧ nbA i13 = true ∧ nbA i14 = true ∧ nbA i15 = true := by
  have hT := turned_ok (ds := ds) (by omega) hn hd hp
  have hwT := turn_wf d.name hw
  have hnT : ((turnT ds d.name).map Dc.name).Nodup := by rw [turn_names]; exact hn
  have hlT : (turnT ds d.name).length = ds.length := by unfold turnT; rw [List.length_map]
  obtain ⟨j, hB⟩ := bounded_ok (x := .dat (.tuple ((turnT ds d.name).map encDc))) (.inr rfl) (by omega) hwT
  have hdoT := turn_dok d.name hdo
  have ndT := pl_dcs hdoT hwT.pairs8 (by omega)
  have ndB := pl_dcs (ds := (turnT ds d.name).take j) (fun e he => hdoT e (List.mem_of_mem_take he)) (hwT.take j).pairs8 (by rw [List.length_take]; omega)
  have ndD := pl_dcs hdo hw.pairs8 hl
  have hE := (eq_nd ndB ndT (by decide) (by decide)).1
  -- the other one
  obtain ⟨ot, hot, hsel⟩ : ∃ ot : List Dc, (ot = turnT ds d.name ∨ ot = ds) ∧ (if PyData.eqv (.tuple (((turnT ds d.name).take j).map encDc)) (.tuple ((turnT ds d.name).map encDc)) = true then (.tuple ((turnT ds d.name).map encDc) : D) else .tuple (ds.map encDc)) = .tuple (ot.map encDc) := by
    split
    · exact ⟨_, .inl rfl, rfl⟩
    · exact ⟨_, .inr rfl, rfl⟩
  have hwo : Wf K0 ot := by
    rcases hot with rfl | rfl
    · exact hwT
    · exact hw
  have hno : (ot.map Dc.name).Nodup := by
    rcases hot with rfl | rfl
    · exact hnT
    · exact hn
  have hlo : ot.length = ds.length := by
    rcases hot with rfl | rfl
    · exact hlT
    · exact rfl
  have hko : kindsT ds = kindsT ot := by
    rcases hot with rfl | rfl
    · unfold kindsT; rw [turn_kd]
    · rfl
  have ndO : Nd 4 3300000 (.tuple (ot.map encDc)) := by
    rcases hot with rfl | rfl
    · exact ndT
    · exact ndD
  have hne := (eq_nd ndO ndD (by decide) (by decide)).2
  have hoO : ∀ k, p_is_once [.dat (.tuple (ot.map encDc)), .dat (.str k)] = some (.dat (.bool (onceT ot k)), [.dat (.tuple (ot.map encDc)), .dat (.str k)]) := fun k => is_once_ok (by omega) hwo k
  have hoD : ∀ k, p_is_once [.dat (.tuple (ds.map encDc)), .dat (.str k)] = some (.dat (.bool (onceT ds k)), [.dat (.tuple (ds.map encDc)), .dat (.str k)]) := fun k => is_once_ok (by omega) hw k
  have hlw : ∀ k ∈ kindsT ds, m_law_is_once [.dat (.tuple (ot.map encDc)), .dat (.str k)] = some (.dat (.bool (onceT ot k)), [.dat (.tuple (ot.map encDc)), .dat (.str k)]) := fun k hk => law_once_ok (by omega) hwo (by rw [← hko]; exact hk)
  have hH := holding_ok (ds := ds) (by omega) hw d.name
  have hOK := once_kinds_ok (ds := ot) (by omega) hwo.pairs
  have hosk := osT_kinds hwo hno hko
  have hss := sorted_strs ((kindsT ds).filter (onceT ot))
  rw [hosk] at hss
  have hal := alike_nd (strs_nd (osT_sok hwo hno) (by have := osT_len hno; omega)) (by decide) (by decide) (x := .dat (.tuple ((osT ot).map PyData.str))) (y := .dat (.tuple ((osT ot).map PyData.str))) (.inl rfl) (.inl rfl)
  have hkz : (kindsT ds).length ≤ 1000 := by
    have := kd_len ds
    unfold kindsT
    simp only [List.length_append, List.length_cons, List.length_nil]
    omega
  have hnk : d.name ∈ kindsT ds := by
    refine List.mem_append_right _ (List.mem_map.mpr ⟨d, List.mem_filter.mpr ⟨hd, ?_⟩, rfl⟩)
    unfold isPO at hp
    rw [Bool.and_eq_true] at hp
    exact hp.1
  -- what changed
  have hchk : decide (d.name ∈ (kindsT ds).filter fun k => !(onceT ds k == onceT ot k)) = !PyData.eqv (.tuple (ot.map encDc)) (.tuple (ds.map encDc)) := by
    rcases hot with rfl | rfl
    · rw [turn_ne hd hp]
      have := turn_differs hn hd hp
      rw [decide_eq_true]
      · rfl
      · exact List.mem_filter.mpr ⟨hnk, by simpa using this⟩
    · rw [eqvX_self _ ndO.nd]
      simp
  have hnil : (((kindsT ds).filter fun k => !(onceT ds k == onceT ot k)).filter fun k => !decide (k ∈ holdT ds d.name)) = [] := by
    rw [List.filter_eq_nil_iff]
    intro k hk
    have hk2 := (List.mem_filter.mp hk).2
    rcases hot with rfl | rfl
    · have : k ∈ holdT ds d.name := hold_all ds d.name k (by simpa using hk2)
      simp [this]
    · simp at hk2
  have N0 : neD (.list []) (.list []) = some (.dat (.bool false)) := by
    have := ne_nil (ds := []) rfl (fun _ m => nomatch m)
    simpa using this
  have i1 := ix1 d
  -- the four comprehensions
  generalize hdt : PyData.tuple (ds.map encDc) = dt at *
  generalize hod : PyData.tuple (ot.map encDc) = od at *
  generalize hC : ((kindsT ds).filter fun k => !(onceT ds k == onceT ot k)) = C at *
  have hCz : C.length ≤ 1000 := by rw [← hC]; exact Nat.le_trans (List.length_filter_le _ _) hkz
  have c6 := lc_kinds (ρ := lE sc dt bag j2 ((kindsT ds).map PyData.str) j5 j6 j7 j8 j9 (some (.dat (encDc d))) j11 (some (.dat od)) j13 j14 j15 j16) (t := T_law_6) (m := M_law_6) (kindsT ds) (fun k => !(onceT ds k == onceT ot k)) hkz (fun k => by simp [sizeLine_eq, startE, argA, bxIx, back, newC, notBor, bxAt, restE, noBx, lstB, lstAt, isNoD]) (fun k => by simp [sizeLine_eq, startE, argA, bxIx, back, newC, notBor, bxAt, restE, noBx, lstB, lstAt, isNoD]) (fun k _ => by
    unfold T_law_6
    have a := hoD k
    have b := hoO k
    simp [sizeLine_eq, startE, argA, bxIx, back, newC, notBor, bxAt, restE, noBx, lstB, lstAt, isNoD, a, b]) (fun k => by unfold M_law_6; simp [sizeLine_eq, startE, argA, bxIx, back, newC, notBor, bxAt, restE, noBx, lstB, lstAt, isNoD])
  rw [hC] at c6
  have c7 := lcS_pure (i := 13) (g := gnm 17) (t := T_law_7) (m := M_law_7) (vs := [17]) (ρ := lE sc dt bag j2 ((kindsT ds).map PyData.str) j5 j6 j7 j8 j9 (some (.dat (encDc d))) j11 (some (.dat od)) (some (.box true (.lst (C.map PyData.str)))) (some (.box true (.lst ((holdT ds d.name).map PyData.str)))) j15 j16) PyData.str (fun k => if (!decide (k ∈ holdT ds d.name)) = true then some (.str k) else none) C (by decide) rfl (fun k _ => by
    refine ⟨(lE sc dt bag j2 ((kindsT ds).map PyData.str) j5 j6 j7 j8 j9 (some (.dat (encDc d))) j11 (some (.dat od)) (some (.box true (.lst (C.map PyData.str)))) (some (.box true (.lst ((holdT ds d.name).map PyData.str)))) j15 j16).set 17 (some (.dat (.str k))), !decide (k ∈ holdT ds d.name), by simp [sizeLine_eq, startE, argA, bxIx, back, newC, notBor, bxAt, restE, noBx, lstB, lstAt, isNoD], by simp [sizeLine_eq, startE, argA, bxIx, back, newC, notBor, bxAt, restE, noBx, lstB, lstAt, isNoD], ?_, ?_⟩
    · unfold T_law_7
      simp [sizeLine_eq, startE, argA, bxIx, back, newC, notBor, bxAt, restE, noBx, lstB, lstAt, isNoD, notIn_strs]
    · by_cases hb : (!decide (k ∈ holdT ds d.name)) = true
      · rw [if_pos hb]
        exact ⟨hb, by unfold M_law_7; simp [sizeLine_eq, startE, argA, bxIx, back, newC, notBor, bxAt, restE, noBx, lstB, lstAt, isNoD]⟩
      · rw [if_neg hb]
        exact Bool.eq_false_iff.mpr hb) (by rw [sizeLine_eq]; omega)
  rw [filt_map (fun k => !decide (k ∈ holdT ds d.name)) PyData.str, hnil, List.map_nil] at c7
  have c8 := lc_kinds (ρ := lE sc dt bag j2 ((kindsT ds).map PyData.str) j5 j6 j7 j8 j9 (some (.dat (encDc d))) j11 (some (.dat od)) (some (.box true (.lst (C.map PyData.str)))) (some (.box true (.lst ((holdT ds d.name).map PyData.str)))) j15 j16) (t := T_law_8) (m := M_law_8) (kindsT ds) (onceT ot) hkz (fun k => by simp [sizeLine_eq, startE, argA, bxIx, back, newC, notBor, bxAt, restE, noBx, lstB, lstAt, isNoD]) (fun k => by simp [sizeLine_eq, startE, argA, bxIx, back, newC, notBor, bxAt, restE, noBx, lstB, lstAt, isNoD]) (fun k hk => by
    unfold T_law_8
    have a := hlw k hk
    simp [sizeLine_eq, startE, argA, bxIx, back, newC, notBor, bxAt, restE, noBx, lstB, lstAt, isNoD, a]) (fun k => by unfold M_law_8; simp [sizeLine_eq, startE, argA, bxIx, back, newC, notBor, bxAt, restE, noBx, lstB, lstAt, isNoD])
  have hin := in_strs d.name C
  rw [hchk] at hin
  have hself := neB (!PyData.eqv od dt) (!PyData.eqv od dt)
  rw [beq_self_eq_true] at hself
  generalize hX : (turnT ds d.name).map encDc = TT at *
  generalize hY : ((turnT ds d.name).take j).map encDc = TJ at *
  generalize ((kindsT ds).filter (onceT ot)).map PyData.str = F8 at *
  generalize (osT ot).map PyData.str = OS at *
  refine ⟨some (.dat od), some (.box true (.lst (C.map PyData.str))), some (.box true (.lst ((holdT ds d.name).map PyData.str))), some (.dat (.tuple OS)), ?_, rfl, rfl, rfl, rfl⟩
  unfold L_law_9
  refine seq_nx (ρ' := lE sc dt bag j2 ((kindsT ds).map PyData.str) j5 j6 j7 j8 j9 (some (.dat (encDc d))) j11 (some (.dat (.tuple TT))) j13 j14 j15 j16) (by simp [sizeLine_eq, startE, argA, bxIx, back, newC, bxAt, restE, noBx, lstB, lstAt, isNoD, notBor_eq, nb_none, nb_dat, nb_own, i1, hT, n12]) ?_
  refine seq_nx (ρ' := lE sc dt bag j2 ((kindsT ds).map PyData.str) j5 j6 j7 j8 j9 (some (.dat (encDc d))) j11 (some (.dat od)) j13 j14 j15 j16) (by
    rw [← hsel]
    cases hq : PyData.eqv (.tuple TJ) (.tuple TT) <;> rw [hq] at hE <;> simp [sizeLine_eq, startE, argA, bxIx, back, newC, bxAt, restE, noBx, lstB, lstAt, isNoD, notBor_eq, nb_none, nb_dat, nb_own, hB, hE]) ?_
  refine seq_nx (ρ' := lE sc dt bag j2 ((kindsT ds).map PyData.str) j5 j6 j7 j8 j9 (some (.dat (encDc d))) j11 (some (.dat od)) (some (.box true (.lst (C.map PyData.str)))) j14 j15 j16) (by simp [sizeLine_eq, startE, argA, bxIx, back, newC, bxAt, restE, noBx, lstB, lstAt, isNoD, notBor_eq, nb_none, nb_dat, nb_own, c6, n13]) ?_
  refine seq_nx (ρ' := lE sc dt bag j2 ((kindsT ds).map PyData.str) j5 j6 j7 j8 j9 (some (.dat (encDc d))) j11 (some (.dat od)) (some (.box true (.lst (C.map PyData.str)))) (some (.box true (.lst ((holdT ds d.name).map PyData.str)))) j15 j16) (by simp [sizeLine_eq, startE, argA, bxIx, back, newC, bxAt, restE, noBx, lstB, lstAt, isNoD, notBor_eq, nb_none, nb_dat, nb_own, i1, hH, n14]) ?_
  refine seq_nx (ρ' := lE sc dt bag j2 ((kindsT ds).map PyData.str) j5 j6 j7 j8 j9 (some (.dat (encDc d))) j11 (some (.dat od)) (some (.box true (.lst (C.map PyData.str)))) (some (.box true (.lst ((holdT ds d.name).map PyData.str)))) j15 j16) (by simp [sizeLine_eq, startE, argA, bxIx, back, newC, bxAt, restE, noBx, lstB, lstAt, isNoD, notBor_eq, nb_none, nb_dat, nb_own, c7, N0]) ?_
  refine seq_nx (ρ' := lE sc dt bag j2 ((kindsT ds).map PyData.str) j5 j6 j7 j8 j9 (some (.dat (encDc d))) j11 (some (.dat od)) (some (.box true (.lst (C.map PyData.str)))) (some (.box true (.lst ((holdT ds d.name).map PyData.str)))) j15 j16) (by simp [sizeLine_eq, startE, argA, bxIx, back, newC, bxAt, restE, noBx, lstB, lstAt, isNoD, notBor_eq, nb_none, nb_dat, nb_own, i1, hin, hne]) ?_
  refine seq_nx (ρ' := lE sc dt bag j2 ((kindsT ds).map PyData.str) j5 j6 j7 j8 j9 (some (.dat (encDc d))) j11 (some (.dat od)) (some (.box true (.lst (C.map PyData.str)))) (some (.box true (.lst ((holdT ds d.name).map PyData.str)))) (some (.dat (.tuple OS))) j16) (by simp [sizeLine_eq, startE, argA, bxIx, back, newC, bxAt, restE, noBx, lstB, lstAt, isNoD, notBor_eq, nb_none, nb_dat, nb_own, c8, hss, n15]) ?_
  simp [sizeLine_eq, startE, argA, bxIx, back, newC, bxAt, restE, noBx, lstB, lstAt, isNoD, notBor_eq, nb_none, nb_dat, nb_own, hOK, hal]
end K05

namespace K05
open PySem PySem.Spec PyProof.Rows L3
/-! a value is asked of -/
theorem thing_ok (sc : D) {ds : List Dc} (hl : ds.length ≤ 18) (hw : Wf K0 ds) (hn : (ds.map Dc.name).Nodup) {d : D} (hd : G d) (bag : List D) (j2 : Option A) (ks : List D) (j5 j6 j7 j8 j9 j10 j12 j13 j14 j15 j16 : Option A) (n16 : nbA j16 = true) :
    L_law_10 (lE sc (.tuple (ds.map encDc)) bag j2 ks j5 j6 j7 j8 j9 j10 (some (.dat d)) j12 j13 j14 j15 j16) = some (.nx, lE sc (.tuple (ds.map encDc)) bag j2 ks j5 j6 j7 j8 j9 j10 (some (.dat d)) j12 j13 j14 j15 (some (.dat (.str d.shown)))) := by
  have hz : ∀ xs, d = .tuple xs → xs.length ≤ 1000000 := fun xs e => by
    have h1 := hd.wt
    rw [e, wX] at h1
    have h2 := len_wX xs
    omega
  have h1 := is_stock_ok (ds := ds) (by omega) hw d hz
  have h2 := law_is_stock_ok (ds := ds) (by omega) hw hn d hz
  have h3 := alike_bool (stockB (tabP ds) d)
  have h4 := hd.repr (by decide) (by decide)
  generalize PyData.tuple (ds.map encDc) = dt at *
  generalize stockB (tabP ds) d = b at *
  generalize d.shown = s at *
  unfold L_law_10
  refine seq_nx (ρ' := lE sc dt bag j2 ks j5 j6 j7 j8 j9 j10 (some (.dat d)) j12 j13 j14 j15 (some (.dat (.str s)))) (by simp [sizeLine_eq, startE, argA, bxIx, back, newC, bxAt, restE, noBx, lstB, lstAt, isNoD, notBor_eq, nb_none, nb_dat, nb_own, h4, n16]) ?_
  simp [sizeLine_eq, startE, argA, bxIx, back, newC, bxAt, restE, noBx, lstB, lstAt, isNoD, notBor_eq, nb_none, nb_dat, nb_own, h1, h2, h3, h4]
theorem zip_same (ks : List Str) (o : Str → Bool) : zipD (ks.map PyData.str) ((ks.map fun k => PyData.bool (o k))) = ks.map fun k => .tuple [.str k, .bool (o k)] := by
  unfold zipD
  induction ks with
  | nil => rfl
  | cons k r ih => rw [List.map_cons, List.map_cons, List.map_cons, List.zipWith_cons_cons, ih]
theorem told_nd {bs : List D} {a b : D} (hb : Nd 1 5000 (.list bs)) (h1 : Nd 1 301000 a) (h2 : Nd 1 301000 b) : Nd 2 700000 (.list [.list bs, a, b]) := by
  refine ⟨by rw [okX, okXL, okXL, okXL, okXL, hb.ok, h1.ok, h2.ok]; rfl, by rw [PyData.hasDict, PyData.hasDictAll, PyData.hasDictAll, PyData.hasDictAll, PyData.hasDictAll, hb.nd, h1.nd, h2.nd]; rfl, ?_, ?_⟩
  · have a1 := hb.dep
    have a2 := h1.dep
    have a3 := h2.dep
    rw [PyData.depth, PyData.depthAll, PyData.depthAll, PyData.depthAll, PyData.depthAll]
    omega
  · have a1 := hb.wt
    have a2 := h1.wt
    have a3 := h2.wt
    rw [wX, wXL, wXL, wXL, wXL]
    omega
theorem bools_nd {l : List Str} (o : Str → Bool) (hl : l.length ≤ 30) : Nd 1 5000 (.list (l.map fun k => PyData.bool (o k))) := by
  have h := PlL.of_all (n := 0) (v := 61) (ds := l.map fun k => PyData.bool (o k)) fun d hd => by
    obtain ⟨k, _, rfl⟩ := List.mem_map.mp hd
    exact pl_bool
  rw [List.length_map] at h
  have h2 : l.length * 63 ≤ 30 * 63 := Nat.mul_le_mul_right 63 hl
  obtain ⟨⟨t1, t2, t3, t4⟩, t5⟩ := h
  exact ⟨by rw [okX]; exact t1, by rw [PyData.hasDict]; exact t2, by rw [PyData.depth]; omega, by rw [wX]; omega⟩
abbrev gE (sc : D) (bag : List D) (j2 j3 j4 j5 j6 j7 j8 j9 j10 j11 j12 j13 j14 j15 j16 : Option A) : En := [some (.dat sc), some (.box true (.lst bag)), j2, j3, j4, j5, j6, j7, j8, j9, j10, j11, j12, j13, j14, j15, j16, none, none]
def LaOk (sc : D) (ρ : En) : Prop := ∃ (bag : List D) (j2 j3 j4 j5 j6 j7 j8 j9 j11 j12 j13 j14 j15 j16 : Option A) (o10 : Option D), ρ = gE sc bag j2 j3 j4 j5 j6 j7 j8 j9 (sD o10) j11 j12 j13 j14 j15 j16 ∧ BagOk bag ∧ nbA j2 = true ∧ nbA j3 = true ∧ nbA j4 = true ∧ nbA j5 = true ∧ nbA j6 = true ∧ nbA j7 = true ∧ nbA j8 = true ∧ nbA j9 = true ∧ nbA j11 = true ∧ nbA j12 = true ∧ nbA j13 = true ∧ nbA j14 = true ∧ nbA j15 = true ∧ nbA j16 = true
theorem nb_sD (o : Option D) : nbA (sD o) = true := by cases o <;> rfl
theorem round_ok (sc : D) {ρ : En} (h : LaOk sc ρ) : ∃ ρ', L_law_11 ρ = some (.nx, ρ') ∧ LaOk sc ρ' := by
  obtain ⟨bag, j2, j3, j4, j5, j6, j7, j8, j9, j11, j12, j13, j14, j15, j16, o10, rfl, hb, n2, n3, n4, n5, n6, n7, n8, n9, n11, n12, n13, n14, n15, n16⟩ := h
  obtain ⟨mo, bag1, r1, r2, r3, r4, _⟩ := some_nums hb (l := [.int 10, .int 14, .int 6, .int 18]) (B := 18) (by simp) (by simp) (by
    intro d hd
    simp only [List.mem_cons, List.not_mem_nil, or_false] at hd
    rcases hd with rfl | rfl | rfl | rfl
    · exact ⟨10, rfl, by decide, by decide⟩
    · exact ⟨14, rfl, by decide, by decide⟩
    · exact ⟨6, rfl, by decide, by decide⟩
    · exact ⟨18, rfl, by decide, by decide⟩)
  obtain ⟨ds, bag2, l1, l2, hl, hw, hn, hdo⟩ := library_ok r2 r3 r4
  have hk := law_kinds_ok (x := .dat (.tuple (ds.map encDc))) (ds := ds) (.inr (.inl rfl)) (by omega)
  have ndD := pl_dcs hdo hw.pairs8 hl
  have hsaid := ndD.tm.repr (by decide) (by decide)
  have hkd := kd_len ds
  have hkz : (kindsT ds).length ≤ 20 := by
    unfold kindsT
    simp only [List.length_append, List.length_cons, List.length_nil]
    omega
  have hlo : ∀ k ∈ kindsT ds, m_law_is_once [.dat (.tuple (ds.map encDc)), .dat (.str k)] = some (.dat (.bool (onceT ds k)), [.dat (.tuple (ds.map encDc)), .dat (.str k)]) := fun k hk => law_once_ok (by omega) hw hk
  have hpo : ∀ k, p_is_once [.dat (.tuple (ds.map encDc)), .dat (.str k)] = some (.dat (.bool (onceT ds k)), [.dat (.tuple (ds.map encDc)), .dat (.str k)]) := fun k => is_once_ok (by omega) hw k
  have hOK := once_kinds_ok (ds := ds) (by omega) hw.pairs
  have hPK := plain_kinds_ok (ds := ds) (by omega) hw.pairs
  have hs1 := sorted_strs ((kindsT ds).filter (onceT ds))
  rw [osT_kinds hw hn rfl] at hs1
  have hs2 := sorted_strs ((kdT ds).filter fun k => !decide (k ∈ osT ds))
  rw [plT_eq hn] at hs2
  have c2 : cutL ((kindsT ds).map PyData.str) (some 2) none = (kdT ds).map PyData.str := cut2 (.str (Str.ofString "num")) (.str (Str.ofString "truth")) ((kdT ds).map PyData.str) (by rw [List.length_map]; omega)
  have ndT := told_nd (bools_nd (onceT ds) (l := kindsT ds) (by omega)) (strs_nd (osT_sok hw hn) (by have := osT_len hn; omega)) (strs_nd (plT_sok hw hn) (by have := plT_len hn; omega))
  have hal := alike_nd ndT (by decide) (by decide) (x := .box false (.lst [.list ((kindsT ds).map fun k => PyData.bool (onceT ds k)), .tuple ((osT ds).map PyData.str), .tuple ((plT ds).map PyData.str)])) (y := .dat (.list [.list ((kindsT ds).map fun k => PyData.bool (onceT ds k)), .tuple ((osT ds).map PyData.str), .tuple ((plT ds).map PyData.str)])) (.inr ⟨_, rfl, rfl⟩) (.inl rfl)
  obtain ⟨L, bag3, e1, e2, e3⟩ := near_ok l2 hl hw hn hdo
  -- comprehensions
  have q1 : lcT (gnm 17) myes M_law_1 [17] (.slot 4 ((kindsT ds).map PyData.str)) (gE sc bag2 j2 (some (.dat (.tuple (ds.map encDc)))) (some (.box true (.lst ((kindsT ds).map PyData.str)))) (some (.dat (.str (PyData.shown (.tuple (ds.map encDc)))))) j6 j7 j8 j9 (sD o10) j11 j12 j13 j14 j15 j16) = some (.new (.lst ((kindsT ds).map fun k => PyData.bool (onceT ds k))), gE sc bag2 j2 (some (.dat (.tuple (ds.map encDc)))) (some (.box true (.lst ((kindsT ds).map PyData.str)))) (some (.dat (.str (PyData.shown (.tuple (ds.map encDc)))))) j6 j7 j8 j9 (sD o10) j11 j12 j13 j14 j15 j16) := by
    have := lcS_pure (i := 4) (g := gnm 17) (t := myes) (m := M_law_1) (vs := [17]) (ρ := gE sc bag2 j2 (some (.dat (.tuple (ds.map encDc)))) (some (.box true (.lst ((kindsT ds).map PyData.str)))) (some (.dat (.str (PyData.shown (.tuple (ds.map encDc)))))) j6 j7 j8 j9 (sD o10) j11 j12 j13 j14 j15 j16) PyData.str (fun k => some (.bool (onceT ds k))) (kindsT ds) (by decide) rfl (fun k hkm => by
      have a := hlo k hkm
      exact ⟨(gE sc bag2 j2 (some (.dat (.tuple (ds.map encDc)))) (some (.box true (.lst ((kindsT ds).map PyData.str)))) (some (.dat (.str (PyData.shown (.tuple (ds.map encDc)))))) j6 j7 j8 j9 (sD o10) j11 j12 j13 j14 j15 j16).set 17 (some (.dat (.str k))), true, by simp [sizeLine_eq, startE, argA, bxIx, back, newC, notBor, bxAt, restE, noBx, lstB, lstAt, isNoD], by simp [sizeLine_eq, startE, argA, bxIx, back, newC, notBor, bxAt, restE, noBx, lstB, lstAt, isNoD], rfl, rfl, by simp [sizeLine_eq, startE, argA, bxIx, back, newC, notBor, bxAt, restE, noBx, lstB, lstAt, isNoD, M_law_1, a]⟩) (by rw [sizeLine_eq]; omega)
    rw [filt_some] at this
    exact this
  generalize hdt : PyData.tuple (ds.map encDc) = dt at *
  generalize hsd : PyData.shown dt = sd at *
  have q2 : lcT (gtup [17, 18]) T_law_2 M_law_2 [17, 18] (.items ((kindsT ds).map fun k => .tuple [.str k, .bool (onceT ds k)])) (lE sc dt bag2 j2 ((kindsT ds).map PyData.str) (some (.dat (.str sd))) (some (.dat (.list ((kindsT ds).map fun k => PyData.bool (onceT ds k))))) j7 j8 j9 (sD o10) j11 j12 j13 j14 j15 j16) = some (.new (.lst (((kindsT ds).filter (onceT ds)).map PyData.str)), lE sc dt bag2 j2 ((kindsT ds).map PyData.str) (some (.dat (.str sd))) (some (.dat (.list ((kindsT ds).map fun k => PyData.bool (onceT ds k))))) j7 j8 j9 (sD o10) j11 j12 j13 j14 j15 j16) := by
    have := lc_pure (g := gtup [17, 18]) (t := T_law_2) (m := M_law_2) (vs := [17, 18]) (ρ := lE sc dt bag2 j2 ((kindsT ds).map PyData.str) (some (.dat (.str sd))) (some (.dat (.list ((kindsT ds).map fun k => PyData.bool (onceT ds k))))) j7 j8 j9 (sD o10) j11 j12 j13 j14 j15 j16) (fun k => .tuple [.str k, .bool (onceT ds k)]) (fun k => if onceT ds k = true then some (.str k) else none) (kindsT ds) (fun k hkm => by
      refine ⟨((lE sc dt bag2 j2 ((kindsT ds).map PyData.str) (some (.dat (.str sd))) (some (.dat (.list ((kindsT ds).map fun k => PyData.bool (onceT ds k))))) j7 j8 j9 (sD o10) j11 j12 j13 j14 j15 j16).set 17 (some (.dat (.str k)))).set 18 (some (.dat (.bool (onceT ds k)))), onceT ds k, by simp [sizeLine_eq, startE, argA, bxIx, back, newC, notBor, bxAt, restE, noBx, lstB, lstAt, isNoD], by simp [sizeLine_eq, startE, argA, bxIx, back, newC, notBor, bxAt, restE, noBx, lstB, lstAt, isNoD], by simp [sizeLine_eq, startE, argA, bxIx, back, newC, notBor, bxAt, restE, noBx, lstB, lstAt, isNoD, T_law_2], ?_⟩
      by_cases hb : onceT ds k = true
      · rw [if_pos hb]
        exact ⟨hb, by simp [sizeLine_eq, startE, argA, bxIx, back, newC, notBor, bxAt, restE, noBx, lstB, lstAt, isNoD, M_law_2]⟩
      · rw [if_neg hb]
        exact Bool.eq_false_iff.mpr hb) (by rw [sizeLine_eq]; omega)
    rw [filt_map (onceT ds) PyData.str] at this
    exact this
  have hzip := zip_same (kindsT ds) (onceT ds)
  have q3 := lc_kinds (ρ := lE sc dt bag2 j2 ((kindsT ds).map PyData.str) (some (.dat (.str sd))) (some (.dat (.list ((kindsT ds).map fun k => PyData.bool (onceT ds k))))) (some (.dat (.tuple ((osT ds).map PyData.str)))) j8 j9 (sD o10) j11 j12 j13 j14 j15 j16) (t := T_law_3) (m := M_law_3) (kdT ds) (fun k => !decide (k ∈ osT ds)) (by omega) (fun k => by simp [sizeLine_eq, startE, argA, bxIx, back, newC, notBor, bxAt, restE, noBx, lstB, lstAt, isNoD]) (fun k => by simp [sizeLine_eq, startE, argA, bxIx, back, newC, notBor, bxAt, restE, noBx, lstB, lstAt, isNoD]) (fun k _ => by
    unfold T_law_3
    simp [sizeLine_eq, startE, argA, bxIx, back, newC, notBor, bxAt, restE, noBx, lstB, lstAt, isNoD, notIn_strsT]) (fun k => by unfold M_law_3; simp [sizeLine_eq, startE, argA, bxIx, back, newC, notBor, bxAt, restE, noBx, lstB, lstAt, isNoD])
  have q4 : lcT (gnm 17) myes M_law_4 [17] (.items ((kindsT ds).map PyData.str)) (lE sc dt bag2 j2 ((kindsT ds).map PyData.str) (some (.dat (.str sd))) (some (.dat (.list ((kindsT ds).map fun k => PyData.bool (onceT ds k))))) (some (.dat (.tuple ((osT ds).map PyData.str)))) (some (.dat (.tuple ((plT ds).map PyData.str)))) j9 (sD o10) j11 j12 j13 j14 j15 j16) = some (.new (.lst ((kindsT ds).map fun k => PyData.bool (onceT ds k))), lE sc dt bag2 j2 ((kindsT ds).map PyData.str) (some (.dat (.str sd))) (some (.dat (.list ((kindsT ds).map fun k => PyData.bool (onceT ds k))))) (some (.dat (.tuple ((osT ds).map PyData.str)))) (some (.dat (.tuple ((plT ds).map PyData.str)))) j9 (sD o10) j11 j12 j13 j14 j15 j16) := by
    have := lc_pure (g := gnm 17) (t := myes) (m := M_law_4) (vs := [17]) (ρ := lE sc dt bag2 j2 ((kindsT ds).map PyData.str) (some (.dat (.str sd))) (some (.dat (.list ((kindsT ds).map fun k => PyData.bool (onceT ds k))))) (some (.dat (.tuple ((osT ds).map PyData.str)))) (some (.dat (.tuple ((plT ds).map PyData.str)))) j9 (sD o10) j11 j12 j13 j14 j15 j16) PyData.str (fun k => some (.bool (onceT ds k))) (kindsT ds) (fun k hkm => by
      have a := hpo k
      exact ⟨(lE sc dt bag2 j2 ((kindsT ds).map PyData.str) (some (.dat (.str sd))) (some (.dat (.list ((kindsT ds).map fun k => PyData.bool (onceT ds k))))) (some (.dat (.tuple ((osT ds).map PyData.str)))) (some (.dat (.tuple ((plT ds).map PyData.str)))) j9 (sD o10) j11 j12 j13 j14 j15 j16).set 17 (some (.dat (.str k))), true, by simp [sizeLine_eq, startE, argA, bxIx, back, newC, notBor, bxAt, restE, noBx, lstB, lstAt, isNoD], by simp [sizeLine_eq, startE, argA, bxIx, back, newC, notBor, bxAt, restE, noBx, lstB, lstAt, isNoD], rfl, rfl, by simp [sizeLine_eq, startE, argA, bxIx, back, newC, notBor, bxAt, restE, noBx, lstB, lstAt, isNoD, M_law_4, a]⟩) (by rw [sizeLine_eq]; omega)
    rw [filt_some] at this
    exact this
  have q5 : ∀ (j6 j7 j8 j9 : Option A), lcT (gnm 10) T_law_5 M_law_5 [10] (.items (ds.map encDc)) (lE sc dt bag2 j2 ((kindsT ds).map PyData.str) (some (.dat (.str sd))) j6 j7 j8 j9 (sD o10) j11 j12 j13 j14 j15 j16) = some (.new (.lst ((ds.filter isPO).map encDc)), lE sc dt bag2 j2 ((kindsT ds).map PyData.str) (some (.dat (.str sd))) j6 j7 j8 j9 (sD o10) j11 j12 j13 j14 j15 j16) := fun j6 j7 j8 j9 => by
    have := lc_pure (g := gnm 10) (t := T_law_5) (m := M_law_5) (vs := [10]) (ρ := lE sc dt bag2 j2 ((kindsT ds).map PyData.str) (some (.dat (.str sd))) j6 j7 j8 j9 (sD o10) j11 j12 j13 j14 j15 j16) encDc (fun d => if isPO d = true then some (encDc d) else none) ds (fun d hdm => by
      have a := ix0 d
      have b := w_po2 d
      refine ⟨(lE sc dt bag2 j2 ((kindsT ds).map PyData.str) (some (.dat (.str sd))) j6 j7 j8 j9 (sD o10) j11 j12 j13 j14 j15 j16).set 10 (some (.dat (encDc d))), isPO d, by cases o10 <;> simp [sizeLine_eq, startE, argA, bxIx, back, newC, notBor, bxAt, restE, noBx, lstB, lstAt, isNoD, sD], by cases o10 <;> simp [sizeLine_eq, startE, argA, bxIx, back, newC, notBor, bxAt, restE, noBx, lstB, lstAt, isNoD, sD], by simp [sizeLine_eq, startE, argA, bxIx, back, newC, notBor, bxAt, restE, noBx, lstB, lstAt, isNoD, T_law_5, a, b], ?_⟩
      by_cases hb : isPO d = true
      · rw [if_pos hb]
        exact ⟨hb, by simp [sizeLine_eq, startE, argA, bxIx, back, newC, notBor, bxAt, restE, noBx, lstB, lstAt, isNoD, M_law_5]⟩
      · rw [if_neg hb]
        exact Bool.eq_false_iff.mpr hb) (by rw [sizeLine_eq]; omega)
    rw [filt_map isPO encDc] at this
    exact this
  -- the loops
  have hdl : (((ds.filter isPO).map encDc)).length ≤ 18 := by
    rw [List.length_map]
    exact Nat.le_trans (List.length_filter_le _ _) hl
  have hcut : cutL ((ds.filter isPO).map encDc) none (some 2) = ((ds.filter isPO).map encDc).take 2 := cutA _ 2
  have hmem : ∀ x ∈ ((ds.filter isPO).map encDc).take 2, ∃ d ∈ ds, isPO d = true ∧ x = encDc d := fun x hx => by
    obtain ⟨d, hd, rfl⟩ := List.mem_map.mp (List.mem_of_mem_take hx)
    exact ⟨d, (List.mem_filter.mp hd).1, (List.mem_filter.mp hd).2, rfl⟩
  obtain ⟨ρ1, f1, i12, i13, i14, i15, p10, rfl, m12, m13, m14, m15, _⟩ := forI_run (g := gnm 10) (b := L_law_9) (P := fun r ρ => ∃ (i12 i13 i14 i15 : Option A) (p10 : Option D), ρ = lE sc dt bag2 j2 ((kindsT ds).map PyData.str) (some (.dat (.str sd))) (some (.dat (.list ((kindsT ds).map fun k => PyData.bool (onceT ds k))))) (some (.dat (.tuple ((osT ds).map PyData.str)))) (some (.dat (.tuple ((plT ds).map PyData.str)))) (some (.box true (.lst [.list ((kindsT ds).map fun k => PyData.bool (onceT ds k)), .tuple ((osT ds).map PyData.str), .tuple ((plT ds).map PyData.str)]))) (sD p10) j11 i12 i13 i14 i15 j16 ∧ nbA i12 = true ∧ nbA i13 = true ∧ nbA i14 = true ∧ nbA i15 = true ∧ ∀ x ∈ r, ∃ d ∈ ds, isPO d = true ∧ x = encDc d) (fun x r ρ hP => by
    obtain ⟨i12, i13, i14, i15, p10, rfl, m12, m13, m14, m15, hr⟩ := hP
    obtain ⟨d, hd, hp, rfl⟩ := hr x List.mem_cons_self
    obtain ⟨k12, k13, k14, k15, h1, h2, h3, h4, h5⟩ := other_ok sc hl hw hn hdo hd hp bag2 j2 (some (.dat (.str sd))) (some (.dat (.list ((kindsT ds).map fun k => PyData.bool (onceT ds k))))) (some (.dat (.tuple ((osT ds).map PyData.str)))) (some (.dat (.tuple ((plT ds).map PyData.str)))) (some (.box true (.lst [.list ((kindsT ds).map fun k => PyData.bool (onceT ds k)), .tuple ((osT ds).map PyData.str), .tuple ((plT ds).map PyData.str)]))) j11 i12 i13 i14 i15 j16 m12 m13 m14 m15
    rw [hdt] at h1
    refine ⟨_, .nx, _, ?_, h1, .inl rfl, k12, k13, k14, k15, some (encDc d), rfl, h2, h3, h4, h5, fun y hy => hr y (List.mem_cons_of_mem _ hy)⟩
    cases p10 <;> simp [sizeLine_eq, startE, argA, bxIx, back, newC, notBor, bxAt, restE, noBx, lstB, lstAt, isNoD, sD]) (((ds.filter isPO).map encDc).take 2) (lE sc dt bag2 j2 ((kindsT ds).map PyData.str) (some (.dat (.str sd))) (some (.dat (.list ((kindsT ds).map fun k => PyData.bool (onceT ds k))))) (some (.dat (.tuple ((osT ds).map PyData.str)))) (some (.dat (.tuple ((plT ds).map PyData.str)))) (some (.box true (.lst [.list ((kindsT ds).map fun k => PyData.bool (onceT ds k)), .tuple ((osT ds).map PyData.str), .tuple ((plT ds).map PyData.str)]))) (sD o10) j11 j12 j13 j14 j15 j16) ⟨j12, j13, j14, j15, o10, rfl, n12, n13, n14, n15, hmem⟩
  obtain ⟨ρ2, f2, i11, i16, rfl, m11, m16, _⟩ := forI_run (g := gnm 11) (b := L_law_10) (P := fun r ρ => ∃ (i11 i16 : Option A), ρ = lE sc dt bag3 j2 ((kindsT ds).map PyData.str) (some (.dat (.str sd))) (some (.dat (.list ((kindsT ds).map fun k => PyData.bool (onceT ds k))))) (some (.dat (.tuple ((osT ds).map PyData.str)))) (some (.dat (.tuple ((plT ds).map PyData.str)))) (some (.box true (.lst [.list ((kindsT ds).map fun k => PyData.bool (onceT ds k)), .tuple ((osT ds).map PyData.str), .tuple ((plT ds).map PyData.str)]))) (sD p10) i11 i12 i13 i14 i15 i16 ∧ nbA i11 = true ∧ nbA i16 = true ∧ ∀ x ∈ r, G x) (fun x r ρ hP => by
    obtain ⟨i11, i16, rfl, m11, m16, hr⟩ := hP
    have h1 := thing_ok sc hl hw hn (hr x List.mem_cons_self) bag3 j2 ((kindsT ds).map PyData.str) (some (.dat (.str sd))) (some (.dat (.list ((kindsT ds).map fun k => PyData.bool (onceT ds k))))) (some (.dat (.tuple ((osT ds).map PyData.str)))) (some (.dat (.tuple ((plT ds).map PyData.str)))) (some (.box true (.lst [.list ((kindsT ds).map fun k => PyData.bool (onceT ds k)), .tuple ((osT ds).map PyData.str), .tuple ((plT ds).map PyData.str)]))) (sD p10) i12 i13 i14 i15 i16 m16
    rw [hdt] at h1
    refine ⟨_, .nx, _, ?_, h1, .inl rfl, some (.dat x), _, rfl, rfl, rfl, fun y hy => hr y (List.mem_cons_of_mem _ hy)⟩
    simp [sizeLine_eq, startE, argA, bxIx, back, newC, bxAt, restE, noBx, lstB, lstAt, isNoD, notBor_eq, nb_none, nb_dat, nb_own, m11]) L (lE sc dt bag3 j2 ((kindsT ds).map PyData.str) (some (.dat (.str sd))) (some (.dat (.list ((kindsT ds).map fun k => PyData.bool (onceT ds k))))) (some (.dat (.tuple ((osT ds).map PyData.str)))) (some (.dat (.tuple ((plT ds).map PyData.str)))) (some (.box true (.lst [.list ((kindsT ds).map fun k => PyData.bool (onceT ds k)), .tuple ((osT ds).map PyData.str), .tuple ((plT ds).map PyData.str)]))) (sD p10) j11 i12 i13 i14 i15 j16) ⟨j11, j16, rfl, n11, n16, e3⟩
  -- all together
  generalize hkk : (kindsT ds).map PyData.str = KK at *
  generalize hbb : ((kindsT ds).map fun k => PyData.bool (onceT ds k)) = BB at *
  generalize ((kindsT ds).map fun k => (.tuple [.str k, .bool (onceT ds k)] : D)) = ZZ at *
  generalize (osT ds).map PyData.str = OS at *
  generalize (plT ds).map PyData.str = PS at *
  generalize (((kindsT ds).filter (onceT ds)).map PyData.str) = F2 at *
  generalize (((kdT ds).filter fun k => !decide (k ∈ osT ds)).map PyData.str) = F3 at *
  generalize (kdT ds).map PyData.str = KD at *
  generalize ((ds.filter isPO).map encDc).take 2 = T2 at *
  generalize (ds.filter isPO).map encDc = F5 at *
  generalize ds.map encDc = DD at *
  refine ⟨lE sc dt bag3 j2 KK (some (.dat (.str sd))) (some (.dat (.list BB))) (some (.dat (.tuple OS))) (some (.dat (.tuple PS))) (some (.box true (.lst [.list BB, .tuple OS, .tuple PS]))) (sD p10) i11 i12 i13 i14 i15 i16, ?_, bag3, j2, _, _, _, _, _, _, _, i11, i12, i13, i14, i15, i16, p10, rfl, e2, n2, rfl, rfl, rfl, rfl, rfl, rfl, rfl, m11, m12, m13, m14, m15, m16⟩
  unfold L_law_11
  refine seq_nx (ρ' := gE sc bag2 j2 (some (.dat dt)) j4 j5 j6 j7 j8 j9 (sD o10) j11 j12 j13 j14 j15 j16) (by simp [sizeLine_eq, startE, argA, bxIx, back, newC, bxAt, restE, noBx, lstB, lstAt, isNoD, notBor_eq, nb_none, nb_dat, nb_own, r1, l1, n3]) ?_
  refine seq_nx (ρ' := gE sc bag2 j2 (some (.dat dt)) (some (.box true (.lst KK))) (some (.dat (.str sd))) j6 j7 j8 j9 (sD o10) j11 j12 j13 j14 j15 j16) (by simp [sizeLine_eq, startE, argA, bxIx, back, newC, bxAt, restE, noBx, lstB, lstAt, isNoD, notBor_eq, nb_none, nb_dat, nb_own, hk, hsaid, n4, n5]) ?_
  refine seq_nx (ρ' := gE sc bag2 j2 (some (.dat dt)) (some (.box true (.lst KK))) (some (.dat (.str sd))) (some (.box true (.lst BB))) j7 j8 j9 (sD o10) j11 j12 j13 j14 j15 j16) (by simp [sizeLine_eq, startE, argA, bxIx, back, newC, bxAt, restE, noBx, lstB, lstAt, isNoD, notBor_eq, nb_none, nb_dat, nb_own, q1, n6]) ?_
  refine seq_nx (ρ' := lE sc dt bag2 j2 KK (some (.dat (.str sd))) (some (.dat (.list BB))) (some (.dat (.tuple OS))) j8 j9 (sD o10) j11 j12 j13 j14 j15 j16) (by simp [sizeLine_eq, startE, argA, bxIx, back, newC, bxAt, restE, noBx, lstB, lstAt, isNoD, notBor_eq, nb_none, nb_dat, nb_own, hzip, q2, hs1, n7]) ?_
  refine seq_nx (ρ' := lE sc dt bag2 j2 KK (some (.dat (.str sd))) (some (.dat (.list BB))) (some (.dat (.tuple OS))) (some (.dat (.tuple PS))) j9 (sD o10) j11 j12 j13 j14 j15 j16) (by simp [sizeLine_eq, startE, argA, bxIx, back, newC, bxAt, restE, noBx, lstB, lstAt, isNoD, notBor_eq, nb_none, nb_dat, nb_own, c2, q3, hs2, n8]) ?_
  refine seq_nx (ρ' := lE sc dt bag2 j2 KK (some (.dat (.str sd))) (some (.dat (.list BB))) (some (.dat (.tuple OS))) (some (.dat (.tuple PS))) (some (.box true (.lst [.list BB, .tuple OS, .tuple PS]))) (sD o10) j11 j12 j13 j14 j15 j16) (by simp [sizeLine_eq, startE, argA, bxIx, back, newC, bxAt, restE, noBx, lstB, lstAt, isNoD, notBor_eq, nb_none, nb_dat, nb_own, q4, hOK, hPK, n9]) ?_
  refine seq_nx (ρ' := lE sc dt bag2 j2 KK (some (.dat (.str sd))) (some (.dat (.list BB))) (some (.dat (.tuple OS))) (some (.dat (.tuple PS))) (some (.box true (.lst [.list BB, .tuple OS, .tuple PS]))) (sD o10) j11 j12 j13 j14 j15 j16) (by simp [sizeLine_eq, startE, argA, bxIx, back, newC, bxAt, restE, noBx, lstB, lstAt, isNoD, notBor_eq, nb_none, nb_dat, nb_own, hal]) ?_
  have q5' := q5 (some (.dat (.list BB))) (some (.dat (.tuple OS))) (some (.dat (.tuple PS))) (some (.box true (.lst [.list BB, .tuple OS, .tuple PS])))
  have q6 : seqD dt = some DD := by rw [← hdt]; rfl
  refine seq_nx (ρ' := lE sc dt bag2 j2 KK (some (.dat (.str sd))) (some (.dat (.list BB))) (some (.dat (.tuple OS))) (some (.dat (.tuple PS))) (some (.box true (.lst [.list BB, .tuple OS, .tuple PS]))) (sD p10) j11 i12 i13 i14 i15 j16) (by
    cases o10 <;> simp [sizeLine_eq, startE, argA, bxIx, back, newC, bxAt, restE, noBx, lstB, lstAt, isNoD, notBor_eq, nb_none, nb_dat, nb_own, sD] at q5' f1 ⊢ <;> simp [sizeLine_eq, startE, argA, bxIx, back, newC, bxAt, restE, noBx, lstB, lstAt, isNoD, notBor_eq, nb_none, nb_dat, nb_own, q6, q5', hcut, f1]) ?_
  refine seq_nx (ρ' := lE sc dt bag3 j2 KK (some (.dat (.str sd))) (some (.dat (.list BB))) (some (.dat (.tuple OS))) (some (.dat (.tuple PS))) (some (.box true (.lst [.list BB, .tuple OS, .tuple PS]))) (sD p10) i11 i12 i13 i14 i15 i16) (by simp [sizeLine_eq, startE, argA, bxIx, back, newC, bxAt, restE, noBx, lstB, lstAt, isNoD, notBor_eq, nb_none, nb_dat, nb_own, e1, f2]) ?_
  simp [sizeLine_eq, startE, argA, bxIx, back, newC, bxAt, restE, noBx, lstB, lstAt, isNoD, notBor_eq, nb_none, nb_dat, nb_own, hsaid]
theorem law_true (ns : List Int) (h : ns.length ≤ 63) : ∃ outs, p_law [.dat (.list (ns.map PyData.int))] = some (.dat (.bool true), outs) ∧ outs.map isBx = [false] := by
  obtain ⟨bag, b1, b2⟩ := bag_ok ns h
  obtain ⟨ρ', f1, f2⟩ := forI_run (g := gnm 2) (b := L_law_11) (P := fun _ ρ => LaOk (.list (ns.map PyData.int)) ρ) (fun d r ρ hP => by
    obtain ⟨bag, j2, j3, j4, j5, j6, j7, j8, j9, j11, j12, j13, j14, j15, j16, o10, rfl, hb, n2, n3⟩ := hP
    obtain ⟨ρ', h1, h2⟩ := round_ok (.list (ns.map PyData.int)) ⟨bag, some (.dat d), j3, j4, j5, j6, j7, j8, j9, j11, j12, j13, j14, j15, j16, o10, rfl, hb, rfl, n3⟩
    refine ⟨_, .nx, ρ', ?_, h1, .inl rfl, h2⟩
    simp [sizeLine_eq, startE, argA, bxIx, back, newC, bxAt, restE, noBx, lstB, lstAt, isNoD, notBor_eq, nb_none, nb_dat, nb_own, n2]) (rngD 0 4) (gE (.list (ns.map PyData.int)) bag none none none none none none none none none none none none none none none) ⟨bag, none, none, none, none, none, none, none, none, none, none, none, none, none, none, none, rfl, b2, rfl, rfl, rfl, rfl, rfl, rfl, rfl, rfl, rfl, rfl, rfl, rfl, rfl, rfl⟩
  obtain ⟨bag', j2, j3, j4, j5, j6, j7, j8, j9, j11, j12, j13, j14, j15, j16, o10, rfl, _⟩ := f2
  refine ⟨[.dat (.list (ns.map PyData.int))], ?_, rfl⟩
  unfold p_law b_law
  simp only [gE] at f1
  simp [sizeLine_eq, startE, argA, bxIx, back, newC, bxAt, restE, noBx, lstB, lstAt, isNoD, notBor_eq, nb_none, nb_dat, nb_own, b1, f1]
end K05

namespace K05
open PySem PySem.Spec PyProof.Rows L2 L3
def topS (i : Nat) : Stmt := PySem.Challenge.pw_endsahead_k05_once_through_parts.main.body.getD i (.Pass ⟨0, 0, 0, 0⟩)
abbrev s__law_alike : Stmt := topS 14
theorem sc__law_alike : FnScope ["_law_found", "_law_due"] ["_law_found", "_law_due"] (defScope s__law_alike) := ⟨rfl, rfl, rfl, by decide +kernel, rfl, by decide +kernel, by decide +kernel⟩
abbrev s__law_bag : Stmt := topS 10
theorem sc__law_bag : FnScope ["_law_script", "_law_cell"] ["_law_script"] (defScope s__law_bag) := ⟨rfl, rfl, rfl, by decide +kernel, rfl, by decide +kernel, by decide +kernel⟩
abbrev s__law_parts : Stmt := topS 19
theorem sc__law_parts : FnScope ["_law_decl", "_law_name", "_law_kind"] ["_law_decl"] (defScope s__law_parts) := ⟨rfl, rfl, rfl, by decide +kernel, rfl, by decide +kernel, by decide +kernel⟩
abbrev s__law_once_table : Stmt := topS 20
theorem sc__law_once_table : FnScope ["_law_decls", "_law_found", "_law_decl", "_law_part"] ["_law_decls"] (defScope s__law_once_table) := ⟨rfl, rfl, rfl, by decide +kernel, rfl, by decide +kernel, by decide +kernel⟩
abbrev s__law_bounded : Stmt := topS 22
theorem sc__law_bounded : FnScope ["_law_decls", "_law_functions", "_law_is_beyond", "_law_table", "_law_many", "_law_decl", "_law_is_so"] ["_law_decls", "_law_functions"] (defScope s__law_bounded) := ⟨rfl, rfl, rfl, by decide +kernel, rfl, by decide +kernel, by decide +kernel⟩
abbrev s__law_holding : Stmt := topS 29
theorem sc__law_holding : FnScope ["_law_decls", "_law_other", "_law_found", "_law_decl", "_law_part"] ["_law_decls", "_law_other"] (defScope s__law_holding) := ⟨rfl, rfl, rfl, by decide +kernel, rfl, by decide +kernel, by decide +kernel⟩
abbrev s__law_is_once : Stmt := topS 21
theorem sc__law_is_once : FnScope ["_law_decls", "_law_kind"] ["_law_decls", "_law_kind"] (defScope s__law_is_once) := ⟨rfl, rfl, rfl, by decide +kernel, rfl, by decide +kernel, by decide +kernel⟩
abbrev s__law_is_int : Stmt := topS 15
theorem sc__law_is_int : FnScope ["_law_thing"] ["_law_thing"] (defScope s__law_is_int) := ⟨rfl, rfl, rfl, by decide +kernel, rfl, by decide +kernel, by decide +kernel⟩
abbrev s__law_kinds : Stmt := topS 18
theorem sc__law_kinds : FnScope ["_law_decls", "_law_decl"] ["_law_decls"] (defScope s__law_kinds) := ⟨rfl, rfl, rfl, by decide +kernel, rfl, by decide +kernel, by decide +kernel⟩
abbrev s__law_is_stock : Stmt := topS 27
theorem sc__law_is_stock : FnScope ["_law_decls", "_law_thing", "_law_kinds_here", "_law_one", "_law_at"] ["_law_decls", "_law_thing"] (defScope s__law_is_stock) := ⟨rfl, rfl, rfl, by decide +kernel, rfl, by decide +kernel, by decide +kernel⟩
abbrev s__law_declared : Stmt := topS 17
theorem sc__law_declared : FnScope ["_law_decls", "_law_found", "_law_decl", "_law_arm", "_law_kind"] ["_law_decls"] (defScope s__law_declared) := ⟨rfl, rfl, rfl, by decide +kernel, rfl, by decide +kernel, by decide +kernel⟩
abbrev s__law_take : Stmt := topS 11
theorem sc__law_take : FnScope ["_law_bag_here", "_law_many", "_law_begin", "_law_second", "_law_cell", "_law_stirred", "_law_value"] ["_law_bag_here", "_law_many"] (defScope s__law_take) := ⟨rfl, rfl, rfl, by decide +kernel, rfl, by decide +kernel, by decide +kernel⟩
abbrev s__law_mixed : Stmt := topS 13
theorem sc__law_mixed : FnScope ["_law_bag_here", "_law_things", "_law_found", "_law_thing"] ["_law_bag_here", "_law_things"] (defScope s__law_mixed) := ⟨rfl, rfl, rfl, by decide +kernel, rfl, by decide +kernel, by decide +kernel⟩
abbrev s__law_some : Stmt := topS 12
theorem sc__law_some : FnScope ["_law_bag_here", "_law_things"] ["_law_bag_here", "_law_things"] (defScope s__law_some) := ⟨rfl, rfl, rfl, by decide +kernel, rfl, by decide +kernel, by decide +kernel⟩
abbrev s__law_new_name : Stmt := topS 16
theorem sc__law_new_name : FnScope ["_law_bag_here", "_law_taken", "_law_menu", "_law_turn", "_law_at", "_law_name"] ["_law_bag_here", "_law_taken"] (defScope s__law_new_name) := ⟨rfl, rfl, rfl, by decide +kernel, rfl, by decide +kernel, by decide +kernel⟩
abbrev s__law_shaped : Stmt := topS 23
theorem sc__law_shaped : FnScope ["_law_bag_here", "_law_decls", "_law_word", "_law_taken", "_law_kinds_here", "_law_name", "_law_many", "_law_arms", "_law_turn", "_law_some_here", "_law_fields", "_law_arm", "_law_field", "_law_one", "_law_kind"] ["_law_bag_here", "_law_decls", "_law_word"] (defScope s__law_shaped) := ⟨rfl, rfl, rfl, by decide +kernel, rfl, by decide +kernel, by decide +kernel⟩
abbrev s__law_library : Stmt := topS 24
theorem sc__law_library : FnScope ["_law_bag_here", "_law_most", "_law_decls", "_law_words", "_law_word", "_law_many", "_law_rest"] ["_law_bag_here", "_law_most"] (defScope s__law_library) := ⟨rfl, rfl, rfl, by decide +kernel, rfl, by decide +kernel, by decide +kernel⟩
abbrev s__law_odd : Stmt := topS 25
theorem sc__law_odd : FnScope ["_law_bag_here", "_law_menu"] ["_law_bag_here"] (defScope s__law_odd) := ⟨rfl, rfl, rfl, by decide +kernel, rfl, by decide +kernel, by decide +kernel⟩
abbrev s__law_bent : Stmt := topS 26
theorem sc__law_bent : FnScope ["_law_bag_here", "_law_thing", "_law_deep", "_law_way", "_law_at", "_law_more"] ["_law_bag_here", "_law_thing", "_law_deep"] (defScope s__law_bent) := ⟨rfl, rfl, rfl, by decide +kernel, rfl, by decide +kernel, by decide +kernel⟩
abbrev s__law_near_stocks : Stmt := topS 28
theorem sc__law_near_stocks : FnScope ["_law_bag_here", "_law_decls", "_law_kinds_here", "_law_some_here", "_law_stock", "_law_found", "_law_kind", "_law_at", "_law_count", "_law_name", "_law_turn"] ["_law_bag_here", "_law_decls"] (defScope s__law_near_stocks) := ⟨rfl, rfl, rfl, by decide +kernel, rfl, by decide +kernel, by decide +kernel⟩
abbrev s__law_turned : Stmt := topS 30
theorem sc__law_turned : FnScope ["_law_decls", "_law_kind", "_law_words", "_law_decl"] ["_law_decls", "_law_kind"] (defScope s__law_turned) := ⟨rfl, rfl, rfl, by decide +kernel, rfl, by decide +kernel, by decide +kernel⟩
abbrev s_once_table : Stmt := topS 3
theorem sc_once_table : FnScope ["declarations", "found", "tree", "_name", "part"] ["declarations"] (defScope s_once_table) := ⟨rfl, rfl, rfl, by decide +kernel, rfl, by decide +kernel, by decide +kernel⟩
abbrev s_is_once : Stmt := topS 4
theorem sc_is_once : FnScope ["declarations", "kind"] ["declarations", "kind"] (defScope s_is_once) := ⟨rfl, rfl, rfl, by decide +kernel, rfl, by decide +kernel, by decide +kernel⟩
abbrev s_is_integer : Stmt := topS 1
theorem sc_is_integer : FnScope ["thing"] ["thing"] (defScope s_is_integer) := ⟨rfl, rfl, rfl, by decide +kernel, rfl, by decide +kernel, by decide +kernel⟩
abbrev s_is_count : Stmt := topS 7
theorem sc_is_count : FnScope ["table", "thing"] ["table", "thing"] (defScope s_is_count) := ⟨rfl, rfl, rfl, by decide +kernel, rfl, by decide +kernel, by decide +kernel⟩
abbrev s_is_stock : Stmt := topS 8
theorem sc_is_stock : FnScope ["declarations", "thing", "table", "one", "other"] ["declarations", "thing"] (defScope s_is_stock) := ⟨rfl, rfl, rfl, by decide +kernel, rfl, by decide +kernel, by decide +kernel⟩
abbrev s_once_kinds : Stmt := topS 5
theorem sc_once_kinds : FnScope ["declarations", "table", "kind"] ["declarations"] (defScope s_once_kinds) := ⟨rfl, rfl, rfl, by decide +kernel, rfl, by decide +kernel, by decide +kernel⟩
abbrev s_plain_kinds : Stmt := topS 6
theorem sc_plain_kinds : FnScope ["declarations", "table", "kind"] ["declarations"] (defScope s_plain_kinds) := ⟨rfl, rfl, rfl, by decide +kernel, rfl, by decide +kernel, by decide +kernel⟩
abbrev s_law : Stmt := topS 31
theorem sc_law : FnScope ["_law_script", "_law_bag_here", "_law_turn", "_law_decls", "_law_kinds_here", "_law_said", "_law_due", "_law_once", "_law_plain", "_law_told", "_law_decl", "_law_thing", "_law_other", "_law_changed", "_law_holding_here", "_law_some_here", "_law_kept", "_law_kind", "_law_is_so"] ["_law_script"] (defScope s_law) := ⟨rfl, rfl, rfl, by decide +kernel, rfl, by decide +kernel, by decide +kernel⟩
/-- what the top has written -/
structure Fx (G : GC) where
  f__law_alike : Addr
  d__law_alike : FuncData
  F__law_alike : Fun G.K "_law_alike" "_law_alike" s__law_alike f__law_alike d__law_alike
  g__law_alike : G.mg "_law_alike" = some (.ref f__law_alike)
  b__law_alike : Binds G.K d__law_alike ["_law_found", "_law_due"] []
  f__law_bag : Addr
  d__law_bag : FuncData
  F__law_bag : Fun G.K "_law_bag" "_law_bag" s__law_bag f__law_bag d__law_bag
  g__law_bag : G.mg "_law_bag" = some (.ref f__law_bag)
  b__law_bag : Binds G.K d__law_bag ["_law_script"] []
  f__law_parts : Addr
  d__law_parts : FuncData
  F__law_parts : Fun G.K "_law_parts" "_law_parts" s__law_parts f__law_parts d__law_parts
  g__law_parts : G.mg "_law_parts" = some (.ref f__law_parts)
  b__law_parts : Binds G.K d__law_parts ["_law_decl"] []
  f__law_once_table : Addr
  d__law_once_table : FuncData
  F__law_once_table : Fun G.K "_law_once_table" "_law_once_table" s__law_once_table f__law_once_table d__law_once_table
  g__law_once_table : G.mg "_law_once_table" = some (.ref f__law_once_table)
  b__law_once_table : Binds G.K d__law_once_table ["_law_decls"] []
  f__law_bounded : Addr
  d__law_bounded : FuncData
  F__law_bounded : Fun G.K "_law_bounded" "_law_bounded" s__law_bounded f__law_bounded d__law_bounded
  g__law_bounded : G.mg "_law_bounded" = some (.ref f__law_bounded)
  b__law_bounded : Binds G.K d__law_bounded ["_law_decls", "_law_functions"] []
  f__law_holding : Addr
  d__law_holding : FuncData
  F__law_holding : Fun G.K "_law_holding" "_law_holding" s__law_holding f__law_holding d__law_holding
  g__law_holding : G.mg "_law_holding" = some (.ref f__law_holding)
  b__law_holding : Binds G.K d__law_holding ["_law_decls", "_law_other"] []
  f__law_is_once : Addr
  d__law_is_once : FuncData
  F__law_is_once : Fun G.K "_law_is_once" "_law_is_once" s__law_is_once f__law_is_once d__law_is_once
  g__law_is_once : G.mg "_law_is_once" = some (.ref f__law_is_once)
  b__law_is_once : Binds G.K d__law_is_once ["_law_decls", "_law_kind"] []
  f__law_is_int : Addr
  d__law_is_int : FuncData
  F__law_is_int : Fun G.K "_law_is_int" "_law_is_int" s__law_is_int f__law_is_int d__law_is_int
  g__law_is_int : G.mg "_law_is_int" = some (.ref f__law_is_int)
  b__law_is_int : Binds G.K d__law_is_int ["_law_thing"] []
  f__law_kinds : Addr
  d__law_kinds : FuncData
  F__law_kinds : Fun G.K "_law_kinds" "_law_kinds" s__law_kinds f__law_kinds d__law_kinds
  g__law_kinds : G.mg "_law_kinds" = some (.ref f__law_kinds)
  b__law_kinds : Binds G.K d__law_kinds ["_law_decls"] []
  f__law_is_stock : Addr
  d__law_is_stock : FuncData
  F__law_is_stock : Fun G.K "_law_is_stock" "_law_is_stock" s__law_is_stock f__law_is_stock d__law_is_stock
  g__law_is_stock : G.mg "_law_is_stock" = some (.ref f__law_is_stock)
  b__law_is_stock : Binds G.K d__law_is_stock ["_law_decls", "_law_thing"] []
  f__law_declared : Addr
  d__law_declared : FuncData
  F__law_declared : Fun G.K "_law_declared" "_law_declared" s__law_declared f__law_declared d__law_declared
  g__law_declared : G.mg "_law_declared" = some (.ref f__law_declared)
  b__law_declared : Binds G.K d__law_declared ["_law_decls"] []
  f__law_take : Addr
  d__law_take : FuncData
  F__law_take : Fun G.K "_law_take" "_law_take" s__law_take f__law_take d__law_take
  g__law_take : G.mg "_law_take" = some (.ref f__law_take)
  b__law_take : Binds G.K d__law_take ["_law_bag_here", "_law_many"] []
  f__law_mixed : Addr
  d__law_mixed : FuncData
  F__law_mixed : Fun G.K "_law_mixed" "_law_mixed" s__law_mixed f__law_mixed d__law_mixed
  g__law_mixed : G.mg "_law_mixed" = some (.ref f__law_mixed)
  b__law_mixed : Binds G.K d__law_mixed ["_law_bag_here", "_law_things"] []
  f__law_some : Addr
  d__law_some : FuncData
  F__law_some : Fun G.K "_law_some" "_law_some" s__law_some f__law_some d__law_some
  g__law_some : G.mg "_law_some" = some (.ref f__law_some)
  b__law_some : Binds G.K d__law_some ["_law_bag_here", "_law_things"] []
  f__law_new_name : Addr
  d__law_new_name : FuncData
  F__law_new_name : Fun G.K "_law_new_name" "_law_new_name" s__law_new_name f__law_new_name d__law_new_name
  g__law_new_name : G.mg "_law_new_name" = some (.ref f__law_new_name)
  b__law_new_name : Binds G.K d__law_new_name ["_law_bag_here", "_law_taken"] []
  f__law_shaped : Addr
  d__law_shaped : FuncData
  F__law_shaped : Fun G.K "_law_shaped" "_law_shaped" s__law_shaped f__law_shaped d__law_shaped
  g__law_shaped : G.mg "_law_shaped" = some (.ref f__law_shaped)
  b__law_shaped : Binds G.K d__law_shaped ["_law_bag_here", "_law_decls", "_law_word"] []
  f__law_library : Addr
  d__law_library : FuncData
  F__law_library : Fun G.K "_law_library" "_law_library" s__law_library f__law_library d__law_library
  g__law_library : G.mg "_law_library" = some (.ref f__law_library)
  b__law_library : Binds G.K d__law_library ["_law_bag_here", "_law_most"] []
  f__law_odd : Addr
  d__law_odd : FuncData
  F__law_odd : Fun G.K "_law_odd" "_law_odd" s__law_odd f__law_odd d__law_odd
  g__law_odd : G.mg "_law_odd" = some (.ref f__law_odd)
  b__law_odd : Binds G.K d__law_odd ["_law_bag_here"] []
  f__law_bent : Addr
  d__law_bent : FuncData
  F__law_bent : Fun G.K "_law_bent" "_law_bent" s__law_bent f__law_bent d__law_bent
  g__law_bent : G.mg "_law_bent" = some (.ref f__law_bent)
  b__law_bent : Binds G.K d__law_bent ["_law_bag_here", "_law_thing", "_law_deep"] []
  f__law_near_stocks : Addr
  d__law_near_stocks : FuncData
  F__law_near_stocks : Fun G.K "_law_near_stocks" "_law_near_stocks" s__law_near_stocks f__law_near_stocks d__law_near_stocks
  g__law_near_stocks : G.mg "_law_near_stocks" = some (.ref f__law_near_stocks)
  b__law_near_stocks : Binds G.K d__law_near_stocks ["_law_bag_here", "_law_decls"] []
  f__law_turned : Addr
  d__law_turned : FuncData
  F__law_turned : Fun G.K "_law_turned" "_law_turned" s__law_turned f__law_turned d__law_turned
  g__law_turned : G.mg "_law_turned" = some (.ref f__law_turned)
  b__law_turned : Binds G.K d__law_turned ["_law_decls", "_law_kind"] []
  f_once_table : Addr
  d_once_table : FuncData
  F_once_table : Fun G.K "once_table" "once_table" s_once_table f_once_table d_once_table
  g_once_table : G.mg "once_table" = some (.ref f_once_table)
  b_once_table : Binds G.K d_once_table ["declarations"] []
  f_is_once : Addr
  d_is_once : FuncData
  F_is_once : Fun G.K "is_once" "is_once" s_is_once f_is_once d_is_once
  g_is_once : G.mg "is_once" = some (.ref f_is_once)
  b_is_once : Binds G.K d_is_once ["declarations", "kind"] []
  f_is_integer : Addr
  d_is_integer : FuncData
  F_is_integer : Fun G.K "is_integer" "is_integer" s_is_integer f_is_integer d_is_integer
  g_is_integer : G.mg "is_integer" = some (.ref f_is_integer)
  b_is_integer : Binds G.K d_is_integer ["thing"] []
  f_is_count : Addr
  d_is_count : FuncData
  F_is_count : Fun G.K "is_count" "is_count" s_is_count f_is_count d_is_count
  g_is_count : G.mg "is_count" = some (.ref f_is_count)
  b_is_count : Binds G.K d_is_count ["table", "thing"] []
  f_is_stock : Addr
  d_is_stock : FuncData
  F_is_stock : Fun G.K "is_stock" "is_stock" s_is_stock f_is_stock d_is_stock
  g_is_stock : G.mg "is_stock" = some (.ref f_is_stock)
  b_is_stock : Binds G.K d_is_stock ["declarations", "thing"] []
  f_once_kinds : Addr
  d_once_kinds : FuncData
  F_once_kinds : Fun G.K "once_kinds" "once_kinds" s_once_kinds f_once_kinds d_once_kinds
  g_once_kinds : G.mg "once_kinds" = some (.ref f_once_kinds)
  b_once_kinds : Binds G.K d_once_kinds ["declarations"] []
  f_plain_kinds : Addr
  d_plain_kinds : FuncData
  F_plain_kinds : Fun G.K "plain_kinds" "plain_kinds" s_plain_kinds f_plain_kinds d_plain_kinds
  g_plain_kinds : G.mg "plain_kinds" = some (.ref f_plain_kinds)
  b_plain_kinds : Binds G.K d_plain_kinds ["declarations"] []
  f_law : Addr
  d_law : FuncData
  F_law : Fun G.K "law" "law" s_law f_law d_law
  g_law : G.mg "law" = some (.ref f_law)
  b_law : Binds G.K d_law ["_law_script"] []
  z_abs : G.mg "abs" = none
  z_all : G.mg "all" = none
  z_any : G.mg "any" = none
  z_bool : G.mg "bool" = none
  z_dict : G.mg "dict" = none
  z_enumerate : G.mg "enumerate" = none
  z_int : G.mg "int" = none
  z_isinstance : G.mg "isinstance" = none
  z_len : G.mg "len" = none
  z_list : G.mg "list" = none
  z_range : G.mg "range" = none
  z_repr : G.mg "repr" = none
  z_sorted : G.mg "sorted" = none
  z_str : G.mg "str" = none
  z_tuple : G.mg "tuple" = none
  z_zip : G.mg "zip" = none
theorem dss__law_alike {G : GC} (Y : Fx G) : DSs G ⟨["_law_found", "_law_due"], defScope s__law_alike, fun _ => true, 0⟩ (defBody s__law_alike) b__law_alike :=
    (dss_one (ds_ret (de_and (de_cmp op_eqD' (de_name 0 rfl (vis_of rfl) rfl rfl) (de_name 1 rfl (vis_of rfl) rfl rfl) rfl) (de_one (de_cmp op_eqD' (de_callB call_reprE rfl Y.z_repr rfl (da_cons (de_name 0 rfl (vis_of rfl) rfl rfl) da_nil (fun _ => rfl)) (by decide) rfl (fun _ => rfl) (fun _ => rfl)) (de_callB call_reprE rfl Y.z_repr rfl (da_cons (de_name 1 rfl (vis_of rfl) rfl rfl) da_nil (fun _ => rfl)) (by decide) rfl (fun _ => rfl) (fun _ => rfl)) rfl)))))
theorem ok__law_alike {G : GC} (Y : Fx G) : FnG G 1 Y.f__law_alike Y.d__law_alike ["_law_found", "_law_due"] (spM G.K 2 m_law_alike) := fn_m Y.F__law_alike sc__law_alike (dss__law_alike Y)
theorem dss__law_bag {G : GC} (Y : Fx G) : DSs G ⟨["_law_script", "_law_cell"], defScope s__law_bag, fun _ => true, 0⟩ (defBody s__law_bag) b__law_bag :=
    (dss_one (ds_ret (de_lst (da_cons de_int (da_cons de_int (da_cons de_int (da_cons (de_lc (di_seqC (de_slice sl_D (de_name 0 rfl (vis_of rfl) rfl rfl) do_none (do_some de_int))) (blkOk_by (own := [("_law_cell", 1)]) (by decide +kernel)) (dg_name (sto_of rfl rfl)) dts_nil (de_callB call_absD rfl Y.z_abs rfl (da_cons (de_name 1 rfl (vis_of rfl) rfl rfl) da_nil (fun _ => rfl)) (by decide) rfl (fun _ => rfl) (fun _ => rfl)) (by decide) (gnm_stay 1) (fun _ _ => rfl)) da_nil (fun _ => rfl)) (fun _ => rfl)) (fun _ => rfl)) (fun _ => rfl)))))
theorem ok__law_bag {G : GC} (Y : Fx G) : FnG G 1 Y.f__law_bag Y.d__law_bag ["_law_script"] (spM G.K 1 m_law_bag) := fn_m Y.F__law_bag sc__law_bag (dss__law_bag Y)
theorem dss__law_parts {G : GC} (Y : Fx G) : DSs G ⟨["_law_decl", "_law_name", "_law_kind"], defScope s__law_parts, fun _ => true, 0⟩ (defBody s__law_parts) b__law_parts :=
    (dss_cons (ds_if (dt_cmp op_notInD' (de_ix ix_D (de_name 0 rfl (vis_of rfl) rfl rfl) de_int (fun _ _ => rfl)) (de_tup (da_cons de_str (da_cons de_str da_nil (fun _ => rfl)) (fun _ => rfl))) rfl) (dss_one (ds_ret (de_lst da_nil))) dss_nil)
    (dss_one (ds_ret (de_lc (di_seqC (de_ix ix_D (de_name 0 rfl (vis_of rfl) rfl rfl) de_int (fun _ _ => rfl))) (blkOk_by (own := [("_law_name", 1), ("_law_kind", 2)]) (by decide +kernel)) (dg_tup (fun X c => (pgsN_cons c (sto_of rfl rfl) (pgsN_cons c (sto_of rfl rfl) pgsN_nil rfl) rfl)) (fun _ => rfl) (fun _ => rfl)) (dts_one (dt_cmp op_isNotD (de_name 2 rfl (vis_of rfl) rfl rfl) de_non rfl)) (de_name 2 rfl (vis_of rfl) rfl rfl) (by decide) (gtup_stay [1, 2]) (fun _ _ => rfl)))))
theorem ok__law_parts {G : GC} (Y : Fx G) : FnG G 1 Y.f__law_parts Y.d__law_parts ["_law_decl"] (spM G.K 1 m_law_parts) := fn_m Y.F__law_parts sc__law_parts (dss__law_parts Y)
theorem dss__law_once_table {G : GC} (Y : Fx G) : DSs G ⟨["_law_decls", "_law_found", "_law_decl", "_law_part"], defScope s__law_once_table, fun _ => true, 1⟩ (defBody s__law_once_table) b__law_once_table :=
    (dss_cons (ds_asg (sto_of rfl rfl) (de_dicC (fun _ => (pps_cons pe_str pe_bl (pps_cons pe_str pe_bl pps_nil))) rfl rfl (by simp) (by decide) (by decide) rfl) (fun _ => rfl))
    (dss_cons (ds_for (di_seq (de_name 0 rfl (vis_of rfl) rfl rfl)) (dg_name (sto_of rfl rfl)) (dss_one (ds_if (dt_cmp op_inD' (de_ix ix_D (de_name 2 rfl (vis_of rfl) rfl rfl) de_int (fun _ _ => rfl)) (de_tup (da_cons de_str (da_cons de_str (da_cons de_str (da_cons de_str da_nil (fun _ => rfl)) (fun _ => rfl)) (fun _ => rfl)) (fun _ => rfl))) rfl) (dss_one (ds_put rfl (vis_of rfl) rfl rfl (de_ix ix_D (de_name 2 rfl (vis_of rfl) rfl rfl) de_int (fun _ _ => rfl)) (de_or (de_cmp op_eqD' (de_ix ix_D (de_name 2 rfl (vis_of rfl) rfl rfl) de_int (fun _ _ => rfl)) de_str rfl) (de_one (de_cmp op_neD' (de_lc (di_seqC (de_call (ok__law_parts Y) (by decide) rfl Y.g__law_parts Y.F__law_parts.kp Y.b__law_parts (da_cons (de_name 2 rfl (vis_of rfl) rfl rfl) da_nil (fun _ => rfl)) rfl (fun _ => rfl) (fun _ => rfl) rfl (mcons_len mnil_len))) (blkOk_by (own := [("_law_part", 3)]) (by decide +kernel)) (dg_name (sto_of rfl rfl)) (dts_one (dt_val (de_ix ix_D (de_name 1 rfl (vis_of rfl) rfl rfl) (de_name 3 rfl (vis_of rfl) rfl rfl) (fun _ _ => rfl)) (fun _ _ => rfl))) (de_name 3 rfl (vis_of rfl) rfl rfl) (by decide) (gnm_stay 3) (fun _ _ => rfl)) (de_lst da_nil) rfl))) (fun _ => rfl) (fun _ => rfl) (fun _ => rfl) (fun _ => rfl) (fun _ _ => rfl))) dss_nil)) (fun _ _ => rfl))
    (dss_one (ds_ret (de_name 1 rfl (vis_of rfl) rfl rfl)))))
theorem ok__law_once_table {G : GC} (Y : Fx G) : FnG G 2 Y.f__law_once_table Y.d__law_once_table ["_law_decls"] (spM G.K 1 m_law_once_table) := fn_m Y.F__law_once_table sc__law_once_table (dss__law_once_table Y)
theorem dss__law_bounded {G : GC} (Y : Fx G) : DSs G ⟨["_law_decls", "_law_functions", "_law_is_beyond", "_law_table", "_law_many", "_law_decl", "_law_is_so"], defScope s__law_bounded, fun _ => true, 2⟩ (defBody s__law_bounded) b__law_bounded :=
    (dss_cons (ds_par rfl rfl (by decide) rfl rfl (de_callTy call_tupleD rfl Y.z_tuple rfl (da_cons (de_name 0 rfl (vis_of rfl) rfl rfl) da_nil (fun _ => rfl)) (by decide) rfl (fun _ => rfl) (fun _ => rfl)) de_bl (fun _ => rfl) (fun _ => rfl) (fun env h => by cases env; cases h; rfl) (fun env h => by cases env; cases h; rfl))
    (dss_cons (ds_while (dt_val (de_name 2 rfl (vis_of rfl) rfl rfl) (fun _ _ => rfl)) (dss_cons (ds_asg (sto_of rfl rfl) (de_listVals rfl Y.z_list (de_call (ok__law_once_table Y) (by decide) rfl Y.g__law_once_table Y.F__law_once_table.kp Y.b__law_once_table (da_cons (de_name 0 rfl (vis_of rfl) rfl rfl) da_nil (fun _ => rfl)) rfl (fun _ => rfl) (fun _ => rfl) rfl (mcons_len mnil_len)) (fun _ => rfl) rfl (fun _ => rfl)) (fun _ => rfl))
    (dss_cons (ds_asg (sto_of rfl rfl) (de_callB call_lenD' rfl Y.z_len rfl (da_cons (de_lc (di_seqC (de_name 0 rfl (vis_of rfl) rfl rfl)) (blkOk_by (own := [("_law_decl", 5)]) (by decide +kernel)) (dg_name (sto_of rfl rfl)) (dts_one (dt_cmp op_inD' (de_ix ix_D (de_name 5 rfl (vis_of rfl) rfl rfl) de_int (fun _ _ => rfl)) (de_tup (da_cons de_str (da_cons de_str da_nil (fun _ => rfl)) (fun _ => rfl))) rfl)) (de_name 5 rfl (vis_of rfl) rfl rfl) (by decide) (gnm_stay 5) (fun _ _ => rfl)) da_nil (fun _ => rfl)) (by decide) rfl (fun _ => rfl) (fun _ => rfl)) (fun _ => rfl))
    (dss_cons (ds_asg (sto_of rfl rfl) (de_or (de_cmp op_gtD (de_callB call_lenD' rfl Y.z_len rfl (da_cons (de_lc (di_seqC (de_name 3 rfl (vis_of rfl) rfl rfl)) (blkOk_by (own := [("_law_is_so", 6)]) (by decide +kernel)) (dg_name (sto_of rfl rfl)) (dts_one (dt_val (de_name 6 rfl (vis_of rfl) rfl rfl) (fun _ _ => rfl))) (de_name 6 rfl (vis_of rfl) rfl rfl) (by decide) (gnm_stay 6) (fun _ _ => rfl)) da_nil (fun _ => rfl)) (by decide) rfl (fun _ => rfl) (fun _ => rfl)) de_int rfl) (de_or (de_cmp op_gtD (de_bm PySem.F.plainAttrs_list PySem.F.slot_list_count PySem.F.type_list_count mt_countD (de_name 3 rfl (vis_of rfl) rfl rfl) (da_cons de_bl da_nil (fun _ => rfl)) (fun _ => rfl) (fun _ => rfl) rfl (fun _ => rfl) (fun _ => rfl)) de_int rfl) (de_one (de_cmp op_gtD (de_name 4 rfl (vis_of rfl) rfl rfl) (de_name 1 rfl (vis_of rfl) rfl rfl) rfl)))) (fun _ => rfl))
    (dss_one (ds_asg (sto_of rfl rfl) (de_if (dt_val (de_name 2 rfl (vis_of rfl) rfl rfl) (fun _ _ => rfl)) (de_slice sl_D (de_name 0 rfl (vis_of rfl) rfl rfl) do_none (do_some (de_un un_negD de_int))) (de_name 0 rfl (vis_of rfl) rfl rfl)) (fun _ => rfl)))))))
    (dss_one (ds_ret (de_name 0 rfl (vis_of rfl) rfl rfl)))))
theorem ok__law_bounded {G : GC} (Y : Fx G) : FnG G 3 Y.f__law_bounded Y.d__law_bounded ["_law_decls", "_law_functions"] (spM G.K 2 m_law_bounded) := fn_m Y.F__law_bounded sc__law_bounded (dss__law_bounded Y)
theorem dss__law_holding {G : GC} (Y : Fx G) : DSs G ⟨["_law_decls", "_law_other", "_law_found", "_law_decl", "_law_part"], defScope s__law_holding, fun _ => true, 1⟩ (defBody s__law_holding) b__law_holding :=
    (dss_cons (ds_asg (sto_of rfl rfl) (de_lst (da_cons (de_name 1 rfl (vis_of rfl) rfl rfl) da_nil (fun _ => rfl))) (fun _ => rfl))
    (dss_cons (ds_for (di_seq (de_name 0 rfl (vis_of rfl) rfl rfl)) (dg_name (sto_of rfl rfl)) (dss_one (ds_if (dt_cmp op_neD' (de_lc (di_seqC (de_call (ok__law_parts Y) (by decide) rfl Y.g__law_parts Y.F__law_parts.kp Y.b__law_parts (da_cons (de_name 3 rfl (vis_of rfl) rfl rfl) da_nil (fun _ => rfl)) rfl (fun _ => rfl) (fun _ => rfl) rfl (mcons_len mnil_len))) (blkOk_by (own := [("_law_part", 4)]) (by decide +kernel)) (dg_name (sto_of rfl rfl)) (dts_one (dt_cmp op_inD' (de_name 4 rfl (vis_of rfl) rfl rfl) (de_name 2 rfl (vis_of rfl) rfl rfl) rfl)) (de_name 4 rfl (vis_of rfl) rfl rfl) (by decide) (gnm_stay 4) (fun _ _ => rfl)) (de_lst da_nil) rfl) (dss_one (ds_expr (de_mut PySem.F.plainAttrs_list PySem.F.slot_list_append PySem.F.type_list_append mt_appendD rfl (vis_of rfl) rfl rfl (da_cons (de_ix ix_D (de_name 3 rfl (vis_of rfl) rfl rfl) de_int (fun _ _ => rfl)) da_nil (fun _ => rfl)) (fun _ => rfl) (fun _ => rfl) rfl (fun _ => rfl) (fun _ => rfl)) (fun _ => rfl))) dss_nil)) (fun _ _ => rfl))
    (dss_one (ds_ret (de_name 2 rfl (vis_of rfl) rfl rfl)))))
theorem ok__law_holding {G : GC} (Y : Fx G) : FnG G 2 Y.f__law_holding Y.d__law_holding ["_law_decls", "_law_other"] (spM G.K 2 m_law_holding) := fn_m Y.F__law_holding sc__law_holding (dss__law_holding Y)
theorem dss__law_is_once {G : GC} (Y : Fx G) : DSs G ⟨["_law_decls", "_law_kind"], defScope s__law_is_once, fun _ => true, 2⟩ (defBody s__law_is_once) b__law_is_once :=
    (dss_one (ds_ret (de_ix ix_D (de_call (ok__law_once_table Y) (by decide) rfl Y.g__law_once_table Y.F__law_once_table.kp Y.b__law_once_table (da_cons (de_name 0 rfl (vis_of rfl) rfl rfl) da_nil (fun _ => rfl)) rfl (fun _ => rfl) (fun _ => rfl) rfl (mcons_len mnil_len)) (de_name 1 rfl (vis_of rfl) rfl rfl) (fun _ _ => rfl))))
theorem ok__law_is_once {G : GC} (Y : Fx G) : FnG G 3 Y.f__law_is_once Y.d__law_is_once ["_law_decls", "_law_kind"] (spM G.K 2 m_law_is_once) := fn_m Y.F__law_is_once sc__law_is_once (dss__law_is_once Y)
theorem dss__law_is_int {G : GC} (Y : Fx G) : DSs G ⟨["_law_thing"], defScope s__law_is_int, fun _ => true, 0⟩ (defBody s__law_is_int) b__law_is_int :=
    (dss_one (ds_ret (de_and (de_isi (T := "int") (by decide) rfl (de_name 0 rfl (vis_of rfl) rfl rfl) rfl Y.z_isinstance rfl Y.z_int (by decide) rfl (fun _ => rfl)) (de_one (de_notV (de_isi (T := "bool") (by decide) rfl (de_name 0 rfl (vis_of rfl) rfl rfl) rfl Y.z_isinstance rfl Y.z_bool (by decide) rfl (fun _ => rfl)))))))
theorem ok__law_is_int {G : GC} (Y : Fx G) : FnG G 1 Y.f__law_is_int Y.d__law_is_int ["_law_thing"] (spM G.K 1 m_law_is_int) := fn_m Y.F__law_is_int sc__law_is_int (dss__law_is_int Y)
theorem dss__law_kinds {G : GC} (Y : Fx G) : DSs G ⟨["_law_decls", "_law_decl"], defScope s__law_kinds, fun _ => true, 0⟩ (defBody s__law_kinds) b__law_kinds :=
    (dss_one (ds_ret (de_op op_addD (de_lst (da_cons de_str (da_cons de_str da_nil (fun _ => rfl)) (fun _ => rfl))) (de_lc (di_seqC (de_name 0 rfl (vis_of rfl) rfl rfl)) (blkOk_by (own := [("_law_decl", 1)]) (by decide +kernel)) (dg_name (sto_of rfl rfl)) (dts_one (dt_cmp op_inD' (de_ix ix_D (de_name 1 rfl (vis_of rfl) rfl rfl) de_int (fun _ _ => rfl)) (de_tup (da_cons de_str (da_cons de_str (da_cons de_str (da_cons de_str da_nil (fun _ => rfl)) (fun _ => rfl)) (fun _ => rfl)) (fun _ => rfl))) rfl)) (de_ix ix_D (de_name 1 rfl (vis_of rfl) rfl rfl) de_int (fun _ _ => rfl)) (by decide) (gnm_stay 1) (fun _ _ => rfl)))))
theorem ok__law_kinds {G : GC} (Y : Fx G) : FnG G 1 Y.f__law_kinds Y.d__law_kinds ["_law_decls"] (spM G.K 1 m_law_kinds) := fn_m Y.F__law_kinds sc__law_kinds (dss__law_kinds Y)
theorem dss__law_is_stock {G : GC} (Y : Fx G) : DSs G ⟨["_law_decls", "_law_thing", "_law_kinds_here", "_law_one", "_law_at"], defScope s__law_is_stock, fun _ => true, 3⟩ (defBody s__law_is_stock) b__law_is_stock :=
    (dss_cons (ds_asg (sto_of rfl rfl) (de_slice sl_D (de_call (ok__law_kinds Y) (by decide) rfl Y.g__law_kinds Y.F__law_kinds.kp Y.b__law_kinds (da_cons (de_name 0 rfl (vis_of rfl) rfl rfl) da_nil (fun _ => rfl)) rfl (fun _ => rfl) (fun _ => rfl) rfl (mcons_len mnil_len)) (do_some de_int) do_none) (fun _ => rfl))
    (dss_cons (ds_if (dt_not (dt_val (de_isi (T := "tuple") (by decide) rfl (de_name 1 rfl (vis_of rfl) rfl rfl) rfl Y.z_isinstance rfl Y.z_tuple (by decide) rfl (fun _ => rfl)) (fun _ _ => rfl))) (dss_one (ds_ret de_bl)) dss_nil)
    (dss_cons (ds_for (di_seq (de_name 1 rfl (vis_of rfl) rfl rfl)) (dg_name (sto_of rfl rfl)) (dss_cons (ds_if (dt_w (dw_or (dt_not (dt_val (de_isi (T := "tuple") (by decide) rfl (de_name 3 rfl (vis_of rfl) rfl rfl) rfl Y.z_isinstance rfl Y.z_tuple (by decide) rfl (fun _ => rfl)) (fun _ _ => rfl))) (dw_or (dt_cmp op_neD' (de_callB call_lenD' rfl Y.z_len rfl (da_cons (de_name 3 rfl (vis_of rfl) rfl rfl) da_nil (fun _ => rfl)) (by decide) rfl (fun _ => rfl) (fun _ => rfl)) de_int rfl) (dw_or (dt_not (dt_val (de_isi (T := "str") (by decide) rfl (de_ix ix_D (de_name 3 rfl (vis_of rfl) rfl rfl) de_int (fun _ _ => rfl)) rfl Y.z_isinstance rfl Y.z_str (by decide) rfl (fun _ => rfl)) (fun _ _ => rfl))) (dw_one (dt_not (dt_val (de_call (ok__law_is_int Y) (by decide) rfl Y.g__law_is_int Y.F__law_is_int.kp Y.b__law_is_int (da_cons (de_ix ix_D (de_name 3 rfl (vis_of rfl) rfl rfl) de_int (fun _ _ => rfl)) da_nil (fun _ => rfl)) rfl (fun _ => rfl) (fun _ => rfl) rfl (mcons_len mnil_len)) (fun _ _ => rfl)))))))) (dss_one (ds_ret de_bl)) dss_nil)
    (dss_one (ds_if (dt_w (dw_or (dt_cmp op_notInD' (de_ix ix_D (de_name 3 rfl (vis_of rfl) rfl rfl) de_int (fun _ _ => rfl)) (de_name 2 rfl (vis_of rfl) rfl rfl) rfl) (dw_or (dt_cmp op_ltD (de_ix ix_D (de_name 3 rfl (vis_of rfl) rfl rfl) de_int (fun _ _ => rfl)) de_int rfl) (dw_one (dt_w (dw_and (dt_cmp op_gtD (de_ix ix_D (de_name 3 rfl (vis_of rfl) rfl rfl) de_int (fun _ _ => rfl)) de_int rfl) (dw_one (dt_not (dt_val (de_call (ok__law_is_once Y) (by decide) rfl Y.g__law_is_once Y.F__law_is_once.kp Y.b__law_is_once (da_cons (de_name 0 rfl (vis_of rfl) rfl rfl) (da_cons (de_ix ix_D (de_name 3 rfl (vis_of rfl) rfl rfl) de_int (fun _ _ => rfl)) da_nil (fun _ => rfl)) (fun _ => rfl)) rfl (fun _ => rfl) (fun _ => rfl) rfl (mcons_len (mcons_len mnil_len))) (fun _ _ => rfl)))))))))) (dss_one (ds_ret de_bl)) dss_nil))) (fun _ _ => rfl))
    (dss_one (ds_ret (de_cmp op_eqD' (de_lc (di_range1 rfl Y.z_range (da_cons (de_op op_subD (de_callB call_lenD' rfl Y.z_len rfl (da_cons (de_name 1 rfl (vis_of rfl) rfl rfl) da_nil (fun _ => rfl)) (by decide) rfl (fun _ => rfl) (fun _ => rfl)) de_int) da_nil (fun _ => rfl)) (fun _ => rfl)) (blkOk_by (own := [("_law_at", 4)]) (by decide +kernel)) (dg_name (sto_of rfl rfl)) (dts_one (dt_cmp op_geD (de_ix ix_D (de_ix ix_D (de_name 1 rfl (vis_of rfl) rfl rfl) (de_name 4 rfl (vis_of rfl) rfl rfl) (fun _ _ => rfl)) de_int (fun _ _ => rfl)) (de_ix ix_D (de_ix ix_D (de_name 1 rfl (vis_of rfl) rfl rfl) (de_op op_addD (de_name 4 rfl (vis_of rfl) rfl rfl) de_int) (fun _ _ => rfl)) de_int (fun _ _ => rfl)) rfl)) (de_name 4 rfl (vis_of rfl) rfl rfl) (by decide) (gnm_stay 4) (fun _ _ => rfl)) (de_lst da_nil) rfl))))))
theorem ok__law_is_stock {G : GC} (Y : Fx G) : FnG G 4 Y.f__law_is_stock Y.d__law_is_stock ["_law_decls", "_law_thing"] (spM G.K 2 m_law_is_stock) := fn_m Y.F__law_is_stock sc__law_is_stock (dss__law_is_stock Y)
theorem dss__law_declared {G : GC} (Y : Fx G) : DSs G ⟨["_law_decls", "_law_found", "_law_decl", "_law_arm", "_law_kind"], defScope s__law_declared, fun _ => true, 0⟩ (defBody s__law_declared) b__law_declared :=
    (dss_cons (ds_setLc rfl rfl rfl rfl rfl (di_seqC (de_name 0 rfl (vis_of rfl) rfl rfl)) (blkOk_by (own := [("_law_decl", 2)]) (by decide +kernel)) (dg_name (sto_of rfl rfl)) dts_nil (de_ix ix_D (de_name 2 rfl (vis_of rfl) rfl rfl) de_int (fun _ _ => rfl)) (by decide) (gnm_stay 2) (fun _ _ => rfl))
    (dss_cons (ds_for (di_seq (de_name 0 rfl (vis_of rfl) rfl rfl)) (dg_name (sto_of rfl rfl)) (dss_one (ds_if (dt_cmp op_eqD' (de_ix ix_D (de_name 2 rfl (vis_of rfl) rfl rfl) de_int (fun _ _ => rfl)) de_str rfl) (dss_one (ds_expr (de_mut PySem.F.plainAttrs_list PySem.F.slot_list_extend PySem.F.type_list_extend mt_extendD rfl (vis_of rfl) rfl rfl (da_cons (de_lc (di_seqC (de_ix ix_D (de_name 2 rfl (vis_of rfl) rfl rfl) de_int (fun _ _ => rfl))) (blkOk_by (own := [("_law_arm", 3), ("_law_kind", 4)]) (by decide +kernel)) (dg_tup (fun X c => (pgsN_cons c (sto_of rfl rfl) (pgsN_cons c (sto_of rfl rfl) pgsN_nil rfl) rfl)) (fun _ => rfl) (fun _ => rfl)) dts_nil (de_name 3 rfl (vis_of rfl) rfl rfl) (by decide) (gtup_stay [3, 4]) (fun _ _ => rfl)) da_nil (fun _ => rfl)) (fun _ => rfl) (fun _ => rfl) rfl (fun _ => rfl) (fun _ => rfl)) (fun _ => rfl))) dss_nil)) (fun _ _ => rfl))
    (dss_one (ds_ret (de_name 1 rfl (vis_of rfl) rfl rfl)))))
theorem ok__law_declared {G : GC} (Y : Fx G) : FnG G 1 Y.f__law_declared Y.d__law_declared ["_law_decls"] (spM G.K 1 m_law_declared) := fn_m Y.F__law_declared sc__law_declared (dss__law_declared Y)
theorem dss__law_take {G : GC} (Y : Fx G) : DSs G ⟨["_law_bag_here", "_law_many", "_law_begin", "_law_second", "_law_cell", "_law_stirred", "_law_value"], defScope s__law_take, fun _ => true, 0⟩ (defBody s__law_take) b__law_take :=
    (dss_cons (ds_if (dt_cmp op_eqD' (de_ix ix_D (de_name 0 rfl (vis_of rfl) rfl rfl) de_int (fun _ _ => rfl)) de_int rfl) (dss_cons (ds_asg (sto_of rfl rfl) (de_ix ix_D (de_op op_addD (de_slice sl_D (de_ix ix_D (de_name 0 rfl (vis_of rfl) rfl rfl) de_int (fun _ _ => rfl)) (do_some (de_ix ix_D (de_name 0 rfl (vis_of rfl) rfl rfl) de_int (fun _ _ => rfl))) do_none) (de_lst (da_cons de_int da_nil (fun _ => rfl)))) de_int (fun _ _ => rfl)) (fun _ => rfl))
    (dss_cons (ds_augL rfl (vis_of rfl) rfl rfl de_int de_int iop_addI (fun _ _ _ => rfl))
    (dss_cons (ds_if (dt_cmp op_geD (de_name 4 rfl (vis_of rfl) rfl rfl) (de_op op_powD de_int de_int) rfl) (dss_one (ds_put rfl (vis_of rfl) rfl rfl de_int (de_name 4 rfl (vis_of rfl) rfl rfl) (fun _ => rfl) (fun _ => rfl) (fun _ => rfl) (fun _ => rfl) (fun _ _ => rfl))) dss_nil)
    (dss_cons (ds_asg (sto_of rfl rfl) (de_op op_addD (de_op op_addD (de_op op_mulD (de_ix ix_D (de_name 0 rfl (vis_of rfl) rfl rfl) de_int (fun _ _ => rfl)) de_int) (de_op op_modD (de_callTy call_intD rfl Y.z_int rfl (da_cons (de_name 4 rfl (vis_of rfl) rfl rfl) da_nil (fun _ => rfl)) (by decide) rfl (fun _ => rfl) (fun _ => rfl)) de_int)) (de_op op_mulD de_int (de_ix ix_D (de_name 0 rfl (vis_of rfl) rfl rfl) de_int (fun _ _ => rfl)))) (fun _ => rfl))
    (dss_one (ds_put rfl (vis_of rfl) rfl rfl de_int (de_op op_modD (de_callTy call_intD rfl Y.z_int rfl (da_cons (de_name 5 rfl (vis_of rfl) rfl rfl) da_nil (fun _ => rfl)) (by decide) rfl (fun _ => rfl) (fun _ => rfl)) de_int) (fun _ => rfl) (fun _ => rfl) (fun _ => rfl) (fun _ => rfl) (fun _ _ => rfl))))))) dss_nil)
    (dss_cons (ds_if (dt_cmp op_gtD (de_ix ix_D (de_name 0 rfl (vis_of rfl) rfl rfl) de_int (fun _ _ => rfl)) de_int rfl) (dss_cons (ds_asg (sto_of rfl rfl) (de_op op_modD (de_callTy call_intD rfl Y.z_int rfl (da_cons (de_ix ix_D (de_name 0 rfl (vis_of rfl) rfl rfl) de_int (fun _ _ => rfl)) da_nil (fun _ => rfl)) (by decide) rfl (fun _ => rfl) (fun _ => rfl)) (de_name 1 rfl (vis_of rfl) rfl rfl)) (fun _ => rfl))
    (dss_cons (ds_put rfl (vis_of rfl) rfl rfl de_int (de_op op_fdivD (de_callTy call_intD rfl Y.z_int rfl (da_cons (de_ix ix_D (de_name 0 rfl (vis_of rfl) rfl rfl) de_int (fun _ _ => rfl)) da_nil (fun _ => rfl)) (by decide) rfl (fun _ => rfl) (fun _ => rfl)) (de_name 1 rfl (vis_of rfl) rfl rfl)) (fun _ => rfl) (fun _ => rfl) (fun _ => rfl) (fun _ => rfl) (fun _ _ => rfl))
    (dss_one (ds_ret (de_name 6 rfl (vis_of rfl) rfl rfl))))) dss_nil)
    (dss_cons (ds_asg (sto_of rfl rfl) (de_op op_modD (de_callTy call_intD rfl Y.z_int rfl (da_cons (de_op op_mulD (de_op op_addD (de_ix ix_D (de_name 0 rfl (vis_of rfl) rfl rfl) de_int (fun _ _ => rfl)) de_int) de_int) da_nil (fun _ => rfl)) (by decide) rfl (fun _ => rfl) (fun _ => rfl)) de_int) (fun _ => rfl))
    (dss_cons (ds_asg (sto_of rfl rfl) (de_op op_modD (de_callTy call_intD rfl Y.z_int rfl (da_cons (de_op op_mulD (de_op op_modD (de_callTy call_intD rfl Y.z_int rfl (da_cons (de_op op_mulD (de_name 2 rfl (vis_of rfl) rfl rfl) (de_name 2 rfl (vis_of rfl) rfl rfl)) da_nil (fun _ => rfl)) (by decide) rfl (fun _ => rfl) (fun _ => rfl)) de_int) de_int) da_nil (fun _ => rfl)) (by decide) rfl (fun _ => rfl) (fun _ => rfl)) de_int) (fun _ => rfl))
    (dss_one (ds_ret (de_op op_modD (de_callTy call_intD rfl Y.z_int rfl (da_cons (de_op op_fdivD (de_name 3 rfl (vis_of rfl) rfl rfl) de_int) da_nil (fun _ => rfl)) (by decide) rfl (fun _ => rfl) (fun _ => rfl)) (de_name 1 rfl (vis_of rfl) rfl rfl))))))))
theorem ok__law_take {G : GC} (Y : Fx G) : FnG G 1 Y.f__law_take Y.d__law_take ["_law_bag_here", "_law_many"] (spM G.K 2 m_law_take) := fn_m Y.F__law_take sc__law_take (dss__law_take Y)
theorem dss__law_mixed {G : GC} (Y : Fx G) : DSs G ⟨["_law_bag_here", "_law_things", "_law_found", "_law_thing"], defScope s__law_mixed, fun _ => true, 1⟩ (defBody s__law_mixed) b__law_mixed :=
    (dss_cons (ds_asg (sto_of rfl rfl) (de_lst da_nil) (fun _ => rfl))
    (dss_cons (ds_for (di_seq (de_name 1 rfl (vis_of rfl) rfl rfl)) (dg_name (sto_of rfl rfl)) (dss_one (ds_expr (de_mut PySem.F.plainAttrs_list PySem.F.slot_list_insert PySem.F.type_list_insert mt_insertD rfl (vis_of rfl) rfl rfl (da_cons (de_call (ok__law_take Y) (by decide) rfl Y.g__law_take Y.F__law_take.kp Y.b__law_take (da_cons (de_name 0 rfl (vis_of rfl) rfl rfl) (da_cons (de_op op_addD (de_callB call_lenD' rfl Y.z_len rfl (da_cons (de_name 2 rfl (vis_of rfl) rfl rfl) da_nil (fun _ => rfl)) (by decide) rfl (fun _ => rfl) (fun _ => rfl)) de_int) da_nil (fun _ => rfl)) (fun _ => rfl)) rfl (fun _ => rfl) (fun _ => rfl) rfl (mcons_len (mcons_len mnil_len))) (da_cons (de_name 3 rfl (vis_of rfl) rfl rfl) da_nil (fun _ => rfl)) (fun _ => rfl)) (fun _ => rfl) (fun _ => rfl) rfl (fun _ => rfl) (fun _ => rfl)) (fun _ => rfl))) (fun _ _ => rfl))
    (dss_one (ds_ret (de_name 2 rfl (vis_of rfl) rfl rfl)))))
theorem ok__law_mixed {G : GC} (Y : Fx G) : FnG G 2 Y.f__law_mixed Y.d__law_mixed ["_law_bag_here", "_law_things"] (spM G.K 2 m_law_mixed) := fn_m Y.F__law_mixed sc__law_mixed (dss__law_mixed Y)
theorem dss__law_some {G : GC} (Y : Fx G) : DSs G ⟨["_law_bag_here", "_law_things"], defScope s__law_some, fun _ => true, 1⟩ (defBody s__law_some) b__law_some :=
    (dss_one (ds_ret (de_ix ix_D (de_name 1 rfl (vis_of rfl) rfl rfl) (de_call (ok__law_take Y) (by decide) rfl Y.g__law_take Y.F__law_take.kp Y.b__law_take (da_cons (de_name 0 rfl (vis_of rfl) rfl rfl) (da_cons (de_callB call_lenD' rfl Y.z_len rfl (da_cons (de_name 1 rfl (vis_of rfl) rfl rfl) da_nil (fun _ => rfl)) (by decide) rfl (fun _ => rfl) (fun _ => rfl)) da_nil (fun _ => rfl)) (fun _ => rfl)) rfl (fun _ => rfl) (fun _ => rfl) rfl (mcons_len (mcons_len mnil_len))) (fun _ _ => rfl))))
theorem ok__law_some {G : GC} (Y : Fx G) : FnG G 2 Y.f__law_some Y.d__law_some ["_law_bag_here", "_law_things"] (spM G.K 2 m_law_some) := fn_m Y.F__law_some sc__law_some (dss__law_some Y)
theorem dss__law_new_name {G : GC} (Y : Fx G) : DSs G ⟨["_law_bag_here", "_law_taken", "_law_menu", "_law_turn", "_law_at", "_law_name"], defScope s__law_new_name, fun _ => true, 2⟩ (defBody s__law_new_name) b__law_new_name :=
    (dss_cons (ds_asg (sto_of rfl rfl) (de_lst (da_cons de_str (da_cons de_str (da_cons de_str (da_cons de_str (da_cons de_str (da_cons de_str (da_cons de_str (da_cons de_str (da_cons de_str (da_cons de_str (da_cons de_str (da_cons de_str (da_cons de_str (da_cons de_str (da_cons de_str (da_cons de_str (da_cons de_str da_nil (fun _ => rfl)) (fun _ => rfl)) (fun _ => rfl)) (fun _ => rfl)) (fun _ => rfl)) (fun _ => rfl)) (fun _ => rfl)) (fun _ => rfl)) (fun _ => rfl)) (fun _ => rfl)) (fun _ => rfl)) (fun _ => rfl)) (fun _ => rfl)) (fun _ => rfl)) (fun _ => rfl)) (fun _ => rfl)) (fun _ => rfl))) (fun _ => rfl))
    (dss_cons (ds_for (di_range1 rfl Y.z_range (da_cons de_int da_nil (fun _ => rfl)) (fun _ => rfl)) (dg_name (sto_of rfl rfl)) (dss_cons (ds_asg (sto_of rfl rfl) (de_call (ok__law_some Y) (by decide) rfl Y.g__law_some Y.F__law_some.kp Y.b__law_some (da_cons (de_name 0 rfl (vis_of rfl) rfl rfl) (da_cons (de_name 2 rfl (vis_of rfl) rfl rfl) da_nil (fun _ => rfl)) (fun _ => rfl)) rfl (fun _ => rfl) (fun _ => rfl) rfl (mcons_len (mcons_len mnil_len))) (fun _ => rfl))
    (dss_one (ds_if (dt_cmp op_notInD' (de_name 5 rfl (vis_of rfl) rfl rfl) (de_name 1 rfl (vis_of rfl) rfl rfl) rfl) (dss_one (ds_ret (de_name 5 rfl (vis_of rfl) rfl rfl))) dss_nil))) (fun _ _ => rfl))
    (dss_cons (ds_asg (sto_of rfl rfl) de_int (fun _ => rfl))
    (dss_cons (ds_while (dt_cmp op_inD' (de_op op_addD de_str (de_callTy call_strD rfl Y.z_str rfl (da_cons (de_name 4 rfl (vis_of rfl) rfl rfl) da_nil (fun _ => rfl)) (by decide) rfl (fun _ => rfl) (fun _ => rfl))) (de_name 1 rfl (vis_of rfl) rfl rfl) rfl) (dss_one (ds_aug (sto_of rfl rfl) de_int iop_addI)))
    (dss_one (ds_ret (de_op op_addD de_str (de_callTy call_strD rfl Y.z_str rfl (da_cons (de_name 4 rfl (vis_of rfl) rfl rfl) da_nil (fun _ => rfl)) (by decide) rfl (fun _ => rfl) (fun _ => rfl)))))))))
theorem ok__law_new_name {G : GC} (Y : Fx G) : FnG G 3 Y.f__law_new_name Y.d__law_new_name ["_law_bag_here", "_law_taken"] (spM G.K 2 m_law_new_name) := fn_m Y.F__law_new_name sc__law_new_name (dss__law_new_name Y)
theorem dss__law_shaped {G : GC} (Y : Fx G) : DSs G ⟨["_law_bag_here", "_law_decls", "_law_word", "_law_taken", "_law_kinds_here", "_law_name", "_law_many", "_law_arms", "_law_turn", "_law_some_here", "_law_fields", "_law_arm", "_law_field", "_law_one", "_law_kind"], defScope s__law_shaped, fun _ => true, 3⟩ (defBody s__law_shaped) b__law_shaped :=
    (dss_cons (ds_parC (sto_of rfl rfl) (sto_of rfl rfl) (de_call (ok__law_declared Y) (by decide) rfl Y.g__law_declared Y.F__law_declared.kp Y.b__law_declared (da_cons (de_name 1 rfl (vis_of rfl) rfl rfl) da_nil (fun _ => rfl)) rfl (fun _ => rfl) (fun _ => rfl) rfl (mcons_len mnil_len)) (de_call (ok__law_kinds Y) (by decide) rfl Y.g__law_kinds Y.F__law_kinds.kp Y.b__law_kinds (da_cons (de_name 1 rfl (vis_of rfl) rfl rfl) da_nil (fun _ => rfl)) rfl (fun _ => rfl) (fun _ => rfl) rfl (mcons_len mnil_len)) (fun _ => rfl) (fun _ => rfl) (fun env h => by cases env; cases h; rfl) (fun env h => by cases env; cases h; rfl) (fun _ => rfl) (fun _ => rfl) (fun _ => rfl) (fun _ => rfl) (fun _ => rfl))
    (dss_cons (ds_asg (sto_of rfl rfl) (de_call (ok__law_new_name Y) (by decide) rfl Y.g__law_new_name Y.F__law_new_name.kp Y.b__law_new_name (da_cons (de_name 0 rfl (vis_of rfl) rfl rfl) (da_cons (de_name 3 rfl (vis_of rfl) rfl rfl) da_nil (fun _ => rfl)) (fun _ => rfl)) rfl (fun _ => rfl) (fun _ => rfl) rfl (mcons_len (mcons_len mnil_len))) (fun _ => rfl))
    (dss_cons (ds_asg (sto_of rfl rfl) (de_call (ok__law_some Y) (by decide) rfl Y.g__law_some Y.F__law_some.kp Y.b__law_some (da_cons (de_name 0 rfl (vis_of rfl) rfl rfl) (da_cons (de_lst (da_cons de_int (da_cons de_int (da_cons de_int (da_cons de_int da_nil (fun _ => rfl)) (fun _ => rfl)) (fun _ => rfl)) (fun _ => rfl))) da_nil (fun _ => rfl)) (fun _ => rfl)) rfl (fun _ => rfl) (fun _ => rfl) rfl (mcons_len (mcons_len mnil_len))) (fun _ => rfl))
    (dss_cons (ds_if (dt_cmp op_eqD' (de_name 2 rfl (vis_of rfl) rfl rfl) de_str rfl) (dss_cons (ds_asg (sto_of rfl rfl) (de_callTy call_tupleD rfl Y.z_tuple rfl (da_cons (de_lc (di_range1 rfl Y.z_range (da_cons (de_call (ok__law_some Y) (by decide) rfl Y.g__law_some Y.F__law_some.kp Y.b__law_some (da_cons (de_name 0 rfl (vis_of rfl) rfl rfl) (da_cons (de_lst (da_cons de_int (da_cons de_int (da_cons de_int (da_cons de_int da_nil (fun _ => rfl)) (fun _ => rfl)) (fun _ => rfl)) (fun _ => rfl))) da_nil (fun _ => rfl)) (fun _ => rfl)) rfl (fun _ => rfl) (fun _ => rfl) rfl (mcons_len (mcons_len mnil_len))) da_nil (fun _ => rfl)) (fun _ => rfl)) (blkOk_by (own := [("_law_turn", 8)]) (by decide +kernel)) (dg_name (sto_of rfl rfl)) dts_nil (de_call (ok__law_some Y) (by decide) rfl Y.g__law_some Y.F__law_some.kp Y.b__law_some (da_cons (de_name 0 rfl (vis_of rfl) rfl rfl) (da_cons (de_name 4 rfl (vis_of rfl) rfl rfl) da_nil (fun _ => rfl)) (fun _ => rfl)) rfl (fun _ => rfl) (fun _ => rfl) rfl (mcons_len (mcons_len mnil_len))) (by decide) (gnm_stay 8) (fun _ _ => rfl)) da_nil (fun _ => rfl)) (by decide) rfl (fun _ => rfl) (fun _ => rfl)) (fun _ => rfl))
    (dss_one (ds_ret (de_tup (da_cons de_str (da_cons (de_name 5 rfl (vis_of rfl) rfl rfl) (da_cons (de_name 9 rfl (vis_of rfl) rfl rfl) (da_cons (de_call (ok__law_some Y) (by decide) rfl Y.g__law_some Y.F__law_some.kp Y.b__law_some (da_cons (de_name 0 rfl (vis_of rfl) rfl rfl) (da_cons (de_op op_addD (de_slice sl_D (de_name 4 rfl (vis_of rfl) rfl rfl) (do_some de_int) do_none) (de_name 4 rfl (vis_of rfl) rfl rfl)) da_nil (fun _ => rfl)) (fun _ => rfl)) rfl (fun _ => rfl) (fun _ => rfl) rfl (mcons_len (mcons_len mnil_len))) da_nil (fun _ => rfl)) (fun _ => rfl)) (fun _ => rfl)) (fun _ => rfl)))))) dss_nil)
    (dss_cons (ds_if (dt_cmp op_eqD' (de_name 2 rfl (vis_of rfl) rfl rfl) de_str rfl) (dss_cons (ds_asg (sto_of rfl rfl) (de_slice sl_D (de_call (ok__law_mixed Y) (by decide) rfl Y.g__law_mixed Y.F__law_mixed.kp Y.b__law_mixed (da_cons (de_name 0 rfl (vis_of rfl) rfl rfl) (da_cons (de_op op_addD (de_lc (di_seqC (de_lst (da_cons de_str (da_cons de_str (da_cons de_str (da_cons de_str da_nil (fun _ => rfl)) (fun _ => rfl)) (fun _ => rfl)) (fun _ => rfl)))) (blkOk_by (own := [("_law_one", 13)]) (by decide +kernel)) (dg_name (sto_of rfl rfl)) (dts_one (dt_cmp op_neD' (de_name 13 rfl (vis_of rfl) rfl rfl) (de_name 5 rfl (vis_of rfl) rfl rfl) rfl)) (de_name 13 rfl (vis_of rfl) rfl rfl) (by decide) (gnm_stay 13) (fun _ _ => rfl)) (de_lst (da_cons (de_name 5 rfl (vis_of rfl) rfl rfl) da_nil (fun _ => rfl)))) da_nil (fun _ => rfl)) (fun _ => rfl)) rfl (fun _ => rfl) (fun _ => rfl) rfl (mcons_len (mcons_len mnil_len))) do_none (do_some (de_name 6 rfl (vis_of rfl) rfl rfl))) (fun _ => rfl))
    (dss_one (ds_ret (de_tup (da_cons de_str (da_cons (de_name 5 rfl (vis_of rfl) rfl rfl) (da_cons (de_callTy call_tupleD rfl Y.z_tuple rfl (da_cons (de_lc (di_seqC (de_name 10 rfl (vis_of rfl) rfl rfl)) (blkOk_by (own := [("_law_field", 12)]) (by decide +kernel)) (dg_name (sto_of rfl rfl)) dts_nil (de_tup (da_cons (de_name 12 rfl (vis_of rfl) rfl rfl) (da_cons (de_call (ok__law_some Y) (by decide) rfl Y.g__law_some Y.F__law_some.kp Y.b__law_some (da_cons (de_name 0 rfl (vis_of rfl) rfl rfl) (da_cons (de_name 4 rfl (vis_of rfl) rfl rfl) da_nil (fun _ => rfl)) (fun _ => rfl)) rfl (fun _ => rfl) (fun _ => rfl) rfl (mcons_len (mcons_len mnil_len))) da_nil (fun _ => rfl)) (fun _ => rfl))) (by decide) (gnm_stay 12) (fun _ _ => rfl)) da_nil (fun _ => rfl)) (by decide) rfl (fun _ => rfl) (fun _ => rfl)) da_nil (fun _ => rfl)) (fun _ => rfl)) (fun _ => rfl)))))) dss_nil)
    (dss_cons (ds_asg (sto_of rfl rfl) (de_lst da_nil) (fun _ => rfl))
    (dss_cons (ds_for (di_range1 rfl Y.z_range (da_cons (de_name 6 rfl (vis_of rfl) rfl rfl) da_nil (fun _ => rfl)) (fun _ => rfl)) (dg_name (sto_of rfl rfl)) (dss_cons (ds_asg (sto_of rfl rfl) (de_call (ok__law_new_name Y) (by decide) rfl Y.g__law_new_name Y.F__law_new_name.kp Y.b__law_new_name (da_cons (de_name 0 rfl (vis_of rfl) rfl rfl) (da_cons (de_op op_addD (de_op op_addD (de_name 3 rfl (vis_of rfl) rfl rfl) (de_lst (da_cons (de_name 5 rfl (vis_of rfl) rfl rfl) da_nil (fun _ => rfl)))) (de_lc (di_seqC (de_name 7 rfl (vis_of rfl) rfl rfl)) (blkOk_by (own := [("_law_one", 13), ("_law_kind", 14)]) (by decide +kernel)) (dg_tup (fun X c => (pgsN_cons c (sto_of rfl rfl) (pgsN_cons c (sto_of rfl rfl) pgsN_nil rfl) rfl)) (fun _ => rfl) (fun _ => rfl)) dts_nil (de_name 13 rfl (vis_of rfl) rfl rfl) (by decide) (gtup_stay [13, 14]) (fun _ _ => rfl))) da_nil (fun _ => rfl)) (fun _ => rfl)) rfl (fun _ => rfl) (fun _ => rfl) rfl (mcons_len (mcons_len mnil_len))) (fun _ => rfl))
    (dss_one (ds_expr (de_mut PySem.F.plainAttrs_list PySem.F.slot_list_append PySem.F.type_list_append mt_appendD rfl (vis_of rfl) rfl rfl (da_cons (de_tup (da_cons (de_name 11 rfl (vis_of rfl) rfl rfl) (da_cons (de_call (ok__law_some Y) (by decide) rfl Y.g__law_some Y.F__law_some.kp Y.b__law_some (da_cons (de_name 0 rfl (vis_of rfl) rfl rfl) (da_cons (de_op op_addD (de_name 4 rfl (vis_of rfl) rfl rfl) (de_lst (da_cons de_non (da_cons de_non da_nil (fun _ => rfl)) (fun _ => rfl)))) da_nil (fun _ => rfl)) (fun _ => rfl)) rfl (fun _ => rfl) (fun _ => rfl) rfl (mcons_len (mcons_len mnil_len))) da_nil (fun _ => rfl)) (fun _ => rfl))) da_nil (fun _ => rfl)) (fun _ => rfl) (fun _ => rfl) rfl (fun _ => rfl) (fun _ => rfl)) (fun _ => rfl)))) (fun _ _ => rfl))
    (dss_one (ds_ret (de_tup (da_cons de_str (da_cons (de_name 5 rfl (vis_of rfl) rfl rfl) (da_cons (de_callTy call_tupleD rfl Y.z_tuple rfl (da_cons (de_name 7 rfl (vis_of rfl) rfl rfl) da_nil (fun _ => rfl)) (by decide) rfl (fun _ => rfl) (fun _ => rfl)) da_nil (fun _ => rfl)) (fun _ => rfl)) (fun _ => rfl))))))))))))
theorem ok__law_shaped {G : GC} (Y : Fx G) : FnG G 4 Y.f__law_shaped Y.d__law_shaped ["_law_bag_here", "_law_decls", "_law_word"] (spM G.K 3 m_law_shaped) := fn_m Y.F__law_shaped sc__law_shaped (dss__law_shaped Y)
theorem dss__law_library {G : GC} (Y : Fx G) : DSs G ⟨["_law_bag_here", "_law_most", "_law_decls", "_law_words", "_law_word", "_law_many", "_law_rest"], defScope s__law_library, fun _ => true, 4⟩ (defBody s__law_library) b__law_library :=
    (dss_cons (ds_par rfl rfl (by decide) rfl rfl (de_lst da_nil) (de_lst da_nil) (fun _ => rfl) (fun _ => rfl) (fun env h => by cases env; cases h; rfl) (fun env h => by cases env; cases h; rfl))
    (dss_cons (ds_for (di_seq (de_tup (da_cons (de_tup (da_cons de_str (da_cons (de_call (ok__law_some Y) (by decide) rfl Y.g__law_some Y.F__law_some.kp Y.b__law_some (da_cons (de_name 0 rfl (vis_of rfl) rfl rfl) (da_cons (de_lst (da_cons de_int (da_cons de_int (da_cons de_int (da_cons de_int da_nil (fun _ => rfl)) (fun _ => rfl)) (fun _ => rfl)) (fun _ => rfl))) da_nil (fun _ => rfl)) (fun _ => rfl)) rfl (fun _ => rfl) (fun _ => rfl) rfl (mcons_len (mcons_len mnil_len))) da_nil (fun _ => rfl)) (fun _ => rfl))) (da_cons (de_tup (da_cons de_str (da_cons (de_call (ok__law_some Y) (by decide) rfl Y.g__law_some Y.F__law_some.kp Y.b__law_some (da_cons (de_name 0 rfl (vis_of rfl) rfl rfl) (da_cons (de_lst (da_cons de_int (da_cons de_int (da_cons de_int (da_cons de_int da_nil (fun _ => rfl)) (fun _ => rfl)) (fun _ => rfl)) (fun _ => rfl))) da_nil (fun _ => rfl)) (fun _ => rfl)) rfl (fun _ => rfl) (fun _ => rfl) rfl (mcons_len (mcons_len mnil_len))) da_nil (fun _ => rfl)) (fun _ => rfl))) da_nil (fun _ => rfl)) (fun _ => rfl)))) (dg_tup (fun X c => (pgsN_cons c (sto_of rfl rfl) (pgsN_cons c (sto_of rfl rfl) pgsN_nil rfl) rfl)) (fun _ => rfl) (fun _ => rfl)) (dss_one (ds_expr (de_mut PySem.F.plainAttrs_list PySem.F.slot_list_extend PySem.F.type_list_extend mt_extendD rfl (vis_of rfl) rfl rfl (da_cons (de_op op_mulD (de_lst (da_cons (de_name 4 rfl (vis_of rfl) rfl rfl) da_nil (fun _ => rfl))) (de_name 5 rfl (vis_of rfl) rfl rfl)) da_nil (fun _ => rfl)) (fun _ => rfl) (fun _ => rfl) rfl (fun _ => rfl) (fun _ => rfl)) (fun _ => rfl))) (fun _ _ => rfl))
    (dss_cons (ds_asg (sto_of rfl rfl) (de_call (ok__law_mixed Y) (by decide) rfl Y.g__law_mixed Y.F__law_mixed.kp Y.b__law_mixed (da_cons (de_name 0 rfl (vis_of rfl) rfl rfl) (da_cons (de_name 3 rfl (vis_of rfl) rfl rfl) da_nil (fun _ => rfl)) (fun _ => rfl)) rfl (fun _ => rfl) (fun _ => rfl) rfl (mcons_len (mcons_len mnil_len))) (fun _ => rfl))
    (dss_cons (ds_asg (sto_of rfl rfl) (de_lst (da_cons de_str (da_cons de_str (da_cons de_str (da_cons de_str (da_cons de_str (da_cons de_str (da_cons de_str da_nil (fun _ => rfl)) (fun _ => rfl)) (fun _ => rfl)) (fun _ => rfl)) (fun _ => rfl)) (fun _ => rfl)) (fun _ => rfl))) (fun _ => rfl))
    (dss_cons (ds_while (dt_w (dw_and (dt_cmp op_ltD (de_callB call_lenD' rfl Y.z_len rfl (da_cons (de_name 3 rfl (vis_of rfl) rfl rfl) da_nil (fun _ => rfl)) (by decide) rfl (fun _ => rfl) (fun _ => rfl)) (de_name 1 rfl (vis_of rfl) rfl rfl) rfl) (dw_one (dt_cmp op_gtD (de_call (ok__law_take Y) (by decide) rfl Y.g__law_take Y.F__law_take.kp Y.b__law_take (da_cons (de_name 0 rfl (vis_of rfl) rfl rfl) (da_cons de_int da_nil (fun _ => rfl)) (fun _ => rfl)) rfl (fun _ => rfl) (fun _ => rfl) rfl (mcons_len (mcons_len mnil_len))) de_int rfl)))) (dss_one (ds_expr (de_mut PySem.F.plainAttrs_list PySem.F.slot_list_append PySem.F.type_list_append mt_appendD rfl (vis_of rfl) rfl rfl (da_cons (de_if (dt_cmp op_gtD (de_call (ok__law_take Y) (by decide) rfl Y.g__law_take Y.F__law_take.kp Y.b__law_take (da_cons (de_name 0 rfl (vis_of rfl) rfl rfl) (da_cons de_int da_nil (fun _ => rfl)) (fun _ => rfl)) rfl (fun _ => rfl) (fun _ => rfl) rfl (mcons_len (mcons_len mnil_len))) de_int rfl) (de_ix ix_D (de_name 6 rfl (vis_of rfl) rfl rfl) (de_call (ok__law_take Y) (by decide) rfl Y.g__law_take Y.F__law_take.kp Y.b__law_take (da_cons (de_name 0 rfl (vis_of rfl) rfl rfl) (da_cons (de_callB call_lenD' rfl Y.z_len rfl (da_cons (de_name 6 rfl (vis_of rfl) rfl rfl) da_nil (fun _ => rfl)) (by decide) rfl (fun _ => rfl) (fun _ => rfl)) da_nil (fun _ => rfl)) (fun _ => rfl)) rfl (fun _ => rfl) (fun _ => rfl) rfl (mcons_len (mcons_len mnil_len))) (fun _ _ => rfl)) de_str) da_nil (fun _ => rfl)) (fun _ => rfl) (fun _ => rfl) rfl (fun _ => rfl) (fun _ => rfl)) (fun _ => rfl))))
    (dss_cons (ds_for (di_seq (de_slice sl_D (de_name 3 rfl (vis_of rfl) rfl rfl) do_none (do_some (de_name 1 rfl (vis_of rfl) rfl rfl)))) (dg_name (sto_of rfl rfl)) (dss_one (ds_if (dt_cmp op_inD' (de_name 4 rfl (vis_of rfl) rfl rfl) (de_tup (da_cons de_str (da_cons de_str da_nil (fun _ => rfl)) (fun _ => rfl))) rfl) (dss_one (ds_expr (de_mut PySem.F.plainAttrs_list PySem.F.slot_list_append PySem.F.type_list_append mt_appendD rfl (vis_of rfl) rfl rfl (da_cons (de_tup (da_cons (de_name 4 rfl (vis_of rfl) rfl rfl) (da_cons (de_call (ok__law_new_name Y) (by decide) rfl Y.g__law_new_name Y.F__law_new_name.kp Y.b__law_new_name (da_cons (de_name 0 rfl (vis_of rfl) rfl rfl) (da_cons (de_call (ok__law_declared Y) (by decide) rfl Y.g__law_declared Y.F__law_declared.kp Y.b__law_declared (da_cons (de_name 2 rfl (vis_of rfl) rfl rfl) da_nil (fun _ => rfl)) rfl (fun _ => rfl) (fun _ => rfl) rfl (mcons_len mnil_len)) da_nil (fun _ => rfl)) (fun _ => rfl)) rfl (fun _ => rfl) (fun _ => rfl) rfl (mcons_len (mcons_len mnil_len))) da_nil (fun _ => rfl)) (fun _ => rfl))) da_nil (fun _ => rfl)) (fun _ => rfl) (fun _ => rfl) rfl (fun _ => rfl) (fun _ => rfl)) (fun _ => rfl))) (dss_one (ds_expr (de_mut PySem.F.plainAttrs_list PySem.F.slot_list_append PySem.F.type_list_append mt_appendD rfl (vis_of rfl) rfl rfl (da_cons (de_call (ok__law_shaped Y) (by decide) rfl Y.g__law_shaped Y.F__law_shaped.kp Y.b__law_shaped (da_cons (de_name 0 rfl (vis_of rfl) rfl rfl) (da_cons (de_name 2 rfl (vis_of rfl) rfl rfl) (da_cons (de_name 4 rfl (vis_of rfl) rfl rfl) da_nil (fun _ => rfl)) (fun _ => rfl)) (fun _ => rfl)) rfl (fun _ => rfl) (fun _ => rfl) rfl (mcons_len (mcons_len (mcons_len mnil_len)))) da_nil (fun _ => rfl)) (fun _ => rfl) (fun _ => rfl) rfl (fun _ => rfl) (fun _ => rfl)) (fun _ => rfl))))) (fun _ _ => rfl))
    (dss_one (ds_ret (de_call (ok__law_bounded Y) (by decide) rfl Y.g__law_bounded Y.F__law_bounded.kp Y.b__law_bounded (da_cons (de_fz (de_name 2 rfl (vis_of rfl) rfl rfl)) (da_cons de_int da_nil (fun _ => rfl)) (fun _ => rfl)) rfl (fun _ => rfl) (fun _ => rfl) rfl (mcons_len (mcons_len mnil_len)))))))))))
theorem ok__law_library {G : GC} (Y : Fx G) : FnG G 5 Y.f__law_library Y.d__law_library ["_law_bag_here", "_law_most"] (spM G.K 2 m_law_library) := fn_m Y.F__law_library sc__law_library (dss__law_library Y)
theorem dss__law_odd {G : GC} (Y : Fx G) : DSs G ⟨["_law_bag_here", "_law_menu"], defScope s__law_odd, fun _ => true, 2⟩ (defBody s__law_odd) b__law_odd :=
    (dss_cons (ds_asg (sto_of rfl rfl) (de_lst (da_cons de_non (da_cons de_bl (da_cons de_bl (da_cons de_int (da_cons de_int (da_cons (de_un un_negD de_int) (da_cons de_int (da_cons (de_op op_powD de_int de_int) (da_cons de_str (da_cons de_str (da_cons de_str (da_cons de_str (da_cons de_str (da_cons (de_tup da_nil) (da_cons (de_lst da_nil) (da_cons de_dnew (da_cons (de_tup (da_cons de_str (da_cons de_int da_nil (fun _ => rfl)) (fun _ => rfl))) da_nil (fun _ => rfl)) (fun _ => rfl)) (fun _ => rfl)) (fun _ => rfl)) (fun _ => rfl)) (fun _ => rfl)) (fun _ => rfl)) (fun _ => rfl)) (fun _ => rfl)) (fun _ => rfl)) (fun _ => rfl)) (fun _ => rfl)) (fun _ => rfl)) (fun _ => rfl)) (fun _ => rfl)) (fun _ => rfl)) (fun _ => rfl))) (fun _ => rfl))
    (dss_cons (ds_asg (sto_of rfl rfl) (de_op op_addD (de_op op_addD (de_name 1 rfl (vis_of rfl) rfl rfl) (de_lst (da_cons (de_tup (da_cons de_str (da_cons de_str da_nil (fun _ => rfl)) (fun _ => rfl))) da_nil (fun _ => rfl)))) (de_lst (da_cons (de_lst (da_cons de_str da_nil (fun _ => rfl))) (da_cons (de_dicC (fun _ => (pps_cons pe_str pe_int pps_nil)) rfl rfl (by simp) (by decide) (by decide) rfl) (da_cons (de_tup (da_cons de_str da_nil (fun _ => rfl))) (da_cons (de_tup (da_cons (de_tup (da_cons de_str (da_cons (de_tup (da_cons de_str (da_cons de_int da_nil (fun _ => rfl)) (fun _ => rfl))) da_nil (fun _ => rfl)) (fun _ => rfl))) da_nil (fun _ => rfl))) (da_cons (de_tup (da_cons de_str (da_cons de_str da_nil (fun _ => rfl)) (fun _ => rfl))) (da_cons de_str (da_cons de_str da_nil (fun _ => rfl)) (fun _ => rfl)) (fun _ => rfl)) (fun _ => rfl)) (fun _ => rfl)) (fun _ => rfl)) (fun _ => rfl)))) (fun _ => rfl))
    (dss_one (ds_ret (de_call (ok__law_some Y) (by decide) rfl Y.g__law_some Y.F__law_some.kp Y.b__law_some (da_cons (de_name 0 rfl (vis_of rfl) rfl rfl) (da_cons (de_op op_addD (de_name 1 rfl (vis_of rfl) rfl rfl) (de_lst (da_cons (de_tup (da_cons de_str (da_cons de_bl da_nil (fun _ => rfl)) (fun _ => rfl))) da_nil (fun _ => rfl)))) da_nil (fun _ => rfl)) (fun _ => rfl)) rfl (fun _ => rfl) (fun _ => rfl) rfl (mcons_len (mcons_len mnil_len)))))))
theorem ok__law_odd {G : GC} (Y : Fx G) : FnG G 3 Y.f__law_odd Y.d__law_odd ["_law_bag_here"] (spM G.K 1 m_law_odd) := fn_m Y.F__law_odd sc__law_odd (dss__law_odd Y)
theorem dss__law_bent {G : GC} (Y : Fx G) {k : Nat} {rr : MF} (hk : 3 ≤ k) (R : FnG G k Y.f__law_bent Y.d__law_bent ["_law_bag_here", "_law_thing", "_law_deep"] (spM G.K 3 rr)) : DSs G ⟨["_law_bag_here", "_law_thing", "_law_deep", "_law_way", "_law_at", "_law_more"], defScope s__law_bent, fun _ => true, k⟩ (defBody s__law_bent) (b__law_bent rr) :=
    (dss_cons (ds_if (dt_w (dw_or (dt_not (dt_val (de_isi (T := "tuple") (by decide) rfl (de_name 1 rfl (vis_of rfl) rfl rfl) rfl Y.z_isinstance rfl Y.z_tuple (by decide) rfl (fun _ => rfl)) (fun _ _ => rfl))) (dw_or (dt_cmp op_eqD' (de_name 1 rfl (vis_of rfl) rfl rfl) (de_tup da_nil) rfl) (dw_one (dt_cmp op_eqD' (de_name 2 rfl (vis_of rfl) rfl rfl) de_int rfl))))) (dss_cons (ds_if (dt_w (dw_and (dt_val (de_isi (T := "str") (by decide) rfl (de_name 1 rfl (vis_of rfl) rfl rfl) rfl Y.z_isinstance rfl Y.z_str (by decide) rfl (fun _ => rfl)) (fun _ _ => rfl)) (dw_one (dt_cmp op_gtD (de_call (ok__law_take Y) (Nat.le_trans (by decide : 1 ≤ 3) hk) rfl Y.g__law_take Y.F__law_take.kp Y.b__law_take (da_cons (de_name 0 rfl (vis_of rfl) rfl rfl) (da_cons de_int da_nil (fun _ => rfl)) (fun _ => rfl)) rfl (fun _ => rfl) (fun _ => rfl) rfl (mcons_len (mcons_len mnil_len))) de_int rfl)))) (dss_cons (ds_asg (sto_of rfl rfl) (de_lst (da_cons de_str (da_cons de_str (da_cons de_str (da_cons de_str (da_cons de_str (da_cons de_str (da_cons de_str (da_cons (de_op op_addD (de_name 1 rfl (vis_of rfl) rfl rfl) de_str) (da_cons (de_slice sl_D (de_name 1 rfl (vis_of rfl) rfl rfl) do_none (do_some (de_un un_negD de_int))) (da_cons (de_op op_addD (de_name 1 rfl (vis_of rfl) rfl rfl) de_str) (da_cons (de_op op_mulSD de_str de_int) da_nil (fun _ => rfl)) (fun _ => rfl)) (fun _ => rfl)) (fun _ => rfl)) (fun _ => rfl)) (fun _ => rfl)) (fun _ => rfl)) (fun _ => rfl)) (fun _ => rfl)) (fun _ => rfl)) (fun _ => rfl))) (fun _ => rfl))
    (dss_one (ds_ret (de_call (ok__law_some Y) (Nat.le_trans (by decide : 2 ≤ 3) hk) rfl Y.g__law_some Y.F__law_some.kp Y.b__law_some (da_cons (de_name 0 rfl (vis_of rfl) rfl rfl) (da_cons (de_op op_addD (de_name 5 rfl (vis_of rfl) rfl rfl) (de_lst (da_cons (de_op op_mulSD de_str de_int) da_nil (fun _ => rfl)))) da_nil (fun _ => rfl)) (fun _ => rfl)) rfl (fun _ => rfl) (fun _ => rfl) rfl (mcons_len (mcons_len mnil_len)))))) dss_nil)
    (dss_cons (ds_if (dt_w (dw_and (dt_val (de_call (ok__law_is_int Y) (Nat.le_trans (by decide : 1 ≤ 3) hk) rfl Y.g__law_is_int Y.F__law_is_int.kp Y.b__law_is_int (da_cons (de_name 1 rfl (vis_of rfl) rfl rfl) da_nil (fun _ => rfl)) rfl (fun _ => rfl) (fun _ => rfl) rfl (mcons_len mnil_len)) (fun _ _ => rfl)) (dw_one (dt_cmp op_gtD (de_call (ok__law_take Y) (Nat.le_trans (by decide : 1 ≤ 3) hk) rfl Y.g__law_take Y.F__law_take.kp Y.b__law_take (da_cons (de_name 0 rfl (vis_of rfl) rfl rfl) (da_cons de_int da_nil (fun _ => rfl)) (fun _ => rfl)) rfl (fun _ => rfl) (fun _ => rfl) rfl (mcons_len (mcons_len mnil_len))) de_int rfl)))) (dss_one (ds_ret (de_call (ok__law_some Y) (Nat.le_trans (by decide : 2 ≤ 3) hk) rfl Y.g__law_some Y.F__law_some.kp Y.b__law_some (da_cons (de_name 0 rfl (vis_of rfl) rfl rfl) (da_cons (de_lst (da_cons (de_op op_addD (de_name 1 rfl (vis_of rfl) rfl rfl) de_int) (da_cons (de_op op_subD de_int (de_name 1 rfl (vis_of rfl) rfl rfl)) (da_cons (de_cmp op_eqD' (de_name 1 rfl (vis_of rfl) rfl rfl) de_int rfl) (da_cons (de_callTy call_strD rfl Y.z_str rfl (da_cons (de_name 1 rfl (vis_of rfl) rfl rfl) da_nil (fun _ => rfl)) (by decide) rfl (fun _ => rfl) (fun _ => rfl)) (da_cons de_int (da_cons de_int (da_cons (de_un un_negD de_int) da_nil (fun _ => rfl)) (fun _ => rfl)) (fun _ => rfl)) (fun _ => rfl)) (fun _ => rfl)) (fun _ => rfl)) (fun _ => rfl))) da_nil (fun _ => rfl)) (fun _ => rfl)) rfl (fun _ => rfl) (fun _ => rfl) rfl (mcons_len (mcons_len mnil_len))))) dss_nil)
    (dss_one (ds_ret (de_call (ok__law_odd Y) (Nat.le_trans (by decide : 3 ≤ 3) hk) rfl Y.g__law_odd Y.F__law_odd.kp Y.b__law_odd (da_cons (de_name 0 rfl (vis_of rfl) rfl rfl) da_nil (fun _ => rfl)) rfl (fun _ => rfl) (fun _ => rfl) rfl (mcons_len mnil_len)))))) dss_nil)
    (dss_cons (ds_par rfl rfl (by decide) rfl rfl (de_call (ok__law_take Y) (Nat.le_trans (by decide : 1 ≤ 3) hk) rfl Y.g__law_take Y.F__law_take.kp Y.b__law_take (da_cons (de_name 0 rfl (vis_of rfl) rfl rfl) (da_cons de_int da_nil (fun _ => rfl)) (fun _ => rfl)) rfl (fun _ => rfl) (fun _ => rfl) rfl (mcons_len (mcons_len mnil_len))) (de_call (ok__law_take Y) (Nat.le_trans (by decide : 1 ≤ 3) hk) rfl Y.g__law_take Y.F__law_take.kp Y.b__law_take (da_cons (de_name 0 rfl (vis_of rfl) rfl rfl) (da_cons (de_callB call_lenD' rfl Y.z_len rfl (da_cons (de_name 1 rfl (vis_of rfl) rfl rfl) da_nil (fun _ => rfl)) (by decide) rfl (fun _ => rfl) (fun _ => rfl)) da_nil (fun _ => rfl)) (fun _ => rfl)) rfl (fun _ => rfl) (fun _ => rfl) rfl (mcons_len (mcons_len mnil_len))) (fun _ => rfl) (fun _ => rfl) (fun env h => by cases env; cases h; rfl) (fun env h => by cases env; cases h; rfl))
    (dss_cons (ds_if (dt_cmp op_eqD' (de_name 3 rfl (vis_of rfl) rfl rfl) de_int rfl) (dss_one (ds_ret (de_callTy call_listD' rfl Y.z_list rfl (da_cons (de_name 1 rfl (vis_of rfl) rfl rfl) da_nil (fun _ => rfl)) (by decide) rfl (fun _ => rfl) (fun _ => rfl)))) dss_nil)
    (dss_cons (ds_if (dt_cmp op_eqD' (de_name 3 rfl (vis_of rfl) rfl rfl) de_int rfl) (dss_one (ds_ret (de_op op_addD (de_slice sl_D (de_name 1 rfl (vis_of rfl) rfl rfl) do_none (do_some (de_name 4 rfl (vis_of rfl) rfl rfl))) (de_slice sl_D (de_name 1 rfl (vis_of rfl) rfl rfl) (do_some (de_op op_addD (de_name 4 rfl (vis_of rfl) rfl rfl) de_int)) do_none)))) dss_nil)
    (dss_cons (ds_if (dt_cmp op_eqD' (de_name 3 rfl (vis_of rfl) rfl rfl) de_int rfl) (dss_one (ds_ret (de_op op_addD (de_op op_addD (de_slice sl_D (de_name 1 rfl (vis_of rfl) rfl rfl) do_none (do_some (de_name 4 rfl (vis_of rfl) rfl rfl))) (de_tup (da_cons (de_call (ok__law_odd Y) (Nat.le_trans (by decide : 3 ≤ 3) hk) rfl Y.g__law_odd Y.F__law_odd.kp Y.b__law_odd (da_cons (de_name 0 rfl (vis_of rfl) rfl rfl) da_nil (fun _ => rfl)) rfl (fun _ => rfl) (fun _ => rfl) rfl (mcons_len mnil_len)) da_nil (fun _ => rfl)))) (de_slice sl_D (de_name 1 rfl (vis_of rfl) rfl rfl) (do_some (de_name 4 rfl (vis_of rfl) rfl rfl)) do_none)))) dss_nil)
    (dss_cons (ds_if (dt_cmp op_eqD' (de_name 3 rfl (vis_of rfl) rfl rfl) de_int rfl) (dss_one (ds_ret (de_op op_addD (de_op op_addD (de_slice sl_D (de_name 1 rfl (vis_of rfl) rfl rfl) do_none (do_some (de_name 4 rfl (vis_of rfl) rfl rfl))) (de_slice sl_D (de_name 1 rfl (vis_of rfl) rfl rfl) (do_some (de_name 4 rfl (vis_of rfl) rfl rfl)) (do_some (de_op op_addD (de_name 4 rfl (vis_of rfl) rfl rfl) de_int)))) (de_slice sl_D (de_name 1 rfl (vis_of rfl) rfl rfl) (do_some (de_name 4 rfl (vis_of rfl) rfl rfl)) do_none)))) dss_nil)
    (dss_one (ds_ret (de_op op_addD (de_op op_addD (de_slice sl_D (de_name 1 rfl (vis_of rfl) rfl rfl) do_none (do_some (de_name 4 rfl (vis_of rfl) rfl rfl))) (de_tup (da_cons (de_call R (Nat.le_refl _) rfl Y.g__law_bent Y.F__law_bent.kp Y.b__law_bent (da_cons (de_name 0 rfl (vis_of rfl) rfl rfl) (da_cons (de_ix ix_D (de_name 1 rfl (vis_of rfl) rfl rfl) (de_name 4 rfl (vis_of rfl) rfl rfl) (fun _ _ => rfl)) (da_cons (de_op op_subD (de_name 2 rfl (vis_of rfl) rfl rfl) de_int) da_nil (fun _ => rfl)) (fun _ => rfl)) (fun _ => rfl)) rfl (fun _ => rfl) (fun _ => rfl) rfl (mcons_len (mcons_len (mcons_len mnil_len)))) da_nil (fun _ => rfl)))) (de_slice sl_D (de_name 1 rfl (vis_of rfl) rfl rfl) (do_some (de_op op_addD (de_name 4 rfl (vis_of rfl) rfl rfl) de_int)) do_none))))))))))
theorem ok__law_bent {G : GC} (Y : Fx G) : ∀ d : Nat, FnG G (3 + d) Y.f__law_bent Y.d__law_bent ["_law_bag_here", "_law_thing", "_law_deep"] (spM G.K 3 (m_law_bent d))
  | 0 => fnG_none
  | d + 1 => fn_m Y.F__law_bent sc__law_bent (dss__law_bent Y (Nat.le_add_right _ _) (ok__law_bent Y d))
theorem dss__law_near_stocks {G : GC} (Y : Fx G) : DSs G ⟨["_law_bag_here", "_law_decls", "_law_kinds_here", "_law_some_here", "_law_stock", "_law_found", "_law_kind", "_law_at", "_law_count", "_law_name", "_law_turn"], defScope s__law_near_stocks, fun _ => true, 9⟩ (defBody s__law_near_stocks) b__law_near_stocks :=
    (dss_cons (ds_asg (sto_of rfl rfl) (de_callB call_sortedD' rfl Y.z_sorted rfl (da_cons (de_slice sl_D (de_call (ok__law_kinds Y) (by decide) rfl Y.g__law_kinds Y.F__law_kinds.kp Y.b__law_kinds (da_cons (de_name 1 rfl (vis_of rfl) rfl rfl) da_nil (fun _ => rfl)) rfl (fun _ => rfl) (fun _ => rfl) rfl (mcons_len mnil_len)) (do_some de_int) do_none) da_nil (fun _ => rfl)) (by decide) rfl (fun _ => rfl) (fun _ => rfl)) (fun _ => rfl))
    (dss_cons (ds_setLc rfl rfl rfl rfl rfl (di_seqC (de_name 2 rfl (vis_of rfl) rfl rfl)) (blkOk_by (own := [("_law_kind", 6)]) (by decide +kernel)) (dg_name (sto_of rfl rfl)) (dts_one (dt_cmp op_eqD' (de_call (ok__law_take Y) (by decide) rfl Y.g__law_take Y.F__law_take.kp Y.b__law_take (da_cons (de_name 0 rfl (vis_of rfl) rfl rfl) (da_cons de_int da_nil (fun _ => rfl)) (fun _ => rfl)) rfl (fun _ => rfl) (fun _ => rfl) rfl (mcons_len (mcons_len mnil_len))) de_int rfl)) (de_name 6 rfl (vis_of rfl) rfl rfl) (by decide) (gnm_stay 6) (fun _ _ => rfl))
    (dss_cons (ds_asg (sto_of rfl rfl) (de_callTy call_tupleD rfl Y.z_tuple rfl (da_cons (de_lc (di_seqC (de_name 3 rfl (vis_of rfl) rfl rfl)) (blkOk_by (own := [("_law_kind", 6)]) (by decide +kernel)) (dg_name (sto_of rfl rfl)) dts_nil (de_tup (da_cons (de_name 6 rfl (vis_of rfl) rfl rfl) (da_cons (de_if (dt_val (de_call (ok__law_is_once Y) (by decide) rfl Y.g__law_is_once Y.F__law_is_once.kp Y.b__law_is_once (da_cons (de_name 1 rfl (vis_of rfl) rfl rfl) (da_cons (de_name 6 rfl (vis_of rfl) rfl rfl) da_nil (fun _ => rfl)) (fun _ => rfl)) rfl (fun _ => rfl) (fun _ => rfl) rfl (mcons_len (mcons_len mnil_len))) (fun _ _ => rfl)) (de_call (ok__law_some Y) (by decide) rfl Y.g__law_some Y.F__law_some.kp Y.b__law_some (da_cons (de_name 0 rfl (vis_of rfl) rfl rfl) (da_cons (de_lst (da_cons de_int (da_cons de_int (da_cons de_int da_nil (fun _ => rfl)) (fun _ => rfl)) (fun _ => rfl))) da_nil (fun _ => rfl)) (fun _ => rfl)) rfl (fun _ => rfl) (fun _ => rfl) rfl (mcons_len (mcons_len mnil_len))) de_int) da_nil (fun _ => rfl)) (fun _ => rfl))) (by decide) (gnm_stay 6) (fun _ _ => rfl)) da_nil (fun _ => rfl)) (by decide) rfl (fun _ => rfl) (fun _ => rfl)) (fun _ => rfl))
    (dss_cons (ds_asg (sto_of rfl rfl) (de_lst (da_cons (de_name 4 rfl (vis_of rfl) rfl rfl) (da_cons (de_callTy call_listD' rfl Y.z_list rfl (da_cons (de_name 4 rfl (vis_of rfl) rfl rfl) da_nil (fun _ => rfl)) (by decide) rfl (fun _ => rfl) (fun _ => rfl)) (da_cons (de_revT (de_name 4 rfl (vis_of rfl) rfl rfl)) (da_cons (de_op op_addD (de_name 4 rfl (vis_of rfl) rfl rfl) (de_name 4 rfl (vis_of rfl) rfl rfl)) (da_cons (de_callTy call_tupleD rfl Y.z_tuple rfl (da_cons (de_lc (di_seqC (de_name 2 rfl (vis_of rfl) rfl rfl)) (blkOk_by (own := [("_law_kind", 6)]) (by decide +kernel)) (dg_name (sto_of rfl rfl)) dts_nil (de_tup (da_cons (de_name 6 rfl (vis_of rfl) rfl rfl) (da_cons de_int da_nil (fun _ => rfl)) (fun _ => rfl))) (by decide) (gnm_stay 6) (fun _ _ => rfl)) da_nil (fun _ => rfl)) (by decide) rfl (fun _ => rfl) (fun _ => rfl)) (da_cons (de_tup da_nil) da_nil (fun _ => rfl)) (fun _ => rfl)) (fun _ => rfl)) (fun _ => rfl)) (fun _ => rfl)) (fun _ => rfl))) (fun _ => rfl))
    (dss_cons (ds_asg (sto_of rfl rfl) (de_op op_addD (de_name 5 rfl (vis_of rfl) rfl rfl) (de_lst (da_cons (de_callTy call_tupleD rfl Y.z_tuple rfl (da_cons (de_lc (di_seqC (de_name 2 rfl (vis_of rfl) rfl rfl)) (blkOk_by (own := [("_law_kind", 6)]) (by decide +kernel)) (dg_name (sto_of rfl rfl)) dts_nil (de_tup (da_cons (de_name 6 rfl (vis_of rfl) rfl rfl) (da_cons de_int da_nil (fun _ => rfl)) (fun _ => rfl))) (by decide) (gnm_stay 6) (fun _ _ => rfl)) da_nil (fun _ => rfl)) (by decide) rfl (fun _ => rfl) (fun _ => rfl)) (da_cons (de_tup (da_cons (de_tup (da_cons de_str (da_cons de_int da_nil (fun _ => rfl)) (fun _ => rfl))) da_nil (fun _ => rfl))) (da_cons (de_tup (da_cons (de_tup (da_cons de_str (da_cons de_int da_nil (fun _ => rfl)) (fun _ => rfl))) da_nil (fun _ => rfl))) (da_cons (de_op op_addD (de_name 4 rfl (vis_of rfl) rfl rfl) (de_tup (da_cons (de_tup (da_cons de_str (da_cons de_int da_nil (fun _ => rfl)) (fun _ => rfl))) da_nil (fun _ => rfl)))) da_nil (fun _ => rfl)) (fun _ => rfl)) (fun _ => rfl)) (fun _ => rfl)))) (fun _ => rfl))
    (dss_cons (ds_expr (de_mut PySem.F.plainAttrs_list PySem.F.slot_list_append PySem.F.type_list_append mt_appendD rfl (vis_of rfl) rfl rfl (da_cons (de_callTy call_dictD' rfl Y.z_dict rfl (da_cons (de_name 4 rfl (vis_of rfl) rfl rfl) da_nil (fun _ => rfl)) (by decide) rfl (fun _ => rfl) (fun _ => rfl)) da_nil (fun _ => rfl)) (fun _ => rfl) (fun _ => rfl) rfl (fun _ => rfl) (fun _ => rfl)) (fun _ => rfl))
    (dss_cons (ds_asg (sto_of rfl rfl) (de_op op_addD (de_name 5 rfl (vis_of rfl) rfl rfl) (de_lst (da_cons (de_callTy call_tupleD rfl Y.z_tuple rfl (da_cons (de_lc (di_seqC (de_name 4 rfl (vis_of rfl) rfl rfl)) (blkOk_by (own := [("_law_kind", 6), ("_law_count", 8)]) (by decide +kernel)) (dg_tup (fun X c => (pgsN_cons c (sto_of rfl rfl) (pgsN_cons c (sto_of rfl rfl) pgsN_nil rfl) rfl)) (fun _ => rfl) (fun _ => rfl)) dts_nil (de_tup (da_cons (de_name 6 rfl (vis_of rfl) rfl rfl) (da_cons (de_cmp op_eqD' (de_name 8 rfl (vis_of rfl) rfl rfl) de_int rfl) da_nil (fun _ => rfl)) (fun _ => rfl))) (by decide) (gtup_stay [6, 8]) (fun _ _ => rfl)) da_nil (fun _ => rfl)) (by decide) rfl (fun _ => rfl) (fun _ => rfl)) (da_cons (de_callTy call_tupleD rfl Y.z_tuple rfl (da_cons (de_lc (di_seqC (de_name 3 rfl (vis_of rfl) rfl rfl)) (blkOk_by (own := [("_law_kind", 6)]) (by decide +kernel)) (dg_name (sto_of rfl rfl)) dts_nil (de_tup (da_cons (de_name 6 rfl (vis_of rfl) rfl rfl) (da_cons de_int da_nil (fun _ => rfl)) (fun _ => rfl))) (by decide) (gnm_stay 6) (fun _ _ => rfl)) da_nil (fun _ => rfl)) (by decide) rfl (fun _ => rfl) (fun _ => rfl)) da_nil (fun _ => rfl)) (fun _ => rfl)))) (fun _ => rfl))
    (dss_cons (ds_for (di_seq (de_name 2 rfl (vis_of rfl) rfl rfl)) (dg_name (sto_of rfl rfl)) (dss_one (ds_expr (de_mut PySem.F.plainAttrs_list PySem.F.slot_list_append PySem.F.type_list_append mt_appendD rfl (vis_of rfl) rfl rfl (da_cons (de_tup (da_cons (de_tup (da_cons (de_name 6 rfl (vis_of rfl) rfl rfl) (da_cons de_int da_nil (fun _ => rfl)) (fun _ => rfl))) (da_cons (de_tup (da_cons (de_name 6 rfl (vis_of rfl) rfl rfl) (da_cons de_int da_nil (fun _ => rfl)) (fun _ => rfl))) da_nil (fun _ => rfl)) (fun _ => rfl))) da_nil (fun _ => rfl)) (fun _ => rfl) (fun _ => rfl) rfl (fun _ => rfl) (fun _ => rfl)) (fun _ => rfl))) (fun _ _ => rfl))
    (dss_cons (ds_for (di_enum rfl Y.z_enumerate (da_cons (de_name 4 rfl (vis_of rfl) rfl rfl) da_nil (fun _ => rfl)) (fun _ => rfl)) (dg_tupG (dgs_cons (dg_name (sto_of rfl rfl)) (dgs_cons (dg_tup (fun X c => (pgsN_cons c (sto_of rfl rfl) (pgsN_cons c (sto_of rfl rfl) pgsN_nil rfl) rfl)) (fun _ => rfl) (fun _ => rfl)) dgs_nil (fun _ => rfl)) (fun _ => rfl)) (fun _ => rfl) (fun _ => rfl)) (dss_one (ds_expr (de_mut PySem.F.plainAttrs_list PySem.F.slot_list_append PySem.F.type_list_append mt_appendD rfl (vis_of rfl) rfl rfl (da_cons (de_op op_addD (de_op op_addD (de_slice sl_D (de_name 4 rfl (vis_of rfl) rfl rfl) do_none (do_some (de_name 7 rfl (vis_of rfl) rfl rfl))) (de_tup (da_cons (de_tup (da_cons (de_name 6 rfl (vis_of rfl) rfl rfl) (da_cons (de_name 8 rfl (vis_of rfl) rfl rfl) da_nil (fun _ => rfl)) (fun _ => rfl))) (da_cons (de_tup (da_cons (de_name 6 rfl (vis_of rfl) rfl rfl) (da_cons (de_op op_addD (de_name 8 rfl (vis_of rfl) rfl rfl) de_int) da_nil (fun _ => rfl)) (fun _ => rfl))) da_nil (fun _ => rfl)) (fun _ => rfl)))) (de_slice sl_D (de_name 4 rfl (vis_of rfl) rfl rfl) (do_some (de_op op_addD (de_name 7 rfl (vis_of rfl) rfl rfl) de_int)) do_none)) da_nil (fun _ => rfl)) (fun _ => rfl) (fun _ => rfl) rfl (fun _ => rfl) (fun _ => rfl)) (fun _ => rfl))) (fun _ _ => rfl))
    (dss_cons (ds_asg (sto_of rfl rfl) (de_op op_addD (de_name 5 rfl (vis_of rfl) rfl rfl) (de_lc (di_seqC (de_call (ok__law_declared Y) (by decide) rfl Y.g__law_declared Y.F__law_declared.kp Y.b__law_declared (da_cons (de_name 1 rfl (vis_of rfl) rfl rfl) da_nil (fun _ => rfl)) rfl (fun _ => rfl) (fun _ => rfl) rfl (mcons_len mnil_len))) (blkOk_by (own := [("_law_name", 9)]) (by decide +kernel)) (dg_name (sto_of rfl rfl)) (dts_one (dt_cmp op_notInD' (de_name 9 rfl (vis_of rfl) rfl rfl) (de_name 2 rfl (vis_of rfl) rfl rfl) rfl)) (de_tup (da_cons (de_tup (da_cons (de_name 9 rfl (vis_of rfl) rfl rfl) (da_cons de_int da_nil (fun _ => rfl)) (fun _ => rfl))) da_nil (fun _ => rfl))) (by decide) (gnm_stay 9) (fun _ _ => rfl))) (fun _ => rfl))
    (dss_one (ds_ret (de_op op_addD (de_op op_addD (de_name 5 rfl (vis_of rfl) rfl rfl) (de_lc (di_range1 rfl Y.z_range (da_cons de_int da_nil (fun _ => rfl)) (fun _ => rfl)) (blkOk_by (own := [("_law_turn", 10)]) (by decide +kernel)) (dg_name (sto_of rfl rfl)) dts_nil (de_call (ok__law_bent Y 6) (by decide) rfl Y.g__law_bent Y.F__law_bent.kp Y.b__law_bent (da_cons (de_name 0 rfl (vis_of rfl) rfl rfl) (da_cons (de_name 4 rfl (vis_of rfl) rfl rfl) (da_cons de_int da_nil (fun _ => rfl)) (fun _ => rfl)) (fun _ => rfl)) rfl (fun _ => rfl) (fun _ => rfl) rfl (mcons_len (mcons_len (mcons_len mnil_len)))) (by decide) (gnm_stay 10) (fun _ _ => rfl))) (de_lst (da_cons (de_call (ok__law_odd Y) (by decide) rfl Y.g__law_odd Y.F__law_odd.kp Y.b__law_odd (da_cons (de_name 0 rfl (vis_of rfl) rfl rfl) da_nil (fun _ => rfl)) rfl (fun _ => rfl) (fun _ => rfl) rfl (mcons_len mnil_len)) da_nil (fun _ => rfl))))))))))))))))
theorem ok__law_near_stocks {G : GC} (Y : Fx G) : FnG G 10 Y.f__law_near_stocks Y.d__law_near_stocks ["_law_bag_here", "_law_decls"] (spM G.K 2 m_law_near_stocks) := fn_m Y.F__law_near_stocks sc__law_near_stocks (dss__law_near_stocks Y)
theorem dss__law_turned {G : GC} (Y : Fx G) : DSs G ⟨["_law_decls", "_law_kind", "_law_words", "_law_decl"], defScope s__law_turned, fun _ => true, 0⟩ (defBody s__law_turned) b__law_turned :=
    (dss_cons (ds_asg (sto_of rfl rfl) (de_dicC (fun _ => (pps_cons pe_str pe_str (pps_cons pe_str pe_str pps_nil))) rfl rfl (by simp) (by decide) (by decide) rfl) (fun _ => rfl))
    (dss_one (ds_ret (de_callTy call_tupleD rfl Y.z_tuple rfl (da_cons (de_lc (di_seqC (de_name 0 rfl (vis_of rfl) rfl rfl)) (blkOk_by (own := [("_law_decl", 3)]) (by decide +kernel)) (dg_name (sto_of rfl rfl)) dts_nil (de_if (dt_cmp op_eqD' (de_ix ix_D (de_name 3 rfl (vis_of rfl) rfl rfl) de_int (fun _ _ => rfl)) (de_name 1 rfl (vis_of rfl) rfl rfl) rfl) (de_tup (da_cons (de_ix ix_D (de_name 2 rfl (vis_of rfl) rfl rfl) (de_ix ix_D (de_name 3 rfl (vis_of rfl) rfl rfl) de_int (fun _ _ => rfl)) (fun _ _ => rfl)) (da_cons (de_name 1 rfl (vis_of rfl) rfl rfl) da_nil (fun _ => rfl)) (fun _ => rfl))) (de_name 3 rfl (vis_of rfl) rfl rfl)) (by decide) (gnm_stay 3) (fun _ _ => rfl)) da_nil (fun _ => rfl)) (by decide) rfl (fun _ => rfl) (fun _ => rfl)))))
theorem ok__law_turned {G : GC} (Y : Fx G) : FnG G 1 Y.f__law_turned Y.d__law_turned ["_law_decls", "_law_kind"] (spM G.K 2 m_law_turned) := fn_m Y.F__law_turned sc__law_turned (dss__law_turned Y)
theorem dss_once_table {G : GC} (Y : Fx G) : DSs G ⟨["declarations", "found", "tree", "_name", "part"], defScope s_once_table, fun _ => true, 0⟩ (defBody s_once_table) b_once_table :=
    (dss_cons (ds_asg (sto_of rfl rfl) de_dnew (fun _ => rfl))
    (dss_cons (ds_for (di_seq (de_name 0 rfl (vis_of rfl) rfl rfl)) (dg_name (sto_of rfl rfl)) (dss_one (ds_if (dt_cmp op_inD' (de_ix ix_D (de_name 2 rfl (vis_of rfl) rfl rfl) de_int (fun _ _ => rfl)) (de_tup (da_cons de_str (da_cons de_str da_nil (fun _ => rfl)) (fun _ => rfl))) rfl) (dss_one (ds_put rfl (vis_of rfl) rfl rfl (de_ix ix_D (de_name 2 rfl (vis_of rfl) rfl rfl) de_int (fun _ _ => rfl)) (de_cmp op_eqD' (de_ix ix_D (de_name 2 rfl (vis_of rfl) rfl rfl) de_int (fun _ _ => rfl)) de_str rfl) (fun _ => rfl) (fun _ => rfl) (fun _ => rfl) (fun _ => rfl) (fun _ _ => rfl))) (dss_one (ds_if (dt_cmp op_inD' (de_ix ix_D (de_name 2 rfl (vis_of rfl) rfl rfl) de_int (fun _ _ => rfl)) (de_tup (da_cons de_str (da_cons de_str da_nil (fun _ => rfl)) (fun _ => rfl))) rfl) (dss_one (ds_put rfl (vis_of rfl) rfl rfl (de_ix ix_D (de_name 2 rfl (vis_of rfl) rfl rfl) de_int (fun _ _ => rfl)) (de_callB call_anyD rfl Y.z_any rfl (da_cons (de_lc (di_seqC (de_ix ix_D (de_name 2 rfl (vis_of rfl) rfl rfl) de_int (fun _ _ => rfl))) (blkOk_by (own := [("_name", 3), ("part", 4)]) (by decide +kernel)) (dg_tup (fun X c => (pgsN_cons c (sto_of rfl rfl) (pgsN_cons c (sto_of rfl rfl) pgsN_nil rfl) rfl)) (fun _ => rfl) (fun _ => rfl)) dts_nil (de_bm PySem.F.plainAttrs_dict PySem.F.slot_dict_get PySem.F.type_dict_get mt_getD (de_name 1 rfl (vis_of rfl) rfl rfl) (da_cons (de_name 4 rfl (vis_of rfl) rfl rfl) (da_cons de_bl da_nil (fun _ => rfl)) (fun _ => rfl)) (fun _ => rfl) (fun _ => rfl) rfl (fun _ => rfl) (fun _ => rfl)) (by decide) (gtup_stay [3, 4]) (fun _ _ => rfl)) da_nil (fun _ => rfl)) (by decide) rfl (fun _ => rfl) (fun _ => rfl)) (fun _ => rfl) (fun _ => rfl) (fun _ => rfl) (fun _ => rfl) (fun _ _ => rfl))) dss_nil)))) (fun _ _ => rfl))
    (dss_one (ds_ret (de_name 1 rfl (vis_of rfl) rfl rfl)))))
theorem ok_once_table {G : GC} (Y : Fx G) : FnG G 1 Y.f_once_table Y.d_once_table ["declarations"] (spM G.K 1 p_once_table) := fn_m Y.F_once_table sc_once_table (dss_once_table Y)
theorem dss_is_once {G : GC} (Y : Fx G) : DSs G ⟨["declarations", "kind"], defScope s_is_once, fun _ => true, 1⟩ (defBody s_is_once) b_is_once :=
    (dss_one (ds_ret (de_bm PySem.F.plainAttrs_dict PySem.F.slot_dict_get PySem.F.type_dict_get mt_getD (de_call (ok_once_table Y) (by decide) rfl Y.g_once_table Y.F_once_table.kp Y.b_once_table (da_cons (de_name 0 rfl (vis_of rfl) rfl rfl) da_nil (fun _ => rfl)) rfl (fun _ => rfl) (fun _ => rfl) rfl (mcons_len mnil_len)) (da_cons (de_name 1 rfl (vis_of rfl) rfl rfl) (da_cons de_bl da_nil (fun _ => rfl)) (fun _ => rfl)) (fun _ => rfl) (fun _ => rfl) rfl (fun _ => rfl) (fun _ => rfl))))
theorem ok_is_once {G : GC} (Y : Fx G) : FnG G 2 Y.f_is_once Y.d_is_once ["declarations", "kind"] (spM G.K 2 p_is_once) := fn_m Y.F_is_once sc_is_once (dss_is_once Y)
theorem dss_is_integer {G : GC} (Y : Fx G) : DSs G ⟨["thing"], defScope s_is_integer, fun _ => true, 0⟩ (defBody s_is_integer) b_is_integer :=
    (dss_one (ds_ret (de_and (de_isi (T := "int") (by decide) rfl (de_name 0 rfl (vis_of rfl) rfl rfl) rfl Y.z_isinstance rfl Y.z_int (by decide) rfl (fun _ => rfl)) (de_one (de_notV (de_isi (T := "bool") (by decide) rfl (de_name 0 rfl (vis_of rfl) rfl rfl) rfl Y.z_isinstance rfl Y.z_bool (by decide) rfl (fun _ => rfl)))))))
theorem ok_is_integer {G : GC} (Y : Fx G) : FnG G 1 Y.f_is_integer Y.d_is_integer ["thing"] (spM G.K 1 p_is_integer) := fn_m Y.F_is_integer sc_is_integer (dss_is_integer Y)
theorem dss_is_count {G : GC} (Y : Fx G) : DSs G ⟨["table", "thing"], defScope s_is_count, fun _ => true, 1⟩ (defBody s_is_count) b_is_count :=
    (dss_cons (ds_if (dt_w (dw_or (dt_not (dt_val (de_isi (T := "tuple") (by decide) rfl (de_name 1 rfl (vis_of rfl) rfl rfl) rfl Y.z_isinstance rfl Y.z_tuple (by decide) rfl (fun _ => rfl)) (fun _ _ => rfl))) (dw_or (dt_cmp op_neD' (de_callB call_lenD' rfl Y.z_len rfl (da_cons (de_name 1 rfl (vis_of rfl) rfl rfl) da_nil (fun _ => rfl)) (by decide) rfl (fun _ => rfl) (fun _ => rfl)) de_int rfl) (dw_or (dt_not (dt_val (de_isi (T := "str") (by decide) rfl (de_ix ix_D (de_name 1 rfl (vis_of rfl) rfl rfl) de_int (fun _ _ => rfl)) rfl Y.z_isinstance rfl Y.z_str (by decide) rfl (fun _ => rfl)) (fun _ _ => rfl))) (dw_one (dt_cmp op_notInD' (de_ix ix_D (de_name 1 rfl (vis_of rfl) rfl rfl) de_int (fun _ _ => rfl)) (de_name 0 rfl (vis_of rfl) rfl rfl) rfl)))))) (dss_one (ds_ret de_bl)) dss_nil)
    (dss_one (ds_ret (de_and (de_call (ok_is_integer Y) (by decide) rfl Y.g_is_integer Y.F_is_integer.kp Y.b_is_integer (da_cons (de_ix ix_D (de_name 1 rfl (vis_of rfl) rfl rfl) de_int (fun _ _ => rfl)) da_nil (fun _ => rfl)) rfl (fun _ => rfl) (fun _ => rfl) rfl (mcons_len mnil_len)) (de_and (de_cmp op_geD (de_ix ix_D (de_name 1 rfl (vis_of rfl) rfl rfl) de_int (fun _ _ => rfl)) de_int rfl) (de_one (de_or (de_cmp op_eqD' (de_ix ix_D (de_name 1 rfl (vis_of rfl) rfl rfl) de_int (fun _ _ => rfl)) de_int rfl) (de_one (de_ix ix_D (de_name 0 rfl (vis_of rfl) rfl rfl) (de_ix ix_D (de_name 1 rfl (vis_of rfl) rfl rfl) de_int (fun _ _ => rfl)) (fun _ _ => rfl))))))))))
theorem ok_is_count {G : GC} (Y : Fx G) : FnG G 2 Y.f_is_count Y.d_is_count ["table", "thing"] (spM G.K 2 p_is_count) := fn_m Y.F_is_count sc_is_count (dss_is_count Y)
theorem dss_is_stock {G : GC} (Y : Fx G) : DSs G ⟨["declarations", "thing", "table", "one", "other"], defScope s_is_stock, fun _ => true, 2⟩ (defBody s_is_stock) b_is_stock :=
    (dss_cons (ds_asg (sto_of rfl rfl) (de_call (ok_once_table Y) (by decide) rfl Y.g_once_table Y.F_once_table.kp Y.b_once_table (da_cons (de_name 0 rfl (vis_of rfl) rfl rfl) da_nil (fun _ => rfl)) rfl (fun _ => rfl) (fun _ => rfl) rfl (mcons_len mnil_len)) (fun _ => rfl))
    (dss_cons (ds_if (dt_w (dw_or (dt_not (dt_val (de_isi (T := "tuple") (by decide) rfl (de_name 1 rfl (vis_of rfl) rfl rfl) rfl Y.z_isinstance rfl Y.z_tuple (by decide) rfl (fun _ => rfl)) (fun _ _ => rfl))) (dw_one (dt_not (dt_val (de_callB call_allD rfl Y.z_all rfl (da_cons (de_lc (di_seqC (de_name 1 rfl (vis_of rfl) rfl rfl)) (blkOk_by (own := [("one", 3)]) (by decide +kernel)) (dg_name (sto_of rfl rfl)) dts_nil (de_call (ok_is_count Y) (by decide) rfl Y.g_is_count Y.F_is_count.kp Y.b_is_count (da_cons (de_name 2 rfl (vis_of rfl) rfl rfl) (da_cons (de_name 3 rfl (vis_of rfl) rfl rfl) da_nil (fun _ => rfl)) (fun _ => rfl)) rfl (fun _ => rfl) (fun _ => rfl) rfl (mcons_len (mcons_len mnil_len))) (by decide) (gnm_stay 3) (fun _ _ => rfl)) da_nil (fun _ => rfl)) (by decide) rfl (fun _ => rfl) (fun _ => rfl)) (fun _ _ => rfl)))))) (dss_one (ds_ret de_bl)) dss_nil)
    (dss_one (ds_ret (de_callB call_allD rfl Y.z_all rfl (da_cons (de_lc (di_zip rfl Y.z_zip (da_cons (de_name 1 rfl (vis_of rfl) rfl rfl) (da_cons (de_slice sl_D (de_name 1 rfl (vis_of rfl) rfl rfl) (do_some de_int) do_none) da_nil (fun _ => rfl)) (fun _ => rfl)) (fun _ => rfl) (fun _ => rfl)) (blkOk_by (own := [("one", 3), ("other", 4)]) (by decide +kernel)) (dg_tup (fun X c => (pgsN_cons c (sto_of rfl rfl) (pgsN_cons c (sto_of rfl rfl) pgsN_nil rfl) rfl)) (fun _ => rfl) (fun _ => rfl)) dts_nil (de_cmp op_ltD (de_ix ix_D (de_name 3 rfl (vis_of rfl) rfl rfl) de_int (fun _ _ => rfl)) (de_ix ix_D (de_name 4 rfl (vis_of rfl) rfl rfl) de_int (fun _ _ => rfl)) rfl) (by decide) (gtup_stay [3, 4]) (fun _ _ => rfl)) da_nil (fun _ => rfl)) (by decide) rfl (fun _ => rfl) (fun _ => rfl))))))
theorem ok_is_stock {G : GC} (Y : Fx G) : FnG G 3 Y.f_is_stock Y.d_is_stock ["declarations", "thing"] (spM G.K 2 p_is_stock) := fn_m Y.F_is_stock sc_is_stock (dss_is_stock Y)
theorem dss_once_kinds {G : GC} (Y : Fx G) : DSs G ⟨["declarations", "table", "kind"], defScope s_once_kinds, fun _ => true, 1⟩ (defBody s_once_kinds) b_once_kinds :=
    (dss_cons (ds_asg (sto_of rfl rfl) (de_call (ok_once_table Y) (by decide) rfl Y.g_once_table Y.F_once_table.kp Y.b_once_table (da_cons (de_name 0 rfl (vis_of rfl) rfl rfl) da_nil (fun _ => rfl)) rfl (fun _ => rfl) (fun _ => rfl) rfl (mcons_len mnil_len)) (fun _ => rfl))
    (dss_one (ds_ret (de_callTy call_tupleD rfl Y.z_tuple rfl (da_cons (de_lc (di_seqC (de_callB call_sortedD' rfl Y.z_sorted rfl (da_cons (de_name 1 rfl (vis_of rfl) rfl rfl) da_nil (fun _ => rfl)) (by decide) rfl (fun _ => rfl) (fun _ => rfl))) (blkOk_by (own := [("kind", 2)]) (by decide +kernel)) (dg_name (sto_of rfl rfl)) (dts_one (dt_val (de_ix ix_D (de_name 1 rfl (vis_of rfl) rfl rfl) (de_name 2 rfl (vis_of rfl) rfl rfl) (fun _ _ => rfl)) (fun _ _ => rfl))) (de_name 2 rfl (vis_of rfl) rfl rfl) (by decide) (gnm_stay 2) (fun _ _ => rfl)) da_nil (fun _ => rfl)) (by decide) rfl (fun _ => rfl) (fun _ => rfl)))))
theorem ok_once_kinds {G : GC} (Y : Fx G) : FnG G 2 Y.f_once_kinds Y.d_once_kinds ["declarations"] (spM G.K 1 p_once_kinds) := fn_m Y.F_once_kinds sc_once_kinds (dss_once_kinds Y)
theorem dss_plain_kinds {G : GC} (Y : Fx G) : DSs G ⟨["declarations", "table", "kind"], defScope s_plain_kinds, fun _ => true, 1⟩ (defBody s_plain_kinds) b_plain_kinds :=
    (dss_cons (ds_asg (sto_of rfl rfl) (de_call (ok_once_table Y) (by decide) rfl Y.g_once_table Y.F_once_table.kp Y.b_once_table (da_cons (de_name 0 rfl (vis_of rfl) rfl rfl) da_nil (fun _ => rfl)) rfl (fun _ => rfl) (fun _ => rfl) rfl (mcons_len mnil_len)) (fun _ => rfl))
    (dss_one (ds_ret (de_callTy call_tupleD rfl Y.z_tuple rfl (da_cons (de_lc (di_seqC (de_callB call_sortedD' rfl Y.z_sorted rfl (da_cons (de_name 1 rfl (vis_of rfl) rfl rfl) da_nil (fun _ => rfl)) (by decide) rfl (fun _ => rfl) (fun _ => rfl))) (blkOk_by (own := [("kind", 2)]) (by decide +kernel)) (dg_name (sto_of rfl rfl)) (dts_one (dt_not (dt_val (de_ix ix_D (de_name 1 rfl (vis_of rfl) rfl rfl) (de_name 2 rfl (vis_of rfl) rfl rfl) (fun _ _ => rfl)) (fun _ _ => rfl)))) (de_name 2 rfl (vis_of rfl) rfl rfl) (by decide) (gnm_stay 2) (fun _ _ => rfl)) da_nil (fun _ => rfl)) (by decide) rfl (fun _ => rfl) (fun _ => rfl)))))
theorem ok_plain_kinds {G : GC} (Y : Fx G) : FnG G 2 Y.f_plain_kinds Y.d_plain_kinds ["declarations"] (spM G.K 1 p_plain_kinds) := fn_m Y.F_plain_kinds sc_plain_kinds (dss_plain_kinds Y)
theorem dss_law {G : GC} (Y : Fx G) : DSs G ⟨["_law_script", "_law_bag_here", "_law_turn", "_law_decls", "_law_kinds_here", "_law_said", "_law_due", "_law_once", "_law_plain", "_law_told", "_law_decl", "_law_thing", "_law_other", "_law_changed", "_law_holding_here", "_law_some_here", "_law_kept", "_law_kind", "_law_is_so"], defScope s_law, fun _ => true, 10⟩ (defBody s_law) b_law :=
    (dss_cons (ds_asg (sto_of rfl rfl) (de_call (ok__law_bag Y) (by decide) rfl Y.g__law_bag Y.F__law_bag.kp Y.b__law_bag (da_cons (de_name 0 rfl (vis_of rfl) rfl rfl) da_nil (fun _ => rfl)) rfl (fun _ => rfl) (fun _ => rfl) rfl (mcons_len mnil_len)) (fun _ => rfl))
    (dss_cons (ds_for (di_range1 rfl Y.z_range (da_cons de_int da_nil (fun _ => rfl)) (fun _ => rfl)) (dg_name (sto_of rfl rfl)) (dss_cons (ds_asg (sto_of rfl rfl) (de_call (ok__law_library Y) (by decide) rfl Y.g__law_library Y.F__law_library.kp Y.b__law_library (da_cons (de_name 1 rfl (vis_of rfl) rfl rfl) (da_cons (de_call (ok__law_some Y) (by decide) rfl Y.g__law_some Y.F__law_some.kp Y.b__law_some (da_cons (de_name 1 rfl (vis_of rfl) rfl rfl) (da_cons (de_lst (da_cons de_int (da_cons de_int (da_cons de_int (da_cons de_int da_nil (fun _ => rfl)) (fun _ => rfl)) (fun _ => rfl)) (fun _ => rfl))) da_nil (fun _ => rfl)) (fun _ => rfl)) rfl (fun _ => rfl) (fun _ => rfl) rfl (mcons_len (mcons_len mnil_len))) da_nil (fun _ => rfl)) (fun _ => rfl)) rfl (fun _ => rfl) (fun _ => rfl) rfl (mcons_len (mcons_len mnil_len))) (fun _ => rfl))
    (dss_cons (ds_par rfl rfl (by decide) rfl rfl (de_call (ok__law_kinds Y) (by decide) rfl Y.g__law_kinds Y.F__law_kinds.kp Y.b__law_kinds (da_cons (de_name 3 rfl (vis_of rfl) rfl rfl) da_nil (fun _ => rfl)) rfl (fun _ => rfl) (fun _ => rfl) rfl (mcons_len mnil_len)) (de_callB call_reprE rfl Y.z_repr rfl (da_cons (de_name 3 rfl (vis_of rfl) rfl rfl) da_nil (fun _ => rfl)) (by decide) rfl (fun _ => rfl) (fun _ => rfl)) (fun _ => rfl) (fun _ => rfl) (fun env h => by cases env; cases h; rfl) (fun env h => by cases env; cases h; rfl))
    (dss_cons (ds_setLc rfl rfl rfl rfl rfl (di_seqC (de_name 4 rfl (vis_of rfl) rfl rfl)) (blkOk_by (own := [("_law_kind", 17)]) (by decide +kernel)) (dg_name (sto_of rfl rfl)) dts_nil (de_call (ok__law_is_once Y) (by decide) rfl Y.g__law_is_once Y.F__law_is_once.kp Y.b__law_is_once (da_cons (de_name 3 rfl (vis_of rfl) rfl rfl) (da_cons (de_name 17 rfl (vis_of rfl) rfl rfl) da_nil (fun _ => rfl)) (fun _ => rfl)) rfl (fun _ => rfl) (fun _ => rfl) rfl (mcons_len (mcons_len mnil_len))) (by decide) (gnm_stay 17) (fun _ _ => rfl))
    (dss_cons (ds_asg (sto_of rfl rfl) (de_callTy call_tupleD rfl Y.z_tuple rfl (da_cons (de_callB call_sortedD' rfl Y.z_sorted rfl (da_cons (de_lc (di_zip rfl Y.z_zip (da_cons (de_name 4 rfl (vis_of rfl) rfl rfl) (da_cons (de_name 6 rfl (vis_of rfl) rfl rfl) da_nil (fun _ => rfl)) (fun _ => rfl)) (fun _ => rfl) (fun _ => rfl)) (blkOk_by (own := [("_law_kind", 17), ("_law_is_so", 18)]) (by decide +kernel)) (dg_tup (fun X c => (pgsN_cons c (sto_of rfl rfl) (pgsN_cons c (sto_of rfl rfl) pgsN_nil rfl) rfl)) (fun _ => rfl) (fun _ => rfl)) (dts_one (dt_val (de_name 18 rfl (vis_of rfl) rfl rfl) (fun _ _ => rfl))) (de_name 17 rfl (vis_of rfl) rfl rfl) (by decide) (gtup_stay [17, 18]) (fun _ _ => rfl)) da_nil (fun _ => rfl)) (by decide) rfl (fun _ => rfl) (fun _ => rfl)) da_nil (fun _ => rfl)) (by decide) rfl (fun _ => rfl) (fun _ => rfl)) (fun _ => rfl))
    (dss_cons (ds_asg (sto_of rfl rfl) (de_callTy call_tupleD rfl Y.z_tuple rfl (da_cons (de_callB call_sortedD' rfl Y.z_sorted rfl (da_cons (de_lc (di_seqC (de_slice sl_D (de_name 4 rfl (vis_of rfl) rfl rfl) (do_some de_int) do_none)) (blkOk_by (own := [("_law_kind", 17)]) (by decide +kernel)) (dg_name (sto_of rfl rfl)) (dts_one (dt_cmp op_notInD' (de_name 17 rfl (vis_of rfl) rfl rfl) (de_name 7 rfl (vis_of rfl) rfl rfl) rfl)) (de_name 17 rfl (vis_of rfl) rfl rfl) (by decide) (gnm_stay 17) (fun _ _ => rfl)) da_nil (fun _ => rfl)) (by decide) rfl (fun _ => rfl) (fun _ => rfl)) da_nil (fun _ => rfl)) (by decide) rfl (fun _ => rfl) (fun _ => rfl)) (fun _ => rfl))
    (dss_cons (ds_asg (sto_of rfl rfl) (de_lst (da_cons (de_lc (di_seqC (de_name 4 rfl (vis_of rfl) rfl rfl)) (blkOk_by (own := [("_law_kind", 17)]) (by decide +kernel)) (dg_name (sto_of rfl rfl)) dts_nil (de_call (ok_is_once Y) (by decide) rfl Y.g_is_once Y.F_is_once.kp Y.b_is_once (da_cons (de_name 3 rfl (vis_of rfl) rfl rfl) (da_cons (de_name 17 rfl (vis_of rfl) rfl rfl) da_nil (fun _ => rfl)) (fun _ => rfl)) rfl (fun _ => rfl) (fun _ => rfl) rfl (mcons_len (mcons_len mnil_len))) (by decide) (gnm_stay 17) (fun _ _ => rfl)) (da_cons (de_call (ok_once_kinds Y) (by decide) rfl Y.g_once_kinds Y.F_once_kinds.kp Y.b_once_kinds (da_cons (de_name 3 rfl (vis_of rfl) rfl rfl) da_nil (fun _ => rfl)) rfl (fun _ => rfl) (fun _ => rfl) rfl (mcons_len mnil_len)) (da_cons (de_call (ok_plain_kinds Y) (by decide) rfl Y.g_plain_kinds Y.F_plain_kinds.kp Y.b_plain_kinds (da_cons (de_name 3 rfl (vis_of rfl) rfl rfl) da_nil (fun _ => rfl)) rfl (fun _ => rfl) (fun _ => rfl) rfl (mcons_len mnil_len)) da_nil (fun _ => rfl)) (fun _ => rfl)) (fun _ => rfl))) (fun _ => rfl))
    (dss_cons (ds_if (dt_not (dt_val (de_call (ok__law_alike Y) (by decide) rfl Y.g__law_alike Y.F__law_alike.kp Y.b__law_alike (da_cons (de_name 9 rfl (vis_of rfl) rfl rfl) (da_cons (de_lst (da_cons (de_name 6 rfl (vis_of rfl) rfl rfl) (da_cons (de_name 7 rfl (vis_of rfl) rfl rfl) (da_cons (de_name 8 rfl (vis_of rfl) rfl rfl) da_nil (fun _ => rfl)) (fun _ => rfl)) (fun _ => rfl))) da_nil (fun _ => rfl)) (fun _ => rfl)) rfl (fun _ => rfl) (fun _ => rfl) rfl (mcons_len (mcons_len mnil_len))) (fun _ _ => rfl))) (dss_one (ds_ret de_bl)) dss_nil)
    (dss_cons (ds_for (di_seq (de_slice sl_D (de_lc (di_seqC (de_name 3 rfl (vis_of rfl) rfl rfl)) (blkOk_by (own := [("_law_decl", 10)]) (by decide +kernel)) (dg_name (sto_of rfl rfl)) (dts_one (dt_cmp op_inD' (de_ix ix_D (de_name 10 rfl (vis_of rfl) rfl rfl) de_int (fun _ _ => rfl)) (de_tup (da_cons de_str (da_cons de_str da_nil (fun _ => rfl)) (fun _ => rfl))) rfl)) (de_name 10 rfl (vis_of rfl) rfl rfl) (by decide) (gnm_stay 10) (fun _ _ => rfl)) do_none (do_some de_int))) (dg_name (sto_of rfl rfl)) (dss_cons (ds_asg (sto_of rfl rfl) (de_call (ok__law_turned Y) (by decide) rfl Y.g__law_turned Y.F__law_turned.kp Y.b__law_turned (da_cons (de_name 3 rfl (vis_of rfl) rfl rfl) (da_cons (de_ix ix_D (de_name 10 rfl (vis_of rfl) rfl rfl) de_int (fun _ _ => rfl)) da_nil (fun _ => rfl)) (fun _ => rfl)) rfl (fun _ => rfl) (fun _ => rfl) rfl (mcons_len (mcons_len mnil_len))) (fun _ => rfl))
    (dss_cons (ds_asg (sto_of rfl rfl) (de_if (dt_cmp op_eqD' (de_call (ok__law_bounded Y) (by decide) rfl Y.g__law_bounded Y.F__law_bounded.kp Y.b__law_bounded (da_cons (de_fz (de_name 12 rfl (vis_of rfl) rfl rfl)) (da_cons de_int da_nil (fun _ => rfl)) (fun _ => rfl)) rfl (fun _ => rfl) (fun _ => rfl) rfl (mcons_len (mcons_len mnil_len))) (de_name 12 rfl (vis_of rfl) rfl rfl) rfl) (de_name 12 rfl (vis_of rfl) rfl rfl) (de_name 3 rfl (vis_of rfl) rfl rfl)) (fun _ => rfl))
    (dss_cons (ds_setLc rfl rfl rfl rfl rfl (di_seqC (de_name 4 rfl (vis_of rfl) rfl rfl)) (blkOk_by (own := [("_law_kind", 17)]) (by decide +kernel)) (dg_name (sto_of rfl rfl)) (dts_one (dt_cmp op_neD' (de_call (ok_is_once Y) (by decide) rfl Y.g_is_once Y.F_is_once.kp Y.b_is_once (da_cons (de_name 3 rfl (vis_of rfl) rfl rfl) (da_cons (de_name 17 rfl (vis_of rfl) rfl rfl) da_nil (fun _ => rfl)) (fun _ => rfl)) rfl (fun _ => rfl) (fun _ => rfl) rfl (mcons_len (mcons_len mnil_len))) (de_call (ok_is_once Y) (by decide) rfl Y.g_is_once Y.F_is_once.kp Y.b_is_once (da_cons (de_name 12 rfl (vis_of rfl) rfl rfl) (da_cons (de_name 17 rfl (vis_of rfl) rfl rfl) da_nil (fun _ => rfl)) (fun _ => rfl)) rfl (fun _ => rfl) (fun _ => rfl) rfl (mcons_len (mcons_len mnil_len))) rfl)) (de_name 17 rfl (vis_of rfl) rfl rfl) (by decide) (gnm_stay 17) (fun _ _ => rfl))
    (dss_cons (ds_asg (sto_of rfl rfl) (de_call (ok__law_holding Y) (by decide) rfl Y.g__law_holding Y.F__law_holding.kp Y.b__law_holding (da_cons (de_name 3 rfl (vis_of rfl) rfl rfl) (da_cons (de_ix ix_D (de_name 10 rfl (vis_of rfl) rfl rfl) de_int (fun _ _ => rfl)) da_nil (fun _ => rfl)) (fun _ => rfl)) rfl (fun _ => rfl) (fun _ => rfl) rfl (mcons_len (mcons_len mnil_len))) (fun _ => rfl))
    (dss_cons (ds_if (dt_cmp op_neD' (de_lc (di_seqC (de_name 13 rfl (vis_of rfl) rfl rfl)) (blkOk_by (own := [("_law_kind", 17)]) (by decide +kernel)) (dg_name (sto_of rfl rfl)) (dts_one (dt_cmp op_notInD' (de_name 17 rfl (vis_of rfl) rfl rfl) (de_name 14 rfl (vis_of rfl) rfl rfl) rfl)) (de_name 17 rfl (vis_of rfl) rfl rfl) (by decide) (gnm_stay 17) (fun _ _ => rfl)) (de_lst da_nil) rfl) (dss_one (ds_ret de_bl)) dss_nil)
    (dss_cons (ds_if (dt_cmp op_neD' (de_cmp op_inD' (de_ix ix_D (de_name 10 rfl (vis_of rfl) rfl rfl) de_int (fun _ _ => rfl)) (de_name 13 rfl (vis_of rfl) rfl rfl) rfl) (de_cmp op_neD' (de_name 12 rfl (vis_of rfl) rfl rfl) (de_name 3 rfl (vis_of rfl) rfl rfl) rfl) rfl) (dss_one (ds_ret de_bl)) dss_nil)
    (dss_cons (ds_asg (sto_of rfl rfl) (de_callTy call_tupleD rfl Y.z_tuple rfl (da_cons (de_callB call_sortedD' rfl Y.z_sorted rfl (da_cons (de_lc (di_seqC (de_name 4 rfl (vis_of rfl) rfl rfl)) (blkOk_by (own := [("_law_kind", 17)]) (by decide +kernel)) (dg_name (sto_of rfl rfl)) (dts_one (dt_val (de_call (ok__law_is_once Y) (by decide) rfl Y.g__law_is_once Y.F__law_is_once.kp Y.b__law_is_once (da_cons (de_name 12 rfl (vis_of rfl) rfl rfl) (da_cons (de_name 17 rfl (vis_of rfl) rfl rfl) da_nil (fun _ => rfl)) (fun _ => rfl)) rfl (fun _ => rfl) (fun _ => rfl) rfl (mcons_len (mcons_len mnil_len))) (fun _ _ => rfl))) (de_name 17 rfl (vis_of rfl) rfl rfl) (by decide) (gnm_stay 17) (fun _ _ => rfl)) da_nil (fun _ => rfl)) (by decide) rfl (fun _ => rfl) (fun _ => rfl)) da_nil (fun _ => rfl)) (by decide) rfl (fun _ => rfl) (fun _ => rfl)) (fun _ => rfl))
    (dss_one (ds_if (dt_not (dt_val (de_call (ok__law_alike Y) (by decide) rfl Y.g__law_alike Y.F__law_alike.kp Y.b__law_alike (da_cons (de_call (ok_once_kinds Y) (by decide) rfl Y.g_once_kinds Y.F_once_kinds.kp Y.b_once_kinds (da_cons (de_name 12 rfl (vis_of rfl) rfl rfl) da_nil (fun _ => rfl)) rfl (fun _ => rfl) (fun _ => rfl) rfl (mcons_len mnil_len)) (da_cons (de_name 15 rfl (vis_of rfl) rfl rfl) da_nil (fun _ => rfl)) (fun _ => rfl)) rfl (fun _ => rfl) (fun _ => rfl) rfl (mcons_len (mcons_len mnil_len))) (fun _ _ => rfl))) (dss_one (ds_ret de_bl)) dss_nil))))))))) (fun _ _ => rfl))
    (dss_cons (ds_for (di_seq (de_call (ok__law_near_stocks Y) (by decide) rfl Y.g__law_near_stocks Y.F__law_near_stocks.kp Y.b__law_near_stocks (da_cons (de_name 1 rfl (vis_of rfl) rfl rfl) (da_cons (de_name 3 rfl (vis_of rfl) rfl rfl) da_nil (fun _ => rfl)) (fun _ => rfl)) rfl (fun _ => rfl) (fun _ => rfl) rfl (mcons_len (mcons_len mnil_len)))) (dg_name (sto_of rfl rfl)) (dss_cons (ds_asg (sto_of rfl rfl) (de_callB call_reprE rfl Y.z_repr rfl (da_cons (de_name 11 rfl (vis_of rfl) rfl rfl) da_nil (fun _ => rfl)) (by decide) rfl (fun _ => rfl) (fun _ => rfl)) (fun _ => rfl))
    (dss_one (ds_if (dt_w (dw_or (dt_not (dt_val (de_call (ok__law_alike Y) (by decide) rfl Y.g__law_alike Y.F__law_alike.kp Y.b__law_alike (da_cons (de_call (ok_is_stock Y) (by decide) rfl Y.g_is_stock Y.F_is_stock.kp Y.b_is_stock (da_cons (de_name 3 rfl (vis_of rfl) rfl rfl) (da_cons (de_name 11 rfl (vis_of rfl) rfl rfl) da_nil (fun _ => rfl)) (fun _ => rfl)) rfl (fun _ => rfl) (fun _ => rfl) rfl (mcons_len (mcons_len mnil_len))) (da_cons (de_call (ok__law_is_stock Y) (by decide) rfl Y.g__law_is_stock Y.F__law_is_stock.kp Y.b__law_is_stock (da_cons (de_name 3 rfl (vis_of rfl) rfl rfl) (da_cons (de_name 11 rfl (vis_of rfl) rfl rfl) da_nil (fun _ => rfl)) (fun _ => rfl)) rfl (fun _ => rfl) (fun _ => rfl) rfl (mcons_len (mcons_len mnil_len))) da_nil (fun _ => rfl)) (fun _ => rfl)) rfl (fun _ => rfl) (fun _ => rfl) rfl (mcons_len (mcons_len mnil_len))) (fun _ _ => rfl))) (dw_one (dt_cmp op_neD' (de_callB call_reprE rfl Y.z_repr rfl (da_cons (de_name 11 rfl (vis_of rfl) rfl rfl) da_nil (fun _ => rfl)) (by decide) rfl (fun _ => rfl) (fun _ => rfl)) (de_name 16 rfl (vis_of rfl) rfl rfl) rfl)))) (dss_one (ds_ret de_bl)) dss_nil))) (fun _ _ => rfl))
    (dss_one (ds_if (dt_cmp op_neD' (de_callB call_reprE rfl Y.z_repr rfl (da_cons (de_name 3 rfl (vis_of rfl) rfl rfl) da_nil (fun _ => rfl)) (by decide) rfl (fun _ => rfl) (fun _ => rfl)) (de_name 5 rfl (vis_of rfl) rfl rfl) rfl) (dss_one (ds_ret de_bl)) dss_nil))))))))))) (fun _ _ => rfl))
    (dss_one (ds_ret de_bl))))
theorem ok_law {G : GC} (Y : Fx G) : FnG G 11 Y.f_law Y.d_law ["_law_script"] (spM G.K 1 p_law) := fn_m Y.F_law sc_law (dss_law Y)
theorem all_mk {l : PySem.W.OpenLaw} {w : World} {K : PySem.W.Frag} {h : Heap} {mg : Str → Option Value} {fa : Addr} (X : K.In h) (G : h.Ns mainGlobals mg) (hfa : mg "law" = some (.ref fa))
    {f0 : Addr} {od0 an0 : Option Addr} {sl0 : Array (Option Value)} {oc0 kV0 dc0 pm0 cd0 ct0 : Value}
    (a0 : PySem.W.nsIn K mainGlobals "_law_alike" = some (some (.ref f0))) (l0 : K.lookup f0 = some ⟨oc0, od0, .func (PySem.W.fnOf "_law_alike" "_law_alike" (defArgs s__law_alike) (defBody s__law_alike) (defScope s__law_alike) .none kV0 dc0 pm0 an0 cd0 ct0), sl0⟩) (c0 : PySem.W.codeIn K cd0 "_law_alike" = true) (k0 : PySem.W.keepIn K (.ref f0) = true)
    {f1 : Addr} {od1 an1 : Option Addr} {sl1 : Array (Option Value)} {oc1 kV1 dc1 pm1 cd1 ct1 : Value}
    (a1 : PySem.W.nsIn K mainGlobals "_law_bag" = some (some (.ref f1))) (l1 : K.lookup f1 = some ⟨oc1, od1, .func (PySem.W.fnOf "_law_bag" "_law_bag" (defArgs s__law_bag) (defBody s__law_bag) (defScope s__law_bag) .none kV1 dc1 pm1 an1 cd1 ct1), sl1⟩) (c1 : PySem.W.codeIn K cd1 "_law_bag" = true) (k1 : PySem.W.keepIn K (.ref f1) = true)
    {f2 : Addr} {od2 an2 : Option Addr} {sl2 : Array (Option Value)} {oc2 kV2 dc2 pm2 cd2 ct2 : Value}
    (a2 : PySem.W.nsIn K mainGlobals "_law_parts" = some (some (.ref f2))) (l2 : K.lookup f2 = some ⟨oc2, od2, .func (PySem.W.fnOf "_law_parts" "_law_parts" (defArgs s__law_parts) (defBody s__law_parts) (defScope s__law_parts) .none kV2 dc2 pm2 an2 cd2 ct2), sl2⟩) (c2 : PySem.W.codeIn K cd2 "_law_parts" = true) (k2 : PySem.W.keepIn K (.ref f2) = true)
    {f3 : Addr} {od3 an3 : Option Addr} {sl3 : Array (Option Value)} {oc3 kV3 dc3 pm3 cd3 ct3 : Value}
    (a3 : PySem.W.nsIn K mainGlobals "_law_once_table" = some (some (.ref f3))) (l3 : K.lookup f3 = some ⟨oc3, od3, .func (PySem.W.fnOf "_law_once_table" "_law_once_table" (defArgs s__law_once_table) (defBody s__law_once_table) (defScope s__law_once_table) .none kV3 dc3 pm3 an3 cd3 ct3), sl3⟩) (c3 : PySem.W.codeIn K cd3 "_law_once_table" = true) (k3 : PySem.W.keepIn K (.ref f3) = true)
    {f4 : Addr} {od4 an4 : Option Addr} {sl4 : Array (Option Value)} {oc4 kV4 dc4 pm4 cd4 ct4 : Value}
    (a4 : PySem.W.nsIn K mainGlobals "_law_bounded" = some (some (.ref f4))) (l4 : K.lookup f4 = some ⟨oc4, od4, .func (PySem.W.fnOf "_law_bounded" "_law_bounded" (defArgs s__law_bounded) (defBody s__law_bounded) (defScope s__law_bounded) .none kV4 dc4 pm4 an4 cd4 ct4), sl4⟩) (c4 : PySem.W.codeIn K cd4 "_law_bounded" = true) (k4 : PySem.W.keepIn K (.ref f4) = true)
    {f5 : Addr} {od5 an5 : Option Addr} {sl5 : Array (Option Value)} {oc5 kV5 dc5 pm5 cd5 ct5 : Value}
    (a5 : PySem.W.nsIn K mainGlobals "_law_holding" = some (some (.ref f5))) (l5 : K.lookup f5 = some ⟨oc5, od5, .func (PySem.W.fnOf "_law_holding" "_law_holding" (defArgs s__law_holding) (defBody s__law_holding) (defScope s__law_holding) .none kV5 dc5 pm5 an5 cd5 ct5), sl5⟩) (c5 : PySem.W.codeIn K cd5 "_law_holding" = true) (k5 : PySem.W.keepIn K (.ref f5) = true)
    {f6 : Addr} {od6 an6 : Option Addr} {sl6 : Array (Option Value)} {oc6 kV6 dc6 pm6 cd6 ct6 : Value}
    (a6 : PySem.W.nsIn K mainGlobals "_law_is_once" = some (some (.ref f6))) (l6 : K.lookup f6 = some ⟨oc6, od6, .func (PySem.W.fnOf "_law_is_once" "_law_is_once" (defArgs s__law_is_once) (defBody s__law_is_once) (defScope s__law_is_once) .none kV6 dc6 pm6 an6 cd6 ct6), sl6⟩) (c6 : PySem.W.codeIn K cd6 "_law_is_once" = true) (k6 : PySem.W.keepIn K (.ref f6) = true)
    {f7 : Addr} {od7 an7 : Option Addr} {sl7 : Array (Option Value)} {oc7 kV7 dc7 pm7 cd7 ct7 : Value}
    (a7 : PySem.W.nsIn K mainGlobals "_law_is_int" = some (some (.ref f7))) (l7 : K.lookup f7 = some ⟨oc7, od7, .func (PySem.W.fnOf "_law_is_int" "_law_is_int" (defArgs s__law_is_int) (defBody s__law_is_int) (defScope s__law_is_int) .none kV7 dc7 pm7 an7 cd7 ct7), sl7⟩) (c7 : PySem.W.codeIn K cd7 "_law_is_int" = true) (k7 : PySem.W.keepIn K (.ref f7) = true)
    {f8 : Addr} {od8 an8 : Option Addr} {sl8 : Array (Option Value)} {oc8 kV8 dc8 pm8 cd8 ct8 : Value}
    (a8 : PySem.W.nsIn K mainGlobals "_law_kinds" = some (some (.ref f8))) (l8 : K.lookup f8 = some ⟨oc8, od8, .func (PySem.W.fnOf "_law_kinds" "_law_kinds" (defArgs s__law_kinds) (defBody s__law_kinds) (defScope s__law_kinds) .none kV8 dc8 pm8 an8 cd8 ct8), sl8⟩) (c8 : PySem.W.codeIn K cd8 "_law_kinds" = true) (k8 : PySem.W.keepIn K (.ref f8) = true)
    {f9 : Addr} {od9 an9 : Option Addr} {sl9 : Array (Option Value)} {oc9 kV9 dc9 pm9 cd9 ct9 : Value}
    (a9 : PySem.W.nsIn K mainGlobals "_law_is_stock" = some (some (.ref f9))) (l9 : K.lookup f9 = some ⟨oc9, od9, .func (PySem.W.fnOf "_law_is_stock" "_law_is_stock" (defArgs s__law_is_stock) (defBody s__law_is_stock) (defScope s__law_is_stock) .none kV9 dc9 pm9 an9 cd9 ct9), sl9⟩) (c9 : PySem.W.codeIn K cd9 "_law_is_stock" = true) (k9 : PySem.W.keepIn K (.ref f9) = true)
    {f10 : Addr} {od10 an10 : Option Addr} {sl10 : Array (Option Value)} {oc10 kV10 dc10 pm10 cd10 ct10 : Value}
    (a10 : PySem.W.nsIn K mainGlobals "_law_declared" = some (some (.ref f10))) (l10 : K.lookup f10 = some ⟨oc10, od10, .func (PySem.W.fnOf "_law_declared" "_law_declared" (defArgs s__law_declared) (defBody s__law_declared) (defScope s__law_declared) .none kV10 dc10 pm10 an10 cd10 ct10), sl10⟩) (c10 : PySem.W.codeIn K cd10 "_law_declared" = true) (k10 : PySem.W.keepIn K (.ref f10) = true)
    {f11 : Addr} {od11 an11 : Option Addr} {sl11 : Array (Option Value)} {oc11 kV11 dc11 pm11 cd11 ct11 : Value}
    (a11 : PySem.W.nsIn K mainGlobals "_law_take" = some (some (.ref f11))) (l11 : K.lookup f11 = some ⟨oc11, od11, .func (PySem.W.fnOf "_law_take" "_law_take" (defArgs s__law_take) (defBody s__law_take) (defScope s__law_take) .none kV11 dc11 pm11 an11 cd11 ct11), sl11⟩) (c11 : PySem.W.codeIn K cd11 "_law_take" = true) (k11 : PySem.W.keepIn K (.ref f11) = true)
    {f12 : Addr} {od12 an12 : Option Addr} {sl12 : Array (Option Value)} {oc12 kV12 dc12 pm12 cd12 ct12 : Value}
    (a12 : PySem.W.nsIn K mainGlobals "_law_mixed" = some (some (.ref f12))) (l12 : K.lookup f12 = some ⟨oc12, od12, .func (PySem.W.fnOf "_law_mixed" "_law_mixed" (defArgs s__law_mixed) (defBody s__law_mixed) (defScope s__law_mixed) .none kV12 dc12 pm12 an12 cd12 ct12), sl12⟩) (c12 : PySem.W.codeIn K cd12 "_law_mixed" = true) (k12 : PySem.W.keepIn K (.ref f12) = true)
    {f13 : Addr} {od13 an13 : Option Addr} {sl13 : Array (Option Value)} {oc13 kV13 dc13 pm13 cd13 ct13 : Value}
    (a13 : PySem.W.nsIn K mainGlobals "_law_some" = some (some (.ref f13))) (l13 : K.lookup f13 = some ⟨oc13, od13, .func (PySem.W.fnOf "_law_some" "_law_some" (defArgs s__law_some) (defBody s__law_some) (defScope s__law_some) .none kV13 dc13 pm13 an13 cd13 ct13), sl13⟩) (c13 : PySem.W.codeIn K cd13 "_law_some" = true) (k13 : PySem.W.keepIn K (.ref f13) = true)
    {f14 : Addr} {od14 an14 : Option Addr} {sl14 : Array (Option Value)} {oc14 kV14 dc14 pm14 cd14 ct14 : Value}
    (a14 : PySem.W.nsIn K mainGlobals "_law_new_name" = some (some (.ref f14))) (l14 : K.lookup f14 = some ⟨oc14, od14, .func (PySem.W.fnOf "_law_new_name" "_law_new_name" (defArgs s__law_new_name) (defBody s__law_new_name) (defScope s__law_new_name) .none kV14 dc14 pm14 an14 cd14 ct14), sl14⟩) (c14 : PySem.W.codeIn K cd14 "_law_new_name" = true) (k14 : PySem.W.keepIn K (.ref f14) = true)
    {f15 : Addr} {od15 an15 : Option Addr} {sl15 : Array (Option Value)} {oc15 kV15 dc15 pm15 cd15 ct15 : Value}
    (a15 : PySem.W.nsIn K mainGlobals "_law_shaped" = some (some (.ref f15))) (l15 : K.lookup f15 = some ⟨oc15, od15, .func (PySem.W.fnOf "_law_shaped" "_law_shaped" (defArgs s__law_shaped) (defBody s__law_shaped) (defScope s__law_shaped) .none kV15 dc15 pm15 an15 cd15 ct15), sl15⟩) (c15 : PySem.W.codeIn K cd15 "_law_shaped" = true) (k15 : PySem.W.keepIn K (.ref f15) = true)
    {f16 : Addr} {od16 an16 : Option Addr} {sl16 : Array (Option Value)} {oc16 kV16 dc16 pm16 cd16 ct16 : Value}
    (a16 : PySem.W.nsIn K mainGlobals "_law_library" = some (some (.ref f16))) (l16 : K.lookup f16 = some ⟨oc16, od16, .func (PySem.W.fnOf "_law_library" "_law_library" (defArgs s__law_library) (defBody s__law_library) (defScope s__law_library) .none kV16 dc16 pm16 an16 cd16 ct16), sl16⟩) (c16 : PySem.W.codeIn K cd16 "_law_library" = true) (k16 : PySem.W.keepIn K (.ref f16) = true)
    {f17 : Addr} {od17 an17 : Option Addr} {sl17 : Array (Option Value)} {oc17 kV17 dc17 pm17 cd17 ct17 : Value}
    (a17 : PySem.W.nsIn K mainGlobals "_law_odd" = some (some (.ref f17))) (l17 : K.lookup f17 = some ⟨oc17, od17, .func (PySem.W.fnOf "_law_odd" "_law_odd" (defArgs s__law_odd) (defBody s__law_odd) (defScope s__law_odd) .none kV17 dc17 pm17 an17 cd17 ct17), sl17⟩) (c17 : PySem.W.codeIn K cd17 "_law_odd" = true) (k17 : PySem.W.keepIn K (.ref f17) = true)
    {f18 : Addr} {od18 an18 : Option Addr} {sl18 : Array (Option Value)} {oc18 kV18 dc18 pm18 cd18 ct18 : Value}
    (a18 : PySem.W.nsIn K mainGlobals "_law_bent" = some (some (.ref f18))) (l18 : K.lookup f18 = some ⟨oc18, od18, .func (PySem.W.fnOf "_law_bent" "_law_bent" (defArgs s__law_bent) (defBody s__law_bent) (defScope s__law_bent) .none kV18 dc18 pm18 an18 cd18 ct18), sl18⟩) (c18 : PySem.W.codeIn K cd18 "_law_bent" = true) (k18 : PySem.W.keepIn K (.ref f18) = true)
    {f19 : Addr} {od19 an19 : Option Addr} {sl19 : Array (Option Value)} {oc19 kV19 dc19 pm19 cd19 ct19 : Value}
    (a19 : PySem.W.nsIn K mainGlobals "_law_near_stocks" = some (some (.ref f19))) (l19 : K.lookup f19 = some ⟨oc19, od19, .func (PySem.W.fnOf "_law_near_stocks" "_law_near_stocks" (defArgs s__law_near_stocks) (defBody s__law_near_stocks) (defScope s__law_near_stocks) .none kV19 dc19 pm19 an19 cd19 ct19), sl19⟩) (c19 : PySem.W.codeIn K cd19 "_law_near_stocks" = true) (k19 : PySem.W.keepIn K (.ref f19) = true)
    {f20 : Addr} {od20 an20 : Option Addr} {sl20 : Array (Option Value)} {oc20 kV20 dc20 pm20 cd20 ct20 : Value}
    (a20 : PySem.W.nsIn K mainGlobals "_law_turned" = some (some (.ref f20))) (l20 : K.lookup f20 = some ⟨oc20, od20, .func (PySem.W.fnOf "_law_turned" "_law_turned" (defArgs s__law_turned) (defBody s__law_turned) (defScope s__law_turned) .none kV20 dc20 pm20 an20 cd20 ct20), sl20⟩) (c20 : PySem.W.codeIn K cd20 "_law_turned" = true) (k20 : PySem.W.keepIn K (.ref f20) = true)
    {f21 : Addr} {od21 an21 : Option Addr} {sl21 : Array (Option Value)} {oc21 kV21 dc21 pm21 cd21 ct21 : Value}
    (a21 : PySem.W.nsIn K mainGlobals "once_table" = some (some (.ref f21))) (l21 : K.lookup f21 = some ⟨oc21, od21, .func (PySem.W.fnOf "once_table" "once_table" (defArgs s_once_table) (defBody s_once_table) (defScope s_once_table) .none kV21 dc21 pm21 an21 cd21 ct21), sl21⟩) (c21 : PySem.W.codeIn K cd21 "once_table" = true) (k21 : PySem.W.keepIn K (.ref f21) = true)
    {f22 : Addr} {od22 an22 : Option Addr} {sl22 : Array (Option Value)} {oc22 kV22 dc22 pm22 cd22 ct22 : Value}
    (a22 : PySem.W.nsIn K mainGlobals "is_once" = some (some (.ref f22))) (l22 : K.lookup f22 = some ⟨oc22, od22, .func (PySem.W.fnOf "is_once" "is_once" (defArgs s_is_once) (defBody s_is_once) (defScope s_is_once) .none kV22 dc22 pm22 an22 cd22 ct22), sl22⟩) (c22 : PySem.W.codeIn K cd22 "is_once" = true) (k22 : PySem.W.keepIn K (.ref f22) = true)
    {f23 : Addr} {od23 an23 : Option Addr} {sl23 : Array (Option Value)} {oc23 kV23 dc23 pm23 cd23 ct23 : Value}
    (a23 : PySem.W.nsIn K mainGlobals "is_integer" = some (some (.ref f23))) (l23 : K.lookup f23 = some ⟨oc23, od23, .func (PySem.W.fnOf "is_integer" "is_integer" (defArgs s_is_integer) (defBody s_is_integer) (defScope s_is_integer) .none kV23 dc23 pm23 an23 cd23 ct23), sl23⟩) (c23 : PySem.W.codeIn K cd23 "is_integer" = true) (k23 : PySem.W.keepIn K (.ref f23) = true)
    {f24 : Addr} {od24 an24 : Option Addr} {sl24 : Array (Option Value)} {oc24 kV24 dc24 pm24 cd24 ct24 : Value}
    (a24 : PySem.W.nsIn K mainGlobals "is_count" = some (some (.ref f24))) (l24 : K.lookup f24 = some ⟨oc24, od24, .func (PySem.W.fnOf "is_count" "is_count" (defArgs s_is_count) (defBody s_is_count) (defScope s_is_count) .none kV24 dc24 pm24 an24 cd24 ct24), sl24⟩) (c24 : PySem.W.codeIn K cd24 "is_count" = true) (k24 : PySem.W.keepIn K (.ref f24) = true)
    {f25 : Addr} {od25 an25 : Option Addr} {sl25 : Array (Option Value)} {oc25 kV25 dc25 pm25 cd25 ct25 : Value}
    (a25 : PySem.W.nsIn K mainGlobals "is_stock" = some (some (.ref f25))) (l25 : K.lookup f25 = some ⟨oc25, od25, .func (PySem.W.fnOf "is_stock" "is_stock" (defArgs s_is_stock) (defBody s_is_stock) (defScope s_is_stock) .none kV25 dc25 pm25 an25 cd25 ct25), sl25⟩) (c25 : PySem.W.codeIn K cd25 "is_stock" = true) (k25 : PySem.W.keepIn K (.ref f25) = true)
    {f26 : Addr} {od26 an26 : Option Addr} {sl26 : Array (Option Value)} {oc26 kV26 dc26 pm26 cd26 ct26 : Value}
    (a26 : PySem.W.nsIn K mainGlobals "once_kinds" = some (some (.ref f26))) (l26 : K.lookup f26 = some ⟨oc26, od26, .func (PySem.W.fnOf "once_kinds" "once_kinds" (defArgs s_once_kinds) (defBody s_once_kinds) (defScope s_once_kinds) .none kV26 dc26 pm26 an26 cd26 ct26), sl26⟩) (c26 : PySem.W.codeIn K cd26 "once_kinds" = true) (k26 : PySem.W.keepIn K (.ref f26) = true)
    {f27 : Addr} {od27 an27 : Option Addr} {sl27 : Array (Option Value)} {oc27 kV27 dc27 pm27 cd27 ct27 : Value}
    (a27 : PySem.W.nsIn K mainGlobals "plain_kinds" = some (some (.ref f27))) (l27 : K.lookup f27 = some ⟨oc27, od27, .func (PySem.W.fnOf "plain_kinds" "plain_kinds" (defArgs s_plain_kinds) (defBody s_plain_kinds) (defScope s_plain_kinds) .none kV27 dc27 pm27 an27 cd27 ct27), sl27⟩) (c27 : PySem.W.codeIn K cd27 "plain_kinds" = true) (k27 : PySem.W.keepIn K (.ref f27) = true)
    {f28 : Addr} {od28 an28 : Option Addr} {sl28 : Array (Option Value)} {oc28 kV28 dc28 pm28 cd28 ct28 : Value}
    (a28 : PySem.W.nsIn K mainGlobals "law" = some (some (.ref f28))) (l28 : K.lookup f28 = some ⟨oc28, od28, .func (PySem.W.fnOf "law" "law" (defArgs s_law) (defBody s_law) (defScope s_law) .none kV28 dc28 pm28 an28 cd28 ct28), sl28⟩) (c28 : PySem.W.codeIn K cd28 "law" = true) (k28 : PySem.W.keepIn K (.ref f28) = true)
    (z_abs : PySem.W.nsIn K mainGlobals "abs" = some none)
    (z_all : PySem.W.nsIn K mainGlobals "all" = some none)
    (z_any : PySem.W.nsIn K mainGlobals "any" = some none)
    (z_bool : PySem.W.nsIn K mainGlobals "bool" = some none)
    (z_dict : PySem.W.nsIn K mainGlobals "dict" = some none)
    (z_enumerate : PySem.W.nsIn K mainGlobals "enumerate" = some none)
    (z_int : PySem.W.nsIn K mainGlobals "int" = some none)
    (z_isinstance : PySem.W.nsIn K mainGlobals "isinstance" = some none)
    (z_len : PySem.W.nsIn K mainGlobals "len" = some none)
    (z_list : PySem.W.nsIn K mainGlobals "list" = some none)
    (z_range : PySem.W.nsIn K mainGlobals "range" = some none)
    (z_repr : PySem.W.nsIn K mainGlobals "repr" = some none)
    (z_sorted : PySem.W.nsIn K mainGlobals "sorted" = some none)
    (z_str : PySem.W.nsIn K mainGlobals "str" = some none)
    (z_tuple : PySem.W.nsIn K mainGlobals "tuple" = some none)
    (z_zip : PySem.W.nsIn K mainGlobals "zip" = some none)
    : ∃ fd : FuncData, (∀ (s : Shared) (u : Value), BindsTo s fd ⟨[u], []⟩ [("_law_script", u)]) ∧ ∀ base : Heap, K.In base → base.Ns mainGlobals mg → FnG ⟨l.prog, w, K, mg, base⟩ 11 fa fd ["_law_script"] (spM K 1 p_law) := by
  have e := hfa.symm.trans (PySem.W.mg_of X G a28)
  cases e
  refine ⟨_, fun s v => .of_eq (fd := PySem.W.fnOf "law" "law" (defArgs s_law) (defBody s_law) (defScope s_law) .none kV28 dc28 pm28 an28 cd28 ct28) rfl, fun base _ _ => ?_⟩
  have F0 := fun_mk (st := s__law_alike) l0 c0 k0
  have b0 := F0.binds (ps := ["_law_found", "_law_due"]) fun _ _ _ _ _ _ us hl => match us, hl with | [_, _], _ => rfl
  have F1 := fun_mk (st := s__law_bag) l1 c1 k1
  have b1 := F1.binds (ps := ["_law_script"]) fun _ _ _ _ _ _ us hl => match us, hl with | [_], _ => rfl
  have F2 := fun_mk (st := s__law_parts) l2 c2 k2
  have b2 := F2.binds (ps := ["_law_decl"]) fun _ _ _ _ _ _ us hl => match us, hl with | [_], _ => rfl
  have F3 := fun_mk (st := s__law_once_table) l3 c3 k3
  have b3 := F3.binds (ps := ["_law_decls"]) fun _ _ _ _ _ _ us hl => match us, hl with | [_], _ => rfl
  have F4 := fun_mk (st := s__law_bounded) l4 c4 k4
  have b4 := F4.binds (ps := ["_law_decls", "_law_functions"]) fun _ _ _ _ _ _ us hl => match us, hl with | [_, _], _ => rfl
  have F5 := fun_mk (st := s__law_holding) l5 c5 k5
  have b5 := F5.binds (ps := ["_law_decls", "_law_other"]) fun _ _ _ _ _ _ us hl => match us, hl with | [_, _], _ => rfl
  have F6 := fun_mk (st := s__law_is_once) l6 c6 k6
  have b6 := F6.binds (ps := ["_law_decls", "_law_kind"]) fun _ _ _ _ _ _ us hl => match us, hl with | [_, _], _ => rfl
  have F7 := fun_mk (st := s__law_is_int) l7 c7 k7
  have b7 := F7.binds (ps := ["_law_thing"]) fun _ _ _ _ _ _ us hl => match us, hl with | [_], _ => rfl
  have F8 := fun_mk (st := s__law_kinds) l8 c8 k8
  have b8 := F8.binds (ps := ["_law_decls"]) fun _ _ _ _ _ _ us hl => match us, hl with | [_], _ => rfl
  have F9 := fun_mk (st := s__law_is_stock) l9 c9 k9
  have b9 := F9.binds (ps := ["_law_decls", "_law_thing"]) fun _ _ _ _ _ _ us hl => match us, hl with | [_, _], _ => rfl
  have F10 := fun_mk (st := s__law_declared) l10 c10 k10
  have b10 := F10.binds (ps := ["_law_decls"]) fun _ _ _ _ _ _ us hl => match us, hl with | [_], _ => rfl
  have F11 := fun_mk (st := s__law_take) l11 c11 k11
  have b11 := F11.binds (ps := ["_law_bag_here", "_law_many"]) fun _ _ _ _ _ _ us hl => match us, hl with | [_, _], _ => rfl
  have F12 := fun_mk (st := s__law_mixed) l12 c12 k12
  have b12 := F12.binds (ps := ["_law_bag_here", "_law_things"]) fun _ _ _ _ _ _ us hl => match us, hl with | [_, _], _ => rfl
  have F13 := fun_mk (st := s__law_some) l13 c13 k13
  have b13 := F13.binds (ps := ["_law_bag_here", "_law_things"]) fun _ _ _ _ _ _ us hl => match us, hl with | [_, _], _ => rfl
  have F14 := fun_mk (st := s__law_new_name) l14 c14 k14
  have b14 := F14.binds (ps := ["_law_bag_here", "_law_taken"]) fun _ _ _ _ _ _ us hl => match us, hl with | [_, _], _ => rfl
  have F15 := fun_mk (st := s__law_shaped) l15 c15 k15
  have b15 := F15.binds (ps := ["_law_bag_here", "_law_decls", "_law_word"]) fun _ _ _ _ _ _ us hl => match us, hl with | [_, _, _], _ => rfl
  have F16 := fun_mk (st := s__law_library) l16 c16 k16
  have b16 := F16.binds (ps := ["_law_bag_here", "_law_most"]) fun _ _ _ _ _ _ us hl => match us, hl with | [_, _], _ => rfl
  have F17 := fun_mk (st := s__law_odd) l17 c17 k17
  have b17 := F17.binds (ps := ["_law_bag_here"]) fun _ _ _ _ _ _ us hl => match us, hl with | [_], _ => rfl
  have F18 := fun_mk (st := s__law_bent) l18 c18 k18
  have b18 := F18.binds (ps := ["_law_bag_here", "_law_thing", "_law_deep"]) fun _ _ _ _ _ _ us hl => match us, hl with | [_, _, _], _ => rfl
  have F19 := fun_mk (st := s__law_near_stocks) l19 c19 k19
  have b19 := F19.binds (ps := ["_law_bag_here", "_law_decls"]) fun _ _ _ _ _ _ us hl => match us, hl with | [_, _], _ => rfl
  have F20 := fun_mk (st := s__law_turned) l20 c20 k20
  have b20 := F20.binds (ps := ["_law_decls", "_law_kind"]) fun _ _ _ _ _ _ us hl => match us, hl with | [_, _], _ => rfl
  have F21 := fun_mk (st := s_once_table) l21 c21 k21
  have b21 := F21.binds (ps := ["declarations"]) fun _ _ _ _ _ _ us hl => match us, hl with | [_], _ => rfl
  have F22 := fun_mk (st := s_is_once) l22 c22 k22
  have b22 := F22.binds (ps := ["declarations", "kind"]) fun _ _ _ _ _ _ us hl => match us, hl with | [_, _], _ => rfl
  have F23 := fun_mk (st := s_is_integer) l23 c23 k23
  have b23 := F23.binds (ps := ["thing"]) fun _ _ _ _ _ _ us hl => match us, hl with | [_], _ => rfl
  have F24 := fun_mk (st := s_is_count) l24 c24 k24
  have b24 := F24.binds (ps := ["table", "thing"]) fun _ _ _ _ _ _ us hl => match us, hl with | [_, _], _ => rfl
  have F25 := fun_mk (st := s_is_stock) l25 c25 k25
  have b25 := F25.binds (ps := ["declarations", "thing"]) fun _ _ _ _ _ _ us hl => match us, hl with | [_, _], _ => rfl
  have F26 := fun_mk (st := s_once_kinds) l26 c26 k26
  have b26 := F26.binds (ps := ["declarations"]) fun _ _ _ _ _ _ us hl => match us, hl with | [_], _ => rfl
  have F27 := fun_mk (st := s_plain_kinds) l27 c27 k27
  have b27 := F27.binds (ps := ["declarations"]) fun _ _ _ _ _ _ us hl => match us, hl with | [_], _ => rfl
  have F28 := fun_mk (st := s_law) l28 c28 k28
  have b28 := F28.binds (ps := ["_law_script"]) fun _ _ _ _ _ _ us hl => match us, hl with | [_], _ => rfl
  exact ok_law (G := ⟨l.prog, w, K, mg, base⟩) {
    f__law_alike := _, d__law_alike := _, F__law_alike := F0, g__law_alike := PySem.W.mg_of X G a0, b__law_alike := b0,
    f__law_bag := _, d__law_bag := _, F__law_bag := F1, g__law_bag := PySem.W.mg_of X G a1, b__law_bag := b1,
    f__law_parts := _, d__law_parts := _, F__law_parts := F2, g__law_parts := PySem.W.mg_of X G a2, b__law_parts := b2,
    f__law_once_table := _, d__law_once_table := _, F__law_once_table := F3, g__law_once_table := PySem.W.mg_of X G a3, b__law_once_table := b3,
    f__law_bounded := _, d__law_bounded := _, F__law_bounded := F4, g__law_bounded := PySem.W.mg_of X G a4, b__law_bounded := b4,
    f__law_holding := _, d__law_holding := _, F__law_holding := F5, g__law_holding := PySem.W.mg_of X G a5, b__law_holding := b5,
    f__law_is_once := _, d__law_is_once := _, F__law_is_once := F6, g__law_is_once := PySem.W.mg_of X G a6, b__law_is_once := b6,
    f__law_is_int := _, d__law_is_int := _, F__law_is_int := F7, g__law_is_int := PySem.W.mg_of X G a7, b__law_is_int := b7,
    f__law_kinds := _, d__law_kinds := _, F__law_kinds := F8, g__law_kinds := PySem.W.mg_of X G a8, b__law_kinds := b8,
    f__law_is_stock := _, d__law_is_stock := _, F__law_is_stock := F9, g__law_is_stock := PySem.W.mg_of X G a9, b__law_is_stock := b9,
    f__law_declared := _, d__law_declared := _, F__law_declared := F10, g__law_declared := PySem.W.mg_of X G a10, b__law_declared := b10,
    f__law_take := _, d__law_take := _, F__law_take := F11, g__law_take := PySem.W.mg_of X G a11, b__law_take := b11,
    f__law_mixed := _, d__law_mixed := _, F__law_mixed := F12, g__law_mixed := PySem.W.mg_of X G a12, b__law_mixed := b12,
    f__law_some := _, d__law_some := _, F__law_some := F13, g__law_some := PySem.W.mg_of X G a13, b__law_some := b13,
    f__law_new_name := _, d__law_new_name := _, F__law_new_name := F14, g__law_new_name := PySem.W.mg_of X G a14, b__law_new_name := b14,
    f__law_shaped := _, d__law_shaped := _, F__law_shaped := F15, g__law_shaped := PySem.W.mg_of X G a15, b__law_shaped := b15,
    f__law_library := _, d__law_library := _, F__law_library := F16, g__law_library := PySem.W.mg_of X G a16, b__law_library := b16,
    f__law_odd := _, d__law_odd := _, F__law_odd := F17, g__law_odd := PySem.W.mg_of X G a17, b__law_odd := b17,
    f__law_bent := _, d__law_bent := _, F__law_bent := F18, g__law_bent := PySem.W.mg_of X G a18, b__law_bent := b18,
    f__law_near_stocks := _, d__law_near_stocks := _, F__law_near_stocks := F19, g__law_near_stocks := PySem.W.mg_of X G a19, b__law_near_stocks := b19,
    f__law_turned := _, d__law_turned := _, F__law_turned := F20, g__law_turned := PySem.W.mg_of X G a20, b__law_turned := b20,
    f_once_table := _, d_once_table := _, F_once_table := F21, g_once_table := PySem.W.mg_of X G a21, b_once_table := b21,
    f_is_once := _, d_is_once := _, F_is_once := F22, g_is_once := PySem.W.mg_of X G a22, b_is_once := b22,
    f_is_integer := _, d_is_integer := _, F_is_integer := F23, g_is_integer := PySem.W.mg_of X G a23, b_is_integer := b23,
    f_is_count := _, d_is_count := _, F_is_count := F24, g_is_count := PySem.W.mg_of X G a24, b_is_count := b24,
    f_is_stock := _, d_is_stock := _, F_is_stock := F25, g_is_stock := PySem.W.mg_of X G a25, b_is_stock := b25,
    f_once_kinds := _, d_once_kinds := _, F_once_kinds := F26, g_once_kinds := PySem.W.mg_of X G a26, b_once_kinds := b26,
    f_plain_kinds := _, d_plain_kinds := _, F_plain_kinds := F27, g_plain_kinds := PySem.W.mg_of X G a27, b_plain_kinds := b27,
    f_law := _, d_law := _, F_law := F28, g_law := PySem.W.mg_of X G a28, b_law := b28,
    z_abs := PySem.W.mg_none_of X G z_abs,
    z_all := PySem.W.mg_none_of X G z_all,
    z_any := PySem.W.mg_none_of X G z_any,
    z_bool := PySem.W.mg_none_of X G z_bool,
    z_dict := PySem.W.mg_none_of X G z_dict,
    z_enumerate := PySem.W.mg_none_of X G z_enumerate,
    z_int := PySem.W.mg_none_of X G z_int,
    z_isinstance := PySem.W.mg_none_of X G z_isinstance,
    z_len := PySem.W.mg_none_of X G z_len,
    z_list := PySem.W.mg_none_of X G z_list,
    z_range := PySem.W.mg_none_of X G z_range,
    z_repr := PySem.W.mg_none_of X G z_repr,
    z_sorted := PySem.W.mg_none_of X G z_sorted,
    z_str := PySem.W.mg_none_of X G z_str,
    z_tuple := PySem.W.mg_none_of X G z_tuple,
    z_zip := PySem.W.mg_none_of X G z_zip }
end K05

open PySem PySem.W PyProof.Rows
set_option maxHeartbeats 0 in
theorem PySem.Challenge.cw_endsahead_k05_once_through_parts_holds : PySem.Challenge.rw_endsahead_k05_once_through_parts.Holds := by
  w_on; o_law; k_head; (case hw => w_witness2)
  k_fill
  refine L3.walk_G (l := PySem.Challenge.rw_endsahead_k05_once_through_parts) (n := 63) (k := 11) (x := "_law_script") (m := K05.p_law) rfl (by decide) rfl ⟨rfl, by decide, by decide⟩ (fun w h Y => PySem.W.kIn_of Y) ?F K05.law_true
  case F =>
    intro w mg fa h KX G hmg
    refine' K05.all_mk KX G hmg ?a0 ?l0 ?c0 ?k0 ?a1 ?l1 ?c1 ?k1 ?a2 ?l2 ?c2 ?k2 ?a3 ?l3 ?c3 ?k3 ?a4 ?l4 ?c4 ?k4 ?a5 ?l5 ?c5 ?k5 ?a6 ?l6 ?c6 ?k6 ?a7 ?l7 ?c7 ?k7 ?a8 ?l8 ?c8 ?k8 ?a9 ?l9 ?c9 ?k9 ?a10 ?l10 ?c10 ?k10 ?a11 ?l11 ?c11 ?k11 ?a12 ?l12 ?c12 ?k12 ?a13 ?l13 ?c13 ?k13 ?a14 ?l14 ?c14 ?k14 ?a15 ?l15 ?c15 ?k15 ?a16 ?l16 ?c16 ?k16 ?a17 ?l17 ?c17 ?k17 ?a18 ?l18 ?c18 ?k18 ?a19 ?l19 ?c19 ?k19 ?a20 ?l20 ?c20 ?k20 ?a21 ?l21 ?c21 ?k21 ?a22 ?l22 ?c22 ?k22 ?a23 ?l23 ?c23 ?k23 ?a24 ?l24 ?c24 ?k24 ?a25 ?l25 ?c25 ?k25 ?a26 ?l26 ?c26 ?k26 ?a27 ?l27 ?c27 ?k27 ?a28 ?l28 ?c28 ?k28 ?z_abs ?z_all ?z_any ?z_bool ?z_dict ?z_enumerate ?z_int ?z_isinstance ?z_len ?z_list ?z_range ?z_repr ?z_sorted ?z_str ?z_tuple ?z_zip
    (case a0 => k_is); (case l0 => k_is); (case c0 => k_is); (case k0 => k_is); (case a1 => k_is); (case l1 => k_is); (case c1 => k_is); (case k1 => k_is); (case a2 => k_is); (case l2 => k_is); (case c2 => k_is); (case k2 => k_is); (case a3 => k_is); (case l3 => k_is); (case c3 => k_is); (case k3 => k_is); (case a4 => k_is); (case l4 => k_is); (case c4 => k_is); (case k4 => k_is); (case a5 => k_is); (case l5 => k_is); (case c5 => k_is); (case k5 => k_is); (case a6 => k_is); (case l6 => k_is); (case c6 => k_is); (case k6 => k_is); (case a7 => k_is); (case l7 => k_is); (case c7 => k_is); (case k7 => k_is); (case a8 => k_is); (case l8 => k_is); (case c8 => k_is); (case k8 => k_is); (case a9 => k_is); (case l9 => k_is); (case c9 => k_is); (case k9 => k_is); (case a10 => k_is); (case l10 => k_is); (case c10 => k_is); (case k10 => k_is); (case a11 => k_is); (case l11 => k_is); (case c11 => k_is); (case k11 => k_is); (case a12 => k_is); (case l12 => k_is); (case c12 => k_is); (case k12 => k_is); (case a13 => k_is); (case l13 => k_is); (case c13 => k_is); (case k13 => k_is); (case a14 => k_is); (case l14 => k_is); (case c14 => k_is); (case k14 => k_is); (case a15 => k_is); (case l15 => k_is); (case c15 => k_is); (case k15 => k_is); (case a16 => k_is); (case l16 => k_is); (case c16 => k_is); (case k16 => k_is); (case a17 => k_is); (case l17 => k_is); (case c17 => k_is); (case k17 => k_is); (case a18 => k_is); (case l18 => k_is); (case c18 => k_is); (case k18 => k_is); (case a19 => k_is); (case l19 => k_is); (case c19 => k_is); (case k19 => k_is); (case a20 => k_is); (case l20 => k_is); (case c20 => k_is); (case k20 => k_is); (case a21 => k_is); (case l21 => k_is); (case c21 => k_is); (case k21 => k_is); (case a22 => k_is); (case l22 => k_is); (case c22 => k_is); (case k22 => k_is); (case a23 => k_is); (case l23 => k_is); (case c23 => k_is); (case k23 => k_is); (case a24 => k_is); (case l24 => k_is); (case c24 => k_is); (case k24 => k_is); (case a25 => k_is); (case l25 => k_is); (case c25 => k_is); (case k25 => k_is); (case a26 => k_is); (case l26 => k_is); (case c26 => k_is); (case k26 => k_is); (case a27 => k_is); (case l27 => k_is); (case c27 => k_is); (case k27 => k_is); (case a28 => k_is); (case l28 => k_is); (case c28 => k_is); (case k28 => k_is); (case z_abs => k_is); (case z_all => k_is); (case z_any => k_is); (case z_bool => k_is); (case z_dict => k_is); (case z_enumerate => k_is); (case z_int => k_is); (case z_isinstance => k_is); (case z_len => k_is); (case z_list => k_is); (case z_range => k_is); (case z_repr => k_is); (case z_sorted => k_is); (case z_str => k_is); (case z_tuple => k_is); (case z_zip => k_is)
