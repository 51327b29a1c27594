import PyProof.Rows.All
import Wide.All
import OpenK.AllK
import Wide.FinOn
import HandS.ForMost
import HandS.Deep
import HandS.TupAny
import HandS.TupMul
import HandS.IsInst
import HandS.SetFor
import HandS.Style
import KE.SortData
import HandS.NoneIn
import KE.KDictPairs
import KE.KDictList
import HandS.DictComp
import KE.KeyNested
import KE.KDictKeyed
import KE.SortKeyHeap
import KE.KDictSum
import KE.KDictCopyH
import HandS.SortOrd
import KE.KIntText
import PyProof.StrLawsRepr
import PySem.Challenge.RW_endsahead_k21_whole_an_order_and_what_ke
set_option Elab.async false
set_option linter.all false
set_option maxRecDepth 100000
set_option maxHeartbeats 8000000
set_option autoImplicit false
namespace L3
open PySem PySem.Spec PyProof.Rows L2

/-! data, boxes, environments -/
abbrev D := PyData
def kD : Key → D
  | .inl i => .int i
  | .inr x => .str x
inductive Bx where
  | lst (xs : List D)
  | dic (kvs : List (Key × D))
def dkv (kvs : List (Key × D)) : List (D × D) := kvs.map fun p => (kD p.1, p.2)
def Bx.dat : Bx → D
  | .lst xs => .list xs
  | .dic kvs => .dict (dkv kvs)
inductive A where
  | dat (d : D)
  | box (own : Bool) (b : Bx)
def A.vw : A → D
  | .dat d => d
  | .box _ b => b.dat
abbrev En := List (Option A)
def isBx' : A → Bool
  | .box _ _ => true
  | .dat _ => false
inductive R where
  | dat (d : D)
  | new (b : Bx)
  | ref (i : Nat)
def R.fz : R → R
  | .new b => .dat b.dat
  | r => r
def R.vw (ρ : En) : R → Option D
  | .dat d => some d
  | .new b => some b.dat
  | .ref i => (ρ[i]?.join).map A.vw

section rep
variable (K : PySem.W.Frag) (N : Addr → Prop) (H : Hp)
def KSq (T : String) (a : Addr) (xs : List V) : Prop :=
  ∃ (o : Obj) (its : Array Value) (n : Nat), K.lookup a = some o ∧ o.cls = .type T ∧ o.dict = none ∧ o.data = .seq its n ∧ its.size ≤ sizeLine ∧ Vals xs its.toList
def KLs (a : Addr) (xs : List V) : Prop := ∃ (its : List Value) (n : Nat), K.lookup a = some { cls := .type "list", data := .seq its.toArray n } ∧ its.length ≤ sizeLine ∧ Vals xs its
def SqLN (a : Addr) (xs : List V) : Prop := (Rd H a (.lst xs) ∧ ¬ N a) ∨ KLs K a xs
/-- a tuple that is known to the object -/
def FTup (a : Addr) (xs : List V) : Prop := ∃ o : Obj, H a = some (.frz o (.tup xs)) ∧ o.dict = none
def SqTN (a : Addr) (xs : List V) : Prop := (FTup H a xs ∧ ¬ N a) ∨ KSq K "tuple" a xs
mutual
inductive Rep : V → D → Prop
  | non : Rep .non .none
  | bl (b : Bool) : Rep (.bl b) (.bool b)
  | int (i : Int) : Rep (.int i) (.int i)
  | str (x : Str) : Rep (.str x) (.str x)
  | lst {a : Addr} {xs : List V} {ds : List D} : SqLN K N H a xs → RepL xs ds → Rep (.ref a) (.list ds)
  | tup {a : Addr} {xs : List V} {ds : List D} : SqTN K N H a xs → RepL xs ds → Rep (.ref a) (.tuple ds)
  | dic {a : Addr} {kvs : List (Key × V)} {ds : List (D × D)} : H a = some (.dK kvs) → ¬ N a → RepK kvs ds → Rep (.ref a) (.dict ds)
inductive RepL : List V → List D → Prop
  | nil : RepL [] []
  | cons {v : V} {d : D} {vs : List V} {ds : List D} : Rep v d → RepL vs ds → RepL (v :: vs) (d :: ds)
inductive RepK : List (Key × V) → List (D × D) → Prop
  | nil : RepK [] []
  | cons {k : Key} {v : V} {d : D} {kvs : List (Key × V)} {ds : List (D × D)} : Rep v d → RepK kvs ds → RepK ((k, v) :: kvs) ((kD k, d) :: ds)
end
end rep

structure Evo (N : Addr → Prop) (H : Hp) (N1 : Addr → Prop) (H1 : Hp) : Prop where
  keep : ∀ a o, H a = some o → ¬ N a → H1 a = some o
  av : ∀ a, N1 a → N a ∨ H a = none
theorem Evo.refl {N : Addr → Prop} {H : Hp} : Evo N H N H := ⟨fun _ _ h _ => h, fun _ h => .inl h⟩
theorem Evo.rd {N N1 : Addr → Prop} {H H1 : Hp} (e : Evo N H N1 H1) {a : Addr} {u : HO} (r : Rd H a u) (n : ¬ N a) : Rd H1 a u ∧ ¬ N1 a := by
  rcases r with r | ⟨o, r⟩
  · exact ⟨.inl (e.keep _ _ r n), fun z => (e.av a z).elim n fun q => by rw [q] at r; cases r⟩
  · exact ⟨.inr ⟨o, e.keep _ _ r n⟩, fun z => (e.av a z).elim n fun q => by rw [q] at r; cases r⟩
section
variable {K : PySem.W.Frag} {N N1 : Addr → Prop} {H H1 : Hp}
theorem SqLN.evo (e : Evo N H N1 H1) {a : Addr} {xs : List V} (h : SqLN K N H a xs) : SqLN K N1 H1 a xs := by
  rcases h with ⟨h, n⟩ | h
  · exact .inl (e.rd h n)
  · exact .inr h
theorem SqTN.evo (e : Evo N H N1 H1) {a : Addr} {xs : List V} (h : SqTN K N H a xs) : SqTN K N1 H1 a xs := by
  rcases h with ⟨⟨o, h, d⟩, n⟩ | h
  · exact .inl ⟨⟨o, e.keep _ _ h n, d⟩, fun z => (e.av a z).elim n fun q => by rw [q] at h; cases h⟩
  · exact .inr h
mutual
theorem Rep.evo (e : Evo N H N1 H1) : ∀ (d : D) (v : V), Rep K N H v d → Rep K N1 H1 v d
  | .none, _, h => by cases h; exact .non
  | .bool b, _, h => by cases h; exact .bl b
  | .int i, _, h => by cases h; exact .int i
  | .str x, _, h => by cases h; exact .str x
  | .list ds, _, h => by cases h with | lst h1 h2 => exact .lst (h1.evo e) (RepL.evo e ds _ h2)
  | .tuple ds, _, h => by cases h with | tup h1 h2 => exact .tup (h1.evo e) (RepL.evo e ds _ h2)
  | .dict ds, _, h => by cases h with | dic h1 h2 h3 => exact .dic (e.keep _ _ h1 h2) (e.rd (.inl h1) h2).2 (RepK.evo e ds _ h3)
theorem RepL.evo (e : Evo N H N1 H1) : ∀ (ds : List D) (vs : List V), RepL K N H vs ds → RepL K N1 H1 vs ds
  | [], _, h => by cases h; exact .nil
  | d :: ds, _, h => by cases h with | cons h1 h2 => exact .cons (Rep.evo e d _ h1) (RepL.evo e ds _ h2)
theorem RepK.evo (e : Evo N H N1 H1) : ∀ (ds : List (D × D)) (vs : List (Key × V)), RepK K N H vs ds → RepK K N1 H1 vs ds
  | [], _, h => by cases h; exact .nil
  | (_, d) :: ds, _, h => by cases h with | cons h1 h2 => exact .cons (Rep.evo e d _ h1) (RepK.evo e ds _ h2)
end
theorem RepL.length : ∀ {vs : List V} {ds : List D}, RepL K N H vs ds → vs.length = ds.length
  | _, _, .nil => rfl
  | _, _, .cons _ t => by simp [RepL.length t]
theorem RepL.get : ∀ {vs : List V} {ds : List D} {i : Nat} {d : D}, RepL K N H vs ds → ds[i]? = some d → ∃ v, vs[i]? = some v ∧ Rep K N H v d
  | _, _, _, _, .nil, h => by simp at h
  | _, _, 0, _, .cons r _, h => by simp at h; subst h; exact ⟨_, rfl, r⟩
  | _, _, i + 1, _, .cons _ t, h => by
    obtain ⟨v, h1, h2⟩ := RepL.get (i := i) t (by simpa using h)
    exact ⟨v, by simpa using h1, h2⟩
theorem RepL.append : ∀ {vs ws : List V} {ds es : List D}, RepL K N H vs ds → RepL K N H ws es → RepL K N H (vs ++ ws) (ds ++ es)
  | _, _, _, _, .nil, h => h
  | _, _, _, _, .cons r t, h => .cons r (RepL.append t h)
theorem RepL.take : ∀ {vs : List V} {ds : List D} (n : Nat), RepL K N H vs ds → RepL K N H (vs.take n) (ds.take n)
  | _, _, 0, _ => .nil
  | _, _, _ + 1, .nil => .nil
  | _, _, n + 1, .cons r t => .cons r (RepL.take n t)
theorem RepL.drop : ∀ {vs : List V} {ds : List D} (n : Nat), RepL K N H vs ds → RepL K N H (vs.drop n) (ds.drop n)
  | _, _, 0, r => r
  | _, _, _ + 1, .nil => .nil
  | _, _, n + 1, .cons _ t => RepL.drop n t
theorem RepL.snoc {vs : List V} {ds : List D} {v : V} {d : D} (h : RepL K N H vs ds) (r : Rep K N H v d) : RepL K N H (vs ++ [v]) (ds ++ [d]) := h.append (.cons r .nil)

/-- content of a box at q -/
def BoxOk (K : PySem.W.Frag) (N : Addr → Prop) (H : Hp) (q : Addr) : Bx → Prop
  | .lst ds => ∃ xs, H q = some (.lst xs) ∧ RepL K N H xs ds
  | .dic kvs => ∃ ks, H q = some (.dK ks) ∧ RepK K N H ks (dkv kvs)
theorem BoxOk.there {q : Addr} {b : Bx} (h : BoxOk K N H q b) : ∃ o, H q = some o := by
  cases b with
  | lst ds => obtain ⟨xs, e, _⟩ := h; exact ⟨_, e⟩
  | dic kvs => obtain ⟨xs, e, _⟩ := h; exact ⟨_, e⟩
theorem BoxOk.evo (e : Evo N H N1 H1) {q : Addr} {b : Bx} (h : BoxOk K N H q b) (hq : ∀ o, H q = some o → H1 q = some o) : BoxOk K N1 H1 q b := by
  cases b with
  | lst ds => obtain ⟨xs, e1, r⟩ := h; exact ⟨xs, hq _ e1, RepL.evo e _ _ r⟩
  | dic kvs => obtain ⟨xs, e1, r⟩ := h; exact ⟨xs, hq _ e1, RepK.evo e _ _ r⟩
/-- a box, frozen -/
theorem BoxOk.fz {q : Addr} {b : Bx} (h : BoxOk K N H q b) (n : ¬ N q) : Rep K N H (.ref q) b.dat := by
  cases b with
  | lst ds => obtain ⟨xs, e1, r⟩ := h; exact .lst (.inl ⟨.inl e1, n⟩) r
  | dic kvs => obtain ⟨xs, e1, r⟩ := h; exact .dic e1 n r
/-- read as: data, or a box -/
def SRep (K : PySem.W.Frag) (N : Addr → Prop) (H : Hp) (v : V) (d : D) : Prop := Rep K N H v d ∨ ∃ q b, v = .ref q ∧ d = b.dat ∧ BoxOk K N H q b
end

structure Wd where
  P : Addr → Prop
  B : Nat → Option Addr
  H0 : Hp
def Wd.PB (W : Wd) (a : Addr) : Prop := ∃ i, W.B i = some a
def BoxAt (ρ : En) (σ : L2.St) (q : Addr) : Prop := ∃ (i : Nat) (o : Bool) (b : Bx), ρ[i]? = some (some (A.box o b)) ∧ σ[i]? = some (some (V.ref q))
def Av (P : Addr → Prop) (ρ : En) (σ : L2.St) (q : Addr) : Prop := P q ∨ BoxAt ρ σ q
def RelA (K : PySem.W.Frag) (W : Wd) (N : Addr → Prop) (H : Hp) (i : Nat) : A → V → Prop
  | .dat d, v => Rep K N H v d
  | .box true b, v => ∃ q, v = .ref q ∧ BoxOk K N H q b ∧ W.H0 q = none
  | .box false b, v => ∃ q, v = .ref q ∧ BoxOk K N H q b ∧ W.B i = some q
structure DRel (K : PySem.W.Frag) (W : Wd) (ρ : En) (σ : L2.St) (H : Hp) : Prop where
  len : ρ.length = σ.length
  sl : ∀ (i : Nat) (a : A), ρ[i]? = some (some a) → ∃ v, σ[i]? = some (some v) ∧ RelA K W (Av W.P ρ σ) H i a v
  dis : ∀ (i j : Nat) (o : Bool) (b : Bx) (o' : Bool) (b' : Bx) (q : Addr), ρ[i]? = some (some (A.box o b)) → ρ[j]? = some (some (A.box o' b')) → σ[i]? = some (some (V.ref q)) → σ[j]? = some (some (V.ref q)) → i = j
  prot : ∀ q, W.P q → ∃ o, H q = some o
  pdis : ∀ q, W.P q → ¬ BoxAt ρ σ q
  keep : ∀ a o, W.H0 a = some o → ¬ W.PB a → H a = some o
  there : ∀ a o, W.H0 a = some o → ∃ o', H a = some o'
section
variable {K : PySem.W.Frag} {W : Wd} {ρ ρ' ρ'' : En} {σ σ' σ'' : L2.St} {H H' H'' : Hp}
theorem DRel.boxOk (h : DRel K W ρ σ H) {i : Nat} {o : Bool} {b : Bx} (e : ρ[i]? = some (some (A.box o b))) : ∃ q, σ[i]? = some (some (.ref q)) ∧ BoxOk K (Av W.P ρ σ) H q b ∧ BoxAt ρ σ q ∧ (o = true → W.H0 q = none) ∧ (o = false → W.B i = some q) := by
  obtain ⟨v, hv, r⟩ := h.sl i _ e
  cases o with
  | true => obtain ⟨q, rfl, bo, z⟩ := r; exact ⟨q, hv, bo, ⟨i, _, b, e, hv⟩, fun _ => z, fun q => nomatch q⟩
  | false => obtain ⟨q, rfl, bo, z⟩ := r; exact ⟨q, hv, bo, ⟨i, _, b, e, hv⟩, (fun q => nomatch q), fun _ => z⟩
theorem DRel.boxThere (h : DRel K W ρ σ H) {q : Addr} (b : BoxAt ρ σ q) : ∃ o, H q = some o := by
  obtain ⟨i, o, b, e, hs⟩ := b
  obtain ⟨q', hs', bo, _⟩ := h.boxOk e
  rw [hs] at hs'; cases hs'
  exact bo.there
theorem DRel.avThere (h : DRel K W ρ σ H) {q : Addr} (b : Av W.P ρ σ q) : ∃ o, H q = some o := b.elim (h.prot q) h.boxThere
theorem DRel.pb (h : DRel K W ρ σ H) {q : Addr} (b : BoxAt ρ σ q) : W.H0 q = none ∨ W.PB q := by
  obtain ⟨i, o, b, e, hs⟩ := b
  obtain ⟨q', hs', bo, _, h1, h2⟩ := h.boxOk e
  rw [hs] at hs'; cases hs'
  cases o with
  | true => exact .inl (h1 rfl)
  | false => exact .inr ⟨i, h2 rfl⟩
/-- the slot's value as it is read -/
theorem DRel.look (h : DRel K W ρ σ H) {i : Nat} {v : V} {d : D} (hv : σ[i]? = some (some v)) (e : R.vw ρ (.ref i) = some d) : SRep K (Av W.P ρ σ) H v d := by
  have e' : (ρ[i]?.join).map A.vw = some d := e
  obtain ⟨a, e1, rfl⟩ := Option.map_eq_some_iff.mp e'
  have e2 : ρ[i]? = some (some a) := Option.join_eq_some_iff.mp e1
  cases a with
  | dat d' =>
    obtain ⟨v', hv', r⟩ := h.sl i _ e2
    rw [hv] at hv'; cases hv'
    exact .inl r
  | box o b =>
    obtain ⟨q, hq, bo, _⟩ := h.boxOk e2
    rw [hv] at hq; cases hq
    exact .inr ⟨q, b, rfl, rfl, bo⟩

/-- what an expression may have done -/
structure PostC (K : PySem.W.Frag) (W : Wd) (ρ : En) (σ : L2.St) (H : Hp) (ρ' : En) (σ' : L2.St) (H' : Hp) : Prop where
  rel : DRel K W ρ' σ' H'
  ext : ∀ a o, H a = some o → ¬ BoxAt ρ σ a → H' a = some o
  thr : ∀ a o, H a = some o → ∃ o', H' a = some o'
  new : ∀ q, BoxAt ρ' σ' q → BoxAt ρ σ q ∨ H q = none
structure PostX (K : PySem.W.Frag) (W : Wd) (ρ : En) (σ : L2.St) (H : Hp) (ρ' : En) (H' : Hp) : Prop extends PostC K W ρ σ H ρ' σ H' where
  stay : ∀ (i : Nat) (a : A), ρ[i]? = some (some a) → ∃ a', ρ'[i]? = some (some a')
  sub : ∀ q, BoxAt ρ' σ q → BoxAt ρ σ q
theorem PostC.refl (h : DRel K W ρ σ H) : PostC K W ρ σ H ρ σ H := ⟨h, fun _ _ e _ => e, fun _ o e => ⟨o, e⟩, fun _ b => .inl b⟩
theorem PostC.trans (a : PostC K W ρ σ H ρ' σ' H') (b : PostC K W ρ' σ' H' ρ'' σ'' H'') : PostC K W ρ σ H ρ'' σ'' H'' where
  rel := b.rel
  ext := fun c o e n => b.ext c o (a.ext c o e n) fun z => (a.new c z).elim n fun q => by rw [q] at e; cases e
  thr := fun c o e => by
    obtain ⟨o1, e1⟩ := a.thr c o e
    exact b.thr c o1 e1
  new := fun q z => by
    rcases b.new q z with z | z
    · exact a.new q z
    · refine .inr ?_
      cases e : H q with
      | none => rfl
      | some o => obtain ⟨o1, e1⟩ := a.thr q o e; rw [e1] at z; cases z
theorem PostX.refl (h : DRel K W ρ σ H) : PostX K W ρ σ H ρ H := ⟨PostC.refl h, fun i a e => ⟨a, e⟩, fun _ z => z⟩
theorem PostX.trans (a : PostX K W ρ σ H ρ' H') (b : PostX K W ρ' σ H' ρ'' H'') : PostX K W ρ σ H ρ'' H'' where
  toPostC := a.toPostC.trans b.toPostC
  stay := fun i x e => by
    obtain ⟨a1, e1⟩ := a.stay i x e
    exact b.stay i a1 e1
  sub := fun q z => a.sub q (b.sub q z)
theorem PostC.evo (a : PostC K W ρ σ H ρ' σ' H') (h : DRel K W ρ σ H) : Evo (Av W.P ρ σ) H (Av W.P ρ' σ') H' where
  keep := fun b o e n => a.ext b o e fun z => n (.inr z)
  av := fun b z => by
    rcases z with z | z
    · exact .inl (.inl z)
    · exact (a.new b z).imp .inr id
theorem PostC.free (a : PostC K W ρ σ H ρ' σ' H') {q : Addr} (z : H' q = none) : H q = none := by
  cases e : H q with
  | none => rfl
  | some o => obtain ⟨o1, e1⟩ := a.thr q o e; rw [e1] at z; cases z

/-- how a result lies -/
def RRel (K : PySem.W.Frag) (N : Addr → Prop) (H : Hp) (ρ' : En) (σ : L2.St) (H' : Hp) : R → V → Prop
  | .dat d, v => Rep K N H' v d
  | .new b, v => ∃ q, v = .ref q ∧ H q = none ∧ BoxOk K (fun a => N a ∨ a = q) H' q b
  | .ref i, v => σ[i]? = some (some v) ∧ ∃ a, ρ'[i]? = some (some a)
/-- a result that is no new box: it stays what it is -/
def FRel (K : PySem.W.Frag) (N : Addr → Prop) (ρ' : En) (σ : L2.St) (H' : Hp) : R → V → Prop
  | .dat d, v => Rep K N H' v d
  | .new _, _ => False
  | .ref i, v => σ[i]? = some (some v) ∧ ∃ a, ρ'[i]? = some (some a)
theorem mono_av {N N1 : Addr → Prop} {H : Hp} (h : ∀ a, N1 a → N a) : Evo N H N1 H := ⟨fun _ _ e _ => e, fun a z => .inl (h a z)⟩
theorem RRel.fz {r : R} {v : V} (p : PostX K W ρ σ H ρ' H') (h : DRel K W ρ σ H) (q : RRel K (Av W.P ρ' σ) H ρ' σ H' r v) : FRel K (Av W.P ρ' σ) ρ' σ H' r.fz v := by
  cases r with
  | dat d => exact q
  | new b =>
    obtain ⟨a, rfl, e, bo⟩ := q
    have na : ¬ Av W.P ρ' σ a := fun z => by
      rcases z with z | z
      · obtain ⟨o, e1⟩ := h.prot a z; rw [e] at e1; cases e1
      · obtain ⟨o, e1⟩ := h.boxThere (p.sub a z); rw [e] at e1; cases e1
    exact (bo.evo (mono_av fun a z => .inl z) fun _ e => e).fz na
  | ref i => exact q
end
def Wd.pl (W : Wd) (e : Addr → Prop) : Wd := { W with P := fun a => W.P a ∨ e a }
/-- the address of a new box -/
def exR : R → V → Addr → Prop
  | .new _, v, a => v = .ref a
  | _, _, _ => False
section
variable {K : PySem.W.Frag} {W : Wd} {ρ ρ' : En} {σ : L2.St} {H H' : Hp}
theorem RelA.evo {N N1 : Addr → Prop} (e : Evo N H N1 H') {i : Nat} {a : A} {v : V} (r : RelA K W N H i a v) (hq : ∀ q, v = .ref q → isBx' a = true → ∀ o, H q = some o → H' q = some o) : RelA K W N1 H' i a v := by
  cases a with
  | dat d => exact Rep.evo e _ _ r
  | box o b => cases o with
    | true => obtain ⟨q, h1, h2, h3⟩ := r; exact ⟨q, h1, h2.evo e (hq q h1 rfl), h3⟩
    | false => obtain ⟨q, h1, h2, h3⟩ := r; exact ⟨q, h1, h2.evo e (hq q h1 rfl), h3⟩
/-- fewer are protected -/
theorem DRel.lessP {W' : Wd} (h : DRel K W ρ σ H) (hP : ∀ a, W'.P a → W.P a) (hB : W'.B = W.B) (h0 : W'.H0 = W.H0) : DRel K W' ρ σ H := by
  have e : Evo (Av W.P ρ σ) H (Av W'.P ρ σ) H := mono_av fun a z => z.imp (hP a) id
  refine ⟨h.len, fun i a e1 => ?_, h.dis, fun q z => h.prot q (hP q z), fun q z => h.pdis q (hP q z), fun a o z n => ?_, fun a o z => ?_⟩
  · obtain ⟨v, hv, r⟩ := h.sl i a e1
    refine ⟨v, hv, ?_⟩
    have r' := r.evo e fun _ _ _ _ z => z
    cases a with
    | dat d => exact r'
    | box o b => cases o with
      | true => obtain ⟨q, h1, h2, h3⟩ := r'; exact ⟨q, h1, h2, by rw [h0]; exact h3⟩
      | false => obtain ⟨q, h1, h2, h3⟩ := r'; exact ⟨q, h1, h2, by rw [hB]; exact h3⟩
  · rw [h0] at z
    exact h.keep a o z fun y => n (by obtain ⟨i, y⟩ := y; exact ⟨i, by rw [hB]; exact y⟩)
  · rw [h0] at z
    exact h.there a o z
theorem DRel.pl0 (h : DRel K W ρ σ H) {e : Addr → Prop} (he : ∀ a, ¬ e a) : DRel K (W.pl e) ρ σ H := h.lessP (fun a z => z.elim id fun z => (he a z).elim) rfl rfl
theorem DRel.unpl {e : Addr → Prop} (h : DRel K (W.pl e) ρ σ H) : DRel K W ρ σ H := h.lessP (W := W.pl e) (fun a z => .inl z) rfl rfl
/-- new protected things, fresh until now -/
theorem DRel.grow (h : DRel K W ρ σ H) {e : Addr → Prop} (s : ∀ a o, H a = some o → H' a = some o) (hf : ∀ a, e a → H a = none) (ht : ∀ a, e a → ∃ o, H' a = some o) : DRel K (W.pl e) ρ σ H' := by
  have ev : Evo (Av W.P ρ σ) H (Av (W.pl e).P ρ σ) H' := ⟨fun a o h _ => s a o h, fun a z => by
    rcases z with (z | z) | z
    · exact .inl (.inl z)
    · exact .inr (hf a z)
    · exact .inl (.inr z)⟩
  refine ⟨h.len, fun i a e1 => ?_, h.dis, fun q z => ?_, fun q z y => ?_, fun a o z n => s _ _ (h.keep a o z n), fun a o z => ?_⟩
  · obtain ⟨v, hv, r⟩ := h.sl i a e1
    refine ⟨v, hv, ?_⟩
    have r' := r.evo ev fun q _ _ o => s q o
    cases a with
    | dat d => exact r'
    | box o b => cases o <;> exact r'
  · rcases z with z | z
    · obtain ⟨o, z⟩ := h.prot q z; exact ⟨o, s _ _ z⟩
    · exact ht q z
  · rcases z with z | z
    · exact h.pdis q z y
    · obtain ⟨o, y⟩ := h.boxThere y
      rw [hf q z] at y; cases y
  · obtain ⟨o', z⟩ := h.there a o z; exact ⟨o', s _ _ z⟩
end
end L3

namespace L3
open PySem PySem.Spec PyProof.Rows L2

/-! the static side -/
structure GC where
  prog : Program
  w : World
  K : PySem.W.Frag
  mg : Str → Option Value
  base : Heap
structure SC where
  N : List Str
  sc : Scope
  fn : Str → Bool
  k : Nat
structure CxOk (G : GC) (S : SC) (X : Cx) : Prop where
  prog : X.prog = G.prog
  w : X.w = G.w
  K : X.K = G.K
  mg : X.mg = G.mg
  base : X.base = G.base
  N : X.N = S.N
  sc : X.env.scope = S.sc
  fn : X.fn = S.fn
  calm : X.calm = true
  room : Room S.k X.A
  gd : X.A.guards = some []
  nd : X.N.Nodup
  xe : X.xe = fun _ _ => False

abbrev ME := En → Option (R × En)
abbrev MT := En → Option (Bool × En)
abbrev MA := En → Option (List R × En)

theorem PE.weak {X : Cx} {e : Expr} {t t' : TE} (h : PE X e t) (w : ∀ σ H Q, t' σ H Q → t σ H Q) : PE X e t' := ⟨fun p s σ H Q I q => h.run p s σ H Q I (w _ _ _ q)⟩
theorem PT.weak {X : Cx} {e : Expr} {t t' : TT} (h : PT X e t) (w : ∀ σ H Q, t' σ H Q → t σ H Q) : PT X e t' := ⟨fun p s σ H Q I q => h.run p s σ H Q I (w _ _ _ q)⟩
theorem PW.weak {X : Cx} {e : Expr} {t t' : TT} (h : PW X e t) (w : ∀ σ H Q, t' σ H Q → t σ H Q) : PW X e t' := ⟨fun wh p s σ H Q I q => h.run wh p s σ H Q I (w _ _ _ q)⟩
theorem PA.weak {X : Cx} {e : List Expr} {t t' : TA} (h : PA X e t) (w : ∀ σ H Q, t' σ H Q → t σ H Q) : PA X e t' := ⟨fun ps p s σ H Q I q => h.run ps p s σ H Q I (w _ _ _ q)⟩

/-- an expression's result behind it -/
structure PostE (K : PySem.W.Frag) (W : Wd) (ρ : En) (σ : L2.St) (H : Hp) (r : R) (ρ' : En) (v : V) (H' : Hp) : Prop extends PostX K W ρ σ H ρ' H' where
  res : RRel K (Av W.P ρ' σ) H ρ' σ H' r v
  relE : DRel K (W.pl (exR r v)) ρ' σ H'
def rd (K : PySem.W.Frag) (m : ME) : TE := fun σ H Q => ∃ W ρ r ρ', DRel K W ρ σ H ∧ m ρ = some (r, ρ') ∧ ∀ v H', PostE K W ρ σ H r ρ' v H' → Q v H'
def rdT (K : PySem.W.Frag) (m : MT) : TT := fun σ H Q => ∃ W ρ r ρ', DRel K W ρ σ H ∧ m ρ = some (r, ρ') ∧ ∀ H', PostX K W ρ σ H ρ' H' → Q r H'
abbrev FRels (K : PySem.W.Frag) (N : Addr → Prop) (ρ' : En) (σ : L2.St) (H' : Hp) : List R → List V → Prop := Paired fun r v => FRel K N ρ' σ H' r v
def rdA (K : PySem.W.Frag) (m : MA) : TA := fun σ H Q => ∃ W ρ rs ρ', DRel K W ρ σ H ∧ m ρ = some (rs, ρ') ∧ ∀ vs H', PostX K W ρ σ H ρ' H' → FRels K (Av W.P ρ' σ) ρ' σ H' rs vs → Q vs H'

section
variable (G : GC) (S : SC)
def DE (e : Expr) (m : ME) : Prop := ∀ X, CxOk G S X → PE X e (rd G.K m)
def DT (e : Expr) (m : MT) : Prop := ∀ X, CxOk G S X → PT X e (rdT G.K m)
def DW (e : Expr) (m : MT) : Prop := ∀ X, CxOk G S X → PW X e (rdT G.K m)
def DA (es : List Expr) (m : MA) : Prop := ∀ X, CxOk G S X → PA X es (rdA G.K m)
end

section
variable {K : PySem.W.Frag} {W : Wd} {ρ ρ' ρ'' : En} {σ : L2.St} {H H' H'' : Hp}
/-- nothing tracked is changed -/
theorem PostX.same (p : PostX K W ρ σ H ρ' H') (s : ∀ a o, H' a = some o → H'' a = some o) : PostX K W ρ σ H ρ' H'' := by
  have e : Evo (Av W.P ρ' σ) H' (Av W.P ρ' σ) H'' := ⟨fun a o h _ => s a o h, fun a z => .inl z⟩
  refine ⟨⟨⟨p.rel.len, fun i a h => ?_, p.rel.dis, fun q z => ?_, p.rel.pdis, fun a o h n => s _ _ (p.rel.keep a o h n), fun a o h => ?_⟩, fun a o h n => s _ _ (p.ext a o h n), fun a o h => ?_, p.new⟩, p.stay, p.sub⟩
  · obtain ⟨v, hv, r⟩ := p.rel.sl i a h
    refine ⟨v, hv, ?_⟩
    cases a with
    | dat d => exact Rep.evo e _ _ r
    | box o b => cases o with
      | true => obtain ⟨q, h1, h2, h3⟩ := r; exact ⟨q, h1, h2.evo e fun o => s q o, h3⟩
      | false => obtain ⟨q, h1, h2, h3⟩ := r; exact ⟨q, h1, h2.evo e fun o => s q o, h3⟩
  · obtain ⟨o, h⟩ := p.rel.prot q z; exact ⟨o, s _ _ h⟩
  · obtain ⟨o', h'⟩ := p.rel.there a o h; exact ⟨o', s _ _ h'⟩
  · obtain ⟨o', h'⟩ := p.thr a o h; exact ⟨o', s _ _ h'⟩
/-- an argument, over what comes behind it -/
theorem FRel.over {r : R} {v : V} (h : FRel K (Av W.P ρ σ) ρ σ H r v) (rel : DRel K W ρ σ H) (p : PostX K W ρ σ H ρ' H') : FRel K (Av W.P ρ' σ) ρ' σ H' r v := by
  cases r with
  | dat d => exact Rep.evo (p.evo rel) _ _ h
  | new b => exact h
  | ref i =>
    obtain ⟨h1, a, h2⟩ := h
    exact ⟨h1, p.stay i a h2⟩
theorem FRels.over {rs : List R} {vs : List V} (h : FRels K (Av W.P ρ σ) ρ σ H rs vs) (rel : DRel K W ρ σ H) (p : PostX K W ρ σ H ρ' H') : FRels K (Av W.P ρ' σ) ρ' σ H' rs vs := by
  induction h with
  | nil => exact .nil
  | cons r t ih => exact .cons (FRel.over r rel p) ih
/-- .. read -/
theorem FRel.read {r : R} {v : V} {d : D} (h : FRel K (Av W.P ρ σ) ρ σ H r v) (rel : DRel K W ρ σ H) (e : r.vw ρ = some d) : SRep K (Av W.P ρ σ) H v d := by
  cases r with
  | dat d' => cases e; exact .inl h
  | new b => exact h.elim
  | ref i => exact rel.look h.1 e
def vws (ρ : En) : List R → Option (List D)
  | [] => some []
  | r :: rs => (r.vw ρ).bind fun d => (vws ρ rs).bind fun ds => some (d :: ds)
abbrev SReps (K : PySem.W.Frag) (N : Addr → Prop) (H : Hp) : List V → List D → Prop := Paired fun v d => SRep K N H v d
theorem FRels.read {rs : List R} {vs : List V} (h : FRels K (Av W.P ρ σ) ρ σ H rs vs) (rel : DRel K W ρ σ H) : ∀ {ds : List D}, vws ρ rs = some ds → SReps K (Av W.P ρ σ) H vs ds := by
  induction h with
  | nil => intro ds e; cases e; exact .nil
  | cons r t ih =>
    intro ds e
    unfold vws at e
    obtain ⟨d, e1, e⟩ := Option.bind_eq_some_iff.mp e
    obtain ⟨ds', e2, e⟩ := Option.bind_eq_some_iff.mp e
    cases e
    exact .cons (r.read rel e1) (ih e2)
end

/-! operations by values -/
def VRes (K : PySem.W.Frag) (N : Addr → Prop) (H H' : Hp) (v : V) : R → Prop
  | .dat d => Rep K N H' v d
  | .new b => ∃ q, v = .ref q ∧ H q = none ∧ BoxOk K (fun a => N a ∨ a = q) H' q b
  | .ref _ => False
structure VPost (K : PySem.W.Frag) (N : Addr → Prop) (H : Hp) (r : R) (v : V) (H' : Hp) : Prop where
  same : ∀ a o, H a = some o → H' a = some o
  res : VRes K N H H' v r
def Trk (N : Addr → Prop) (H : Hp) : Prop := ∀ q, N q → ∃ o, H q = some o
def rD2 (K : PySem.W.Frag) (g : D → D → Option R) : R2 := fun x y H Q => ∃ N d e r, Trk N H ∧ SRep K N H x d ∧ SRep K N H y e ∧ g d e = some r ∧ ∀ v H', VPost K N H r v H' → Q v H'
def rD1 (K : PySem.W.Frag) (g : D → Option R) : V → Hp → VK → Prop := fun x H Q => ∃ N d r, Trk N H ∧ SRep K N H x d ∧ g d = some r ∧ ∀ v H', VPost K N H r v H' → Q v H'
def rDn (K : PySem.W.Frag) (g : List D → Option R) : List V → Hp → VK → Prop := fun xs H Q => ∃ N ds r, Trk N H ∧ SReps K N H xs ds ∧ g ds = some r ∧ ∀ v H', VPost K N H r v H' → Q v H'
def rDm (K : PySem.W.Frag) (g : D → List D → Option R) : V → List V → Hp → VK → Prop := fun x xs H Q => ∃ N d ds r, Trk N H ∧ SRep K N H x d ∧ SReps K N H xs ds ∧ g d ds = some r ∧ ∀ v H', VPost K N H r v H' → Q v H'
def rDs (K : PySem.W.Frag) (g : D → Option Int → Option Int → Option R) : V → Option Int → Option Int → Hp → VK → Prop := fun x lo hi H Q => ∃ N d r, Trk N H ∧ SRep K N H x d ∧ g d lo hi = some r ∧ ∀ v H', VPost K N H r v H' → Q v H'

theorem DRel.trk {K : PySem.W.Frag} {W : Wd} {ρ : En} {σ : L2.St} {H : Hp} (h : DRel K W ρ σ H) : Trk (Av W.P ρ σ) H := fun _ z => h.avThere z
theorem PostX.fin {K : PySem.W.Frag} {W : Wd} {ρ ρ' : En} {σ : L2.St} {H H' H'' : Hp} {r : R} {v : V} (p : PostX K W ρ σ H ρ' H') (q : VPost K (Av W.P ρ' σ) H' r v H'') : PostE K W ρ σ H r ρ' v H'' := by
  have z := q.res
  cases r with
  | dat d => exact ⟨p.same q.same, z, (p.same q.same).rel.pl0 fun _ z => z⟩
  | new b =>
    obtain ⟨a, h1, h2, h3⟩ := z
    refine ⟨p.same q.same, ⟨a, h1, p.free h2, h3⟩, p.rel.grow q.same (fun c z => ?_) fun c z => ?_⟩
    · cases h1; cases z; exact h2
    · cases h1; cases z; exact h3.there
  | ref i => exact z.elim

/-! expressions -/
def mvar (i : Nat) : ME := fun ρ => (ρ[i]?.join).bind fun a => match a with
  | .dat d => some (.dat d, ρ)
  | .box _ _ => some (.ref i, ρ)
def mcon (d : D) : ME := fun ρ => some (.dat d, ρ)
def m1 (g : D → Option R) (ma : ME) : ME := fun ρ => (ma ρ).bind fun x => (x.1.fz.vw x.2).bind fun d => (g d).bind fun r => some (r, x.2)
def m2 (g : D → D → Option R) (ma mb : ME) : ME := fun ρ => (ma ρ).bind fun x => (mb x.2).bind fun y => (x.1.fz.vw y.2).bind fun d => (y.1.fz.vw y.2).bind fun e => (g d e).bind fun r => some (r, y.2)
def mnil : MA := fun ρ => some ([], ρ)
def mcons (ma : ME) (ms : MA) : MA := fun ρ => (ma ρ).bind fun x => (ms x.2).bind fun y => some (x.1.fz :: y.1, y.2)
def mn (g : List D → Option R) (ms : MA) : ME := fun ρ => (ms ρ).bind fun x => (vws x.2 x.1).bind fun ds => (g ds).bind fun r => some (r, x.2)
def tyD (T : String) : D → Bool
  | .str _ => T == "str"
  | .list _ => T == "list"
  | .dict _ => T == "dict"
  | _ => false
def guardO (b : Bool) : Option Unit := if b = true then some () else none
def mm (T : String) (g : D → List D → Option R) (ma : ME) (ms : MA) : ME := fun ρ => (ma ρ).bind fun x => (x.1.fz.vw x.2).bind fun d0 => (guardO (tyD T d0)).bind fun _ => (ms x.2).bind fun y => (x.1.fz.vw y.2).bind fun d => (vws y.2 y.1).bind fun ds => (g d ds).bind fun r => some (r, y.2)
def mif (mt : MT) (ma mb : ME) : ME := fun ρ => (mt ρ).bind fun x => if x.1 = true then ma x.2 else mb x.2

section
variable {G : GC} {S : SC} {e a b c : Expr} {es rest : List Expr} {pos p2 : Pos} {m ma mb mc : ME} {mt mu : MT} {ms : MA}
theorem de_name (i : Nat) {x : Str} (hN : S.N[i]? = some x) (hv : Vis S.sc x) (hd : (x == ("__debug__" : Str)) = false) (hcd : (x == ("__classdict__" : Str)) = false) : DE G S (.Name x pos) (mvar i) := by
  intro X c
  refine PE.weak (pe_var (i := i) (by rw [c.N]; exact hN) (by rw [c.sc]; exact hv) hd hcd) ?_
  rintro σ H Q ⟨W, ρ, r, ρ', rel, em, q⟩
  unfold mvar at em
  obtain ⟨y, e1, em⟩ := Option.bind_eq_some_iff.mp em
  have e2 : ρ[i]? = some (some y) := Option.join_eq_some_iff.mp e1
  obtain ⟨v, hv, rr⟩ := rel.sl i y e2
  refine ⟨v, hv, ?_⟩
  cases y with
  | dat d =>
    cases em
    exact q v H ⟨PostX.refl rel, rr, rel.pl0 fun _ z => z⟩
  | box o b =>
    cases em
    exact q v H ⟨PostX.refl rel, ⟨hv, _, e2⟩, rel.pl0 fun _ z => z⟩
theorem de_con {e : Expr} {d : D} {v : V} (h : ∀ X, PE X e (tC v)) (hr : ∀ K N H, Rep K N H v d) : DE G S e (mcon d) := by
  intro X c
  refine PE.weak (h X) ?_
  rintro σ H Q ⟨W, ρ, r, ρ', rel, em, q⟩
  cases em
  exact q v H ⟨PostX.refl rel, hr _ _ _, rel.pl0 fun _ z => z⟩
theorem de_int {i j} : DE G S (.Constant (.int i) j pos) (mcon (.int i)) := de_con (fun _ => pe_int) fun _ _ _ => .int i
theorem de_bl {b j} : DE G S (.Constant (.bool b) j pos) (mcon (.bool b)) := de_con (fun _ => pe_bl) fun _ _ _ => .bl b
theorem de_non {j} : DE G S (.Constant .none j pos) (mcon .none) := de_con (fun _ => pe_non) fun _ _ _ => .non
theorem de_str {x j} : DE G S (.Constant (.str x) j pos) (mcon (.str x)) := de_con (fun _ => pe_str) fun _ _ _ => .str x
/-- two parts, then an operation by values -/
theorem rd2 {K : PySem.W.Frag} {g : D → D → Option R} {σ : L2.St} {H : Hp} {Q : VK} (h : rd K (m2 g ma mb) σ H Q) : rd K ma σ H fun x H1 => rd K mb σ H1 fun y H2 => rD2 K g x y H2 Q := by
  obtain ⟨W, ρ, r, ρ', rel, em, q⟩ := h
  unfold m2 at em
  obtain ⟨⟨ra, ρ1⟩, e1, em⟩ := Option.bind_eq_some_iff.mp em
  obtain ⟨⟨rb, ρ2⟩, e2, em⟩ := Option.bind_eq_some_iff.mp em
  obtain ⟨d, e3, em⟩ := Option.bind_eq_some_iff.mp em
  obtain ⟨e, e4, em⟩ := Option.bind_eq_some_iff.mp em
  obtain ⟨r', e5, em⟩ := Option.bind_eq_some_iff.mp em
  cases em
  refine ⟨W, ρ, ra, ρ1, rel, e1, fun x H1 p1 => ⟨W, ρ1, rb, ρ2, p1.rel, e2, fun y H2 p2 => ⟨Av W.P ρ2 σ, d, e, r, p2.rel.trk, ?_, ?_, e5, fun v H' vp => q v H' ((p1.toPostX.trans p2.toPostX).fin vp)⟩⟩⟩
  · exact (((p1.res.fz p1.toPostX rel).over p1.rel p2.toPostX).read p2.rel e3)
  · exact (p2.res.fz p2.toPostX p1.rel).read p2.rel e4
theorem rd1 {K : PySem.W.Frag} {g : D → Option R} {σ : L2.St} {H : Hp} {Q : VK} (h : rd K (m1 g ma) σ H Q) : rd K ma σ H fun x H1 => rD1 K g x H1 Q := by
  obtain ⟨W, ρ, r, ρ', rel, em, q⟩ := h
  unfold m1 at em
  obtain ⟨⟨ra, ρ1⟩, e1, em⟩ := Option.bind_eq_some_iff.mp em
  obtain ⟨d, e3, em⟩ := Option.bind_eq_some_iff.mp em
  obtain ⟨r', e5, em⟩ := Option.bind_eq_some_iff.mp em
  cases em
  exact ⟨W, ρ, ra, ρ1, rel, e1, fun x H1 p1 => ⟨Av W.P ρ1 σ, d, r, p1.rel.trk, (p1.res.fz p1.toPostX rel).read p1.rel e3, e5, fun v H' vp => q v H' (p1.toPostX.fin vp)⟩⟩
theorem rdn {K : PySem.W.Frag} {g : List D → Option R} {σ : L2.St} {H : Hp} {Q : VK} (h : rd K (mn g ms) σ H Q) : rdA K ms σ H fun xs H1 => rDn K g xs H1 Q := by
  obtain ⟨W, ρ, r, ρ', rel, em, q⟩ := h
  unfold mn at em
  obtain ⟨⟨rs, ρ1⟩, e1, em⟩ := Option.bind_eq_some_iff.mp em
  obtain ⟨ds, e3, em⟩ := Option.bind_eq_some_iff.mp em
  obtain ⟨r', e5, em⟩ := Option.bind_eq_some_iff.mp em
  cases em
  exact ⟨W, ρ, rs, ρ1, rel, e1, fun xs H1 p1 f1 => ⟨Av W.P ρ1 σ, ds, r, p1.rel.trk, f1.read p1.rel e3, e5, fun v H' vp => q v H' (p1.fin vp)⟩⟩
theorem guardO_some {b : Bool} {u : Unit} (h : guardO b = some u) : b = true := by
  unfold guardO at h
  split at h
  · assumption
  · cases h
theorem KLs.L {K : PySem.W.Frag} {a : Addr} {xs : List V} {H : Hp} (h : KLs K a xs) : SqL K H a xs := by
  obtain ⟨its, n, h1, h2, h3⟩ := h
  exact .inr ⟨_, its.toArray, n, h1, rfl, rfl, rfl, by simpa using h2, by simpa using h3⟩
theorem KSq.T {K : PySem.W.Frag} {a : Addr} {xs : List V} {H : Hp} (h : KSq K "tuple" a xs) : SqT K H a xs := by
  obtain ⟨o, its, n, h1, h2, h3, h4, h5, h6⟩ := h
  exact .inr ⟨o, its, n, h1, h2, h4, h5, h6⟩
theorem SqLN.sq {K : PySem.W.Frag} {N : Addr → Prop} {a : Addr} {xs : List V} {H : Hp} (h : SqLN K N H a xs) : SqL K H a xs := h.elim (fun q => .inl q.1) KLs.L
theorem SqTN.sq {K : PySem.W.Frag} {N : Addr → Prop} {a : Addr} {xs : List V} {H : Hp} (h : SqTN K N H a xs) : SqT K H a xs := h.elim (fun ⟨⟨o, q, _⟩, _⟩ => .inl (.inr ⟨o, q⟩)) KSq.T
section
variable {K : PySem.W.Frag} {N : Addr → Prop} {H : Hp} {v : V}
theorem SRep.list {ds : List D} (h : SRep K N H v (.list ds)) : ∃ a xs, v = .ref a ∧ SqL K H a xs ∧ RepL K N H xs ds := by
  rcases h with h | ⟨q, b, rfl, e, bo⟩
  · cases h with | lst h1 h2 => exact ⟨_, _, rfl, h1.sq, h2⟩
  · cases b with
    | lst xs => cases e; obtain ⟨xs, e, r⟩ := bo; exact ⟨q, xs, rfl, .inl (.inl e), r⟩
    | dic kvs => cases e
theorem SRep.tuple {ds : List D} (h : SRep K N H v (.tuple ds)) : ∃ a xs, v = .ref a ∧ SqTN K N H a xs ∧ RepL K N H xs ds := by
  rcases h with h | ⟨q, b, rfl, e, bo⟩
  · cases h with | tup h1 h2 => exact ⟨_, _, rfl, h1, h2⟩
  · cases b <;> cases e
theorem SRep.dict {ds : List (D × D)} (h : SRep K N H v (.dict ds)) : ∃ a kvs, v = .ref a ∧ H a = some (.dK kvs) ∧ RepK K N H kvs ds := by
  rcases h with h | ⟨q, b, rfl, e, bo⟩
  · cases h with | dic h1 h2 h3 => exact ⟨_, _, rfl, h1, h3⟩
  · cases b with
    | lst xs => cases e
    | dic kvs => cases e; obtain ⟨xs, e, r⟩ := bo; exact ⟨q, xs, rfl, e, r⟩
theorem SRep.int {i : Int} (h : SRep K N H v (.int i)) : v = .int i := by
  rcases h with h | ⟨q, b, rfl, e, bo⟩
  · cases h; rfl
  · cases b <;> cases e
theorem SRep.str {x : Str} (h : SRep K N H v (.str x)) : v = .str x := by
  rcases h with h | ⟨q, b, rfl, e, bo⟩
  · cases h; rfl
  · cases b <;> cases e
theorem SRep.bool {x : Bool} (h : SRep K N H v (.bool x)) : v = .bl x := by
  rcases h with h | ⟨q, b, rfl, e, bo⟩
  · cases h; rfl
  · cases b <;> cases e
theorem SRep.none (h : SRep K N H v .none) : v = .non := by
  rcases h with h | ⟨q, b, rfl, e, bo⟩
  · cases h; rfl
  · cases b <;> cases e
theorem SRep.ty {T : String} {d : D} (h : SRep K N H v d) (e : tyD T d = true) : tyV K T v H := by
  cases d with
  | str x => rw [h.str]; exact beq_iff_eq.mp e
  | list xs => obtain ⟨a, ys, rfl, h1, _⟩ := h.list; exact .inl ⟨beq_iff_eq.mp e, ys, h1⟩
  | dict xs => obtain ⟨a, ys, rfl, h1, _⟩ := h.dict; exact .inr (.inr (.inl ⟨beq_iff_eq.mp e, .inl ⟨ys, h1⟩⟩))
  | none => cases e
  | bool b => cases e
  | int i => cases e
  | tuple xs => cases e
end
theorem rdm {K : PySem.W.Frag} {T : String} {g : D → List D → Option R} {σ : L2.St} {H : Hp} {Q : VK} (h : rd K (mm T g ma ms) σ H Q) :
    rd K ma σ H fun x H1 => tyV K T x H1 ∧ rdA K ms σ H1 fun xs H2 => rDm K g x xs H2 Q := by
  obtain ⟨W, ρ, r, ρ', rel, em, q⟩ := h
  unfold mm at em
  obtain ⟨⟨ra, ρ1⟩, e1, em⟩ := Option.bind_eq_some_iff.mp em
  obtain ⟨d0, e6, em⟩ := Option.bind_eq_some_iff.mp em
  obtain ⟨u, e7, em⟩ := Option.bind_eq_some_iff.mp em
  obtain ⟨⟨rs, ρ2⟩, e2, em⟩ := Option.bind_eq_some_iff.mp em
  obtain ⟨d, e3, em⟩ := Option.bind_eq_some_iff.mp em
  obtain ⟨ds, e4, em⟩ := Option.bind_eq_some_iff.mp em
  obtain ⟨r', e5, em⟩ := Option.bind_eq_some_iff.mp em
  cases em
  refine ⟨W, ρ, ra, ρ1, rel, e1, fun x H1 p1 => ⟨?_, W, ρ1, rs, ρ2, p1.rel, e2, fun xs H2 p2 f2 => ⟨Av W.P ρ2 σ, d, ds, r, p2.rel.trk, ?_, f2.read p2.rel e4, e5, fun v H' vp => q v H' ((p1.toPostX.trans p2).fin vp)⟩⟩⟩
  · exact ((p1.res.fz p1.toPostX rel).read p1.rel e6).ty (guardO_some e7)
  · exact (((p1.res.fz p1.toPostX rel).over p1.rel p2).read p2.rel e3)
theorem de_op {op : Operator} {g : D → D → Option R} (h : ∀ X, CxOk G S X → OpR X (binaryOp op) (rD2 G.K g)) (ha : DE G S a ma) (hb : DE G S b mb) : DE G S (.BinOp a op b pos) (m2 g ma mb) :=
  fun X c => PE.weak (pe_op (h X c) (ha X c) (hb X c)) fun _ _ _ q => rd2 q
theorem de_cmp {op : CmpOp} {g : D → D → Option R} (h : ∀ X, CxOk G S X → OpR X (compareOp op) (rD2 G.K g)) (ha : DE G S a ma) (hb : DE G S b mb) (hm : behindInMarks op b = false) : DE G S (.Compare a [op] [b] pos) (m2 g ma mb) :=
  fun X c => PE.weak (pe_cmpR (h X c) (ha X c) (hb X c) hm) fun _ _ _ q => rd2 q
theorem de_un {op : UnaryOp} {g : D → Option R} (h : ∀ X, CxOk G S X → UnR X (unaryOp op) (rD1 G.K g)) (ha : DE G S a ma) : DE G S (.UnaryOp op a pos) (m1 g ma) :=
  fun X c => PE.weak (pe_un (h X c) (ha X c)) fun _ _ _ q => rd1 q
theorem da_nil : DA G S [] mnil := fun X c => PA.weak pa_nil fun σ H Q ⟨W, ρ, rs, ρ', rel, em, q⟩ => by
  cases em
  exact q [] H (PostX.refl rel) .nil
theorem rdcons {K : PySem.W.Frag} {σ : L2.St} {H : Hp} {Q : List V → Hp → Prop} (h : rdA K (mcons ma ms) σ H Q) : rd K ma σ H fun x H1 => rdA K ms σ H1 fun xs H2 => Q (x :: xs) H2 := by
  obtain ⟨W, ρ, r, ρ', rel, em, q⟩ := h
  unfold mcons at em
  obtain ⟨⟨ra, ρ1⟩, e1, em⟩ := Option.bind_eq_some_iff.mp em
  obtain ⟨⟨rs, ρ2⟩, e2, em⟩ := Option.bind_eq_some_iff.mp em
  cases em
  exact ⟨W, ρ, ra, ρ1, rel, e1, fun x H1 p1 => ⟨W, ρ1, rs, ρ2, p1.rel, e2, fun xs H2 p2 f2 => q _ H2 (p1.toPostX.trans p2) (.cons ((p1.res.fz p1.toPostX rel).over p1.rel p2) f2)⟩⟩
theorem da_cons (ha : DE G S e ma) (hr : DA G S es ms) (hs : ∀ env : PySem.Env, starEach (e :: es) env = (false, eval e env) :: starEach es env) : DA G S (e :: es) (mcons ma ms) :=
  fun X c => PA.weak (pa_cons (ha X c) (hr X c) (hs _)) fun _ _ _ q => rdcons q
theorem de_callB {x : Str} {id : String} {g : List D → Option R} (h : ∀ X, CxOk G S X → CallR X (.builtin id) (rDn G.K g)) (hg : S.sc.names.lookup x = some .globalImplicit) (hm : G.mg x = none) (hv : bootBuiltins x = some (.builtin id)) (ha : DA G S (e :: es) ms)
    (hn : x ≠ "__name__") (hdb : (x == ("__debug__" : Str)) = false) (he : ∀ env : PySem.Env, starEach (e :: es) env = (false, eval e env) :: starEach es env) (hpl : ∀ env : PySem.Env, (backTo pos (starEach es env)).any (·.1) = false) :
    DE G S (.Call (.Name x p2) (e :: es) [] pos) (mn g ms) :=
  fun X c => PE.weak (pe_callB (h X c) (by show X.env.scope.names.lookup x = _; rw [c.sc]; exact hg) (by rw [c.mg]; exact hm) hv (ha X c) hn hdb (he _) (hpl _)) fun _ _ _ q => rdn q
theorem de_callTy {x : Str} {T : String} {g : List D → Option R} (h : ∀ X, CxOk G S X → CallR X (.type T) (rDn G.K g)) (hg : S.sc.names.lookup x = some .globalImplicit) (hm : G.mg x = none) (hv : bootBuiltins x = some (.type T)) (ha : DA G S (e :: es) ms)
    (hn : x ≠ "__name__") (hdb : (x == ("__debug__" : Str)) = false) (he : ∀ env : PySem.Env, starEach (e :: es) env = (false, eval e env) :: starEach es env) (hpl : ∀ env : PySem.Env, (backTo pos (starEach es env)).any (·.1) = false) :
    DE G S (.Call (.Name x p2) (e :: es) [] pos) (mn g ms) :=
  fun X c => PE.weak (pe_callTy (h X c) (by show X.env.scope.names.lookup x = _; rw [c.sc]; exact hg) (by rw [c.mg]; exact hm) hv (ha X c) hn hdb (he _) (hpl _)) fun _ _ _ q => rdn q
end
end L3

namespace L3
open PySem PySem.Spec PyProof.Rows L2

/-! displays: boxes are frozen -/
def fzs (ρ : En) : List R → Option (List D × En)
  | [] => some ([], ρ)
  | .dat d :: rs => (fzs ρ rs).map fun x => (d :: x.1, x.2)
  | .new _ :: _ => none
  | .ref i :: rs => (ρ[i]?.join).bind fun a => match a with
    | .dat d => (fzs ρ rs).map fun x => (d :: x.1, x.2)
    | .box true b => (fzs (ρ.set i (some (.dat b.dat))) rs).map fun x => (b.dat :: x.1, x.2)
    | .box false _ => none
section
variable {K : PySem.W.Frag} {W : Wd} {ρ ρ' : En} {σ : L2.St} {H H' : Hp}
theorem set_get {i j : Nat} {x : A} {a : A} (h : (ρ.set i (some x))[j]? = some (some a)) : (j = i ∧ a = x) ∨ (j ≠ i ∧ ρ[j]? = some (some a)) := by
  by_cases e : j = i
  · subst e
    by_cases hl : j < ρ.length
    · rw [List.getElem?_set_self hl] at h; cases h; exact .inl ⟨rfl, rfl⟩
    · rw [List.getElem?_eq_none (by simpa using hl)] at h; cases h
  · rw [List.getElem?_set_ne (Ne.symm e)] at h; exact .inr ⟨e, h⟩
/-- an own box is frozen -/
theorem DRel.freeze (h : DRel K W ρ σ H) {i : Nat} {b : Bx} (e : ρ[i]? = some (some (.box true b))) :
    PostX K W ρ σ H (ρ.set i (some (.dat b.dat))) H ∧ ∃ v, σ[i]? = some (some v) ∧ Rep K (Av W.P (ρ.set i (some (.dat b.dat))) σ) H v b.dat := by
  obtain ⟨q, hq, bo, at_, h0, _⟩ := h.boxOk e
  have sub : ∀ a, BoxAt (ρ.set i (some (.dat b.dat))) σ a → BoxAt ρ σ a ∧ a ≠ q := fun a ⟨j, o, b', e1, e2⟩ => by
    rcases set_get e1 with ⟨rfl, z⟩ | ⟨n, z⟩
    · cases z
    · exact ⟨⟨j, o, b', z, e2⟩, fun e3 => n (h.dis j i _ _ _ _ q z e (by rw [e2, e3]) hq)⟩
  have ev : Evo (Av W.P ρ σ) H (Av W.P (ρ.set i (some (.dat b.dat))) σ) H := mono_av fun a z => z.imp id fun z => (sub a z).1
  have nq : ¬ Av W.P (ρ.set i (some (.dat b.dat))) σ q := fun z => by
    rcases z with z | z
    · exact h.pdis q z at_
    · exact (sub q z).2 rfl
  have rq : Rep K (Av W.P (ρ.set i (some (.dat b.dat))) σ) H (.ref q) b.dat := (bo.evo ev fun _ e => e).fz nq
  refine ⟨⟨⟨⟨by simpa using h.len, fun j a e1 => ?_, fun j k o b1 o' b2 q' e1 e2 => ?_, h.prot, fun a z y => h.pdis a z (sub a y).1, h.keep, h.there⟩, fun _ _ e _ => e, fun _ o e => ⟨o, e⟩, fun a z => .inl (sub a z).1⟩, fun j a e1 => ?_, fun a z => (sub a z).1⟩, _, hq, rq⟩
  · rcases set_get e1 with ⟨rfl, rfl⟩ | ⟨n, z⟩
    · exact ⟨_, hq, rq⟩
    · obtain ⟨v, hv, r⟩ := h.sl j a z
      refine ⟨v, hv, ?_⟩
      cases a with
      | dat d => exact Rep.evo ev _ _ r
      | box o b => cases o with
        | true => obtain ⟨q, h1, h2, h3⟩ := r; exact ⟨q, h1, h2.evo ev fun _ e => e, h3⟩
        | false => obtain ⟨q, h1, h2, h3⟩ := r; exact ⟨q, h1, h2.evo ev fun _ e => e, h3⟩
  · rcases set_get e1 with ⟨_, z⟩ | ⟨_, z⟩
    · cases z
    · rcases set_get e2 with ⟨_, z2⟩ | ⟨_, z2⟩
      · cases z2
      · exact h.dis j k _ _ _ _ q' z z2
  · by_cases ej : j = i
    · subst ej
      exact ⟨_, List.getElem?_set_self (List.getElem?_eq_some_iff.mp e1).1⟩
    · exact ⟨a, by rw [List.getElem?_set_ne (Ne.symm ej)]; exact e1⟩
theorem fzs_ok : ∀ {rs : List R} {vs : List V} {ρ ρ' : En} {ds : List D}, DRel K W ρ σ H → FRels K (Av W.P ρ σ) ρ σ H rs vs → fzs ρ rs = some (ds, ρ') → PostX K W ρ σ H ρ' H ∧ RepL K (Av W.P ρ' σ) H vs ds
  | [], _, _, _, _, rel, .nil, e => by cases e; exact ⟨PostX.refl rel, .nil⟩
  | .dat d :: rs, _, _, _, _, rel, .cons r t, e => by
    unfold fzs at e
    obtain ⟨⟨ds, ρ1⟩, e1, e2⟩ := Option.map_eq_some_iff.mp e
    cases e2
    obtain ⟨p, q⟩ := fzs_ok rel t e1
    exact ⟨p, .cons (Rep.evo (p.evo rel) _ _ r) q⟩
  | .new _ :: _, _, _, _, _, _, .cons r _, _ => r.elim
  | .ref i :: rs, _, ρ, _, _, rel, .cons r t, e => by
    unfold fzs at e
    obtain ⟨a, e1, e⟩ := Option.bind_eq_some_iff.mp e
    have e2 : ρ[i]? = some (some a) := Option.join_eq_some_iff.mp e1
    obtain ⟨hv, _⟩ := r
    cases a with
    | dat d =>
      obtain ⟨⟨ds, ρ1⟩, e3, e4⟩ := Option.map_eq_some_iff.mp e
      cases e4
      obtain ⟨p, q⟩ := fzs_ok rel t e3
      obtain ⟨v', hv', rr⟩ := rel.sl i _ e2
      rw [hv] at hv'; cases hv'
      exact ⟨p, .cons (Rep.evo (p.evo rel) _ _ rr) q⟩
    | box o b => cases o with
      | false => cases e
      | true =>
        obtain ⟨⟨ds, ρ1⟩, e3, e4⟩ := Option.map_eq_some_iff.mp e
        cases e4
        obtain ⟨p0, v', hv', rr⟩ := rel.freeze e2
        rw [hv] at hv'; cases hv'
        obtain ⟨p, q⟩ := fzs_ok p0.rel (FRels.over t rel p0) e3
        exact ⟨p0.trans p, .cons (Rep.evo (p.evo p0.rel) _ _ rr) q⟩
end
def mtup (ms : MA) : ME := fun ρ => (ms ρ).bind fun x => (fzs x.2 x.1).bind fun y => (guardO (decide (y.1.length ≤ sizeLine))).bind fun _ => some (.dat (.tuple y.1), y.2)
def mlst (ms : MA) : ME := fun ρ => (ms ρ).bind fun x => (fzs x.2 x.1).bind fun y => (guardO (decide (y.1.length ≤ sizeLine))).bind fun _ => some (.new (.lst y.1), y.2)
theorem fresh_upd {H : Hp} {p : Addr} {o : HO} (h : H p = none) : ∀ a u, H a = some u → upd H p o a = some u := fun a u e => by
  rw [upd_ne (ne_of_none e h)]; exact e
theorem fresh_evo {N : Addr → Prop} {H : Hp} {p : Addr} {o : HO} (h : H p = none) : Evo N H (fun a => N a ∨ a = p) (upd H p o) :=
  ⟨fun a u e _ => fresh_upd h a u e, fun a z => z.imp id fun z => by rw [z]; exact h⟩
theorem fresh_evo' {N : Addr → Prop} {H : Hp} {p : Addr} {o : HO} (h : H p = none) : Evo N H N (upd H p o) :=
  ⟨fun a u e _ => fresh_upd h a u e, fun a z => .inl z⟩
theorem ftup_new {X : Cx} {pins : List (Addr × Obj)} {σ : L2.St} {H : Hp} {s : Shared} {ys : List V} {its : List Value} {t' : Nat} (I : Inv X pins σ H s) (r : Vals ys its) (hz : ys.length ≤ sizeLine) :
    Inv X pins σ (upd H s.heap.objs.size (.frz { cls := .type "tuple", data := .seq its.toArray } (.tup ys))) { s with heap := s.heap.push { cls := .type "tuple", data := .seq its.toArray }, toks := t' } :=
  I.laid (fun _ _ q => Heap.get?_push_of_some _ q) (Nat.le_refl _) ⟨Heap.get?_push_size _ rfl, hz, its, r, IsTup.new _ _⟩
def tTupF (t : TA) : TE := fun σ H Q => t σ H fun xs H1 => xs.length ≤ sizeLine ∧ ∀ (p : Addr) (o : Obj), H1 p = none → o.dict = none → Q (.ref p) (upd H1 p (.frz o (.tup xs)))
theorem pe_tupF {X : Cx} {es : List Expr} {t : TA} {pos : Pos} {x1} (h : PA X es t) : PE X (.Tuple es x1 pos) (tTupF t) := by
  refine ⟨fun pins s σ H Q I hq => ?_⟩
  refine wpAny_Tuple_spliced (thn (h.run pos pins s σ H _ I hq) fun us s1 ⟨xs, H1, I1, r, z, q⟩ => ⟨by rw [← r.length]; exact z, ?_⟩)
  exact ⟨.ref s1.heap.objs.size, _, ftup_new (t' := s1.toks) I1 r z, rfl, q _ _ (I1.hok.fresh (Nat.le_refl _)) rfl⟩
theorem guardO_dec {p : Prop} [Decidable p] {u : Unit} (h : guardO (decide p) = some u) : p := of_decide_eq_true (guardO_some h)

section
variable {G : GC} {S : SC} {e a b c : Expr} {es rest : List Expr} {pos p2 : Pos} {m ma mb mc : ME} {mt mu : MT} {ms : MA}
theorem de_tup {x1} (h : DA G S es ms) : DE G S (.Tuple es x1 pos) (mtup ms) := by
  intro X c
  refine PE.weak (pe_tupF (h X c)) ?_
  rintro σ H Q ⟨W, ρ, r, ρ', rel, em, q⟩
  unfold mtup at em
  obtain ⟨⟨rs, ρ1⟩, e1, em⟩ := Option.bind_eq_some_iff.mp em
  obtain ⟨⟨ds, ρ2⟩, e2, em⟩ := Option.bind_eq_some_iff.mp em
  obtain ⟨u, e3, em⟩ := Option.bind_eq_some_iff.mp em
  cases em
  refine ⟨W, ρ, rs, ρ1, rel, e1, fun vs H1 p1 f1 => ?_⟩
  obtain ⟨p2, rl⟩ := fzs_ok p1.rel f1 e2
  refine ⟨by rw [rl.length]; exact guardO_dec e3, fun p o hp ho => q _ _ ((p1.trans p2).fin ⟨fresh_upd hp, ?_⟩)⟩
  exact .tup (.inl ⟨⟨o, upd_same, ho⟩, fun z => by obtain ⟨o, e⟩ := p2.rel.avThere z; rw [hp] at e; cases e⟩) (RepL.evo (fresh_evo' hp) _ _ rl)
theorem de_lst (h : DA G S es ms) : DE G S (.List es pos) (mlst ms) := by
  intro X c
  refine PE.weak (pe_lst (h X c)) ?_
  rintro σ H Q ⟨W, ρ, r, ρ', rel, em, q⟩
  unfold mlst at em
  obtain ⟨⟨rs, ρ1⟩, e1, em⟩ := Option.bind_eq_some_iff.mp em
  obtain ⟨⟨ds, ρ2⟩, e2, em⟩ := Option.bind_eq_some_iff.mp em
  obtain ⟨u, e3, em⟩ := Option.bind_eq_some_iff.mp em
  cases em
  refine ⟨W, ρ, rs, ρ1, rel, e1, fun vs H1 p1 f1 => ?_⟩
  obtain ⟨p2, rl⟩ := fzs_ok p1.rel f1 e2
  refine ⟨by rw [rl.length]; exact guardO_dec e3, fun p hp => q _ _ ((p1.trans p2).fin ⟨fresh_upd hp, ?_⟩)⟩
  exact ⟨p, rfl, hp, vs, upd_same, RepL.evo (fresh_evo hp) _ _ rl⟩
def mdnew : ME := fun ρ => some (.new (.dic []), ρ)
theorem de_dnew : DE G S (.Dict [] [] pos) mdnew := by
  intro X c
  refine PE.weak pe_dnewK ?_
  rintro σ H Q ⟨W, ρ, r, ρ', rel, em, q⟩
  cases em
  exact fun p hp => q _ _ ((PostX.refl rel).fin ⟨fresh_upd hp, ⟨p, rfl, hp, [], upd_same, .nil⟩⟩)

/-! methods by values -/
theorem de_bm {o : Expr} {name : Str} {T id : String} {apos cpos : Pos} {g : D → List D → Option R} {mo : ME} (pa : PlainAttrs T) (slot : Slot T name id) (hty : typeOf (.builtin id) = pure (.type "method_descriptor")) (hm : ∀ X, CxOk G S X → MtR X id (rDm G.K g))
    (ho : DE G S o mo) (ha : DA G S (e :: es) ms)
    (hbase : ∀ env : PySem.Env, attributeBase o name env (eval o env) = eval o env)
    (hfew : ∀ env : PySem.Env, ((backTo cpos (starEach (e :: es) env)).all (fun x => !x.1) && (backToKw cpos (keywordEach [] env)).all (fun x => x.1.isSome)
      && decide ((e :: es).length + ([] : List Keyword).length + (if ([] : List Keyword).isEmpty then 0 else 1) < 30)) = true)
    (hline : (apos.endLine == cpos.line) = true) (hs : ∀ env : PySem.Env, starEach (e :: es) env = (false, eval e env) :: starEach es env) (hplain : ∀ env : PySem.Env, (backTo cpos (starEach es env)).any (·.1) = false) :
    DE G S (.Call (.Attribute o name apos) (e :: es) [] cpos) (mm T g mo ms) :=
  fun X c => PE.weak (pe_bm pa slot hty (hm X c) (ho X c) (ha X c) (hbase _) (hfew _) hline (hs _) (hplain _)) fun σ H Q q => by
    have z := rdm q
    rw [← c.K] at z ⊢
    exact z
theorem de_bm0 {o : Expr} {name : Str} {T id : String} {apos cpos : Pos} {g : D → List D → Option R} {mo : ME} (pa : PlainAttrs T) (slot : Slot T name id) (hty : typeOf (.builtin id) = pure (.type "method_descriptor")) (hm : ∀ X, CxOk G S X → MtR X id (rDm G.K g))
    (ho : DE G S o mo) (hbase : ∀ env : PySem.Env, attributeBase o name env (eval o env) = eval o env) (hline : (apos.endLine == cpos.line) = true) :
    DE G S (.Call (.Attribute o name apos) [] [] cpos) (mm T g mo mnil) :=
  fun X c => PE.weak (pe_bm0 pa slot hty (hm X c) (ho X c) (hbase _) hline) fun σ H Q q => by
    have z := rdm q
    rw [← c.K] at z ⊢
    obtain ⟨W, ρ, r, ρ1, rel, e1, f⟩ := z
    refine ⟨W, ρ, r, ρ1, rel, e1, fun x H1 p1 => ⟨(f x H1 p1).1, ?_⟩⟩
    obtain ⟨W2, ρ2, rs, ρ3, rel2, e2, f2⟩ := (f x H1 p1).2
    cases e2
    exact f2 [] H1 (PostX.refl rel2) .nil

/-! subscripts -/
theorem de_ix {g : D → D → Option R} (h : ∀ X, CxOk G S X → IxR X (rD2 G.K g)) (ha : DE G S a ma) (hb : DE G S b mb) (hs : PlainIx b) : DE G S (.Subscript a b pos) (m2 g ma mb) :=
  fun X c => PE.weak (pe_ix (h X c) (ha X c) (hb X c) hs) fun _ _ _ q => rd2 q
abbrev MO := En → Option (Option Int × En)
def rdO (K : PySem.W.Frag) (m : MO) : TO := fun σ H Q => ∃ W ρ r ρ', DRel K W ρ σ H ∧ m ρ = some (r, ρ') ∧ ∀ H', PostX K W ρ σ H ρ' H' → Q r H'
def DO (G : GC) (S : SC) (e : Option Expr) (m : MO) : Prop := ∀ X, CxOk G S X → PO X e (rdO G.K m)
theorem PO.weak {X : Cx} {e : Option Expr} {t t' : TO} (h : PO X e t) (w : ∀ σ H Q, t' σ H Q → t σ H Q) : PO X e t' := ⟨fun p s σ H Q I q => h.run p s σ H Q I (w _ _ _ q)⟩
def monone : MO := fun ρ => some (none, ρ)
def mosome (m : ME) : MO := fun ρ => (m ρ).bind fun x => (x.1.fz.vw x.2).bind fun d => match d with
  | .int i => some (some i, x.2)
  | _ => none
theorem do_none : DO G S none monone := fun X c => PO.weak po_none fun σ H Q ⟨W, ρ, r, ρ', rel, em, q⟩ => by
  cases em
  exact q H (PostX.refl rel)
theorem do_some (h : DE G S e m) : DO G S (some e) (mosome m) := fun X c => PO.weak (po_some (h X c)) fun σ H Q ⟨W, ρ, r, ρ', rel, em, q⟩ => by
  unfold mosome at em
  obtain ⟨⟨ra, ρ1⟩, e1, em⟩ := Option.bind_eq_some_iff.mp em
  obtain ⟨d, e2, em⟩ := Option.bind_eq_some_iff.mp em
  split at em
  · rename_i i
    cases em
    refine ⟨W, ρ, ra, ρ1, rel, e1, fun x H1 p1 => ⟨i, ?_, q H1 p1.toPostX⟩⟩
    exact ((p1.res.fz p1.toPostX rel).read p1.rel e2).int
  · cases em
def msl (g : D → Option Int → Option Int → Option R) (ma : ME) (ml mh : MO) : ME := fun ρ => (ma ρ).bind fun x => (ml x.2).bind fun l => (mh l.2).bind fun h => (x.1.fz.vw h.2).bind fun d => (g d l.1 h.1).bind fun r => some (r, h.2)
theorem de_slice {lo hi : Option Expr} {ml mh : MO} {g : D → Option Int → Option Int → Option R} (h : ∀ X, CxOk G S X → SlR X (rDs G.K g)) (he : DE G S e m) (hl : DO G S lo ml) (hu : DO G S hi mh) : DE G S (.Subscript e (.Slice lo hi none p2) pos) (msl g m ml mh) :=
  fun X c => PE.weak (pe_slice (h X c) (he X c) (hl X c) (hu X c)) fun σ H Q ⟨W, ρ, r, ρ', rel, em, q⟩ => by
    unfold msl at em
    obtain ⟨⟨ra, ρ1⟩, e1, em⟩ := Option.bind_eq_some_iff.mp em
    obtain ⟨⟨l, ρ2⟩, e2, em⟩ := Option.bind_eq_some_iff.mp em
    obtain ⟨⟨u, ρ3⟩, e3, em⟩ := Option.bind_eq_some_iff.mp em
    obtain ⟨d, e4, em⟩ := Option.bind_eq_some_iff.mp em
    obtain ⟨r', e5, em⟩ := Option.bind_eq_some_iff.mp em
    cases em
    refine ⟨W, ρ, ra, ρ1, rel, e1, fun x H1 p1 => ⟨W, ρ1, l, ρ2, p1.rel, e2, fun H2 p2 => ⟨W, ρ2, u, _, p2.rel, e3, fun H3 p3 => ?_⟩⟩⟩
    refine ⟨_, d, r, p3.rel.trk, ?_, e5, fun v H' vp => q v H' (((p1.toPostX.trans p2).trans p3).fin vp)⟩
    exact ((((p1.res.fz p1.toPostX rel).over p1.rel p2).over p2.rel p3).read p3.rel e4)

/-! tests -/
def truD : D → Option Bool
  | .none => some false
  | .bool b => some b
  | .int i => some (i != 0)
  | .str x => if x.length ≤ sizeLine then some ((x.length : Int) != 0) else none
  | .list xs => some (!xs.isEmpty)
  | .tuple xs => some (!xs.isEmpty)
  | .dict kvs => some (!kvs.isEmpty)
theorem RepL.empty {K : PySem.W.Frag} {N : Addr → Prop} {H : Hp} {vs : List V} {ds : List D} (h : RepL K N H vs ds) : ds.isEmpty = vs.isEmpty := by cases h <;> rfl
theorem RepK.empty {K : PySem.W.Frag} {N : Addr → Prop} {H : Hp} {vs : List (Key × V)} {ds : List (D × D)} (h : RepK K N H vs ds) : ds.isEmpty = vs.isEmpty := by cases h <;> rfl
theorem SRep.tru {K : PySem.W.Frag} {N : Addr → Prop} {H : Hp} {v : V} {d : D} {k : Bool} (h : SRep K N H v d) (e : truD d = some k) : TruV K v H k := by
  cases d with
  | none => cases e; rw [h.none]; rfl
  | bool b => cases e; rw [h.bool]; rfl
  | int i => cases e; rw [h.int]; rfl
  | str x =>
    have e' : (if x.length ≤ sizeLine then some ((x.length : Int) != 0) else Option.none) = some k := e
    split at e'
    · cases e'; rw [h.str]; exact ⟨by assumption, rfl⟩
    · cases e'
  | list xs => cases e; obtain ⟨a, ys, rfl, h1, h2⟩ := h.list; exact .inl ⟨ys, h1, by rw [h2.empty]⟩
  | tuple xs => cases e; obtain ⟨a, ys, rfl, h1, h2⟩ := h.tuple; exact .inr (.inl ⟨ys, h1.sq, by rw [h2.empty]⟩)
  | dict xs => cases e; obtain ⟨a, ys, rfl, h1, h2⟩ := h.dict; exact .inr (.inr ⟨ys, h1, by rw [h2.empty]⟩)
def mtru (m : ME) : MT := fun ρ => (m ρ).bind fun x => (x.1.fz.vw x.2).bind fun d => (truD d).bind fun b => some (b, x.2)
theorem dt_val (h : DE G S e m) (he : ∀ (env : PySem.Env) whole, isTrue e env whole = (do let v ← whole; standAt e.pos; holding [v] (truthy v))) : DT G S e (mtru m) :=
  fun X c => PT.weak (pt_truth (h X c) (he _)) fun σ H Q ⟨W, ρ, r, ρ', rel, em, q⟩ => by
    unfold mtru at em
    obtain ⟨⟨ra, ρ1⟩, e1, em⟩ := Option.bind_eq_some_iff.mp em
    obtain ⟨d, e2, em⟩ := Option.bind_eq_some_iff.mp em
    obtain ⟨b, e3, em⟩ := Option.bind_eq_some_iff.mp em
    cases em
    refine ⟨W, ρ, ra, ρ1, rel, e1, fun x H1 p1 => ⟨r, ?_, q H1 p1.toPostX⟩⟩
    rw [c.K]
    exact ((p1.res.fz p1.toPostX rel).read p1.rel e2).tru e3
def boolR : R → Option Bool
  | .dat (.bool b) => some b
  | _ => none
def mtst (m : ME) : MT := fun ρ => (m ρ).bind fun x => (boolR x.1).bind fun b => some (b, x.2)
theorem boolR_some {r : R} {b : Bool} (h : boolR r = some b) : r = .dat (.bool b) := by
  unfold boolR at h
  split at h
  · cases h; rfl
  · cases h
theorem PostE.boolv {K : PySem.W.Frag} {W : Wd} {ρ ρ' : En} {σ : L2.St} {H H' : Hp} {r : R} {v : V} {b : Bool} (p : PostE K W ρ σ H r ρ' v H') (e : boolR r = some b) : v = .bl b := by
  have z := p.res
  rw [boolR_some e] at z
  cases (show Rep _ _ _ _ _ from z)
  rfl
theorem rdtst {K : PySem.W.Frag} {σ : L2.St} {H : Hp} {Q : Bool → Hp → Prop} (h : rdT K (mtst m) σ H Q) : rd K m σ H fun x H' => ∃ k, x = .bl k ∧ Q k H' := by
  obtain ⟨W, ρ, r, ρ', rel, em, q⟩ := h
  unfold mtst at em
  obtain ⟨⟨ra, ρ1⟩, e1, em⟩ := Option.bind_eq_some_iff.mp em
  obtain ⟨b, e2, em⟩ := Option.bind_eq_some_iff.mp em
  cases em
  refine ⟨W, ρ, ra, ρ1, rel, e1, fun x H1 p1 => ⟨r, ?_, q H1 p1.toPostX⟩⟩
  exact p1.boolv e2
theorem dt_cmp {op : CmpOp} {g : D → D → Option R} (h : ∀ X, CxOk G S X → OpR X (compareOp op) (rD2 G.K g)) (ha : DE G S a ma) (hb : DE G S b mb) (hm : behindInMarks op b = false) : DT G S (.Compare a [op] [b] pos) (mtst (m2 g ma mb)) :=
  fun X c => PT.weak (pt_cmpR (h X c) (ha X c) (hb X c) hm) fun σ H Q q => by
    obtain ⟨W, ρ, r, ρ1, rel, e1, f⟩ := rd2 (Q := fun x H' => ∃ k, x = .bl k ∧ Q k H') (rdtst q)
    exact ⟨W, ρ, r, ρ1, rel, e1, f⟩
def mnot (m : MT) : MT := fun ρ => (m ρ).bind fun x => some (!x.1, x.2)
def mandT (ma mb : MT) : MT := fun ρ => (ma ρ).bind fun x => if x.1 = true then mb x.2 else some (false, x.2)
def morT (ma mb : MT) : MT := fun ρ => (ma ρ).bind fun x => if x.1 = true then some (true, x.2) else mb x.2
theorem dt_not (h : DT G S a mt) : DT G S (.UnaryOp .Not a pos) (mnot mt) := fun X c => PT.weak (pt_not (h X c)) fun σ H Q ⟨W, ρ, r, ρ', rel, em, q⟩ => by
  unfold mnot at em
  obtain ⟨⟨b, ρ1⟩, e1, em⟩ := Option.bind_eq_some_iff.mp em
  cases em
  exact ⟨W, ρ, b, ρ1, rel, e1, fun H1 p1 => q H1 p1⟩
theorem dw_one {op : BoolOp} (h : DT G S a mt) : DW G S (.BoolOp op [a] pos) mt := fun X c => by
  cases op with
  | And => exact PW.weak (pw_and1 (h X c)) fun _ _ _ q => q
  | Or => exact PW.weak (pw_or1 (h X c)) fun _ _ _ q => q
theorem dw_and (ha : DT G S a mt) (hb : DW G S (.BoolOp .And (b :: rest) pos) mu) : DW G S (.BoolOp .And (a :: b :: rest) pos) (mandT mt mu) := fun X c => PW.weak (pw_and (ha X c) (hb X c)) fun σ H Q ⟨W, ρ, r, ρ', rel, em, q⟩ => by
  unfold mandT at em
  obtain ⟨⟨b, ρ1⟩, e1, em⟩ := Option.bind_eq_some_iff.mp em
  refine ⟨W, ρ, b, ρ1, rel, e1, fun H1 p1 => ?_⟩
  cases b with
  | true => rw [if_pos rfl] at em ⊢; exact ⟨W, ρ1, r, ρ', p1.rel, em, fun H2 p2 => q H2 (p1.trans p2)⟩
  | false => rw [if_neg Bool.false_ne_true] at em ⊢; cases em; exact q H1 p1
theorem dw_or (ha : DT G S a mt) (hb : DW G S (.BoolOp .Or (b :: rest) pos) mu) : DW G S (.BoolOp .Or (a :: b :: rest) pos) (morT mt mu) := fun X c => PW.weak (pw_or (ha X c) (hb X c)) fun σ H Q ⟨W, ρ, r, ρ', rel, em, q⟩ => by
  unfold morT at em
  obtain ⟨⟨b, ρ1⟩, e1, em⟩ := Option.bind_eq_some_iff.mp em
  refine ⟨W, ρ, b, ρ1, rel, e1, fun H1 p1 => ?_⟩
  cases b with
  | true => rw [if_pos rfl] at em ⊢; cases em; exact q H1 p1
  | false => rw [if_neg Bool.false_ne_true] at em ⊢; exact ⟨W, ρ1, r, ρ', p1.rel, em, fun H2 p2 => q H2 (p1.trans p2)⟩
theorem dt_w (h : DW G S a mt) : DT G S a mt := fun X c => (h X c).pt
/-! and, or, if as values -/
def mandV (ma mb : ME) : ME := fun ρ => (ma ρ).bind fun x => (boolR x.1).bind fun b => if b = true then mb x.2 else some (.dat (.bool false), x.2)
def morV (ma mb : ME) : ME := fun ρ => (ma ρ).bind fun x => (boolR x.1).bind fun b => if b = true then some (.dat (.bool true), x.2) else mb x.2
theorem de_one {op : BoolOp} (h : DE G S a ma) : DE G S (.BoolOp op [a] pos) ma := fun X c => pe_one (h X c)
theorem PostE.over {K : PySem.W.Frag} {W : Wd} {ρ ρ1 ρ2 : En} {σ : L2.St} {H H1 H2 : Hp} {r : R} {v : V} (p : PostX K W ρ σ H ρ1 H1) (q : PostE K W ρ1 σ H1 r ρ2 v H2) : PostE K W ρ σ H r ρ2 v H2 := by
  refine ⟨p.trans q.toPostX, ?_, q.relE⟩
  have z := q.res
  cases r with
  | dat d => exact z
  | new b => obtain ⟨a, h1, h2, h3⟩ := z; exact ⟨a, h1, p.free h2, h3⟩
  | ref i => exact z
theorem de_and (ha : DE G S a ma) (hb : DE G S (.BoolOp .And (b :: rest) pos) mb) : DE G S (.BoolOp .And (a :: b :: rest) pos) (mandV ma mb) := fun X c => PE.weak (pe_and (ha X c) (hb X c)) fun σ H Q ⟨W, ρ, r, ρ', rel, em, q⟩ => by
  unfold mandV at em
  obtain ⟨⟨ra, ρ1⟩, e1, em⟩ := Option.bind_eq_some_iff.mp em
  obtain ⟨b, e2, em⟩ := Option.bind_eq_some_iff.mp em
  refine ⟨W, ρ, ra, ρ1, rel, e1, fun x H1 p1 => ⟨b, ?_, ?_⟩⟩
  · exact p1.boolv e2
  · cases b with
    | true => rw [if_pos rfl] at em ⊢; exact ⟨W, ρ1, r, ρ', p1.rel, em, fun v H2 p2 => q v H2 (PostE.over p1.toPostX p2)⟩
    | false => rw [if_neg Bool.false_ne_true] at em ⊢; cases em; exact q _ H1 ⟨p1.toPostX, .bl false, p1.rel.pl0 fun _ z => z⟩
theorem de_or (ha : DE G S a ma) (hb : DE G S (.BoolOp .Or (b :: rest) pos) mb) : DE G S (.BoolOp .Or (a :: b :: rest) pos) (morV ma mb) := fun X c => PE.weak (pe_or (ha X c) (hb X c)) fun σ H Q ⟨W, ρ, r, ρ', rel, em, q⟩ => by
  unfold morV at em
  obtain ⟨⟨ra, ρ1⟩, e1, em⟩ := Option.bind_eq_some_iff.mp em
  obtain ⟨b, e2, em⟩ := Option.bind_eq_some_iff.mp em
  refine ⟨W, ρ, ra, ρ1, rel, e1, fun x H1 p1 => ⟨b, ?_, ?_⟩⟩
  · exact p1.boolv e2
  · cases b with
    | true => rw [if_pos rfl] at em ⊢; cases em; exact q _ H1 ⟨p1.toPostX, .bl true, p1.rel.pl0 fun _ z => z⟩
    | false => rw [if_neg Bool.false_ne_true] at em ⊢; exact ⟨W, ρ1, r, ρ', p1.rel, em, fun v H2 p2 => q v H2 (PostE.over p1.toPostX p2)⟩
theorem de_if (hc : DT G S c mt) (ha : DE G S a ma) (hb : DE G S b mb) : DE G S (.IfExp c a b pos) (mif mt ma mb) := fun X cx => PE.weak (pe_ifExp (hc X cx) (ha X cx) (hb X cx)) fun σ H Q ⟨W, ρ, r, ρ', rel, em, q⟩ => by
  unfold mif at em
  obtain ⟨⟨b, ρ1⟩, e1, em⟩ := Option.bind_eq_some_iff.mp em
  refine ⟨W, ρ, b, ρ1, rel, e1, fun H1 p1 => ?_⟩
  cases b with
  | true => rw [if_pos rfl] at em ⊢; exact ⟨W, ρ1, r, ρ', p1.rel, em, fun v H2 p2 => q v H2 (PostE.over p1 p2)⟩
  | false => rw [if_neg Bool.false_ne_true] at em ⊢; exact ⟨W, ρ1, r, ρ', p1.rel, em, fun v H2 p2 => q v H2 (PostE.over p1 p2)⟩
end
end L3

namespace L3
open PySem PySem.Spec PyProof.Rows L2

/-! a def's promise, the guards known -/
structure FnG (G : GC) (k : Nat) (f : Addr) (fd : FuncData) (ps : List Str) (sp : Sp) : Prop where
  len : ∀ vs H Q E, sp vs H Q E → vs.length = ps.length
  run : ∀ (A : Around) (outer : List PySem.Env) (s : Shared) (H : Hp) (args : Args) (us : List Value) (vs : List V) (Q : VK) (E : XK), Room k A → A.guards = some [] → Env0 G.prog G.w G.K G.mg G.base A outer s H → BindsTo s fd args (ps.zip us) → Vals vs us → sp vs H Q E →
    codeAny (model G.prog G.w) A (.call (.ref f) args) (CR CX0 outer G.prog G.w H s Q E) s
theorem FnG.mono {G : GC} {j k : Nat} {f : Addr} {fd : FuncData} {ps : List Str} {sp : Sp} (F : FnG G j f fd ps sp) (h : j ≤ k) : FnG G k f fd ps sp :=
  ⟨F.len, fun A outer s H args us vs Q E hr => F.run A outer s H args us vs Q E (hr.mono h)⟩
section
variable {X : Cx} {G : GC} {k : Nat} {f : Addr} {fd : FuncData} {ps : List Str} {sp : Sp} {x : Str} {p pos : Pos} {e : Expr} {es : List Expr} {t : TA}
theorem run_fnG {pins : List (Addr × Obj)} {σ : L2.St} {H : Hp} {s : Shared} {Q : VK} {us : List Value} {vs : List V} (F : FnG ⟨X.prog, X.w, X.K, X.mg, X.base⟩ k f fd ps sp) (hr : Room k X.A) (hgd : X.A.guards = some []) (hb : Binds X.K fd ps [])
    (I : Inv X pins σ H s) (r : Vals vs us) (h : sp vs H Q E0) : wpAny (model X.prog X.w) X.A (call (.ref f) us) (EP X pins σ Q) X.xe s := by
  have hl : (us ++ []).length = ps.length := by rw [List.append_nil, ← r.length]; exact F.len _ _ _ _ h
  have hb' : BindsTo s fd ⟨us, []⟩ (ps.zip us) := by
    have := hb s us I.kIn hl
    rw [List.append_nil] at this
    exact this
  refine wpAny_call (codeAny_mono (F.run X.A X.stack s H ⟨us, []⟩ us vs Q E0 hr hgd I.env0 hb' r h) fun r s' hq => ?_)
  cases r with
  | error e => exact False.elim hq
  | ok fl =>
    cases fl with
    | ret u => exact I.after hq
    | next => exact False.elim hq
    | brk => exact False.elim hq
    | cont => exact False.elim hq
theorem pe_callG (F : FnG ⟨X.prog, X.w, X.K, X.mg, X.base⟩ k f fd ps sp) (hr : Room k X.A) (hgd : X.A.guards = some []) (hg : Gl X x) (hm : X.mg x = some (.ref f)) (hk : PySem.W.keepIn X.K (.ref f) = true) (hb : Binds X.K fd ps [])
    (ha : PA X (e :: es) t) (hdb : (x == ("__debug__" : Str)) = false) (he : starEach (e :: es) X.env = (false, eval e X.env) :: starEach es X.env) (hpl : (backTo pos (starEach es X.env)).any (·.1) = false) :
    PE X (.Call (.Name x p) (e :: es) [] pos) (tCB (fun vs H Q => sp vs H Q E0) t) := by
  refine ⟨fun pins s σ H Q I h => ?_⟩
  refine wpAny_Call_Name_kw (ld_glob I hg hm ?_ hdb)
  refine PySem.W.callWith_K (h₀ := X.base) I.ok.mod.kin hk (thn (ha.run pos pins s σ H _ I h) fun us s1 ⟨vs, H1, I1, r, q⟩ => ⟨I1.kIn, ?_⟩) he hpl
  exact run_fnG F hr hgd hb I1 r q
end

/-! a def by its meaning -/
abbrev MF := List A → Option (R × List A)
structure PostF (K : PySem.W.Frag) (W : Wd) (outs : List A) (vs : List V) (H : Hp) (r : R) (v : V) (H' : Hp) : Prop where
  rel : DRel K (W.pl (exR r v)) (outs.map some) (vs.map some) H'
  res : VRes K (Av W.P (outs.map some) (vs.map some)) H H' v r
def isBx : A → Bool
  | .box _ _ => true
  | .dat _ => false
def spM (K : PySem.W.Frag) (n : Nat) (m : MF) : Sp := fun vs H Q _ => ∃ W as r outs, as.length = n ∧ DRel K W (as.map some) (vs.map some) H ∧ W.H0 = H ∧ (∀ (i : Nat) b, as[i]? ≠ some (A.box true b)) ∧ (∀ a, W.PB a → BoxAt (as.map some) (vs.map some) a) ∧ m as = some (r, outs) ∧
  as.map isBx = outs.map isBx ∧ ∀ v H', PostF K W outs vs H r v H' → Q v H'

def argA (ρ : En) : R → Option A
  | .dat d => some (.dat d)
  | .new _ => none
  | .ref i => (ρ[i]?.join).map fun a => match a with
    | .dat d => .dat d
    | .box _ b => .box false b
def argAs (ρ : En) : List R → Option (List A)
  | [] => some []
  | r :: rs => (argA ρ r).bind fun a => (argAs ρ rs).map fun as => a :: as
/-- the slots of the boxes that are handed over -/
def bxIx (ρ : En) : List R → List Nat
  | [] => []
  | .ref i :: rs => match ρ[i]?.join with
    | some (.box _ _) => i :: bxIx ρ rs
    | _ => bxIx ρ rs
  | _ :: rs => bxIx ρ rs
def newC : List R → List A → Nat → Option Bx
  | .ref j :: rs, .box _ b :: as, i => if j = i then some b else newC rs as i
  | _ :: rs, _ :: as, i => newC rs as i
  | _, _, _ => none
def backA (c : Option Bx) : Option A → Option A
  | some (.box o b) => some (.box o (c.getD b))
  | a => a
def back (ρ : En) (rs : List R) (outs : List A) : En := ρ.mapIdx fun i a => backA (newC rs outs i) a
def mcall (m : MF) (ms : MA) : ME := fun ρ => (ms ρ).bind fun x => (argAs x.2 x.1).bind fun as => (guardO (decide (bxIx x.2 x.1).Nodup)).bind fun _ => (m as).bind fun y =>
  (guardO (decide (as.map isBx = y.2.map isBx))).bind fun _ => some (y.1, back x.2 x.1 y.2)

theorem argAs_get {ρ : En} : ∀ {rs : List R} {as : List A}, argAs ρ rs = some as → rs.length = as.length ∧ ∀ (j : Nat) a, as[j]? = some a → ∃ r, rs[j]? = some r ∧ argA ρ r = some a
  | [], _, h => by cases h; exact ⟨rfl, fun j a e => by simp at e⟩
  | r :: rs, _, h => by
    unfold argAs at h
    obtain ⟨a, e1, h⟩ := Option.bind_eq_some_iff.mp h
    obtain ⟨as, e2, h⟩ := Option.map_eq_some_iff.mp h
    cases h
    obtain ⟨h1, h2⟩ := argAs_get e2
    refine ⟨by simp [h1], fun j x e => ?_⟩
    cases j with
    | zero => simp at e; subst e; exact ⟨r, rfl, e1⟩
    | succ j => exact h2 j x (by simpa using e)
theorem argA_box {ρ : En} {r : R} {o : Bool} {b : Bx} (h : argA ρ r = some (.box o b)) : ∃ i o', r = .ref i ∧ ρ[i]? = some (some (.box o' b)) ∧ o = false := by
  cases r with
  | dat d => cases h
  | new d => cases h
  | ref i =>
    obtain ⟨a, e1, e2⟩ := Option.map_eq_some_iff.mp (show (ρ[i]?.join).map _ = _ from h)
    have e3 : ρ[i]? = some (some a) := Option.join_eq_some_iff.mp e1
    cases a with
    | dat d => cases e2
    | box o' b' => cases e2; exact ⟨i, o', rfl, e3, rfl⟩
theorem argA_dat {ρ : En} {r : R} {d : D} (h : argA ρ r = some (.dat d)) : r = .dat d ∨ ∃ i, r = .ref i ∧ ρ[i]? = some (some (.dat d)) := by
  cases r with
  | dat d => cases h; exact .inl rfl
  | new d => cases h
  | ref i =>
    obtain ⟨a, e1, e2⟩ := Option.map_eq_some_iff.mp (show (ρ[i]?.join).map _ = _ from h)
    have e3 : ρ[i]? = some (some a) := Option.join_eq_some_iff.mp e1
    cases a with
    | dat d' => cases e2; exact .inr ⟨i, rfl, e3⟩
    | box o' b' => cases e2
theorem mem_bxIx {ρ : En} {i : Nat} {o : Bool} {b : Bx} (h : ρ[i]? = some (some (.box o b))) : ∀ {rs : List R}, R.ref i ∈ rs → i ∈ bxIx ρ rs
  | r :: rs, hm => by
    rcases List.mem_cons.mp hm with e | hm
    · subst e
      unfold bxIx
      rw [show ρ[i]?.join = some (A.box o b) by rw [h]; rfl]
      exact List.mem_cons_self
    · have ih := mem_bxIx (rs := rs) h hm
      cases r with
      | dat d => exact ih
      | new d => exact ih
      | ref j =>
        unfold bxIx
        split
        · exact List.mem_cons_of_mem _ ih
        · exact ih
theorem bxIx_inj {ρ : En} {i : Nat} {o : Bool} {b : Bx} (h : ρ[i]? = some (some (.box o b))) : ∀ {rs : List R}, (bxIx ρ rs).Nodup → ∀ {j k : Nat}, rs[j]? = some (R.ref i) → rs[k]? = some (R.ref i) → j = k
  | [], _, j, _, e, _ => by simp at e
  | r :: rs, nd, j, k, e1, e2 => by
    have nd' : (bxIx ρ rs).Nodup := by
      cases r with
      | dat d => exact nd
      | new d => exact nd
      | ref j =>
        unfold bxIx at nd
        split at nd
        · exact (List.nodup_cons.mp nd).2
        · exact nd
    have hd : r = .ref i → i ∉ bxIx ρ rs := fun e => by
      subst e
      unfold bxIx at nd
      rw [show ρ[i]?.join = some (A.box o b) by rw [h]; rfl] at nd
      exact (List.nodup_cons.mp nd).1
    cases j with
    | zero =>
      cases k with
      | zero => rfl
      | succ k =>
        simp at e1 e2
        exact absurd (mem_bxIx h (List.mem_of_getElem? e2)) (hd e1)
    | succ j =>
      cases k with
      | zero =>
        simp at e1 e2
        exact absurd (mem_bxIx h (List.mem_of_getElem? e1)) (hd e2)
      | succ k => rw [bxIx_inj h nd' (j := j) (k := k) (by simpa using e1) (by simpa using e2)]
theorem newC_some : ∀ {rs : List R} {outs : List A} {i : Nat} {b : Bx}, newC rs outs i = some b → ∃ (j : Nat) (o : Bool), rs[j]? = some (R.ref i) ∧ outs[j]? = some (A.box o b)
  | [], _, _, _, h => by simp [newC] at h
  | _ :: _, [], _, _, h => by simp [newC] at h
  | r :: rs, a :: as, i, b, h => by
    have step : newC rs as i = some b → ∃ (j : Nat) (o : Bool), (r :: rs)[j]? = some (R.ref i) ∧ (a :: as)[j]? = some (A.box o b) := fun q => by
      obtain ⟨j, o, h1, h2⟩ := newC_some q
      exact ⟨j + 1, o, by simpa using h1, by simpa using h2⟩
    cases r with
    | dat d => exact step (by simpa [newC] using h)
    | new d => exact step (by simpa [newC] using h)
    | ref j =>
      cases a with
      | dat d => exact step (by simpa [newC] using h)
      | box o b' =>
        unfold newC at h
        split at h
        · rename_i e; subst e; cases h; exact ⟨0, o, rfl, rfl⟩
        · exact step h
theorem newC_none : ∀ {rs : List R} {outs : List A} {i : Nat}, newC rs outs i = none → ∀ (j : Nat) (o : Bool) (b : Bx), rs[j]? = some (R.ref i) → outs[j]? ≠ some (A.box o b)
  | [], _, _, _, j, _, _, e => by simp at e
  | _ :: _, [], _, _, j, _, _, _ => by simp
  | r :: rs, a :: as, i, h, j, o, b, e => by
    have hn : newC rs as i = none ∧ ¬ (r = .ref i ∧ ∃ o b, a = .box o b) := by
      cases r with
      | dat d => exact ⟨by simpa [newC] using h, fun z => by cases z.1⟩
      | new d => exact ⟨by simpa [newC] using h, fun z => by cases z.1⟩
      | ref k =>
        cases a with
        | dat d => exact ⟨by simpa [newC] using h, fun z => by obtain ⟨_, _, _, z⟩ := z; cases z⟩
        | box o b' =>
          unfold newC at h
          split at h
          · cases h
          · rename_i ne; exact ⟨h, fun z => ne (by cases z.1; rfl)⟩
    cases j with
    | zero =>
      simp at e ⊢
      intro q
      exact hn.2 ⟨e, o, b, q⟩
    | succ j =>
      have := newC_none hn.1 j o b (by simpa using e)
      simpa using this
theorem back_get {ρ : En} {rs : List R} {outs : List A} {i : Nat} : (back ρ rs outs)[i]? = (ρ[i]?).map (backA (newC rs outs i)) := by
  unfold back
  rw [List.getElem?_mapIdx]
theorem isBx_at {as outs : List A} (h : as.map isBx = outs.map isBx) {j : Nat} {a : A} (e : as[j]? = some a) : ∃ b, outs[j]? = some b ∧ isBx b = isBx a := by
  have q := congrArg (·[j]?) h
  simp only [List.getElem?_map, e, Option.map_some] at q
  obtain ⟨b, h1, h2⟩ := Option.map_eq_some_iff.mp q.symm
  exact ⟨b, h1, h2⟩
theorem isBx_at' {as outs : List A} (h : as.map isBx = outs.map isBx) {j : Nat} {a : A} (e : outs[j]? = some a) : ∃ b, as[j]? = some b ∧ isBx b = isBx a := isBx_at h.symm e
theorem isBx_box {a : A} (h : isBx a = true) : ∃ o b, a = .box o b := by
  cases a with
  | dat d => cases h
  | box o b => exact ⟨o, b, rfl⟩
theorem Paired.get? {α β : Type} {F : α → β → Prop} : ∀ {l : List α} {m : List β}, Paired F l m → ∀ {i : Nat} {x : α}, l[i]? = some x → ∃ y, m[i]? = some y ∧ F x y
  | _, _, .nil, _, _, e => by simp at e
  | _, _, .cons r _, 0, _, e => by simp at e; subst e; exact ⟨_, rfl, r⟩
  | _, _, .cons _ t, i + 1, _, e => by
    obtain ⟨y, h1, h2⟩ := Paired.get? t (i := i) (by simpa using e)
    exact ⟨y, by simpa using h1, h2⟩
theorem map_some_get {α : Type} {l : List α} {i : Nat} {x : α} (h : (l.map some)[i]? = some (some x)) : l[i]? = some x := by
  rw [List.getElem?_map] at h
  obtain ⟨y, h1, h2⟩ := Option.map_eq_some_iff.mp h
  cases h2; exact h1
theorem map_some_get' {α : Type} {l : List α} {i : Nat} {x : α} (h : l[i]? = some x) : (l.map some)[i]? = some (some x) := by
  rw [List.getElem?_map, h]; rfl

section
variable {K : PySem.W.Frag} {W : Wd} {ρ : En} {σ : L2.St} {H : Hp} {rs : List R} {vs : List V} {as outs : List A}
/-- the callee's world -/
def calW (W : Wd) (ρ : En) (σ : L2.St) (H : Hp) (as : List A) (vs : List V) : Wd where
  P := fun a => Av W.P ρ σ a ∧ ¬ ∃ (j : Nat) (o : Bool) (b : Bx), as[j]? = some (.box o b) ∧ vs[j]? = some (.ref a)
  B := fun j => match as[j]?, vs[j]? with
    | some (.box _ _), some (.ref q) => some q
    | _, _ => none
  H0 := H
theorem cal_slot (f : FRels K (Av W.P ρ σ) ρ σ H rs vs) (e : argAs ρ rs = some as) {j : Nat} {o : Bool} {b : Bx} (h : as[j]? = some (.box o b)) : ∃ i o' v, rs[j]? = some (.ref i) ∧ ρ[i]? = some (some (.box o' b)) ∧ vs[j]? = some v ∧ σ[i]? = some (some v) ∧ o = false := by
  obtain ⟨r, h1, h2⟩ := (argAs_get e).2 j _ h
  obtain ⟨i, o', rfl, h3, h4⟩ := argA_box h2
  obtain ⟨v, h5, h6⟩ := Paired.get? f h1
  exact ⟨i, o', v, h1, h3, h5, h6.1, h4⟩
theorem call_in (rel : DRel K W ρ σ H) (f : FRels K (Av W.P ρ σ) ρ σ H rs vs) (e : argAs ρ rs = some as) (nd : (bxIx ρ rs).Nodup) : DRel K (calW W ρ σ H as vs) (as.map some) (vs.map some) H := by
  have hl : as.length = vs.length := by rw [← (argAs_get e).1]; exact Paired.length f
  have avs : ∀ a, Av (calW W ρ σ H as vs).P (as.map some) (vs.map some) a → Av W.P ρ σ a := fun a z => by
    rcases z with z | ⟨j, o, b, e1, e2⟩
    · exact z.1
    · obtain ⟨i, o', v, h1, h2, h3, h4, _⟩ := cal_slot f e (map_some_get e1)
      have := map_some_get e2
      rw [h3] at this; cases this
      exact .inr ⟨i, o', b, h2, h4⟩
  have ev : Evo (Av W.P ρ σ) H (Av (calW W ρ σ H as vs).P (as.map some) (vs.map some)) H := mono_av avs
  refine ⟨by simp [hl], fun j a e1 => ?_, fun j k o b o' b' q e1 e2 e3 e4 => ?_, fun q z => rel.avThere z.1, fun q z ⟨j, o, b, e1, e2⟩ => z.2 ⟨j, o, b, map_some_get e1, map_some_get e2⟩, fun _ _ h _ => h, fun _ o h => ⟨o, h⟩⟩
  · have e1 := map_some_get e1
    cases a with
    | dat d =>
      obtain ⟨r, h1, h2⟩ := (argAs_get e).2 j _ e1
      obtain ⟨v, h5, h6⟩ := Paired.get? f h1
      refine ⟨v, map_some_get' h5, ?_⟩
      rcases argA_dat h2 with rfl | ⟨i, rfl, h3⟩
      · exact Rep.evo ev _ _ h6
      · obtain ⟨v', hv', rr⟩ := rel.sl i _ h3
        rw [h6.1] at hv'; cases hv'
        exact Rep.evo ev _ _ rr
    | box o b =>
      obtain ⟨i, o', v, h1, h2, h3, h4, ho⟩ := cal_slot f e e1
      subst ho
      obtain ⟨q, hq, bo, _⟩ := rel.boxOk h2
      rw [h4] at hq; cases hq
      refine ⟨_, map_some_get' h3, q, rfl, bo.evo ev fun _ z => z, ?_⟩
      show (match as[j]?, vs[j]? with | some (A.box _ _), some (V.ref q) => some q | _, _ => none) = some q
      rw [e1, h3]
  · have e1 := map_some_get e1
    have e2 := map_some_get e2
    have e3 := map_some_get e3
    have e4 := map_some_get e4
    obtain ⟨i, o1, v, h1, h2, h3, h4, _⟩ := cal_slot f e e1
    obtain ⟨i', o1', v', h1', h2', h3', h4', _⟩ := cal_slot f e e2
    rw [e3] at h3; cases h3
    rw [e4] at h3'; cases h3'
    have := rel.dis i i' _ _ _ _ q h2 h2' h4 h4'
    subst this
    exact bxIx_inj h2 nd h1 h1'
theorem call_out {H' : Hp} {r : R} {v : V} (rel : DRel K W ρ σ H) (f : FRels K (Av W.P ρ σ) ρ σ H rs vs) (e : argAs ρ rs = some as) (nd : (bxIx ρ rs).Nodup) (hs : as.map isBx = outs.map isBx)
    (p : PostF K (calW W ρ σ H as vs) outs vs H r v H') : PostE K W ρ σ H r (back ρ rs outs) v H' := by
  have hl : as.length = vs.length := by rw [← (argAs_get e).1]; exact Paired.length f
  -- the boxes are where they were
  have bget : ∀ (i : Nat) (o : Bool) (b : Bx), (back ρ rs outs)[i]? = some (some (.box o b)) → ∃ b0, ρ[i]? = some (some (.box o b0)) ∧ b = (newC rs outs i).getD b0 := fun i o b z => by
    rw [back_get] at z
    obtain ⟨a, h1, h2⟩ := Option.map_eq_some_iff.mp z
    cases a with
    | none => cases h2
    | some a => cases a with
      | dat d => cases h2
      | box o' b' => cases h2; exact ⟨b', h1, rfl⟩
  have dget : ∀ (i : Nat) (d : D), (back ρ rs outs)[i]? = some (some (.dat d)) → ρ[i]? = some (some (.dat d)) := fun i d z => by
    rw [back_get] at z
    obtain ⟨a, h1, h2⟩ := Option.map_eq_some_iff.mp z
    cases a with
    | none => cases h2
    | some a => cases a with
      | dat d' => cases h2; exact h1
      | box o' b' => cases h2
  have sub : ∀ q, BoxAt (back ρ rs outs) σ q → BoxAt ρ σ q := fun q ⟨i, o, b, e1, e2⟩ => by
    obtain ⟨b0, h1, _⟩ := bget i o b e1
    exact ⟨i, o, b0, h1, e2⟩
  -- what is handed over, by address
  have pbBox : ∀ a, (calW W ρ σ H as vs).PB a → BoxAt ρ σ a := fun a ⟨j, z⟩ => by
    have z' : (match as[j]?, vs[j]? with | some (A.box _ _), some (V.ref q) => some q | _, _ => none) = some a := z
    split at z'
    · rename_i o b q h1 h2
      cases z'
      obtain ⟨i, o', v, h3, h4, h5, h6, _⟩ := cal_slot f e h1
      rw [h2] at h5; cases h5
      exact ⟨i, o', b, h4, h6⟩
    · cases z'
  have exf : ∀ a, exR r v a → H a = none ∧ ∃ o, H' a = some o := fun a z => by
    have y := p.res
    cases r with
    | dat d => exact z.elim
    | new b => obtain ⟨q, h1, h2, h3⟩ := y; cases h1; cases z; exact ⟨h2, h3.there⟩
    | ref i => exact z.elim
  have avs : ∀ a, Av W.P (back ρ rs outs) σ a → Av (calW W ρ σ H as vs).P (outs.map some) (vs.map some) a := fun a z => by
    have z0 : Av W.P ρ σ a := z.imp id (sub a)
    by_cases hp : ∃ (j : Nat) (o : Bool) (b : Bx), as[j]? = some (.box o b) ∧ vs[j]? = some (.ref a)
    · obtain ⟨j, o, b, h1, h2⟩ := hp
      obtain ⟨c, h3, h4⟩ := isBx_at hs h1
      obtain ⟨o', b', rfl⟩ := isBx_box h4
      exact .inr ⟨j, o', b', map_some_get' h3, map_some_get' h2⟩
    · exact .inl ⟨z0, hp⟩
  have keep : ∀ a o, H a = some o → ¬ Av W.P ρ σ a → H' a = some o := fun a o h n => p.rel.keep a o h fun z => n (.inr (pbBox a z))
  have avs2 : ∀ a, Av (W.pl (exR r v)).P (back ρ rs outs) σ a → Av ((calW W ρ σ H as vs).pl (exR r v)).P (outs.map some) (vs.map some) a := fun a z => by
    rcases z with (z | z) | z
    · exact (avs a (.inl z)).imp .inl id
    · exact .inl (.inr z)
    · exact (avs a (.inr z)).imp .inl id
  have ev : Evo (Av W.P ρ σ) H (Av (W.pl (exR r v)).P (back ρ rs outs) σ) H' := ⟨keep, fun a z => by
    rcases z with (z | z) | z
    · exact .inl (.inl z)
    · exact .inr (exf a z).1
    · exact .inl (.inr (sub a z))⟩
  have ev2 : Evo (Av ((calW W ρ σ H as vs).pl (exR r v)).P (outs.map some) (vs.map some)) H' (Av (W.pl (exR r v)).P (back ρ rs outs) σ) H' := mono_av avs2
  have lenb : (back ρ rs outs).length = ρ.length := by unfold back; simp
  -- a box that is not handed over
  have stays : ∀ {i : Nat} {o : Bool} {b0 : Bx} {q : Addr}, ρ[i]? = some (some (.box o b0)) → σ[i]? = some (some (.ref q)) → newC rs outs i = none → ∀ o', H q = some o' → H' q = some o' := fun {i o b0 q} h1 h2 h3 o' h4 => by
    refine p.rel.keep q o' h4 fun z => ?_
    obtain ⟨j, z⟩ := z
    have z' : (match as[j]?, vs[j]? with | some (A.box _ _), some (V.ref q) => some q | _, _ => none) = some q := z
    split at z'
    · rename_i ow b1 q1 h5 h6
      cases z'
      obtain ⟨i', o1, v, h7, h8, h9, h10, _⟩ := cal_slot f e h5
      rw [h6] at h9; cases h9
      have : i' = i := rel.dis i' i _ _ _ _ q h8 h1 h10 h2
      subst this
      obtain ⟨c, h11, h12⟩ := isBx_at hs h5
      obtain ⟨o2, b2, rfl⟩ := isBx_box h12
      exact newC_none h3 j o2 b2 h7 h11
    · cases z'
  have content : ∀ {i : Nat} {o : Bool} {b0 : Bx} {q : Addr}, ρ[i]? = some (some (.box o b0)) → σ[i]? = some (some (.ref q)) → BoxOk K (Av W.P ρ σ) H q b0 → BoxOk K (Av (W.pl (exR r v)).P (back ρ rs outs) σ) H' q ((newC rs outs i).getD b0) := fun {i o b0 q} h1 h2 bo => by
    cases hc : newC rs outs i with
    | none => exact bo.evo ev (stays h1 h2 hc)
    | some b =>
      obtain ⟨j, o', h3, h4⟩ := newC_some hc
      obtain ⟨vj, h5, h6⟩ := p.rel.sl j _ (map_some_get' h4)
      have h5 := map_some_get h5
      obtain ⟨v2, h7, h8⟩ := Paired.get? f h3
      rw [h5] at h7; cases h7
      have h9 : σ[i]? = some (some vj) := h8.1
      rw [h2] at h9; cases h9
      cases o' with
      | true => obtain ⟨q', h10, h11, _⟩ := h6; cases h10; exact h11.evo ev2 fun _ z => z
      | false => obtain ⟨q', h10, h11, _⟩ := h6; cases h10; exact h11.evo ev2 fun _ z => z
  have x : DRel K (W.pl (exR r v)) (back ρ rs outs) σ H' := by
    refine ⟨by rw [lenb]; exact rel.len, fun i a e1 => ?_, fun i j o b o' b' q e1 e2 => ?_, fun q z => ?_, fun q z y => ?_, fun a o h n => ?_, fun a o h => ?_⟩
    · cases a with
      | dat d =>
        obtain ⟨v, hv, r⟩ := rel.sl i _ (dget i d e1)
        exact ⟨v, hv, Rep.evo ev _ _ r⟩
      | box o b =>
        obtain ⟨b0, h1, rfl⟩ := bget i o b e1
        obtain ⟨q, hq, bo, _, z1, z2⟩ := rel.boxOk h1
        refine ⟨_, hq, ?_⟩
        cases o with
        | true => exact ⟨q, rfl, content h1 hq bo, z1 rfl⟩
        | false => exact ⟨q, rfl, content h1 hq bo, z2 rfl⟩
    · obtain ⟨b0, h1, _⟩ := bget i o b e1
      obtain ⟨b1, h2, _⟩ := bget j o' b' e2
      exact rel.dis i j _ _ _ _ q h1 h2
    · rcases z with z | z
      · obtain ⟨o, h⟩ := rel.prot q z
        exact p.rel.there q o h
      · exact (exf q z).2
    · rcases z with z | z
      · exact rel.pdis q z (sub q y)
      · obtain ⟨o, h⟩ := rel.boxThere (sub q y)
        rw [(exf q z).1] at h; cases h
    · refine p.rel.keep a o (rel.keep a o h n) fun z => ?_
      rcases rel.pb (pbBox a z) with z | z
      · have h' : W.H0 a = some o := h
        rw [z] at h'; cases h'
      · exact n z
    · obtain ⟨o', h'⟩ := rel.there a o h
      exact p.rel.there a o' h'
  refine ⟨⟨⟨x.unpl, fun a o h n => p.rel.keep a o h fun z => n (pbBox a z), fun a o h => p.rel.there a o h, fun q z => .inl (sub q z)⟩, fun i a h => ?_, sub⟩, ?_, x⟩
  · rw [back_get, h]
    cases a with
    | dat d => exact ⟨_, rfl⟩
    | box o b => exact ⟨_, rfl⟩
  have z := p.res
  cases r with
  | dat d => exact Rep.evo (mono_av avs) _ _ z
  | new b =>
    obtain ⟨q, h1, h2, h3⟩ := z
    exact ⟨q, h1, h2, h3.evo (mono_av fun a z => z.imp (avs a) id) fun _ z => z⟩
  | ref i => exact z.elim
end
theorem calPB {W : Wd} {ρ : En} {σ : L2.St} {H : Hp} {as : List A} {vs : List V} {a : Addr} (h : (calW W ρ σ H as vs).PB a) : BoxAt (as.map some) (vs.map some) a := by
  obtain ⟨j, z⟩ := h
  have z' : (match as[j]?, vs[j]? with | some (A.box _ _), some (V.ref q) => some q | _, _ => none) = some a := z
  split at z'
  · rename_i o b q h1 h2
    cases z'
    exact ⟨j, o, b, map_some_get' h1, map_some_get' h2⟩
  · cases z'
theorem de_call {G : GC} {S : SC} {f : Addr} {fd : FuncData} {ps : List Str} {m : MF} {x : Str} {p pos : Pos} {e : Expr} {es : List Expr} {ms : MA} {k : Nat} (F : FnG G k f fd ps (spM G.K ps.length m)) (hk : k ≤ S.k)
    (hg : S.sc.names.lookup x = some .globalImplicit) (hm : G.mg x = some (.ref f)) (hkp : PySem.W.keepIn G.K (.ref f) = true) (hb : Binds G.K fd ps [])
    (ha : DA G S (e :: es) ms) (hdb : (x == ("__debug__" : Str)) = false) (he : ∀ env : PySem.Env, starEach (e :: es) env = (false, eval e env) :: starEach es env) (hpl : ∀ env : PySem.Env, (backTo pos (starEach es env)).any (·.1) = false)
    (hn : (e :: es).length = ps.length) (hms : ∀ ρ x, ms ρ = some x → x.1.length = (e :: es).length) :
    DE G S (.Call (.Name x p) (e :: es) [] pos) (mcall m ms) := by
  intro X c
  have eG : (⟨X.prog, X.w, X.K, X.mg, X.base⟩ : GC) = G := by
    obtain ⟨gp, gw, gK, gmg, gb⟩ := G
    have h1 := c.prog; have h2 := c.w; have h3 := c.K; have h4 := c.mg; have h5 := c.base
    simp only at h1 h2 h3 h4 h5
    rw [h1, h2, h3, h4, h5]
  refine PE.weak (pe_callG (sp := spM G.K ps.length m) (by rw [eG]; exact F.mono hk) c.room c.gd (by show X.env.scope.names.lookup x = _; rw [c.sc]; exact hg) (by rw [c.mg]; exact hm) (by rw [c.K]; exact hkp) (by rw [c.K]; exact hb) (ha X c) hdb (he _) (hpl _)) ?_
  rintro σ H Q ⟨W, ρ, r, ρ', rel, em, q⟩
  unfold mcall at em
  obtain ⟨⟨rs, ρ1⟩, e1, em⟩ := Option.bind_eq_some_iff.mp em
  obtain ⟨as, e2, em⟩ := Option.bind_eq_some_iff.mp em
  obtain ⟨u, e3, em⟩ := Option.bind_eq_some_iff.mp em
  obtain ⟨⟨r1, outs⟩, e4, em⟩ := Option.bind_eq_some_iff.mp em
  obtain ⟨u2, e5, em⟩ := Option.bind_eq_some_iff.mp em
  cases em
  refine ⟨W, ρ, rs, ρ1, rel, e1, fun vs H1 p1 f1 => ?_⟩
  have hs := guardO_dec e5
  refine ⟨calW W ρ1 σ H1 as vs, as, r1, outs, ?_, call_in p1.rel f1 e2 (guardO_dec e3), rfl, fun i b z => ?_, fun a z => calPB z, e4, hs, fun v H' pf => q v H' (PostE.over p1 (call_out p1.rel f1 e2 (guardO_dec e3) hs pf))⟩
  · rw [← (argAs_get e2).1, hms _ _ e1, hn]
  · obtain ⟨_, _, _, _, _, _, _, z⟩ := cal_slot f1 e2 z
    cases z
theorem mcons_len {ma : ME} {ms : MA} {n : Nat} (h : ∀ ρ x, ms ρ = some x → x.1.length = n) : ∀ ρ x, mcons ma ms ρ = some x → x.1.length = n + 1 := fun ρ x e => by
  unfold mcons at e
  obtain ⟨a, e1, e⟩ := Option.bind_eq_some_iff.mp e
  obtain ⟨b, e2, e⟩ := Option.bind_eq_some_iff.mp e
  cases e
  show b.1.length + 1 = n + 1
  rw [h _ _ e2]
theorem mnil_len : ∀ (ρ : En) x, mnil ρ = some x → x.1.length = 0 := fun ρ x e => by cases e; rfl
end L3

namespace L3
open PySem PySem.Spec PyProof.Rows L2

inductive O where
  | nx | bk | ct
  | rt (r : R)
abbrev MS := En → Option (O × En)
def BorAt (ρ : En) (σ : L2.St) (q : Addr) : Prop := ∃ (i : Nat) (b : Bx), ρ[i]? = some (some (A.box false b)) ∧ σ[i]? = some (some (V.ref q))
theorem BorAt.box {ρ : En} {σ : L2.St} {q : Addr} (h : BorAt ρ σ q) : BoxAt ρ σ q := let ⟨i, b, h1, h2⟩ := h; ⟨i, false, b, h1, h2⟩
/-- a value handed back -/
def RtRel (K : PySem.W.Frag) (W : Wd) (ρ' : En) (σ' : L2.St) (H' : Hp) : R → V → Prop
  | .dat d, v => Rep K (Av W.P ρ' σ') H' v d
  | .new b, v => ∃ q, v = .ref q ∧ W.H0 q = none ∧ BoxOk K (fun a => (W.P a ∨ BorAt ρ' σ' a) ∨ a = q) H' q b ∧ ¬ W.P q ∧
      (∀ (i : Nat) (b' : Bx), ρ'[i]? = some (some (.box false b')) → ∃ q', σ'[i]? = some (some (.ref q')) ∧ q' ≠ q ∧ BoxOk K (fun a => (W.P a ∨ BorAt ρ' σ' a) ∨ a = q) H' q' b')
  | .ref _, _ => False
def rdS (K : PySem.W.Frag) (m : MS) : TS := fun D σ H => ∃ W ρ o ρ', DRel K W ρ σ H ∧ m ρ = some (o, ρ') ∧ match o with
  | .nx => ∀ σ' H', PostC K W ρ σ H ρ' σ' H' → D.nx σ' H'
  | .bk => ∀ σ' H', PostC K W ρ σ H ρ' σ' H' → D.bk σ' H'
  | .ct => ∀ σ' H', PostC K W ρ σ H ρ' σ' H' → D.ct σ' H'
  | .rt r => ∀ v σ' H', PostC K W ρ σ H ρ' σ' H' → RtRel K W ρ' σ' H' r v → D.rt v H'
theorem PS.weak {X : Cx} {st : Stmt} {t t' : TS} (h : PS X st t) (w : ∀ D σ H, t' D σ H → t D σ H) : PS X st t' := ⟨fun p s σ H D I q => h.run p s σ H D I (w _ _ _ q)⟩
theorem PSs.weak {X : Cx} {st : List Stmt} {t t' : TS} (h : PSs X st t) (w : ∀ D σ H, t' D σ H → t D σ H) : PSs X st t' := ⟨fun p s σ H D I q => h.run p s σ H D I (w _ _ _ q)⟩
section
variable (G : GC) (S : SC)
def DS (st : Stmt) (m : MS) : Prop := ∀ X, CxOk G S X → PS X st (rdS G.K m)
def DSs (st : List Stmt) (m : MS) : Prop := ∀ X, CxOk G S X → PSs X st (rdS G.K m)
end
/-! a slot is set -/
def notBor (ρ : En) (i : Nat) : Bool := decide (i < ρ.length) && (match ρ[i]?.join with
  | some (.box false _) => false
  | _ => true)
/-- store a result -/
def stoR (ρ : En) (i : Nat) : R → Option En
  | .dat d => some (ρ.set i (some (.dat d)))
  | .new b => some (ρ.set i (some (.box true b)))
  | .ref j => (fzs ρ [.ref j]).bind fun x => match x.1 with
    | [d] => some (x.2.set i (some (.dat d)))
    | _ => none
def masg (i : Nat) (m : ME) : MS := fun ρ => (m ρ).bind fun x => (guardO (notBor x.2 i)).bind fun _ => (stoR x.2 i x.1).map fun ρ' => (.nx, ρ')
def mdrop (m : ME) : MS := fun ρ => (m ρ).bind fun x => some (.nx, x.2)
def mpass : MS := fun ρ => some (.nx, ρ)
def mret (m : ME) : MS := fun ρ => (m ρ).bind fun x => match x.1 with
  | .dat d => some (.rt (.dat d), x.2)
  | .new b => some (.rt (.new b), x.2)
  | .ref i => match x.2[i]?.join with
    | some (.dat d) => some (.rt (.dat d), x.2)
    | some (.box true b) => some (.rt (.new b), x.2)
    | _ => none
def mseq (a b : MS) : MS := fun ρ => (a ρ).bind fun x => match x.1 with
  | .nx => b x.2
  | o => some (o, x.2)
def mifS (c : MT) (a b : MS) : MS := fun ρ => (c ρ).bind fun x => if x.1 = true then a x.2 else b x.2
section
variable {K : PySem.W.Frag} {W : Wd} {ρ ρ' : En} {σ σ' : L2.St} {H H' : Hp}
theorem notBor_lt {i : Nat} (h : notBor ρ i = true) : i < ρ.length := by
  unfold notBor at h
  rw [Bool.and_eq_true] at h
  exact of_decide_eq_true h.1
theorem notBor_not {i : Nat} (h : notBor ρ i = true) (b : Bx) : ρ[i]? ≠ some (some (.box false b)) := fun e => by
  unfold notBor at h
  rw [Bool.and_eq_true] at h
  have h2 := h.2
  rw [show ρ[i]?.join = some (A.box false b) by rw [e]; rfl] at h2
  cases h2
theorem setσ_ne {i j : Nat} {v : V} (h : j ≠ i) : (σ.set i (some v))[j]? = σ[j]? := List.getElem?_set_ne (Ne.symm h)
/-- .. data -/
theorem DRel.setDat (h : DRel K W ρ σ H) {i : Nat} {v : V} {d : D} (hi : i < ρ.length) (r : Rep K (Av W.P ρ σ) H v d) : PostC K W ρ σ H (ρ.set i (some (.dat d))) (σ.set i (some v)) H := by
  have hs : i < σ.length := by rw [← h.len]; exact hi
  have sub : ∀ a, BoxAt (ρ.set i (some (.dat d))) (σ.set i (some v)) a → BoxAt ρ σ a := fun a ⟨j, o, b, e1, e2⟩ => by
    rcases set_get e1 with ⟨_, z⟩ | ⟨n, z⟩
    · cases z
    · rw [setσ_ne n] at e2; exact ⟨j, o, b, z, e2⟩
  have ev : Evo (Av W.P ρ σ) H (Av W.P (ρ.set i (some (.dat d))) (σ.set i (some v))) H := mono_av fun a z => z.imp id (sub a)
  refine ⟨⟨by simpa using h.len, fun j a e1 => ?_, fun j k o b o' b' q e1 e2 e3 e4 => ?_, h.prot, fun q z y => h.pdis q z (sub q y), h.keep, h.there⟩, fun _ _ e _ => e, fun _ o e => ⟨o, e⟩, fun q z => .inl (sub q z)⟩
  · rcases set_get e1 with ⟨rfl, rfl⟩ | ⟨n, z⟩
    · exact ⟨v, List.getElem?_set_self hs, Rep.evo ev _ _ r⟩
    · obtain ⟨v', hv, rr⟩ := h.sl j a z
      exact ⟨v', by rw [setσ_ne n]; exact hv, rr.evo ev fun _ _ _ _ z => z⟩
  · rcases set_get e1 with ⟨_, z⟩ | ⟨n, z⟩
    · cases z
    · rcases set_get e2 with ⟨_, z2⟩ | ⟨n2, z2⟩
      · cases z2
      · rw [setσ_ne n] at e3; rw [setσ_ne n2] at e4
        exact h.dis j k _ _ _ _ q z z2 e3 e4
/-- .. a new box -/
theorem DRel.setNew {q : Addr} {b : Bx} (h : DRel K (W.pl fun a => V.ref q = V.ref a) ρ σ H) {i : Nat} (hi : i < ρ.length) (bo : BoxOk K (fun a => Av W.P ρ σ a ∨ a = q) H q b) (h0 : W.H0 q = none) (hnP : ¬ W.P q) :
    DRel K W (ρ.set i (some (.box true b))) (σ.set i (some (.ref q))) H ∧ ∀ a, BoxAt (ρ.set i (some (.box true b))) (σ.set i (some (.ref q))) a → BoxAt ρ σ a ∨ a = q := by
  have hs : i < σ.length := by rw [← h.len]; exact hi
  have hq : (W.pl fun a => V.ref q = V.ref a).P q := .inr rfl
  have sub : ∀ a, BoxAt (ρ.set i (some (.box true b))) (σ.set i (some (.ref q))) a → BoxAt ρ σ a ∨ a = q := fun a ⟨j, o, b', e1, e2⟩ => by
    rcases set_get e1 with ⟨rfl, z⟩ | ⟨n, z⟩
    · rw [List.getElem?_set_self hs] at e2; cases e2; exact .inr rfl
    · rw [setσ_ne n] at e2; exact .inl ⟨j, o, b', z, e2⟩
  have ev : Evo (Av (W.pl fun a => V.ref q = V.ref a).P ρ σ) H (Av W.P (ρ.set i (some (.box true b))) (σ.set i (some (.ref q)))) H := mono_av fun a z => by
    rcases z with z | z
    · exact .inl (.inl z)
    · rcases sub a z with z | z
      · exact .inr z
      · exact .inl (.inr (by rw [z]))
  have ev2 : Evo (fun a => Av W.P ρ σ a ∨ a = q) H (Av W.P (ρ.set i (some (.box true b))) (σ.set i (some (.ref q)))) H := mono_av fun a z => by
    rcases z with z | z
    · exact .inl (.inl z)
    · exact (sub a z).imp .inr id
  refine ⟨⟨by simpa using h.len, fun j a e1 => ?_, fun j k o b1 o' b' q' e1 e2 e3 e4 => ?_, fun a z => h.prot a (.inl z), fun a z y => ?_, h.keep, h.there⟩, sub⟩
  · rcases set_get e1 with ⟨rfl, rfl⟩ | ⟨n, z⟩
    · exact ⟨_, List.getElem?_set_self hs, q, rfl, bo.evo ev2 fun _ z => z, h0⟩
    · obtain ⟨v', hv, rr⟩ := h.sl j a z
      refine ⟨v', by rw [setσ_ne n]; exact hv, ?_⟩
      have r' := rr.evo ev fun _ _ _ _ z => z
      cases a with
      | dat d => exact r'
      | box o b => cases o <;> exact r'
  · rcases set_get e1 with ⟨rfl, z⟩ | ⟨n, z⟩
    · rcases set_get e2 with ⟨rfl, z2⟩ | ⟨n2, z2⟩
      · rfl
      · rw [List.getElem?_set_self hs] at e3; cases e3
        rw [setσ_ne n2] at e4
        exact (h.pdis q hq ⟨k, _, _, z2, e4⟩).elim
    · rcases set_get e2 with ⟨rfl, z2⟩ | ⟨n2, z2⟩
      · rw [List.getElem?_set_self hs] at e4; cases e4
        rw [setσ_ne n] at e3
        exact (h.pdis q hq ⟨j, _, _, z, e3⟩).elim
      · rw [setσ_ne n] at e3; rw [setσ_ne n2] at e4
        exact h.dis j k _ _ _ _ q' z z2 e3 e4
  · rcases sub a y with y | y
    · exact h.pdis a (.inl z) y
    · subst y
      exact hnP z
/-- a result is stored -/
theorem sto_ok {r : R} {ρ1 ρ2 : En} {H1 : Hp} {v : V} {i : Nat} (rel : DRel K W ρ σ H) (p : PostE K W ρ σ H r ρ1 v H1) (nb : notBor ρ1 i = true) (e : stoR ρ1 i r = some ρ2) : PostC K W ρ σ H ρ2 (σ.set i (some v)) H1 := by
  have hi := notBor_lt nb
  cases r with
  | dat d =>
    cases e
    exact p.toPostC.trans (p.rel.setDat hi p.res)
  | new b =>
    cases e
    obtain ⟨q, rfl, hq, bo⟩ := p.res
    have h0 : W.H0 q = none := by
      cases z : W.H0 q with
      | none => rfl
      | some o => obtain ⟨o', z'⟩ := rel.there q o z; rw [hq] at z'; cases z'
    have hnP : ¬ W.P q := fun z => by obtain ⟨o, z'⟩ := rel.prot q z; rw [hq] at z'; cases z'
    obtain ⟨h1, h2⟩ := DRel.setNew (W := W) (q := q) (b := b) p.relE hi bo h0 hnP
    refine ⟨h1, p.ext, p.thr, fun a z => ?_⟩
    rcases h2 a z with z | z
    · exact p.new a z
    · exact .inr (by rw [z]; exact hq)
  | ref j =>
    unfold stoR at e
    obtain ⟨⟨ds, ρ3⟩, e1, e2⟩ := Option.bind_eq_some_iff.mp e
    obtain ⟨hv, a, ha⟩ := p.res
    have f : FRels K (Av W.P ρ1 σ) ρ1 σ H1 [R.ref j] [v] := .cons ⟨hv, a, ha⟩ .nil
    obtain ⟨p2, rl⟩ := fzs_ok p.rel f e1
    cases rl with
    | cons r0 t =>
      cases t
      cases e2
      have hi3 : i < ρ3.length := by rw [p2.rel.len, ← p.rel.len]; exact hi
      exact p.toPostC.trans (p2.toPostC.trans (p2.rel.setDat hi3 r0))
end
section
variable {G : GC} {S : SC} {st : Stmt} {sts rest : List Stmt} {e : Expr} {pos pos' : Pos} {m ma mb : ME} {mt : MT} {mx my : MS}
/-- the name may be stored -/
def StoOk (S : SC) (i : Nat) (x : Str) : Prop := S.N[i]? = some x ∧ Loc S.sc x ∧ (S.fn x = true ∨ S.sc.names.lookup x = some .local)
theorem ds_asg {i : Nat} {x : Str} (h : StoOk S i x) (he : DE G S e m) (hs : ∀ env : PySem.Env, swapsWith e (some (.Name x pos')) pos.line env = pure false) : DS G S (.Assign [.Name x pos'] e pos) (masg i m) := by
  intro X c
  refine PS.weak (ps_set (i := i) c.nd (by rw [c.N]; exact h.1) (by rw [c.sc]; exact h.2.1) (he X c) (hs _) (by rw [c.sc, c.fn]; exact h.2.2)) ?_
  rintro D σ H ⟨W, ρ, o, ρ', rel, em, q⟩
  unfold masg at em
  obtain ⟨⟨r, ρ1⟩, e1, em⟩ := Option.bind_eq_some_iff.mp em
  obtain ⟨u, e2, em⟩ := Option.bind_eq_some_iff.mp em
  obtain ⟨ρ2, e3, em⟩ := Option.map_eq_some_iff.mp em
  cases em
  exact ⟨W, ρ, r, ρ1, rel, e1, fun v H1 p1 => q _ H1 (sto_ok rel p1 (guardO_some e2) e3)⟩
theorem ds_expr (he : DE G S e m) (hs : ∀ env : PySem.Env, swapsWith e none pos.line env = pure false) : DS G S (.Expr e pos) (mdrop m) := by
  intro X c
  refine PS.weak (ps_expr (he X c) (hs _)) ?_
  rintro D σ H ⟨W, ρ, o, ρ', rel, em, q⟩
  unfold mdrop at em
  obtain ⟨⟨r, ρ1⟩, e1, em⟩ := Option.bind_eq_some_iff.mp em
  cases em
  exact ⟨W, ρ, r, ρ1, rel, e1, fun v H1 p1 => q _ H1 p1.toPostC⟩
theorem ds_pass : DS G S (.Pass pos) mpass := fun X c => PS.weak ps_pass fun D σ H ⟨W, ρ, o, ρ', rel, em, q⟩ => by
  cases em
  exact q σ H (PostC.refl rel)
theorem ds_break : DS G S (.Break pos) (fun ρ => some (.bk, ρ)) := fun X c => PS.weak ps_break fun D σ H ⟨W, ρ, o, ρ', rel, em, q⟩ => by
  cases em
  exact q σ H (PostC.refl rel)
theorem ds_continue : DS G S (.Continue pos) (fun ρ => some (.ct, ρ)) := fun X c => PS.weak ps_continue fun D σ H ⟨W, ρ, o, ρ', rel, em, q⟩ => by
  cases em
  exact q σ H (PostC.refl rel)
theorem ds_ret (he : DE G S e m) : DS G S (.Return (some e) pos) (mret m) := by
  intro X c
  refine PS.weak (ps_ret (he X c)) ?_
  rintro D σ H ⟨W, ρ, o, ρ', rel, em, q⟩
  unfold mret at em
  obtain ⟨⟨r, ρ1⟩, e1, em⟩ := Option.bind_eq_some_iff.mp em
  refine ⟨W, ρ, r, ρ1, rel, e1, fun v H1 p1 => ?_⟩
  cases r with
  | dat d => cases em; exact q v σ H1 p1.toPostC p1.res
  | new b =>
    cases em
    refine q v σ H1 p1.toPostC ?_
    obtain ⟨a, rfl, hq, bo⟩ := p1.res
    have h0 : W.H0 a = none := by
      cases z : W.H0 a with
      | none => rfl
      | some o => obtain ⟨o', z'⟩ := rel.there a o z; rw [hq] at z'; cases z'
    have hnP : ¬ W.P a := fun z => by obtain ⟨o, z'⟩ := rel.prot a z; rw [hq] at z'; cases z'
    refine ⟨a, rfl, h0, bo.evo (mono_av fun c z => ?_) fun _ z => z, hnP, fun i b' e2 => ?_⟩
    · rcases z with (z | z) | z
      · exact .inl (.inl z)
      · exact .inl (.inr z.box)
      · exact .inr z
    · obtain ⟨q', h1, h2, h3, _⟩ := p1.relE.boxOk e2
      refine ⟨q', h1, fun z => ?_, h2.evo (mono_av fun c z => ?_) fun _ z => z⟩
      · subst z
        exact p1.relE.pdis _ (.inr rfl) h3
      · rcases z with (z | z) | z
        · exact .inl (.inl z)
        · exact .inr z.box
        · exact .inl (.inr (by rw [z]; rfl))
  | ref i =>
    obtain ⟨hv, a0, ha0⟩ := p1.res
    have em' : (match ρ1[i]?.join with
      | some (.dat d) => some (O.rt (.dat d), ρ1)
      | some (.box true b) => some (O.rt (.new b), ρ1)
      | _ => none) = some (o, ρ') := em
    split at em'
    · rename_i d e2
      cases em'
      refine q v σ H1 p1.toPostC ?_
      obtain ⟨v', hv', rr⟩ := p1.rel.sl i _ (Option.join_eq_some_iff.mp e2)
      rw [hv] at hv'; cases hv'
      exact rr
    · rename_i b e2
      cases em'
      refine q v σ H1 p1.toPostC ?_
      obtain ⟨a, h1, h2, h3, h4, _⟩ := p1.rel.boxOk (Option.join_eq_some_iff.mp e2)
      rw [hv] at h1; cases h1
      refine ⟨a, rfl, h4 rfl, h2.evo (mono_av fun c z => ?_) fun _ z => z, fun z => p1.rel.pdis _ z h3, fun j b' e3 => ?_⟩
      · rcases z with (z | z) | z
        · exact .inl z
        · exact .inr z.box
        · rw [z]; exact .inr h3
      · obtain ⟨q', g1, g2, g3, _⟩ := p1.rel.boxOk e3
        refine ⟨q', g1, fun z => ?_, g2.evo (mono_av fun c z => ?_) fun _ z => z⟩
        · subst z
          have := p1.rel.dis j i _ _ _ _ _ e3 (Option.join_eq_some_iff.mp e2) g1 hv
          subst this
          rw [Option.join_eq_some_iff.mp e2] at e3; cases e3
        · rcases z with (z | z) | z
          · exact .inl z
          · exact .inr z.box
          · rw [z]; exact .inr h3
    · cases em'
theorem ds_retN : DS G S (.Return none pos) (mret (mcon .none)) := fun X c => PS.weak ps_retN fun D σ H ⟨W, ρ, o, ρ', rel, em, q⟩ => by
  cases em
  exact q .non σ H (PostC.refl rel) .non
theorem dss_nil : DSs G S [] mpass := fun X c => PSs.weak pss_nil fun D σ H ⟨W, ρ, o, ρ', rel, em, q⟩ => by
  cases em
  exact q σ H (PostC.refl rel)
theorem RtRel.over {K : PySem.W.Frag} {W : Wd} {ρ : En} {σ : L2.St} {H : Hp} {r : R} {v : V} (h : RtRel K W ρ σ H r v) : RtRel K W ρ σ H r v := h
theorem rdseq {K : PySem.W.Frag} {D : Ends} {σ : L2.St} {H : Hp} (h : rdS K (mseq mx my) D σ H) : rdS K mx { D with nx := fun σ H => rdS K my D σ H } σ H := by
  obtain ⟨W, ρ, o, ρ', rel, em, q⟩ := h
  unfold mseq at em
  obtain ⟨⟨o1, ρ1⟩, e1, em⟩ := Option.bind_eq_some_iff.mp em
  refine ⟨W, ρ, o1, ρ1, rel, e1, ?_⟩
  cases o1 with
  | nx =>
    intro σ1 H1 p1
    refine ⟨W, ρ1, o, ρ', p1.rel, em, ?_⟩
    cases o with
    | nx => exact fun σ2 H2 p2 => q σ2 H2 (p1.trans p2)
    | bk => exact fun σ2 H2 p2 => q σ2 H2 (p1.trans p2)
    | ct => exact fun σ2 H2 p2 => q σ2 H2 (p1.trans p2)
    | rt r => exact fun v σ2 H2 p2 r2 => q v σ2 H2 (p1.trans p2) r2
  | bk => cases em; exact q
  | ct => cases em; exact q
  | rt r => cases em; exact q
theorem dss_cons (h1 : DS G S st mx) (h2 : DSs G S rest my) : DSs G S (st :: rest) (mseq mx my) := fun X c => PSs.weak (pss_cons (h1 X c) (h2 X c)) fun D σ H q => rdseq q
theorem dss_one (h1 : DS G S st mx) : DSs G S [st] mx := fun X c => pss_one (h1 X c)
theorem ds_if {c : Expr} {a b : List Stmt} (hc : DT G S c mt) (ha : DSs G S a mx) (hb : DSs G S b my) : DS G S (.If c a b pos) (mifS mt mx my) := fun X cx => PS.weak (ps_if (hc X cx) (ha X cx) (hb X cx)) fun D σ H ⟨W, ρ, o, ρ', rel, em, q⟩ => by
  unfold mifS at em
  obtain ⟨⟨b, ρ1⟩, e1, em⟩ := Option.bind_eq_some_iff.mp em
  refine ⟨W, ρ, b, ρ1, rel, e1, fun H1 p1 => ?_⟩
  have fin : ∀ m : MS, m ρ1 = some (o, ρ') → rdS G.K m D σ H1 := fun m em => by
    refine ⟨W, ρ1, o, ρ', p1.rel, em, ?_⟩
    cases o with
    | nx => exact fun σ2 H2 p2 => q σ2 H2 (p1.toPostC.trans p2)
    | bk => exact fun σ2 H2 p2 => q σ2 H2 (p1.toPostC.trans p2)
    | ct => exact fun σ2 H2 p2 => q σ2 H2 (p1.toPostC.trans p2)
    | rt r => exact fun v σ2 H2 p2 r2 => q v σ2 H2 (p1.toPostC.trans p2) r2
  cases b with
  | true => rw [if_pos rfl] at em; exact iteT (fin _ em)
  | false => rw [if_neg Bool.false_ne_true] at em; exact iteF (fin _ em)
end
end L3

namespace L3
open PySem PySem.Spec PyProof.Rows L2

/-! what is walked -/
inductive It3 where
  | items (ds : List D)
  | slot (i : Nat) (ds : List D)
abbrev MI := En → Option (It3 × En)
def ItOk (K : PySem.W.Frag) (W : Wd) (ρ : En) (σ : L2.St) (H : Hp) (J : It) : It3 → Prop
  | .items ds => ∀ N1 H1, Evo (Av W.P ρ σ) H N1 H1 → Trk N1 H1 → (∀ (n : Nat) d, ds[n]? = some d → J.go n H1 ∧ ∀ x H2, J.yld n H1 x H2 → (∀ a o, H1 a = some o → H2 a = some o) ∧ Rep K N1 H2 x d) ∧ ∀ n, ds.length ≤ n → J.stop n H1
  | .slot i _ => ∃ q o b, σ[i]? = some (some (.ref q)) ∧ ρ[i]? = some (some (.box o b)) ∧ J = Itl K q ∧ (o = false → W.B i = some q)
def rdI (K : PySem.W.Frag) (m : MI) : TI := fun σ H R => ∃ W ρ it ρ', DRel K W ρ σ H ∧ m ρ = some (it, ρ') ∧ ∀ J H', PostX K W ρ σ H ρ' H' → ItOk K W ρ' σ H' J it → R J H'
def DI (G : GC) (S : SC) (tg iter : Expr) (m : MI) : Prop := ∀ X, CxOk G S X → PI X tg iter (rdI G.K m)
theorem PI.weak {X : Cx} {tg e : Expr} {t t' : TI} (h : PI X tg e t) (w : ∀ σ H R, t' σ H R → t σ H R) : PI X tg e t' := ⟨fun p s σ H R I q => h.run p s σ H R I (w _ _ _ q)⟩
section
variable {X : Cx} {tg : Expr}
def iSeq (K : PySem.W.Frag) (tl : TE) : TI := fun σ H R => tl σ H fun x H1 => (∃ a, x = .ref a ∧ (((∃ xs, SqL K H1 a xs) ∧ R (Itl K a) H1) ∨ ((∃ xs, SqT K H1 a xs) ∧ R (Itt K a) H1))) ∨ ∃ z, x = .str z ∧ R (Its z) H1
theorem pi_seq {l : Expr} {tl : TE} (hl : PE X l tl) : PI X tg l (iSeq X.K tl) := by
  refine ⟨fun pins s σ H R I h => ?_⟩
  refine thn (hl.run pins s σ H _ I h) fun v s1 ⟨x, H1, I1, r1, q1⟩ => ?_
  rcases q1 with ⟨a, e, q⟩ | ⟨z, e, q⟩
  · subst e
    cases r1
    rcases q with ⟨⟨xs, hq⟩, q⟩ | ⟨⟨xs, hq⟩, q⟩
    · obtain ⟨its, rv, p, hz⟩ := I1.list hq
      refine wpAny_pyIter_list p.isList ?_
      refine ⟨s1.heap.objs.size, [s1.heap.objs.size], _, _, H1, rfl, I1.kept (t' := s1.toks) fun b o e => Heap.get?_push_of_some _ e, turn_list a _, ⟨_, Heap.get?_push_size _ rfl, rfl, rfl⟩, fun b hb => ?_, q⟩
      have e : b = s1.heap.objs.size := by simpa using hb
      subst e
      exact I1.fpOk (Nat.le_refl _) (I1.hok.fresh (Nat.le_refl _))
    · obtain ⟨its, rv, p, hz⟩ := I1.tuple hq
      refine wpAny_pyIter_tuple (show s1.heap.IsTuple a its.toArray from p) ?_
      refine ⟨s1.heap.objs.size, [s1.heap.objs.size], _, _, H1, rfl, I1.kept (t' := s1.toks) fun b o e => Heap.get?_push_of_some _ e, turn_tuple a _, ⟨_, Heap.get?_push_size _ rfl, rfl, rfl⟩, fun b hb => ?_, q⟩
      have e : b = s1.heap.objs.size := by simpa using hb
      subst e
      exact I1.fpOk (Nat.le_refl _) (I1.hok.fresh (Nat.le_refl _))
  · subst e
    obtain ⟨t, rfl⟩ := r1
    cases ha : z.cps.all (· < 128)
    · exact wpAny_pyIter_wide ha (pi_one (tk := s1.toks) I1 _ (turn_str _ z t "str_iterator" (.inr rfl)) ⟨_, Heap.get?_push_size _ rfl, rfl, rfl⟩ q)
    · exact wpAny_pyIter_ascii ha (pi_one (tk := s1.toks) I1 _ (turn_str _ z t "str_ascii_iterator" (.inl rfl)) ⟨_, Heap.get?_push_size _ rfl, rfl, rfl⟩ q)
end
/-- the items of data -/
def seqD : D → Option (List D)
  | .list ds => some ds
  | .tuple ds => some ds
  | .str z => some (z.cps.toList.map fun c => .str ⟨#[c]⟩)
  | _ => none
/-- in a statement's head: an own list is frozen -/
def miseq (m : ME) : MI := fun ρ => (m ρ).bind fun x => match x.1 with
  | .dat d => (seqD d).map fun ds => (.items ds, x.2)
  | .new b => (seqD b.dat).map fun ds => (.items ds, x.2)
  | .ref i => match x.2[i]?.join with
    | some (.dat d) => (seqD d).map fun ds => (.items ds, x.2)
    | some (.box true b) => (seqD b.dat).map fun ds => (.items ds, x.2.set i (some (.dat b.dat)))
    | some (.box false (.lst ds)) => some (.slot i ds, x.2)
    | _ => none
/-- in a comprehension's head -/
def miseqC (m : ME) : MI := fun ρ => (m ρ).bind fun x => match x.1 with
  | .dat d => (seqD d).map fun ds => (.items ds, x.2)
  | .new b => (seqD b.dat).map fun ds => (.items ds, x.2)
  | .ref i => match x.2[i]?.join with
    | some (.dat d) => (seqD d).map fun ds => (.items ds, x.2)
    | some (.box _ (.lst ds)) => some (.slot i ds, x.2)
    | _ => none
section
variable {K : PySem.W.Frag} {W : Wd} {ρ ρ' : En} {σ : L2.St} {H : Hp}
/-- data that is walked -/
theorem walk_dat {v : V} {d : D} {ds : List D} {Q : It → Hp → Prop} (h : Rep K (Av W.P ρ σ) H v d) (e : seqD d = some ds) (q : ∀ J, ItOk K W ρ σ H J (.items ds) → Q J H) :
    (∃ a, v = .ref a ∧ (((∃ xs, SqL K H a xs) ∧ Q (Itl K a) H) ∨ ((∃ xs, SqT K H a xs) ∧ Q (Itt K a) H))) ∨ ∃ z, v = .str z ∧ Q (Its z) H := by
  cases h with
  | lst h1 h2 =>
    cases e
    refine .inl ⟨_, rfl, .inl ⟨⟨_, h1.sq⟩, q _ fun N1 H1 ev tk => ⟨fun n d hd => ?_, fun n hn => ?_⟩⟩⟩
    · have h1' := h1.evo ev
      obtain ⟨x, hx, rx⟩ := (RepL.evo ev _ _ h2).get hd
      refine ⟨⟨_, x, h1'.sq, hx⟩, fun y H2 hy => ?_⟩
      obtain ⟨e1, e2⟩ := hy
      subst e1
      have := e2 _ h1'.sq
      rw [hx] at this; cases this
      exact ⟨fun _ _ z => z, rx⟩
    · exact ⟨_, (h1.evo ev).sq, by rw [h2.length]; exact hn⟩
  | tup h1 h2 =>
    cases e
    refine .inl ⟨_, rfl, .inr ⟨⟨_, h1.sq⟩, q _ fun N1 H1 ev tk => ⟨fun n d hd => ?_, fun n hn => ?_⟩⟩⟩
    · have h1' := h1.evo ev
      obtain ⟨x, hx, rx⟩ := (RepL.evo ev _ _ h2).get hd
      refine ⟨⟨_, x, h1'.sq, hx⟩, fun y H2 hy => ?_⟩
      obtain ⟨e1, e2⟩ := hy
      subst e1
      have := e2 _ h1'.sq
      rw [hx] at this; cases this
      exact ⟨fun _ _ z => z, rx⟩
    · exact ⟨_, (h1.evo ev).sq, by rw [h2.length]; exact hn⟩
  | str z =>
    cases e
    refine .inr ⟨z, rfl, q _ fun N1 H1 ev tk => ⟨fun n d hd => ?_, fun n hn => ?_⟩⟩
    · rw [List.getElem?_map] at hd
      obtain ⟨c, hc, rfl⟩ := Option.map_eq_some_iff.mp hd
      have hc' : z.cps[n]? = some c := by simpa using hc
      refine ⟨(Array.getElem?_eq_some_iff.mp hc').1, fun y H2 hy => ?_⟩
      obtain ⟨e1, c', e2, e3⟩ := hy
      subst e1
      rw [hc'] at e2; cases e2
      rw [e3]
      exact ⟨fun _ _ z => z, .str _⟩
    · show z.cps.size ≤ n
      simpa using hn
  | non => cases e
  | bl b => cases e
  | int i => cases e
  | dic _ _ _ => cases e
end
section
variable {G : GC} {S : SC} {tg e : Expr} {m : ME}
theorem walk_new {K : PySem.W.Frag} {W : Wd} {ρ ρ1 : En} {σ : L2.St} {H H1 : Hp} {b : Bx} {v : V} (p : PostE K W ρ σ H (.new b) ρ1 v H1) (rel : DRel K W ρ σ H) : Rep K (Av W.P ρ1 σ) H1 v b.dat := (p.res.fz p.toPostX rel)
theorem di_seq (he : DE G S e m) : DI G S tg e (miseq m) := by
  intro X c
  have hK := c.K
  refine PI.weak (pi_seq (he X c)) ?_
  rw [hK]
  rintro σ H R ⟨W, ρ, it, ρ', rel, em, q⟩
  unfold miseq at em
  obtain ⟨⟨r, ρ1⟩, e1, em⟩ := Option.bind_eq_some_iff.mp em
  refine ⟨W, ρ, r, ρ1, rel, e1, fun v H1 p1 => ?_⟩
  cases r with
  | dat d =>
    obtain ⟨ds, e2, e3⟩ := Option.map_eq_some_iff.mp em
    cases e3
    exact walk_dat (W := W) (σ := σ) p1.res e2 fun J j => q J H1 p1.toPostX j
  | new b =>
    obtain ⟨ds, e2, e3⟩ := Option.map_eq_some_iff.mp em
    cases e3
    exact walk_dat (W := W) (σ := σ) (walk_new p1 rel) e2 fun J j => q J H1 p1.toPostX j
  | ref i =>
    obtain ⟨hv, _⟩ := p1.res
    have em' : (match ρ1[i]?.join with
      | some (.dat d) => (seqD d).map fun ds => (It3.items ds, ρ1)
      | some (.box true b) => (seqD b.dat).map fun ds => (It3.items ds, ρ1.set i (some (.dat b.dat)))
      | some (.box false (.lst ds)) => some (It3.slot i ds, ρ1)
      | _ => none) = some (it, ρ') := em
    split at em'
    · rename_i d e4
      obtain ⟨ds, e2, e3⟩ := Option.map_eq_some_iff.mp em'
      cases e3
      obtain ⟨v', hv', rr⟩ := p1.rel.sl i _ (Option.join_eq_some_iff.mp e4)
      rw [hv] at hv'; cases hv'
      exact walk_dat (W := W) (σ := σ) rr e2 fun J j => q J H1 p1.toPostX j
    · rename_i b e4
      obtain ⟨ds, e2, e3⟩ := Option.map_eq_some_iff.mp em'
      cases e3
      obtain ⟨p2, v', hv', rr⟩ := p1.rel.freeze (Option.join_eq_some_iff.mp e4)
      rw [hv] at hv'; cases hv'
      exact walk_dat (W := W) (ρ := ρ1.set i (some (.dat b.dat))) (σ := σ) rr e2 fun J j => q J H1 (p1.toPostX.trans p2) j
    · rename_i ds e4
      cases em'
      obtain ⟨a, h1, h2, _, _, hB⟩ := p1.rel.boxOk (Option.join_eq_some_iff.mp e4)
      rw [hv] at h1; cases h1
      obtain ⟨xs, h3, h4⟩ := h2
      exact .inl ⟨a, rfl, .inl ⟨⟨xs, .inl (.inl h3)⟩, q (Itl _ a) H1 p1.toPostX ⟨a, _, _, hv, Option.join_eq_some_iff.mp e4, rfl, hB⟩⟩⟩
    · cases em'
theorem di_seqC (he : DE G S e m) : DI G S tg e (miseqC m) := by
  intro X c
  have hK := c.K
  refine PI.weak (pi_seq (he X c)) ?_
  rw [hK]
  rintro σ H R ⟨W, ρ, it, ρ', rel, em, q⟩
  unfold miseqC at em
  obtain ⟨⟨r, ρ1⟩, e1, em⟩ := Option.bind_eq_some_iff.mp em
  refine ⟨W, ρ, r, ρ1, rel, e1, fun v H1 p1 => ?_⟩
  cases r with
  | dat d =>
    obtain ⟨ds, e2, e3⟩ := Option.map_eq_some_iff.mp em
    cases e3
    exact walk_dat (W := W) (σ := σ) p1.res e2 fun J j => q J H1 p1.toPostX j
  | new b =>
    obtain ⟨ds, e2, e3⟩ := Option.map_eq_some_iff.mp em
    cases e3
    exact walk_dat (W := W) (σ := σ) (walk_new p1 rel) e2 fun J j => q J H1 p1.toPostX j
  | ref i =>
    obtain ⟨hv, _⟩ := p1.res
    have em' : (match ρ1[i]?.join with
      | some (.dat d) => (seqD d).map fun ds => (It3.items ds, ρ1)
      | some (.box _ (.lst ds)) => some (It3.slot i ds, ρ1)
      | _ => none) = some (it, ρ') := em
    split at em'
    · rename_i d e4
      obtain ⟨ds, e2, e3⟩ := Option.map_eq_some_iff.mp em'
      cases e3
      obtain ⟨v', hv', rr⟩ := p1.rel.sl i _ (Option.join_eq_some_iff.mp e4)
      rw [hv] at hv'; cases hv'
      exact walk_dat (W := W) (σ := σ) rr e2 fun J j => q J H1 p1.toPostX j
    · rename_i ds e4
      cases em'
      obtain ⟨a, h1, h2, _, _, hB⟩ := p1.rel.boxOk (Option.join_eq_some_iff.mp e4)
      rw [hv] at h1; cases h1
      obtain ⟨xs, h3, h4⟩ := h2
      exact .inl ⟨a, rfl, .inl ⟨⟨xs, .inl (.inl h3)⟩, q (Itl _ a) H1 p1.toPostX ⟨a, _, _, hv, Option.join_eq_some_iff.mp e4, rfl, hB⟩⟩⟩
    · cases em'
/-- range(a, b) -/
def rngD (lo hi : Int) : List D := (List.range (hi - lo).toNat).map fun n => .int (lo + (n : Nat))
def intR (ρ : En) (r : R) : Option Int := (r.vw ρ).bind fun d => match d with
  | .int i => some i
  | _ => none
theorem intR_some {ρ : En} {r : R} {i : Int} (h : intR ρ r = some i) : r.vw ρ = some (.int i) := by
  unfold intR at h
  obtain ⟨d, e1, e2⟩ := Option.bind_eq_some_iff.mp h
  split at e2
  · cases e2; exact e1
  · cases e2
def mirng1 (ms : MA) : MI := fun ρ => (ms ρ).bind fun x => match x.1 with
  | [r] => (intR x.2 r).bind fun j => (guardO (decide (-(2 ^ 62) ≤ j ∧ j < 2 ^ 62))).bind fun _ => some (.items (rngD 0 j), x.2)
  | _ => none
def mirng2 (ms : MA) : MI := fun ρ => (ms ρ).bind fun x => match x.1 with
  | [r, r'] => (intR x.2 r).bind fun i => (intR x.2 r').bind fun j => (guardO (decide (-(2 ^ 62) ≤ i ∧ i < 2 ^ 62 ∧ -(2 ^ 62) ≤ j ∧ j < 2 ^ 62))).bind fun _ => some (.items (rngD i j), x.2)
  | _ => none
theorem rng_ok {K : PySem.W.Frag} {W : Wd} {ρ : En} {σ : L2.St} {H : Hp} (lo hi : Int) : ItOk K W ρ σ H (Itr lo (hi - lo).toNat) (.items (rngD lo hi)) := fun N1 H1 ev tk => by
  refine ⟨fun n d hd => ?_, fun n hn => ?_⟩
  · unfold rngD at hd
    rw [List.getElem?_map] at hd
    obtain ⟨k, hk, rfl⟩ := Option.map_eq_some_iff.mp hd
    obtain ⟨h1, h2⟩ := List.getElem?_eq_some_iff.mp hk
    rw [List.length_range] at h1
    rw [List.getElem_range] at h2
    subst h2
    refine ⟨h1, fun x H2 hy => ?_⟩
    obtain ⟨e1, e2⟩ := hy
    subst e1
    rw [e2]
    exact ⟨fun _ _ z => z, .int _⟩
  · unfold rngD at hn
    rw [List.length_map, List.length_range] at hn
    exact hn
theorem di_range1 {a : Expr} {p pos : Pos} {ms : MA} (hg : S.sc.names.lookup (Str.ofString "range") = some NameKind.globalImplicit) (hm : G.mg (Str.ofString "range") = none) (ha : DA G S [a] ms) (hs : ∀ env : PySem.Env, starEach [a] env = (false, eval a env) :: starEach [] env) :
    DI G S tg (.Call (.Name "range" p) [a] [] pos) (mirng1 ms) := by
  intro X c
  refine PI.weak (pi_range1 (by show X.env.scope.names.lookup _ = _; rw [c.sc]; exact hg) (by rw [c.mg]; exact hm) (ha X c) (hs _)) ?_
  rintro σ H R ⟨W, ρ, it, ρ', rel, em, q⟩
  unfold mirng1 at em
  obtain ⟨⟨rs, ρ1⟩, e1, em⟩ := Option.bind_eq_some_iff.mp em
  refine ⟨W, ρ, rs, ρ1, rel, e1, fun vs H1 p1 f1 => ?_⟩
  cases rs with
  | nil => cases em
  | cons r rs => cases rs with
    | cons _ _ => cases em
    | nil =>
      obtain ⟨j, e2, em⟩ := Option.bind_eq_some_iff.mp em
      obtain ⟨u, e3, em⟩ := Option.bind_eq_some_iff.mp em
      cases em
      cases f1 with
      | cons r1 t =>
        cases t
        obtain ⟨g1, g2⟩ := guardO_dec e3
        have := (FRel.read r1 p1.rel (intR_some e2)).int
        subst this
        refine ⟨j, rfl, g1, g2, ?_⟩
        have z := q (Itr 0 (j - 0).toNat) H1 p1 (rng_ok 0 j)
        rw [Int.sub_zero] at z
        exact z
theorem di_range2 {a b : Expr} {p pos : Pos} {ms : MA} (hg : S.sc.names.lookup (Str.ofString "range") = some NameKind.globalImplicit) (hm : G.mg (Str.ofString "range") = none) (ha : DA G S [a, b] ms) (hs : ∀ env : PySem.Env, starEach [a, b] env = [(false, eval a env), (false, eval b env)]) (hpl : ∀ env : PySem.Env, starEach [b] env = [(false, eval b env)]) :
    DI G S tg (.Call (.Name "range" p) [a, b] [] pos) (mirng2 ms) := by
  intro X c
  refine PI.weak (pi_range2 (by show X.env.scope.names.lookup _ = _; rw [c.sc]; exact hg) (by rw [c.mg]; exact hm) (ha X c) (hs _) (hpl _)) ?_
  rintro σ H R ⟨W, ρ, it, ρ', rel, em, q⟩
  unfold mirng2 at em
  obtain ⟨⟨rs, ρ1⟩, e1, em⟩ := Option.bind_eq_some_iff.mp em
  refine ⟨W, ρ, rs, ρ1, rel, e1, fun vs H1 p1 f1 => ?_⟩
  cases rs with
  | nil => cases em
  | cons r rs => cases rs with
    | nil => cases em
    | cons r' rs => cases rs with
      | cons _ _ => cases em
      | nil =>
        obtain ⟨i, e2, em⟩ := Option.bind_eq_some_iff.mp em
        obtain ⟨j, e4, em⟩ := Option.bind_eq_some_iff.mp em
        obtain ⟨u, e3, em⟩ := Option.bind_eq_some_iff.mp em
        cases em
        cases f1 with
        | cons r1 t =>
          cases t with
          | cons r2 t =>
            cases t
            have g := guardO_dec e3
            have h1 := (FRel.read r1 p1.rel (intR_some e2)).int
            have h2 := (FRel.read r2 p1.rel (intR_some e4)).int
            subst h1
            subst h2
            exact ⟨i, j, rfl, g, q (Itr i (j - i).toNat) H1 p1 (rng_ok i j)⟩
end

/-! targets -/
abbrev MG := D → En → Option En
def rdG (K : PySem.W.Frag) (is : List Nat) (m : MG) : TG := fun v σ H Q => ∃ W ρ d ρ', DRel K W ρ σ H ∧ Rep K (Av W.P ρ σ) H v d ∧ m d ρ = some ρ' ∧ ∀ σ', PostC K W ρ σ H ρ' σ' H → (σ'.length = σ.length ∧ ∀ j, j ∉ is → σ'[j]? = σ[j]?) → Q σ' H
def DG (G : GC) (S : SC) (tg : Expr) (is : List Nat) (m : MG) : Prop := ∀ X, CxOk G S X → PG X tg (rdG G.K is m)
theorem PG.weak {X : Cx} {tg : Expr} {t t' : TG} (h : PG X tg t) (w : ∀ v σ H Q, t' v σ H Q → t v σ H Q) : PG X tg t' := ⟨fun p s σ H v u Q I r q => h.run p s σ H v u Q I r (w _ _ _ _ q)⟩
def gnm (i : Nat) : MG := fun d ρ => (guardO (notBor ρ i)).map fun _ => ρ.set i (some (.dat d))
def gset : List Nat → List D → En → Option En
  | [], [], ρ => some ρ
  | i :: is, d :: ds, ρ => (guardO (notBor ρ i)).bind fun _ => gset is ds (ρ.set i (some (.dat d)))
  | _, _, _ => none
def gtup (is : List Nat) : MG := fun d ρ => match d with
  | .tuple ds => gset is ds ρ
  | _ => none
def gsN : List Nat → TGs
  | [] => gNil
  | i :: is => gCons (gName i) (gsN is)
section
variable {K : PySem.W.Frag} {W : Wd} {G : GC} {S : SC}
theorem gset_len : ∀ {is : List Nat} {ds : List D} {ρ ρ' : En}, gset is ds ρ = some ρ' → ds.length = is.length
  | [], [], _, _, _ => rfl
  | i :: is, d :: ds, _, _, h => by
    obtain ⟨u, _, h2⟩ := Option.bind_eq_some_iff.mp (show (guardO (notBor _ i)).bind _ = _ from h)
    rw [List.length_cons, List.length_cons, gset_len h2]
  | [], _ :: _, _, _, h => by simp [gset] at h
  | _ :: _, [], _, _, h => by simp [gset] at h
theorem gset_ok {H : Hp} {Q : L2.St → Hp → Prop} : ∀ {is : List Nat} {ds : List D} {xs : List V} {ρ ρ' : En} {σ : L2.St}, DRel K W ρ σ H → RepL K (Av W.P ρ σ) H xs ds → gset is ds ρ = some ρ' → (∀ σ', PostC K W ρ σ H ρ' σ' H → (σ'.length = σ.length ∧ ∀ j, j ∉ is → σ'[j]? = σ[j]?) → Q σ' H) → gsN is xs σ H Q
  | [], [], _, _, _, σ, rel, .nil, h, q => by cases h; exact ⟨rfl, q _ (PostC.refl rel) ⟨rfl, fun _ _ => rfl⟩⟩
  | i :: is, d :: ds, _, ρ, _, σ, rel, .cons r t, h, q => by
    obtain ⟨u, h1, h2⟩ := Option.bind_eq_some_iff.mp (show (guardO (notBor _ i)).bind _ = _ from h)
    have p := rel.setDat (notBor_lt (guardO_some h1)) r
    exact ⟨_, _, rfl, gset_ok p.rel (RepL.evo (p.evo rel) _ _ t) h2 fun σ' p2 c => q σ' (p.trans p2) ⟨by rw [c.1, List.length_set], fun j hj => by
      rw [c.2 j fun z => hj (List.mem_cons_of_mem _ z), List.getElem?_set_ne fun z => hj (by rw [z]; exact List.mem_cons_self)]⟩⟩
  | [], _ :: _, _, _, _, _, _, _, h, _ => by simp [gset] at h
  | _ :: _, [], _, _, _, _, _, _, h, _ => by simp [gset] at h
theorem dg_name {i : Nat} {x : Str} {pos : Pos} (h : StoOk S i x) : DG G S (.Name x pos) [i] (gnm i) := by
  intro X c
  refine PG.weak (pg_name (i := i) c.nd (by rw [c.N]; exact h.1) (by rw [c.sc]; exact h.2.1) (by rw [c.sc, c.fn]; exact h.2.2)) ?_
  rintro v σ H Q ⟨W, ρ, d, ρ', rel, r, em, q⟩
  obtain ⟨u, h1, h2⟩ := Option.map_eq_some_iff.mp (show (guardO (notBor ρ i)).map _ = _ from em)
  subst h2
  exact q _ (rel.setDat (notBor_lt (guardO_some h1)) r) ⟨List.length_set, fun j hj => List.getElem?_set_ne fun z => hj (by rw [z]; exact List.mem_singleton_self _)⟩
theorem dg_tup {es : List Expr} {k : Nat} {pos : Pos} {is : List Nat} (h : ∀ X, CxOk G S X → PGs X es (gsN is)) (hn : ∀ env : PySem.Env, (assignEach es env).length = is.length) (hst : ∀ env : PySem.Env, (assignEach es env).findIdx? (·.1) = none) : DG G S (.Tuple es k pos) is (gtup is) := by
  intro X c
  refine PG.weak (pg_tup (n := is.length) c.calm (h X c) (hn _) (hst _)) ?_
  rw [c.K]
  rintro v σ H Q ⟨W, ρ, d, ρ', rel, r, em, q⟩
  unfold gtup at em
  split at em
  · rename_i ds
    cases r with
    | tup h1 h2 => exact ⟨_, _, rfl, h1.sq, by rw [h2.length, gset_len em], gset_ok rel h2 em q⟩
  · cases em
theorem pgsN_nil {X : Cx} : PGs X [] (gsN []) := pgs_nil
theorem pgsN_cons {X : Cx} {i : Nat} {x : Str} {p : Pos} {es : List Expr} {is : List Nat} (c : CxOk G S X) (h : StoOk S i x) (t : PGs X es (gsN is)) (hs : (assignEach (.Name x p :: es) X.env).map (·.2) = assign (.Name x p) X.env :: (assignEach es X.env).map (·.2)) : PGs X (.Name x p :: es) (gsN (i :: is)) :=
  pgs_cons (pg_name (i := i) c.nd (by rw [c.N]; exact h.1) (by rw [c.sc]; exact h.2.1) (by rw [c.sc, c.fn]; exact h.2.2)) t hs
end

/-! for -/
def lstAt (ρ : En) (i : Nat) : Option (List D) := match ρ[i]?.join with
  | some (.box _ (.lst ds)) => some ds
  | _ => none
def mforI (g : MG) (b : MS) : List D → MS
  | [], ρ => some (.nx, ρ)
  | d :: ds, ρ => (g d ρ).bind fun ρ1 => (b ρ1).bind fun x => match x.1 with
    | .nx => mforI g b ds x.2
    | .ct => mforI g b ds x.2
    | .bk => some (.nx, x.2)
    | .rt r => some (.rt r, x.2)
/-- .. of a borrowed one -/
def lstB (ρ : En) (i : Nat) : Option (List D) := match ρ[i]?.join with
  | some (.box false (.lst ds)) => some ds
  | _ => none
def mforS (i : Nat) (g : MG) (b : MS) : List D → Nat → MS
  | [], n, ρ => (lstB ρ i).bind fun xs => (guardO (decide (xs.length ≤ n))).bind fun _ => some (.nx, ρ)
  | _ :: ds, n, ρ => (lstB ρ i).bind fun xs => (xs[n]?).bind fun d => (g d ρ).bind fun ρ1 => (b ρ1).bind fun x => match x.1 with
    | .nx => mforS i g b ds (n + 1) x.2
    | .ct => mforS i g b ds (n + 1) x.2
    | .bk => some (.nx, x.2)
    | .rt r => some (.rt r, x.2)
def mfor (mi : MI) (g : MG) (b : MS) : MS := fun ρ => (mi ρ).bind fun x => match x.1 with
  | .items ds => mforI g b ds x.2
  | .slot i ds => mforS i g b ds 0 x.2
/-- what follows a statement -/
def After (K : PySem.W.Frag) (W : Wd) (D : Ends) (o : O) (ρ' : En) (ρ : En) (σ : L2.St) (H : Hp) : Prop := match o with
  | .nx => ∀ σ' H', PostC K W ρ σ H ρ' σ' H' → D.nx σ' H'
  | .bk => ∀ σ' H', PostC K W ρ σ H ρ' σ' H' → D.bk σ' H'
  | .ct => ∀ σ' H', PostC K W ρ σ H ρ' σ' H' → D.ct σ' H'
  | .rt r => ∀ v σ' H', PostC K W ρ σ H ρ' σ' H' → RtRel K W ρ' σ' H' r v → D.rt v H'
theorem After.over {K : PySem.W.Frag} {W : Wd} {D : Ends} {o : O} {ρ' ρ ρ1 : En} {σ σ1 : L2.St} {H H1 : Hp} (a : After K W D o ρ' ρ σ H) (p : PostC K W ρ σ H ρ1 σ1 H1) : After K W D o ρ' ρ1 σ1 H1 := by
  cases o with
  | nx => exact fun σ2 H2 p2 => a σ2 H2 (p.trans p2)
  | bk => exact fun σ2 H2 p2 => a σ2 H2 (p.trans p2)
  | ct => exact fun σ2 H2 p2 => a σ2 H2 (p.trans p2)
  | rt r => exact fun v σ2 H2 p2 r2 => a v σ2 H2 (p.trans p2) r2
theorem lstAt_some {ρ : En} {i : Nat} {xs : List D} (h : lstAt ρ i = some xs) : ∃ o, ρ[i]? = some (some (.box o (.lst xs))) := by
  unfold lstAt at h
  split at h
  · rename_i o ds e
    cases h
    exact ⟨o, Option.join_eq_some_iff.mp e⟩
  · cases h
theorem lstB_some {ρ : En} {i : Nat} {xs : List D} (h : lstB ρ i = some xs) : ρ[i]? = some (some (.box false (.lst xs))) := by
  unfold lstB at h
  split at h
  · rename_i ds e
    cases h
    exact Option.join_eq_some_iff.mp e
  · cases h
theorem DRel.same {K : PySem.W.Frag} {W : Wd} {ρ : En} {σ : L2.St} {H H' : Hp} (h : DRel K W ρ σ H) (s : ∀ a o, H a = some o → H' a = some o) : PostC K W ρ σ H ρ σ H' := ((PostX.refl h).same s).toPostC
theorem ds_for {G : GC} {S : SC} {tg iter : Expr} {body : List Stmt} {mi : MI} {g : MG} {is : List Nat} {b : MS} {pos : Pos} (hi : DI G S tg iter mi) (hg : DG G S tg is g) (hb : DSs G S body b) (hs : ∀ (env : PySem.Env) x, foldedSetIterable iter env x = pure x) :
    DS G S (.For tg iter body [] pos) (mfor mi g b) := by
  intro X c
  refine PS.weak (ps_for (by rw [c.xe]; exact PassesOwn.never) c.calm (hi X c) (hg X c) (hb X c) (hs _)) ?_
  rintro D σ H ⟨W, ρ, o, ρ', rel, em, q⟩
  unfold mfor at em
  obtain ⟨⟨it, ρ1⟩, e1, em⟩ := Option.bind_eq_some_iff.mp em
  refine ⟨W, ρ, it, ρ1, rel, e1, fun J H1 p1 jt => ?_⟩
  have aft : After G.K W D o ρ' ρ σ H := q
  have aft1 := aft.over p1.toPostC
  cases it with
  | items ds =>
    have em : mforI g b ds ρ1 = some (o, ρ') := em
    refine ⟨fun i m σ2 H2 => ∃ ρ2, PostC G.K W ρ1 σ H1 ρ2 σ2 H2 ∧ m = (ds.drop i).length ∧ i ≤ ds.length ∧ mforI g b (ds.drop i) ρ2 = some (o, ρ'), ⟨ds.length, ρ1, PostC.refl p1.rel, rfl, Nat.zero_le _, em⟩, ?_⟩
    rintro i m σ2 H2 ⟨ρ2, p2, rfl, hi, e2⟩
    obtain ⟨j1, j2⟩ := jt _ _ (p2.evo p1.rel) p2.rel.trk
    cases hd : ds.drop i with
    | nil =>
      rw [hd] at e2
      cases e2
      refine .inl ⟨j2 i ?_, aft1 σ2 H2 p2⟩
      exact List.drop_eq_nil_iff.mp hd
    | cons d rest =>
      rw [hd] at e2
      have hi' : ds[i]? = some d := by
        have := congrArg List.head? hd
        rwa [List.head?_drop] at this
      have hrest : ds.drop (i + 1) = rest := by
        rw [show i + 1 = i + 1 from rfl, ← List.drop_drop (i := 1) (j := i), hd]; rfl
      have hlt : i < ds.length := (List.getElem?_eq_some_iff.mp hi').1
      obtain ⟨go, yl⟩ := j1 i d hi'
      refine .inr ⟨go, ?_⟩
      obtain ⟨ρ3, e3, e2⟩ := Option.bind_eq_some_iff.mp (show (g d ρ2).bind _ = _ from e2)
      obtain ⟨⟨o4, ρ4⟩, e4, e2⟩ := Option.bind_eq_some_iff.mp e2
      refine ⟨fun σ' H' => ∃ ρ5, PostC G.K W ρ1 σ H1 ρ5 σ' H' ∧ (o4 = .nx ∨ o4 = .ct) ∧ ρ5 = ρ4, fun σ' H' ⟨ρ5, p5, h5, e5⟩ => ⟨(ds.drop (i + 1)).length, by rw [hrest]; exact Nat.lt_succ_self _, ρ5, p5, rfl, hlt, ?_⟩, fun x H3 hy => ?_⟩
      · rw [hrest, e5]
        rcases h5 with h5 | h5
        · subst h5; exact e2
        · subst h5; exact e2
      · obtain ⟨s3, r3⟩ := yl x H3 hy
        have p3 := p2.rel.same s3
        refine ⟨W, ρ2, d, ρ3, p3.rel, r3, e3, fun σ3 p4 _ => ?_⟩
        have p34 := p2.trans (p3.trans p4)
        refine ⟨W, ρ3, o4, ρ4, p4.rel, e4, ?_⟩
        cases o4 with
        | nx => exact fun σ4 H4 p5 => ⟨ρ4, p34.trans p5, .inl rfl, rfl⟩
        | ct => exact fun σ4 H4 p5 => ⟨ρ4, p34.trans p5, .inr rfl, rfl⟩
        | bk => cases e2; exact fun σ4 H4 p5 => aft1 σ4 H4 (p34.trans p5)
        | rt r => cases e2; exact fun v σ4 H4 p5 r5 => aft1 v σ4 H4 (p34.trans p5) r5
  | slot i ds0 =>
    have em : mforS i g b ds0 0 ρ1 = some (o, ρ') := em
    obtain ⟨q0, ow, bx, hq, hb0, rfl, hB⟩ := jt
    -- the list at a turn
    have cur : ∀ {ρ2 : En} {σ2 : L2.St} {H2 : Hp} {xs : List PyData}, DRel G.K W ρ2 σ2 H2 → lstB ρ2 i = some xs → ow = false → ∃ ys, H2 q0 = some (.lst ys) ∧ RepL G.K (Av W.P ρ2 σ2) H2 ys xs := fun {ρ2 σ2 H2 xs} r2 hx ho => by
      have hx' : ρ2[i]? = some (some (.box false (.lst xs))) := lstB_some hx
      obtain ⟨q1, h1, h2, _, _, h3⟩ := r2.boxOk hx'
      have : q1 = q0 := by
        have e1 := h3 rfl
        rw [hB ho] at e1; cases e1; rfl
      subst this
      exact h2
    have hw : ow = false := by
      have hx : ∃ xs, lstB ρ1 i = some xs := by
        cases ds0 with
        | nil => obtain ⟨xs, h, _⟩ := Option.bind_eq_some_iff.mp (show (lstB ρ1 i).bind _ = _ from em); exact ⟨xs, h⟩
        | cons d ds => obtain ⟨xs, h, _⟩ := Option.bind_eq_some_iff.mp (show (lstB ρ1 i).bind _ = _ from em); exact ⟨xs, h⟩
      obtain ⟨xs, hx⟩ := hx
      rw [lstB_some hx] at hb0; cases hb0; rfl
    refine ⟨fun n m σ2 H2 => ∃ ρ2 ds, PostC G.K W ρ1 σ H1 ρ2 σ2 H2 ∧ m = ds.length ∧ mforS i g b ds n ρ2 = some (o, ρ'), ⟨ds0.length, ρ1, ds0, PostC.refl p1.rel, rfl, em⟩, ?_⟩
    rintro n m σ2 H2 ⟨ρ2, ds, p2, rfl, e2⟩
    cases ds with
    | nil =>
      obtain ⟨xs, hx, e2⟩ := Option.bind_eq_some_iff.mp (show (lstB ρ2 i).bind _ = _ from e2)
      obtain ⟨u, hl, e2⟩ := Option.bind_eq_some_iff.mp e2
      cases e2
      obtain ⟨ys, h1, h2⟩ := cur p2.rel hx hw
      exact .inl ⟨⟨ys, .inl (.inl h1), by rw [h2.length]; exact guardO_dec hl⟩, aft1 σ2 H2 p2⟩
    | cons d0 ds =>
      obtain ⟨xs, hx, e2⟩ := Option.bind_eq_some_iff.mp (show (lstB ρ2 i).bind _ = _ from e2)
      obtain ⟨d, hd, e2⟩ := Option.bind_eq_some_iff.mp e2
      obtain ⟨ρ3, e3, e2⟩ := Option.bind_eq_some_iff.mp e2
      obtain ⟨⟨o4, ρ4⟩, e4, e2⟩ := Option.bind_eq_some_iff.mp e2
      obtain ⟨ys, h1, h2⟩ := cur p2.rel hx hw
      obtain ⟨y, hy1, hy2⟩ := h2.get hd
      refine .inr ⟨⟨ys, y, .inl (.inl h1), hy1⟩, fun σ' H' => ∃ ρ5, PostC G.K W ρ1 σ H1 ρ5 σ' H' ∧ (o4 = .nx ∨ o4 = .ct) ∧ ρ5 = ρ4, fun σ' H' ⟨ρ5, p5, h5, e5⟩ => ⟨ds.length, Nat.lt_succ_self _, ρ5, ds, p5, rfl, ?_⟩, fun x H3 hy => ?_⟩
      · rw [e5]
        rcases h5 with h5 | h5
        · subst h5; exact e2
        · subst h5; exact e2
      · obtain ⟨e5, e6⟩ := hy
        subst e5
        have := e6 ys (.inl (.inl h1))
        rw [hy1] at this; cases this
        refine ⟨W, ρ2, d, ρ3, p2.rel, hy2, e3, fun σ3 p4 _ => ?_⟩
        have p34 := p2.trans p4
        refine ⟨W, ρ3, o4, ρ4, p4.rel, e4, ?_⟩
        cases o4 with
        | nx => exact fun σ4 H4 p5 => ⟨ρ4, p34.trans p5, .inl rfl, rfl⟩
        | ct => exact fun σ4 H4 p5 => ⟨ρ4, p34.trans p5, .inr rfl, rfl⟩
        | bk => cases e2; exact fun σ4 H4 p5 => aft1 σ4 H4 (p34.trans p5)
        | rt r => cases e2; exact fun v σ4 H4 p5 r5 => aft1 v σ4 H4 (p34.trans p5) r5
end L3

namespace L3
open PySem PySem.Spec PyProof.Rows L2

/-! comprehensions -/
def wipeE (ρ : En) : List Nat → En
  | [] => ρ
  | v :: vs => (wipeE ρ vs).set v none
def restE (ρ0 ρ : En) (vs : List Nat) : En := ρ.mapIdx fun i a => if i ∈ vs then ρ0[i]?.join else a
def noBx (ρ : En) (vs : List Nat) : Bool := vs.all fun v => match ρ[v]?.join with
  | some (.box _ _) => false
  | _ => true
/-- one turn, the target's value known -/
def mturn (g : MG) (t : MT) (m : ME) (vs : List Nat) (d : D) (acc : List D) (ρ : En) : Option (List D × En) :=
  (g d (wipeE ρ vs)).bind fun ρ1 => (t ρ1).bind fun x => if x.1 = true then (m x.2).bind fun y => (fzs y.2 [y.1.fz]).bind fun z => match z.1 with
    | [d'] => (guardO (decide (acc.length < sizeLine))).bind fun _ => some (acc ++ [d'], z.2)
    | _ => none
  else some (acc, x.2)
def mlcI (g : MG) (t : MT) (m : ME) (vs : List Nat) : List D → List D → En → Option (List D × En)
  | [], acc, ρ => some (acc, ρ)
  | d :: ds, acc, ρ => (mturn g t m vs d acc ρ).bind fun x => mlcI g t m vs ds x.1 x.2
def mlcS (i : Nat) (g : MG) (t : MT) (m : ME) (vs : List Nat) : List D → Nat → List D → En → Option (List D × En)
  | [], n, acc, ρ => (lstAt ρ i).bind fun xs => (guardO (decide (xs.length ≤ n))).bind fun _ => some (acc, ρ)
  | _ :: ds, n, acc, ρ => (lstAt ρ i).bind fun xs => (xs[n]?).bind fun d => (mturn g t m vs d acc ρ).bind fun x => mlcS i g t m vs ds (n + 1) x.1 x.2
def mlc (mi : MI) (g : MG) (t : MT) (m : ME) (vs : List Nat) : ME := fun ρ => (mi ρ).bind fun x => (guardO (noBx x.2 vs)).bind fun _ => match x.1 with
  | .items ds => (mlcI g t m vs ds [] (wipeE x.2 vs)).bind fun y => some (.new (.lst y.1), restE x.2 y.2 vs)
  | .slot i ds => (guardO (decide (i ∉ vs))).bind fun _ => (mlcS i g t m vs ds 0 [] (wipeE x.2 vs)).bind fun y => some (.new (.lst y.1), restE x.2 y.2 vs)

theorem wipeE_get {ρ : En} : ∀ {vs : List Nat} {j : Nat}, (wipeE ρ vs)[j]? = if j ∈ vs then (ρ[j]?).map (fun _ => none) else ρ[j]?
  | [], j => by simp [wipeE]
  | v :: vs, j => by
    unfold wipeE
    rw [List.getElem?_set]
    have hl : (wipeE ρ vs).length = ρ.length := by
      clear j
      induction vs with
      | nil => rfl
      | cons w ws ih => unfold wipeE; rw [List.length_set, ih]
    by_cases e : v = j
    · subst e
      rw [if_pos rfl, hl]
      by_cases h : v < ρ.length
      · simp [h]
      · simp [h]
    · rw [if_neg e, wipeE_get (vs := vs)]
      have e' : ¬ j = v := fun z => e z.symm
      simp [e']
theorem wipe_get {σ : L2.St} : ∀ {vs : List Nat} {j : Nat}, (wipe σ vs)[j]? = if j ∈ vs then (σ[j]?).map (fun _ => none) else σ[j]?
  | [], j => by simp [wipe]
  | v :: vs, j => by
    unfold wipe
    rw [List.getElem?_set, wipe_length]
    by_cases e : v = j
    · subst e
      rw [if_pos rfl]
      by_cases h : v < σ.length
      · simp [h]
      · simp [h]
    · rw [if_neg e, wipe_get (vs := vs)]
      have e' : ¬ j = v := fun z => e z.symm
      simp [e']
theorem wipeE_len {ρ : En} {vs : List Nat} : (wipeE ρ vs).length = ρ.length := by
  induction vs with
  | nil => rfl
  | cons w ws ih => unfold wipeE; rw [List.length_set, ih]
theorem wipe_same {σ σ' : L2.St} {vs is : List Nat} (hs : ∀ i ∈ is, i ∈ vs) (hl : σ'.length = (wipe σ vs).length) (h : ∀ j, j ∉ is → σ'[j]? = (wipe σ vs)[j]?) : wipe σ' vs = wipe σ vs := by
  refine List.ext_getElem? fun j => ?_
  rw [wipe_get]
  by_cases hj : j ∈ vs
  · rw [if_pos hj]
    by_cases hlt : j < σ'.length
    · have h2 : j < (wipe σ vs).length := by omega
      have h3 : j < σ.length := by rwa [wipe_length] at h2
      rw [wipe_get, if_pos hj]
      simp [hlt, h3]
    · have h3 : ¬ j < σ.length := by rw [hl, wipe_length] at hlt; exact hlt
      rw [wipe_get, if_pos hj]
      simp [hlt, h3]
  · rw [if_neg hj]
    exact h j fun z => hj (hs j z)
section
variable {K : PySem.W.Frag} {W : Wd} {ρ ρ' : En} {σ : L2.St} {H H' : Hp} {vs : List Nat}
theorem wipeE_some {j : Nat} {a : A} (h : (wipeE ρ vs)[j]? = some (some a)) : j ∉ vs ∧ ρ[j]? = some (some a) := by
  rw [wipeE_get] at h
  split at h
  · obtain ⟨x, _, h2⟩ := Option.map_eq_some_iff.mp h
    cases h2
  · rename_i n; exact ⟨n, h⟩
/-- slots are forgotten -/
theorem DRel.wipe (h : DRel K W ρ σ H) (vs : List Nat) : DRel K W (wipeE ρ vs) (L2.wipe σ vs) H ∧ ∀ a, BoxAt (wipeE ρ vs) (L2.wipe σ vs) a → BoxAt ρ σ a := by
  have ws : ∀ j, j ∉ vs → (L2.wipe σ vs)[j]? = σ[j]? := fun j hj => by rw [wipe_get, if_neg hj]
  have sub : ∀ a, BoxAt (wipeE ρ vs) (L2.wipe σ vs) a → BoxAt ρ σ a := fun a ⟨j, o, b, e1, e2⟩ => by
    obtain ⟨n, e1⟩ := wipeE_some e1
    rw [ws j n] at e2
    exact ⟨j, o, b, e1, e2⟩
  have ev : Evo (Av W.P ρ σ) H (Av W.P (wipeE ρ vs) (L2.wipe σ vs)) H := mono_av fun a z => z.imp id (sub a)
  refine ⟨⟨by rw [wipeE_len, wipe_length]; exact h.len, fun j a e1 => ?_, fun j k o b o' b' q e1 e2 e3 e4 => ?_, h.prot, fun q z y => h.pdis q z (sub q y), h.keep, h.there⟩, sub⟩
  · obtain ⟨n, e1⟩ := wipeE_some e1
    obtain ⟨v, hv, r⟩ := h.sl j a e1
    exact ⟨v, by rw [ws j n]; exact hv, r.evo ev fun _ _ _ _ z => z⟩
  · obtain ⟨n, e1⟩ := wipeE_some e1
    obtain ⟨n2, e2⟩ := wipeE_some e2
    rw [ws j n] at e3; rw [ws k n2] at e4
    exact h.dis j k _ _ _ _ q e1 e2 e3 e4
/-- a protected object is written -/
theorem DRel.wr (h : DRel K W ρ σ H) {q : Addr} {o : HO} (hp : W.P q) (h0 : W.H0 q = none) : DRel K W ρ σ (upd H q o) := by
  have ev : Evo (Av W.P ρ σ) H (Av W.P ρ σ) (upd H q o) := ⟨fun a u e n => by rw [upd_ne (fun z => n (.inl (by rw [z]; exact hp)))]; exact e, fun a z => .inl z⟩
  refine ⟨h.len, fun j a e1 => ?_, h.dis, fun a z => ?_, h.pdis, fun a u z n => ?_, fun a u z => ?_⟩
  · obtain ⟨v, hv, r⟩ := h.sl j a e1
    refine ⟨v, hv, r.evo ev fun q' e2 e3 u e4 => ?_⟩
    have nq : q' ≠ q := fun z => by
      subst z; subst e2
      cases a with
      | dat d => cases e3
      | box ow b => exact h.pdis _ hp ⟨j, ow, b, e1, hv⟩
    rw [upd_ne nq]; exact e4
  · by_cases e : a = q
    · subst e; exact ⟨_, upd_same⟩
    · obtain ⟨u, z⟩ := h.prot a z; exact ⟨u, by rw [upd_ne e]; exact z⟩
  · have e : a ≠ q := fun z' => by subst z'; rw [h0] at z; cases z
    rw [upd_ne e]; exact h.keep a u z n
  · have e : a ≠ q := fun z' => by subst z'; rw [h0] at z; cases z
    obtain ⟨u', z⟩ := h.there a u z
    exact ⟨u', by rw [upd_ne e]; exact z⟩
end
abbrev Wd.D (W : Wd) (q : Addr) : Wd := W.pl fun a => V.ref q = V.ref a
/-- the state of a comprehension's block between two turns; D: the new list -/
structure Chn (K : PySem.W.Frag) (W : Wd) (q : Addr) (σ : L2.St) (ρ : En) (H : Hp) (ρ' : En) (H' : Hp) (acc : List D) : Prop where
  rel : DRel K (W.D q) ρ' σ H'
  ext : ∀ a o, H a = some o → ¬ BoxAt ρ σ a → a ≠ q → H' a = some o
  thr : ∀ a o, H a = some o → ∃ o', H' a = some o'
  sub : ∀ a, BoxAt ρ' σ a → BoxAt ρ σ a
  stay : ∀ (i : Nat) (a : A), ρ[i]? = some (some a) → ∃ a', ρ'[i]? = some (some a')
  lst : ∃ xs, H' q = some (.lst xs) ∧ RepL K (Av (W.D q).P ρ' σ) H' xs acc
section
variable {G : GC} {S : SC}
def SC.blk (S : SC) (scope : Scope) : SC := ⟨S.N, relS scope S.sc, fun x => scope.names.lookup x == some .cell, S.k⟩
theorem CxOk.blk {X : Cx} (c : CxOk G S X) (scope : Scope) (s : Shared) (H : Hp) (C : Addr) (cl : List (Str × Addr)) (fp : List Addr) : CxOk G (S.blk scope) (X.blk s H scope (compEnvC scope cl C X.env) fp) where
  prog := c.prog
  w := c.w
  K := c.K
  mg := c.mg
  base := c.base
  N := c.N
  sc := by rw [show (S.blk scope).sc = relS scope S.sc from rfl, ← c.sc]; rfl
  fn := rfl
  calm := c.calm
  room := c.room
  gd := c.gd
  nd := c.nd
  xe := rfl
def DTs (G : GC) (S : SC) (es : List Expr) (m : MT) : Prop := ∀ X, CxOk G S X → PTs X es (rdT G.K m)
theorem PTs.weak {X : Cx} {e : List Expr} {t t' : TT} (h : PTs X e t) (w : ∀ σ H Q, t' σ H Q → t σ H Q) : PTs X e t' := ⟨fun p s σ H Q I q => h.run p s σ H Q I (w _ _ _ q)⟩
def myes : MT := fun ρ => some (true, ρ)
theorem dts_nil : DTs G S [] myes := fun X c => PTs.weak pts_nil fun σ H Q ⟨W, ρ, r, ρ', rel, em, q⟩ => by
  cases em
  exact q H (PostX.refl rel)
theorem dts_one {c : Expr} {m : MT} (h : DT G S c m) : DTs G S [c] m := fun X cx => pts_one (h X cx)
theorem stay_wipe {ρ ρ2 : En} {vs : List Nat} (hs : ∀ (i : Nat) (a : A), (wipeE ρ vs)[i]? = some (some a) → ∃ a', ρ2[i]? = some (some a')) : ∀ (i : Nat) (a : A), (wipeE ρ vs)[i]? = some (some a) → ∃ a', (wipeE ρ2 vs)[i]? = some (some a') := fun i a e => by
  obtain ⟨n, _⟩ := wipeE_some e
  obtain ⟨a', h⟩ := hs i a e
  exact ⟨a', by rw [wipeE_get, if_neg n]; exact h⟩
/-- a turn -/
theorem turn_ok {K : PySem.W.Frag} {W : Wd} {q : Addr} {σ : L2.St} {ρ0 ρb ρc : En} {H0 Hb : Hp} {acc acc' : List D} {is vs : List Nat} {g : MG} {t : MT} {m : ME} {d : D} {x : V} {Nx : Hp → Prop} (hs : ∀ i ∈ is, i ∈ vs) (stay1 : ∀ {ρ1 : En}, g d (wipeE ρb vs) = some ρ1 → ∀ (i : Nat) (a : A), i ∉ is → (wipeE ρb vs)[i]? = some (some a) → ∃ a', ρ1[i]? = some (some a')) (h0 : W.H0 q = none)
    (c : Chn K W q (wipe σ vs) (wipeE ρ0 vs) H0 (wipeE ρb vs) Hb acc) (rx : Rep K (Av (W.D q).P (wipeE ρb vs) (wipe σ vs)) Hb x d) (e : mturn g t m vs d acc ρb = some (acc', ρc))
    (nx : ∀ H', Chn K W q (wipe σ vs) (wipeE ρ0 vs) H0 (wipeE ρc vs) H' acc' → Nx H') :
    rdG K is g x (wipe σ vs) Hb fun σ2 H2 => wipe σ2 vs = wipe σ vs ∧ rdT K t σ2 H2 fun b H3 => if b = true then rd K m σ2 H3 fun y H4 => ∃ acc, H4 q = some (.lst acc) ∧ acc.length < sizeLine ∧ Nx (upd H4 q (.lst (acc ++ [y]))) else Nx H3 := by
  unfold mturn at e
  obtain ⟨ρ1, e1, e⟩ := Option.bind_eq_some_iff.mp e
  obtain ⟨⟨b, ρ2⟩, e2, e⟩ := Option.bind_eq_some_iff.mp e
  refine ⟨W.D q, wipeE ρb vs, d, ρ1, c.rel, rx, e1, fun σ2 p1 ch => ?_⟩
  have hw : wipe σ2 vs = wipe σ vs := wipe_same hs ch.1 ch.2
  -- slots outside of vs are the same in σ2
  have hout : ∀ j, j ∉ vs → σ2[j]? = (wipe σ vs)[j]? := fun j hj => ch.2 j fun z => hj (hs j z)
  refine ⟨hw, W.D q, ρ1, b, ρ2, p1.rel, e2, fun H3 p2 => ?_⟩
  have sb1 : ∀ a, BoxAt ρ1 σ2 a → BoxAt (wipeE ρb vs) (wipe σ vs) a := fun a z => by
    rcases p1.new a z with y | y
    · exact y
    · obtain ⟨o, y'⟩ := p1.rel.boxThere z
      rw [y] at y'; cases y'
  have st1 : ∀ (i : Nat) (a : A), i ∉ vs → (wipeE ρb vs)[i]? = some (some a) → ∃ a', ρ1[i]? = some (some a') := fun i a n e => stay1 e1 i a (fun z => n (hs i z)) e
  -- a step of the block, wiped
  have fin : ∀ {ρ3 : En} {H4 : Hp} {accn : List PyData}, PostX K (W.D q) ρ1 σ2 Hb ρ3 H4 → Chn K W q (wipe σ vs) (wipeE ρ0 vs) H0 (wipeE ρ3 vs) H4 acc ∧ Evo (Av (W.D q).P ρ3 σ2) H4 (Av (W.D q).P (wipeE ρ3 vs) (wipe σ vs)) H4 := fun {ρ3 H4 accn} p => by
    obtain ⟨r1, s1⟩ := p.rel.wipe vs
    rw [hw] at r1 s1
    have ev : Evo (Av (W.D q).P (wipeE ρb vs) (wipe σ vs)) Hb (Av (W.D q).P (wipeE ρ3 vs) (wipe σ vs)) H4 := ⟨fun a o h n => p.ext a o h fun z => n (.inr (sb1 a z)), fun a z => .inl (z.imp id fun z => sb1 a (p.sub a (s1 a z)))⟩
    refine ⟨⟨r1, fun a o h n nq => p.ext a o (c.ext a o h n nq) fun z => n (c.sub a (sb1 a z)), fun a o h => ?_, fun a z => c.sub a (sb1 a (p.sub a (s1 a z))), fun i a h => ?_, ?_⟩, mono_av fun a z => z.imp id (s1 a)⟩
    · obtain ⟨o', h'⟩ := c.thr a o h
      exact p.thr a o' h'
    · obtain ⟨a1, h1⟩ := c.stay i a h
      obtain ⟨n, _⟩ := wipeE_some h
      obtain ⟨a2, h2⟩ := st1 i a1 n h1
      obtain ⟨a3, h3⟩ := p.stay i a2 h2
      exact ⟨a3, by rw [wipeE_get, if_neg n]; exact h3⟩
    · obtain ⟨xs, l1, l2⟩ := c.lst
      exact ⟨xs, p.ext q _ l1 fun z => c.rel.pdis q (.inr rfl) (sb1 q z), RepL.evo ev _ _ l2⟩
  cases b with
  | false =>
    rw [if_neg Bool.false_ne_true] at e
    cases e
    exact iteF (nx H3 (fin (accn := []) p2).1)
  | true =>
    rw [if_pos rfl] at e
    refine iteT ?_
    obtain ⟨⟨r, ρ3⟩, e3, e⟩ := Option.bind_eq_some_iff.mp e
    obtain ⟨⟨ds, ρ4⟩, e4, e⟩ := Option.bind_eq_some_iff.mp e
    refine ⟨W.D q, ρ2, r, ρ3, p2.rel, e3, fun y H4 p3 => ?_⟩
    have f3 : FRels K (Av (W.D q).P ρ3 σ2) ρ3 σ2 H4 [r.fz] [y] := .cons (p3.res.fz p3.toPostX p2.rel) .nil
    obtain ⟨p4, rl⟩ := fzs_ok p3.rel f3 e4
    cases rl with
    | cons r0 tl =>
      cases tl
      obtain ⟨u, e5, e⟩ := Option.bind_eq_some_iff.mp e
      cases e
      obtain ⟨cn, evw⟩ := fin (accn := []) (p2.trans (p3.toPostX.trans p4))
      obtain ⟨xs, l1, l2⟩ := cn.lst
      refine ⟨xs, l1, by rw [l2.length]; exact guardO_dec e5, nx _ ?_⟩
      have hq0 : (W.D q).H0 q = none := h0
      have evq : Evo (Av (W.D q).P (wipeE ρ4 vs) (wipe σ vs)) H4 (Av (W.D q).P (wipeE ρ4 vs) (wipe σ vs)) (upd H4 q (.lst (xs ++ [y]))) := ⟨fun a u h n => by rw [upd_ne (fun z => n (.inl (.inr (by rw [z]))))]; exact h, fun a z => .inl z⟩
      refine ⟨cn.rel.wr (.inr rfl) hq0, fun a o h n nq => by rw [upd_ne nq]; exact cn.ext a o h n nq, fun a o h => ?_, cn.sub, cn.stay, xs ++ [y], upd_same, RepL.evo evq _ _ (l2.snoc (Rep.evo evw _ _ r0))⟩
      by_cases ea : a = q
      · subst ea; exact ⟨_, upd_same⟩
      · obtain ⟨o', h'⟩ := cn.thr a o h
        exact ⟨o', by rw [upd_ne ea]; exact h'⟩

def GStay (g : MG) (is : List Nat) : Prop := ∀ (d : PyData) (ρ ρ1 : En), g d ρ = some ρ1 → ∀ (i : Nat) (a : A), i ∉ is → ρ[i]? = some (some a) → ∃ a', ρ1[i]? = some (some a')
theorem gnm_stay (i : Nat) : GStay (gnm i) [i] := fun d ρ ρ1 h j a n e => by
  obtain ⟨u, _, h2⟩ := Option.map_eq_some_iff.mp (show (guardO (notBor ρ i)).map _ = _ from h)
  subst h2
  exact ⟨a, by rw [List.getElem?_set_ne fun z => n (by rw [z]; exact List.mem_singleton_self _)]; exact e⟩
theorem gset_stay : ∀ {is : List Nat} {ds : List PyData} {ρ ρ1 : En}, gset is ds ρ = some ρ1 → ∀ (i : Nat) (a : A), i ∉ is → ρ[i]? = some (some a) → ∃ a', ρ1[i]? = some (some a')
  | [], [], _, _, h, i, a, _, e => by cases h; exact ⟨a, e⟩
  | j :: is, d :: ds, ρ, _, h, i, a, n, e => by
    obtain ⟨u, h1, h2⟩ := Option.bind_eq_some_iff.mp (show (guardO (notBor _ j)).bind _ = _ from h)
    exact gset_stay h2 i a (fun z => n (List.mem_cons_of_mem _ z)) (by rw [List.getElem?_set_ne fun z => n (by rw [z]; exact List.mem_cons_self)]; exact e)
  | [], _ :: _, _, _, h, _, _, _, _ => by simp [gset] at h
  | _ :: _, [], _, _, h, _, _, _, _ => by simp [gset] at h
theorem gtup_stay (is : List Nat) : GStay (gtup is) is := fun d ρ ρ1 h => by
  unfold gtup at h
  split at h
  · exact gset_stay h
  · cases h
theorem wipeE_idem {ρ : En} {vs : List Nat} : wipeE (wipeE ρ vs) vs = wipeE ρ vs := by
  refine List.ext_getElem? fun j => ?_
  rw [wipeE_get]
  by_cases hj : j ∈ vs
  · rw [if_pos hj, wipeE_get, if_pos hj]
    cases ρ[j]? <;> rfl
  · rw [if_neg hj]
theorem restE_get {ρ0 ρ : En} {vs : List Nat} {j : Nat} : (restE ρ0 ρ vs)[j]? = (ρ[j]?).map fun a => if j ∈ vs then ρ0[j]?.join else a := by
  unfold restE
  rw [List.getElem?_mapIdx]
theorem noBx_not {ρ : En} {vs : List Nat} (h : noBx ρ vs = true) {j : Nat} (hj : j ∈ vs) (o : Bool) (b : Bx) : ρ[j]? ≠ some (some (.box o b)) := fun e => by
  have := List.all_eq_true.mp h j hj
  rw [show ρ[j]?.join = some (A.box o b) by rw [e]; rfl] at this
  cases this
/-- the block's end -/
theorem chn_end {K : PySem.W.Frag} {W : Wd} {ρ ρ1 ρf : En} {σ : L2.St} {H H1 Hf : Hp} {vs : List Nat} {q : Addr} {acc : List D} (p1 : PostX K W ρ σ H ρ1 H1) (hD : H1 q = none) (nb : noBx ρ1 vs = true)
    (c : Chn K W q (wipe σ vs) (wipeE ρ1 vs) H1 (wipeE ρf vs) Hf acc) : PostE K W ρ σ H (.new (.lst acc)) (restE ρ1 ρf vs) (.ref q) Hf := by
  have hln : ρf.length = ρ1.length := by
    have h1 := c.rel.len
    rw [wipeE_len, wipe_length] at h1
    rw [h1, p1.rel.len]
  have rget : ∀ {j : Nat} {a : A}, (restE ρ1 ρf vs)[j]? = some (some a) → (j ∈ vs ∧ ρ1[j]? = some (some a)) ∨ (j ∉ vs ∧ (wipeE ρf vs)[j]? = some (some a)) := fun {j a} e => by
    rw [restE_get] at e
    obtain ⟨x, e1, e2⟩ := Option.map_eq_some_iff.mp e
    by_cases hj : j ∈ vs
    · rw [if_pos hj] at e2
      exact .inl ⟨hj, Option.join_eq_some_iff.mp e2⟩
    · rw [if_neg hj] at e2
      subst e2
      exact .inr ⟨hj, by rw [wipeE_get, if_neg hj]; exact e1⟩
  have wσ : ∀ {j : Nat}, j ∉ vs → (wipe σ vs)[j]? = σ[j]? := fun {j} hj => by rw [wipe_get, if_neg hj]
  have sub0 : ∀ a, BoxAt (wipeE ρ1 vs) (wipe σ vs) a → BoxAt ρ1 σ a := (p1.rel.wipe vs).2
  have subr : ∀ a, BoxAt (restE ρ1 ρf vs) σ a → BoxAt (wipeE ρf vs) (wipe σ vs) a := fun a ⟨j, o, b, e1, e2⟩ => by
    rcases rget e1 with ⟨hj, z⟩ | ⟨hj, z⟩
    · exact (noBx_not nb hj o b z).elim
    · exact ⟨j, o, b, z, by rw [wσ hj]; exact e2⟩
  have sub : ∀ a, BoxAt (restE ρ1 ρf vs) σ a → BoxAt ρ1 σ a := fun a z => sub0 a (c.sub a (subr a z))
  have ext : ∀ a o, H1 a = some o → ¬ BoxAt ρ1 σ a → Hf a = some o := fun a o h n => c.ext a o h (fun z => n (sub0 a z)) fun z => by rw [z, hD] at h; cases h
  have ev1 : Evo (Av W.P ρ1 σ) H1 (Av (W.D q).P (restE ρ1 ρf vs) σ) Hf := ⟨fun a o h n => ext a o h fun z => n (.inr z), fun a z => by
    rcases z with (z | z) | z
    · exact .inl (.inl z)
    · refine .inr ?_
      cases z; exact hD
    · exact .inl (.inr (sub a z))⟩
  have ev2 : Evo (Av (W.D q).P (wipeE ρf vs) (wipe σ vs)) Hf (Av (W.D q).P (restE ρ1 ρf vs) σ) Hf := mono_av fun a z => z.imp id (subr a)
  have r : DRel K (W.D q) (restE ρ1 ρf vs) σ Hf := by
    refine ⟨by unfold restE; rw [List.length_mapIdx, hln]; exact p1.rel.len, fun j a e1 => ?_, fun j k o b o' b' q' e1 e2 e3 e4 => ?_, c.rel.prot, fun a z y => c.rel.pdis a z (subr a y), c.rel.keep, c.rel.there⟩
    · rcases rget e1 with ⟨hj, z⟩ | ⟨hj, z⟩
      · cases a with
        | box o b => exact (noBx_not nb hj o b z).elim
        | dat d =>
          obtain ⟨v, hv, rr⟩ := p1.rel.sl j _ z
          exact ⟨v, hv, Rep.evo ev1 _ _ rr⟩
      · obtain ⟨v, hv, rr⟩ := c.rel.sl j _ z
        rw [wσ hj] at hv
        exact ⟨v, hv, rr.evo ev2 fun _ _ _ _ z => z⟩
    · rcases rget e1 with ⟨hj, z⟩ | ⟨hj, z⟩
      · exact (noBx_not nb hj o b z).elim
      · rcases rget e2 with ⟨hk, z2⟩ | ⟨hk, z2⟩
        · exact (noBx_not nb hk o' b' z2).elim
        · exact c.rel.dis j k _ _ _ _ q' z z2 (by rw [wσ hj]; exact e3) (by rw [wσ hk]; exact e4)
  have px : PostX K W ρ1 σ H1 (restE ρ1 ρf vs) Hf := by
    refine ⟨⟨r.unpl, ext, c.thr, fun a z => .inl (sub a z)⟩, fun i a h => ?_, sub⟩
    have hi : i < ρf.length := by rw [hln]; exact (List.getElem?_eq_some_iff.mp h).1
    rw [restE_get]
    by_cases hj : i ∈ vs
    · refine ⟨a, ?_⟩
      rw [List.getElem?_eq_getElem hi, Option.map_some, if_pos hj, h]
      rfl
    · obtain ⟨a', h'⟩ := c.stay i a (by rw [wipeE_get, if_neg hj]; exact h)
      rw [wipeE_get, if_neg hj] at h'
      exact ⟨a', by rw [h', Option.map_some, if_neg hj]⟩
  refine ⟨p1.trans px, ⟨q, rfl, p1.free hD, ?_⟩, r⟩
  obtain ⟨xs, l1, l2⟩ := c.lst
  refine ⟨xs, l1, RepL.evo (mono_av fun a z => ?_) _ _ l2⟩
  rcases z with z | z
  · exact z.elim (fun z => .inl (.inl z)) fun z => .inr (subr a z)
  · exact .inl (.inr (by rw [z]))
theorem chn_start {K : PySem.W.Frag} {W : Wd} {ρ ρ1 : En} {σ : L2.St} {H H1 : Hp} {vs : List Nat} {q : Addr} (p1 : PostX K W ρ σ H ρ1 H1) (hD : H1 q = none) :
    Chn K W q (wipe σ vs) (wipeE ρ1 vs) H1 (wipeE (wipeE ρ1 vs) vs) (upd H1 q (.lst [])) [] := by
  rw [wipeE_idem]
  refine ⟨((p1.rel.wipe vs).1).grow (fresh_upd hD) (fun a z => by cases z; exact hD) (fun a z => by cases z; exact ⟨_, upd_same⟩), fun a o h n nq => fresh_upd hD a o h, fun a o h => ⟨o, fresh_upd hD a o h⟩, fun a z => z, fun i a h => ⟨a, h⟩, [], upd_same, .nil⟩
theorem lcrd {K : PySem.W.Frag} {mi : MI} {g : MG} {is vs : List Nat} {t : MT} {m : ME} (hsub : ∀ i ∈ is, i ∈ vs) (st : GStay g is) (σ : L2.St) (H : Hp) (Q : VK) (h : rd K (mlc mi g t m vs) σ H Q) : tLc (rdI K mi) (rdG K is g) (rdT K t) (rd K m) vs σ H Q := by
  obtain ⟨W, ρ, r, ρ', rel, em, q⟩ := h
  unfold mlc at em
  obtain ⟨⟨it, ρ1⟩, e1, em⟩ := Option.bind_eq_some_iff.mp em
  obtain ⟨u, e2, em⟩ := Option.bind_eq_some_iff.mp em
  refine ⟨W, ρ, it, ρ1, rel, e1, fun J H1 p1 jt q0 hD => ?_⟩
  have h0 : W.H0 q0 = none := by
    cases z : W.H0 q0 with
    | none => rfl
    | some o => obtain ⟨o', z'⟩ := p1.rel.there q0 o z; rw [hD] at z'; cases z'
  have sub0 : ∀ a, BoxAt (wipeE ρ1 vs) (wipe σ vs) a → BoxAt ρ1 σ a := (p1.rel.wipe vs).2
  cases it with
  | items ds =>
    obtain ⟨⟨acc, ρf⟩, e3, em⟩ := Option.bind_eq_some_iff.mp em
    cases em
    refine ⟨fun i mm Hc => ∃ ρb acc', Chn K W q0 (wipe σ vs) (wipeE ρ1 vs) H1 (wipeE ρb vs) Hc acc' ∧ mm = (ds.drop i).length ∧ i ≤ ds.length ∧ mlcI g t m vs (ds.drop i) acc' ρb = some (acc, ρf), ⟨ds.length, wipeE ρ1 vs, [], chn_start p1 hD, rfl, Nat.zero_le _, e3⟩, ?_⟩
    rintro i mm Hc ⟨ρb, acc', c, rfl, hle, e4⟩
    have ev : Evo (Av W.P ρ1 σ) H1 (Av (W.D q0).P (wipeE ρb vs) (wipe σ vs)) Hc := ⟨fun a o h n => c.ext a o h (fun z => n (.inr (sub0 a z))) (fun z => by rw [z, hD] at h; cases h), fun a z => by
      rcases z with (z | z) | z
      · exact .inl (.inl z)
      · refine .inr ?_
        cases z; exact hD
      · exact .inl (.inr (sub0 a (c.sub a z)))⟩
    obtain ⟨j1, j2⟩ := jt _ _ ev c.rel.trk
    cases hd : ds.drop i with
    | nil =>
      rw [hd] at e4
      cases e4
      exact .inl ⟨j2 i (List.drop_eq_nil_iff.mp hd), q _ Hc (chn_end p1 hD (guardO_some e2) c)⟩
    | cons d rest =>
      rw [hd] at e4
      have hi' : ds[i]? = some d := by
        have := congrArg List.head? hd
        rwa [List.head?_drop] at this
      have hrest : ds.drop (i + 1) = rest := by
        rw [← List.drop_drop (i := 1) (j := i), hd]; rfl
      have hlt : i < ds.length := (List.getElem?_eq_some_iff.mp hi').1
      obtain ⟨go, yl⟩ := j1 i d hi'
      obtain ⟨⟨acc2, ρ2⟩, e5, e4⟩ := Option.bind_eq_some_iff.mp (show (mturn g t m vs d acc' ρb).bind _ = _ from e4)
      refine .inr ⟨go, fun H' => Chn K W q0 (wipe σ vs) (wipeE ρ1 vs) H1 (wipeE ρ2 vs) H' acc2, fun H' c' => ⟨(ds.drop (i + 1)).length, by rw [hrest]; exact Nat.lt_succ_self _, ρ2, acc2, c', rfl, hlt, by rw [hrest]; exact e4⟩, fun x H3 hy => ?_⟩
      obtain ⟨s3, r3⟩ := yl x H3 hy
      have c3 : Chn K W q0 (wipe σ vs) (wipeE ρ1 vs) H1 (wipeE ρb vs) H3 acc' := by
        have p := c.rel.same s3
        refine ⟨p.rel, fun a o h n nq => s3 _ _ (c.ext a o h n nq), fun a o h => ?_, c.sub, c.stay, ?_⟩
        · obtain ⟨o', h'⟩ := c.thr a o h; exact ⟨o', s3 _ _ h'⟩
        · obtain ⟨xs, l1, l2⟩ := c.lst
          exact ⟨xs, s3 _ _ l1, RepL.evo (p.evo c.rel) _ _ l2⟩
      exact turn_ok hsub (fun hh => st _ _ _ hh) h0 c3 r3 e5 fun H' c' => c'
  | slot i0 ds0 =>
    obtain ⟨u2, e6, em⟩ := Option.bind_eq_some_iff.mp em
    obtain ⟨⟨acc, ρf⟩, e3, em⟩ := Option.bind_eq_some_iff.mp em
    cases em
    obtain ⟨qs, ow, bx, hq, hb0, rfl, hB⟩ := jt
    have hi0 : i0 ∉ vs := guardO_dec e6
    have cur : ∀ {ρb : En} {Hc : Hp} {acc' xs : List PyData}, Chn K W q0 (wipe σ vs) (wipeE ρ1 vs) H1 (wipeE ρb vs) Hc acc' → lstAt ρb i0 = some xs → ∃ ys, Hc qs = some (.lst ys) ∧ RepL K (Av (W.D q0).P (wipeE ρb vs) (wipe σ vs)) Hc ys xs := fun {ρb Hc acc' xs} c hx => by
      obtain ⟨o, hx'⟩ := lstAt_some hx
      obtain ⟨q1, h1, h2, _⟩ := c.rel.boxOk (i := i0) (by rw [wipeE_get, if_neg hi0]; exact hx')
      rw [wipe_get, if_neg hi0, hq] at h1
      cases h1
      exact h2
    refine ⟨fun i mm Hc => ∃ ρb acc' ds, Chn K W q0 (wipe σ vs) (wipeE ρ1 vs) H1 (wipeE ρb vs) Hc acc' ∧ mm = ds.length ∧ mlcS i0 g t m vs ds i acc' ρb = some (acc, ρf), ⟨ds0.length, wipeE ρ1 vs, [], ds0, chn_start p1 hD, rfl, e3⟩, ?_⟩
    rintro i mm Hc ⟨ρb, acc', ds, c, rfl, e4⟩
    cases ds with
    | nil =>
      obtain ⟨xs, hx, e4⟩ := Option.bind_eq_some_iff.mp (show (lstAt ρb i0).bind _ = _ from e4)
      obtain ⟨u3, hl, e4⟩ := Option.bind_eq_some_iff.mp e4
      cases e4
      obtain ⟨ys, h1, h2⟩ := cur c hx
      exact .inl ⟨⟨ys, .inl (.inl h1), by rw [h2.length]; exact guardO_dec hl⟩, q _ Hc (chn_end p1 hD (guardO_some e2) c)⟩
    | cons d0 ds =>
      obtain ⟨xs, hx, e4⟩ := Option.bind_eq_some_iff.mp (show (lstAt ρb i0).bind _ = _ from e4)
      obtain ⟨d, hd, e4⟩ := Option.bind_eq_some_iff.mp e4
      obtain ⟨⟨acc2, ρ2⟩, e5, e4⟩ := Option.bind_eq_some_iff.mp e4
      obtain ⟨ys, h1, h2⟩ := cur c hx
      obtain ⟨y, hy1, hy2⟩ := h2.get hd
      refine .inr ⟨⟨ys, y, .inl (.inl h1), hy1⟩, fun H' => Chn K W q0 (wipe σ vs) (wipeE ρ1 vs) H1 (wipeE ρ2 vs) H' acc2, fun H' c' => ⟨ds.length, Nat.lt_succ_self _, ρ2, acc2, ds, c', rfl, e4⟩, fun x H3 hy => ?_⟩
      obtain ⟨e7, e8⟩ := hy
      subst e7
      have := e8 ys (.inl (.inl h1))
      rw [hy1] at this; cases this
      exact turn_ok hsub (fun hh => st _ _ _ hh) h0 c hy2 e5 fun H' c' => c'
theorem de_lc {elt tg iter : Expr} {ifs : List Expr} {scope : Scope} {own : List (Str × Nat)} {pos : Pos} {mi : MI} {g : MG} {is : List Nat} {t : MT} {m : ME} (hi : DI G S tg iter mi) (ok : BlkOk S.N S.sc scope own)
    (hg : DG G (S.blk scope) tg is g) (ht : DTs G (S.blk scope) ifs t) (he : DE G (S.blk scope) elt m) (hsub : ∀ i ∈ is, i ∈ own.map (·.2)) (st : GStay g is) (hs : ∀ (env : PySem.Env) x, foldedSetIterable iter env x = pure x) :
    DE G S (.ListComp elt [⟨tg, iter, ifs, 0⟩] scope pos) (mlc mi g t m (own.map (·.2))) := by
  intro X c
  refine PE.weak (pe_lc c.calm c.nd (hi X c) (by rw [c.N, c.sc]; exact ok) (fun s H C cl fp => hg _ (c.blk scope s H C cl fp)) (fun s H C cl fp => ht _ (c.blk scope s H C cl fp)) (fun s H C cl fp => he _ (c.blk scope s H C cl fp)) (hs _)) ?_
  exact lcrd hsub st
end
end L3

namespace L3
open PySem PySem.Spec PyProof.Rows L2

/-! dicts as lists of pairs -/
def valKD (kvs : List (Key × D)) (k : Key) : Option D := (kvs.find? fun kv => decide (kv.1 = k)).map (·.2)
def putKD (kvs : List (Key × D)) (k : Key) (v : D) : List (Key × D) :=
  if (kvs.any fun kv => decide (kv.1 = k)) = true then kvs.map (fun kv => if kv.1 = k then (kv.1, v) else kv) else kvs ++ [(k, v)]
def keyD : D → Option Key
  | .int i => some (.inl i)
  | .str x => some (.inr x)
  | _ => none
theorem kD_inj {a b : Key} (h : kD a = kD b) : a = b := by
  cases a <;> cases b <;> cases h <;> rfl
theorem keyD_some {d : D} {k : Key} (h : keyD d = some k) : d = kD k := by
  cases d <;> first | (cases h; rfl) | cases h
theorem keyD_kD (k : Key) : keyD (kD k) = some k := by cases k <;> rfl
section
variable {K : PySem.W.Frag} {N : Addr → Prop} {H : Hp}
theorem RepK.put {ks : List (Key × V)} {kvs : List (Key × D)} {v : V} {d : D} (k : Key) (h : RepK K N H ks (dkv kvs)) (r : Rep K N H v d) : RepK K N H (putK ks k v) (dkv (putKD kvs k d)) := by
  have ha : ∀ {ks : List (Key × V)} {kvs : List (Key × D)}, RepK K N H ks (dkv kvs) → (ks.any fun kv => decide (kv.1 = k)) = (kvs.any fun kv => decide (kv.1 = k)) := by
    intro ks kvs
    induction kvs generalizing ks with
    | nil => intro h; cases h; rfl
    | cons p r ih =>
      intro h
      obtain ⟨pk, pd⟩ := p
      generalize he : dkv ((pk, pd) :: r) = ds at h
      cases h with
      | nil => cases he
      | cons r1 t =>
        have he' : (kD pk, pd) :: dkv r = _ := he
        injection he' with h1 h2
        injection h1 with h3 h4
        have := kD_inj h3
        subst this
        subst h2
        simp only [List.any_cons, ih t]
  have hm : ∀ {ks : List (Key × V)} {kvs : List (Key × D)}, RepK K N H ks (dkv kvs) → RepK K N H (ks.map fun kv => if kv.1 = k then (kv.1, v) else kv) (dkv (kvs.map fun kv => if kv.1 = k then (kv.1, d) else kv)) := by
    intro ks kvs
    induction kvs generalizing ks with
    | nil => intro h; cases h; exact .nil
    | cons p r' ih =>
      intro h
      obtain ⟨pk, pd⟩ := p
      generalize he : dkv ((pk, pd) :: r') = ds at h
      cases h with
      | nil => cases he
      | cons r1 t =>
        have he' : (kD pk, pd) :: dkv r' = _ := he
        injection he' with h1 h2
        injection h1 with h3 h4
        have := kD_inj h3
        subst this
        subst h2
        subst h4
        by_cases e : pk = k
        · simp only [List.map_cons, if_pos e]
          exact .cons r (ih t)
        · simp only [List.map_cons, if_neg e]
          exact .cons r1 (ih t)
  have hs : ∀ {ks : List (Key × V)} {kvs : List (Key × D)}, RepK K N H ks (dkv kvs) → RepK K N H (ks ++ [(k, v)]) (dkv (kvs ++ [(k, d)])) := by
    intro ks kvs
    induction kvs generalizing ks with
    | nil => intro h; cases h; exact .cons r .nil
    | cons p r' ih =>
      intro h
      obtain ⟨pk, pd⟩ := p
      generalize he : dkv ((pk, pd) :: r') = ds at h
      cases h with
      | nil => cases he
      | cons r1 t =>
        have he' : (kD pk, pd) :: dkv r' = _ := he
        injection he' with h1 h2
        injection h1 with h3 h4
        have := kD_inj h3
        subst this
        subst h2
        subst h4
        exact .cons r1 (ih t)
  unfold putK putKD
  rw [ha h]
  split
  · exact hm h
  · exact hs h
theorem RepK.val {ks : List (Key × V)} {kvs : List (Key × D)} {k : Key} (h : RepK K N H ks (dkv kvs)) : (∀ d, valKD kvs k = some d → ∃ v, valV ks k = some v ∧ Rep K N H v d) ∧ (valKD kvs k = none → valV ks k = none) := by
  induction kvs generalizing ks with
  | nil => cases h; exact ⟨fun d e => (by cases e), fun _ => rfl⟩
  | cons p r ih =>
    obtain ⟨pk, pd⟩ := p
    generalize he : dkv ((pk, pd) :: r) = ds at h
    cases h with
    | nil => cases he
    | @cons k' v' d' ks' ds' r1 t =>
      have he' : (kD pk, pd) :: dkv r = _ := he
      injection he' with h1 h2
      injection h1 with h3 h4
      have := kD_inj h3
      subst this
      subst h2
      subst h4
      by_cases e : pk = k
      · rw [valV_pos (p := (pk, v')) e]
        have e2 : valKD ((pk, pd) :: r) k = some pd := by simp [valKD, List.find?_cons, e]
        rw [e2]
        exact ⟨fun d z => (by cases z; exact ⟨_, rfl, r1⟩), fun z => (by cases z)⟩
      · rw [valV_neg (p := (pk, v')) e]
        have e2 : valKD ((pk, pd) :: r) k = valKD r k := by simp [valKD, List.find?_cons, e]
        rw [e2]
        exact ih t
theorem RepK.length : ∀ {ks : List (Key × V)} {ds : List (D × D)}, RepK K N H ks ds → ks.length = ds.length
  | _, _, .nil => rfl
  | _, _, .cons _ t => by simp [RepK.length t]
theorem Rep.key {v : V} {d : D} {k : Key} (h : Rep K N H v d) (e : keyD d = some k) : v = kV k := by
  have := keyD_some e
  subst this
  cases k <;> cases h <;> rfl
theorem SRep.key {v : V} {d : D} {k : Key} (h : SRep K N H v d) (e : keyD d = some k) : v = kV k := by
  rcases h with h | ⟨q, b, rfl, e2, bo⟩
  · exact h.key e
  · subst e2; cases b <;> cases e
end

/-! a box is changed in its place -/
def bxAt (ρ : En) (i : Nat) : Option (Bool × Bx) := match ρ[i]?.join with
  | some (.box o b) => some (o, b)
  | _ => none
theorem bxAt_some {ρ : En} {i : Nat} {o : Bool} {b : Bx} (h : bxAt ρ i = some (o, b)) : ρ[i]? = some (some (.box o b)) := by
  unfold bxAt at h
  split at h
  · rename_i o' b' e
    cases h
    exact Option.join_eq_some_iff.mp e
  · cases h
section
variable {K : PySem.W.Frag} {W : Wd} {ρ ρ' : En} {σ : L2.St} {H H' : Hp}
theorem DRel.chBox (h : DRel K W ρ σ H) {i : Nat} {o : Bool} {b b' : Bx} {q : Addr} (e : ρ[i]? = some (some (.box o b))) (hq : σ[i]? = some (some (.ref q))) (bo : BoxOk K (Av W.P ρ σ) H' q b')
    (s : ∀ a u, a ≠ q → H a = some u → H' a = some u) : PostX K W ρ σ H (ρ.set i (some (.box o b'))) H' := by
  have hi : i < ρ.length := (List.getElem?_eq_some_iff.mp e).1
  have bat : BoxAt ρ σ q := ⟨i, o, b, e, hq⟩
  have sub : ∀ a, BoxAt (ρ.set i (some (.box o b'))) σ a → BoxAt ρ σ a := fun a ⟨j, o2, b2, e1, e2⟩ => by
    rcases set_get e1 with ⟨rfl, z⟩ | ⟨n, z⟩
    · rw [hq] at e2; cases e2; exact bat
    · exact ⟨j, o2, b2, z, e2⟩
  have back : ∀ a, BoxAt ρ σ a → BoxAt (ρ.set i (some (.box o b'))) σ a := fun a ⟨j, o2, b2, e1, e2⟩ => by
    by_cases ej : j = i
    · subst ej; exact ⟨j, o, b', List.getElem?_set_self hi, e2⟩
    · exact ⟨j, o2, b2, by rw [List.getElem?_set_ne (Ne.symm ej)]; exact e1, e2⟩
  have ev : Evo (Av W.P ρ σ) H (Av W.P (ρ.set i (some (.box o b'))) σ) H' := ⟨fun a u h1 n => s a u (fun z => n (.inr (by rw [z]; exact bat))) h1, fun a z => .inl (z.imp id (sub a))⟩
  have ev2 : Evo (Av W.P ρ σ) H' (Av W.P (ρ.set i (some (.box o b'))) σ) H' := mono_av fun a z => z.imp id (sub a)
  have tr : ∀ a u, H a = some u → ∃ u', H' a = some u' := fun a u h1 => by
    by_cases ea : a = q
    · subst ea; exact bo.there
    · exact ⟨u, s a u ea h1⟩
  refine ⟨⟨⟨by simpa using h.len, fun j a e1 => ?_, fun j k o1 b1 o2 b2 q' e1 e2 e3 e4 => ?_, fun a z => ?_, fun a z y => h.pdis a z (sub a y), fun a u z n => ?_, fun a u z => ?_⟩, fun a u h1 n => s a u (fun z => n (by rw [z]; exact bat)) h1, tr, fun a z => .inl (sub a z)⟩, fun j a e1 => ?_, sub⟩
  · rcases set_get e1 with ⟨rfl, rfl⟩ | ⟨n, z⟩
    · obtain ⟨v, hv, r⟩ := h.sl j _ e
      rw [hq] at hv; cases hv
      refine ⟨_, hq, ?_⟩
      cases o with
      | true => obtain ⟨q', h1, h2, h3⟩ := r; cases h1; exact ⟨q, rfl, bo.evo ev2 fun _ z => z, h3⟩
      | false => obtain ⟨q', h1, h2, h3⟩ := r; cases h1; exact ⟨q, rfl, bo.evo ev2 fun _ z => z, h3⟩
    · obtain ⟨v, hv, r⟩ := h.sl j a z
      refine ⟨v, hv, r.evo ev fun q' e2 e3 u e4 => ?_⟩
      refine s q' u (fun z' => ?_) e4
      subst z'
      subst e2
      cases a with
      | dat d => cases e3
      | box o1 b1 => exact n (h.dis j i _ _ _ _ q' z e hv hq)
  · have g : ∀ {j : Nat} {o1 : Bool} {b1 : Bx}, (ρ.set i (some (.box o b')))[j]? = some (some (.box o1 b1)) → ∃ o2 b2, ρ[j]? = some (some (.box o2 b2)) := fun {j o1 b1} e1 => by
      rcases set_get e1 with ⟨rfl, z⟩ | ⟨n, z⟩
      · exact ⟨o, b, e⟩
      · exact ⟨o1, b1, z⟩
    obtain ⟨_, _, g1⟩ := g e1
    obtain ⟨_, _, g2⟩ := g e2
    exact h.dis j k _ _ _ _ q' g1 g2 e3 e4
  · obtain ⟨u, z⟩ := h.prot a z; exact tr a u z
  · have z1 := h.keep a u z n
    refine s a u (fun z2 => ?_) z1
    subst z2
    rcases h.pb bat with y | y
    · rw [y] at z; cases z
    · exact n y
  · obtain ⟨u', z1⟩ := h.there a u z; exact tr a u' z1
  · by_cases ej : j = i
    · subst ej; exact ⟨_, List.getElem?_set_self hi⟩
    · exact ⟨a, by rw [List.getElem?_set_ne (Ne.symm ej)]; exact e1⟩
end
/-- a method that changes its list -/
def rMut (K : PySem.W.Frag) (g : Bx → List D → Option (D × Bx)) : V → List V → Hp → VK → Prop := fun x xs H Q => ∃ N q b ds d b', x = .ref q ∧ Trk N H ∧ N q ∧ BoxOk K N H q b ∧ RepL K N H xs ds ∧ g b ds = some (d, b') ∧
  ∀ v H', BoxOk K N H' q b' → (∀ a u, a ≠ q → H a = some u → H' a = some u) → Rep K N H' v d → Q v H'
def mmut (T : String) (i : Nat) (g : Bx → List D → Option (D × Bx)) (ms : MA) : ME := fun ρ => (bxAt ρ i).bind fun b0 => (guardO (tyD T b0.2.dat)).bind fun _ => (ms ρ).bind fun x => (fzs x.2 x.1).bind fun y => (bxAt y.2 i).bind fun b => (g b.2 y.1).bind fun z =>
  some (.dat z.1, y.2.set i (some (.box b.1 z.2)))
section
variable {G : GC} {S : SC} {e : Expr} {es : List Expr} {ms : MA}
theorem rdmut {K : PySem.W.Frag} {T : String} {i : Nat} {g : Bx → List D → Option (D × Bx)} {σ : L2.St} {H : Hp} {Q : VK} (h : rd K (mmut T i g ms) σ H Q) : tVar i σ H fun x H1 => tyV K T x H1 ∧ rdA K ms σ H1 fun xs H2 => rMut K g x xs H2 Q := by
  obtain ⟨W, ρ, r, ρ', rel, em, q⟩ := h
  unfold mmut at em
  obtain ⟨⟨o0, b0⟩, e1, em⟩ := Option.bind_eq_some_iff.mp em
  obtain ⟨u, e2, em⟩ := Option.bind_eq_some_iff.mp em
  obtain ⟨⟨rs, ρ1⟩, e3, em⟩ := Option.bind_eq_some_iff.mp em
  obtain ⟨⟨ds, ρ2⟩, e4, em⟩ := Option.bind_eq_some_iff.mp em
  obtain ⟨⟨o, b⟩, e5, em⟩ := Option.bind_eq_some_iff.mp em
  obtain ⟨⟨d, b'⟩, e6, em⟩ := Option.bind_eq_some_iff.mp em
  cases em
  obtain ⟨a, hq, bo, _⟩ := rel.boxOk (bxAt_some e1)
  refine ⟨_, hq, SRep.ty (.inr ⟨a, b0, rfl, rfl, bo⟩) (guardO_some e2), W, ρ, rs, ρ1, rel, e3, fun xs H1 p1 f1 => ?_⟩
  obtain ⟨p2, rl⟩ := fzs_ok p1.rel f1 e4
  obtain ⟨a2, hq2, bo2, at2, _⟩ := p2.rel.boxOk (bxAt_some e5)
  rw [hq] at hq2; cases hq2
  refine ⟨Av W.P ρ2 σ, a, b, ds, d, b', rfl, p2.rel.trk, .inr at2, bo2, rl, e6, fun v H' h1 h2 h3 => ?_⟩
  have p3 := p2.rel.chBox (bxAt_some e5) hq h1 h2
  have p := (p1.trans p2).trans p3
  exact q v H' ⟨p, Rep.evo (mono_av fun c z => z.imp id (p3.sub c)) _ _ h3, p.rel.pl0 fun _ z => z⟩
theorem de_mut {x name : Str} {T id : String} {opos apos cpos : Pos} {i : Nat} {g : Bx → List D → Option (D × Bx)} (pa : PlainAttrs T) (slot : Slot T name id) (hty : typeOf (.builtin id) = pure (.type "method_descriptor")) (hm : ∀ X, CxOk G S X → MtR X id (rMut G.K g))
    (hN : S.N[i]? = some x) (hv : Vis S.sc x) (hd : (x == ("__debug__" : Str)) = false) (hcd : (x == ("__classdict__" : Str)) = false) (ha : DA G S (e :: es) ms)
    (hbase : ∀ env : PySem.Env, attributeBase (.Name x opos) name env (eval (.Name x opos) env) = eval (.Name x opos) env)
    (hfew : ∀ env : PySem.Env, ((backTo cpos (starEach (e :: es) env)).all (fun x => !x.1) && (backToKw cpos (keywordEach [] env)).all (fun x => x.1.isSome)
      && decide ((e :: es).length + ([] : List Keyword).length + (if ([] : List Keyword).isEmpty then 0 else 1) < 30)) = true)
    (hline : (apos.endLine == cpos.line) = true) (hs : ∀ env : PySem.Env, starEach (e :: es) env = (false, eval e env) :: starEach es env) (hplain : ∀ env : PySem.Env, (backTo cpos (starEach es env)).any (·.1) = false) :
    DE G S (.Call (.Attribute (.Name x opos) name apos) (e :: es) [] cpos) (mmut T i g ms) :=
  fun X c => PE.weak (pe_bm pa slot hty (hm X c) (pe_var (i := i) (by rw [c.N]; exact hN) (by rw [c.sc]; exact hv) hd hcd) (ha X c) (hbase _) (hfew _) hline (hs _) (hplain _)) fun σ H Q q => by
    have z := rdmut q
    rw [← c.K] at z ⊢
    exact z
theorem de_mut0 {x name : Str} {T id : String} {opos apos cpos : Pos} {i : Nat} {g : Bx → List D → Option (D × Bx)} (pa : PlainAttrs T) (slot : Slot T name id) (hty : typeOf (.builtin id) = pure (.type "method_descriptor")) (hm : ∀ X, CxOk G S X → MtR X id (rMut G.K g))
    (hN : S.N[i]? = some x) (hv : Vis S.sc x) (hd : (x == ("__debug__" : Str)) = false) (hcd : (x == ("__classdict__" : Str)) = false)
    (hbase : ∀ env : PySem.Env, attributeBase (.Name x opos) name env (eval (.Name x opos) env) = eval (.Name x opos) env) (hline : (apos.endLine == cpos.line) = true) :
    DE G S (.Call (.Attribute (.Name x opos) name apos) [] [] cpos) (mmut T i g mnil) :=
  fun X c => PE.weak (pe_bm0 pa slot hty (hm X c) (pe_var (i := i) (by rw [c.N]; exact hN) (by rw [c.sc]; exact hv) hd hcd) (hbase _) hline) fun σ H Q q => by
    have z := rdmut q
    rw [← c.K] at z ⊢
    obtain ⟨v, h1, h2, h3⟩ := z
    refine ⟨v, h1, h2, ?_⟩
    obtain ⟨W2, ρ2, rs, ρ3, rel2, e2, f2⟩ := h3
    cases e2
    exact f2 [] H (PostX.refl rel2) .nil
end

/-! more statements -/
section
variable {G : GC} {S : SC} {st : Stmt} {sts rest : List Stmt} {e a b : Expr} {pos pos' : Pos} {m ma mb : ME} {mt : MT} {mx my : MS}
theorem rdasg {K : PySem.W.Frag} {i : Nat} {D : Ends} {σ : L2.St} {H : Hp} (h : rdS K (masg i m) D σ H) : rd K m σ H fun v H1 => D.nx (σ.set i (some v)) H1 := by
  obtain ⟨W, ρ, o, ρ', rel, em, q⟩ := h
  unfold masg at em
  obtain ⟨⟨r, ρ1⟩, e1, em⟩ := Option.bind_eq_some_iff.mp em
  obtain ⟨u, e2, em⟩ := Option.bind_eq_some_iff.mp em
  obtain ⟨ρ2, e3, em⟩ := Option.map_eq_some_iff.mp em
  cases em
  exact ⟨W, ρ, r, ρ1, rel, e1, fun v H1 p1 => q _ H1 (sto_ok rel p1 (guardO_some e2) e3)⟩
/-- name = e, by the scope alone -/
theorem ds_asgS {i : Nat} {x : Str} (h : StoOk S i x) (he : DE G S e m) (hs : ∀ env : PySem.Env, env.scope = S.sc → swapsWith e (some (.Name x pos')) pos.line env = pure false) : DS G S (.Assign [.Name x pos'] e pos) (masg i m) := fun X c =>
  PS.weak (ps_set (i := i) c.nd (by rw [c.N]; exact h.1) (by rw [c.sc]; exact h.2.1) (he X c) (hs _ c.sc) (by rw [c.sc, c.fn]; exact h.2.2)) fun D σ H q => rdasg q
/-- name = [..] on one line, the name a local -/
theorem ds_setLc {i : Nat} {y : Str} {py : Pos} {elt tg iter : Expr} {ifs : List Expr} {scope : Scope} {own : List (Str × Nat)} {spos : Pos} {mi : MI} {g : MG} {is : List Nat} {t : MT} (hy : S.N[i]? = some y) (hyl : S.sc.names.lookup y = some .local) (hk : S.sc.kind = .function)
    (hl : (py.line == pos.line) = true) (hn : (scope.names.any fun (n, k) => n == y && (k == .local || k == .cell)) = false)
    (hi : DI G S tg iter mi) (ok : BlkOk S.N S.sc scope own)
    (hg : DG G (S.blk scope) tg is g) (ht : DTs G (S.blk scope) ifs t) (he : DE G (S.blk scope) elt m) (hsub : ∀ i ∈ is, i ∈ own.map (·.2)) (st : GStay g is) (hs : ∀ (env : PySem.Env) x, foldedSetIterable iter env x = pure x) :
    DS G S (.Assign [.Name y py] (.ListComp elt [⟨tg, iter, ifs, 0⟩] scope pos) spos) (masg i (mlc mi g t m (own.map (·.2)))) := by
  intro X c
  refine PS.weak (ps_setLc (i := i) c.calm c.nd (by rw [c.N]; exact hy) (by rw [c.sc]; exact hyl) (sw_true (by rw [c.sc]; exact hk) (by rw [c.sc]; exact hyl) hl hn) (hi X c) (by rw [c.N, c.sc]; exact ok) (fun s H C cl fp => hg _ (c.blk scope s H C cl fp)) (fun s H C cl fp => ht _ (c.blk scope s H C cl fp)) (fun s H C cl fp => he _ (c.blk scope s H C cl fp)) (hs _)) ?_
  exact fun D σ H q => lcrd hsub st σ H _ (rdasg q)
/-- a, b = x, y -/
def mpar (i j : Nat) (ma mb : ME) : MS := fun ρ => (ma ρ).bind fun x => (mb x.2).bind fun y => (guardO (notBor y.2 i && notBor y.2 j)).bind fun _ => match x.1, y.1 with
  | .ref _, _ => none
  | _, .ref _ => none
  | r, r' => (stoR y.2 i r).bind fun ρ1 => (stoR ρ1 j r').map fun ρ2 => (.nx, ρ2)
theorem stoP {K : PySem.W.Frag} {W : Wd} {ρ ρ2 : En} {σ : L2.St} {H : Hp} {r : R} {v : V} {i : Nat} (hi : i < ρ.length) (h : DRel K (W.pl (exR r v)) ρ σ H)
    (hd : ∀ d, r = .dat d → Rep K (Av W.P ρ σ) H v d) (hn : ∀ b, r = .new b → ∃ q, v = .ref q ∧ W.H0 q = none ∧ ¬ W.P q ∧ BoxOk K (fun a => Av W.P ρ σ a ∨ a = q) H q b) (hr : ∀ j, r ≠ .ref j) (e : stoR ρ i r = some ρ2) :
    DRel K W ρ2 (σ.set i (some v)) H ∧ (∀ a, BoxAt ρ2 (σ.set i (some v)) a → BoxAt ρ σ a ∨ exR r v a) ∧ ρ2.length = ρ.length := by
  cases r with
  | dat d =>
    cases e
    have p := DRel.setDat (W := W) h.unpl hi (hd d rfl)
    refine ⟨p.rel, fun a z => ?_, by simp⟩
    rcases p.new a z with y | y
    · exact .inl y
    · obtain ⟨o, y'⟩ := p.rel.boxThere z; rw [y] at y'; cases y'
  | new b =>
    cases e
    obtain ⟨q, rfl, h0, hp, bo⟩ := hn b rfl
    obtain ⟨h1, h2⟩ := DRel.setNew (W := W) (q := q) (b := b) h hi bo h0 hp
    exact ⟨h1, fun a z => (h2 a z).imp id fun z => by rw [z]; rfl, by simp⟩
  | ref j => exact (hr j rfl).elim
theorem par_core {K : PySem.W.Frag} {W : Wd} {ρ ρ1 ρ2 ρ3 ρ4 : En} {σ : L2.St} {H H1 H2 : Hp} {ra rb : R} {xv yv : V} {i j : Nat} (rel : DRel K W ρ σ H) (p1 : PostE K W ρ σ H ra ρ1 xv H1) (p2 : PostE K (W.pl (exR ra xv)) ρ1 σ H1 rb ρ2 yv H2)
    (nb : notBor ρ2 i = true ∧ notBor ρ2 j = true) (hra : ∀ j, ra ≠ .ref j) (hrb : ∀ j, rb ≠ .ref j) (e4 : stoR ρ2 i ra = some ρ3) (e5 : stoR ρ3 j rb = some ρ4) : PostC K W ρ σ H ρ4 ((σ.set i (some xv)).set j (some yv)) H2 := by
  have fr1 : ∀ a, exR ra xv a → H a = none := fun a z => by
    have y := p1.res
    cases ra with
    | dat d => exact z.elim
    | new b => obtain ⟨q, h1, h2, h3⟩ := y; cases h1; cases z; exact h2
    | ref i => exact z.elim
  have th1 : ∀ a, exR ra xv a → ∃ o, H1 a = some o := fun a z => by
    have y := p1.res
    cases ra with
    | dat d => exact z.elim
    | new b => obtain ⟨q, h1, h2, h3⟩ := y; cases h1; cases z; exact h3.there
    | ref i => exact z.elim
  have fr2 : ∀ a, exR rb yv a → H1 a = none := fun a z => by
    have y := p2.res
    cases rb with
    | dat d => exact z.elim
    | new b => obtain ⟨q, h1, h2, h3⟩ := y; cases h1; cases z; exact h2
    | ref i => exact z.elim
  have h0 : ∀ a, H a = none → W.H0 a = none ∧ ¬ W.P a := fun a z => by
    refine ⟨?_, fun y => ?_⟩
    · cases h : W.H0 a with
      | none => rfl
      | some o => obtain ⟨o', h'⟩ := rel.there a o h; rw [z] at h'; cases h'
    · obtain ⟨o, h'⟩ := rel.prot a y; rw [z] at h'; cases h'
  have ev1 : Evo (Av (W.pl (exR ra xv)).P ρ1 σ) H1 (Av ((W.pl (exR ra xv)).pl (exR rb yv)).P ρ2 σ) H2 := ⟨fun a o h n => p2.ext a o h fun z => n (.inr z), fun a z => by
    rcases z with (z | z) | z
    · exact .inl (.inl z)
    · exact .inr (fr2 a z)
    · exact .inl (.inr (p2.sub a z))⟩
  have rsw : DRel K ((W.pl (exR rb yv)).pl (exR ra xv)) ρ2 σ H2 := p2.relE.lessP (fun a z => by
    rcases z with (z | z) | z
    · exact .inl (.inl z)
    · exact .inr z
    · exact .inl (.inr z)) rfl rfl
  obtain ⟨r3, s3, l3⟩ := stoP (W := W.pl (exR rb yv)) (i := i) (notBor_lt nb.1) rsw (fun d e => by
      subst e
      exact Rep.evo (mono_av fun a z => z.elim (fun z => z.elim (fun z => .inl (.inl (.inl z))) fun z => .inl (.inr z)) .inr) _ _ (Rep.evo (N := Av W.P ρ1 σ) (H := H1) (N1 := Av ((W.pl (exR (.dat d) xv)).pl (exR rb yv)).P ρ2 σ) ⟨fun a o h n => p2.ext a o h fun z => n (.inr z), fun a z => by
        rcases z with (z | z) | z
        · exact .inl (z.elim .inl fun z => z.elim)
        · exact .inr (fr2 a z)
        · exact .inl (.inr (p2.sub a z))⟩ _ _ p1.res)) (fun b e => by
      subst e
      obtain ⟨q1, rfl, g1, g2⟩ := p1.res
      have n1 : ¬ BoxAt ρ1 σ q1 := p1.relE.pdis q1 (.inr rfl)
      refine ⟨q1, rfl, (h0 q1 g1).1, fun z => ?_, g2.evo (N1 := fun a => Av (W.pl (exR rb yv)).P ρ2 σ a ∨ a = q1) ⟨fun a o h n => p2.ext a o h fun z => n (.inl (.inr z)), fun a z => ?_⟩ fun o h => p2.ext q1 o h n1⟩
      · rcases z with z | z
        · exact (h0 q1 g1).2 z
        · obtain ⟨o, y⟩ := th1 q1 rfl
          rw [fr2 q1 z] at y; cases y
      · rcases z with ((z | z) | z) | z
        · exact .inl (.inl (.inl z))
        · exact .inr (fr2 a z)
        · exact .inl (.inl (.inr (p2.sub a z)))
        · exact .inl (.inr z)) hra e4
  obtain ⟨r4, s4, l4⟩ := stoP (W := W) (i := j) (by rw [l3]; exact notBor_lt nb.2) r3 (fun d e => by
      subst e
      refine Rep.evo (mono_av fun a z => ?_) _ _ p2.res
      rcases z with z | z
      · exact .inl (.inl z)
      · rcases s3 a z with z | z
        · exact .inr z
        · exact .inl (.inr z)) (fun b e => by
      subst e
      obtain ⟨q2, rfl, g1, g2⟩ := p2.res
      have hq : H q2 = none := p1.free g1
      refine ⟨q2, rfl, (h0 q2 hq).1, (h0 q2 hq).2, g2.evo (mono_av fun a z => ?_) fun _ z => z⟩
      rcases z with (z | z) | z
      · exact .inl (.inl (.inl z))
      · rcases s3 a z with z | z
        · exact .inl (.inr z)
        · exact .inl (.inl (.inr z))
      · exact .inr z) hrb e5
  refine ⟨r4, fun a o h n => p2.ext a o (p1.ext a o h n) fun z => n (p1.sub a z), fun a o h => ?_, fun a z => ?_⟩
  · obtain ⟨o', h'⟩ := p1.thr a o h
    exact p2.thr a o' h'
  · rcases s4 a z with z | z
    · rcases s3 a z with z | z
      · exact .inl (p1.sub a (p2.sub a z))
      · exact .inr (fr1 a z)
    · exact .inr (p1.free (fr2 a z))
theorem ds_par {i j : Nat} {x y : Str} {px py pt : Pos} {kt k2 pt2} (hi : S.N[i]? = some x) (hj : S.N[j]? = some y) (hij : i ≠ j) (hx : S.sc.names.lookup x = some .local) (hy : S.sc.names.lookup y = some .local)
    (ha : DE G S a ma) (hb : DE G S b mb) (hsa : ∀ env : PySem.Env, starEach [a, b] env = (false, eval a env) :: starEach [b] env) (hsb : ∀ env : PySem.Env, starEach [b] env = (false, eval b env) :: starEach [] env)
    (hw : ∀ env : PySem.Env, env.scope = S.sc → swappedStores [.Tuple [.Name x px, .Name y py] kt pt] (.Tuple [a, b] k2 pt2) env = pure (some [x, y]))
    (hs : ∀ env : PySem.Env, env.scope = S.sc → swapsWithSole [.Tuple [.Name x px, .Name y py] kt pt] (.Tuple [a, b] k2 pt2) pos.line env = pure false) :
    DS G S (.Assign [.Tuple [.Name x px, .Name y py] kt pt] (.Tuple [a, b] k2 pt2) pos) (mpar i j ma mb) := by
  intro X c
  refine PS.weak (ps_par (i := i) (j := j) c.calm c.nd (by rw [c.N]; exact hi) (by rw [c.N]; exact hj) hij (by rw [c.sc]; exact hx) (by rw [c.sc]; exact hy) (pa_cons (ha X c) (pa_cons (hb X c) pa_nil (hsb _)) (hsa _)) (hw _ c.sc) (hs _ c.sc)) ?_
  rintro D σ H ⟨W, ρ, o, ρ', rel, em, q⟩
  unfold mpar at em
  obtain ⟨⟨ra, ρ1⟩, e1, em⟩ := Option.bind_eq_some_iff.mp em
  obtain ⟨⟨rb, ρ2⟩, e2, em⟩ := Option.bind_eq_some_iff.mp em
  obtain ⟨u, e3, em⟩ := Option.bind_eq_some_iff.mp em
  have nb := guardO_some e3
  rw [Bool.and_eq_true] at nb
  have hra : (∀ j, ra ≠ .ref j) ∧ (∀ j, rb ≠ .ref j) ∧ ∃ ρ3 ρ4, stoR ρ2 i ra = some ρ3 ∧ stoR ρ3 j rb = some ρ4 ∧ (O.nx, ρ4) = (o, ρ') := by
    cases ra with
    | ref _ => cases em
    | dat d =>
      cases rb with
      | ref _ => cases em
      | dat d' =>
        obtain ⟨ρ3, e4, em⟩ := Option.bind_eq_some_iff.mp em
        obtain ⟨ρ4, e5, em⟩ := Option.map_eq_some_iff.mp em
        exact ⟨nofun, nofun, ρ3, ρ4, e4, e5, em⟩
      | new d' =>
        obtain ⟨ρ3, e4, em⟩ := Option.bind_eq_some_iff.mp em
        obtain ⟨ρ4, e5, em⟩ := Option.map_eq_some_iff.mp em
        exact ⟨nofun, nofun, ρ3, ρ4, e4, e5, em⟩
    | new d =>
      cases rb with
      | ref _ => cases em
      | dat d' =>
        obtain ⟨ρ3, e4, em⟩ := Option.bind_eq_some_iff.mp em
        obtain ⟨ρ4, e5, em⟩ := Option.map_eq_some_iff.mp em
        exact ⟨nofun, nofun, ρ3, ρ4, e4, e5, em⟩
      | new d' =>
        obtain ⟨ρ3, e4, em⟩ := Option.bind_eq_some_iff.mp em
        obtain ⟨ρ4, e5, em⟩ := Option.map_eq_some_iff.mp em
        exact ⟨nofun, nofun, ρ3, ρ4, e4, e5, em⟩
  obtain ⟨hra, hrb, ρ3, ρ4, e4, e5, em⟩ := hra
  cases em
  refine ⟨W, ρ, ra, ρ1, rel, e1, fun xv H1 p1 => ⟨W.pl (exR ra xv), ρ1, rb, ρ2, p1.relE, e2, fun yv H2 p2 => ⟨xv, yv, rfl, ?_⟩⟩⟩
  exact q _ H2 (par_core rel p1 p2 nb hra hrb e4 e5)
theorem PostC.same {K : PySem.W.Frag} {W : Wd} {ρ ρ' : En} {σ σ' : L2.St} {H H' H'' : Hp} (p : PostC K W ρ σ H ρ' σ' H') (s : ∀ a o, H' a = some o → H'' a = some o) : PostC K W ρ σ H ρ' σ' H'' :=
  ⟨(p.rel.grow (e := fun _ => False) s (fun _ z => z.elim) (fun _ z => z.elim)).lessP (fun _ z => .inl z) rfl rfl, fun a o h n => s a o (p.ext a o h n), fun a o h => by
    obtain ⟨o', h'⟩ := p.thr a o h
    exact ⟨o', s a o' h'⟩, p.new⟩
/-- x, y = (a, b) where no stores are swapped: by a tuple -/
theorem ds_parC {i j : Nat} {x y : Str} {px py pt : Pos} {kt k2 pt2} (hi : StoOk S i x) (hj : StoOk S j y)
    (ha : DE G S a ma) (hb : DE G S b mb) (hsa : ∀ env : PySem.Env, starEach [a, b] env = (false, eval a env) :: starEach [b] env) (hsb : ∀ env : PySem.Env, starEach [b] env = (false, eval b env) :: starEach [] env)
    (hw : ∀ env : PySem.Env, env.scope = S.sc → swappedStores [.Tuple [.Name x px, .Name y py] kt pt] (.Tuple [a, b] k2 pt2) env = pure none)
    (hs : ∀ env : PySem.Env, env.scope = S.sc → swapsWithSole [.Tuple [.Name x px, .Name y py] kt pt] (.Tuple [a, b] k2 pt2) pos.line env = pure false)
    (h1 : ∀ env : PySem.Env, (assignEach [.Tuple [.Name x px, .Name y py] kt pt] env).map (·.2) = [assign (.Tuple [.Name x px, .Name y py] kt pt) env])
    (hn : ∀ env : PySem.Env, (assignEach [.Name x px, .Name y py] env).length = 2) (hst : ∀ env : PySem.Env, (assignEach [.Name x px, .Name y py] env).findIdx? (·.1) = none)
    (h2 : ∀ env : PySem.Env, (assignEach [.Name x px, .Name y py] env).map (·.2) = assign (.Name x px) env :: (assignEach [.Name y py] env).map (·.2)) (h3 : ∀ env : PySem.Env, (assignEach [.Name y py] env).map (·.2) = assign (.Name y py) env :: (assignEach [] env).map (·.2)) :
    DS G S (.Assign [.Tuple [.Name x px, .Name y py] kt pt] (.Tuple [a, b] k2 pt2) pos) (mpar i j ma mb) := by
  intro X c
  refine PS.weak (ps_asg (pe_tupF (pa_cons (ha X c) (pa_cons (hb X c) pa_nil (hsb _)) (hsa _))) (pg_tup (n := 2) c.calm (pgsN_cons c hi (pgsN_cons c hj pgsN_nil (h3 _)) (h2 _)) (hn _) (hst _)) (hs _ c.sc) (hw _ c.sc) (h1 _)) ?_
  rintro D σ H ⟨W, ρ, o, ρ', rel, em, q⟩
  unfold mpar at em
  obtain ⟨⟨ra, ρ1⟩, e1, em⟩ := Option.bind_eq_some_iff.mp em
  obtain ⟨⟨rb, ρ2⟩, e2, em⟩ := Option.bind_eq_some_iff.mp em
  obtain ⟨u, e3, em⟩ := Option.bind_eq_some_iff.mp em
  have nb := guardO_some e3
  rw [Bool.and_eq_true] at nb
  have hra : (∀ j, ra ≠ .ref j) ∧ (∀ j, rb ≠ .ref j) ∧ ∃ ρ3 ρ4, stoR ρ2 i ra = some ρ3 ∧ stoR ρ3 j rb = some ρ4 ∧ (O.nx, ρ4) = (o, ρ') := by
    cases ra with
    | ref _ => cases em
    | dat d =>
      cases rb with
      | ref _ => cases em
      | dat d' =>
        obtain ⟨ρ3, e4, em⟩ := Option.bind_eq_some_iff.mp em
        obtain ⟨ρ4, e5, em⟩ := Option.map_eq_some_iff.mp em
        exact ⟨nofun, nofun, ρ3, ρ4, e4, e5, em⟩
      | new d' =>
        obtain ⟨ρ3, e4, em⟩ := Option.bind_eq_some_iff.mp em
        obtain ⟨ρ4, e5, em⟩ := Option.map_eq_some_iff.mp em
        exact ⟨nofun, nofun, ρ3, ρ4, e4, e5, em⟩
    | new d =>
      cases rb with
      | ref _ => cases em
      | dat d' =>
        obtain ⟨ρ3, e4, em⟩ := Option.bind_eq_some_iff.mp em
        obtain ⟨ρ4, e5, em⟩ := Option.map_eq_some_iff.mp em
        exact ⟨nofun, nofun, ρ3, ρ4, e4, e5, em⟩
      | new d' =>
        obtain ⟨ρ3, e4, em⟩ := Option.bind_eq_some_iff.mp em
        obtain ⟨ρ4, e5, em⟩ := Option.map_eq_some_iff.mp em
        exact ⟨nofun, nofun, ρ3, ρ4, e4, e5, em⟩
  obtain ⟨hra, hrb, ρ3, ρ4, e4, e5, em⟩ := hra
  cases em
  refine ⟨W, ρ, ra, ρ1, rel, e1, fun xv H1 p1 => ⟨W.pl (exR ra xv), ρ1, rb, ρ2, p1.relE, e2, fun yv H2 p2 => ⟨(by decide : 2 ≤ sizeLine), fun p o hp ho => ?_⟩⟩⟩
  refine ⟨p, [xv, yv], rfl, .inl (.inr ⟨o, upd_same⟩), rfl, xv, [yv], rfl, yv, [], rfl, rfl, ?_⟩
  exact q _ _ ((par_core rel p1 p2 nb hra hrb e4 e5).same (fresh_upd hp))
/-- target = e, the value taken as data -/
def masgG (g : MG) (m : ME) : MS := fun ρ => (m ρ).bind fun x => (fzs x.2 [x.1.fz]).bind fun y => match y.1 with
  | [d] => (g d y.2).map fun ρ' => (.nx, ρ')
  | _ => none
theorem ds_asgG {tg : Expr} {g : MG} {is : List Nat} (he : DE G S e m) (hg : DG G S tg is g) (hs : ∀ env : PySem.Env, env.scope = S.sc → swapsWithSole [tg] e pos.line env = pure false) (hw : ∀ env : PySem.Env, env.scope = S.sc → swappedStores [tg] e env = pure none)
    (h1 : ∀ env : PySem.Env, (assignEach [tg] env).map (·.2) = [assign tg env]) : DS G S (.Assign [tg] e pos) (masgG g m) := by
  intro X c
  refine PS.weak (ps_asg (he X c) (hg X c) (hs _ c.sc) (hw _ c.sc) (h1 _)) ?_
  rintro D σ H ⟨W, ρ, o, ρ', rel, em, q⟩
  unfold masgG at em
  obtain ⟨⟨r, ρ1⟩, e1, em⟩ := Option.bind_eq_some_iff.mp em
  obtain ⟨⟨ds, ρ2⟩, e2, em⟩ := Option.bind_eq_some_iff.mp em
  refine ⟨W, ρ, r, ρ1, rel, e1, fun v H1 p1 => ?_⟩
  have f1 : FRels G.K (Av W.P ρ1 σ) ρ1 σ H1 [r.fz] [v] := .cons (p1.res.fz p1.toPostX rel) .nil
  obtain ⟨p2, rl⟩ := fzs_ok p1.rel f1 e2
  cases rl with
  | cons r0 t =>
    cases t
    obtain ⟨ρ3, e3, em⟩ := Option.map_eq_some_iff.mp em
    cases em
    exact ⟨W, ρ2, _, _, p2.rel, r0, e3, fun σ' p3 _ => q σ' H1 ((p1.toPostX.trans p2).toPostC.trans p3)⟩
end
end L3

namespace L3
open PySem PySem.Spec PyProof.Rows L2

/-! stores into boxes -/
def dicOf : Bx → Option (List (Key × D))
  | .dic kvs => some kvs
  | .lst _ => none
def lstOf : Bx → Option (List D)
  | .lst xs => some xs
  | .dic _ => none
def oneOf : List D → Option D
  | [d] => some d
  | _ => none
theorem dicOf_some {b : Bx} {kvs : List (Key × D)} (h : dicOf b = some kvs) : b = .dic kvs := by cases b <;> cases h <;> rfl
theorem lstOf_some {b : Bx} {xs : List D} (h : lstOf b = some xs) : b = .lst xs := by cases b <;> cases h <;> rfl
theorem oneOf_some {ds : List D} {d : D} (h : oneOf ds = some d) : ds = [d] := by
  cases ds with
  | nil => cases h
  | cons a r => cases r with
    | nil => cases h; rfl
    | cons _ _ => cases h
def mputD (s : Nat) (mk mv : ME) : MS := fun ρ => (mv ρ).bind fun x => (fzs x.2 [x.1.fz]).bind fun y => (oneOf y.1).bind fun d => (bxAt y.2 s).bind fun _ => (mk y.2).bind fun z => (z.1.fz.vw z.2).bind fun dk => (keyD dk).bind fun k =>
  (bxAt z.2 s).bind fun b => (dicOf b.2).bind fun kvs => (guardO (decide (kvs.length < sizeLine))).bind fun _ => some (.nx, z.2.set s (some (.box b.1 (.dic (putKD kvs k d)))))
def mputL (s : Nat) (mk mv : ME) : MS := fun ρ => (mv ρ).bind fun x => (fzs x.2 [x.1.fz]).bind fun y => (oneOf y.1).bind fun d => (bxAt y.2 s).bind fun _ => (mk y.2).bind fun z => (intR z.2 z.1.fz).bind fun k =>
  (bxAt z.2 s).bind fun b => (lstOf b.2).bind fun xs => (ixN xs.length k).bind fun j => some (.nx, z.2.set s (some (.box b.1 (.lst (xs.set j d)))))
def isDic : Bx → Bool
  | .dic _ => true
  | .lst _ => false
def mput (s : Nat) (mk mv : ME) : MS := fun ρ => (bxAt ρ s).bind fun b => if isDic b.2 = true then mputD s mk mv ρ else mputL s mk mv ρ
theorem PS.or {X : Cx} {st : Stmt} {t u : TS} (h : PS X st t) (h' : PS X st u) : PS X st (fun D σ H => t D σ H ∨ u D σ H) := ⟨fun p s σ H D I q => q.elim (h.run p s σ H D I) (h'.run p s σ H D I)⟩
section
variable {G : GC} {S : SC} {e k v : Expr} {pos opos pos' : Pos} {m mk mv : ME} {mt : MT}
theorem RepL.set {K : PySem.W.Frag} {N : Addr → Prop} {H : Hp} : ∀ {vs : List V} {ds : List D} {v : V} {d : D} (i : Nat), RepL K N H vs ds → Rep K N H v d → RepL K N H (vs.set i v) (ds.set i d)
  | _, _, _, _, _, .nil, _ => .nil
  | _, _, _, _, 0, .cons _ t, r => .cons r t
  | _, _, _, _, i + 1, .cons q t, r => .cons q (RepL.set i t r)
theorem one_rep {K : PySem.W.Frag} {N : Addr → Prop} {H : Hp} {v : V} {ds : List D} {d : D} (h : RepL K N H [v] ds) (e : oneOf ds = some d) : Rep K N H v d := by
  have := oneOf_some e
  subst this
  cases h with
  | cons r _ => exact r
theorem rdputD {K : PySem.W.Frag} {s : Nat} {D : Ends} {σ : L2.St} {H : Hp} (h : rdS K (mputD s mk mv) D σ H) : sDPut (tVar s) (rd K mk) (rd K mv) D σ H := by
  obtain ⟨W, ρ, o, ρ', rel, em, q⟩ := h
  unfold mputD at em
  obtain ⟨⟨r, ρ1⟩, e1, em⟩ := Option.bind_eq_some_iff.mp em
  obtain ⟨⟨ds, ρ2⟩, e2, em⟩ := Option.bind_eq_some_iff.mp em
  obtain ⟨d, e3, em⟩ := Option.bind_eq_some_iff.mp em
  obtain ⟨⟨o0, b0⟩, e4, em⟩ := Option.bind_eq_some_iff.mp em
  obtain ⟨⟨rk, ρ3⟩, e5, em⟩ := Option.bind_eq_some_iff.mp em
  obtain ⟨dk, e6, em⟩ := Option.bind_eq_some_iff.mp em
  obtain ⟨kk, e7, em⟩ := Option.bind_eq_some_iff.mp em
  obtain ⟨⟨ow, b⟩, e8, em⟩ := Option.bind_eq_some_iff.mp em
  obtain ⟨kvs, e9, em⟩ := Option.bind_eq_some_iff.mp em
  obtain ⟨u, e10, em⟩ := Option.bind_eq_some_iff.mp em
  cases em
  have := dicOf_some e9
  simp only at this
  subst this
  refine ⟨W, ρ, r, ρ1, rel, e1, fun v H1 p1 => ?_⟩
  have f1 : FRels K (Av W.P ρ1 σ) ρ1 σ H1 [r.fz] [v] := .cons (p1.res.fz p1.toPostX rel) .nil
  obtain ⟨p2, rl⟩ := fzs_ok p1.rel f1 e2
  have r0 := one_rep rl e3
  obtain ⟨a, hq, _⟩ := p2.rel.boxOk (bxAt_some e4)
  refine ⟨_, hq, W, ρ2, rk, ρ3, p2.rel, e5, fun y H3 p3 => ?_⟩
  obtain ⟨a2, hq2, bo, at2, _⟩ := p3.rel.boxOk (bxAt_some e8)
  rw [hq] at hq2; cases hq2
  obtain ⟨ks, l1, l2⟩ := bo
  have ky : y = kV kk := ((p3.res.fz p3.toPostX p2.rel).read p3.rel e6).key e7
  subst ky
  have r1 := Rep.evo (p3.evo p2.rel) _ _ r0
  have hlen : ks.length < sizeLine := by
    have := l2.length
    unfold dkv at this
    rw [List.length_map] at this
    rw [this]; exact guardO_dec e10
  refine ⟨a, _, rfl, DPut.k l1 hlen, q _ _ ?_⟩
  have ev : Evo (Av W.P ρ3 σ) H3 (Av W.P ρ3 σ) (upd H3 a (.dK (putK ks kk v))) := ⟨fun c o h n => by rw [upd_ne (fun z => n (.inr (by rw [z]; exact at2)))]; exact h, fun c z => .inl z⟩
  have p4 := p3.rel.chBox (H' := upd H3 a (.dK (putK ks kk v))) (b' := .dic (putKD kvs kk d)) (bxAt_some e8) hq ⟨_, upd_same, RepK.evo ev _ _ (RepK.put kk l2 r1)⟩ fun c o n h => by rw [upd_ne n]; exact h
  exact ((p1.toPostX.trans p2).trans (p3.toPostX.trans p4)).toPostC
theorem rdputL {K : PySem.W.Frag} {s : Nat} {D : Ends} {σ : L2.St} {H : Hp} (h : rdS K (mputL s mk mv) D σ H) : tAsg (rd K mv) (gSub (tVar s) (rd K mk) rSetL) D σ H := by
  obtain ⟨W, ρ, o, ρ', rel, em, q⟩ := h
  unfold mputL at em
  obtain ⟨⟨r, ρ1⟩, e1, em⟩ := Option.bind_eq_some_iff.mp em
  obtain ⟨⟨ds, ρ2⟩, e2, em⟩ := Option.bind_eq_some_iff.mp em
  obtain ⟨d, e3, em⟩ := Option.bind_eq_some_iff.mp em
  obtain ⟨⟨o0, b0⟩, e4, em⟩ := Option.bind_eq_some_iff.mp em
  obtain ⟨⟨rk, ρ3⟩, e5, em⟩ := Option.bind_eq_some_iff.mp em
  obtain ⟨kk, e6, em⟩ := Option.bind_eq_some_iff.mp em
  obtain ⟨⟨ow, b⟩, e8, em⟩ := Option.bind_eq_some_iff.mp em
  obtain ⟨xs, e9, em⟩ := Option.bind_eq_some_iff.mp em
  obtain ⟨j, e10, em⟩ := Option.bind_eq_some_iff.mp em
  cases em
  have := lstOf_some e9
  simp only at this
  subst this
  refine ⟨W, ρ, r, ρ1, rel, e1, fun v H1 p1 => ?_⟩
  have f1 : FRels K (Av W.P ρ1 σ) ρ1 σ H1 [r.fz] [v] := .cons (p1.res.fz p1.toPostX rel) .nil
  obtain ⟨p2, rl⟩ := fzs_ok p1.rel f1 e2
  have r0 := one_rep rl e3
  obtain ⟨a, hq, _⟩ := p2.rel.boxOk (bxAt_some e4)
  refine ⟨_, hq, W, ρ2, rk, ρ3, p2.rel, e5, fun y H3 p3 => ?_⟩
  obtain ⟨a2, hq2, bo, at2, _⟩ := p3.rel.boxOk (bxAt_some e8)
  rw [hq] at hq2; cases hq2
  obtain ⟨ks, l1, l2⟩ := bo
  have ky : y = .int kk := ((p3.res.fz p3.toPostX p2.rel).read p3.rel (intR_some e6)).int
  subst ky
  have r1 := Rep.evo (p3.evo p2.rel) _ _ r0
  refine ⟨a, ks, kk, j, rfl, rfl, l1, by rw [l2.length]; exact e10, q _ _ ?_⟩
  have ev : Evo (Av W.P ρ3 σ) H3 (Av W.P ρ3 σ) (upd H3 a (.lst (ks.set j v))) := ⟨fun c o h n => by rw [upd_ne (fun z => n (.inr (by rw [z]; exact at2)))]; exact h, fun c z => .inl z⟩
  have p4 := p3.rel.chBox (H' := upd H3 a (.lst (ks.set j v))) (b' := .lst (xs.set j d)) (bxAt_some e8) hq ⟨_, upd_same, RepL.evo ev _ _ (l2.set j r1)⟩ fun c o n h => by rw [upd_ne n]; exact h
  exact ((p1.toPostX.trans p2).trans (p3.toPostX.trans p4)).toPostC
theorem ds_put {s : Nat} {x : Str} (hN : S.N[s]? = some x) (hv : Vis S.sc x) (hd : (x == ("__debug__" : Str)) = false) (hcd : (x == ("__classdict__" : Str)) = false) (hk : DE G S k mk) (hval : DE G S v mv)
    (hs : ∀ env : PySem.Env, swapsWith v (some (.Subscript (.Name x opos) k pos')) pos.line env = pure false)
    (hs2 : ∀ env : PySem.Env, swapsWithSole [.Subscript (.Name x opos) k pos'] v pos.line env = pure false) (hw : ∀ env : PySem.Env, swappedStores [.Subscript (.Name x opos) k pos'] v env = pure none)
    (h1 : ∀ env : PySem.Env, (assignEach [.Subscript (.Name x opos) k pos'] env).map (·.2) = [assign (.Subscript (.Name x opos) k pos') env])
    (ha : ∀ (env : PySem.Env) v, assign (.Subscript (.Name x opos) k pos') env v = (do
      let ov ← holding [v] (eval (.Name x opos) env)
      let iv ← holding [v, ov] (eval k env)
      standAt pos'
      holding [v, ov, iv] (setItem ov iv v)
      release [v, ov, iv] [])) : DS G S (.Assign [.Subscript (.Name x opos) k pos'] v pos) (mput s mk mv) := by
  intro X c
  have pvx : PE X (.Name x opos) (tVar s) := pe_var (by rw [c.N]; exact hN) (by rw [c.sc]; exact hv) hd hcd
  have hu : X.A.units + 1 < cLine := hu_of c.room
  refine PS.weak (PS.or (ps_dput hu pvx (hk X c) (hval X c) (hs _)) (ps_asg (hval X c) (pg_sub pvx (hk X c) set_list (ha _)) (hs2 _) (hw _) (h1 _))) ?_
  rintro D σ H ⟨W, ρ, o, ρ', rel, em, q⟩
  unfold mput at em
  obtain ⟨⟨ow, b⟩, e1, em⟩ := Option.bind_eq_some_iff.mp em
  cases b with
  | dic kvs => exact .inl (rdputD ⟨W, ρ, o, ρ', rel, em, q⟩)
  | lst xs => exact .inr (rdputL ⟨W, ρ, o, ρ', rel, em, q⟩)

/-! name op= e (data); xs[i] op= e -/
def datOf : A → Option D
  | .dat d => some d
  | .box _ _ => none
theorem datOf_some {a : A} {d : D} (h : datOf a = some d) : a = .dat d := by cases a <;> cases h <;> rfl
def maug (i : Nat) (g : D → D → Option R) (m : ME) : MS := fun ρ => (ρ[i]?.join).bind fun a => (datOf a).bind fun d => (m ρ).bind fun y => (guardO (notBor y.2 i)).bind fun _ => (y.1.fz.vw y.2).bind fun e => (g d e).bind fun r => (stoR y.2 i r).map fun ρ' => (.nx, ρ')
theorem ds_aug {i : Nat} {x : Str} {op : Operator} {g : D → D → Option R} {xpos : Pos} (h : StoOk S i x) (he : DE G S e m) (ho : ∀ X, CxOk G S X → OpR X (inplaceOp op) (rD2 G.K g)) : DS G S (.AugAssign (.Name x xpos) op e pos) (maug i g m) := by
  intro X c
  refine PS.weak (ps_aug (i := i) (ti := rD2 G.K g) c.nd (by rw [c.N]; exact h.1) (by rw [c.sc]; exact h.2.1) (he X c) (fun pins s σ H x y v u Q I r1 r2 q => ho X c pins s σ H x y v u Q I r1 r2 q) (by rw [c.sc, c.fn]; exact h.2.2)) ?_
  rintro D σ H ⟨W, ρ, o, ρ', rel, em, q⟩
  unfold maug at em
  obtain ⟨a, e0, em⟩ := Option.bind_eq_some_iff.mp em
  obtain ⟨d, e3, em⟩ := Option.bind_eq_some_iff.mp em
  obtain ⟨⟨r, ρ1⟩, e1, em⟩ := Option.bind_eq_some_iff.mp em
  obtain ⟨u, e2, em⟩ := Option.bind_eq_some_iff.mp em
  obtain ⟨de, e4, em⟩ := Option.bind_eq_some_iff.mp em
  obtain ⟨rr, e5, em⟩ := Option.bind_eq_some_iff.mp em
  obtain ⟨ρ2, e6, em⟩ := Option.map_eq_some_iff.mp em
  cases em
  have := datOf_some e3
  subst this
  obtain ⟨v0, hv0, r0⟩ := rel.sl i _ (Option.join_eq_some_iff.mp e0)
  refine ⟨v0, hv0, W, ρ, r, ρ1, rel, e1, fun y H1 p1 => ?_⟩
  refine ⟨Av W.P ρ1 σ, d, de, rr, p1.rel.trk, .inl (Rep.evo (p1.evo rel) _ _ r0), (p1.res.fz p1.toPostX rel).read p1.rel e4, e5, fun v H' vp => ?_⟩
  exact q _ H' (sto_ok rel (p1.toPostX.fin vp) (guardO_some e2) e6)
/-- xs[i] op= e: the list's item, then e, then the store -/
def sLAug (td ty tv : TE) (rd : V → V → Hp → VK → Prop) : TS := fun D σ H => td σ H fun x H1 => ty σ H1 fun y H2 => ∃ p xs k v, x = .ref p ∧ y = .int k ∧ H2 p = some (.lst xs) ∧ 0 ≤ k ∧ k < 2 ^ 63 ∧ xs[k.toNat]? = some v ∧
  tv σ H2 fun y2 H3 => rd v y2 H3 fun z H4 => rSetL x y z H4 fun H5 => D.nx σ H5
theorem ps_laug {X : Cx} {o i value : Expr} {tpos : Pos} {td ty tv : TE} {op : Operator} {rd : V → V → Hp → VK → Prop} (ho : PE X o td) (hi : PE X i ty) (hv : PE X value tv) (hop : InOp X op rd)
    (ha : ∀ ov iv new, augStore i ov iv new = (do holding [new, ov, iv] (setItem ov iv new); release [new, ov, iv] []; pure .next)) : PS X (.AugAssign (.Subscript o i tpos) op value pos) (sLAug td ty tv rd) := by
  refine ⟨fun pins s σ H D I h => ?_⟩
  refine wpAny_AugAssign_SubscriptAny (thn (ho.run pins s σ H _ I h) fun u s1 ⟨x, H1, I1, rx, q1⟩ => thn (hi.run pins s1 σ H1 _ I1 q1) fun iv s2 ⟨y, H2, I2, ry, p, xs, k, v, ex, ey, hp, h0, h1, hx, q2⟩ => ?_) ha
  subst ex
  subst ey
  have rx0 := rx
  have ry0 := ry
  obtain rfl : u = Value.ref p := rx
  obtain ⟨t, rfl⟩ := ry
  obtain ⟨its, rv, pl, hz⟩ := I2.list (.inl (.inl hp))
  obtain ⟨w0, hw, rw0⟩ := rv.get hx
  refine wpAny_getItem_list pl.isList h0 h1 (x := w0) (by simpa using hw) ?_
  refine thn (hv.run pins s2 σ H2 _ I2 q2) fun w2 s4 ⟨y2, H3, I4, ry2, q3⟩ => thn (hop pins s4 σ H3 v y2 w0 w2 _ I4 rw0 ry2 q3) fun w3 s5 ⟨z, H4, I5, rz, q4⟩ => ?_
  exact thn (set_list pins s5 σ H4 _ _ z _ _ w3 _ I5 rx0 ry0 rz q4) fun _ s6 ⟨H5, I6, q5⟩ => ⟨σ, H5, I6, q5⟩
def maugL (s : Nat) (g : D → D → Option R) (mk mv : ME) : MS := fun ρ => (bxAt ρ s).bind fun _ => (mk ρ).bind fun z => (intR z.2 z.1.fz).bind fun k => (bxAt z.2 s).bind fun b => (lstOf b.2).bind fun xs => (guardO (decide (0 ≤ k ∧ k < 2 ^ 63))).bind fun _ => (xs[k.toNat]?).bind fun d =>
  (mv z.2).bind fun x => (x.1.fz.vw x.2).bind fun e => (g d e).bind fun r => (bxAt x.2 s).bind fun b2 => (lstOf b2.2).bind fun xs2 => (ixN xs2.length k).bind fun j => match r with
  | .dat d' => some (.nx, x.2.set s (some (.box b2.1 (.lst (xs2.set j d')))))
  | _ => none
theorem ds_augL {s : Nat} {x : Str} {op : Operator} {g : D → D → Option R} {tpos : Pos} (hN : S.N[s]? = some x) (hv : Vis S.sc x) (hd : (x == ("__debug__" : Str)) = false) (hcd : (x == ("__classdict__" : Str)) = false) (hk : DE G S k mk) (hval : DE G S v mv)
    (hop : ∀ X, CxOk G S X → OpR X (inplaceOp op) (rD2 G.K g)) (ha : ∀ ov iv new, augStore k ov iv new = (do holding [new, ov, iv] (setItem ov iv new); release [new, ov, iv] []; pure .next)) :
    DS G S (.AugAssign (.Subscript (.Name x opos) k tpos) op v pos) (maugL s g mk mv) := by
  intro X c
  have pvx : PE X (.Name x opos) (tVar s) := pe_var (by rw [c.N]; exact hN) (by rw [c.sc]; exact hv) hd hcd
  refine PS.weak (ps_laug pvx (hk X c) (hval X c) (rd := rD2 G.K g) (fun pins s σ H x y u v Q I r1 r2 q => hop X c pins s σ H x y u v Q I r1 r2 q) ha) ?_
  rintro D σ H ⟨W, ρ, o, ρ', rel, em, q⟩
  unfold maugL at em
  obtain ⟨⟨o0, b0⟩, e0, em⟩ := Option.bind_eq_some_iff.mp em
  obtain ⟨⟨rk, ρ1⟩, e1, em⟩ := Option.bind_eq_some_iff.mp em
  obtain ⟨kk, e2, em⟩ := Option.bind_eq_some_iff.mp em
  obtain ⟨⟨o1, b1⟩, e3, em⟩ := Option.bind_eq_some_iff.mp em
  obtain ⟨xs, e4, em⟩ := Option.bind_eq_some_iff.mp em
  obtain ⟨u, e5, em⟩ := Option.bind_eq_some_iff.mp em
  obtain ⟨d, e6, em⟩ := Option.bind_eq_some_iff.mp em
  obtain ⟨⟨rv, ρ2⟩, e7, em⟩ := Option.bind_eq_some_iff.mp em
  obtain ⟨de, e8, em⟩ := Option.bind_eq_some_iff.mp em
  obtain ⟨rr, e9, em⟩ := Option.bind_eq_some_iff.mp em
  obtain ⟨⟨o2, b2⟩, e10, em⟩ := Option.bind_eq_some_iff.mp em
  obtain ⟨xs2, e11, em⟩ := Option.bind_eq_some_iff.mp em
  obtain ⟨j, e12, em⟩ := Option.bind_eq_some_iff.mp em
  have t1 := lstOf_some e4
  have t2 := lstOf_some e11
  simp only at t1 t2
  subst t1
  subst t2
  cases rr with
  | new _ => cases em
  | ref _ => cases em
  | dat d' =>
    cases em
    obtain ⟨a, hq, _⟩ := rel.boxOk (bxAt_some e0)
    refine ⟨_, hq, W, ρ, rk, ρ1, rel, e1, fun y H2 p1 => ?_⟩
    obtain ⟨a1, hq1, bo1, at1, _⟩ := p1.rel.boxOk (bxAt_some e3)
    rw [hq] at hq1; cases hq1
    obtain ⟨ys, l1, l2⟩ := bo1
    have ky : y = .int kk := ((p1.res.fz p1.toPostX rel).read p1.rel (intR_some e2)).int
    subst ky
    obtain ⟨v0, hv0, r0⟩ := l2.get e6
    obtain ⟨g0, g1⟩ := guardO_dec e5
    refine ⟨a, ys, kk, v0, rfl, rfl, l1, g0, g1, hv0, W, ρ1, rv, ρ2, p1.rel, e7, fun y2 H3 p2 => ?_⟩
    refine ⟨Av W.P ρ2 σ, d, de, .dat d', p2.rel.trk, .inl (Rep.evo (p2.evo p1.rel) _ _ r0), (p2.res.fz p2.toPostX p1.rel).read p2.rel e8, e9, fun z H4 vp => ?_⟩
    have p3 := (p1.toPostX.trans p2.toPostX).fin vp
    obtain ⟨a2, hq2, bo2, at2, _⟩ := p3.rel.boxOk (bxAt_some e10)
    rw [hq] at hq2; cases hq2
    obtain ⟨zs, l3, l4⟩ := bo2
    refine ⟨a, zs, kk, j, rfl, rfl, l3, by rw [l4.length]; exact e12, q _ _ ?_⟩
    have ev : Evo (Av W.P ρ2 σ) H4 (Av W.P ρ2 σ) (upd H4 a (.lst (zs.set j z))) := ⟨fun c o h n => by rw [upd_ne (fun z => n (.inr (by rw [z]; exact at2)))]; exact h, fun c z => .inl z⟩
    have p4 := p3.rel.chBox (H' := upd H4 a (.lst (zs.set j z))) (b' := .lst (xs2.set j d')) (bxAt_some e10) hq ⟨_, upd_same, RepL.evo ev _ _ (l4.set j vp.res)⟩ fun c o n h => by rw [upd_ne n]; exact h
    exact (p3.toPostX.trans p4).toPostC

/-! while -/
def mwhN (c : MT) (b : MS) : Nat → MS
  | 0, _ => none
  | n + 1, ρ => (c ρ).bind fun x => if x.1 = true then (b x.2).bind fun y => match y.1 with
    | .nx => mwhN c b n y.2
    | .ct => mwhN c b n y.2
    | .bk => some (.nx, y.2)
    | .rt r => some (.rt r, y.2)
  else some (.nx, x.2)
open Classical in
noncomputable def mwh (c : MT) (b : MS) : MS := fun ρ => if h : ∃ n r, mwhN c b n ρ = some r then some (Classical.choose (Classical.choose_spec h)) else none
theorem mwhN_mono {c : MT} {b : MS} : ∀ {n : Nat} {ρ : En} {r : O × En}, mwhN c b n ρ = some r → ∀ k, mwhN c b (n + k) ρ = some r
  | 0, _, _, h, _ => by cases h
  | n + 1, ρ, r, h, k => by
    rw [show n + 1 + k = (n + k) + 1 by omega]
    obtain ⟨⟨t, ρ1⟩, e1, h⟩ := Option.bind_eq_some_iff.mp (show (c ρ).bind _ = _ from h)
    cases t with
    | false => simp only [mwhN, e1, Option.bind_some]; exact h
    | true =>
      rw [if_pos rfl] at h
      obtain ⟨⟨o, ρ2⟩, e2, h⟩ := Option.bind_eq_some_iff.mp h
      have e2' : b ρ1 = some (o, ρ2) := e2
      cases o with
      | nx => simp only [mwhN, e1, Option.bind_some, if_true, e2']; exact mwhN_mono h k
      | ct => simp only [mwhN, e1, Option.bind_some, if_true, e2']; exact mwhN_mono h k
      | bk => simp only [mwhN, e1, Option.bind_some, if_true, e2']; exact h
      | rt r => simp only [mwhN, e1, Option.bind_some, if_true, e2']; exact h
theorem mwh_of {c : MT} {b : MS} {n : Nat} {ρ : En} {r : O × En} (h : mwhN c b n ρ = some r) : mwh c b ρ = some r := by
  unfold mwh
  have hx : ∃ n r, mwhN c b n ρ = some r := ⟨n, r, h⟩
  rw [dif_pos hx]
  have h2 := Classical.choose_spec (Classical.choose_spec hx)
  have h3 := mwhN_mono h (Classical.choose hx)
  have h4 := mwhN_mono h2 n
  rw [Nat.add_comm] at h4
  rw [h3] at h4
  exact h4.symm
theorem mwh_some {c : MT} {b : MS} {ρ : En} {r : O × En} (h : mwh c b ρ = some r) : ∃ n, mwhN c b n ρ = some r := by
  unfold mwh at h
  split at h
  · rename_i hx
    cases h
    exact ⟨_, Classical.choose_spec (Classical.choose_spec hx)⟩
  · cases h
theorem ds_while {c : Expr} {body : List Stmt} {mc : MT} {mb : MS} (hc : DT G S c mc) (hb : DSs G S body mb) : DS G S (.While c body [] pos) (mwh mc mb) := by
  intro X cx
  refine PS.weak (ps_while (by rw [cx.xe]; exact PassesOwn.never) (hc X cx) (hb X cx)) ?_
  rintro D σ H ⟨W, ρ, o, ρ', rel, em, q⟩
  obtain ⟨n0, em⟩ := mwh_some em
  have aft : After G.K W D o ρ' ρ σ H := q
  refine ⟨fun n σ2 H2 => ∃ ρ2, PostC G.K W ρ σ H ρ2 σ2 H2 ∧ mwhN mc mb n ρ2 = some (o, ρ'), ⟨n0, ρ, PostC.refl rel, em⟩, ?_⟩
  rintro n σ2 H2 ⟨ρ2, p2, e2⟩
  cases n with
  | zero => cases e2
  | succ n =>
    obtain ⟨⟨t, ρ3⟩, e3, e2⟩ := Option.bind_eq_some_iff.mp (show (mc ρ2).bind _ = _ from e2)
    refine ⟨W, ρ2, t, ρ3, p2.rel, e3, fun H3 p3 => ?_⟩
    have p23 := p2.trans p3.toPostC
    cases t with
    | false =>
      rw [if_neg Bool.false_ne_true] at e2
      cases e2
      exact iteF (aft σ2 H3 p23)
    | true =>
      rw [if_pos rfl] at e2
      obtain ⟨⟨o4, ρ4⟩, e4, e2⟩ := Option.bind_eq_some_iff.mp e2
      refine iteT ⟨fun σ' H' => ∃ ρ5, PostC G.K W ρ σ H ρ5 σ' H' ∧ (o4 = .nx ∨ o4 = .ct) ∧ ρ5 = ρ4, fun σ' H' ⟨ρ5, p5, h5, e5⟩ => ⟨n, Nat.lt_succ_self _, ρ5, p5, ?_⟩, W, ρ3, o4, ρ4, p23.rel, e4, ?_⟩
      · rw [e5]
        rcases h5 with h5 | h5
        · subst h5; exact e2
        · subst h5; exact e2
      · cases o4 with
        | nx => exact fun σ4 H4 p5 => ⟨ρ4, p23.trans p5, .inl rfl, rfl⟩
        | ct => exact fun σ4 H4 p5 => ⟨ρ4, p23.trans p5, .inr rfl, rfl⟩
        | bk => cases e2; exact fun σ4 H4 p5 => aft σ4 H4 (p23.trans p5)
        | rt r => cases e2; exact fun v σ4 H4 p5 r5 => aft v σ4 H4 (p23.trans p5) r5
end

/-! a def's body keeps its promise -/
/-- what the parameters' boxes hold at the end -/
def outA : A → Option (Option A) → Option A
  | .dat d, _ => some (.dat d)
  | .box _ _, some (some (.box false b)) => some (.box false b)
  | .box _ _, _ => none
def outAs (ρ : En) : List A → Nat → Option (List A)
  | [], _ => some []
  | a :: as, i => (outA a ρ[i]?).bind fun x => (outAs ρ as (i + 1)).map fun xs => x :: xs
def startE (n : Nat) (as : List A) : En := as.map some ++ List.replicate (n - as.length) none
def mdef (n : Nat) (b : MS) : MF := fun as => (b (startE n as)).bind fun x => match x.1 with
  | .rt r => (outAs x.2 as 0).map fun o => (r, o)
  | .nx => (outAs x.2 as 0).map fun o => (.dat .none, o)
  | _ => none
theorem outA_box {o : Bool} {b : Bx} {x : Option (Option A)} {y : A} (h : outA (.box o b) x = some y) : ∃ b', x = some (some (.box false b')) ∧ y = .box false b' := by
  cases x with
  | none => cases h
  | some x => cases x with
    | none => cases h
    | some a => cases a with
      | dat d => cases h
      | box o' b' => cases o' with
        | true => cases h
        | false => cases h; exact ⟨b', rfl, rfl⟩
theorem outAs_get {ρ : En} : ∀ {as : List A} {i : Nat} {xs : List A}, outAs ρ as i = some xs → xs.length = as.length ∧ ∀ (j : Nat) a, as[j]? = some a → ∃ x, xs[j]? = some x ∧ outA a ρ[i + j]? = some x
  | [], _, _, h => by cases h; exact ⟨rfl, fun j a e => by simp at e⟩
  | a :: as, i, _, h => by
    obtain ⟨x, e1, h⟩ := Option.bind_eq_some_iff.mp (show (outA a ρ[i]?).bind _ = _ from h)
    obtain ⟨xs, e2, h⟩ := Option.map_eq_some_iff.mp h
    cases h
    obtain ⟨h1, h2⟩ := outAs_get e2
    refine ⟨by simp [h1], fun j b e => ?_⟩
    cases j with
    | zero => simp at e; subst e; exact ⟨x, rfl, e1⟩
    | succ j =>
      obtain ⟨y, h3, h4⟩ := h2 j b (by simpa using e)
      exact ⟨y, by simpa using h3, by rw [show i + (j + 1) = i + 1 + j by omega]; exact h4⟩

theorem startE_get {n : Nat} {as : List A} {i : Nat} {a : A} (h : (startE n as)[i]? = some (some a)) : as[i]? = some a := by
  unfold startE at h
  by_cases hi : i < as.length
  · rw [List.getElem?_append_left (by simpa using hi)] at h
    exact map_some_get h
  · rw [List.getElem?_append_right (by simpa using hi), List.getElem?_replicate] at h
    split at h <;> cases h
theorem start_get {N : List Str} {vs : List V} {i : Nat} {v : V} (h : vs[i]? = some v) : (L2.start N vs)[i]? = some (some v) := by
  unfold L2.start
  rw [List.getElem?_append_left (by simpa using (List.getElem?_eq_some_iff.mp h).1)]
  exact map_some_get' h
theorem start_get' {N : List Str} {vs : List V} {i : Nat} {v : V} (h : (L2.start N vs)[i]? = some (some v)) : vs[i]? = some v := by
  unfold L2.start at h
  by_cases hi : i < vs.length
  · rw [List.getElem?_append_left (by simpa using hi)] at h
    exact map_some_get h
  · rw [List.getElem?_append_right (by simpa using hi), List.getElem?_replicate] at h
    split at h <;> cases h
theorem startE_rel {K : PySem.W.Frag} {W : Wd} {as : List A} {vs : List V} {H : Hp} {N : List Str} (h : DRel K W (as.map some) (vs.map some) H) (hn : as.length ≤ N.length) : DRel K W (startE N.length as) (L2.start N vs) H := by
  have hl : as.length = vs.length := by simpa using h.len
  have sub : ∀ a, BoxAt (startE N.length as) (L2.start N vs) a → BoxAt (as.map some) (vs.map some) a := fun a ⟨i, o, b, e1, e2⟩ => ⟨i, o, b, map_some_get' (startE_get e1), map_some_get' (start_get' e2)⟩
  have ev : Evo (Av W.P (as.map some) (vs.map some)) H (Av W.P (startE N.length as) (L2.start N vs)) H := mono_av fun a z => z.imp id (sub a)
  refine ⟨?_, fun i a e => ?_, fun i j o b o' b' q e1 e2 e3 e4 => h.dis i j o b o' b' q (map_some_get' (startE_get e1)) (map_some_get' (startE_get e2)) (map_some_get' (start_get' e3)) (map_some_get' (start_get' e4)), h.prot, fun q z y => h.pdis q z (sub q y), h.keep, h.there⟩
  · unfold startE L2.start
    simp [hl]
  · obtain ⟨v, hv, r⟩ := h.sl i a (map_some_get' (startE_get e))
    exact ⟨v, start_get (map_some_get hv), r.evo ev fun _ _ _ _ z => z⟩
/-- the parameters at the def's end -/
theorem fn_end {K : PySem.W.Frag} {W : Wd} {as outs : List A} {vs : List V} {H0 H' : Hp} {ρ' : En} {σ' : L2.St} {r : R} {v : V} (h0 : DRel K W (as.map some) (vs.map some) H0) (hW : W.H0 = H0) (hb : ∀ (i : Nat) b, as[i]? ≠ some (A.box true b)) (hpb : ∀ a, W.PB a → BoxAt (as.map some) (vs.map some) a)
    (p : DRel K W ρ' σ' H') (ho : outAs ρ' as 0 = some outs) (rt : RtRel K W ρ' σ' H' r v) : PostF K W outs vs H0 r v H' ∧ as.map isBx = outs.map isBx := by
  have hl : as.length = vs.length := by simpa using h0.len
  obtain ⟨hlo, hg⟩ := outAs_get ho
  -- a box among the ends
  have oget : ∀ {j : Nat} {o : Bool} {b : Bx}, outs[j]? = some (.box o b) → o = false ∧ ρ'[j]? = some (some (.box false b)) ∧ ∃ b0, as[j]? = some (.box false b0) := fun {j o b} e => by
    have hj : j < as.length := by rw [← hlo]; exact (List.getElem?_eq_some_iff.mp e).1
    obtain ⟨x, h1, h2⟩ := hg j as[j] (List.getElem?_eq_getElem hj)
    rw [e] at h1; cases h1
    rw [Nat.zero_add] at h2
    have ha : as[j]? = some as[j] := List.getElem?_eq_getElem hj
    generalize as[j] = a at h2 ha
    cases a with
    | dat d => cases h2
    | box o' b' =>
      have ho' : o' = false := by cases o' with
        | false => rfl
        | true => exact (hb j b' ha).elim
      subst ho'
      obtain ⟨b1, e1, e2⟩ := outA_box h2
      cases e2
      exact ⟨rfl, e1, b', ha⟩
  have dget : ∀ {j : Nat} {d : PyData}, outs[j]? = some (.dat d) → as[j]? = some (.dat d) := fun {j d} e => by
    have hj : j < as.length := by rw [← hlo]; exact (List.getElem?_eq_some_iff.mp e).1
    obtain ⟨x, h1, h2⟩ := hg j as[j] (List.getElem?_eq_getElem hj)
    rw [e] at h1; cases h1
    rw [List.getElem?_eq_getElem hj]
    generalize as[j] = a at h2
    cases a with
    | dat d' => cases h2; rfl
    | box o' b' => obtain ⟨b1, e1, e2⟩ := outA_box h2; cases e2
  -- .. is where it was
  have addr : ∀ {j : Nat} {b : Bx}, ρ'[j]? = some (some (.box false b)) → ∀ {b0 : Bx}, as[j]? = some (.box false b0) → ∃ q, vs[j]? = some (.ref q) ∧ σ'[j]? = some (some (.ref q)) ∧ W.B j = some q := fun {j b} e {b0} ea => by
    obtain ⟨q, h1, _, _, _, h2⟩ := p.boxOk e
    obtain ⟨q2, h3, _, _, _, h4⟩ := h0.boxOk (map_some_get' ea)
    have e1 := h2 rfl
    rw [h4 rfl] at e1; cases e1
    exact ⟨_, map_some_get h3, h1, h4 rfl⟩
  have bat : ∀ a, BoxAt (outs.map some) (vs.map some) a → BorAt ρ' σ' a := fun a ⟨j, o, b, e1, e2⟩ => by
    obtain ⟨_, h1, b0, h2⟩ := oget (map_some_get e1)
    obtain ⟨q, h3, h4, _⟩ := addr h1 h2
    have := map_some_get e2
    rw [h3] at this; cases this
    exact ⟨j, b, h1, h4⟩
  have hs : as.map isBx = outs.map isBx := by
    refine List.ext_getElem? fun j => ?_
    rw [List.getElem?_map, List.getElem?_map]
    cases e : as[j]? with
    | none =>
      have : outs[j]? = none := by
        rw [List.getElem?_eq_none_iff] at e ⊢
        omega
      rw [this]
    | some a =>
      obtain ⟨x, h1, h2⟩ := hg j a e
      rw [h1]
      simp only [Option.map_some]
      cases a with
      | dat d => cases h2; rfl
      | box o b => obtain ⟨b1, e1, e2⟩ := outA_box h2; cases e2; rfl
  have exf : ∀ a, exR r v a → W.H0 a = none ∧ ¬ W.P a ∧ (∃ o, H' a = some o) ∧ ¬ BorAt ρ' σ' a := fun a z => by
    cases r with
    | dat d => exact z.elim
    | ref i => exact z.elim
    | new b =>
      obtain ⟨q, h1, h2, h3, h4, h5⟩ := rt
      cases h1
      cases z
      refine ⟨h2, h4, h3.there, fun ⟨i, b', e1, e2⟩ => ?_⟩
      obtain ⟨q', g1, g2, _⟩ := h5 i b' e1
      rw [e2] at g1; cases g1
      exact g2 rfl
  have ev : Evo (Av W.P (as.map some) (vs.map some)) H0 (Av (W.pl (exR r v)).P (outs.map some) (vs.map some)) H' := ⟨fun a o h n => p.keep a o (by rw [hW]; exact h) fun z => n (.inr (hpb a z)), fun a z => by
    rcases z with (z | z) | z
    · exact .inl (.inl z)
    · exact .inr (by rw [← hW]; exact (exf a z).1)
    · obtain ⟨j, o, b, e1, e2⟩ := z
      obtain ⟨_, h1, b0, h2⟩ := oget (map_some_get e1)
      exact .inl (.inr ⟨j, _, _, map_some_get' h2, e2⟩)⟩
  refine ⟨⟨⟨by simp [hlo, hl], fun j a e => ?_, fun j k o b o' b' q e1 e2 e3 e4 => ?_, fun a z => ?_, fun a z y => ?_, p.keep, p.there⟩, ?_⟩, hs⟩
  · have e := map_some_get e
    cases a with
    | dat d =>
      obtain ⟨v', hv, rr⟩ := h0.sl j _ (map_some_get' (dget e))
      exact ⟨v', hv, Rep.evo ev _ _ rr⟩
    | box o b =>
      obtain ⟨rfl, h1, b0, h2⟩ := oget e
      obtain ⟨q, h3, h4, h5⟩ := addr h1 h2
      refine ⟨_, map_some_get' h3, q, rfl, ?_, h5⟩
      cases r with
      | new bn =>
        obtain ⟨qn, g1, g2, g3, g4, g5⟩ := rt
        subst g1
        obtain ⟨q', k1, k2, k3⟩ := g5 j b h1
        rw [h4] at k1; cases k1
        refine k3.evo (mono_av fun a z => ?_) fun _ z => z
        rcases z with (z | z) | z
        · exact .inl (.inl z)
        · cases z; exact .inr rfl
        · exact .inl (.inr (bat a z))
      | dat d =>
        obtain ⟨q', k1, k2, _⟩ := p.boxOk h1
        rw [h4] at k1; cases k1
        refine k2.evo (mono_av fun a z => ?_) fun _ z => z
        rcases z with (z | z) | z
        · exact .inl z
        · exact z.elim
        · exact .inr (bat a z).box
      | ref i => exact rt.elim
  · obtain ⟨_, h1, b0, h2⟩ := oget (map_some_get e1)
    obtain ⟨_, h3, b1, h4⟩ := oget (map_some_get e2)
    exact h0.dis j k _ _ _ _ q (map_some_get' h2) (map_some_get' h4) e3 e4
  · rcases z with z | z
    · exact p.prot a z
    · exact (exf a z).2.2.1
  · rcases z with z | z
    · exact p.pdis a z (bat a y).box
    · exact (exf a z).2.2.2 (bat a y)
  · cases r with
    | dat d => exact Rep.evo (mono_av fun a z => z.imp id fun z => (bat a z).box) _ _ rt
    | new b =>
      obtain ⟨q, h1, h2, h3, h4, h5⟩ := rt
      exact ⟨q, h1, by rw [← hW]; exact h2, h3.evo (mono_av fun a z => z.imp (fun z => z.imp id (bat a)) id) fun _ z => z⟩
    | ref i => exact rt.elim

/-- the context of a def's body -/
theorem cxOf_ok {G : GC} {N : List Str} {qual : Str} {scope : Scope} {f : Addr} {cd : Value} {A : Around} {outer : List PySem.Env} {s : Shared} {H : Hp} {E : XK} {k : Nat} (hr : Room k (A.deeper (envOfC qual scope s.heap.objs.size f cd))) (hg : A.guards = some []) (nd : N.Nodup) :
    CxOk G ⟨N, scope, fun _ => true, k⟩ (cxOf CX0 G.prog G.w G.K G.mg G.base N qual scope f cd A outer s H E).nox where
  prog := rfl
  w := rfl
  K := rfl
  mg := rfl
  base := rfl
  N := rfl
  sc := rfl
  fn := rfl
  calm := rfl
  room := hr
  gd := by
    show (A.deeper (envOfC qual scope s.heap.objs.size f cd)).guards = some []
    rw [← hg]; rfl
  nd := nd
  xe := rfl

theorem fn_m {G : GC} {k : Nat} {f : Addr} {fd : FuncData} {x qual : Str} {st : Stmt} {N ps : List Str} {b : MS} (F : Fun G.K x qual st f fd) (S : FnScope N ps (defScope st)) (h : DSs G ⟨N, defScope st, fun _ => true, k⟩ (defBody st) b) :
    FnG G (k + 1) f fd ps (spM G.K ps.length (mdef N.length b)) := by
  obtain ⟨oc, od, kV, doc, pm, an, cdv, ct, osl, rfl, lk, hcd⟩ := F.ex
  have hpl : ps.length ≤ N.length := by have := congrArg List.length S.pre; rw [List.length_take] at this; omega
  have len : ∀ vs H Q E, spM G.K ps.length (mdef N.length b) vs H Q E → vs.length = ps.length := by
    rintro vs H Q E ⟨W, as, r, outs, h1, h2, _⟩
    have := h2.len
    simp only [List.length_map] at this
    rw [← this]; exact h1
  refine ⟨len, fun A outer s H args us vs Q E hr hgd e0 hb r hsp => ?_⟩
  have hl := len _ _ _ _ hsp
  have KX : G.K.In s.heap := e0.mod.kin.keeps fun b o e => (e0.bs b o e).1
  have lim : s.heap.NoLimit := e0.mod.nolimit.keeps fun b o e => (e0.bs b o e).1
  have hkind : ∀ y ∈ ps.zip us, (defScope st).names.lookup y.1 = some .local ∨ ((defScope st).names.lookup y.1 = some .cell ∧ ((cellsFrom (s.heap.objs.size + 1) (defScope st).names []).lookup y.1).isSome = true) := fun ⟨n, v⟩ hy => by
    rcases S.par n (List.of_mem_zip hy).1 with q | q
    · exact .inl q
    · exact .inr ⟨q, PySem.W.cellsFrom_some _ _ _ (.inl q)⟩
  refine codeAny_call_function hr.depth (KX _ _ lk) rfl S.co S.gen rfl (PySem.W.codeRec_of KX hcd) (hb _ _ _ _ ?_)
  refine wpAny_newFunctionEnv_cells S.kind hkind fun env he s1 x => ?_
  subst he
  refine ⟨lim.keeps x.toInCall.keep, codeAny_func ?_⟩
  have I : Inv (cxOf CX0 G.prog G.w G.K G.mg G.base N qual (defScope st) f cdv A outer s H E) [] (L2.start N vs) H s1 := inv_start S hr.hd e0 hl r x
  have c := cxOf_ok (G := G) (N := N) (qual := qual) (scope := defScope st) (f := f) (cd := cdv) (A := A) (outer := outer) (s := s) (H := H) (E := E) (hr.deeper _) hgd S.nd
  have hp := (h _ c).nox
  obtain ⟨W, as, rr, outs, h1, h2, h3, h4, h5, h6, h7, hq⟩ := hsp
  unfold mdef at h6
  obtain ⟨⟨o, ρ'⟩, e1, h6⟩ := Option.bind_eq_some_iff.mp h6
  have rel := startE_rel (N := N) h2 (by omega)
  have key : rdS G.K b { nx := fun _ H' => Q .non H', rt := Q } (L2.start N vs) H := by
    refine ⟨W, startE N.length as, o, ρ', rel, e1, ?_⟩
    cases o with
    | nx =>
      obtain ⟨outs', e2, e3⟩ := Option.map_eq_some_iff.mp (show (outAs ρ' as 0).map _ = _ from h6)
      cases e3
      exact fun σ' H' p => hq _ _ (fn_end h2 h3 h4 h5 p.rel e2 (r := .dat .none) (v := V.non) Rep.non).1
    | rt r1 =>
      obtain ⟨outs', e2, e3⟩ := Option.map_eq_some_iff.mp (show (outAs ρ' as 0).map _ = _ from h6)
      cases e3
      exact fun v σ' H' p rt => hq _ _ (fn_end h2 h3 h4 h5 p.rel e2 rt).1
    | bk => cases h6
    | ct => cases h6
  refine wpAny_mono (hp.run [] s1 (L2.start N vs) H _ I key) (fun fl s' hs => ?_) fun e s' hs => hs
  have fin : ∀ {σ' : L2.St} {H' : Hp} {v : V} {u : Value}, Inv (cxOf CX0 G.prog G.w G.K G.mg G.base N qual (defScope st) f cdv A outer s H E) [] σ' H' s' → RelV v u → Q v H' → CE outer G.prog G.w H s Q u s' :=
    fun {σ' H' v u} J rv q => ⟨v, H', J.os, J.bare, J.base, J.hok, rv, q⟩
  cases fl with
  | ret u =>
    obtain ⟨v, σ', H', J, rv, q⟩ := hs
    exact fin J rv q
  | next =>
    obtain ⟨σ', H', J, q⟩ := hs
    exact fin (v := V.non) (u := Value.none) J rfl q
  | brk =>
    obtain ⟨_, _, _, q⟩ := hs
    exact False.elim q
  | cont =>
    obtain ⟨_, _, _, q⟩ := hs
    exact False.elim q
/-! the law's call -/
/-- only the script is tracked -/
def scriptH (K : PySem.W.Frag) (a : Addr) (o : Obj) (xs : List V) : Hp := fun b => if b = a ∧ K.lookup a = none then some (.frz o (.lst xs)) else none
theorem scriptH_some {K : PySem.W.Frag} {a b : Addr} {o : Obj} {xs : List V} {u : HO} (h : scriptH K a o xs b = some u) : b = a ∧ K.lookup a = none ∧ u = .frz o (.lst xs) := by
  unfold scriptH at h
  split at h
  · rename_i c
    cases h
    exact ⟨c.1, c.2, rfl⟩
  · cases h
theorem rep_ints {K : PySem.W.Frag} {N : Addr → Prop} {H : Hp} : ∀ ns : List Int, RepL K N H (ns.map V.int) (ns.map PyData.int)
  | [] => .nil
  | n :: r => .cons (.int n) (rep_ints r)
theorem end_call {P : Program} {w : World} {K : PySem.W.Frag} {mg mb : Str → Option Value} {k : Nat} {fa a : Addr} {fd : FuncData} {x : Str} {m : MF} {s₁ : Shared} {vs : List Value} {ns : List Int} (KX : K.In s₁.heap) (hns : s₁.heap.Ns mainGlobals mg)
    (hb : s₁.heap.Ns builtinsNs mb) (hbb : ∀ x : Str, x ≠ "__name__" → mb x = bootBuiltins x) (hlim : s₁.heap.NoLimit) (hg : s₁.gens = #[]) (ha : s₁.heap.get? a = some { cls := .type "list", data := .seq vs.toArray }) (hi : IntsAre vs ns) (hl : ns.length ≤ 63)
    (hr : Room k callerA) (F : ∀ base : Heap, K.In base → base.Ns mainGlobals mg → FnG ⟨P, w, K, mg, base⟩ k fa fd [x] (spM K 1 m)) (hbind : ∀ (s : Shared) (u : Value), BindsTo s fd ⟨[u], []⟩ [(x, u)])
    (hm : ∃ outs, m [.dat (.list (ns.map PyData.int))] = some (.dat (.bool true), outs) ∧ outs.map isBx = [false]) :
    codeAny (model P w) callerA (.call (.ref fa) ⟨[.ref a], []⟩) (fun r s' => r = .ok (.ret (.bool true)) ∧ OldK s₁.heap s'.heap ∧ s'.os = s₁.os ∧ AllBare s'.gens) s₁ := by
  have hsz : ns.length ≤ sizeLine := by rw [sizeLine_eq]; omega
  let ob : Obj := { cls := .type "list", data := .seq vs.toArray }
  let H : Hp := scriptH K a ob (ns.map V.int)
  have hH : ∀ {b : Addr} {u : HO}, H b = some u → b = a ∧ K.lookup a = none ∧ u = .frz ob (.lst (ns.map V.int)) := fun e => scriptH_some e
  have untr : ∀ b, b ≠ a ∨ K.lookup a ≠ none → H b = none := fun b hb => by
    cases q : H b with
    | none => rfl
    | some u =>
      obtain ⟨h1, h2, _⟩ := hH q
      rcases hb with z | z
      · exact (z h1).elim
      · exact (z h2).elim
  have hok : HOk P w H s₁.heap := fun b u e => by
    obtain ⟨rfl, _, rfl⟩ := hH e
    exact ⟨ha, by rw [List.length_map]; exact hsz, vs, _, vals_ints hi, ha⟩
  -- the base: all that is not tracked
  have nsB : ∀ {b : Addr} {mm : Str → Option Value}, s₁.heap.Ns b mm → (hidT s₁.heap H).Ns b mm := fun {b mm} ⟨o, es, ep, e, d, r⟩ => by
    refine ⟨o, es, ep, hidT_get e (untr b (.inl fun z => ?_)), d, r⟩
    rw [z, ha] at e
    cases e
    have d' : Data.seq vs.toArray _ = Data.dict es ep := d
    cases d'
  have kB : K.In (hidT s₁.heap H) := fun b o e => hidT_get (KX b o e) (by
    by_cases z : b = a
    · subst z; exact untr b (.inr (by rw [e]; exact Option.some_ne_none o))
    · exact untr b (.inl z))
  have md : Mod K mg (hidT s₁.heap H) := ⟨kB, nsB hns, ⟨mb, nsB hb, hbb⟩, let ⟨mc, h1, h2⟩ := hlim; ⟨mc, nsB h1, h2⟩⟩
  have e0 : Env0 P w K mg (hidT s₁.heap H) callerA [] s₁ H := ⟨rfl, md, fun b o e => of_hidT e, Nat.le_of_eq (hidT_size _ _), trivial, fun b z => (by cases z), hok, AllBare.of_eq hg⟩
  obtain ⟨outs, em, ho⟩ := hm
  have noBox : ∀ (σ : L2.St) q, ¬ BoxAt (([A.dat (.list (ns.map PyData.int))] : List A).map some) σ q := fun σ q ⟨i, o, b, e1, _⟩ => by
    cases i with
    | zero => cases e1
    | succ i => cases e1
  have rl : DRel K ⟨fun _ => False, fun _ => none, H⟩ (([A.dat (.list (ns.map PyData.int))] : List A).map some) (([V.ref a] : List V).map some) H := by
    refine ⟨rfl, fun i z e => ?_, fun i j o b o' b' q e1 _ _ _ => ?_, fun q z => z.elim, fun q z => z.elim, fun _ _ h _ => h, fun _ o h => ⟨o, h⟩⟩
    · cases i with
      | succ i => cases e
      | zero =>
        cases e
        refine ⟨.ref a, rfl, .lst ?_ (rep_ints ns)⟩
        cases hk : K.lookup a with
        | none => exact .inl ⟨.inr ⟨ob, if_pos ⟨rfl, hk⟩⟩, fun z => z.elim id (noBox _ a)⟩
        | some o =>
          have e := KX a o hk
          rw [ha] at e
          cases e
          exact .inr ⟨vs, _, hk, by rw [hi.length]; exact hsz, vals_ints hi⟩
    · cases i with
      | zero => cases e1
      | succ i => cases e1
  have sp : spM K 1 m [.ref a] H (fun v _ => v = .bl true) fun _ _ _ => False :=
    ⟨_, _, _, outs, rfl, rl, rfl, fun i b e => (by cases i <;> cases e), fun a ⟨i, z⟩ => (by cases z), em, ho.symm, fun v H' p => by
      have z := p.res
      cases (show Rep _ _ _ _ _ from z)
      rfl⟩
  refine codeAny_mono ((F _ kB (nsB hns)).run callerA [] s₁ H ⟨[.ref a], []⟩ [.ref a] [.ref a] _ _ hr rfl e0 (hbind s₁ (.ref a)) (.cons rfl .nil) sp) fun r s' h => ?_
  cases r with
  | error e => exact h.elim
  | ok fl => cases fl with
    | ret u =>
      obtain ⟨v, H', os, bare, un, hok', rv, rfl⟩ := h
      cases rv
      refine ⟨rfl, OldK.of_keep fun b o e => ?_, os, bare⟩
      cases q : H b with
      | none => exact un.keep b o e q (fun z => by cases z) (by simp)
      | some u =>
        obtain ⟨rfl, _, rfl⟩ := hH q
        have k2 := hok' _ _ (un.frzs _ _ _ q)
        rw [ha] at e
        cases e
        exact k2.1
    | next => exact False.elim h
    | brk => exact False.elim h
    | cont => exact False.elim h
theorem walk_G {l : PySem.W.OpenLaw} {n k : Nat} {q : Program} {loose : List Str} {XP : (Str → Option Value) → Heap → Prop} {YP : World → Heap → Prop} {d : DefRec} {K : Params → PySem.W.Frag} {x : Str} {m : MF} (hn : l.most = some n) (hn63 : n ≤ 63)
    (hdf : d.params.defaults = []) (hr : Room k callerA) (hY : ∀ (w : World) (h : Heap), YP w h → (K w.params).In h)
    (F : ∀ (w : World) (mg : Str → Option Value) (fa : Addr) (h : Heap), (K w.params).In h → h.Ns mainGlobals mg → mg d.name = some (.ref fa) → ∃ fd : FuncData, (∀ (s : Shared) (u : Value), BindsTo s fd ⟨[u], []⟩ [(x, u)]) ∧
      ∀ base : Heap, (K w.params).In base → base.Ns mainGlobals mg → FnG ⟨l.prog, w, K w.params, mg, base⟩ k fa fd [x] (spM (K w.params) 1 m))
    (hm : ∀ ns : List Int, ns.length ≤ 63 → ∃ outs, m [.dat (.list (ns.map PyData.int))] = some (.dat (.bool true), outs) ∧ outs.map isBx = [false]) :
    PySem.W.WalkO q loose XP YP l.row.toRowW d [] (fun f vs => PySem.call f vs) := by
  refine Att.attach_call hn hdf fun w s₀ s₁ mg mb fa o pm cd doc a vs ns G Y ho hd hcd hmg hobj hints hlen hg => ?_
  obtain ⟨fd, hb, hF⟩ := F w mg fa _ (hY w _ Y) G.T.g hmg
  exact end_call (hY w _ Y) G.T.g G.T.b G.T.builtins G.T.nolimit hg hobj hints (Nat.le_trans hlen hn63) hr hF hb (hm ns (Nat.le_trans hlen hn63))
end L3

namespace L3
open PySem PySem.Spec PyProof.Rows L2

section
variable {K : PySem.W.Frag} {N : Addr → Prop} {H : Hp} {v : V}
theorem VPost.dat {d : D} (r : Rep K N H v d) : VPost K N H (.dat d) v H := ⟨fun _ _ z => z, r⟩
/-- a new list -/
theorem VPost.lst {p : Addr} {xs : List V} {ds : List D} (tk : Trk N H) (hp : H p = none) (r : RepL K N H xs ds) : VPost K N H (.new (.lst ds)) (.ref p) (upd H p (.lst xs)) :=
  ⟨fresh_upd hp, p, rfl, hp, xs, upd_same, RepL.evo (fresh_evo hp) _ _ r⟩
theorem VPost.tup {p : Addr} {xs : List V} {ds : List D} {o : Obj} (tk : Trk N H) (hp : H p = none) (ho : o.dict = none) (r : RepL K N H xs ds) : VPost K N H (.dat (.tuple ds)) (.ref p) (upd H p (.frz o (.tup xs))) :=
  ⟨fresh_upd hp, .tup (.inl ⟨⟨o, upd_same, ho⟩, fun z => by obtain ⟨o, e⟩ := tk _ z; rw [hp] at e; cases e⟩) (RepL.evo (fresh_evo' hp) _ _ r)⟩
theorem VPost.dic {p : Addr} {ks : List (Key × V)} {kvs : List (Key × D)} (tk : Trk N H) (hp : H p = none) (r : RepK K N H ks (dkv kvs)) : VPost K N H (.new (.dic kvs)) (.ref p) (upd H p (.dK ks)) :=
  ⟨fresh_upd hp, p, rfl, hp, ks, upd_same, RepK.evo (fresh_evo hp) _ _ r⟩
mutual
theorem Rep.dp : ∀ (d : D) (v : V), Rep K N H v d → d.canLay0 = true → Dp K H v d
  | .none, _, h, _ => by cases h; exact .non
  | .bool b, _, h, _ => by cases h; exact .bl b
  | .int i, _, h, _ => by cases h; exact .int i
  | .str x, _, h, _ => by cases h; exact .str x
  | .list ds, _, h, e => by cases h with | lst h1 h2 => exact .lst h1.sq (RepL.dp ds _ h2 (by simpa [PyData.canLay0] using e))
  | .tuple ds, _, h, e => by cases h with | tup h1 h2 => exact .tup h1.sq (RepL.dp ds _ h2 (by simpa [PyData.canLay0] using e))
  | .dict _, _, _, e => by simp [PyData.canLay0] at e
theorem RepL.dp : ∀ (ds : List D) (vs : List V), RepL K N H vs ds → PyData.canLayAll0 ds = true → DpAll K H vs ds
  | [], _, h, _ => by cases h; exact .nil
  | d :: ds, _, h, e => by
    have e' : d.canLay0 = true ∧ PyData.canLayAll0 ds = true := by simpa [PyData.canLayAll0] using e
    cases h with | cons h1 h2 => exact .cons (Rep.dp d _ h1 e'.1) (RepL.dp ds _ h2 e'.2)
end
theorem SRep.dp {d : D} (h : SRep K N H v d) (e : d.canLay0 = true) : Dp K H v d := by
  cases d with
  | list ds => obtain ⟨a, xs, rfl, h1, h2⟩ := h.list; exact .lst h1 (RepL.dp ds _ h2 (by simpa [PyData.canLay0] using e))
  | tuple ds => obtain ⟨a, xs, rfl, h1, h2⟩ := h.tuple; exact .tup h1.sq (RepL.dp ds _ h2 (by simpa [PyData.canLay0] using e))
  | dict ds => simp [PyData.canLay0] at e
  | none => rw [h.none]; exact .non
  | bool b => rw [h.bool]; exact .bl b
  | int i => rw [h.int]; exact .int i
  | str x => rw [h.str]; exact .str x
theorem SReps.one {vs : List V} {d : D} (h : SReps K N H vs [d]) : ∃ v, vs = [v] ∧ SRep K N H v d := by
  cases h with
  | cons r t => cases t; exact ⟨_, rfl, r⟩
theorem SReps.two {vs : List V} {d e : D} (h : SReps K N H vs [d, e]) : ∃ v w, vs = [v, w] ∧ SRep K N H v d ∧ SRep K N H w e := by
  cases h with
  | cons r t => cases t with
    | cons r2 t => cases t; exact ⟨_, _, rfl, r, r2⟩
theorem SReps.nil {vs : List V} (h : SReps K N H vs []) : vs = [] := by cases h; rfl
/-- a list as it stands -/
theorem SRep.listM {X : Cx} {pins : List (Addr × Obj)} {σ : L2.St} {s : Shared} {ds : List D} (I : Inv X pins σ H s) (h : SRep X.K N H v (.list ds)) :
    ∃ a xs its n, v = .ref a ∧ RepL X.K N H xs ds ∧ Vals xs its ∧ xs.length ≤ sizeLine ∧ s.heap.get? a = some { cls := .type "list", data := .seq its.toArray n } := by
  have fin : ∀ {a : Addr} {xs : List V}, ObjOk X.prog X.w H s.heap a (.lst xs) → ∃ its n, Vals xs its ∧ xs.length ≤ sizeLine ∧ s.heap.get? a = some { cls := .type "list", data := .seq its.toArray n } := fun {a xs} h => by
    obtain ⟨z, its, n, r, e⟩ := h
    exact ⟨its, n, r, z, e⟩
  rcases h with h | ⟨q, b, rfl, e, bo⟩
  · cases h with
    | lst h1 h2 =>
      rename_i a xs
      rcases h1 with ⟨h1, _⟩ | ⟨its, n, k1, k2, k3⟩
      · obtain ⟨its, n, g1, g2, g3⟩ := fin (h1.ok I.hok)
        exact ⟨a, xs, its, n, rfl, h2, g1, g2, g3⟩
      · exact ⟨a, xs, its, n, rfl, h2, k3, by rw [k3.length]; exact k2, I.kIn a _ k1⟩
  · cases b with
    | dic kvs => cases e
    | lst xs =>
      cases e
      obtain ⟨ys, e, r⟩ := bo
      obtain ⟨its, n, g1, g2, g3⟩ := fin (I.hok q _ e)
      exact ⟨q, ys, its, n, rfl, r, g1, g2, g3⟩
end

/-! arithmetic, +, * -/
def addD : D → D → Option R
  | .int i, .int j => some (.dat (.int (i + j)))
  | .str x, .str y => if x.length + y.length ≤ sizeLine then some (.dat (.str (x ++ y))) else none
  | .list xs, .list ys => if xs.length + ys.length ≤ sizeLine then some (.new (.lst (xs ++ ys))) else none
  | .tuple xs, .tuple ys => if xs.length + ys.length ≤ sizeLine then some (.dat (.tuple (xs ++ ys))) else none
  | _, _ => none
def subD : D → D → Option R
  | .int i, .int j => some (.dat (.int (i - j)))
  | _, _ => none
def mulD : D → D → Option R
  | .int i, .int j => if (-(2 ^ 64) < i ∧ i < 2 ^ 64) ∨ (-(2 ^ 64) < j ∧ j < 2 ^ 64) then some (.dat (.int (i * j))) else none
  | .list xs, .int k => if -(2 ^ 63) ≤ k ∧ k < 2 ^ 63 ∧ xs.length * k.toNat ≤ sizeLine then some (.new (.lst (List.replicate k.toNat xs).flatten)) else none
  | _, _ => none
def fdivD : D → D → Option R
  | .int i, .int j => if 0 < j ∧ j < 1073741824 then some (.dat (.int (i / j))) else none
  | _, _ => none
def modD : D → D → Option R
  | .int i, .int j => if 0 < j then some (.dat (.int (i % j))) else none
  | _, _ => none
def powD : D → D → Option R
  | .int i, .int j => if 0 ≤ j ∧ j ≤ 1000000 ∧ i.natAbs < 2 ^ 64 then some (.dat (.int (i ^ j.toNat))) else none
  | _, _ => none
section
variable {G : GC} {S : SC}
theorem RepL.rep {K : PySem.W.Frag} {N : Addr → Prop} {H : Hp} {vs : List V} {ds : List D} (h : RepL K N H vs ds) : ∀ k : Nat, RepL K N H (List.replicate k vs).flatten (List.replicate k ds).flatten
  | 0 => .nil
  | k + 1 => by
    rw [List.replicate_succ, List.replicate_succ, List.flatten_cons, List.flatten_cons]
    exact h.append (RepL.rep h k)
theorem op_addD (X : Cx) (c : CxOk G S X) : OpR X (binaryOp .Add) (rD2 G.K addD) := by
  intro pins s σ H x y v u Q I rx ry ⟨N, d, e, r, tk, hx, hy, eg, q⟩
  rw [← c.K] at hx hy q
  unfold addD at eg
  split at eg
  · cases eg
    have e1 := hx.int; have e2 := hy.int
    subst e1; subst e2
    exact op_add pins s σ H _ _ v u Q I rx ry ⟨_, _, rfl, rfl, q _ H (.dat (.int _))⟩
  · split at eg
    · cases eg
      have e1 := hx.str
      have e2 := hy.str
      subst e1
      subst e2
      exact op_add_str pins s σ H _ _ v u Q I rx ry ⟨_, _, rfl, rfl, by assumption, q _ H (.dat (.str _))⟩
    · cases eg
  · split at eg
    · cases eg
      rename_i hz
      obtain ⟨a, xs, its, n, rfl, l1, r1, z1, g1⟩ := hx.listM I
      obtain ⟨b, ys, its2, n2, rfl, l2, r2, z2, g2⟩ := hy.listM I
      cases rx
      cases ry
      have h1 := r1.length
      have h2 := r2.length
      refine PySem.P.add_list g1 g2 ?_ (by rw [List.size_toArray, List.size_toArray, ← h1, ← h2, l1.length, l2.length]; omega)
      rw [show its.toArray ++ its2.toArray = (its ++ its2).toArray by simp]
      exact ⟨.ref _, _, I.lnew (t' := s.toks) (r1.append r2) (by rw [List.length_append, l1.length, l2.length]; exact hz), rfl, q _ _ (.lst tk I.fresh (l1.append l2))⟩
    · cases eg
  · split at eg
    · cases eg
      rename_i xs ys hz
      obtain ⟨a, vs, rfl, h1, l1⟩ := hx.tuple
      obtain ⟨b, ws, rfl, h2, l2⟩ := hy.tuple
      cases rx
      cases ry
      obtain ⟨its, r1, p1, _⟩ := I.tuple h1.sq
      obtain ⟨its2, r2, p2, _⟩ := I.tuple h2.sq
      by_cases hx : vs = []
      · subst hx
        cases r1
        cases l1
        exact cat_tup0 p1 p2 ⟨.ref b, H, I, rfl, q _ H (.dat (.tup h2 l2))⟩
      · refine HT.cat_tup p1 p2 (fun z => hx (r1.nil_iff.mp z)) (fun z => ⟨.ref a, H, I, rfl, ?_⟩) (fun z => ?_) (by rw [← r1.length, ← r2.length, l1.length, l2.length]; exact hz)
        · have z2 := r2.nil_iff.mp z
          subst z2
          cases l2
          rw [List.append_nil] at q
          exact q _ H (.dat (.tup h1 l1))
        · exact ⟨.ref s.heap.objs.size, _, ftup_new (t' := s.toks) I (r1.append r2) (by rw [List.length_append, l1.length, l2.length]; exact hz), rfl, q _ _ (.tup tk I.fresh rfl (l1.append l2))⟩
    · cases eg
  · cases eg
theorem op_int2 {op : Operator} {g : D → D → Option R} {C : Int → Int → Prop} {f : Int → Int → Int} (X : Cx) (c : CxOk G S X) (ho : OpR X (binaryOp op) (rI C fun i j => .int (f i j))) (hg : ∀ d e r, g d e = some r → ∃ i j, d = .int i ∧ e = .int j ∧ C i j ∧ r = .dat (.int (f i j))) : OpR X (binaryOp op) (rD2 G.K g) := by
  intro pins s σ H x y v u Q I rx ry ⟨N, d, e, r, tk, hx, hy, eg, q⟩
  obtain ⟨i, j, rfl, rfl, hc, rfl⟩ := hg d e r eg
  have e1 := hx.int
  have e2 := hy.int
  subst e1
  subst e2
  exact ho pins s σ H _ _ v u Q I rx ry ⟨i, j, rfl, rfl, hc, q _ H (.dat (.int _))⟩
theorem iop_int2 {op : Operator} {g : D → D → Option R} {f : Int → Int → Int} (X : Cx) (c : CxOk G S X) (ho : OpR X (inplaceOp op) (rI0 fun i j => .int (f i j))) (hg : ∀ d e r, g d e = some r → ∃ i j, d = .int i ∧ e = .int j ∧ r = .dat (.int (f i j))) : OpR X (inplaceOp op) (rD2 G.K g) := by
  intro pins s σ H x y v u Q I rx ry ⟨N, d, e, r, tk, hx, hy, eg, q⟩
  obtain ⟨i, j, rfl, rfl, rfl⟩ := hg d e r eg
  have e1 := hx.int
  have e2 := hy.int
  subst e1
  subst e2
  exact ho pins s σ H _ _ v u Q I rx ry ⟨i, j, rfl, rfl, q _ H (.dat (.int _))⟩
def addI : D → D → Option R
  | .int i, .int j => some (.dat (.int (i + j)))
  | _, _ => none
theorem iop_addI (X : Cx) (c : CxOk G S X) : OpR X (inplaceOp .Add) (rD2 G.K addI) := iop_int2 X c iop_add fun d e r h => by
  cases d <;> cases e <;> first | (cases h; exact ⟨_, _, rfl, rfl, rfl⟩) | cases h
theorem iop_subI (X : Cx) (c : CxOk G S X) : OpR X (inplaceOp .Sub) (rD2 G.K subD) := iop_int2 X c iop_sub fun d e r h => by
  cases d <;> cases e <;> first | (cases h; exact ⟨_, _, rfl, rfl, rfl⟩) | cases h
theorem op_subD (X : Cx) (c : CxOk G S X) : OpR X (binaryOp .Sub) (rD2 G.K subD) := by
  intro pins s σ H x y v u Q I rx ry ⟨N, d, e, r, tk, hx, hy, eg, q⟩
  unfold subD at eg
  split at eg
  · cases eg
    have e1 := hx.int
    have e2 := hy.int
    subst e1
    subst e2
    exact op_sub pins s σ H _ _ v u Q I rx ry ⟨_, _, rfl, rfl, q _ H (.dat (.int _))⟩
  · cases eg
theorem op_fdivD (X : Cx) (c : CxOk G S X) : OpR X (binaryOp .FloorDiv) (rD2 G.K fdivD) := op_int2 X c op_fdiv fun d e r h => by
  unfold fdivD at h
  split at h
  · split at h
    · cases h; exact ⟨_, _, rfl, rfl, by assumption, rfl⟩
    · cases h
  · cases h
theorem op_modD (X : Cx) (c : CxOk G S X) : OpR X (binaryOp .Mod) (rD2 G.K modD) := op_int2 X c op_mod fun d e r h => by
  unfold modD at h
  split at h
  · split at h
    · cases h; exact ⟨_, _, rfl, rfl, by assumption, rfl⟩
    · cases h
  · cases h
theorem op_powD (X : Cx) (c : CxOk G S X) : OpR X (binaryOp .Pow) (rD2 G.K powD) := op_int2 X c op_pow fun d e r h => by
  unfold powD at h
  split at h
  · split at h
    · cases h; exact ⟨_, _, rfl, rfl, by assumption, rfl⟩
    · cases h
  · cases h
theorem op_mulD (X : Cx) (c : CxOk G S X) : OpR X (binaryOp .Mult) (rD2 G.K mulD) := by
  intro pins s σ H x y v u Q I rx ry ⟨N, d, e, r, tk, hx, hy, eg, q⟩
  rw [← c.K] at hx hy q
  unfold mulD at eg
  split at eg
  · split at eg
    · cases eg
      have e1 := hx.int
      have e2 := hy.int
      subst e1
      subst e2
      exact op_mul pins s σ H _ _ v u Q I rx ry ⟨_, _, rfl, rfl, by assumption, q _ H (.dat (.int _))⟩
    · cases eg
  · split at eg
    · cases eg
      rename_i ds k hk
      obtain ⟨h1, h2, hz⟩ := hk
      have e2 := hy.int
      subst e2
      obtain ⟨l, xs, its, n, rfl, l1, r1, z1, g1⟩ := hx.listM I
      cases rx
      obtain ⟨t, rfl⟩ := ry
      have hl := r1.length
      have hlen : its.toArray.size * k.toNat ≤ sizeLine := by rw [List.size_toArray, ← hl, l1.length]; exact hz
      have hcap : ¬ its.toArray.size * k.toNat > (2 ^ 63 - 1) / 8 := by
        have : (sizeLine : Nat) ≤ (2 ^ 63 - 1) / 8 := by decide
        omega
      have hfit : ¬ (!Builtin.List.listFitsIndex k) = true := by rw [fitsIndex_both h1 h2]; exact Bool.false_ne_true
      have hlong : ¬ Builtin.List.listTooLong (its.toArray.size * k.toNat) = true := by rw [notLongL hlen]; exact Bool.false_ne_true
      have f0 : ∀ m : Nat, List.foldl (fun x1 x2 => x1 ++ x2) #[] (List.replicate m its.toArray) = (List.replicate m its).flatten.toArray := fun m => by
        have := foldl_rep its m []
        rw [List.nil_append] at this
        exact this
      have hnew : List.foldl (fun x1 x2 => x1 ++ x2) #[] (List.replicate (if its.toArray.isEmpty = true then 0 else k.toNat) its.toArray) = (List.replicate k.toNat its).flatten.toArray := by
        rw [f0]
        cases its with
        | nil => simp
        | cons a r' => rw [if_neg (by simp)]
      refine wpAny_binaryOp_repeat_ref (T := "list") (U := "int") (by decide) ⟨_, g1, rfl⟩ (fun s' => typeIs_int s' k t) noFill_list_mul F.fills_int_mul F.slot_int_rmul repeat_list F.slot_int_index.lookup
        (call_meets F.slot_int_rmul (typeIs_int s k t) F.entry_int_rmul (F.args_int_rmul_2 _ _) (int___rmul___int_list k t l its.toArray n)
          ⟨g1, rfl, ⟨_, g1, rfl⟩, call_meets F.slot_list_mul ⟨_, g1, rfl⟩ F.entry_list_mul (F.args_list_mul_2 _ _) (AutoListH.list___mul___list_int_3 l its.toArray n k t hfit hcap hlong) ⟨g1, ?_⟩⟩)
      rw [hnew]
      exact ⟨.ref _, _, I.lnew (t' := s.toks) (r1.rep k.toNat) (by rw [PyProof.Rows.lm_len_rep_flat, Nat.mul_comm, l1.length]; exact hz), rfl, q _ _ (.lst tk I.fresh (l1.rep k.toNat))⟩
    · cases eg
  · cases eg

/-! comparisons -/
def scalD : D → D → Bool
  | .int _, .int _ => true
  | .str _, .str _ => true
  | .bool _, .bool _ => true
  | .none, .none => true
  | _, _ => false
/-- what == may be asked of -/
def eqOk (d e : D) : Bool := scalD d e || (SeqAt.shaped d && SeqAt.shaped e)
def eqD (d e : D) : Option R := if eqOk d e = true then some (.dat (.bool (PyData.eqv d e))) else none
def neD (d e : D) : Option R := if eqOk d e = true then some (.dat (.bool (!PyData.eqv d e))) else none
theorem scal_rep {K : PySem.W.Frag} {N : Addr → Prop} {H : Hp} {v w : V} {d e : D} (hx : SRep K N H v d) (hy : SRep K N H w e) (h : scalD d e = true) : scal v w = true ∧ decide (v = w) = PyData.eqv d e := by
  cases d <;> cases e <;> first
    | exact absurd (show false = true from h) Bool.false_ne_true
    | (rw [hx.none, hy.none]; exact ⟨rfl, rfl⟩)
    | (rw [hx.bool, hy.bool]; exact ⟨rfl, by rw [dec_bl]; simp [PyData.eqv]⟩)
    | (rw [hx.int, hy.int]; exact ⟨rfl, by rw [dec_int]; simp [PyData.eqv]⟩)
    | (rw [hx.str, hy.str]; exact ⟨rfl, by rw [Bool.eq_iff_iff]; simp [PyData.eqv]⟩)
theorem op_eqD' (X : Cx) (c : CxOk G S X) : OpR X (compareOp .Eq) (rD2 G.K eqD) := by
  intro pins s σ H x y v u Q I rx ry ⟨N, d, e, r, tk, hx, hy, eg, q⟩
  rw [← c.K] at hx hy q
  unfold eqD at eg
  split at eg
  · cases eg
    rename_i h
    unfold eqOk at h
    rcases Bool.or_eq_true_iff.mp h with h | h
    · obtain ⟨h1, h2⟩ := scal_rep hx hy h
      exact op_eq pins s σ H x y v u Q I rx ry ⟨h1, by rw [h2]; exact q _ H (.dat (.bl _))⟩
    · obtain ⟨h1, h2⟩ := Bool.and_eq_true_iff.mp h
      exact op_eqD c.room.units pins s σ H x y v u Q I rx ry ⟨d, e, hx.dp (SeqAt.canLay_of_shaped h1), hy.dp (SeqAt.canLay_of_shaped h2), h1, h2, q _ H (.dat (.bl _))⟩
  · cases eg
theorem op_neD' (X : Cx) (c : CxOk G S X) : OpR X (compareOp .NotEq) (rD2 G.K neD) := by
  intro pins s σ H x y v u Q I rx ry ⟨N, d, e, r, tk, hx, hy, eg, q⟩
  rw [← c.K] at hx hy q
  unfold neD at eg
  split at eg
  · cases eg
    rename_i h
    unfold eqOk at h
    rcases Bool.or_eq_true_iff.mp h with h | h
    · obtain ⟨h1, h2⟩ := scal_rep hx hy h
      exact op_ne pins s σ H x y v u Q I rx ry ⟨h1, by rw [h2]; exact q _ H (.dat (.bl _))⟩
    · obtain ⟨h1, h2⟩ := Bool.and_eq_true_iff.mp h
      exact op_neD c.room.units pins s σ H x y v u Q I rx ry ⟨d, e, hx.dp (SeqAt.canLay_of_shaped h1), hy.dp (SeqAt.canLay_of_shaped h2), h1, h2, q _ H (.dat (.bl _))⟩
  · cases eg
def ltD : D → D → Option R
  | .int i, .int j => some (.dat (.bool (decide (i < j))))
  | .str x, .str y => some (.dat (.bool (decide (x.cps.toList < y.cps.toList))))
  | _, _ => none
def leD : D → D → Option R
  | .int i, .int j => some (.dat (.bool (decide (i ≤ j))))
  | .str x, .str y => some (.dat (.bool (!decide (y.cps.toList < x.cps.toList))))
  | _, _ => none
def gtD (d e : D) : Option R := ltD e d
def geD (d e : D) : Option R := match d, e with
  | .int i, .int j => some (.dat (.bool (decide (j ≤ i))))
  | .str x, .str y => some (.dat (.bool (!decide (x.cps.toList < y.cps.toList))))
  | _, _ => none
theorem op_ltD (X : Cx) (c : CxOk G S X) : OpR X (compareOp .Lt) (rD2 G.K ltD) := by
  intro pins s σ H x y v u Q I rx ry ⟨N, d, e, r, tk, hx, hy, eg, q⟩
  unfold ltD at eg
  split at eg
  · cases eg
    have e1 := hx.int; have e2 := hy.int
    subst e1; subst e2
    exact op_lt pins s σ H _ _ v u Q I rx ry ⟨_, _, rfl, rfl, q _ H (.dat (.bl _))⟩
  · cases eg
    have e1 := hx.str; have e2 := hy.str
    subst e1; subst e2
    exact op_lt_str pins s σ H _ _ v u Q I rx ry ⟨_, _, rfl, rfl, q _ H (.dat (.bl _))⟩
  · cases eg
theorem op_leD (X : Cx) (c : CxOk G S X) : OpR X (compareOp .LtE) (rD2 G.K leD) := by
  intro pins s σ H x y v u Q I rx ry ⟨N, d, e, r, tk, hx, hy, eg, q⟩
  unfold leD at eg
  split at eg
  · cases eg
    have e1 := hx.int; have e2 := hy.int
    subst e1; subst e2
    exact op_le pins s σ H _ _ v u Q I rx ry ⟨_, _, rfl, rfl, q _ H (.dat (.bl _))⟩
  · cases eg
    have e1 := hx.str; have e2 := hy.str
    subst e1; subst e2
    exact op_le_str pins s σ H _ _ v u Q I rx ry ⟨_, _, rfl, rfl, q _ H (.dat (.bl _))⟩
  · cases eg
theorem op_gtD (X : Cx) (c : CxOk G S X) : OpR X (compareOp .Gt) (rD2 G.K gtD) := by
  intro pins s σ H x y v u Q I rx ry ⟨N, d, e, r, tk, hx, hy, eg, q⟩
  unfold gtD ltD at eg
  split at eg
  · cases eg
    have e1 := hx.int; have e2 := hy.int
    subst e1; subst e2
    exact op_gt pins s σ H _ _ v u Q I rx ry ⟨_, _, rfl, rfl, q _ H (.dat (.bl _))⟩
  · cases eg
    have e1 := hx.str; have e2 := hy.str
    subst e1; subst e2
    exact op_gt_str pins s σ H _ _ v u Q I rx ry ⟨_, _, rfl, rfl, q _ H (.dat (.bl _))⟩
  · cases eg
theorem op_geD (X : Cx) (c : CxOk G S X) : OpR X (compareOp .GtE) (rD2 G.K geD) := by
  intro pins s σ H x y v u Q I rx ry ⟨N, d, e, r, tk, hx, hy, eg, q⟩
  unfold geD at eg
  split at eg
  · cases eg
    have e1 := hx.int; have e2 := hy.int
    subst e1; subst e2
    exact op_ge pins s σ H _ _ v u Q I rx ry ⟨_, _, rfl, rfl, q _ H (.dat (.bl _))⟩
  · cases eg
    have e1 := hx.str; have e2 := hy.str
    subst e1; subst e2
    exact op_ge_str pins s σ H _ _ v u Q I rx ry ⟨_, _, rfl, rfl, q _ H (.dat (.bl _))⟩
  · cases eg
end
end L3

namespace L3
open PySem PySem.Spec PyProof.Rows L2

/-! flat data -/
def flatD : D → Bool
  | .none => true
  | .bool _ => true
  | .int _ => true
  | .str _ => true
  | _ => false
section
variable {K : PySem.W.Frag} {N : Addr → Prop} {H : Hp} {v w : V} {d e : D}
theorem SRep.flat (h : SRep K N H v d) (f : flatD d = true) : flatV v = true := by
  cases d with
  | none => rw [h.none]; rfl
  | bool _ => rw [h.bool]; rfl
  | int _ => rw [h.int]; rfl
  | str _ => rw [h.str]; rfl
  | list _ => cases f
  | tuple _ => cases f
  | dict _ => cases f
theorem SRep.eqv (hx : SRep K N H v d) (hy : SRep K N H w e) (f : flatD d = true) (g : flatD e = true) : eqV v w = PyData.eqv d e := by
  have key : ∀ (d : D) (v : V), SRep K N H v d → flatD d = true → (d = .none ∧ v = .non) ∨ (∃ b, d = .bool b ∧ v = .bl b) ∨ (∃ i, d = .int i ∧ v = .int i) ∨ ∃ x, d = .str x ∧ v = .str x := by
    intro d v h f
    cases d with
    | none => exact .inl ⟨rfl, h.none⟩
    | bool b => exact .inr (.inl ⟨b, rfl, h.bool⟩)
    | int i => exact .inr (.inr (.inl ⟨i, rfl, h.int⟩))
    | str x => exact .inr (.inr (.inr ⟨x, rfl, h.str⟩))
    | list _ => cases f
    | tuple _ => cases f
    | dict _ => cases f
  rcases key d v hx f with ⟨rfl, rfl⟩ | ⟨b, rfl, rfl⟩ | ⟨i, rfl, rfl⟩ | ⟨x, rfl, rfl⟩ <;> rcases key e w hy g with ⟨rfl, rfl⟩ | ⟨b, rfl, rfl⟩ | ⟨i, rfl, rfl⟩ | ⟨x, rfl, rfl⟩ <;> simp [eqV, PyData.eqv]
theorem RepL.flat : ∀ {vs : List V} {ds : List D}, RepL K N H vs ds → ds.all flatD = true → vs.all flatV = true
  | _, _, .nil, _ => rfl
  | _, _, .cons r t, f => by
    rw [List.all_cons, Bool.and_eq_true] at f ⊢
    exact ⟨SRep.flat (.inl r) f.1, RepL.flat t f.2⟩
theorem RepL.inVs (hx : SRep K N H w e) (g : flatD e = true) : ∀ {vs : List V} {ds : List D}, RepL K N H vs ds → ds.all flatD = true → L2.inV w vs = ds.any fun z => PyData.eqv z e
  | _, _, .nil, _ => rfl
  | _, _, .cons r t, f => by
    rw [List.all_cons, Bool.and_eq_true] at f
    show (eqV _ w || L2.inV w _) = _
    rw [List.any_cons, RepL.inVs hx g t f.2, SRep.eqv (.inl r) hx f.1 g]
def seq2D : D → Option (List D)
  | .list ds => some ds
  | .tuple ds => some ds
  | _ => none
theorem SRep.seq {ds : List D} (h : SRep K N H v d) (e : seq2D d = some ds) : ∃ a xs, v = .ref a ∧ (SqL K H a xs ∨ SqT K H a xs) ∧ RepL K N H xs ds := by
  cases d with
  | list _ => cases e; obtain ⟨a, xs, rfl, h1, h2⟩ := h.list; exact ⟨a, xs, rfl, .inl h1, h2⟩
  | tuple _ => cases e; obtain ⟨a, xs, rfl, h1, h2⟩ := h.tuple; exact ⟨a, xs, rfl, .inr h1.sq, h2⟩
  | none => cases e
  | bool _ => cases e
  | int _ => cases e
  | str _ => cases e
  | dict _ => cases e
end

theorem hu65 {A : Around} {k : Nat} (r : Room k A) : A.units + 65 < cLine := by have := r.un; omega
/-! in, not in -/
def inOkS (x : D) (ds : List D) : Bool := (flatD x && ds.all flatD) || (SeqAt.shaped x && PyData.canLayAll0 ds)
def dictKv : D → Option (List (D × D))
  | .dict kvs => some kvs
  | _ => none
/-- of a dict as data: the value at a key -/
def valD : List (D × D) → Key → Option D
  | [], _ => none
  | (a, d) :: r, k => if keyD a = some k then some d else valD r k
def inB (x y : D) : Option Bool := match y with
  | .list ds => if inOkS x ds = true then some (ds.any fun z => PyData.eqv z x) else none
  | .tuple ds => if inOkS x ds = true then some (ds.any fun z => PyData.eqv z x) else none
  | .dict kvs => match x with
    | .none => some false
    | _ => (keyD x).bind fun k => some (valD kvs k).isSome
  | .str z => match x with
    | .str y => some (!(Builtin.Str.occurrences z y 0 z.length 1).isEmpty)
    | _ => none
  | _ => none
def inD (x y : D) : Option R := (inB x y).bind fun b => some (.dat (.bool b))
def notInD (x y : D) : Option R := (inB x y).bind fun b => some (.dat (.bool (!b)))
theorem RepK.valD {K : PySem.W.Frag} {N : Addr → Prop} {H : Hp} {k : Key} : ∀ {ks : List (Key × V)} {kvs : List (D × D)}, RepK K N H ks kvs → (∀ d, valD kvs k = some d → ∃ v, valV ks k = some v ∧ Rep K N H v d) ∧ (valD kvs k = none → valV ks k = none)
  | _, _, .nil => ⟨fun d e => (by cases e), fun _ => rfl⟩
  | _, _, .cons (k := k') (v := v') r t => by
    have ih := RepK.valD (k := k) t
    by_cases e : k' = k
    · rw [valV_pos (p := (k', v')) e]
      have e2 : keyD (kD k') = some k := by rw [keyD_kD, e]
      constructor
      · intro d z
        unfold L3.valD at z
        rw [if_pos e2] at z
        cases z
        exact ⟨_, rfl, r⟩
      · intro z
        unfold L3.valD at z
        rw [if_pos e2] at z
        cases z
    · rw [valV_neg (p := (k', v')) e]
      have e2 : keyD (kD k') ≠ some k := by rw [keyD_kD]; exact fun z => e (Option.some.inj z)
      unfold L3.valD
      rw [if_neg e2]
      exact ih
section
variable {G : GC} {S : SC}
theorem RepK.isSome {K : PySem.W.Frag} {N : Addr → Prop} {H : Hp} {k : Key} {ks : List (Key × V)} {kvs : List (D × D)} (h : RepK K N H ks kvs) : (valV ks k).isSome = (L3.valD kvs k).isSome := by
  obtain ⟨h1, h2⟩ := h.valD (k := k)
  cases e : L3.valD kvs k with
  | none => rw [h2 e]; rfl
  | some d => obtain ⟨v, e2, _⟩ := h1 d e; rw [e2]; rfl
theorem op_inD' (X : Cx) (c : CxOk G S X) : OpR X (compareOp .In) (rD2 G.K inD) := by
  intro pins s σ H x y v u Q I rx ry ⟨N, d, e, r, tk, hx, hy, eg, q⟩
  rw [← c.K] at hx hy q
  unfold inD at eg
  obtain ⟨b, eb, eg⟩ := Option.bind_eq_some_iff.mp eg
  cases eg
  have q' := q _ H (.dat (.bl b))
  clear q
  cases e with
  | list ds =>
    unfold inB at eb
    simp only at eb
    split at eb
    · cases eb
      rename_i h
      unfold inOkS at h
      rcases Bool.or_eq_true_iff.mp h with h | h
      · obtain ⟨h1, h2⟩ := Bool.and_eq_true_iff.mp h
        obtain ⟨a, xs, rfl, s1, r1⟩ := hy.list
        exact op_in_seq pins s σ H x _ v u Q I rx ry ⟨a, xs, rfl, .inl s1, hx.flat h1, r1.flat h2, by rw [if_neg Bool.false_ne_true, RepL.inVs hx h1 r1 h2]; exact q'⟩
      · obtain ⟨h1, h2⟩ := Bool.and_eq_true_iff.mp h
        obtain ⟨as, r1⟩ := Dp.reads I d x v (hx.dp (SeqAt.canLay_of_shaped h1)) rx
        obtain ⟨bs, r2⟩ := Dp.reads I (.list ds) y u (hy.dp h2) ry
        exact SeqAt.in_list_reads r2 r1 h2 (SeqAt.canLay_of_shaped h1) (room_in_shaped h1 (hu65 c.room)) ⟨.bl _, H, I, rfl, q'⟩
    · cases eb
  | tuple ds =>
    unfold inB at eb
    simp only at eb
    split at eb
    · cases eb
      rename_i h
      unfold inOkS at h
      rcases Bool.or_eq_true_iff.mp h with h | h
      · obtain ⟨h1, h2⟩ := Bool.and_eq_true_iff.mp h
        obtain ⟨a, xs, rfl, s1, r1⟩ := hy.tuple
        exact op_in_seq pins s σ H x _ v u Q I rx ry ⟨a, xs, rfl, .inr s1.sq, hx.flat h1, r1.flat h2, by rw [if_neg Bool.false_ne_true, RepL.inVs hx h1 r1 h2]; exact q'⟩
      · obtain ⟨h1, h2⟩ := Bool.and_eq_true_iff.mp h
        obtain ⟨as, r1⟩ := Dp.reads I d x v (hx.dp (SeqAt.canLay_of_shaped h1)) rx
        obtain ⟨bs, r2⟩ := Dp.reads I (.tuple ds) y u (hy.dp h2) ry
        exact SeqAt.in_tuple_reads r2 r1 h2 (SeqAt.canLay_of_shaped h1) (room_in_shaped h1 (hu65 c.room)) ⟨.bl _, H, I, rfl, q'⟩
    · cases eb
  | dict kvs =>
    obtain ⟨a, ks, rfl, h1, r1⟩ := hy.dict
    cases ry
    by_cases hn : d = .none
    · subst hn
      cases eb
      have ex := hx.none
      subst ex
      cases rx
      exact d_inNone I (.inl h1) fun s' I' => ⟨.bl _, H, I', rfl, q'⟩
    · have eb' : ((keyD d).bind fun k => some (L3.valD kvs k).isSome) = some b := by
        cases d <;> first | exact eb | exact absurd rfl hn
      obtain ⟨k, ek, eb'⟩ := Option.bind_eq_some_iff.mp eb'
      cases eb'
      have ex := hx.key ek
      subst ex
      exact d_in (hu_of c.room) I (DGet.k (k := k) h1) rx fun s' I' => ⟨.bl _, H, I', rfl, by rw [r1.isSome]; exact q'⟩
  | str z =>
    cases d <;> first
      | (cases eb
         have e1 := hx.str; have e2 := hy.str
         subst e1; subst e2
         exact op_in_str pins s σ H _ _ v u Q I rx ry ⟨_, _, rfl, rfl, q'⟩)
      | cases eb
  | none => cases eb
  | bool _ => cases eb
  | int _ => cases eb
theorem op_notInD' (X : Cx) (c : CxOk G S X) : OpR X (compareOp .NotIn) (rD2 G.K notInD) := by
  intro pins s σ H x y v u Q I rx ry ⟨N, d, e, r, tk, hx, hy, eg, q⟩
  rw [← c.K] at hx hy q
  unfold notInD at eg
  obtain ⟨b, eb, eg⟩ := Option.bind_eq_some_iff.mp eg
  cases eg
  have q' := q _ H (.dat (.bl (!b)))
  clear q
  cases e with
  | list ds =>
    unfold inB at eb
    simp only at eb
    split at eb
    · cases eb
      rename_i h
      unfold inOkS at h
      rcases Bool.or_eq_true_iff.mp h with h | h
      · obtain ⟨h1, h2⟩ := Bool.and_eq_true_iff.mp h
        obtain ⟨a, xs, rfl, s1, r1⟩ := hy.list
        exact op_notIn_seq pins s σ H x _ v u Q I rx ry ⟨a, xs, rfl, .inl s1, hx.flat h1, r1.flat h2, by rw [if_pos rfl, RepL.inVs hx h1 r1 h2]; exact q'⟩
      · obtain ⟨h1, h2⟩ := Bool.and_eq_true_iff.mp h
        obtain ⟨as, r1⟩ := Dp.reads I d x v (hx.dp (SeqAt.canLay_of_shaped h1)) rx
        obtain ⟨bs, r2⟩ := Dp.reads I (.list ds) y u (hy.dp h2) ry
        exact SeqAt.notIn_list_reads r2 r1 h2 (SeqAt.canLay_of_shaped h1) (room_in_shaped h1 (hu65 c.room)) ⟨.bl _, H, I, rfl, q'⟩
    · cases eb
  | tuple ds =>
    unfold inB at eb
    simp only at eb
    split at eb
    · cases eb
      rename_i h
      unfold inOkS at h
      rcases Bool.or_eq_true_iff.mp h with h | h
      · obtain ⟨h1, h2⟩ := Bool.and_eq_true_iff.mp h
        obtain ⟨a, xs, rfl, s1, r1⟩ := hy.tuple
        exact op_notIn_seq pins s σ H x _ v u Q I rx ry ⟨a, xs, rfl, .inr s1.sq, hx.flat h1, r1.flat h2, by rw [if_pos rfl, RepL.inVs hx h1 r1 h2]; exact q'⟩
      · obtain ⟨h1, h2⟩ := Bool.and_eq_true_iff.mp h
        obtain ⟨as, r1⟩ := Dp.reads I d x v (hx.dp (SeqAt.canLay_of_shaped h1)) rx
        obtain ⟨bs, r2⟩ := Dp.reads I (.tuple ds) y u (hy.dp h2) ry
        exact SeqAt.notIn_tuple_reads r2 r1 h2 (SeqAt.canLay_of_shaped h1) (room_in_shaped h1 (hu65 c.room)) ⟨.bl _, H, I, rfl, q'⟩
    · cases eb
  | dict kvs =>
    obtain ⟨a, ks, rfl, h1, r1⟩ := hy.dict
    cases ry
    by_cases hn : d = .none
    · subst hn
      cases eb
      have ex := hx.none
      subst ex
      cases rx
      exact d_notInNone I (.inl h1) fun s' I' => ⟨.bl _, H, I', rfl, q'⟩
    · have eb' : ((keyD d).bind fun k => some (L3.valD kvs k).isSome) = some b := by
        cases d <;> first | exact eb | exact absurd rfl hn
      obtain ⟨k, ek, eb'⟩ := Option.bind_eq_some_iff.mp eb'
      cases eb'
      have ex := hx.key ek
      subst ex
      exact d_notIn (hu_of c.room) I (DGet.k (k := k) h1) rx fun s' I' => ⟨.bl _, H, I', rfl, by rw [r1.isSome]; exact q'⟩
  | str z =>
    cases d <;> first
      | (cases eb
         have e1 := hx.str; have e2 := hy.str
         subst e1; subst e2
         exact op_notIn_str pins s σ H _ _ v u Q I rx ry ⟨_, _, rfl, rfl, q'⟩)
      | cases eb
  | none => cases eb
  | bool _ => cases eb
  | int _ => cases eb

/-! is None -/
def isNoD (d : D) : Bool := match d with
  | .none => true
  | _ => false
def isD (d e : D) : Option R := match e with
  | .none => some (.dat (.bool (isNoD d)))
  | _ => none
def isNotD (d e : D) : Option R := match e with
  | .none => some (.dat (.bool (!isNoD d)))
  | _ => none
theorem SRep.isNo {K : PySem.W.Frag} {N : Addr → Prop} {H : Hp} {v : V} {d : D} (h : SRep K N H v d) : decide (v = .non) = isNoD d := by
  cases d with
  | none => rw [h.none]; rfl
  | bool _ => rw [h.bool]; rfl
  | int _ => rw [h.int]; rfl
  | str _ => rw [h.str]; rfl
  | list _ => obtain ⟨a, xs, rfl, _⟩ := h.list; rfl
  | tuple _ => obtain ⟨a, xs, rfl, _⟩ := h.tuple; rfl
  | dict _ => obtain ⟨a, xs, rfl, _⟩ := h.dict; rfl
theorem op_isD (X : Cx) (c : CxOk G S X) : OpR X (compareOp .Is) (rD2 G.K isD) := by
  intro pins s σ H x y v u Q I rx ry ⟨N, d, e, r, tk, hx, hy, eg, q⟩
  cases e <;> first | cases eg | skip
  have e2 := hy.none
  subst e2
  exact op_isN pins s σ H _ _ v u Q I rx ry ⟨rfl, by rw [hx.isNo]; exact q _ H (.dat (.bl _))⟩
theorem op_isNotD (X : Cx) (c : CxOk G S X) : OpR X (compareOp .IsNot) (rD2 G.K isNotD) := by
  intro pins s σ H x y v u Q I rx ry ⟨N, d, e, r, tk, hx, hy, eg, q⟩
  cases e <;> first | cases eg | skip
  have e2 := hy.none
  subst e2
  exact op_notN pins s σ H _ _ v u Q I rx ry ⟨rfl, by rw [hx.isNo]; exact q _ H (.dat (.bl _))⟩

/-! a[b] -/
def ixD (d i : D) : Option R := match d with
  | .list ds => match i with
    | .int i => (atI ds i).bind fun d => some (.dat d)
    | _ => none
  | .tuple ds => match i with
    | .int i => (atI ds i).bind fun d => some (.dat d)
    | _ => none
  | .str z => match i with
    | .int i => if z.length ≤ sizeLine then (atI z.cps.toList i).bind fun c => some (.dat (.str ⟨#[c]⟩)) else none
    | _ => none
  | .dict kvs => (keyD i).bind fun k => (valD kvs k).bind fun d => some (.dat d)
  | _ => none
theorem RepL.atI {K : PySem.W.Frag} {N : Addr → Prop} {H : Hp} {vs : List V} {ds : List D} {i : Int} {d : D} (h : RepL K N H vs ds) (e : atI ds i = some d) : ∃ v, atI vs i = some v ∧ Rep K N H v d := by
  unfold L2.atI at e ⊢
  obtain ⟨j, e1, e2⟩ := Option.bind_eq_some_iff.mp e
  obtain ⟨v, e3, r⟩ := h.get e2
  rw [h.length, e1]
  exact ⟨v, e3, r⟩
theorem ix_D (X : Cx) (c : CxOk G S X) : IxR X (rD2 G.K ixD) := by
  intro value slice pins s σ H x y v u Q I rx ry ⟨N, d, e, r, tk, hx, hy, eg, q⟩ hs
  rw [← c.K] at hx hy q
  cases d with
  | list ds =>
    unfold ixD at eg
    simp only at eg
    split at eg
    · obtain ⟨z, ez, eg⟩ := Option.bind_eq_some_iff.mp eg
      cases eg
      have e2 := hy.int
      subst e2
      obtain ⟨a, xs, rfl, h1, r1⟩ := hx.list
      obtain ⟨w, ew, rw1⟩ := r1.atI ez
      exact ix_list value slice pins s σ H _ _ v u Q I rx ry ⟨a, xs, _, w, rfl, rfl, h1, ew, q _ H (.dat rw1)⟩ hs
    · cases eg
  | tuple ds =>
    unfold ixD at eg
    simp only at eg
    split at eg
    · obtain ⟨z, ez, eg⟩ := Option.bind_eq_some_iff.mp eg
      cases eg
      have e2 := hy.int
      subst e2
      obtain ⟨a, xs, rfl, h1, r1⟩ := hx.tuple
      obtain ⟨w, ew, rw1⟩ := r1.atI ez
      exact ix_tup value slice pins s σ H _ _ v u Q I rx ry ⟨a, xs, _, w, rfl, rfl, h1.sq, ew, q _ H (.dat rw1)⟩ hs
    · cases eg
  | str z =>
    unfold ixD at eg
    simp only at eg
    split at eg
    · split at eg
      · obtain ⟨k, ez, eg⟩ := Option.bind_eq_some_iff.mp eg
        cases eg
        have e1 := hx.str
        have e2 := hy.int
        subst e1
        subst e2
        exact ix_str value slice pins s σ H _ _ v u Q I rx ry ⟨_, _, k, rfl, rfl, by assumption, ez, q _ H (.dat (.str _))⟩ hs
      · cases eg
    · cases eg
  | dict kvs =>
    obtain ⟨k, ek, eg⟩ := Option.bind_eq_some_iff.mp eg
    obtain ⟨z, ez, eg⟩ := Option.bind_eq_some_iff.mp eg
    cases eg
    have e2 := hy.key ek
    subst e2
    obtain ⟨a, ks, rfl, h1, r1⟩ := hx.dict
    obtain ⟨w, ew, rw1⟩ := (r1.valD (k := k)).1 z ez
    cases rx
    have g : DGet H a (kV k) (some w) := by rw [← ew]; exact DGet.k h1
    exact tail_any (dict_typeIs I g) PySem.F.slot_dict_getitem.lookup (d_getItem (hu_of c.room) I g ry fun w' s3 I3 rw' => ⟨w, H, I3, rw', q _ H (.dat rw1)⟩) hs
  | none => cases eg
  | bool _ => cases eg
  | int _ => cases eg

/-! a[lo:hi] -/
def cutL {α : Type} (xs : List α) (lo hi : Option Int) : List α := (xs.drop (HT.sIx xs.length 0 lo)).take (HT.sIx xs.length xs.length hi - HT.sIx xs.length 0 lo)
def slD (d : D) (lo hi : Option Int) : Option R := match d with
  | .list ds => some (.new (.lst (cutL ds lo hi)))
  | .tuple ds => some (.dat (.tuple (cutL ds lo hi)))
  | .str z => if z.length ≤ sizeLine then some (.dat (.str (cutS z lo hi))) else none
  | _ => none
theorem RepL.cut {K : PySem.W.Frag} {N : Addr → Prop} {H : Hp} {vs : List V} {ds : List D} (h : RepL K N H vs ds) (lo hi : Option Int) : RepL K N H (cutV vs lo hi) (cutL ds lo hi) := by
  unfold cutV cutL
  rw [h.length]
  exact (h.drop _).take _
theorem sl_D (X : Cx) (c : CxOk G S X) : SlR X (rDs G.K slD) := by
  intro pins s σ H x v vl vu lo hi sl Q I rx hs pl pu ⟨N, d, r, tk, hx, eg, q⟩
  rw [← c.K] at hx q
  cases d with
  | list ds =>
    cases eg
    obtain ⟨a, xs, rfl, h1, r1⟩ := hx.list
    exact sl_list pins s σ H _ v vl vu lo hi sl Q I rx hs pl pu ⟨a, xs, rfl, h1, fun p hp => q _ _ (.lst tk hp (r1.cut lo hi))⟩
  | tuple ds =>
    cases eg
    obtain ⟨a, xs, rfl, h1, r1⟩ := hx.tuple
    cases rx
    obtain ⟨its, rr, ht, hz⟩ := I.tuple h1.sq
    have hlen : its.toArray.size = xs.length := by rw [List.size_toArray]; exact rr.length.symm
    by_cases hw : HT.sIx xs.length 0 lo = 0 ∧ HT.sIx xs.length xs.length hi = xs.length
    · refine ⟨"tuple", _, PyProof.Rows.slot_tuple_getitem.lookup, ht.typeIs, ?_⟩
      have e : cutL ds lo hi = ds := by
        unfold cutL
        rw [r1.length] at hw
        rw [hw.1, hw.2, List.drop_zero, Nat.sub_zero, List.take_length]
      rw [e] at q
      exact getItem_tuple_whole ht hs pl pu (by rw [hlen]; exact hw) ⟨.ref a, H, I, rfl, q _ H (.dat (.tup h1 r1))⟩
    · refine ⟨"tuple", _, PyProof.Rows.slot_tuple_getitem.lookup, ht.typeIs, ?_⟩
      refine HT.getItem_tuple_cut ht hs pl pu (by rw [hlen]; exact hw) ?_ (by rw [hlen]; exact hz)
      rw [hlen]
      exact ⟨.ref s.heap.objs.size, _, ftup_new (t' := s.toks) I ((rr.drop (HT.sIx xs.length 0 lo)).take (HT.sIx xs.length xs.length hi - HT.sIx xs.length 0 lo)) (Nat.le_trans (cutV_length xs lo hi) hz), rfl, q _ _ (.tup tk I.fresh rfl (r1.cut lo hi))⟩
  | str z =>
    unfold slD at eg
    simp only at eg
    split at eg
    · cases eg
      have e1 := hx.str
      subst e1
      exact sl_str pins s σ H _ v vl vu lo hi sl Q I rx hs pl pu ⟨_, rfl, by assumption, q _ H (.dat (.str _))⟩
    · cases eg
  | none => cases eg
  | bool _ => cases eg
  | int _ => cases eg
  | dict _ => cases eg
end
end L3

namespace L3
open PySem PySem.Spec PyProof.Rows L2

section
variable {G : GC} {S : SC}
/-! len, any, all, tuple, list -/
def lenD : List D → Option R
  | [.list ds] => some (.dat (.int ds.length))
  | [.tuple ds] => some (.dat (.int ds.length))
  | [.dict kvs] => some (.dat (.int kvs.length))
  | [.str x] => if x.length ≤ sizeLine then some (.dat (.int x.length)) else none
  | _ => none
theorem call_lenD' (X : Cx) (c : CxOk G S X) : CallR X (.builtin "len") (rDn G.K lenD) := by
  intro pins s σ H xs us Q I rxs ⟨N, ds, r, tk, hs, eg, q⟩
  rw [← c.K] at hs q
  unfold lenD at eg
  split at eg
  · cases eg
    obtain ⟨v, rfl, h⟩ := hs.one
    obtain ⟨a, ys, rfl, h1, r1⟩ := h.list
    exact call_len_seq pins s σ H _ us Q I rxs ⟨a, ys, rfl, .inl h1, by rw [r1.length]; exact q _ H (.dat (.int _))⟩
  · cases eg
    obtain ⟨v, rfl, h⟩ := hs.one
    obtain ⟨a, ys, rfl, h1, r1⟩ := h.tuple
    exact call_len_seq pins s σ H _ us Q I rxs ⟨a, ys, rfl, .inr h1.sq, by rw [r1.length]; exact q _ H (.dat (.int _))⟩
  · cases eg
    obtain ⟨v, rfl, h⟩ := hs.one
    obtain ⟨a, ys, rfl, h1, r1⟩ := h.dict
    exact call_lenD pins s σ H _ us Q I rxs ⟨a, ys, rfl, h1, by rw [r1.length]; exact q _ H (.dat (.int _))⟩
  · split at eg
    · cases eg
      obtain ⟨v, rfl, h⟩ := hs.one
      have e := h.str
      subst e
      exact call_len_str pins s σ H _ us Q I rxs ⟨_, rfl, by assumption, q _ H (.dat (.int _))⟩
    · cases eg
  · cases eg
def boolsD : List D → Option (List Bool)
  | [] => some []
  | .bool b :: ds => (boolsD ds).map (b :: ·)
  | _ :: _ => none
theorem RepL.bools {K : PySem.W.Frag} {N : Addr → Prop} {H : Hp} : ∀ {vs : List V} {ds : List D} {bs : List Bool}, RepL K N H vs ds → boolsD ds = some bs → vs = bs.map V.bl
  | _, _, _, .nil, e => by cases e; rfl
  | _, d :: ds, bs, .cons r t, e => by
    cases d <;> first
      | (obtain ⟨cs, e1, e2⟩ := Option.map_eq_some_iff.mp e
         cases e2
         cases r
         rw [RepL.bools t e1]
         rfl)
      | cases e
def anyD : List D → Option R
  | [.list ds] => (boolsD ds).map fun bs => .dat (.bool (bs.any id))
  | _ => none
def allD : List D → Option R
  | [.list ds] => (boolsD ds).map fun bs => .dat (.bool (bs.all id))
  | _ => none
theorem call_anyD (X : Cx) (c : CxOk G S X) : CallR X (.builtin "any") (rDn G.K anyD) := by
  intro pins s σ H xs us Q I rxs ⟨N, ds, r, tk, hs, eg, q⟩
  rw [← c.K] at hs q
  unfold anyD at eg
  split at eg
  · obtain ⟨bs, eb, e⟩ := Option.map_eq_some_iff.mp eg
    cases e
    obtain ⟨v, rfl, h⟩ := hs.one
    obtain ⟨a, ys, rfl, h1, r1⟩ := h.list
    have e := r1.bools eb
    subst e
    exact cr_any c.calm pins s σ H _ us Q I rxs ⟨a, bs, rfl, h1, q _ H (.dat (.bl _))⟩
  · cases eg
theorem call_allD (X : Cx) (c : CxOk G S X) : CallR X (.builtin "all") (rDn G.K allD) := by
  intro pins s σ H xs us Q I rxs ⟨N, ds, r, tk, hs, eg, q⟩
  rw [← c.K] at hs q
  unfold allD at eg
  split at eg
  · obtain ⟨bs, eb, e⟩ := Option.map_eq_some_iff.mp eg
    cases e
    obtain ⟨v, rfl, h⟩ := hs.one
    obtain ⟨a, ys, rfl, h1, r1⟩ := h.list
    have e := r1.bools eb
    subst e
    exact cr_all c.calm pins s σ H _ us Q I rxs ⟨a, bs, rfl, h1, q _ H (.dat (.bl _))⟩
  · cases eg
def tupleD : List D → Option R
  | [.list ds] => some (.dat (.tuple ds))
  | [.tuple ds] => some (.dat (.tuple ds))
  | _ => none
theorem call_tupleD (X : Cx) (c : CxOk G S X) : CallR X (.type "tuple") (rDn G.K tupleD) := by
  intro pins s σ H xs us Q I rxs ⟨N, ds, r, tk, hs, eg, q⟩
  rw [← c.K] at hs q
  unfold tupleD at eg
  split at eg
  · cases eg
    obtain ⟨v, rfl, h⟩ := hs.one
    obtain ⟨a, ys, rfl, h1, r1⟩ := h.list
    obtain ⟨u, rfl, rx⟩ := vals1 rxs
    cases rx
    obtain ⟨its, r', pl, hz⟩ := I.list h1
    refine call_tuple_list pl.isList (fun h' kp => ?_) (by have := r'.length; simp only [List.size_toArray] <;> omega)
    have I1 : Inv X pins σ H { s with heap := h' } := I.kept (t' := s.toks) kp
    exact ⟨.ref h'.objs.size, _, ftup_new (t' := s.toks) I1 r' hz, rfl, q _ _ (.tup tk (I1.hok.fresh (Nat.le_refl _)) rfl r1)⟩
  · cases eg
    obtain ⟨v, rfl, h⟩ := hs.one
    obtain ⟨a, ys, rfl, h1, r1⟩ := h.tuple
    exact call_tuple_of pins s σ H _ us Q I rxs ⟨a, ys, rfl, .inr ⟨h1.sq, q _ H (.dat (.tup h1 r1))⟩⟩
  · cases eg
theorem RepK.keys {K : PySem.W.Frag} {N : Addr → Prop} {H : Hp} : ∀ {ks : List (Key × V)} {kvs : List (D × D)}, RepK K N H ks kvs → RepL K N H (ks.map fun kv => kV kv.1) (kvs.map (·.1))
  | _, _, .nil => .nil
  | _, _, .cons (k := k) r t => .cons (by cases k with
    | inl i => exact .int i
    | inr x => exact .str x) (RepK.keys t)
theorem RepK.vals {K : PySem.W.Frag} {N : Addr → Prop} {H : Hp} : ∀ {ks : List (Key × V)} {kvs : List (D × D)}, RepK K N H ks kvs → RepL K N H (ks.map (·.2)) (kvs.map (·.2))
  | _, _, .nil => .nil
  | _, _, .cons r t => .cons r (RepK.vals t)
def listD : List D → Option R
  | [.list ds] => some (.new (.lst ds))
  | [.tuple ds] => some (.new (.lst ds))
  | [.dict kvs] => some (.new (.lst (kvs.map (·.1))))
  | _ => none
theorem call_listD' (X : Cx) (c : CxOk G S X) : CallR X (.type "list") (rDn G.K listD) := by
  intro pins s σ H xs us Q I rxs ⟨N, ds, r, tk, hs, eg, q⟩
  rw [← c.K] at hs q
  unfold listD at eg
  split at eg
  · cases eg
    obtain ⟨v, rfl, h⟩ := hs.one
    obtain ⟨a, ys, rfl, h1, r1⟩ := h.list
    exact call_list_of pins s σ H _ us Q I rxs ⟨a, ys, rfl, .inl h1, fun l hl => q _ _ (.lst tk hl r1)⟩
  · cases eg
    obtain ⟨v, rfl, h⟩ := hs.one
    obtain ⟨a, ys, rfl, h1, r1⟩ := h.tuple
    exact call_list_of pins s σ H _ us Q I rxs ⟨a, ys, rfl, .inr h1.sq, fun l hl => q _ _ (.lst tk hl r1)⟩
  · cases eg
    obtain ⟨v, rfl, h⟩ := hs.one
    obtain ⟨a, ks, rfl, h1, r1⟩ := h.dict
    exact call_listD c.calm pins s σ H _ us Q I rxs ⟨a, ks, rfl, .inl h1, fun l hl => q _ _ (.lst tk hl r1.keys)⟩
  · cases eg

/-! ints -/
def intD : List D → Option R
  | [.int i] => some (.dat (.int i))
  | [.bool b] => some (.dat (.int (if b then 1 else 0)))
  | _ => none
theorem call_intD (X : Cx) (c : CxOk G S X) : CallR X (.type "int") (rDn G.K intD) := by
  intro pins s σ H xs us Q I rxs ⟨N, ds, r, tk, hs, eg, q⟩
  unfold intD at eg
  split at eg
  · cases eg
    obtain ⟨v, rfl, h⟩ := hs.one
    have e := h.int
    subst e
    exact call_int1 pins s σ H _ us Q I rxs (.inl ⟨_, rfl, q _ H (.dat (.int _))⟩)
  · cases eg
    obtain ⟨v, rfl, h⟩ := hs.one
    have e := h.bool
    subst e
    exact call_int1 pins s σ H _ us Q I rxs (.inr ⟨_, rfl, q _ H (.dat (.int _))⟩)
  · cases eg
def absD : List D → Option R
  | [.int i] => some (.dat (.int (if i < 0 then -i else i)))
  | _ => none
theorem call_absD (X : Cx) (c : CxOk G S X) : CallR X (.builtin "abs") (rDn G.K absD) := by
  intro pins s σ H xs us Q I rxs ⟨N, ds, r, tk, hs, eg, q⟩
  unfold absD at eg
  split at eg
  · cases eg
    obtain ⟨v, rfl, h⟩ := hs.one
    have e := h.int
    subst e
    exact call_abs pins s σ H _ us Q I rxs ⟨_, rfl, q _ H (.dat (.int _))⟩
  · cases eg
def max2D : List D → Option R
  | [.int i, .int j] => some (.dat (.int (if j > i then j else i)))
  | _ => none
def min2D : List D → Option R
  | [.int i, .int j] => some (.dat (.int (if j < i then j else i)))
  | _ => none
theorem call_max2D (X : Cx) (c : CxOk G S X) : CallR X (.builtin "max") (rDn G.K max2D) := by
  intro pins s σ H xs us Q I rxs ⟨N, ds, r, tk, hs, eg, q⟩
  unfold max2D at eg
  split at eg
  · cases eg
    obtain ⟨v, w, rfl, h, h2⟩ := hs.two
    have e := h.int
    have e2 := h2.int
    subst e; subst e2
    exact call_max2 c.calm pins s σ H _ us Q I rxs ⟨_, _, rfl, q _ H (.dat (.int _))⟩
  · cases eg
theorem call_min2D (X : Cx) (c : CxOk G S X) : CallR X (.builtin "min") (rDn G.K min2D) := by
  intro pins s σ H xs us Q I rxs ⟨N, ds, r, tk, hs, eg, q⟩
  unfold min2D at eg
  split at eg
  · cases eg
    obtain ⟨v, w, rfl, h, h2⟩ := hs.two
    have e := h.int
    have e2 := h2.int
    subst e; subst e2
    exact call_min2 c.calm pins s σ H _ us Q I rxs ⟨_, _, rfl, q _ H (.dat (.int _))⟩
  · cases eg
def strD : List D → Option R
  | [.int i] => if i.natAbs.log2 < 1920 then some (.dat (.str (toString i))) else none
  | [.str x] => some (.dat (.str x))
  | _ => none
theorem call_strD (X : Cx) (c : CxOk G S X) : CallR X (.type "str") (rDn G.K strD) := by
  intro pins s σ H xs us Q I rxs ⟨N, ds, r, tk, hs, eg, q⟩
  unfold strD at eg
  split at eg
  · split at eg
    · cases eg
      obtain ⟨v, rfl, h⟩ := hs.one
      have e := h.int
      subst e
      exact call_str_int pins s σ H _ us Q I rxs ⟨_, rfl, by assumption, q _ H (.dat (.str _))⟩
    · cases eg
  · cases eg
    obtain ⟨v, rfl, h⟩ := hs.one
    have e := h.str
    subst e
    obtain ⟨u, rfl, t, rfl⟩ := vals1 rxs
    exact PySem.P.str_of_str ⟨.str _, H, I, ⟨_, rfl⟩, q _ H (.dat (.str _))⟩
  · cases eg

/-! repr -/
def displayD : D → Bool
  | .list _ => true
  | .tuple _ => true
  | _ => false
def reprD : List D → Option R
  | [d] => if displayD d = true ∧ SeqAt.shaped d = true ∧ d.showable = true ∧ d.shown.length ≤ sizeLine then some (.dat (.str d.shown)) else none
  | _ => none
theorem call_reprD (X : Cx) (c : CxOk G S X) : CallR X (.builtin "repr") (rDn G.K reprD) := by
  intro pins s σ H xs us Q I rxs ⟨N, ds, r, tk, hs, eg, q⟩
  rw [← c.K] at hs q
  unfold reprD at eg
  split at eg
  · split at eg
    · cases eg
      rename_i d h
      obtain ⟨h0, h1, h2, h3⟩ := h
      obtain ⟨v, rfl, hv⟩ := hs.one
      obtain ⟨u, rfl, ru⟩ := vals1 rxs
      obtain ⟨as, rr⟩ := Dp.reads I d v u (hv.dp (SeqAt.canLay_of_shaped h1)) ru
      obtain ⟨a, rfl⟩ : ∃ a, u = .ref a := by
        cases rr with
        | list _ _ _ _ => exact ⟨_, rfl⟩
        | tuple _ _ _ _ => exact ⟨_, rfl⟩
        | none => cases h0
        | bool _ => cases h0
        | int _ _ => cases h0
        | str _ _ => cases h0
        | dict _ _ _ _ _ => cases h0
      have hd := SeqAt.depth_of_shaped h1
      have hu := hu65 c.room
      exact repr_of_reads' rr h2 (PyData.noDict_hsm (PyData.hasDict_of_canLay d (SeqAt.canLay_of_shaped h1))) c.gd (by omega) (fun _ _ e => e)
        (fun h' u tk hk => ⟨.str _, H, I.kept (t' := tk) hk, ⟨_, rfl⟩, q _ H (.dat (.str _))⟩) h3
    · cases eg
  · cases eg

/-! dict(..) -/
def pairD : D → Option (Key × D)
  | .tuple [a, b] => (keyD a).map fun k => (k, b)
  | _ => none
def pairsD : List D → Option (List (Key × D))
  | [] => some []
  | d :: ds => (pairD d).bind fun p => (pairsD ds).map (p :: ·)
def mergeKD (acc : List (Key × D)) : List (Key × D) → List (Key × D)
  | [] => acc
  | p :: r => mergeKD (putKD acc p.1 p.2) r
def keysD : List (D × D) → Option (List (Key × D))
  | [] => some []
  | (a, d) :: r => (keyD a).bind fun k => (keysD r).map ((k, d) :: ·)
def dictD : List D → Option R
  | [.list ds] => (pairsD ds).map fun ps => .new (.dic (mergeKD [] ps))
  | [.tuple ds] => (pairsD ds).map fun ps => .new (.dic (mergeKD [] ps))
  | [.dict kvs] => (keysD kvs).map fun ks => .new (.dic ks)
  | _ => none
theorem keysD_dkv {kvs : List (D × D)} : ∀ {ks : List (Key × D)}, keysD kvs = some ks → kvs = dkv ks := by
  induction kvs with
  | nil => intro ks e; cases e; rfl
  | cons p r ih =>
    intro ks e
    obtain ⟨a, d⟩ := p
    unfold keysD at e
    obtain ⟨k, e1, e⟩ := Option.bind_eq_some_iff.mp e
    obtain ⟨ks', e2, e3⟩ := Option.map_eq_some_iff.mp e
    cases e3
    rw [ih e2, keyD_some e1]
    rfl
theorem RepK.merge {K : PySem.W.Frag} {N : Addr → Prop} {H : Hp} : ∀ {ps : List (Key × V)} {pds : List (Key × D)} {acc : List (Key × V)} {ad : List (Key × D)}, RepK K N H ps (dkv pds) → RepK K N H acc (dkv ad) → RepK K N H (mergeK acc ps) (dkv (mergeKD ad pds)) := by
  intro ps pds acc ad h ha
  induction pds generalizing ps acc ad with
  | nil => cases h; exact ha
  | cons p r ih =>
    obtain ⟨pk, pd⟩ := p
    generalize he : dkv ((pk, pd) :: r) = ds at h
    cases h with
    | nil => cases he
    | cons r1 t =>
      have he' : (kD pk, pd) :: dkv r = _ := he
      injection he' with h1 h2
      injection h1 with h3 h4
      have := kD_inj h3
      subst this
      subst h2
      subst h4
      have z := ih t (ha.put pk r1)
      exact z
theorem RepL.pairs {X : Cx} {N : Addr → Prop} {H : Hp} : ∀ {vs : List V} {ds : List D} {ps : List (Key × D)}, RepL X.K N H vs ds → pairsD ds = some ps →
    ∃ (as : List Addr) (kvs : List (Key × V)), vs = as.map V.ref ∧ Paired (fun p kv => SqT X.K H p [kV kv.1, kv.2]) as kvs ∧ RepK X.K N H kvs (dkv ps)
  | _, _, _, .nil, e => by cases e; exact ⟨[], [], rfl, .nil, .nil⟩
  | _, d :: ds, ps, .cons r t, e => by
    unfold pairsD at e
    obtain ⟨p, e1, e⟩ := Option.bind_eq_some_iff.mp e
    obtain ⟨ps', e2, e3⟩ := Option.map_eq_some_iff.mp e
    cases e3
    obtain ⟨as, kvs, rfl, h1, h2⟩ := RepL.pairs t e2
    unfold pairD at e1
    split at e1
    · obtain ⟨k, e4, e5⟩ := Option.map_eq_some_iff.mp e1
      cases e5
      cases r with
      | tup s1 r1 =>
        cases r1 with
        | cons ra rb =>
          cases rb with
          | cons rb rc =>
            cases rc
            have := ra.key e4
            subst this
            exact ⟨_ :: as, (k, _) :: kvs, rfl, .cons s1.sq h1, .cons rb h2⟩
    · cases e1
theorem SqTN.plain {X : Cx} {pins : List (Addr × Obj)} {σ : L2.St} {N : Addr → Prop} {H : Hp} {s : Shared} {a : Addr} {xs : List V} (I : Inv X pins σ H s) (h : SqTN X.K N H a xs) : ∃ its : List Value, Vals xs its ∧ PlainSeq "tuple" s.heap a its.toArray ∧ xs.length ≤ sizeLine := by
  rcases h with ⟨⟨o, h, hd⟩, _⟩ | ⟨o, its, n, h1, h2, h3, h4, h5, h6⟩
  · obtain ⟨e, z, its, r, o2, e2, hc, n, hdat⟩ := (show ObjOk X.prog X.w H s.heap a (.frz o (.tup xs)) from I.hok a _ h)
    rw [e] at e2; cases e2
    exact ⟨its, r, ⟨o, n, e, hc, hd, hdat⟩, z⟩
  · exact ⟨its.toList, h6, ⟨o, n, I.kIn a o h1, h2, h3, by simpa using h4⟩, by rw [h6.length, Array.length_toList]; exact h5⟩
theorem pairs_of2 {X : Cx} {pins : List (Addr × Obj)} {σ : L2.St} {H : Hp} {s : Shared} (I : Inv X pins σ H s) : ∀ {ps : List Addr} {kvs : List (Key × V)}, Paired (fun p kv => SqT X.K H p [kV kv.1, kv.2]) ps kvs →
    ∃ (prs : List (Key × Value)) (pvs : List (Value × Value)), KV kvs prs ∧ prs.length = ps.length ∧ pvs.length = ps.length ∧ (∀ (j : Nat) (k v : Value), pvs[j]? = some (k, v) → ∃ b, ps[j]? = some b ∧ IsTup s.heap b #[k, v]) ∧
      ∀ (j : Nat) (k v : Value), pvs[j]? = some (k, v) → ∃ key, prs[j]? = some (key, v) ∧ (mixKind X.prog X.w).is key k = true
  | _, _, .nil => ⟨[], [], .nil, rfl, rfl, fun j k v e => by simp at e, fun j k v e => by simp at e⟩
  | _, _, .cons (a := p) (b := kv) h t => by
    obtain ⟨prs, pvs, r, hl, hl2, h1, h2⟩ := pairs_of2 I t
    obtain ⟨its, rv, ht, _⟩ := I.tuple h
    obtain ⟨u, y, ei, ru, ry⟩ := vals2 rv
    subst ei
    refine ⟨(kv.1, y) :: prs, (u, y) :: pvs, .cons ⟨rfl, ry⟩ r, by rw [List.length_cons, List.length_cons, hl], by rw [List.length_cons, List.length_cons, hl2], fun j k v e => ?_, fun j k v e => ?_⟩
    · cases j with
      | zero => cases Option.some.inj e; exact ⟨p, rfl, ht⟩
      | succ j =>
        obtain ⟨b, e1, e2⟩ := h1 j k v (by simpa using e)
        exact ⟨b, by simpa using e1, e2⟩
    · cases j with
      | zero => cases Option.some.inj e; exact ⟨kv.1, rfl, kV_is (P := X.prog) (w := X.w) ru⟩
      | succ j =>
        obtain ⟨b, e1, e2⟩ := h2 j k v (by simpa using e)
        exact ⟨b, by simpa using e1, e2⟩
/-- dict(xs) of a tuple of pairs -/
theorem call_dictPT {X : Cx} {N : Addr → Prop} (hcalm : X.calm = true) {pins : List (Addr × Obj)} {s : Shared} {σ : L2.St} {H : Hp} {Q : VK} {a : Addr} {ps : List Addr} {kvs : List (Key × V)} (I : Inv X pins σ H s) (hq : SqTN X.K N H a (ps.map V.ref))
    (hp : Paired (fun p kv => SqT X.K H p [kV kv.1, kv.2]) ps kvs) (q : ∀ p, H p = none → Q (.ref p) (upd H p (.dK (mergeK [] kvs)))) : wpAny (model X.prog X.w) X.A (call (.type "dict") [.ref a]) (EP X pins σ Q) X.xe s := by
  obtain ⟨its, rv, pl, hz⟩ := hq.plain I
  have ei := refs_at rv
  subst ei
  rw [List.length_map] at hz
  obtain ⟨prs, pvs, rel, hl, hl2, h1, h2⟩ := pairs_of2 I hp
  have hg : ∀ (j : Nat) (b : Addr), ps[j]? = some b → ps.getD j 0 = b := fun j b e => by simp [List.getD, e]
  refine PySem.call_dict_pairs (knd := mixKind X.prog X.w) (kvs := prs) (PairArg.tuple a (ps.map Value.ref).toArray (fun j => ps.getD j 0) pvs) (I.ok.hd hcalm) ⟨pl, by simp [hl2], fun j k v e => ?_⟩ ⟨by rw [hl, hl2], h2⟩ (by rw [hl2]; exact hz) fun h' tk hd' k => ?_
  · obtain ⟨b, e1, e2⟩ := h1 j k v e
    refine ⟨by simp [hg j b e1, e1], ?_⟩
    show PairAt s.heap (ps.getD j 0) k v
    rw [hg j b e1]
    obtain ⟨o, ho, hc, n, hdat⟩ := e2
    exact .inl ⟨o, ho, hc, n, hdat⟩
  · have hm : (s.heap.objs.size == sysModules) = false := beq_eq_false_iff_ne.mpr (Nat.ne_of_gt I.big)
    have hlen : (mergeK [] kvs).length ≤ sizeLine := by
      refine Nat.le_trans (length_mergeK kvs []) ?_
      rw [List.length_nil, Nat.zero_add, rel.length, hl]
      exact hz
    exact ⟨.ref s.heap.objs.size, upd H s.heap.objs.size (.dK (mergeK [] kvs)), I.laid (t' := tk) (fun b o e => k b o (by simp) e) (Nat.le_refl _) (show ObjOk X.prog X.w _ _ _ (.dK (mergeK [] kvs)) from ⟨hlen, hm, merged [] prs, KV.merge rel .nil, hd'⟩), rfl, q _ (I.hok.fresh (Nat.le_refl _))⟩
theorem call_dictD' (X : Cx) (c : CxOk G S X) : CallR X (.type "dict") (rDn G.K dictD) := by
  intro pins s σ H xs us Q I rxs ⟨N, ds, r, tk, hs, eg, q⟩
  rw [← c.K] at hs q
  unfold dictD at eg
  split at eg
  · obtain ⟨ps, e1, e2⟩ := Option.map_eq_some_iff.mp eg
    cases e2
    obtain ⟨v, rfl, h⟩ := hs.one
    obtain ⟨a, ys, rfl, h1, r1⟩ := h.list
    obtain ⟨as, kvs, rfl, h2, h3⟩ := r1.pairs e1
    exact call_dictP c.calm pins s σ H _ us Q I rxs ⟨a, as, kvs, rfl, h1, h2, fun l hl => q _ _ (.dic tk hl (h3.merge .nil))⟩
  · obtain ⟨ps, e1, e2⟩ := Option.map_eq_some_iff.mp eg
    cases e2
    obtain ⟨v, rfl, h⟩ := hs.one
    obtain ⟨a, ys, rfl, h1, r1⟩ := h.tuple
    obtain ⟨as, kvs, rfl, h2, h3⟩ := r1.pairs e1
    obtain ⟨u, rfl, rx⟩ := vals1 rxs
    cases rx
    exact call_dictPT c.calm I h1 h2 fun l hl => q _ _ (.dic tk hl (h3.merge .nil))
  · obtain ⟨ps, e1, e2⟩ := Option.map_eq_some_iff.mp eg
    cases e2
    obtain ⟨v, rfl, h⟩ := hs.one
    obtain ⟨a, ys, rfl, h1, r1⟩ := h.dict
    rw [keysD_dkv e1] at r1
    exact call_dictD pins s σ H _ us Q I rxs ⟨a, ys, rfl, .inl h1, fun l hl => q _ _ (.dic tk hl r1)⟩
  · cases eg

/-! sorted(..) -/
def alikeB (ds : List D) : Bool := ds.all fun d => ds.all fun e => PySem.W.alike d e
def consTup : D → Bool
  | .tuple (_ :: _) => true
  | _ => false
def noTup : D → Bool
  | .tuple _ => false
  | .none => false
  | _ => true
def sortOk (ds : List D) : Bool := alikeB ds && (ds.all consTup || ds.all noTup) && ds.all (fun d => decide (d.depth ≤ 64))
def sortD (ds : List D) : List D := ds.mergeSort (PySem.W.dataLe false id)
def isStrD : D → Bool
  | .str _ => true
  | _ => false
def sortedD : List D → Option R
  | [.list ds] => if sortOk ds = true then some (.new (.lst (sortD ds))) else none
  | [.dict kvs] => if (kvs.map (·.1)).all isStrD = true ∧ kvs.length < 64 then some (.new (.lst (sortD (kvs.map (·.1))))) else none
  | _ => none
mutual
theorem Rep.dpA {K : PySem.W.Frag} {N : Addr → Prop} {H : Hp} : ∀ (d : D) (v : V), Rep K N H v d → PySem.W.alike d d = true → Dp K H v d
  | .none, _, h, _ => by cases h; exact .non
  | .bool b, _, h, _ => by cases h; exact .bl b
  | .int i, _, h, _ => by cases h; exact .int i
  | .str x, _, h, _ => by cases h; exact .str x
  | .list ds, _, h, e => by cases h with | lst h1 h2 => exact .lst h1.sq (RepL.dpA ds _ h2 (by simpa [PySem.W.alike] using e))
  | .tuple ds, _, h, e => by cases h with | tup h1 h2 => exact .tup h1.sq (RepL.dpA ds _ h2 (by simpa [PySem.W.alike] using e))
  | .dict _, _, _, e => by simp [PySem.W.alike] at e
theorem RepL.dpA {K : PySem.W.Frag} {N : Addr → Prop} {H : Hp} : ∀ (ds : List D) (vs : List V), RepL K N H vs ds → PySem.W.alikeAll ds ds = true → DpAll K H vs ds
  | [], _, h, _ => by cases h; exact .nil
  | d :: ds, _, h, e => by
    have e' : PySem.W.alike d d = true ∧ PySem.W.alikeAll ds ds = true := by simpa [PySem.W.alikeAll] using e
    cases h with | cons h1 h2 => exact .cons (Rep.dpA d _ h1 e'.1) (RepL.dpA ds _ h2 e'.2)
end
theorem each_of {X : Cx} {pins : List (Addr × Obj)} {σ : L2.St} {N : Addr → Prop} {H : Hp} {s : Shared} (I : Inv X pins σ H s) : ∀ {vs : List V} {ds : List D} {us : List Value}, RepL X.K N H vs ds → Vals vs us → (∀ d ∈ ds, PySem.W.alike d d = true) →
    PySem.W.EachIs (fun u d => ∃ x, RelV x u ∧ Rep X.K N H x d) us ds ∧ PySem.W.EachIs (fun u d => ∃ as, Reads s.heap u d as) us ds
  | _, _, _, .nil, .nil, _ => ⟨.nil, .nil⟩
  | _, _, _, .cons r t, .cons ru tu, h => by
    obtain ⟨h1, h2⟩ := each_of I t tu fun d m => h d (List.mem_cons_of_mem _ m)
    exact ⟨.cons ⟨_, ru, r⟩ h1, .cons (Dp.reads I _ _ _ (Rep.dpA _ _ r (h _ List.mem_cons_self)) ru) h2⟩
theorem each_back {K : PySem.W.Frag} {N : Addr → Prop} {H : Hp} {us : List Value} {ds : List D} (h : PySem.W.EachIs (fun u d => ∃ x, RelV x u ∧ Rep K N H x d) us ds) : ∃ vs, Vals vs us ∧ RepL K N H vs ds := by
  induction h with
  | nil => exact ⟨[], .nil, .nil⟩
  | cons r t ih =>
    obtain ⟨x, h1, h2⟩ := r
    obtain ⟨vs, h3, h4⟩ := ih
    exact ⟨x :: vs, .cons h1 h3, .cons h2 h4⟩
theorem sortOk_alike {ds : List D} (h : alikeB ds = true) : PySem.W.AllAlike ds := fun d hd e he => List.all_eq_true.mp (List.all_eq_true.mp h d hd) e he
theorem sortOk_sortable {ds : List D} (h : (ds.all consTup || ds.all noTup) = true) : PySem.W.Sortable ds := by
  rcases Bool.or_eq_true_iff.mp h with h | h
  · refine .inl fun d hd => ?_
    have z := List.all_eq_true.mp h d hd
    unfold consTup at z
    split at z
    · exact ⟨_, _, rfl⟩
    · cases z
  · refine .inr fun d hd => ?_
    have z := List.all_eq_true.mp h d hd
    unfold noTup at z
    split at z
    · cases z
    · cases z
    · rename_i h1 h2
      exact ⟨h2, h1⟩
/-- texts in their order -/
def leS (a b : Str) : Bool := decide (a.cps.toList ≤ b.cps.toList)
def sortS (xs : List Str) : List Str := xs.mergeSort leS
theorem leS_trans (a b c : Str) (h : leS a b = true) (h2 : leS b c = true) : leS a c = true := decide_eq_true (List.le_trans (of_decide_eq_true h) (of_decide_eq_true h2))
theorem leS_total (a b : Str) : (leS a b || leS b a) = true := by
  rcases List.le_total a.cps.toList b.cps.toList with h | h
  · simp [leS, h]
  · simp [leS, h]
theorem leS_antisymm {a b : Str} (h : leS a b = true) (h2 : leS b a = true) : a = b := PySem.W.str_of_cps (List.le_antisymm (of_decide_eq_true h) (of_decide_eq_true h2))
theorem sortS_perm (xs : List Str) : (sortS xs).Perm xs := List.mergeSort_perm _ _
theorem sortS_pw (xs : List Str) : (sortS xs).Pairwise fun a b => leS a b = true := List.pairwise_mergeSort leS_trans leS_total xs
theorem sortS_eq {xs ys : List Str} (p : xs.Perm ys) (h : xs.Pairwise fun a b => leS a b = true) : xs = sortS ys :=
  List.Perm.eq_of_pairwise (fun a b _ _ h1 h2 => leS_antisymm h1 h2) h (sortS_pw ys) (p.trans (sortS_perm ys).symm)
theorem sortD_str (xs : List Str) : sortD (xs.map PyData.str) = (sortS xs).map PyData.str := by
  unfold sortD sortS
  rw [List.map_mergeSort fun a _ b _ => ?_]
  exact (congrFun (congrFun (PySem.W.dataLe_str (fun x : Str => x)) a) b).symm
theorem sortedS_pw : ∀ {ys : List Str}, sortedS ys = true → ys.Pairwise fun a b => leS a b = true
  | [], _ => .nil
  | [x], _ => by simp
  | x :: y :: r, h => by
    have h' : (!ltCps y.cps.toList x.cps.toList && risingS y r) = true := h
    rw [Bool.and_eq_true, PyProof.Rows.ltCps_eq, PySem.W.not_lt_str] at h'
    have ih := sortedS_pw (ys := y :: r) h'.2
    refine .cons (fun z hz => ?_) ih
    rcases List.mem_cons.mp hz with rfl | hz
    · exact h'.1
    · exact leS_trans _ _ _ h'.1 ((List.pairwise_cons.mp ih).1 z hz)
theorem sortStr {ys ks : List Str} (p : ys.Perm ks) (s : sortedS ys = true) : ys.map PyData.str = sortD (ks.map PyData.str) := by
  rw [sortD_str, ← sortS_eq p (sortedS_pw s)]
theorem call_sortedD' (X : Cx) (c : CxOk G S X) : CallR X (.builtin "sorted") (rDn G.K sortedD) := by
  intro pins s σ H xs us Q I rxs ⟨N, ds, r, tk, hs, eg, q⟩
  rw [← c.K] at hs q
  unfold sortedD at eg
  split at eg
  · split at eg
    · cases eg
      rename_i ds ho
      unfold sortOk at ho
      rw [Bool.and_eq_true, Bool.and_eq_true] at ho
      obtain ⟨⟨ha, hb⟩, hd⟩ := ho
      obtain ⟨v, rfl, h⟩ := hs.one
      obtain ⟨a, ys, rfl, h1, r1⟩ := h.list
      obtain ⟨u, rfl, rx⟩ := vals1 rxs
      cases rx
      obtain ⟨its, rv, pl, hz⟩ := I.list h1
      have hal := sortOk_alike ha
      obtain ⟨e1, e2⟩ := each_of I r1 rv fun d m => hal d m d m
      have hun := hu65 c.room
      refine PySem.W.sorted_data (enc := id) (bs := ds) (by simpa using pl.isList) e1 e2 (by rw [List.map_id]; exact hal) (by rw [List.map_id]; exact sortOk_sortable hb) (by rw [← r1.length]; exact hz) (fun d m => ?_) fun out ho eo => ?_
      · have := of_decide_eq_true (List.all_eq_true.mp hd d m)
        have c200 := c.room.un
        show _ + 2 + d.depth < _
        omega
      · obtain ⟨zs, h3, h4⟩ := each_back eo
        obtain ⟨ep, he'⟩ := PyProof.Rows.sortedAll_at s.heap its out.toArray
        refine ⟨.ref _, upd H (s.heap.objs.size + 1) (.lst zs), I.laid (t' := s.toks) (fun _ _ => PyProof.Rows.sortedAll_old) (Nat.le_succ _) ⟨?_, out, ep, h3, he'⟩, rfl, q _ _ (.lst tk (I.hok.fresh (Nat.le_succ _)) h4)⟩
        rw [h3.length, ho, ← r1.length]
        exact hz
    · cases eg
  · split at eg
    · cases eg
      rename_i kvs ho
      obtain ⟨h5, h6⟩ := ho
      obtain ⟨v, rfl, h⟩ := hs.one
      obtain ⟨a, ks, rfl, h1, r1⟩ := h.dict
      have hks : ∀ {ks : List (Key × V)} {kvs : List (D × D)}, RepK X.K N H ks kvs → (kvs.map (·.1)).all isStrD = true → ∃ zs : List Str, ks.map (·.1) = zs.map Sum.inr ∧ kvs.map (·.1) = zs.map PyData.str := by
        intro ks kvs h
        induction kvs generalizing ks with
        | nil => cases h; exact fun _ => ⟨[], rfl, rfl⟩
        | cons p r ih =>
          intro e
          cases h with
          | @cons k _ _ _ _ r1 t =>
            rw [List.map_cons, List.all_cons, Bool.and_eq_true] at e
            obtain ⟨zs, e1, e2⟩ := ih t e.2
            cases k with
            | inl i => cases e.1
            | inr x => exact ⟨x :: zs, by rw [List.map_cons, e1]; rfl, by rw [List.map_cons, e2]; rfl⟩
      obtain ⟨zs, e1, e2⟩ := hks r1 h5
      refine call_sortedD c.calm pins s σ H _ us Q I rxs ⟨a, ks, zs, rfl, .inl h1, e1, ?_, fun ys p hp hsd hH => ?_⟩
      · have := congrArg List.length e2
        rw [List.length_map, List.length_map] at this
        omega
      · refine q _ _ (.lst tk hH ?_)
        rw [e2, ← sortStr hp hsd]
        have : ∀ ys : List Str, RepL X.K N H (ys.map V.str) (ys.map PyData.str) := fun ys => by
          induction ys with
          | nil => exact .nil
          | cons y r ih => exact .cons (.str y) ih
        exact this ys
    · cases eg
  · cases eg
end
end L3

namespace L3
open PySem PySem.Spec PyProof.Rows L2

section
variable {G : GC} {S : SC}
/-! xs.append(x), xs.extend(ys), xs.insert(i, x) -/
def appendD : Bx → List D → Option (D × Bx)
  | .lst xs, [d] => if xs.length < sizeLine then some (.none, .lst (xs ++ [d])) else none
  | _, _ => none
def extendD : Bx → List D → Option (D × Bx)
  | .lst xs, [.list ds] => if xs.length + ds.length ≤ sizeLine then some (.none, .lst (xs ++ ds)) else none
  | _, _ => none
def insertD : Bx → List D → Option (D × Bx)
  | .lst xs, [.int i, d] => if xs.length < sizeLine ∧ 0 ≤ i ∧ i < 2 ^ 63 then some (.none, .lst (xs.take i.toNat ++ [d] ++ xs.drop i.toNat)) else none
  | _, _ => none
theorem mut_evo {N : Addr → Prop} {H : Hp} {q : Addr} {o : HO} (nq : N q) : Evo N H N (upd H q o) := ⟨fun a u e n => by rw [upd_ne (by intro z; subst z; exact n nq)]; exact e, fun a z => .inl z⟩
theorem mt_appendD (X : Cx) (c : CxOk G S X) : MtR X "list.append" (rMut G.K appendD) := by
  intro pins s σ H x xs v us Q I rx rxs ⟨N, q, b, ds, d, b', ex, tk, nq, bo, rl, eg, k⟩
  subst ex
  unfold appendD at eg
  split at eg
  · split at eg
    · cases eg
      obtain ⟨ys, e, r⟩ := bo
      cases rl with
      | cons r1 t =>
        cases t
        exact mt_append pins s σ H _ _ v us Q I rx rxs ⟨q, ys, _, rfl, rfl, e, by rw [r.length]; assumption, k _ _ ⟨_, upd_same, RepL.evo (mut_evo nq) _ _ (r.snoc r1)⟩ (fun a u n z => by rw [upd_ne n]; exact z) .non⟩
    · cases eg
  · cases eg
theorem mt_insertD (X : Cx) (c : CxOk G S X) : MtR X "list.insert" (rMut G.K insertD) := by
  intro pins s σ H x xs v us Q I rx rxs ⟨N, q, b, ds, d, b', ex, tk, nq, bo, rl, eg, k⟩
  subst ex
  unfold insertD at eg
  split at eg
  · split at eg
    · cases eg
      rename_i hz
      obtain ⟨ys, e, r⟩ := bo
      cases rl with
      | cons r0 t =>
        cases t with
        | cons r1 t =>
          cases t
          cases r0
          exact mt_insert pins s σ H _ _ v us Q I rx rxs ⟨q, ys, _, _, rfl, rfl, e, by rw [r.length]; exact hz.1, hz.2.1, hz.2.2, k _ _ ⟨_, upd_same, RepL.evo (mut_evo nq) _ _ (((r.take _).append (.cons r1 .nil)).append (r.drop _))⟩ (fun a u n z => by rw [upd_ne n]; exact z) .non⟩
    · cases eg
  · cases eg
theorem mt_extendD (X : Cx) (c : CxOk G S X) : MtR X "list.extend" (rMut G.K extendD) := by
  intro pins s σ H x xs v us Q I rx rxs ⟨N, q, b, ds, d, b', ex, tk, nq, bo, rl, eg, k⟩
  subst ex
  rw [← c.K] at rl bo k
  unfold extendD at eg
  split at eg
  · split at eg
    · cases eg
      rename_i hz
      obtain ⟨ys, e, r⟩ := bo
      cases rl with
      | cons r0 t =>
        cases t
        obtain ⟨b, zs, its2, n2, rfl, l2, rv2, z2, g2⟩ := SRep.listM I (.inl r0)
        cases rx
        obtain ⟨u, rfl, ru⟩ := vals1 rxs
        cases ru
        obtain ⟨z, its, n, rv, hl, e1⟩ := I.lstM e
        have hl2 := rv2.length
        have hy := r.length
        have hz2 := l2.length
        have hsz : its.toArray.size + its2.toArray.size ≤ sizeLine := by rw [List.size_toArray, List.size_toArray]; omega
        have hlong : ¬ (!its.toArray.isEmpty && Builtin.List.listTooLong (its.toArray.size + its2.toArray.size)) = true := by
          rw [notLongL hsz, Bool.and_false]
          exact Bool.false_ne_true
        refine call_meets F.slot_list_extend ⟨_, e1, rfl⟩ F.entry_list_extend (F.args_list_extend_2 _ _)
          (AutoSeq1.list_extend_list_list_0 q its.toArray n b its2.toArray n2 hlong (by rw [List.size_toArray]; omega) (by omega)) ⟨e1, g2, ?_⟩
        refine ⟨.non, _, I.lset (its' := its ++ its2) (t' := s.toks) e e1 (by simp) (rv.append rv2) ?_, rfl, k _ _ ⟨_, upd_same, RepL.evo (mut_evo nq) _ _ (r.append l2)⟩ (fun a u n z => by rw [upd_ne n]; exact z) .non⟩
        rw [List.length_append]
        omega
    · cases eg
  · cases eg

/-! d.get(k, x) -/
def noBoxD : D → Bool
  | .list _ => false
  | .dict _ => false
  | _ => true
theorem SRep.rep {K : PySem.W.Frag} {N : Addr → Prop} {H : Hp} {v : V} {d : D} (h : SRep K N H v d) (e : noBoxD d = true) : Rep K N H v d := by
  rcases h with h | ⟨q, b, rfl, e2, bo⟩
  · exact h
  · subst e2; cases b <;> cases e
def getV (kvs : List (D × D)) (k : D) : Option (Option D) := match k with
  | .none => some none
  | _ => (keyD k).map fun k => valD kvs k
def getD : D → List D → Option R
  | .dict kvs, [k, x] => if noBoxD x = true then (getV kvs k).map fun o => .dat (o.getD x) else none
  | .dict kvs, [k] => (getV kvs k).map fun o => .dat (o.getD .none)
  | _, _ => none
theorem getV_k {kvs : List (D × D)} {k : D} {o : Option D} (h : getV kvs k = some o) : (k = .none ∧ o = none) ∨ ∃ key, keyD k = some key ∧ o = valD kvs key := by
  unfold getV at h
  split at h
  · cases h; exact .inl ⟨rfl, rfl⟩
  · obtain ⟨key, e1, e2⟩ := Option.map_eq_some_iff.mp h
    exact .inr ⟨key, e1, e2.symm⟩
theorem d_getNone {X : Cx} {pins : List (Addr × Obj)} {σ : L2.St} {H : Hp} {s : Shared} {a : Addr} {kvs : List (Key × V)} {r : Value} {A : Around} {E Q : Value → Shared → Prop} (I : Inv X pins σ H s) (e : H a = some (.dK kvs)) (h : ∀ s', Inv X pins σ H s' → Q r s') :
    wpAny (model X.prog X.w) A (call (.builtin "dict.get") [.ref a, .none, r]) Q E s := by
  obtain ⟨z, hd, vs, rel, dd⟩ := dk_rd I.hok (.inl e)
  obtain ⟨f, hm, hn⟩ := none_map dd
  refine call_meetsIn PySem.F.slot_dict_get dd.typeIs PySem.F.entry_dict_get (PySem.F.args_dict_get_3 _ _ _) (meets_dict_get_default (noneKind X.prog X.w) a (show (noneKind X.prog X.w).is none .none = true from rfl) hd r) ⟨f, hm, ?_⟩
  rw [hn]
  exact h _ (I.tok _)
theorem d_getNone1 {X : Cx} {pins : List (Addr × Obj)} {σ : L2.St} {H : Hp} {s : Shared} {a : Addr} {kvs : List (Key × V)} {A : Around} {E Q : Value → Shared → Prop} (I : Inv X pins σ H s) (e : H a = some (.dK kvs)) (h : ∀ s', Inv X pins σ H s' → Q .none s') :
    wpAny (model X.prog X.w) A (call (.builtin "dict.get") [.ref a, .none]) Q E s := by
  obtain ⟨z, hd, vs, rel, dd⟩ := dk_rd I.hok (.inl e)
  obtain ⟨f, hm, hn⟩ := none_map dd
  refine call_meetsIn PySem.F.slot_dict_get dd.typeIs PySem.F.entry_dict_get (PySem.F.args_dict_get_2 _ _) (meets_dict_get (noneKind X.prog X.w) a (show (noneKind X.prog X.w).is none .none = true from rfl) hd) ⟨f, hm, ?_⟩
  rw [hn]
  exact h _ (I.tok _)
theorem mt_getD (X : Cx) (c : CxOk G S X) : MtR X "dict.get" (rDm G.K getD) := by
  intro pins s σ H x xs v us Q I rx rxs ⟨N, d, ds, r, tk, hx, hs, eg, q⟩
  rw [← c.K] at hx hs q
  unfold getD at eg
  split at eg
  · split at eg
    · rename_i kvs k x0 hb
      obtain ⟨o, e1, e2⟩ := Option.map_eq_some_iff.mp eg
      cases e2
      obtain ⟨y, z, rfl, hy, hz⟩ := hs.two
      obtain ⟨a, ks, rfl, h1, r1⟩ := hx.dict
      cases rx
      obtain ⟨u1, u2, rfl, ru1, ru2⟩ := vals2 rxs
      have hz' := hz.rep hb
      rcases getV_k e1 with ⟨rfl, rfl⟩ | ⟨key, ek, rfl⟩
      · have := hy.none
        subst this
        cases ru1
        exact d_getNone I h1 fun s' I' => ⟨z, H, I', ru2, q _ H (.dat hz')⟩
      · have := hy.key ek
        subst this
        refine d_get2 (hu_of c.room) I (DGet.k (k := key) h1) ru1 ru2 fun w' s' I' rw' => ⟨_, H, I', rw', q _ H (.dat ?_)⟩
        obtain ⟨g1, g2⟩ := r1.valD (k := key)
        cases e : L3.valD kvs key with
        | none => rw [g2 e]; exact hz'
        | some d => obtain ⟨w, e2, rw2⟩ := g1 d e; rw [e2]; exact rw2
    · cases eg
  · rename_i kvs k
    obtain ⟨o, e1, e2⟩ := Option.map_eq_some_iff.mp eg
    cases e2
    obtain ⟨y, rfl, hy⟩ := hs.one
    obtain ⟨a, ks, rfl, h1, r1⟩ := hx.dict
    cases rx
    obtain ⟨u1, rfl, ru1⟩ := vals1 rxs
    rcases getV_k e1 with ⟨rfl, rfl⟩ | ⟨key, ek, rfl⟩
    · have := hy.none
      subst this
      cases ru1
      exact d_getNone1 I h1 fun s' I' => ⟨.non, H, I', rfl, q _ H (.dat .non)⟩
    · have := hy.key ek
      subst this
      refine d_get1 (hu_of c.room) I (DGet.k (k := key) h1) ru1 fun w' s' I' rw' => ⟨_, H, I', rw', q _ H (.dat ?_)⟩
      obtain ⟨g1, g2⟩ := r1.valD (k := key)
      cases e : L3.valD kvs key with
      | none => rw [g2 e]; exact .non
      | some d => obtain ⟨w, e2, rw2⟩ := g1 d e; rw [e2]; exact rw2
  · cases eg
/-! xs.count(b) of truths -/
def countD : D → List D → Option R
  | .list ds, [.bool b] => (boolsD ds).map fun bs => .dat (.int (bs.count b : Nat))
  | _, _ => none
def eqkB (b : Bool) : Value → Bool
  | .bool c => c == b
  | _ => false
theorem bools_count (b : Bool) : ∀ {bs : List Bool} {us : List Value}, Vals (bs.map V.bl) us → us.countP (eqkB b) = bs.count b
  | [], us, r => by rw [List.map_nil] at r; cases r; rfl
  | c :: bs, us, r => by
    rw [List.map_cons] at r
    cases r with
    | cons h t =>
      cases h
      rw [List.countP_cons, bools_count b t, List.count_cons]
      rfl
theorem bools_gives (b : Bool) {A : Around} {s : Shared} : ∀ {bs : List Bool} {us : List Value}, Vals (bs.map V.bl) us → ∀ y ∈ us, SeqAt.EqAt A s y (.bool b) (eqkB b y)
  | [], us, r => by rw [List.map_nil] at r; cases r; exact fun y m => by cases m
  | c :: bs, us, r => by
    rw [List.map_cons] at r
    cases r with
    | cons h t =>
      cases h
      intro y m
      rcases List.mem_cons.mp m with rfl | m
      · exact SeqAt.EqAt.bool_bool c b
      · exact bools_gives b t y m
theorem mt_countD (X : Cx) (c : CxOk G S X) : MtR X "list.count" (rDm G.K countD) := by
  intro pins s σ H x xs v us Q I rx rxs ⟨N, d, ds, r, tk, hx, hs, eg, q⟩
  rw [← c.K] at hx hs q
  unfold countD at eg
  split at eg
  · rename_i b
    obtain ⟨bs, e1, e2⟩ := Option.map_eq_some_iff.mp eg
    cases e2
    obtain ⟨y, rfl, hy⟩ := hs.one
    have := hy.bool
    subst this
    obtain ⟨a, ys, rfl, h1, r1⟩ := hx.list
    have := r1.bools e1
    subst this
    cases rx
    obtain ⟨u1, rfl, ru1⟩ := vals1 rxs
    cases ru1
    obtain ⟨its, rv, ⟨⟨cls, dd, data, sl⟩, n, ho, hc, hdn, hd⟩, hlen⟩ := I.list h1
    simp only at hc hd
    subst hc hd
    refine call_meets PySem.F.slot_list_count ⟨_, ho, rfl⟩ PySem.F.entry_list_count (PySem.F.args_list_count_2 _ _)
      (SeqAt.list_countAt a its.toArray n dd sl (.bool b) (eqkB b)) ⟨ho, fun y hy => bools_gives b rv y (by simpa using hy), ?_⟩
    have ec : its.toArray.toList.countP (eqkB b) = bs.count b := bools_count b rv
    refine ⟨.int (bs.count b : Nat), H, I.tok _, ⟨s.toks, ?_⟩, q _ H (.dat (.int _))⟩
    show Value.int ((its.toArray.toList.countP (eqkB b) : Nat) : Int) s.toks = _
    rw [ec]
  · cases eg
end
end L3

namespace L3
open PySem PySem.Spec PyProof.Rows L2
theorem vals_kv {kvs : List (Key × V)} {vs : List (Key × Value)} (r : KV kvs vs) : Vals (kvs.map (·.2)) (vs.map (·.2)) := by
  unfold KV at r
  induction r with
  | nil => exact .nil
  | cons r t ih => exact .cons r.2 ih
theorem pe_listVals {X : Cx} {o : Expr} {p pos apos mpos : Pos} {td : TE} (hc : X.calm = true) (hg : Gl X "list") (hm : X.mg "list" = none) (hd : PE X o td) (hbase : attributeBase o "values" X.env (eval o X.env) = eval o X.env) (hline : (apos.endLine == mpos.line) = true)
    (na : starEach [Expr.Call (.Attribute o "values" apos) [] [] mpos] X.env = (false, eval (Expr.Call (.Attribute o "values" apos) [] [] mpos) X.env) :: starEach [] X.env) :
    PE X (.Call (.Name "list" p) [.Call (.Attribute o "values" apos) [] [] mpos] [] pos) (fun σ H Q => td σ H fun x H1 => ∃ a kvs, x = .ref a ∧ H1 a = some (.dK kvs) ∧ ∀ l, H1 l = none → Q (.ref l) (upd H1 l (.lst (kvs.map (·.2))))) := by
  refine ⟨fun pins s σ H Q I h => ?_⟩
  refine Call_ (ld_blt I hg hm boot_list (PyProof.Rows.callWith_type1 (args_cons (wpAny_Call_method (T := "dict") (id := "dict.values") hbase rfl hline F.plainAttrs_dict F.slot_dict_values F.type_dict_values (thn (hd.run pins s σ H _ I h) fun u s1 ⟨x, H1, I1, rx, a, kvs, ex, hd, q⟩ => ?_)) na) na))
  subst ex
  obtain rfl : u = Value.ref a := rx
  obtain ⟨hz, hsys, vs, rel, dof⟩ := dk_of I1.hok hd
  obtain ⟨ep, dat⟩ := dof.dictAt
  refine ⟨dof.typeIs, dof.mapOf.noDict, ?_⟩
  have I2 : Inv X pins σ H1 { s1 with heap := s1.heap.push { cls := .type "dict_values", data := .fields #[.ref a] } } := I1.kept (t' := s1.toks) fun b ob q => Heap.get?_push_of_some _ q
  have hv : (s1.heap.push { cls := .type "dict_values", data := .fields #[.ref a] }).IsValuesView s1.heap.objs.size a := ⟨_, Heap.get?_push_size _ rfl, rfl, rfl⟩
  have dat1 : (s1.heap.push { cls := .type "dict_values", data := .fields #[.ref a] }).DictAt (mixKind X.prog X.w) a vs ep := dat.keep fun b ob q => Heap.get?_push_of_some _ q
  have hl : kvs.length = vs.length := Paired.length rel
  refine method_meetsIn F.slot_dict_values F.entry_dict_values rfl (PySem.evalArgs_none ⟨rfl, dof.typeIs, F.args_dict_values_1 _, _, meets_dict_values (mixKind X.prog X.w) a hsys, ⟨vs, dof⟩, args_nil ?_⟩)
  refine PySem.W.kdl_call (PySem.W.kdl_values (knd := mixKind X.prog X.w) (kvs := vs) (ep := ep)) (I2.ok.hd hc) ⟨hv, dat1⟩ (by rw [← hl]; exact hz) fun h' tk acc c' hk hD hacc => ?_
  have ev : acc.toList = vs.map (·.2) := PySem.W.kdl_vals_eq acc.toList (by rw [Array.length_toList]; exact hacc.1) fun j v e => hacc.2 j v (by rw [← Array.getElem?_toList]; exact e)
  refine ⟨.ref _, _, I2.laid (t' := tk) (o := .lst (kvs.map (·.2))) hk (Nat.le_refl _) ⟨by rw [List.length_map]; exact hz, acc.toList, c', by rw [ev]; exact vals_kv rel, by rw [Array.toArray_toList]; exact hD⟩, rfl, q _ (I2.hok.fresh (Nat.le_refl _))⟩
section
variable {G : GC} {S : SC}
def valuesD : D → Option R
  | .dict kvs => some (.new (.lst (kvs.map (·.2))))
  | _ => none
theorem de_listVals {o : Expr} {p pos apos mpos : Pos} {m : ME} (hg : S.sc.names.lookup ("list" : Str) = some .globalImplicit) (hm : G.mg ("list" : Str) = none) (hd : DE G S o m) (hbase : ∀ env : PySem.Env, attributeBase o "values" env (eval o env) = eval o env) (hline : (apos.endLine == mpos.line) = true)
    (na : ∀ env : PySem.Env, starEach [Expr.Call (.Attribute o "values" apos) [] [] mpos] env = (false, eval (Expr.Call (.Attribute o "values" apos) [] [] mpos) env) :: starEach [] env) :
    DE G S (.Call (.Name "list" p) [.Call (.Attribute o "values" apos) [] [] mpos] [] pos) (m1 valuesD m) := by
  intro X c
  refine PE.weak (pe_listVals c.calm (by show X.env.scope.names.lookup ("list" : Str) = _; rw [c.sc]; exact hg) (by rw [c.mg]; exact hm) (hd X c) (hbase _) hline (na _)) ?_
  intro σ H Q q
  have z := rd1 q
  rw [← c.K] at z ⊢
  obtain ⟨W, ρ, r, ρ', rel, em, k⟩ := z
  refine ⟨W, ρ, r, ρ', rel, em, fun v H' p => ?_⟩
  obtain ⟨N, d, r2, tk, hx, eg, q2⟩ := k v H' p
  cases d with
  | dict kvs =>
    cases eg
    obtain ⟨a, ks, rfl, h1, r1⟩ := hx.dict
    exact ⟨a, ks, rfl, h1, fun l hl => q2 _ _ (.lst tk hl r1.vals)⟩
  | none => cases eg
  | bool _ => cases eg
  | int _ => cases eg
  | str _ => cases eg
  | list _ => cases eg
  | tuple _ => cases eg
/-! {k: v, ..} of constants -/
def vF : D → V
  | .bool b => .bl b
  | .int i => .int i
  | .str x => .str x
  | _ => .non
theorem vF_rep {K : PySem.W.Frag} {N : Addr → Prop} {H : Hp} {d : D} (h : flatD d = true) : Rep K N H (vF d) d := by
  cases d with
  | none => exact .non
  | bool b => exact .bl b
  | int i => exact .int i
  | str x => exact .str x
  | list _ => cases h
  | tuple _ => cases h
  | dict _ => cases h
def mdic (kvs : List (Key × D)) : ME := fun ρ => some (.new (.dic (mergeKD [] kvs)), ρ)
def trC (kvs : List (Key × D)) : List (TE × TE) := kvs.map fun p => (tC (kV p.1), tC (vF p.2))
theorem tPairs_C {σ : L2.St} {H : Hp} : ∀ {kvs : List (Key × D)} {Q : List (V × V) → Hp → Prop}, Q (kvs.map fun p => (kV p.1, vF p.2)) H → tPairs (trC kvs) σ H Q
  | [], _, h => h
  | p :: r, Q, h => tPairs_C (kvs := r) (Q := fun ps H3 => Q ((kV p.1, vF p.2) :: ps) H3) h
theorem de_dicC {pos : Pos} {keys : List (Option Expr)} {values : List Expr} {kvs : List (Key × D)} (h : ∀ X : Cx, PPs X pos keys values (trC kvs)) (hall : keys.all (·.isSome) = true) (hl : keys.length = values.length) (h0 : keys ≠ [])
    (h15 : keys.length ≤ 15) (hk : kvs.length ≤ 15) (hf : kvs.all (fun p => flatD p.2) = true) : DE G S (.Dict keys values pos) (mdic kvs) := by
  intro X c
  refine PE.weak (pe_disp (h X) hall hl h0 h15) ?_
  rintro σ H Q ⟨W, ρ, r, ρ', rel, em, q⟩
  cases em
  intro p hp
  refine tPairs_C ⟨upd_same, kvs.map (fun p => (p.1, vF p.2)), by rw [List.map_map]; rfl, by rw [List.length_map]; exact hk, ?_⟩
  rw [upd_upd]
  have hr : ∀ {kvs : List (Key × D)}, kvs.all (fun p => flatD p.2) = true → RepK G.K (Av W.P ρ σ) H (kvs.map fun p => (p.1, vF p.2)) (dkv kvs) := by
    intro kvs
    induction kvs with
    | nil => exact fun _ => .nil
    | cons p r ih =>
      intro h
      rw [List.all_cons, Bool.and_eq_true] at h
      exact .cons (vF_rep h.1) (ih h.2)
  exact q _ _ ((PostX.refl rel).fin (.dic rel.trk hp ((hr hf).merge .nil)))
end
end L3

namespace L3
open PySem PySem.Spec PyProof.Rows L2
section
variable {G : GC} {S : SC}
def negD : D → Option R
  | .int i => some (.dat (.int (-i)))
  | _ => none
theorem un_negD (X : Cx) (c : CxOk G S X) : UnR X (unaryOp .USub) (rD1 G.K negD) := by
  intro pins s σ H x v Q I rx ⟨N, d, r, tk, hx, eg, q⟩
  unfold negD at eg
  split at eg
  · cases eg
    have e1 := hx.int
    subst e1
    exact un_neg pins s σ H _ v Q I rx ⟨_, rfl, q _ H (.dat (.int _))⟩
  · cases eg
end
/-- a name that is seen -/
def visB (sc : Scope) (x : Str) : Bool := match sc.names.lookup x with
  | some .local => true
  | some .cell => true
  | some .free => true
  | _ => false
theorem vis_of {sc : Scope} {x : Str} (h : visB sc x = true) : Vis sc x := by
  unfold visB at h
  split at h <;> first | exact .inl (by assumption) | exact .inr (.inl (by assumption)) | exact .inr (.inr (by assumption)) | cases h
/-- a name that may be written -/
def stoB (S : SC) (x : Str) : Bool := match S.sc.names.lookup x with
  | some .local => true
  | some .cell => S.fn x
  | _ => false
theorem sto_of {S : SC} {i : Nat} {x : Str} (h : S.N[i]? = some x) (e : stoB S x = true) : StoOk S i x := by
  unfold stoB at e
  split at e
  · rename_i q; exact ⟨h, .inl q, .inr q⟩
  · rename_i q; exact ⟨h, .inr q, .inl e⟩
  · cases e
end L3

namespace L3
open PySem PySem.Spec PyProof.Rows L2
/-! comprehensions with two generators -/
abbrev TurnF := D → List D → En → Option (List D × En)
def lcIT (tn : TurnF) : List D → List D → En → Option (List D × En)
  | [], acc, ρ => some (acc, ρ)
  | d :: ds, acc, ρ => (tn d acc ρ).bind fun x => lcIT tn ds x.1 x.2
def lcST (i : Nat) (tn : TurnF) : List D → Nat → List D → En → Option (List D × En)
  | [], n, acc, ρ => (lstAt ρ i).bind fun xs => (guardO (decide (xs.length ≤ n))).bind fun _ => some (acc, ρ)
  | _ :: ds, n, acc, ρ => (lstAt ρ i).bind fun xs => (xs[n]?).bind fun d => (tn d acc ρ).bind fun x => lcST i tn ds (n + 1) x.1 x.2
def lcRun (tn : TurnF) (vs : List Nat) (acc : List D) : It3 → En → Option (List D × En)
  | .items ds, ρ => lcIT tn ds acc (wipeE ρ vs)
  | .slot i ds, ρ => (guardO (decide (i ∉ vs))).bind fun _ => lcST i tn ds 0 acc (wipeE ρ vs)
def turn2 (g : MG) (t : MT) (vs : List Nat) (mi1 : MI) (g1 : MG) (t1 : MT) (m : ME) (vs1 : List Nat) : TurnF := fun d acc ρ =>
  (g d (wipeE ρ vs)).bind fun ρ1 => (t ρ1).bind fun x => if x.1 = true then (mi1 x.2).bind fun y => lcRun (fun d acc ρ => mturn g1 t1 m vs1 d acc ρ) vs1 acc y.1 y.2 else some (acc, x.2)
def mlc2 (mi : MI) (g : MG) (t : MT) (mi1 : MI) (g1 : MG) (t1 : MT) (m : ME) (vs vs1 : List Nat) : ME := fun ρ => (mi ρ).bind fun x => (guardO (noBx x.2 vs)).bind fun _ =>
  (lcRun (turn2 g t vs mi1 g1 t1 m vs1) vs [] x.1 x.2).bind fun y => some (.new (.lst y.1), restE x.2 y.2 vs)
theorem loop_ok {K : PySem.W.Frag} {W W0 : Wd} {σ : L2.St} {ρ1 ρf : En} {H1 Hs : Hp} {vs : List Nat} {q : Addr} (tn : TurnF) (BODY : V → Hp → (Hp → Prop) → Prop) {it : It3} {J : It} {accs acc : List PyData} {End : Hp → Prop}
    (ev : ∀ ρb Hc acc', Chn K W q (wipe σ vs) (wipeE ρ1 vs) H1 (wipeE ρb vs) Hc acc' → Evo (Av W0.P ρ1 σ) H1 (Av (W.D q).P (wipeE ρb vs) (wipe σ vs)) Hc)
    (jt : ItOk K W0 ρ1 σ H1 J it) (start : Chn K W q (wipe σ vs) (wipeE ρ1 vs) H1 (wipeE (wipeE ρ1 vs) vs) Hs accs) (e3 : lcRun tn vs accs it ρ1 = some (acc, ρf))
    (turn : ∀ (ρb ρc : En) (Hb : Hp) (a a' : List PyData) (d : PyData) (x : V) (Nx : Hp → Prop), Chn K W q (wipe σ vs) (wipeE ρ1 vs) H1 (wipeE ρb vs) Hb a → Rep K (Av (W.D q).P (wipeE ρb vs) (wipe σ vs)) Hb x d → tn d a ρb = some (a', ρc) →
      (∀ H', Chn K W q (wipe σ vs) (wipeE ρ1 vs) H1 (wipeE ρc vs) H' a' → Nx H') → BODY x Hb Nx)
    (fin : ∀ Hc, Chn K W q (wipe σ vs) (wipeE ρ1 vs) H1 (wipeE ρf vs) Hc acc → End Hc) :
    ∃ Wf : Nat → Nat → Hp → Prop, (∃ m, Wf 0 m Hs) ∧ ∀ i m H, Wf i m H → (J.stop i H ∧ End H) ∨ (J.go i H ∧ ∃ Nx : Hp → Prop, (∀ H', Nx H' → ∃ m', m' < m ∧ Wf (i + 1) m' H') ∧ ∀ x H', J.yld i H x H' → BODY x H' Nx) := by
  cases it with
  | items ds =>
    refine ⟨fun i mm Hc => ∃ ρb acc', Chn K W q (wipe σ vs) (wipeE ρ1 vs) H1 (wipeE ρb vs) Hc acc' ∧ mm = (ds.drop i).length ∧ i ≤ ds.length ∧ lcIT tn (ds.drop i) acc' ρb = some (acc, ρf), ⟨ds.length, wipeE ρ1 vs, accs, start, rfl, Nat.zero_le _, e3⟩, ?_⟩
    rintro i mm Hc ⟨ρb, acc', c, rfl, hle, e4⟩
    obtain ⟨j1, j2⟩ := jt _ _ (ev ρb Hc acc' c) c.rel.trk
    cases hd : ds.drop i with
    | nil =>
      rw [hd] at e4
      cases e4
      exact .inl ⟨j2 i (List.drop_eq_nil_iff.mp hd), fin Hc c⟩
    | cons d rest =>
      rw [hd] at e4
      have hi' : ds[i]? = some d := by
        have := congrArg List.head? hd
        rwa [List.head?_drop] at this
      have hrest : ds.drop (i + 1) = rest := by
        rw [← List.drop_drop (i := 1) (j := i), hd]; rfl
      have hlt : i < ds.length := (List.getElem?_eq_some_iff.mp hi').1
      obtain ⟨go, yl⟩ := j1 i d hi'
      obtain ⟨⟨acc2, ρ2⟩, e5, e4⟩ := Option.bind_eq_some_iff.mp (show (tn d acc' ρb).bind _ = _ from e4)
      refine .inr ⟨go, fun H' => Chn K W q (wipe σ vs) (wipeE ρ1 vs) H1 (wipeE ρ2 vs) H' acc2, fun H' c' => ⟨(ds.drop (i + 1)).length, by rw [hrest]; exact Nat.lt_succ_self _, ρ2, acc2, c', rfl, hlt, by rw [hrest]; exact e4⟩, fun x H3 hy => ?_⟩
      obtain ⟨s3, r3⟩ := yl x H3 hy
      have c3 : Chn K W q (wipe σ vs) (wipeE ρ1 vs) H1 (wipeE ρb vs) H3 acc' := by
        have p := c.rel.same s3
        refine ⟨p.rel, fun a o h n nq => s3 _ _ (c.ext a o h n nq), fun a o h => ?_, c.sub, c.stay, ?_⟩
        · obtain ⟨o', h'⟩ := c.thr a o h; exact ⟨o', s3 _ _ h'⟩
        · obtain ⟨xs, l1, l2⟩ := c.lst
          exact ⟨xs, s3 _ _ l1, RepL.evo (p.evo c.rel) _ _ l2⟩
      exact turn ρb ρ2 H3 acc' acc2 d x _ c3 r3 e5 fun H' c' => c'
  | slot i0 ds0 =>
    obtain ⟨u2, e6, e3⟩ := Option.bind_eq_some_iff.mp (show (guardO (decide (i0 ∉ vs))).bind _ = _ from e3)
    obtain ⟨qs, ow, bx, hq, hb0, rfl, hB⟩ := jt
    have hi0 : i0 ∉ vs := guardO_dec e6
    have cur : ∀ {ρb : En} {Hc : Hp} {acc' xs : List PyData}, Chn K W q (wipe σ vs) (wipeE ρ1 vs) H1 (wipeE ρb vs) Hc acc' → lstAt ρb i0 = some xs → ∃ ys, Hc qs = some (.lst ys) ∧ RepL K (Av (W.D q).P (wipeE ρb vs) (wipe σ vs)) Hc ys xs := fun {ρb Hc acc' xs} c hx => by
      obtain ⟨o, hx'⟩ := lstAt_some hx
      obtain ⟨q1, h1, h2, _⟩ := c.rel.boxOk (i := i0) (by rw [wipeE_get, if_neg hi0]; exact hx')
      rw [wipe_get, if_neg hi0, hq] at h1
      cases h1
      exact h2
    refine ⟨fun i mm Hc => ∃ ρb acc' ds, Chn K W q (wipe σ vs) (wipeE ρ1 vs) H1 (wipeE ρb vs) Hc acc' ∧ mm = ds.length ∧ lcST i0 tn ds i acc' ρb = some (acc, ρf), ⟨ds0.length, wipeE ρ1 vs, accs, ds0, start, rfl, e3⟩, ?_⟩
    rintro i mm Hc ⟨ρb, acc', ds, c, rfl, e4⟩
    cases ds with
    | nil =>
      obtain ⟨xs, hx, e4⟩ := Option.bind_eq_some_iff.mp (show (lstAt ρb i0).bind _ = _ from e4)
      obtain ⟨u3, hl, e4⟩ := Option.bind_eq_some_iff.mp e4
      cases e4
      obtain ⟨ys, h1, h2⟩ := cur c hx
      exact .inl ⟨⟨ys, .inl (.inl h1), by rw [h2.length]; exact guardO_dec hl⟩, fin Hc c⟩
    | cons d0 ds =>
      obtain ⟨xs, hx, e4⟩ := Option.bind_eq_some_iff.mp (show (lstAt ρb i0).bind _ = _ from e4)
      obtain ⟨d, hd, e4⟩ := Option.bind_eq_some_iff.mp e4
      obtain ⟨⟨acc2, ρ2⟩, e5, e4⟩ := Option.bind_eq_some_iff.mp e4
      obtain ⟨ys, h1, h2⟩ := cur c hx
      obtain ⟨y, hy1, hy2⟩ := h2.get hd
      refine .inr ⟨⟨ys, y, .inl (.inl h1), hy1⟩, fun H' => Chn K W q (wipe σ vs) (wipeE ρ1 vs) H1 (wipeE ρ2 vs) H' acc2, fun H' c' => ⟨ds.length, Nat.lt_succ_self _, ρ2, acc2, ds, c', rfl, e4⟩, fun x H3 hy => ?_⟩
      obtain ⟨e7, e8⟩ := hy
      subst e7
      have := e8 ys (.inl (.inl h1))
      rw [hy1] at this; cases this
      exact turn ρb ρ2 _ acc' acc2 d _ _ c hy2 e5 fun H' c' => c'
theorem wipe_sub {σ : L2.St} {vs vs1 : List Nat} (hv : ∀ i ∈ vs1, i ∈ vs) : wipe (wipe σ vs1) vs = wipe σ vs := by
  refine List.ext_getElem? fun j => ?_
  rw [wipe_get, wipe_get (σ := σ) (vs := vs)]
  by_cases hj : j ∈ vs
  · rw [if_pos hj, if_pos hj, wipe_get]
    by_cases h1 : j ∈ vs1
    · rw [if_pos h1]; cases σ[j]? <;> rfl
    · rw [if_neg h1]
  · rw [if_neg hj, if_neg hj, wipe_get, if_neg fun z => hj (hv j z)]
theorem wipeE_sub {ρ : En} {vs vs1 : List Nat} (hv : ∀ i ∈ vs1, i ∈ vs) : wipeE (wipeE ρ vs1) vs = wipeE ρ vs := by
  refine List.ext_getElem? fun j => ?_
  rw [wipeE_get, wipeE_get (ρ := ρ) (vs := vs)]
  by_cases hj : j ∈ vs
  · rw [if_pos hj, if_pos hj, wipeE_get]
    by_cases h1 : j ∈ vs1
    · rw [if_pos h1]; cases ρ[j]? <;> rfl
    · rw [if_neg h1]
  · rw [if_neg hj, if_neg hj, wipeE_get, if_neg fun z => hj (hv j z)]
/-- inside a turn: the inner chain's start, and an inner chain is an outer one -/
theorem mid_ok {K : PySem.W.Frag} {W : Wd} {q : Addr} {σ σ2 : L2.St} {ρ0 ρb ρ1 ρ3 : En} {H0 Hb H4 : Hp} {acc : List D} {vs vs1 : List Nat} (hv : ∀ i ∈ vs1, i ∈ vs) (hw : wipe σ2 vs = wipe σ vs)
    (c : Chn K W q (wipe σ vs) (wipeE ρ0 vs) H0 (wipeE ρb vs) Hb acc) (sb1 : ∀ a, BoxAt ρ1 σ2 a → BoxAt (wipeE ρb vs) (wipe σ vs) a) (st1 : ∀ (i : Nat) (a : A), i ∉ vs → (wipeE ρb vs)[i]? = some (some a) → ∃ a', ρ1[i]? = some (some a'))
    (p : PostX K (W.D q) ρ1 σ2 Hb ρ3 H4) :
    Chn K W q (wipe σ2 vs1) (wipeE ρ3 vs1) H4 (wipeE (wipeE ρ3 vs1) vs1) H4 acc ∧ ∀ (ρf : En) (H' : Hp) (acc' : List D), Chn K W q (wipe σ2 vs1) (wipeE ρ3 vs1) H4 (wipeE ρf vs1) H' acc' → Chn K W q (wipe σ vs) (wipeE ρ0 vs) H0 (wipeE ρf vs) H' acc' := by
  have sub3 : ∀ a, BoxAt (wipeE ρ3 vs1) (wipe σ2 vs1) a → BoxAt ρ3 σ2 a := (p.rel.wipe vs1).2
  refine ⟨?_, fun ρf H' acc' c' => ?_⟩
  · rw [wipeE_idem]
    refine ⟨(p.rel.wipe vs1).1, fun a o h _ _ => h, fun a o h => ⟨o, h⟩, fun a z => z, fun i a h => ⟨a, h⟩, ?_⟩
    obtain ⟨xs, l1, l2⟩ := c.lst
    have ev : Evo (Av (W.D q).P (wipeE ρb vs) (wipe σ vs)) Hb (Av (W.D q).P (wipeE ρ3 vs1) (wipe σ2 vs1)) H4 := ⟨fun a o h n => p.ext a o h fun z => n (.inr (sb1 a z)), fun a z => .inl (z.imp id fun z => sb1 a (p.sub a (sub3 a z)))⟩
    exact ⟨xs, p.ext q _ l1 fun z => c.rel.pdis q (.inr rfl) (sb1 q z), RepL.evo ev _ _ l2⟩
  · obtain ⟨r1, s1⟩ := c'.rel.wipe vs
    rw [wipeE_sub hv, wipe_sub (σ := σ2) hv, hw] at r1 s1
    have up : ∀ a, BoxAt (wipeE ρ3 vs1) (wipe σ2 vs1) a → BoxAt (wipeE ρ0 vs) (wipe σ vs) a := fun a z => c.sub a (sb1 a (p.sub a (sub3 a z)))
    refine ⟨r1, fun a o h n nq => c'.ext a o (p.ext a o (c.ext a o h n nq) fun z => n (c.sub a (sb1 a z))) (fun z => n (up a z)) nq, fun a o h => ?_, fun a z => up a (c'.sub a (s1 a z)), fun i a h => ?_, ?_⟩
    · obtain ⟨o', h'⟩ := c.thr a o h
      obtain ⟨o2, h2⟩ := p.thr a o' h'
      exact c'.thr a o2 h2
    · obtain ⟨a1, h1⟩ := c.stay i a h
      obtain ⟨n, _⟩ := wipeE_some h
      obtain ⟨a2, h2⟩ := st1 i a1 n h1
      obtain ⟨a3, h3⟩ := p.stay i a2 h2
      obtain ⟨a4, h4⟩ := c'.stay i a3 (by rw [wipeE_get, if_neg fun z => n (hv i z)]; exact h3)
      rw [wipeE_get, if_neg fun z => n (hv i z)] at h4
      exact ⟨a4, by rw [wipeE_get, if_neg n]; exact h4⟩
    · obtain ⟨xs, l1, l2⟩ := c'.lst
      exact ⟨xs, l1, RepL.evo (mono_av fun a z => z.imp id (s1 a)) _ _ l2⟩
theorem turn2_ok {K : PySem.W.Frag} {W : Wd} {q : Addr} {σ : L2.St} {ρ0 ρb ρc : En} {H0 Hb : Hp} {acc acc' : List D} {is vs is1 vs1 : List Nat} {g g1 : MG} {t t1 : MT} {mi1 : MI} {m : ME} {d : D} {x : V} {Nx : Hp → Prop} (hs : ∀ i ∈ is, i ∈ vs) (st : GStay g is) (hv : ∀ i ∈ vs1, i ∈ vs) (hs1 : ∀ i ∈ is1, i ∈ vs1) (stI : GStay g1 is1) (h0 : W.H0 q = none)
    (c : Chn K W q (wipe σ vs) (wipeE ρ0 vs) H0 (wipeE ρb vs) Hb acc) (rx : Rep K (Av (W.D q).P (wipeE ρb vs) (wipe σ vs)) Hb x d) (e : turn2 g t vs mi1 g1 t1 m vs1 d acc ρb = some (acc', ρc))
    (nx : ∀ H', Chn K W q (wipe σ vs) (wipeE ρ0 vs) H0 (wipeE ρc vs) H' acc' → Nx H') :
    rdG K is g x (wipe σ vs) Hb fun σ2 H2 => wipe σ2 vs = wipe σ vs ∧ rdT K t σ2 H2 fun b H3 => if b = true then rdI K mi1 σ2 H3 fun J1 H4 => ∃ W1 : Nat → Nat → Hp → Prop, (∃ m, W1 0 m H4) ∧ ∀ j k H, W1 j k H →
      (J1.stop j H ∧ Nx H) ∨ (J1.go j H ∧ ∃ Nx1 : Hp → Prop, (∀ H', Nx1 H' → ∃ k', k' < k ∧ W1 (j + 1) k' H') ∧ ∀ x H', J1.yld j H x H' → rdG K is1 g1 x (wipe σ2 vs1) H' fun σ3 H5 => wipe σ3 vs1 = wipe σ2 vs1 ∧ rdT K t1 σ3 H5 fun b H6 =>
        if b = true then rd K m σ3 H6 fun y H7 => ∃ acc, H7 q = some (.lst acc) ∧ acc.length < sizeLine ∧ Nx1 (upd H7 q (.lst (acc ++ [y]))) else Nx1 H6) else Nx H3 := by
  unfold turn2 at e
  obtain ⟨ρ1, e1, e⟩ := Option.bind_eq_some_iff.mp e
  obtain ⟨⟨b, ρ2⟩, e2, e⟩ := Option.bind_eq_some_iff.mp e
  refine ⟨W.D q, wipeE ρb vs, d, ρ1, c.rel, rx, e1, fun σ2 p1 ch => ?_⟩
  have hw : wipe σ2 vs = wipe σ vs := wipe_same hs ch.1 ch.2
  refine ⟨hw, W.D q, ρ1, b, ρ2, p1.rel, e2, fun H3 p2 => ?_⟩
  have sb1 : ∀ a, BoxAt ρ1 σ2 a → BoxAt (wipeE ρb vs) (wipe σ vs) a := fun a z => by
    rcases p1.new a z with y | y
    · exact y
    · obtain ⟨o, y'⟩ := p1.rel.boxThere z
      rw [y] at y'; cases y'
  have st1 : ∀ (i : Nat) (a : A), i ∉ vs → (wipeE ρb vs)[i]? = some (some a) → ∃ a', ρ1[i]? = some (some a') := fun i a n e => st _ _ _ e1 i a (fun z => n (hs i z)) e
  cases b with
  | false =>
    rw [if_neg Bool.false_ne_true] at e
    cases e
    obtain ⟨k1, k2⟩ := mid_ok (vs1 := []) (fun _ z => nomatch z) hw c sb1 st1 p2
    exact iteF (nx H3 (k2 _ _ _ k1))
  | true =>
    rw [if_pos rfl] at e
    refine iteT ?_
    obtain ⟨⟨it, ρ3⟩, e3, e⟩ := Option.bind_eq_some_iff.mp e
    refine ⟨W.D q, ρ2, it, ρ3, p2.rel, e3, fun J1 H4 p3 jt => ?_⟩
    obtain ⟨k1, k2⟩ := mid_ok hv hw c sb1 st1 (p2.trans p3)
    have sub3 : ∀ a, BoxAt (wipeE ρ3 vs1) (wipe σ2 vs1) a → BoxAt ρ3 σ2 a := (p3.rel.wipe vs1).2
    exact loop_ok (W0 := W.D q) (ρ1 := ρ3) (ρf := ρc) (acc := acc') (vs := vs1) (End := Nx) (fun d acc ρ => mturn g1 t1 m vs1 d acc ρ)
      (fun x H' Nx1 => rdG K is1 g1 x (wipe σ2 vs1) H' fun σ3 H5 => wipe σ3 vs1 = wipe σ2 vs1 ∧ rdT K t1 σ3 H5 fun b H6 => if b = true then rd K m σ3 H6 fun y H7 => ∃ acc, H7 q = some (.lst acc) ∧ acc.length < sizeLine ∧ Nx1 (upd H7 q (.lst (acc ++ [y]))) else Nx1 H6)
      (fun ρb Hc acc' c' => ⟨fun a o h n => c'.ext a o h (fun z => n (.inr (sub3 a z))) (fun z => n (.inl (.inr (by rw [z])))), fun a z => .inl (z.imp id fun z => sub3 a (c'.sub a z))⟩)
      jt k1 e (fun ρb' ρc' Hb' a a' d' x' Nx' c' r' e' n' => turn_ok hs1 (fun hh => stI _ _ _ hh) h0 c' r' e' n') (fun Hc c' => nx Hc (k2 _ _ _ c'))
theorem lcrd2 {K : PySem.W.Frag} {mi mi1 : MI} {g g1 : MG} {is vs is1 vs1 : List Nat} {t t1 : MT} {m : ME} (hsub : ∀ i ∈ is, i ∈ vs) (st : GStay g is) (hv : ∀ i ∈ vs1, i ∈ vs) (hs1 : ∀ i ∈ is1, i ∈ vs1) (stI : GStay g1 is1) (σ : L2.St) (H : Hp) (Q : VK) (h : rd K (mlc2 mi g t mi1 g1 t1 m vs vs1) σ H Q) :
    tLc2 (rdI K mi) (rdG K is g) (rdT K t) (rdI K mi1) (rdG K is1 g1) (rdT K t1) (rd K m) vs vs1 σ H Q := by
  obtain ⟨W, ρ, r, ρ', rel, em, q⟩ := h
  unfold mlc2 at em
  obtain ⟨⟨it, ρ1⟩, e1, em⟩ := Option.bind_eq_some_iff.mp em
  obtain ⟨u, e2, em⟩ := Option.bind_eq_some_iff.mp em
  obtain ⟨⟨acc, ρf⟩, e3, em⟩ := Option.bind_eq_some_iff.mp em
  cases em
  refine ⟨W, ρ, it, ρ1, rel, e1, fun J H1 p1 jt q0 hD => ?_⟩
  have h0 : W.H0 q0 = none := by
    cases z : W.H0 q0 with
    | none => rfl
    | some o => obtain ⟨o', z'⟩ := p1.rel.there q0 o z; rw [hD] at z'; cases z'
  have sub0 : ∀ a, BoxAt (wipeE ρ1 vs) (wipe σ vs) a → BoxAt ρ1 σ a := (p1.rel.wipe vs).2
  exact loop_ok (W0 := W) (ρ1 := ρ1) (ρf := ρf) (acc := acc) (vs := vs) (End := fun H => Q (.ref q0) H) (turn2 g t vs mi1 g1 t1 m vs1) (fun x H' Nx => rdG K is g x (wipe σ vs) H' fun σ2 H2 => wipe σ2 vs = wipe σ vs ∧ rdT K t σ2 H2 fun b H3 => if b = true then rdI K mi1 σ2 H3 fun J1 H4 => ∃ W1 : Nat → Nat → Hp → Prop, (∃ m, W1 0 m H4) ∧ ∀ j k H, W1 j k H →
      (J1.stop j H ∧ Nx H) ∨ (J1.go j H ∧ ∃ Nx1 : Hp → Prop, (∀ H', Nx1 H' → ∃ k', k' < k ∧ W1 (j + 1) k' H') ∧ ∀ x H', J1.yld j H x H' → rdG K is1 g1 x (wipe σ2 vs1) H' fun σ3 H5 => wipe σ3 vs1 = wipe σ2 vs1 ∧ rdT K t1 σ3 H5 fun b H6 =>
        if b = true then rd K m σ3 H6 fun y H7 => ∃ acc, H7 q0 = some (.lst acc) ∧ acc.length < sizeLine ∧ Nx1 (upd H7 q0 (.lst (acc ++ [y]))) else Nx1 H6) else Nx H3)
    (fun ρb Hc acc' c => ⟨fun a o h n => c.ext a o h (fun z => n (.inr (sub0 a z))) (fun z => by rw [z, hD] at h; cases h), fun a z => by
      rcases z with (z | z) | z
      · exact .inl (.inl z)
      · refine .inr ?_
        cases z; exact hD
      · exact .inl (.inr (sub0 a (c.sub a z)))⟩)
    jt (chn_start p1 hD) e3 (fun ρb' ρc' Hb' a a' d' x' Nx' c' r' e' n' => turn2_ok hsub st hv hs1 stI h0 c' r' e' n') (fun Hc c => q _ Hc (chn_end p1 hD (guardO_some e2) c))
section
variable {G : GC} {S : SC}
theorem de_lc2 {elt tg iter tg1 iter1 : Expr} {ifs ifs1 : List Expr} {scope : Scope} {own : List (Str × Nat)} {vs1 : List Nat} {pos : Pos} {mi mi1 : MI} {g g1 : MG} {is is1 : List Nat} {t t1 : MT} {m : ME} (hi : DI G S tg iter mi) (ok : BlkOk S.N S.sc scope own) (hv : ∀ i ∈ vs1, i ∈ own.map (·.2))
    (hg : DG G (S.blk scope) tg is g) (ht : DTs G (S.blk scope) ifs t) (hi1 : DI G (S.blk scope) tg1 iter1 mi1) (hg1 : DG G (S.blk scope) tg1 is1 g1) (ht1 : DTs G (S.blk scope) ifs1 t1) (he : DE G (S.blk scope) elt m)
    (hsub : ∀ i ∈ is, i ∈ own.map (·.2)) (st : GStay g is) (hs1 : ∀ i ∈ is1, i ∈ vs1) (stI : GStay g1 is1) (hs : ∀ (env : PySem.Env) x, foldedSetIterable iter env x = pure x) (hs' : ∀ (env : PySem.Env) x, foldedSetIterable iter1 env x = pure x) :
    DE G S (.ListComp elt [⟨tg, iter, ifs, 0⟩, ⟨tg1, iter1, ifs1, 0⟩] scope pos) (mlc2 mi g t mi1 g1 t1 m (own.map (·.2)) vs1) := by
  intro X c
  refine PE.weak (pe_lc2 (vs1 := vs1) c.calm c.nd (hi X c) (by rw [c.N, c.sc]; exact ok) hv (fun s H C cl fp => hg _ (c.blk scope s H C cl fp)) (fun s H C cl fp => ht _ (c.blk scope s H C cl fp)) (fun s H C cl fp => hi1 _ (c.blk scope s H C cl fp)) (fun s H C cl fp => hg1 _ (c.blk scope s H C cl fp)) (fun s H C cl fp => ht1 _ (c.blk scope s H C cl fp)) (fun s H C cl fp => he _ (c.blk scope s H C cl fp)) (hs _) hs') ?_
  exact lcrd2 hsub st hv hs1 stI
end
end L3

namespace L3
open PySem PySem.Spec PyProof.Rows L2
variable {G : GC} {S : SC}
/-- name = [.. for .. for ..] on one line, the name a local -/
theorem ds_setLc2 {i : Nat} {y : Str} {py : Pos} {elt tg iter tg1 iter1 : Expr} {ifs ifs1 : List Expr} {scope : Scope} {own : List (Str × Nat)} {vs1 : List Nat} {pos spos : Pos} {mi mi1 : MI} {g g1 : MG} {is is1 : List Nat} {t t1 : MT} {m : ME} (hy : S.N[i]? = some y) (hyl : S.sc.names.lookup y = some .local) (hk : S.sc.kind = .function)
    (hl : (py.line == pos.line) = true) (hn : (scope.names.any fun (n, k) => n == y && (k == .local || k == .cell)) = false)
    (hi : DI G S tg iter mi) (ok : BlkOk S.N S.sc scope own) (hv : ∀ i ∈ vs1, i ∈ own.map (·.2))
    (hg : DG G (S.blk scope) tg is g) (ht : DTs G (S.blk scope) ifs t) (hi1 : DI G (S.blk scope) tg1 iter1 mi1) (hg1 : DG G (S.blk scope) tg1 is1 g1) (ht1 : DTs G (S.blk scope) ifs1 t1) (he : DE G (S.blk scope) elt m)
    (hsub : ∀ i ∈ is, i ∈ own.map (·.2)) (st : GStay g is) (hs1 : ∀ i ∈ is1, i ∈ vs1) (stI : GStay g1 is1) (hs : ∀ (env : PySem.Env) x, foldedSetIterable iter env x = pure x) (hs' : ∀ (env : PySem.Env) x, foldedSetIterable iter1 env x = pure x) :
    DS G S (.Assign [.Name y py] (.ListComp elt [⟨tg, iter, ifs, 0⟩, ⟨tg1, iter1, ifs1, 0⟩] scope pos) spos) (masg i (mlc2 mi g t mi1 g1 t1 m (own.map (·.2)) vs1)) := by
  intro X c
  refine PS.weak (ps_setLc2 (i := i) (vs1 := vs1) c.calm c.nd (by rw [c.N]; exact hy) (by rw [c.sc]; exact hyl) (sw_true (by rw [c.sc]; exact hk) (by rw [c.sc]; exact hyl) hl hn) (hi X c) (by rw [c.N, c.sc]; exact ok) hv (fun s H C cl fp => hg _ (c.blk scope s H C cl fp)) (fun s H C cl fp => ht _ (c.blk scope s H C cl fp)) (fun s H C cl fp => hi1 _ (c.blk scope s H C cl fp)) (fun s H C cl fp => hg1 _ (c.blk scope s H C cl fp)) (fun s H C cl fp => ht1 _ (c.blk scope s H C cl fp)) (fun s H C cl fp => he _ (c.blk scope s H C cl fp)) (hs _) hs') ?_
  exact fun D σ H q => lcrd2 hsub st hv hs1 stI σ H _ (rdasg q)
end L3

namespace L3
open PySem PySem.Spec PyProof.Rows L2
variable {G : GC} {S : SC}
theorem RepL.rev {K : PySem.W.Frag} {N : Addr → Prop} {H : Hp} : ∀ {vs : List V} {ds : List D}, RepL K N H vs ds → RepL K N H vs.reverse ds.reverse
  | _, _, .nil => .nil
  | _, _, .cons r t => by
    rw [List.reverse_cons, List.reverse_cons]
    exact (RepL.rev t).snoc r
def revD : D → Option R
  | .list ds => some (.new (.lst ds.reverse))
  | _ => none
def mrev (m : ME) : ME := fun ρ => (m ρ).bind fun x => (x.1.fz.vw x.2).bind fun d => (revD d).bind fun r => some (r, x.2)
/-- e[::-1], e a list -/
theorem de_revL {e : Expr} {m : ME} {k : Nat} {p1 p2 p3 pos : Pos} (he : DE G S e m) : DE G S (.Subscript e (.Slice none none (some (.UnaryOp .USub (.Constant (.int 1) k p1) p2)) p3) pos) (mrev m) :=
  fun X c => PE.weak (pe_revL (he X c)) fun σ H Q ⟨W, ρ, r, ρ', rel, em, q⟩ => by
    rw [c.K]
    unfold mrev at em
    obtain ⟨⟨ra, ρ1⟩, e1, em⟩ := Option.bind_eq_some_iff.mp em
    obtain ⟨d, e4, em⟩ := Option.bind_eq_some_iff.mp em
    obtain ⟨r', e5, em⟩ := Option.bind_eq_some_iff.mp em
    cases em
    refine ⟨W, ρ, ra, ρ1, rel, e1, fun x H1 p1 => ?_⟩
    have hx := (p1.res.fz p1.toPostX rel).read p1.rel e4
    unfold revD at e5
    split at e5
    · cases e5
      obtain ⟨a, xs, rfl, h1, r1⟩ := hx.list
      exact ⟨a, xs, rfl, h1, fun p hp => q _ _ (p1.toPostX.fin (.lst p1.rel.trk hp r1.rev))⟩
    · cases e5
end L3

namespace L3
open PySem PySem.Spec PyProof.Rows L2
variable {G : GC} {S : SC}
/-- names = a list of that length -/
def glst (is : List Nat) : MG := fun d ρ => match d with
  | .list ds => gset is ds ρ
  | _ => none
theorem dg_lst {es : List Expr} {k : Nat} {pos : Pos} {is : List Nat} (h : ∀ X, CxOk G S X → PGs X es (gsN is)) (hn : ∀ env : PySem.Env, (assignEach es env).length = is.length) (hst : ∀ env : PySem.Env, (assignEach es env).findIdx? (·.1) = none) : DG G S (.Tuple es k pos) is (glst is) := by
  intro X c
  refine PG.weak (pg_unl (n := is.length) c.calm (h X c) (hn _) (hst _)) ?_
  rw [c.K]
  rintro v σ H Q ⟨W, ρ, d, ρ', rel, r, em, q⟩
  unfold glst at em
  split at em
  · rename_i ds
    cases r with
    | lst h1 h2 => exact ⟨_, _, rfl, h1.sq, by rw [h2.length, gset_len em], gset_ok rel h2 em q⟩
  · cases em
theorem glst_stay (is : List Nat) : GStay (glst is) is := fun d ρ ρ1 h => by
  unfold glst at h
  split at h
  · exact gset_stay h
  · cases h
end L3

namespace L3
open PySem PySem.Spec PyProof.Rows L2
/-! sorted({x: True for x in xs}, key=len), the keys tuples of tuples -/
abbrev NX := NestedKey × Addr × Value
/-- the dict with these entries, as a thing of the abstract heap -/
def DN (P : Program) (w : World) (D : Addr) (xs : List NX) : HO := .ext fun h => (D == sysModules) = false ∧ ∃ o es ep, h.get? D = some o ∧ o.ExactDict ∧ o.data = .dict es ep ∧ es.toList = xs.map (entryOfKey (nestedKind P w)) ∧ (xs.map (·.1)).Nodup
def lenN : NestedKey → Nat
  | .tup ks => ks.length
  | _ => 0
/-- v is the key k, wherever the abstract heap is held -/
def KeyAt (K : PySem.W.Frag) (H : Hp) (v : V) (k : NestedKey) : Prop := k.depth ≤ 8 ∧ ∀ (X : Cx) (pins : List (Addr × Obj)) (σ : L2.St) (s : Shared) (u : Value), X.K = K → Inv X pins σ H s → RelV v u → NestedIs s.heap k u ∧ lenN k ≤ sizeLine
theorem DN_of {X : Cx} {pins : List (Addr × Obj)} {σ : L2.St} {H : Hp} {s : Shared} {D : Addr} {xs : List NX} (I : Inv X pins σ H s) (h : H D = some (DN X.prog X.w D xs)) (hk : ∀ x ∈ xs, KeyAt X.K H (.ref x.2.1) x.1) : s.heap.DictOfH (nestedKind X.prog X.w) D xs := by
  obtain ⟨⟨_, o, es, ep, e1, e2, e3, e4, e5⟩, _, _⟩ := I.hok D _ h
  exact ⟨o, es, ep, e1, e2, e3, e4, fun x m => ⟨((hk x m).2 X pins σ s _ rfl I rfl).1, (hk x m).1⟩, e5⟩
theorem DN_new {P : Program} {w : World} {H : Hp} {h : Heap} {D : Addr} {xs : List NX} (lo : (D == sysModules) = false) (e : h.DictOfH (nestedKind P w) D xs) : ObjOk P w H h D (DN P w D xs) := by
  obtain ⟨o, es, ep, e1, e2, e3, e4, e5, e6⟩ := e
  refine ⟨⟨lo, o, es, ep, e1, e2, e3, e4, e6⟩, ⟨o, e1⟩, fun h1 h2 ⟨l, o', es', ep', f1, f2⟩ k => ⟨l, o', es', ep', k o' f1, f2⟩⟩
theorem DN_lo {X : Cx} {pins : List (Addr × Obj)} {σ : L2.St} {H : Hp} {s : Shared} {D : Addr} {xs : List NX} (I : Inv X pins σ H s) (h : H D = some (DN X.prog X.w D xs)) : (D == sysModules) = false := (I.hok D _ h).1.1
/-- d[k] = v in such a dict -/
theorem nd_set {X : Cx} {pins : List (Addr × Obj)} {σ : L2.St} {H : Hp} {s : Shared} {E : Value → Shared → Prop} {D : Addr} {ys : List NX} {k : NestedKey} {a : Addr} {v : Value} {Q : Unit → Shared → Prop} (I : Inv X pins σ H s) (hu : X.A.units + 8 < cLine) (hD : H D = some (DN X.prog X.w D ys)) (hz : ys.length < sizeLine)
    (ka : KeyAt X.K H (.ref a) k) (ks : ∀ x ∈ ys, KeyAt X.K H (.ref x.2.1) x.1) (h : ∀ s', Inv X pins σ (upd H D (DN X.prog X.w D (storedH ys k a v))) s' → Q () s') : wpAny (model X.prog X.w) X.A (dictSet D (.ref a) v) Q E s := by
  refine wpAny_dictSet_heap (knd := nestedKind X.prog X.w) (hsz := Nat.le_of_lt hz) hu ⟨(ka.2 X pins σ s _ rfl I rfl).1, ka.1⟩ (DN_of I hD ks) fun h' d' hs => h _ ?_
  exact d_write I (by rw [hD]; exact True.intro) hs (let ⟨q, _, _, hq, _⟩ := d'; ⟨q, hq⟩) (DN_new (DN_lo I hD) d')
/-- {k: v for tg in iter}: keys nested tuples, values truths -/
def tNd (P : Program) (w : World) (K : PySem.W.Frag) (wi : TI) (g : TG) (tk tv : TE) (vs : List Nat) : TE := fun σ H Q => wi σ H fun J H1 => ∀ D, H1 D = none → ∃ Z : Nat → Nat → Hp → Prop, (∃ m, Z 0 m (upd H1 D (DN P w D []))) ∧ ∀ i m H, Z i m H →
  (J.stop i H ∧ Q (.ref D) H) ∨ (J.go i H ∧ ∃ Nx : Hp → Prop, (∀ H', Nx H' → ∃ m', m' < m ∧ Z (i + 1) m' H') ∧ ∀ x H', J.yld i H x H' → g x (wipe σ vs) H' fun σ2 H2 => wipe σ2 vs = wipe σ vs ∧
    tk σ2 H2 fun y H4 => tv σ2 H4 fun z H5 => ∃ ys k a b, y = .ref a ∧ z = .bl b ∧ H5 D = some (DN P w D ys) ∧ ys.length < sizeLine ∧ KeyAt K H5 (.ref a) k ∧ (∀ q ∈ ys, KeyAt K H5 (.ref q.2.1) q.1) ∧ Nx (upd H5 D (DN P w D (storedH ys k a (.bool b)))))
section
variable {X : Cx}
theorem nd_core {pins : List (Addr × Obj)} {s : Shared} {σ : L2.St} {H : Hp} {Q : VK} {kx vx tg iter : Expr} {scope : Scope} {own : List (Str × Nat)} {pos pos' : Pos} {wi : TI} {g : TG} {tk tv : TE} {use : Option (Value → Sem Unit)} {Qf : Value → Shared → Prop} (hu : X.A.units + 8 < cLine)
    (hc : X.calm = true) (hN : X.N.Nodup) (I : Inv X pins σ H s) (hi : PI X tg iter wi) (ok : BlkOk X.N X.env.scope scope own)
    (hg : ∀ (s : Shared) (H : Hp) (C : Addr) (cl : List (Str × Addr)) (fp : List Addr), PG (X.blk s H scope (compEnvC scope cl C X.env) fp) tg g)
    (hk : ∀ (s : Shared) (H : Hp) (C : Addr) (cl : List (Str × Addr)) (fp : List Addr), PE (X.blk s H scope (compEnvC scope cl C X.env) fp) kx tk)
    (hv : ∀ (s : Shared) (H : Hp) (C : Addr) (cl : List (Str × Addr)) (fp : List Addr), PE (X.blk s H scope (compEnvC scope cl C X.env) fp) vx tv) (hs : ∀ x, foldedSetIterable iter X.env x = pure x)
    (h : tNd X.prog X.w X.K wi g tk tv (own.map (·.2)) σ H Q)
    (hEnd : ∀ D C s' m H', Inv X pins σ H' s' → Q (.ref D) H' → s'.heap.Ns C m → FpOk X pins H' C → compPost (model X.prog X.w) X.A X.xe use Qf (.ref D) C (.ok .next) s') :
    wpAny (model X.prog X.w) X.A (comprehension (.DictComp kx vx [⟨tg, iter, [], 0⟩] scope pos) scope X.env pos' newDict false (eval iter X.env) use) Qf X.xe s := by
  have cells : ∀ y ∈ scope.names, y.2 = .free → ∃ c, X.env.cells.lookup y.1 = some c := fun y m e => (ok.free y m e).elim (fun z => I.ok.has _ (.inl z)) fun z => I.ok.has _ (.inr z)
  refine wpAny_comprehension_free (use := use) rfl hs (closure_ok cells) ok.kind (fun y m e => by rw [ok.uniq y m, e]) ?_
  refine thn (hi.run pins s σ H _ I h) fun xv sA hA => thn hA fun itv sB hB => ?_
  obtain ⟨it, fp, tn, J, HB, rfl, IB, T, tB, fB, hB⟩ := hB
  refine wpAny_newObj_type (newEnv_comp ?_)
  generalize eD : sB.heap.objs.size = D
  obtain ⟨Z, ⟨m0, z0⟩, turn⟩ := hB D (IB.hok.fresh (Nat.le_of_eq eD))
  generalize es3 : ({ sB with heap := sB.heap.push { cls := .type "dict", data := .dict #[] } } : Shared) = s3
  have eh : s3.heap = sB.heap.push { cls := .type "dict", data := .dict #[] } := by rw [← es3]
  have I3 : Inv X pins σ (upd HB D (DN X.prog X.w D [])) s3 := by
    rw [← es3]
    refine IB.laid (t' := sB.toks) (fun b u e => Heap.get?_push_of_some _ e) (Nat.le_of_eq eD) (DN_new (by rw [← eD]; exact beq_eq_false_iff_ne.mpr (Nat.ne_of_gt IB.big)) ?_)
    rw [← eD]
    exact Heap.DictOfH.new sB.heap
  have lo : ∀ b ∈ fp, b < sB.heap.objs.size := fun b m => let ⟨_, e, _⟩ := T.obj _ _ tB b m; Heap.lt_size e
  have f3 : ∀ b ∈ fp, FpOk X pins (upd HB D (DN X.prog X.w D [])) b ∧ b < s3.heap.objs.size := fun b m => by
    refine ⟨⟨?_, (fB b m).2⟩, by rw [eh, Heap.size_push]; exact Nat.lt_succ_of_lt (lo b m)⟩
    rw [upd_ne (by rw [← eD]; exact Nat.ne_of_lt (lo b m))]
    exact (fB b m).1
  have t3 : tn 0 s3.heap := T.keep _ _ _ tB fun b _ u e => by rw [eh]; exact Heap.get?_push_of_some _ e
  have I4 := block_start I3 ok hN f3
  generalize eH3 : upd HB D (DN X.prog X.w D []) = H3 at I3 I4 z0 f3
  generalize ecl : cellsFrom (s3.heap.objs.size + 1) scope.names (cloFrom X.env.cells scope.names []) = cl at I4 ⊢
  have pg := hg s3 H3 s3.heap.objs.size cl fp
  have pk := hk s3 H3 s3.heap.objs.size cl fp
  have pv := hv s3 H3 s3.heap.objs.size cl fp
  show codeAny _ _ (.compStart (.DictComp kx vx [⟨tg, iter, [], 0⟩] scope pos) 0 (.ref it) (.ref D) (compEnvC scope cl s3.heap.objs.size X.env)) (compPost (model X.prog X.w) X.A X.xe use Qf (.ref D) s3.heap.objs.size) { s3 with heap := pushCells (s3.heap.push { cls := .type "dict", data := .dict #[] }) scope.names }
  have free3 : ∀ b ∈ fp, H3 b = none := fun b m => (f3 b m).1.1
  generalize ece : compEnvC scope cl s3.heap.objs.size X.env = ce at I4 pg pk pv ⊢
  have eL : ce.locals = s3.heap.objs.size := by subst ece; rfl
  generalize es4 : ({ s3 with heap := pushCells (s3.heap.push { cls := .type "dict", data := .dict #[] }) scope.names } : Shared) = s4 at I4 ⊢
  have t4 : tn 0 s4.heap := T.keep _ _ _ t3 fun b _ u e => by rw [← es4]; exact pushCells_keeps _ _ _ _ (Heap.get?_push_of_some _ e)
  have stand : ∀ {σ' : L2.St} {H' : Hp} {s' : Shared}, Inv (X.blk s3 H3 scope ce fp) [] σ' H' s' → (∀ b ∈ fp, H' b = none) → ∀ b ∈ fp, FpOk (X.blk s3 H3 scope ce fp) [] H' b := fun {σ' H' s'} I' n b m =>
    ⟨n b m, (I'.ok.exf b m).1, I'.ok.exfs b m, .inl m, fun x c e => (I'.ok.exf b m).2 x c e, fun p hp => absurd (show p ∈ ([] : List (Addr × Obj)) ++ [] from hp) (by simp)⟩
  have loop : codeAny (model X.prog X.w) X.A (.compLoop (.DictComp kx vx [⟨tg, iter, [], 0⟩] scope pos) 0 (.ref it) (.ref D) ce) (compPost (model X.prog X.w) X.A X.xe use Qf (.ref D) s3.heap.objs.size) s4 := by
    refine compLoop_anyD (fun n s' => ∃ i H', Inv (X.blk s3 H3 scope ce fp) [] (wipe σ (own.map (·.2))) H' s' ∧ tn i s'.heap ∧ (∀ b ∈ fp, H' b = none) ∧ Z i n H') ?_ m0 ⟨0, H3, I4, t4, free3, z0⟩
    rintro n s5 ⟨i, H5, I5, t5, n5, z5⟩
    rcases turn i n H5 z5 with ⟨stop, qq⟩ | ⟨go, Nx, hNx, step⟩
    · refine thnF (T.done (X.blk s3 H3 scope ce fp) rfl rfl rfl hc i [] s5 _ H5 (fun _ _ => False) I5 (stand I5 n5) t5 stop) fun r s6 ⟨hr, I6⟩ => ?_
      subst hr
      have I7 : Inv X pins σ H5 s6 := I3.call' (ch := fp) I6.os I6.base I6.hok I6.bare fun b m => ⟨(f3 b m).1.2.2.2.1, (f3 b m).1.2.1, (f3 b m).1.2.2.2.2.1, (f3 b m).1.2.2.2.2.2⟩
      obtain ⟨m, hn, _⟩ := I6.loc
      have hn' : s6.heap.Ns s3.heap.objs.size m := by rw [← eL]; exact hn
      have nC : H5 s3.heap.objs.size = none := by rw [← eL]; exact I6.free
      exact hEnd D s3.heap.objs.size s6 m H5 I7 qq hn' (I3.fpOk (Nat.le_refl _) nC)
    · refine thnF (T.item (X.blk s3 H3 scope ce fp) rfl rfl rfl hc i [] s5 _ H5 (fun _ _ => False) I5 (stand I5 n5) t5 go) fun r s6 ⟨u, hr, h6⟩ => ?_
      subst hr
      refine thnF h6 fun _ s7 ⟨x, H7, I7, r7, y7, t7, n7⟩ => ?_
      refine thnF (pg.run _ s7 _ H7 x u _ (I7.pinned (stand I7 n7) (T.obj _ _ t7)) r7 (step x H7 y7)) fun _ s8 ⟨σ8, H8, I8, hw8, q8⟩ => ?_
      refine thnF (show wpAny _ _ _ (fun b s' => b = true ∧ s' = s8) _ s8 from wpAny_pure ⟨rfl, rfl⟩) fun b s9 ⟨eb, e9⟩ => ?_
      subst eb e9
      rw [if_pos rfl]
      refine thnF (pk.run _ s9 σ8 H8 _ I8 q8) fun z sC ⟨yk, H10, I10, r10, q10⟩ => ?_
      refine thnF (pv.run _ sC σ8 H10 _ I10 q10) fun z2 s11 ⟨yv, H11, I11, r11, ys, k, a, b, ea, eb, hD11, hz11, ka, ks, nx⟩ => ?_
      subst ea eb
      obtain rfl : z = .ref a := r10
      obtain rfl : z2 = .bool b := r11
      refine nd_set (X := X.blk s3 H3 scope ce fp) I11 hu hD11 hz11 ka ks fun s12 I12 => ?_
      obtain ⟨m', hm, z'⟩ := hNx _ nx
      have pin : ∀ c ∈ fp, ∀ o, s7.heap.get? c = some o → s12.heap.get? c = some o ∧ upd H11 D (DN X.prog X.w D (storedH ys k a (.bool b))) c = none := fun c m o e => by
        have y := I12.pin (c, o) (List.mem_append_right _ (List.mem_append_right _ (mem_pinsAt m e)))
        exact ⟨y.1, y.2.1⟩
      have hl : (wipe σ (own.map (·.2))).length = σ8.length := by rw [← hw8, wipe_length]
      refine ⟨m', hm, i + 1, _, (I12.unpinned (pins := [])).weak hl (fun j v e => ?_), T.keep _ _ _ t7 fun c m o e => (pin c m o e).1, fun c m => ?_, z'⟩
      · rw [← hw8] at e
        exact (wipe_some e).1
      · obtain ⟨o, e, _⟩ := T.obj _ _ t7 c m
        exact (pin c m o e).2
  exact codeAny_compStart_dict loop (T.self X.A 0 _ _ _ t4 loop)
theorem pe_nd {kx vx tg iter : Expr} {scope : Scope} {own : List (Str × Nat)} {pos : Pos} {wi : TI} {g : TG} {tk tv : TE} (hu : X.A.units + 8 < cLine) (hc : X.calm = true) (hN : X.N.Nodup) (hi : PI X tg iter wi) (ok : BlkOk X.N X.env.scope scope own)
    (hg : ∀ (s : Shared) (H : Hp) (C : Addr) (cl : List (Str × Addr)) (fp : List Addr), PG (X.blk s H scope (compEnvC scope cl C X.env) fp) tg g)
    (hk : ∀ (s : Shared) (H : Hp) (C : Addr) (cl : List (Str × Addr)) (fp : List Addr), PE (X.blk s H scope (compEnvC scope cl C X.env) fp) kx tk)
    (hv : ∀ (s : Shared) (H : Hp) (C : Addr) (cl : List (Str × Addr)) (fp : List Addr), PE (X.blk s H scope (compEnvC scope cl C X.env) fp) vx tv) (hs : ∀ x, foldedSetIterable iter X.env x = pure x) :
    PE X (.DictComp kx vx [⟨tg, iter, [], 0⟩] scope pos) (tNd X.prog X.w X.K wi g tk tv (own.map (·.2))) := by
  refine ⟨fun pins s σ H Q I h => ?_⟩
  rw [arm_eval_DictComp]
  refine nd_core hu hc hN I hi ok hg hk hv hs h fun D C s' m H' I' q hn ⟨f0, f1, f2, f3, f4, f5⟩ => ⟨m, hn, fun h'' sb => ?_⟩
  exact ⟨.ref D, H', I'.turned (t' := s'.toks) (fun b o hb e => (sb.2 b hb).trans e) f0 f1 f3 f4 f5, rfl, q⟩
end
end L3

namespace L3
open PySem PySem.Spec PyProof.Rows L2
def byLen (a b : NX) : Bool := decide ((lenN a.1 : Int) ≤ lenN b.1)
/-- sorted(e, key=len), e a dict of nested keys -/
def tSk (P : Program) (w : World) (K : PySem.W.Frag) (t : TE) : TE := fun σ H Q => t σ H fun x H1 => ∃ D ys, x = .ref D ∧ H1 D = some (DN P w D ys) ∧ ys.length ≤ sizeLine ∧ (∀ q ∈ ys, KeyAt K H1 (.ref q.2.1) q.1) ∧
  ∀ p, H1 p = none → Q (.ref p) (upd H1 p (.lst ((ys.mergeSort byLen).map fun y => .ref y.2.1)))
theorem keys_of {es : Array DictEntry} {ys : List NX} {acc : List Value} (hs : es.size = ys.length) (he : ∀ i (hi : i < es.size), ∃ y, ys[i]? = some y ∧ es[i].key = .ref y.2.1) (hl : acc.length = ys.length) (ha : ∀ (j : Nat) (v : Value), acc[j]? = some v → ∃ hi : j < es.size, v = es[j].key) :
    acc = ys.map fun y => Value.ref y.2.1 := by
  refine List.ext_getElem? fun j => ?_
  rw [List.getElem?_map]
  cases e : acc[j]? with
  | none =>
    have : ys[j]? = none := List.getElem?_eq_none (by rw [← hl]; exact List.getElem?_eq_none_iff.mp e)
    rw [this]; rfl
  | some v =>
    obtain ⟨hi, rfl⟩ := ha j v e
    obtain ⟨y, e1, e2⟩ := he j hi
    rw [e1, e2]; rfl
theorem each_refs (ys : List NX) : PySem.W.EachIs (fun (u : Value) (y : NX) => u = .ref y.2.1) (ys.map fun y => Value.ref y.2.1) ys := by
  induction ys with
  | nil => exact .nil
  | cons y ys ih => exact .cons rfl ih
theorem each_refs' {out : List Value} {ys : List NX} (h : PySem.W.EachIs (fun (u : Value) (y : NX) => u = .ref y.2.1) out ys) : Vals (ys.map fun y => V.ref y.2.1) out := by
  induction h with
  | nil => exact .nil
  | cons r t ih => exact .cons r ih
theorem pe_sk {X : Cx} {e : Expr} {p pl kpos pos : Pos} {t : TE} (hu : X.A.units + 70 < cLine) (hcalm : X.calm = true) (he : PE X e t) (hs : Gl X "sorted") (ms : X.mg "sorted" = none) (hl : Gl X "len") (ml : X.mg "len" = none)
    (h0 : starEach [e] X.env = (false, eval e X.env) :: starEach [] X.env) (h1 : backTo pos (starEach [e] X.env) = (false, eval e X.env) :: backTo pos (starEach [] X.env)) :
    PE X (.Call (.Name "sorted" p) [e] [⟨some "key", .Name "len" pl, kpos⟩] pos) (tSk X.prog X.w X.K t) := by
  refine ⟨fun pins s σ H Q I h => ?_⟩
  refine wpAny_Call_Name_kw (ld_blt I hs ms rfl ?_ (by decide) (by decide))
  refine PyProof.Rows.callWith_kw (kws := [⟨some "key", .Name "len" pl, kpos⟩]) (thn ((pa_cons he pa_nil h0).run pos pins s σ H (fun vs H1 => match vs with | [x] => ∃ D ys, x = V.ref D ∧ H1 D = some (DN X.prog X.w D ys) ∧ ys.length ≤ sizeLine ∧ (∀ q ∈ ys, KeyAt X.K H1 (.ref q.2.1) q.1) ∧ ∀ p, H1 p = none → Q (.ref p) (upd H1 p (.lst ((ys.mergeSort byLen).map fun y => .ref y.2.1))) | _ => False) I h) fun us s1 ⟨vs, H1, I1, r1, qv⟩ => ?_) h1 (by rw [h1]; rfl) rfl rfl
  obtain ⟨D, ys, rfl, hD, hz, hk, q⟩ : ∃ D ys, us = [Value.ref D] ∧ H1 D = some (DN X.prog X.w D ys) ∧ ys.length ≤ sizeLine ∧ (∀ q ∈ ys, KeyAt X.K H1 (.ref q.2.1) q.1) ∧ ∀ p, H1 p = none → Q (.ref p) (upd H1 p (.lst ((ys.mergeSort byLen).map fun y => .ref y.2.1))) := by
    cases r1 with
    | nil => exact qv.elim
    | cons ru rt => cases rt with
      | cons _ _ => exact qv.elim
      | nil =>
        obtain ⟨D, ys, rfl, a, b, c, d⟩ := qv
        cases ru
        exact ⟨D, ys, rfl, a, b, c, d⟩
  show wpAny _ _ (evalAll [(do let v ← eval (.Name "len" pl) X.env; standAt pos; pure v)]) _ _ s1
  refine wpAny_evalAll_cons (wpAny_bind (ld_blt I1 hl ml rfl (wpAny_bind (wpAny_standAt (wpAny_pure (wpAny_evalAll_nil ?_)))) (by decide) (by decide)))
  show wpAny _ _ (call (.builtin "sorted") [.ref D] [(Str.ofString "key", .builtin "len")]) _ _ _
  have dd := DN_of I1 hD hk
  obtain ⟨es, ep, hraw, hs1, hent⟩ := dd.raw
  have lo := DN_lo I1 hD
  refine call_function_entry_kw PyProof.Rows.kind_sorted PyProof.Rows.plain_sorted PyProof.Rows.entry_sorted (PyProof.Rows.ksk_s1 _ _) ?_
  unfold Builtin.«sorted»
  refine wpAny_bind (m := checkCount "sorted" 1 1 _) (wpAny_pure ?_)
  refine wpAny_bind (PySem.W.kdu_collect (A := X.A.in1) (KdlSrc.rawDict (ep := ep) lo) (I1.ok.hd hcalm) hraw (by rw [hs1]; exact hz) fun h' tk acc hkeep hacc => ?_)
  have eacc : acc.toList = ys.map fun y => Value.ref y.2.1 := keys_of hs1 (fun i hi => let ⟨y, a, b, _⟩ := hent i hi; ⟨y, a, b⟩) (by rw [Array.length_toList, hacc.1, hs1]) fun j v e => hacc.2 j v (by rw [← Array.getElem?_toList]; exact e)
  have I2 : Inv X pins σ H1 { s1 with heap := h', toks := tk } := I1.kept hkeep
  rw [eacc]
  refine wpAny_bind (wpAny_newList ?_ (by rw [List.length_map]; exact hz))
  have hoL : (h'.push (seqObj "list" (ys.map fun y => Value.ref y.2.1).toArray 0)).get? h'.objs.size = some (seqObj "list" (ys.map fun y => Value.ref y.2.1).toArray 0) := Heap.get?_push_size _ rfl
  show wpAny _ _ _ _ _ { s1 with heap := h'.push (seqObj "list" (ys.map fun y => Value.ref y.2.1).toArray 0), toks := tk }
  refine wpAny_bind (wpAny_holding (PySem.W.list_sort_key_data (b := false) (R := fun (u : Value) (y : NX) => u = .ref y.2.1) (bs := ys) (fun y => .int (lenN y.1)) hoL (each_refs ys) (PySem.W.AllAlike.of fun _ _ => by simp [PySem.W.alike]) (PySem.W.Sortable.others fun _ => ⟨by simp, by simp⟩) hz (fun y _ => ?_) (PyProof.Rows.ksk_l1 _ _) (PyProof.Rows.ksk_t4 _ _) (fun v y hv hy h2 tk2 kp => ?_) fun out c h3 tk3 kp ho3 hl3 eo => ?_))
  · have e0 : (PyData.int (lenN y.1)).depth = 0 := by simp [PyData.depth]
    rw [e0]
    show X.A.units + 1 + 1 + 0 < cLine
    omega
  · subst hv
    obtain ⟨hn, hln⟩ := (hk y hy).2 X pins σ _ _ rfl I2 rfl
    cases hn' : y.1 with
    | tup ks =>
      rw [hn'] at hn hln
      cases hn with
      | @tup a o vs n _ g1 g2 g3 g4 =>
        have hne : y.2.1 ≠ h'.objs.size := Nat.ne_of_lt (Heap.lt_size (show h'.get? y.2.1 = some o from g1))
        have g1' : h2.get? y.2.1 = some o := kp _ _ hne (Heap.get?_push_of_some _ g1)
        have el : vs.size = ks.length := by
          have := NestedAll.length _ _ g4
          rw [Array.length_toList] at this
          exact this
        have hb : (vs.size : Int) < 2 ^ 63 := by
          have h3 : ks.length ≤ sizeLine := hln
          rw [sizeLine_eq] at h3
          omega
        refine PyProof.Rows.len_tuple (s := { s1 with heap := h2, toks := tk2 }) ⟨o, g1', g2, n, g3⟩ hb ?_
        refine ⟨h2, tk2 + 1 + 1, rfl, fun b o e => e, ?_⟩
        rw [el]
        exact .int _ _
    | none => rw [hn'] at hn; cases hn
    | num i => rw [hn'] at hn; cases hn
    | text x => rw [hn'] at hn; cases hn
  · refine wpAny_pure ⟨_, rfl, ?_⟩
    have eo' : PySem.W.EachIs (fun (u : Value) (y : NX) => u = .ref y.2.1) out (ys.mergeSort byLen) := by
      have : PySem.W.dataLe false (fun y : NX => PyData.int (lenN y.1)) = byLen := PySem.W.dataLe_int fun y : NX => (lenN y.1 : Int)
      rw [← this]; exact eo
    have hup : ∀ b u, h'.get? b = some u → h3.get? b = some u := fun b u e => kp b u (Nat.ne_of_lt (Heap.lt_size e)) (Heap.get?_push_of_some _ e)
    refine ⟨.ref h'.objs.size, upd H1 h'.objs.size (.lst ((ys.mergeSort byLen).map fun y => .ref y.2.1)), I2.laid (t' := tk3) hup (Nat.le_refl _) ⟨?_, out, c, each_refs' eo', ho3⟩, rfl, q _ (I2.hok.fresh (Nat.le_refl _))⟩
    rw [List.length_map, List.length_mergeSort]
    exact hz
end L3

namespace L3
open PySem PySem.Spec PyProof.Rows L2
def ndOk : Nat → D → Bool
  | _, .none => true
  | _, .int _ => true
  | _, .str _ => true
  | n + 1, .tuple ds => ds.all (ndOk n)
  | _, _ => false
def ndK : Nat → D → NestedKey
  | _, .int i => .num i
  | _, .str x => .text x
  | n + 1, .tuple ds => .tup (ds.map (ndK n))
  | _, _ => .none
theorem ndK_injL {n : Nat} (h : ∀ d e, ndOk n d = true → ndOk n e = true → ndK n d = ndK n e → d = e) : ∀ ds es : List D, ds.all (ndOk n) = true → es.all (ndOk n) = true → ds.map (ndK n) = es.map (ndK n) → ds = es
  | [], [], _, _, _ => rfl
  | [], _ :: _, _, _, e => by simp at e
  | _ :: _, [], _, _, e => by simp at e
  | d :: ds, e :: es, h1, h2, e0 => by
    rw [List.all_cons, Bool.and_eq_true] at h1 h2
    rw [List.map_cons, List.map_cons] at e0
    have e1 := List.cons_eq_cons.mp e0
    rw [h d e h1.1 h2.1 e1.1, ndK_injL h ds es h1.2 h2.2 e1.2]
theorem ndK_inj : ∀ (n : Nat) (d e : D), ndOk n d = true → ndOk n e = true → ndK n d = ndK n e → d = e
  | 0, d, e, h1, h2, h => by
    cases d <;> cases e <;> simp_all [ndOk, ndK]
  | n + 1, d, e, h1, h2, h => by
    cases d <;> cases e <;> first
      | (rename_i ds es
         have h' : NestedKey.tup (ds.map (ndK n)) = NestedKey.tup (es.map (ndK n)) := h
         rw [ndK_injL (ndK_inj n) ds es h1 h2 (NestedKey.tup.inj h')])
      | simp_all [ndOk, ndK]
theorem ndK_depthL {n : Nat} (h : ∀ d, (ndK n d).depth ≤ n) : ∀ ds : List D, NestedKey.depthAll (ds.map (ndK n)) ≤ n
  | [] => by simp [NestedKey.depthAll]
  | d :: ds => by
    rw [List.map_cons, NestedKey.depthAll]
    exact Nat.max_le.mpr ⟨h d, ndK_depthL h ds⟩
theorem ndK_depth : ∀ (n : Nat) (d : D), (ndK n d).depth ≤ n
  | 0, d => by cases d <;> simp [ndK, NestedKey.depth]
  | n + 1, d => by
    cases d <;> first
      | (rename_i ds
         show (NestedKey.tup (ds.map (ndK n))).depth ≤ n + 1
         rw [NestedKey.depth]
         exact Nat.succ_le_succ (ndK_depthL (ndK_depth n) ds))
      | simp [ndK, NestedKey.depth]
theorem nd_repL {K : PySem.W.Frag} {N : Addr → Prop} {H : Hp} {X : Cx} {pins : List (Addr × Obj)} {σ : L2.St} {s : Shared} {n : Nat} (h : ∀ (d : D) (v : V) (u : Value), Rep K N H v d → ndOk n d = true → RelV v u → NestedIs s.heap (ndK n d) u ∧ lenN (ndK n d) ≤ sizeLine) :
    ∀ {vs : List V} {ds : List D} {us : List Value}, RepL K N H vs ds → Vals vs us → ds.all (ndOk n) = true → NestedAll s.heap (ds.map (ndK n)) us
  | _, _, _, .nil, .nil, _ => .nil
  | _, _, _, .cons r t, .cons ru tu, e => by
    rw [List.all_cons, Bool.and_eq_true] at e
    exact .cons (h _ _ _ r e.1 ru).1 (nd_repL (X := X) (pins := pins) (σ := σ) h t tu e.2)
theorem nd_rep {X : Cx} {pins : List (Addr × Obj)} {σ : L2.St} {s : Shared} {N : Addr → Prop} {H : Hp} (I : Inv X pins σ H s) : ∀ (n : Nat) (d : D) (v : V) (u : Value), Rep X.K N H v d → ndOk n d = true → RelV v u → NestedIs s.heap (ndK n d) u ∧ lenN (ndK n d) ≤ sizeLine := by
  intro n
  induction n with
  | zero =>
    intro d v u r h ru
    cases d with
    | none => cases r; obtain rfl := ru; exact ⟨.none, Nat.zero_le _⟩
    | int i => cases r; obtain ⟨t, rfl⟩ := ru; exact ⟨.int _ _, Nat.zero_le _⟩
    | str x => cases r; obtain ⟨t, rfl⟩ := ru; exact ⟨.text _ _, Nat.zero_le _⟩
    | _ => simp [ndOk] at h
  | succ n ih =>
    intro d v u r h ru
    cases d with
    | none => cases r; obtain rfl := ru; exact ⟨.none, Nat.zero_le _⟩
    | int i => cases r; obtain ⟨t, rfl⟩ := ru; exact ⟨.int _ _, Nat.zero_le _⟩
    | str x => cases r; obtain ⟨t, rfl⟩ := ru; exact ⟨.text _ _, Nat.zero_le _⟩
    | tuple ds =>
      cases r with
      | tup h1 h2 =>
        cases ru
        obtain ⟨its, rv, ⟨o, e1, e2, m, e3⟩, hz⟩ := I.tuple h1.sq
        refine ⟨.tup e1 e2 e3 (nd_repL (X := X) (pins := pins) (σ := σ) ih h2 (by simpa using rv) h), ?_⟩
        show (ds.map (ndK n)).length ≤ sizeLine
        rw [List.length_map, ← h2.length]
        exact hz
    | _ => simp [ndOk] at h
theorem keyAt_rep {K : PySem.W.Frag} {N : Addr → Prop} {H : Hp} {v : V} {d : D} (r : Rep K N H v d) (h : ndOk 8 d = true) : KeyAt K H v (ndK 8 d) :=
  ⟨ndK_depth 8 d, fun X pins σ s u e I ru => nd_rep (N := N) I 8 d v u (by rw [e]; exact r) h ru⟩
def tupK : D → Bool
  | .tuple ds => ndOk 8 (.tuple ds)
  | _ => false
noncomputable def addNew (acc : List D) (d : D) : List D := open Classical in if d ∈ acc then acc else acc ++ [d]
noncomputable def dedD (ds : List D) : List D := ds.foldl addNew []
def lenT : D → Nat
  | .tuple ds => ds.length
  | _ => 0
def leLen (a b : D) : Bool := decide ((lenT a : Int) ≤ lenT b)
def itemsOf (ρ : En) : It3 → Option (List D)
  | .items ds => some ds
  | .slot j _ => lstAt ρ j
/-- sorted({x: True for x in ..}, key=len) -/
noncomputable def msrl (i : Nat) (mi : MI) : ME := fun ρ => (mi ρ).bind fun x => (guardO (decide (i < x.2.length))).bind fun _ => (itemsOf x.2 x.1).bind fun ds => (guardO (decide (ds.length ≤ 100000) && ds.all tupK)).map fun _ => (.new (.lst ((dedD ds).mergeSort leLen)), x.2)
theorem mem_addNew {acc : List D} {d e : D} (h : e ∈ addNew acc d) : e ∈ acc ∨ e = d := by
  unfold addNew at h
  split at h
  · exact .inl h
  · rcases List.mem_append.mp h with h | h
    · exact .inl h
    · exact .inr (List.mem_singleton.mp h)
theorem mem_dedD : ∀ {ds acc : List D} {e : D}, e ∈ ds.foldl addNew acc → e ∈ acc ∨ e ∈ ds
  | [], _, _, h => .inl h
  | d :: ds, acc, e, h => by
    rcases mem_dedD (ds := ds) h with h | h
    · rcases mem_addNew h with h | h
      · exact .inl h
      · exact .inr (by rw [h]; exact List.mem_cons_self)
    · exact .inr (List.mem_cons_of_mem _ h)
theorem tupK_ok {d : D} (h : tupK d = true) : ndOk 8 d = true := by
  unfold tupK at h
  split at h
  · exact h
  · cases h
theorem tupK_ref {K : PySem.W.Frag} {N : Addr → Prop} {H : Hp} {v : V} {d : D} (r : Rep K N H v d) (h : tupK d = true) : ∃ a, v = .ref a := by
  unfold tupK at h
  split at h
  · cases r; exact ⟨_, rfl⟩
  · cases h
/-- the entries stand for the data -/
structure Ent (K : PySem.W.Frag) (N : Addr → Prop) (H : Hp) (ys : List NX) (acc : List D) : Prop where
  rep : RepL K N H (ys.map fun y => V.ref y.2.1) acc
  key : ys.map (·.1) = acc.map (ndK 8)
  tru : ∀ y ∈ ys, y.2.2 = .bool true
  ok : ∀ d ∈ acc, tupK d = true
section
variable {K : PySem.W.Frag} {N : Addr → Prop} {H : Hp} {ys : List NX} {acc : List D}
theorem Ent.len (e : Ent K N H ys acc) : ys.length = acc.length := by
  have := congrArg List.length e.key
  rwa [List.length_map, List.length_map] at this
theorem Ent.zip (e : Ent K N H ys acc) : ∀ z ∈ ys.zip acc, Rep K N H (.ref z.1.2.1) z.2 ∧ z.1.1 = ndK 8 z.2 ∧ tupK z.2 = true := by
  obtain ⟨r, k, z0, o⟩ := e
  clear z0
  induction ys generalizing acc with
  | nil => intro z hz; cases hz
  | cons y ys ih =>
    cases acc with
    | nil => intro z hz; cases hz
    | cons d acc =>
      rw [List.map_cons] at r
      cases r with
      | cons r1 r2 =>
        rw [List.map_cons, List.map_cons] at k
        have k' := List.cons_eq_cons.mp k
        intro z hz
        rw [List.zip_cons_cons] at hz
        rcases List.mem_cons.mp hz with rfl | hz
        · exact ⟨r1, k'.1, o _ List.mem_cons_self⟩
        · exact ih r2 k'.2 (fun d m => o d (List.mem_cons_of_mem _ m)) z hz
theorem Ent.mem (e : Ent K N H ys acc) {y : NX} (m : y ∈ ys) : ∃ d ∈ acc, Rep K N H (.ref y.2.1) d ∧ y.1 = ndK 8 d ∧ tupK d = true := by
  obtain ⟨i, hi, rfl⟩ := List.mem_iff_getElem.mp m
  have hj : i < acc.length := by rw [← e.len]; exact hi
  have hz : (ys[i], acc[i]) ∈ ys.zip acc := List.mem_of_getElem? (i := i) (by rw [List.getElem?_zip_eq_some]; exact ⟨List.getElem?_eq_getElem hi, List.getElem?_eq_getElem hj⟩)
  exact ⟨acc[i], List.getElem_mem hj, e.zip _ hz⟩
theorem Ent.keyAt (e : Ent K N H ys acc) : ∀ q ∈ ys, KeyAt K H (.ref q.2.1) q.1 := fun q m => by
  obtain ⟨d, _, r, k, o⟩ := e.mem m
  rw [k]
  exact keyAt_rep r (tupK_ok o)
theorem Ent.evo {N1 : Addr → Prop} {H1 : Hp} (ev : Evo N H N1 H1) (e : Ent K N H ys acc) : Ent K N1 H1 ys acc := ⟨RepL.evo ev _ _ e.rep, e.key, e.tru, e.ok⟩
theorem putAt_same {k : NestedKey} {ys : List NX} (h : ∀ y ∈ ys, y.2.2 = .bool true) : ys.map (putAt k (.bool true)) = ys := by
  induction ys with
  | nil => rfl
  | cons y ys ih =>
    rw [List.map_cons, ih fun z m => h z (List.mem_cons_of_mem _ m)]
    have e := h y List.mem_cons_self
    obtain ⟨a, b, c⟩ := y
    cases e
    unfold putAt
    split <;> rfl
theorem Ent.put (e : Ent K N H ys acc) {a : Addr} {d : D} (r : Rep K N H (.ref a) d) (o : tupK d = true) : Ent K N H (storedH ys (ndK 8 d) a (.bool true)) (addNew acc d) ∧ (storedH ys (ndK 8 d) a (.bool true)).length ≤ ys.length + 1 := by
  by_cases hm : d ∈ acc
  · have hk : ndK 8 d ∈ ys.map (·.1) := by rw [e.key]; exact List.mem_map_of_mem hm
    obtain ⟨p, hp⟩ : ∃ p, atKey ys (ndK 8 d) = some p := by
      cases hf : atKey ys (ndK 8 d) with
      | some p => exact ⟨p, rfl⟩
      | none =>
        exfalso
        obtain ⟨y, my, ey⟩ := List.mem_map.mp hk
        unfold atKey at hf
        rw [Option.map_eq_none_iff, List.find?_eq_none] at hf
        exact hf y my (decide_eq_true ey)
    rw [storedH_old hp, putAt_same e.tru]
    have : addNew acc d = acc := if_pos hm
    rw [this]
    exact ⟨e, Nat.le_succ _⟩
  · have hp : atKey ys (ndK 8 d) = none := by
      unfold atKey
      rw [Option.map_eq_none_iff, List.find?_eq_none]
      intro y my hy
      obtain ⟨d', md, _, k', o'⟩ := e.mem my
      have hy' : y.1 = ndK 8 d := of_decide_eq_true hy
      have := ndK_inj 8 d' d (tupK_ok o') (tupK_ok o) (by rw [← k', hy'])
      exact hm (by rw [← this]; exact md)
    rw [storedH_new hp]
    have : addNew acc d = acc ++ [d] := if_neg hm
    rw [this]
    refine ⟨⟨?_, ?_, fun y m => ?_, fun z m => ?_⟩, by rw [List.length_append, List.length_singleton]; exact Nat.le_refl _⟩
    · rw [List.map_append]
      exact e.rep.snoc r
    · rw [List.map_append, List.map_append, e.key]
      rfl
    · rcases List.mem_append.mp m with m | m
      · exact e.tru y m
      · rw [List.mem_singleton.mp m]
    · rcases List.mem_append.mp m with m | m
      · exact e.ok z m
      · rw [List.mem_singleton.mp m]; exact o
theorem lenN_T {d : D} (o : tupK d = true) : lenN (ndK 8 d) = lenT d := by
  unfold tupK at o
  split at o
  · show (List.map _ _).length = _
    rw [List.length_map]; rfl
  · cases o
theorem repL_zip {zs : List (NX × D)} (h : ∀ z ∈ zs, Rep K N H (.ref z.1.2.1) z.2) : RepL K N H (zs.map fun z => V.ref z.1.2.1) (zs.map (·.2)) := by
  induction zs with
  | nil => exact .nil
  | cons z zs ih => exact .cons (h z List.mem_cons_self) (ih fun y m => h y (List.mem_cons_of_mem _ m))
theorem Ent.sort (e : Ent K N H ys acc) : RepL K N H ((ys.mergeSort byLen).map fun y => .ref y.2.1) (acc.mergeSort leLen) := by
  have z := e.zip
  have h1 : ys = (ys.zip acc).map (·.1) := by rw [List.map_fst_zip]; exact Nat.le_of_eq e.len
  have h2 : acc = (ys.zip acc).map (·.2) := by rw [List.map_snd_zip]; exact Nat.le_of_eq e.len.symm
  have s1 : ys.mergeSort byLen = ((ys.zip acc).mergeSort fun a b => byLen a.1 b.1).map (·.1) := by
    rw [List.map_mergeSort (s := byLen) fun a _ b _ => rfl, ← h1]
  have s2 : acc.mergeSort leLen = ((ys.zip acc).mergeSort fun a b => byLen a.1 b.1).map (·.2) := by
    rw [List.map_mergeSort (s := leLen) fun a ma b mb => ?_, ← h2]
    unfold byLen leLen
    rw [(z a ma).2.1, (z b mb).2.1, lenN_T (z a ma).2.2, lenN_T (z b mb).2.2]
  rw [s1, s2, List.map_map]
  exact repL_zip fun q m => (z q ((List.mergeSort_perm _ _).mem_iff.mp m)).1
end
theorem take_fold (ds : List D) {i : Nat} {d : D} (h : ds[i]? = some d) : (ds.take (i + 1)).foldl addNew [] = addNew ((ds.take i).foldl addNew []) d := by
  rw [List.take_add_one, h, List.foldl_append]; rfl
section
variable {G : GC} {S : SC}
theorem srl_rd {K : PySem.W.Frag} {P : Program} {w : World} {i : Nat} {mi : MI} {σ : L2.St} {H : Hp} {Q : VK} (h : rd K (msrl i mi) σ H Q) : tSk P w K (tNd P w K (rdI K mi) (gName i) (tVar i) (tC (.bl true)) [i]) σ H Q := by
  obtain ⟨W, ρ, r, ρ', rel, em, q⟩ := h
  unfold msrl at em
  obtain ⟨⟨it, ρ1⟩, e1, em⟩ := Option.bind_eq_some_iff.mp em
  obtain ⟨_, e2, em⟩ := Option.bind_eq_some_iff.mp em
  obtain ⟨ds, e3, em⟩ := Option.bind_eq_some_iff.mp em
  obtain ⟨_, e4, em⟩ := Option.map_eq_some_iff.mp em
  cases em
  have e2' : i < ρ1.length := guardO_dec e2
  have e4' := guardO_some e4
  rw [Bool.and_eq_true] at e4'
  have hlen : ds.length ≤ 100000 := of_decide_eq_true e4'.1
  have hall : ∀ d ∈ ds, tupK d = true := fun d m => List.all_eq_true.mp e4'.2 d m
  refine ⟨W, ρ, it, ρ1, rel, e1, fun J H1 p1 jt D hD => ?_⟩
  have hσ : i < σ.length := by rw [← p1.rel.len]; exact e2'
  let N1 : Addr → Prop := fun a => Av W.P ρ1 σ a ∨ a = D
  have ev1 : ∀ Hc, (∀ a o, H1 a = some o → Hc a = some o) → Evo (Av W.P ρ1 σ) H1 N1 Hc := fun Hc up => ⟨fun a o e _ => up a o e, fun a z => z.imp id fun z => by rw [z]; exact hD⟩
  have tr1 : ∀ Hc, (∀ a o, H1 a = some o → Hc a = some o) → (∃ o, Hc D = some o) → Trk N1 Hc := fun Hc up hd a z => by
    rcases z with z | z
    · obtain ⟨o, e⟩ := p1.rel.trk a z
      exact ⟨o, up a o e⟩
    · rw [z]; exact hd
  have hJ : ∀ Hc, (∀ a o, H1 a = some o → Hc a = some o) → (∃ o, Hc D = some o) → (∀ (n : Nat) d, ds[n]? = some d → J.go n Hc ∧ ∀ x H2, J.yld n Hc x H2 → (∀ a o, Hc a = some o → H2 a = some o) ∧ Rep K N1 H2 x d) ∧ ∀ n, ds.length ≤ n → J.stop n Hc := by
    intro Hc up hd
    cases it with
    | items ds' =>
      cases e3
      exact jt N1 Hc (ev1 Hc up) (tr1 Hc up hd)
    | slot j ds' =>
      obtain ⟨qs, o, b, h1, h2, rfl, _⟩ := jt
      obtain ⟨o', h3⟩ := lstAt_some (show lstAt ρ1 j = some ds from e3)
      obtain ⟨q', h4, h5, _⟩ := p1.rel.boxOk h3
      rw [h1] at h4; cases h4
      obtain ⟨xs, h6, h7⟩ := h5
      have sq : SqL K Hc qs xs := .inl (.inl (up _ _ h6))
      refine ⟨fun n d hn => ?_, fun n hn => ⟨xs, sq, by rw [h7.length]; exact hn⟩⟩
      obtain ⟨x, hx, rx⟩ := h7.get hn
      refine ⟨⟨xs, x, sq, hx⟩, fun y H2 hy => ?_⟩
      obtain ⟨rfl, hy2⟩ := hy
      have := hy2 xs sq
      rw [hx] at this
      cases this
      exact ⟨fun _ _ e => e, Rep.evo (ev1 _ up) _ _ rx⟩
  refine ⟨fun n m Hc => n ≤ ds.length ∧ m = ds.length - n ∧ (∀ a o, H1 a = some o → Hc a = some o) ∧ ∃ ys, Hc D = some (DN P w D ys) ∧ ys.length ≤ n ∧ Ent K N1 Hc ys ((ds.take n).foldl addNew []), ⟨_, Nat.zero_le _, rfl, fresh_upd hD, [], upd_same, Nat.le_refl _, ⟨.nil, rfl, (fun _ m => nomatch m), fun _ m => nomatch m⟩⟩, ?_⟩
  rintro n m Hc ⟨hn, rfl, up, ys, hDc, hyl, ent⟩
  obtain ⟨j1, j2⟩ := hJ Hc up ⟨_, hDc⟩
  rcases Nat.lt_or_ge n ds.length with hlt | hge
  · refine .inr ⟨?_, ?_⟩
    · exact (j1 n _ (List.getElem?_eq_getElem hlt)).1
    · refine ⟨fun H' => (∀ a o, H1 a = some o → H' a = some o) ∧ ∃ ys, H' D = some (DN P w D ys) ∧ ys.length ≤ n + 1 ∧ Ent K N1 H' ys ((ds.take (n + 1)).foldl addNew []), fun H' ⟨a, b⟩ => ⟨_, by omega, hlt, rfl, a, b⟩, fun x H2 hy => ?_⟩
      obtain ⟨s2, rx⟩ := (j1 n _ (List.getElem?_eq_getElem hlt)).2 x H2 hy
      have hk := hall _ (List.getElem_mem hlt)
      obtain ⟨a, rfl⟩ := tupK_ref rx hk
      have hw : wipe ((wipe σ [i]).set i (some (V.ref a))) [i] = wipe σ [i] := by
        show ((σ.set i none).set i (some (V.ref a))).set i none = σ.set i none
        rw [List.set_set, List.set_set]
      refine ⟨hw, .ref a, ?_, ?_⟩
      · show ((σ.set i none).set i (some (V.ref a)))[i]? = _
        rw [List.set_set, List.getElem?_set_self hσ]
      have ent2 : Ent K N1 H2 ys ((ds.take n).foldl addNew []) := ent.evo ⟨fun b o e _ => s2 b o e, fun _ z => .inl z⟩
      obtain ⟨p2, l2⟩ := ent2.put rx hk
      refine ⟨ys, ndK 8 ds[n], a, true, rfl, rfl, s2 _ _ hDc, Nat.lt_of_le_of_lt hyl (Nat.lt_of_lt_of_le hlt (Nat.le_trans hlen (by rw [sizeLine_eq]; decide))), keyAt_rep rx (tupK_ok hk), ent2.keyAt, fun b o e => ?_, _, upd_same, by omega, ?_⟩
      · rw [upd_ne fun z => by rw [z, hD] at e; cases e]
        exact s2 b o (up b o e)
      · rw [take_fold ds (List.getElem?_eq_getElem hlt)]
        exact p2.evo ⟨fun b o e nz => by rw [upd_ne fun z => nz (.inr z)]; exact e, fun _ z => .inl z⟩
  · have en : n = ds.length := by omega
    subst en
    rw [List.take_length] at ent
    refine .inl ⟨j2 _ (Nat.le_refl _), D, ys, rfl, hDc, Nat.le_trans hyl (Nat.le_trans hlen (by rw [sizeLine_eq]; decide)), ent.keyAt, fun p hp => ?_⟩
    have ent3 : Ent K (Av W.P ρ1 σ) Hc ys (ds.foldl addNew []) := ent.evo (mono_av fun a z => .inl z)
    refine q _ _ ((p1.same up).fin (.lst (p1.same up).rel.trk hp ent3.sort))
/-- sorted({x: True for x in ..}, key=len) -/
theorem de_srl {x : Str} {i : Nat} {p p1 p2 p3 pl kpos pos dpos : Pos} {j3 : Nat} {iter : Expr} {scope : Scope} {mi : MI} (hi : DI G S (.Name x p1) iter mi) (ok : BlkOk S.N S.sc scope [(x, i)]) (hx : StoOk (S.blk scope) i x) (hv : Vis (S.blk scope).sc x) (hd : (x == ("__debug__" : Str)) = false) (hcd : (x == ("__classdict__" : Str)) = false)
    (hs : S.sc.names.lookup (Str.ofString "sorted") = some NameKind.globalImplicit) (ms : G.mg (Str.ofString "sorted") = none) (hl : S.sc.names.lookup (Str.ofString "len") = some NameKind.globalImplicit) (ml : G.mg (Str.ofString "len") = none)
    (hf : ∀ (env : PySem.Env) x, foldedSetIterable iter env x = pure x) :
    DE G S (.Call (.Name "sorted" p) [.DictComp (.Name x p2) (.Constant (.bool true) j3 p3) [⟨.Name x p1, iter, [], 0⟩] scope dpos] [⟨some "key", .Name "len" pl, kpos⟩] pos) (msrl i mi) := by
  intro X c
  have hr := c.room.un
  have hg : ∀ y : Str, S.sc.names.lookup y = some NameKind.globalImplicit → Gl X y := fun y e => by
    show X.env.scope.names.lookup _ = _; rw [c.sc]; exact e
  have hN : X.N[i]? = some x := by rw [c.N]; exact hx.1
  refine PE.weak (pe_sk (X := X) (by omega) c.calm (pe_nd (own := [(x, i)]) (g := gName i) (tk := tVar i) (by omega) c.calm c.nd (hi X c) (by rw [c.N, c.sc]; exact ok) (fun s H C cl fp => ?_) (fun s H C cl fp => ?_) (fun s H C cl fp => pe_bl) (hf _)) (hg _ hs) (by rw [c.mg]; exact ms) (hg _ hl) (by rw [c.mg]; exact ml) rfl rfl) ?_
  · have cb := c.blk scope s H C cl fp
    exact pg_name cb.nd (by rw [cb.N]; exact hx.1) (by rw [cb.sc]; exact hx.2.1) (by rw [cb.sc, cb.fn]; exact hx.2.2)
  · have cb := c.blk scope s H C cl fp
    exact pe_var (by rw [cb.N]; exact hx.1) (by rw [cb.sc]; exact hv) hd hcd
  · intro σ H Q h
    rw [c.K]
    exact srl_rd h
end
end L3

namespace L3
open PySem PySem.Spec PyProof.Rows L2
/-- sorted(..), a list of one item of any sort among them -/
noncomputable def sortedE : List D → Option R
  | [.list ds] => if sortOk ds = true then some (.new (.lst (sortD ds))) else if ds.length ≤ 1 then some (.new (.lst ds)) else none
  | xs => sortedD xs
theorem perm_short {α : Type} {xs ys : List α} (p : xs.Perm ys) (h : ys.length ≤ 1) : xs = ys := by
  cases ys with
  | nil => exact p.eq_nil
  | cons y r => cases r with
    | nil => exact List.perm_singleton.mp p
    | cons _ _ => simp at h
section
variable {G : GC} {S : SC}
theorem call_sortedE (X : Cx) (c : CxOk G S X) : CallR X (.builtin "sorted") (rDn G.K sortedE) := by
  intro pins s σ H xs us Q I rxs ⟨N, ds, r, tk, hs, eg, q⟩
  by_cases hd : sortedD ds = some r
  · exact call_sortedD' X c pins s σ H xs us Q I rxs ⟨N, ds, r, tk, hs, hd, q⟩
  rw [← c.K] at hs q
  unfold sortedE at eg
  split at eg
  · rename_i ds
    split at eg
    · rename_i ho
      refine absurd ?_ hd
      unfold sortedD
      simp only []
      rw [if_pos ho]
      exact eg
    split at eg
    · rename_i hlen
      cases eg
      obtain ⟨v, rfl, h⟩ := hs.one
      obtain ⟨a, ys, rfl, h1, r1⟩ := h.list
      obtain ⟨u, rfl, rx⟩ := vals1 rxs
      cases rx
      obtain ⟨its, rv, pl, hz⟩ := I.list h1
      have hl : its.length ≤ 1 := by rw [← rv.length, r1.length]; exact hlen
      refine SrtO.sorted_ord (ltv := fun _ _ => false) ⟨fun _ _ _ => rfl, fun _ _ _ _ _ => rfl⟩ (by simpa using pl.isList) (by rw [← rv.length]; exact hz) (fun h2 => absurd h2 (by omega)) fun out _ ho => ?_
      have e := perm_short ho.perm hl
      subst e
      obtain ⟨ep, he'⟩ := PyProof.Rows.sortedAll_at s.heap out out.toArray
      refine ⟨.ref _, upd H (s.heap.objs.size + 1) (.lst ys), I.laid (t' := s.toks) (fun _ _ => PyProof.Rows.sortedAll_old) (Nat.le_succ _) ⟨?_, out, ep, rv, he'⟩, rfl, q _ _ (.lst tk (I.hok.fresh (Nat.le_succ _)) r1)⟩
      exact hz
    · cases eg
  · exact absurd eg hd
end
end L3

namespace L3
open PySem

/-! ends -/
def seqO (b : MS) : O → MS
  | .nx, ρ => b ρ
  | .bk, ρ => some (.bk, ρ)
  | .ct, ρ => some (.ct, ρ)
  | .rt r, ρ => some (.rt r, ρ)
def iteS {α : Type} (a b : En → Option α) : Bool → En → Option α
  | true, ρ => a ρ
  | false, ρ => b ρ
def retA (i : Nat) (ρ : En) : Option A → Option (O × En)
  | some (.dat d) => some (.rt (.dat d), ρ)
  | some (.box true b) => some (.rt (.new b), ρ)
  | _ => none
def retR (ρ : En) : R → Option (O × En)
  | .dat d => some (.rt (.dat d), ρ)
  | .new b => some (.rt (.new b), ρ)
  | .ref i => retA i ρ ρ[i]?.join
def varA (i : Nat) (ρ : En) : Option A → Option (R × En)
  | some (.dat d) => some (.dat d, ρ)
  | some (.box _ _) => some (.ref i, ρ)
  | none => none
def partD (ρ : En) : D → Option (Option Int × En)
  | .int i => some (some i, ρ)
  | _ => none
def seqItems (ρ : En) : Option (List D) → Option (It3 × En)
  | some ds => some (.items ds, ρ)
  | none => none
def seqA (i : Nat) (ρ : En) : Option A → Option (It3 × En)
  | some (.dat d) => seqItems ρ (seqD d)
  | some (.box true b) => seqItems (ρ.set i (some (.dat b.dat))) (seqD b.dat)
  | some (.box false (.lst ds)) => some (.slot i ds, ρ)
  | _ => none
def seqR (ρ : En) : R → Option (It3 × En)
  | .dat d => seqItems ρ (seqD d)
  | .new b => seqItems ρ (seqD b.dat)
  | .ref i => seqA i ρ ρ[i]?.join
def seqAC (i : Nat) (ρ : En) : Option A → Option (It3 × En)
  | some (.dat d) => seqItems ρ (seqD d)
  | some (.box _ (.lst ds)) => some (.slot i ds, ρ)
  | _ => none
def seqRC (ρ : En) : R → Option (It3 × En)
  | .dat d => seqItems ρ (seqD d)
  | .new b => seqItems ρ (seqD b.dat)
  | .ref i => seqAC i ρ ρ[i]?.join
def forT (g : MG) (b : MS) : It3 → MS
  | .items ds, ρ => mforI g b ds ρ
  | .slot i ds, ρ => mforS i g b ds 0 ρ
def stoO : Option En → Option (O × En)
  | some ρ => some (.nx, ρ)
  | none => none
def parR (i j : Nat) (ρ : En) : R → R → Option (O × En)
  | .ref _, _ => none
  | _, .ref _ => none
  | r, r' => stoO ((stoR ρ i r).bind fun ρ1 => stoR ρ1 j r')
def lcE (ρ : En) (vs : List Nat) : Option (List D × En) → Option (R × En)
  | some y => some (.new (.lst y.1), restE ρ y.2 vs)
  | none => none
def lcT (g : MG) (t : MT) (m : ME) (vs : List Nat) : It3 → ME
  | .items ds, ρ => lcE ρ vs (mlcI g t m vs ds [] (wipeE ρ vs))
  | .slot i ds, ρ => lcE ρ vs ((guardO (decide (i ∉ vs))).bind fun _ => mlcS i g t m vs ds 0 [] (wipeE ρ vs))
def rng1 (ρ : En) : List R → Option (It3 × En)
  | [r] => (intR ρ r).bind fun j => (guardO (decide (-(2 ^ 62) ≤ j ∧ j < 2 ^ 62))).bind fun _ => some (.items (rngD 0 j), ρ)
  | _ => none
def augR (s : Nat) (ρ : En) (o : Bool) (xs : List D) (j : Nat) : R → Option (O × En)
  | .dat d => some (.nx, ρ.set s (some (.box o (.lst (xs.set j d)))))
  | _ => none
def asgG (g : MG) (ρ : En) : List D → Option (O × En)
  | [d] => stoO (g d ρ)
  | _ => none
def defE (as : List A) (ρ : En) : O → Option (R × List A)
  | .rt r => (outAs ρ as 0).map fun o => (r, o)
  | .nx => (outAs ρ as 0).map fun o => (.dat .none, o)
  | _ => none

@[simp] theorem ev_mvar (i : Nat) (ρ : En) : mvar i ρ = varA i ρ ρ[i]?.join := by
  unfold mvar varA
  cases ρ[i]?.join with
  | none => rfl
  | some a => cases a <;> rfl
@[simp] theorem ev_mcon (d : D) (ρ : En) : mcon d ρ = some (.dat d, ρ) := rfl
@[simp] theorem ev_mnil (ρ : En) : mnil ρ = some ([], ρ) := rfl
@[simp] theorem ev_mdnew (ρ : En) : mdnew ρ = some (.new (.dic []), ρ) := rfl
@[simp] theorem ev_mdic (kvs : List (L2.Key × D)) (ρ : En) : mdic kvs ρ = some (.new (.dic (mergeKD [] kvs)), ρ) := rfl
@[simp] theorem ev_monone (ρ : En) : monone ρ = some (none, ρ) := rfl
@[simp] theorem ev_mpass (ρ : En) : mpass ρ = some (.nx, ρ) := rfl
@[simp] theorem ev_myes (ρ : En) : myes ρ = some (true, ρ) := rfl
def k_m1_2 (ρ1 : En) : Option (R) → Option (R × En)
  | some r => some (r, ρ1)
  | none => none
@[simp] theorem kk_m1_2 (ρ1 : En) (r : R) : k_m1_2 ρ1 (some r) = (some (r, ρ1)) := rfl
def k_m1_1 (g : D → Option R) (ρ1 : En) : Option (D) → Option (R × En)
  | some d => k_m1_2 ρ1 (g d)
  | none => none
@[simp] theorem kk_m1_1 (g : D → Option R) (ρ1 : En) (d : D) : k_m1_1 g ρ1 (some d) = (k_m1_2 ρ1 (g d)) := rfl
def k_m1_0 (g : D → Option R) : Option (R × En) → Option (R × En)
  | some (x, ρ1) => k_m1_1 g ρ1 (x.fz.vw ρ1)
  | none => none
@[simp] theorem kk_m1_0 (g : D → Option R) (x : R) (ρ1 : En) : k_m1_0 g (some (x, ρ1)) = (k_m1_1 g ρ1 (x.fz.vw ρ1)) := rfl
@[simp] theorem ev_m1 (g : D → Option R) (ma : ME) (ρ : En) : m1 g ma ρ = k_m1_0 g (ma ρ) := by
  unfold m1
  cases h0 : ma ρ with
  | none => simp only [Option.bind, Option.map, h0, k_m1_0, k_m1_1, k_m1_2]
  | some p0 =>
    obtain ⟨x, ρ1⟩ := p0
    cases h1 : x.fz.vw ρ1 with
    | none => simp only [Option.bind, Option.map, h0, h1, k_m1_0, k_m1_1, k_m1_2]
    | some d =>
      cases h2 : g d with
      | none => simp only [Option.bind, Option.map, h0, h1, h2, k_m1_0, k_m1_1, k_m1_2]
      | some r =>
        simp only [Option.bind, Option.map, h0, h1, h2, k_m1_0, k_m1_1, k_m1_2]
def k_m2_4 (ρ2 : En) : Option (R) → Option (R × En)
  | some r => some (r, ρ2)
  | none => none
@[simp] theorem kk_m2_4 (ρ2 : En) (r : R) : k_m2_4 ρ2 (some r) = (some (r, ρ2)) := rfl
def k_m2_3 (g : D → D → Option R) (ρ2 : En) (d : D) : Option (D) → Option (R × En)
  | some e => k_m2_4 ρ2 (g d e)
  | none => none
@[simp] theorem kk_m2_3 (g : D → D → Option R) (ρ2 : En) (d : D) (e : D) : k_m2_3 g ρ2 d (some e) = (k_m2_4 ρ2 (g d e)) := rfl
def k_m2_2 (g : D → D → Option R) (y : R) (ρ2 : En) : Option (D) → Option (R × En)
  | some d => k_m2_3 g ρ2 d (y.fz.vw ρ2)
  | none => none
@[simp] theorem kk_m2_2 (g : D → D → Option R) (y : R) (ρ2 : En) (d : D) : k_m2_2 g y ρ2 (some d) = (k_m2_3 g ρ2 d (y.fz.vw ρ2)) := rfl
def k_m2_1 (g : D → D → Option R) (x : R) : Option (R × En) → Option (R × En)
  | some (y, ρ2) => k_m2_2 g y ρ2 (x.fz.vw ρ2)
  | none => none
@[simp] theorem kk_m2_1 (g : D → D → Option R) (x : R) (y : R) (ρ2 : En) : k_m2_1 g x (some (y, ρ2)) = (k_m2_2 g y ρ2 (x.fz.vw ρ2)) := rfl
def k_m2_0 (g : D → D → Option R) (mb : ME) : Option (R × En) → Option (R × En)
  | some (x, ρ1) => k_m2_1 g x (mb ρ1)
  | none => none
@[simp] theorem kk_m2_0 (g : D → D → Option R) (mb : ME) (x : R) (ρ1 : En) : k_m2_0 g mb (some (x, ρ1)) = (k_m2_1 g x (mb ρ1)) := rfl
@[simp] theorem ev_m2 (g : D → D → Option R) (ma : ME) (mb : ME) (ρ : En) : m2 g ma mb ρ = k_m2_0 g mb (ma ρ) := by
  unfold m2
  cases h0 : ma ρ with
  | none => simp only [Option.bind, Option.map, h0, k_m2_0, k_m2_1, k_m2_2, k_m2_3, k_m2_4]
  | some p0 =>
    obtain ⟨x, ρ1⟩ := p0
    cases h1 : mb ρ1 with
    | none => simp only [Option.bind, Option.map, h0, h1, k_m2_0, k_m2_1, k_m2_2, k_m2_3, k_m2_4]
    | some p1 =>
      obtain ⟨y, ρ2⟩ := p1
      cases h2 : x.fz.vw ρ2 with
      | none => simp only [Option.bind, Option.map, h0, h1, h2, k_m2_0, k_m2_1, k_m2_2, k_m2_3, k_m2_4]
      | some d =>
        cases h3 : y.fz.vw ρ2 with
        | none => simp only [Option.bind, Option.map, h0, h1, h2, h3, k_m2_0, k_m2_1, k_m2_2, k_m2_3, k_m2_4]
        | some e =>
          cases h4 : g d e with
          | none => simp only [Option.bind, Option.map, h0, h1, h2, h3, h4, k_m2_0, k_m2_1, k_m2_2, k_m2_3, k_m2_4]
          | some r =>
            simp only [Option.bind, Option.map, h0, h1, h2, h3, h4, k_m2_0, k_m2_1, k_m2_2, k_m2_3, k_m2_4]
def k_mcons_1 (x : R) : Option (List R × En) → Option (List R × En)
  | some (rs, ρ2) => some (x.fz :: rs, ρ2)
  | none => none
@[simp] theorem kk_mcons_1 (x : R) (rs : List R) (ρ2 : En) : k_mcons_1 x (some (rs, ρ2)) = (some (x.fz :: rs, ρ2)) := rfl
def k_mcons_0 (ms : MA) : Option (R × En) → Option (List R × En)
  | some (x, ρ1) => k_mcons_1 x (ms ρ1)
  | none => none
@[simp] theorem kk_mcons_0 (ms : MA) (x : R) (ρ1 : En) : k_mcons_0 ms (some (x, ρ1)) = (k_mcons_1 x (ms ρ1)) := rfl
@[simp] theorem ev_mcons (ma : ME) (ms : MA) (ρ : En) : mcons ma ms ρ = k_mcons_0 ms (ma ρ) := by
  unfold mcons
  cases h0 : ma ρ with
  | none => simp only [Option.bind, Option.map, h0, k_mcons_0, k_mcons_1]
  | some p0 =>
    obtain ⟨x, ρ1⟩ := p0
    cases h1 : ms ρ1 with
    | none => simp only [Option.bind, Option.map, h0, h1, k_mcons_0, k_mcons_1]
    | some p1 =>
      obtain ⟨rs, ρ2⟩ := p1
      simp only [Option.bind, Option.map, h0, h1, k_mcons_0, k_mcons_1]
def k_mn_2 (ρ1 : En) : Option (R) → Option (R × En)
  | some r => some (r, ρ1)
  | none => none
@[simp] theorem kk_mn_2 (ρ1 : En) (r : R) : k_mn_2 ρ1 (some r) = (some (r, ρ1)) := rfl
def k_mn_1 (g : List D → Option R) (ρ1 : En) : Option (List D) → Option (R × En)
  | some ds => k_mn_2 ρ1 (g ds)
  | none => none
@[simp] theorem kk_mn_1 (g : List D → Option R) (ρ1 : En) (ds : List D) : k_mn_1 g ρ1 (some ds) = (k_mn_2 ρ1 (g ds)) := rfl
def k_mn_0 (g : List D → Option R) : Option (List R × En) → Option (R × En)
  | some (rs, ρ1) => k_mn_1 g ρ1 (vws ρ1 rs)
  | none => none
@[simp] theorem kk_mn_0 (g : List D → Option R) (rs : List R) (ρ1 : En) : k_mn_0 g (some (rs, ρ1)) = (k_mn_1 g ρ1 (vws ρ1 rs)) := rfl
@[simp] theorem ev_mn (g : List D → Option R) (ms : MA) (ρ : En) : mn g ms ρ = k_mn_0 g (ms ρ) := by
  unfold mn
  cases h0 : ms ρ with
  | none => simp only [Option.bind, Option.map, h0, k_mn_0, k_mn_1, k_mn_2]
  | some p0 =>
    obtain ⟨rs, ρ1⟩ := p0
    cases h1 : vws ρ1 rs with
    | none => simp only [Option.bind, Option.map, h0, h1, k_mn_0, k_mn_1, k_mn_2]
    | some ds =>
      cases h2 : g ds with
      | none => simp only [Option.bind, Option.map, h0, h1, h2, k_mn_0, k_mn_1, k_mn_2]
      | some r =>
        simp only [Option.bind, Option.map, h0, h1, h2, k_mn_0, k_mn_1, k_mn_2]
def k_mm_6 (ρ2 : En) : Option (R) → Option (R × En)
  | some r => some (r, ρ2)
  | none => none
@[simp] theorem kk_mm_6 (ρ2 : En) (r : R) : k_mm_6 ρ2 (some r) = (some (r, ρ2)) := rfl
def k_mm_5 (g : D → List D → Option R) (ρ2 : En) (d : D) : Option (List D) → Option (R × En)
  | some ds => k_mm_6 ρ2 (g d ds)
  | none => none
@[simp] theorem kk_mm_5 (g : D → List D → Option R) (ρ2 : En) (d : D) (ds : List D) : k_mm_5 g ρ2 d (some ds) = (k_mm_6 ρ2 (g d ds)) := rfl
def k_mm_4 (g : D → List D → Option R) (rs : List R) (ρ2 : En) : Option (D) → Option (R × En)
  | some d => k_mm_5 g ρ2 d (vws ρ2 rs)
  | none => none
@[simp] theorem kk_mm_4 (g : D → List D → Option R) (rs : List R) (ρ2 : En) (d : D) : k_mm_4 g rs ρ2 (some d) = (k_mm_5 g ρ2 d (vws ρ2 rs)) := rfl
def k_mm_3 (g : D → List D → Option R) (x : R) : Option (List R × En) → Option (R × En)
  | some (rs, ρ2) => k_mm_4 g rs ρ2 (x.fz.vw ρ2)
  | none => none
@[simp] theorem kk_mm_3 (g : D → List D → Option R) (x : R) (rs : List R) (ρ2 : En) : k_mm_3 g x (some (rs, ρ2)) = (k_mm_4 g rs ρ2 (x.fz.vw ρ2)) := rfl
def k_mm_2 (g : D → List D → Option R) (ms : MA) (x : R) (ρ1 : En) : Option (Unit) → Option (R × En)
  | some u => k_mm_3 g x (ms ρ1)
  | none => none
@[simp] theorem kk_mm_2 (g : D → List D → Option R) (ms : MA) (x : R) (ρ1 : En) (u : Unit) : k_mm_2 g ms x ρ1 (some u) = (k_mm_3 g x (ms ρ1)) := rfl
def k_mm_1 (T : String) (g : D → List D → Option R) (ms : MA) (x : R) (ρ1 : En) : Option (D) → Option (R × En)
  | some d0 => k_mm_2 g ms x ρ1 (guardO (tyD T d0))
  | none => none
@[simp] theorem kk_mm_1 (T : String) (g : D → List D → Option R) (ms : MA) (x : R) (ρ1 : En) (d0 : D) : k_mm_1 T g ms x ρ1 (some d0) = (k_mm_2 g ms x ρ1 (guardO (tyD T d0))) := rfl
def k_mm_0 (T : String) (g : D → List D → Option R) (ms : MA) : Option (R × En) → Option (R × En)
  | some (x, ρ1) => k_mm_1 T g ms x ρ1 (x.fz.vw ρ1)
  | none => none
@[simp] theorem kk_mm_0 (T : String) (g : D → List D → Option R) (ms : MA) (x : R) (ρ1 : En) : k_mm_0 T g ms (some (x, ρ1)) = (k_mm_1 T g ms x ρ1 (x.fz.vw ρ1)) := rfl
@[simp] theorem ev_mm (T : String) (g : D → List D → Option R) (ma : ME) (ms : MA) (ρ : En) : mm T g ma ms ρ = k_mm_0 T g ms (ma ρ) := by
  unfold mm
  cases h0 : ma ρ with
  | none => simp only [Option.bind, Option.map, h0, k_mm_0, k_mm_1, k_mm_2, k_mm_3, k_mm_4, k_mm_5, k_mm_6]
  | some p0 =>
    obtain ⟨x, ρ1⟩ := p0
    cases h1 : x.fz.vw ρ1 with
    | none => simp only [Option.bind, Option.map, h0, h1, k_mm_0, k_mm_1, k_mm_2, k_mm_3, k_mm_4, k_mm_5, k_mm_6]
    | some d0 =>
      cases h2 : guardO (tyD T d0) with
      | none => simp only [Option.bind, Option.map, h0, h1, h2, k_mm_0, k_mm_1, k_mm_2, k_mm_3, k_mm_4, k_mm_5, k_mm_6]
      | some u =>
        cases h3 : ms ρ1 with
        | none => simp only [Option.bind, Option.map, h0, h1, h2, h3, k_mm_0, k_mm_1, k_mm_2, k_mm_3, k_mm_4, k_mm_5, k_mm_6]
        | some p3 =>
          obtain ⟨rs, ρ2⟩ := p3
          cases h4 : x.fz.vw ρ2 with
          | none => simp only [Option.bind, Option.map, h0, h1, h2, h3, h4, k_mm_0, k_mm_1, k_mm_2, k_mm_3, k_mm_4, k_mm_5, k_mm_6]
          | some d =>
            cases h5 : vws ρ2 rs with
            | none => simp only [Option.bind, Option.map, h0, h1, h2, h3, h4, h5, k_mm_0, k_mm_1, k_mm_2, k_mm_3, k_mm_4, k_mm_5, k_mm_6]
            | some ds =>
              cases h6 : g d ds with
              | none => simp only [Option.bind, Option.map, h0, h1, h2, h3, h4, h5, h6, k_mm_0, k_mm_1, k_mm_2, k_mm_3, k_mm_4, k_mm_5, k_mm_6]
              | some r =>
                simp only [Option.bind, Option.map, h0, h1, h2, h3, h4, h5, h6, k_mm_0, k_mm_1, k_mm_2, k_mm_3, k_mm_4, k_mm_5, k_mm_6]
def k_mif_0 (ma : ME) (mb : ME) : Option (Bool × En) → Option (R × En)
  | some (c, ρ1) => iteS ma mb c ρ1
  | none => none
@[simp] theorem kk_mif_0 (ma : ME) (mb : ME) (c : Bool) (ρ1 : En) : k_mif_0 ma mb (some (c, ρ1)) = (iteS ma mb c ρ1) := rfl
@[simp] theorem ev_mif (mt : MT) (ma : ME) (mb : ME) (ρ : En) : mif mt ma mb ρ = k_mif_0 ma mb (mt ρ) := by
  unfold mif
  cases h0 : mt ρ with
  | none => simp only [Option.bind, Option.map, h0, k_mif_0]
  | some p0 =>
    obtain ⟨c, ρ1⟩ := p0
    simp only [Option.bind, Option.map, h0, k_mif_0]
    cases c <;> simp [iteS]
def k_mtup_2 (ds : List D) (ρ2 : En) : Option (Unit) → Option (R × En)
  | some u => some (.dat (.tuple ds), ρ2)
  | none => none
@[simp] theorem kk_mtup_2 (ds : List D) (ρ2 : En) (u : Unit) : k_mtup_2 ds ρ2 (some u) = (some (.dat (.tuple ds), ρ2)) := rfl
def k_mtup_1  : Option (List D × En) → Option (R × En)
  | some (ds, ρ2) => k_mtup_2 ds ρ2 (guardO (decide (ds.length ≤ sizeLine)))
  | none => none
@[simp] theorem kk_mtup_1 (ds : List D) (ρ2 : En) : k_mtup_1  (some (ds, ρ2)) = (k_mtup_2 ds ρ2 (guardO (decide (ds.length ≤ sizeLine)))) := rfl
def k_mtup_0  : Option (List R × En) → Option (R × En)
  | some (rs, ρ1) => k_mtup_1  (fzs ρ1 rs)
  | none => none
@[simp] theorem kk_mtup_0 (rs : List R) (ρ1 : En) : k_mtup_0  (some (rs, ρ1)) = (k_mtup_1  (fzs ρ1 rs)) := rfl
@[simp] theorem ev_mtup (ms : MA) (ρ : En) : mtup ms ρ = k_mtup_0  (ms ρ) := by
  unfold mtup
  cases h0 : ms ρ with
  | none => simp only [Option.bind, Option.map, h0, k_mtup_0, k_mtup_1, k_mtup_2]
  | some p0 =>
    obtain ⟨rs, ρ1⟩ := p0
    cases h1 : fzs ρ1 rs with
    | none => simp only [Option.bind, Option.map, h0, h1, k_mtup_0, k_mtup_1, k_mtup_2]
    | some p1 =>
      obtain ⟨ds, ρ2⟩ := p1
      cases h2 : guardO (decide (ds.length ≤ sizeLine)) with
      | none => simp only [Option.bind, Option.map, h0, h1, h2, k_mtup_0, k_mtup_1, k_mtup_2]
      | some u =>
        simp only [Option.bind, Option.map, h0, h1, h2, k_mtup_0, k_mtup_1, k_mtup_2]
def k_mlst_2 (ds : List D) (ρ2 : En) : Option (Unit) → Option (R × En)
  | some u => some (.new (.lst ds), ρ2)
  | none => none
@[simp] theorem kk_mlst_2 (ds : List D) (ρ2 : En) (u : Unit) : k_mlst_2 ds ρ2 (some u) = (some (.new (.lst ds), ρ2)) := rfl
def k_mlst_1  : Option (List D × En) → Option (R × En)
  | some (ds, ρ2) => k_mlst_2 ds ρ2 (guardO (decide (ds.length ≤ sizeLine)))
  | none => none
@[simp] theorem kk_mlst_1 (ds : List D) (ρ2 : En) : k_mlst_1  (some (ds, ρ2)) = (k_mlst_2 ds ρ2 (guardO (decide (ds.length ≤ sizeLine)))) := rfl
def k_mlst_0  : Option (List R × En) → Option (R × En)
  | some (rs, ρ1) => k_mlst_1  (fzs ρ1 rs)
  | none => none
@[simp] theorem kk_mlst_0 (rs : List R) (ρ1 : En) : k_mlst_0  (some (rs, ρ1)) = (k_mlst_1  (fzs ρ1 rs)) := rfl
@[simp] theorem ev_mlst (ms : MA) (ρ : En) : mlst ms ρ = k_mlst_0  (ms ρ) := by
  unfold mlst
  cases h0 : ms ρ with
  | none => simp only [Option.bind, Option.map, h0, k_mlst_0, k_mlst_1, k_mlst_2]
  | some p0 =>
    obtain ⟨rs, ρ1⟩ := p0
    cases h1 : fzs ρ1 rs with
    | none => simp only [Option.bind, Option.map, h0, h1, k_mlst_0, k_mlst_1, k_mlst_2]
    | some p1 =>
      obtain ⟨ds, ρ2⟩ := p1
      cases h2 : guardO (decide (ds.length ≤ sizeLine)) with
      | none => simp only [Option.bind, Option.map, h0, h1, h2, k_mlst_0, k_mlst_1, k_mlst_2]
      | some u =>
        simp only [Option.bind, Option.map, h0, h1, h2, k_mlst_0, k_mlst_1, k_mlst_2]
def k_mosome_1 (ρ1 : En) : Option (D) → Option (Option Int × En)
  | some d => partD ρ1 d
  | none => none
@[simp] theorem kk_mosome_1 (ρ1 : En) (d : D) : k_mosome_1 ρ1 (some d) = (partD ρ1 d) := rfl
def k_mosome_0  : Option (R × En) → Option (Option Int × En)
  | some (x, ρ1) => k_mosome_1 ρ1 (x.fz.vw ρ1)
  | none => none
@[simp] theorem kk_mosome_0 (x : R) (ρ1 : En) : k_mosome_0  (some (x, ρ1)) = (k_mosome_1 ρ1 (x.fz.vw ρ1)) := rfl
@[simp] theorem ev_mosome (m : ME) (ρ : En) : mosome m ρ = k_mosome_0  (m ρ) := by
  unfold mosome
  cases h0 : m ρ with
  | none => simp only [Option.bind, Option.map, h0, k_mosome_0, k_mosome_1]
  | some p0 =>
    obtain ⟨x, ρ1⟩ := p0
    cases h1 : x.fz.vw ρ1 with
    | none => simp only [Option.bind, Option.map, h0, h1, k_mosome_0, k_mosome_1]
    | some d =>
      simp only [Option.bind, Option.map, h0, h1, k_mosome_0, k_mosome_1]
      cases d <;> simp [partD]
def k_msl_4 (ρ3 : En) : Option (R) → Option (R × En)
  | some r => some (r, ρ3)
  | none => none
@[simp] theorem kk_msl_4 (ρ3 : En) (r : R) : k_msl_4 ρ3 (some r) = (some (r, ρ3)) := rfl
def k_msl_3 (g : D → Option Int → Option Int → Option R) (l : Option Int) (h : Option Int) (ρ3 : En) : Option (D) → Option (R × En)
  | some d => k_msl_4 ρ3 (g d l h)
  | none => none
@[simp] theorem kk_msl_3 (g : D → Option Int → Option Int → Option R) (l : Option Int) (h : Option Int) (ρ3 : En) (d : D) : k_msl_3 g l h ρ3 (some d) = (k_msl_4 ρ3 (g d l h)) := rfl
def k_msl_2 (g : D → Option Int → Option Int → Option R) (x : R) (l : Option Int) : Option (Option Int × En) → Option (R × En)
  | some (h, ρ3) => k_msl_3 g l h ρ3 (x.fz.vw ρ3)
  | none => none
@[simp] theorem kk_msl_2 (g : D → Option Int → Option Int → Option R) (x : R) (l : Option Int) (h : Option Int) (ρ3 : En) : k_msl_2 g x l (some (h, ρ3)) = (k_msl_3 g l h ρ3 (x.fz.vw ρ3)) := rfl
def k_msl_1 (g : D → Option Int → Option Int → Option R) (mh : MO) (x : R) : Option (Option Int × En) → Option (R × En)
  | some (l, ρ2) => k_msl_2 g x l (mh ρ2)
  | none => none
@[simp] theorem kk_msl_1 (g : D → Option Int → Option Int → Option R) (mh : MO) (x : R) (l : Option Int) (ρ2 : En) : k_msl_1 g mh x (some (l, ρ2)) = (k_msl_2 g x l (mh ρ2)) := rfl
def k_msl_0 (g : D → Option Int → Option Int → Option R) (ml : MO) (mh : MO) : Option (R × En) → Option (R × En)
  | some (x, ρ1) => k_msl_1 g mh x (ml ρ1)
  | none => none
@[simp] theorem kk_msl_0 (g : D → Option Int → Option Int → Option R) (ml : MO) (mh : MO) (x : R) (ρ1 : En) : k_msl_0 g ml mh (some (x, ρ1)) = (k_msl_1 g mh x (ml ρ1)) := rfl
@[simp] theorem ev_msl (g : D → Option Int → Option Int → Option R) (ma : ME) (ml : MO) (mh : MO) (ρ : En) : msl g ma ml mh ρ = k_msl_0 g ml mh (ma ρ) := by
  unfold msl
  cases h0 : ma ρ with
  | none => simp only [Option.bind, Option.map, h0, k_msl_0, k_msl_1, k_msl_2, k_msl_3, k_msl_4]
  | some p0 =>
    obtain ⟨x, ρ1⟩ := p0
    cases h1 : ml ρ1 with
    | none => simp only [Option.bind, Option.map, h0, h1, k_msl_0, k_msl_1, k_msl_2, k_msl_3, k_msl_4]
    | some p1 =>
      obtain ⟨l, ρ2⟩ := p1
      cases h2 : mh ρ2 with
      | none => simp only [Option.bind, Option.map, h0, h1, h2, k_msl_0, k_msl_1, k_msl_2, k_msl_3, k_msl_4]
      | some p2 =>
        obtain ⟨h, ρ3⟩ := p2
        cases h3 : x.fz.vw ρ3 with
        | none => simp only [Option.bind, Option.map, h0, h1, h2, h3, k_msl_0, k_msl_1, k_msl_2, k_msl_3, k_msl_4]
        | some d =>
          cases h4 : g d l h with
          | none => simp only [Option.bind, Option.map, h0, h1, h2, h3, h4, k_msl_0, k_msl_1, k_msl_2, k_msl_3, k_msl_4]
          | some r =>
            simp only [Option.bind, Option.map, h0, h1, h2, h3, h4, k_msl_0, k_msl_1, k_msl_2, k_msl_3, k_msl_4]
def k_mtru_2 (ρ1 : En) : Option (Bool) → Option (Bool × En)
  | some c => some (c, ρ1)
  | none => none
@[simp] theorem kk_mtru_2 (ρ1 : En) (c : Bool) : k_mtru_2 ρ1 (some c) = (some (c, ρ1)) := rfl
def k_mtru_1 (ρ1 : En) : Option (D) → Option (Bool × En)
  | some d => k_mtru_2 ρ1 (truD d)
  | none => none
@[simp] theorem kk_mtru_1 (ρ1 : En) (d : D) : k_mtru_1 ρ1 (some d) = (k_mtru_2 ρ1 (truD d)) := rfl
def k_mtru_0  : Option (R × En) → Option (Bool × En)
  | some (x, ρ1) => k_mtru_1 ρ1 (x.fz.vw ρ1)
  | none => none
@[simp] theorem kk_mtru_0 (x : R) (ρ1 : En) : k_mtru_0  (some (x, ρ1)) = (k_mtru_1 ρ1 (x.fz.vw ρ1)) := rfl
@[simp] theorem ev_mtru (m : ME) (ρ : En) : mtru m ρ = k_mtru_0  (m ρ) := by
  unfold mtru
  cases h0 : m ρ with
  | none => simp only [Option.bind, Option.map, h0, k_mtru_0, k_mtru_1, k_mtru_2]
  | some p0 =>
    obtain ⟨x, ρ1⟩ := p0
    cases h1 : x.fz.vw ρ1 with
    | none => simp only [Option.bind, Option.map, h0, h1, k_mtru_0, k_mtru_1, k_mtru_2]
    | some d =>
      cases h2 : truD d with
      | none => simp only [Option.bind, Option.map, h0, h1, h2, k_mtru_0, k_mtru_1, k_mtru_2]
      | some c =>
        simp only [Option.bind, Option.map, h0, h1, h2, k_mtru_0, k_mtru_1, k_mtru_2]
def k_mtst_1 (ρ1 : En) : Option (Bool) → Option (Bool × En)
  | some c => some (c, ρ1)
  | none => none
@[simp] theorem kk_mtst_1 (ρ1 : En) (c : Bool) : k_mtst_1 ρ1 (some c) = (some (c, ρ1)) := rfl
def k_mtst_0  : Option (R × En) → Option (Bool × En)
  | some (x, ρ1) => k_mtst_1 ρ1 (boolR x)
  | none => none
@[simp] theorem kk_mtst_0 (x : R) (ρ1 : En) : k_mtst_0  (some (x, ρ1)) = (k_mtst_1 ρ1 (boolR x)) := rfl
@[simp] theorem ev_mtst (m : ME) (ρ : En) : mtst m ρ = k_mtst_0  (m ρ) := by
  unfold mtst
  cases h0 : m ρ with
  | none => simp only [Option.bind, Option.map, h0, k_mtst_0, k_mtst_1]
  | some p0 =>
    obtain ⟨x, ρ1⟩ := p0
    cases h1 : boolR x with
    | none => simp only [Option.bind, Option.map, h0, h1, k_mtst_0, k_mtst_1]
    | some c =>
      simp only [Option.bind, Option.map, h0, h1, k_mtst_0, k_mtst_1]
def k_mnot_0  : Option (Bool × En) → Option (Bool × En)
  | some (c, ρ1) => some (!c, ρ1)
  | none => none
@[simp] theorem kk_mnot_0 (c : Bool) (ρ1 : En) : k_mnot_0  (some (c, ρ1)) = (some (!c, ρ1)) := rfl
@[simp] theorem ev_mnot (m : MT) (ρ : En) : mnot m ρ = k_mnot_0  (m ρ) := by
  unfold mnot
  cases h0 : m ρ with
  | none => simp only [Option.bind, Option.map, h0, k_mnot_0]
  | some p0 =>
    obtain ⟨c, ρ1⟩ := p0
    simp only [Option.bind, Option.map, h0, k_mnot_0]
def k_mandT_0 (md : MT) (ρ : En) : Option (Bool × En) → Option (Bool × En)
  | some (c, ρ1) => iteS md (fun ρ => some (false, ρ)) c ρ1
  | none => none
@[simp] theorem kk_mandT_0 (md : MT) (ρ : En) (c : Bool) (ρ1 : En) : k_mandT_0 md ρ (some (c, ρ1)) = (iteS md (fun ρ => some (false, ρ)) c ρ1) := rfl
@[simp] theorem ev_mandT (mc : MT) (md : MT) (ρ : En) : mandT mc md ρ = k_mandT_0 md ρ (mc ρ) := by
  unfold mandT
  cases h0 : mc ρ with
  | none => simp only [Option.bind, Option.map, h0, k_mandT_0]
  | some p0 =>
    obtain ⟨c, ρ1⟩ := p0
    simp only [Option.bind, Option.map, h0, k_mandT_0]
    cases c <;> simp [iteS]
def k_morT_0 (md : MT) (ρ : En) : Option (Bool × En) → Option (Bool × En)
  | some (c, ρ1) => iteS (fun ρ => some (true, ρ)) md c ρ1
  | none => none
@[simp] theorem kk_morT_0 (md : MT) (ρ : En) (c : Bool) (ρ1 : En) : k_morT_0 md ρ (some (c, ρ1)) = (iteS (fun ρ => some (true, ρ)) md c ρ1) := rfl
@[simp] theorem ev_morT (mc : MT) (md : MT) (ρ : En) : morT mc md ρ = k_morT_0 md ρ (mc ρ) := by
  unfold morT
  cases h0 : mc ρ with
  | none => simp only [Option.bind, Option.map, h0, k_morT_0]
  | some p0 =>
    obtain ⟨c, ρ1⟩ := p0
    simp only [Option.bind, Option.map, h0, k_morT_0]
    cases c <;> simp [iteS]
def k_mandV_1 (mb : ME) (ρ : En) (ρ1 : En) : Option (Bool) → Option (R × En)
  | some c => iteS mb (fun ρ => some (.dat (.bool false), ρ)) c ρ1
  | none => none
@[simp] theorem kk_mandV_1 (mb : ME) (ρ : En) (ρ1 : En) (c : Bool) : k_mandV_1 mb ρ ρ1 (some c) = (iteS mb (fun ρ => some (.dat (.bool false), ρ)) c ρ1) := rfl
def k_mandV_0 (mb : ME) (ρ : En) : Option (R × En) → Option (R × En)
  | some (x, ρ1) => k_mandV_1 mb ρ ρ1 (boolR x)
  | none => none
@[simp] theorem kk_mandV_0 (mb : ME) (ρ : En) (x : R) (ρ1 : En) : k_mandV_0 mb ρ (some (x, ρ1)) = (k_mandV_1 mb ρ ρ1 (boolR x)) := rfl
@[simp] theorem ev_mandV (ma : ME) (mb : ME) (ρ : En) : mandV ma mb ρ = k_mandV_0 mb ρ (ma ρ) := by
  unfold mandV
  cases h0 : ma ρ with
  | none => simp only [Option.bind, Option.map, h0, k_mandV_0, k_mandV_1]
  | some p0 =>
    obtain ⟨x, ρ1⟩ := p0
    cases h1 : boolR x with
    | none => simp only [Option.bind, Option.map, h0, h1, k_mandV_0, k_mandV_1]
    | some c =>
      simp only [Option.bind, Option.map, h0, h1, k_mandV_0, k_mandV_1]
      cases c <;> simp [iteS]
def k_morV_1 (mb : ME) (ρ : En) (ρ1 : En) : Option (Bool) → Option (R × En)
  | some c => iteS (fun ρ => some (.dat (.bool true), ρ)) mb c ρ1
  | none => none
@[simp] theorem kk_morV_1 (mb : ME) (ρ : En) (ρ1 : En) (c : Bool) : k_morV_1 mb ρ ρ1 (some c) = (iteS (fun ρ => some (.dat (.bool true), ρ)) mb c ρ1) := rfl
def k_morV_0 (mb : ME) (ρ : En) : Option (R × En) → Option (R × En)
  | some (x, ρ1) => k_morV_1 mb ρ ρ1 (boolR x)
  | none => none
@[simp] theorem kk_morV_0 (mb : ME) (ρ : En) (x : R) (ρ1 : En) : k_morV_0 mb ρ (some (x, ρ1)) = (k_morV_1 mb ρ ρ1 (boolR x)) := rfl
@[simp] theorem ev_morV (ma : ME) (mb : ME) (ρ : En) : morV ma mb ρ = k_morV_0 mb ρ (ma ρ) := by
  unfold morV
  cases h0 : ma ρ with
  | none => simp only [Option.bind, Option.map, h0, k_morV_0, k_morV_1]
  | some p0 =>
    obtain ⟨x, ρ1⟩ := p0
    cases h1 : boolR x with
    | none => simp only [Option.bind, Option.map, h0, h1, k_morV_0, k_morV_1]
    | some c =>
      simp only [Option.bind, Option.map, h0, h1, k_morV_0, k_morV_1]
      cases c <;> simp [iteS]
def k_mcall_4 (rs : List R) (ρ1 : En) (r : R) (outs : List A) : Option (Unit) → Option (R × En)
  | some u2 => some (r, back ρ1 rs outs)
  | none => none
@[simp] theorem kk_mcall_4 (rs : List R) (ρ1 : En) (r : R) (outs : List A) (u2 : Unit) : k_mcall_4 rs ρ1 r outs (some u2) = (some (r, back ρ1 rs outs)) := rfl
def k_mcall_3 (rs : List R) (ρ1 : En) (as : List A) : Option (R × List A) → Option (R × En)
  | some (r, outs) => k_mcall_4 rs ρ1 r outs (guardO (decide (as.map isBx = outs.map isBx)))
  | none => none
@[simp] theorem kk_mcall_3 (rs : List R) (ρ1 : En) (as : List A) (r : R) (outs : List A) : k_mcall_3 rs ρ1 as (some (r, outs)) = (k_mcall_4 rs ρ1 r outs (guardO (decide (as.map isBx = outs.map isBx)))) := rfl
def k_mcall_2 (mf : MF) (rs : List R) (ρ1 : En) (as : List A) : Option (Unit) → Option (R × En)
  | some u => k_mcall_3 rs ρ1 as (mf as)
  | none => none
@[simp] theorem kk_mcall_2 (mf : MF) (rs : List R) (ρ1 : En) (as : List A) (u : Unit) : k_mcall_2 mf rs ρ1 as (some u) = (k_mcall_3 rs ρ1 as (mf as)) := rfl
def k_mcall_1 (mf : MF) (rs : List R) (ρ1 : En) : Option (List A) → Option (R × En)
  | some as => k_mcall_2 mf rs ρ1 as (guardO (decide (bxIx ρ1 rs).Nodup))
  | none => none
@[simp] theorem kk_mcall_1 (mf : MF) (rs : List R) (ρ1 : En) (as : List A) : k_mcall_1 mf rs ρ1 (some as) = (k_mcall_2 mf rs ρ1 as (guardO (decide (bxIx ρ1 rs).Nodup))) := rfl
def k_mcall_0 (mf : MF) : Option (List R × En) → Option (R × En)
  | some (rs, ρ1) => k_mcall_1 mf rs ρ1 (argAs ρ1 rs)
  | none => none
@[simp] theorem kk_mcall_0 (mf : MF) (rs : List R) (ρ1 : En) : k_mcall_0 mf (some (rs, ρ1)) = (k_mcall_1 mf rs ρ1 (argAs ρ1 rs)) := rfl
@[simp] theorem ev_mcall (mf : MF) (ms : MA) (ρ : En) : mcall mf ms ρ = k_mcall_0 mf (ms ρ) := by
  unfold mcall
  cases h0 : ms ρ with
  | none => simp only [Option.bind, Option.map, h0, k_mcall_0, k_mcall_1, k_mcall_2, k_mcall_3, k_mcall_4]
  | some p0 =>
    obtain ⟨rs, ρ1⟩ := p0
    cases h1 : argAs ρ1 rs with
    | none => simp only [Option.bind, Option.map, h0, h1, k_mcall_0, k_mcall_1, k_mcall_2, k_mcall_3, k_mcall_4]
    | some as =>
      cases h2 : guardO (decide (bxIx ρ1 rs).Nodup) with
      | none => simp only [Option.bind, Option.map, h0, h1, h2, k_mcall_0, k_mcall_1, k_mcall_2, k_mcall_3, k_mcall_4]
      | some u =>
        cases h3 : mf as with
        | none => simp only [Option.bind, Option.map, h0, h1, h2, h3, k_mcall_0, k_mcall_1, k_mcall_2, k_mcall_3, k_mcall_4]
        | some p3 =>
          obtain ⟨r, outs⟩ := p3
          cases h4 : guardO (decide (as.map isBx = outs.map isBx)) with
          | none => simp only [Option.bind, Option.map, h0, h1, h2, h3, h4, k_mcall_0, k_mcall_1, k_mcall_2, k_mcall_3, k_mcall_4]
          | some u2 =>
            simp only [Option.bind, Option.map, h0, h1, h2, h3, h4, k_mcall_0, k_mcall_1, k_mcall_2, k_mcall_3, k_mcall_4]
def k_masg_1 (i : Nat) (x : R) (ρ1 : En) : Option (Unit) → Option (O × En)
  | some u => stoO (stoR ρ1 i x)
  | none => none
@[simp] theorem kk_masg_1 (i : Nat) (x : R) (ρ1 : En) (u : Unit) : k_masg_1 i x ρ1 (some u) = (stoO (stoR ρ1 i x)) := rfl
def k_masg_0 (i : Nat) : Option (R × En) → Option (O × En)
  | some (x, ρ1) => k_masg_1 i x ρ1 (guardO (notBor ρ1 i))
  | none => none
@[simp] theorem kk_masg_0 (i : Nat) (x : R) (ρ1 : En) : k_masg_0 i (some (x, ρ1)) = (k_masg_1 i x ρ1 (guardO (notBor ρ1 i))) := rfl
@[simp] theorem ev_masg (i : Nat) (m : ME) (ρ : En) : masg i m ρ = k_masg_0 i (m ρ) := by
  unfold masg
  cases h0 : m ρ with
  | none => simp only [Option.bind, Option.map, h0, k_masg_0, k_masg_1]
  | some p0 =>
    obtain ⟨x, ρ1⟩ := p0
    cases h1 : guardO (notBor ρ1 i) with
    | none => simp only [Option.bind, Option.map, h0, h1, k_masg_0, k_masg_1]
    | some u =>
      simp only [Option.bind, Option.map, h0, h1, k_masg_0, k_masg_1]
      cases stoR ρ1 i x <;> simp [stoO]
def k_mdrop_0  : Option (R × En) → Option (O × En)
  | some (x, ρ1) => some (.nx, ρ1)
  | none => none
@[simp] theorem kk_mdrop_0 (x : R) (ρ1 : En) : k_mdrop_0  (some (x, ρ1)) = (some (.nx, ρ1)) := rfl
@[simp] theorem ev_mdrop (m : ME) (ρ : En) : mdrop m ρ = k_mdrop_0  (m ρ) := by
  unfold mdrop
  cases h0 : m ρ with
  | none => simp only [Option.bind, Option.map, h0, k_mdrop_0]
  | some p0 =>
    obtain ⟨x, ρ1⟩ := p0
    simp only [Option.bind, Option.map, h0, k_mdrop_0]
def k_mret_0  : Option (R × En) → Option (O × En)
  | some (x, ρ1) => retR ρ1 x
  | none => none
@[simp] theorem kk_mret_0 (x : R) (ρ1 : En) : k_mret_0  (some (x, ρ1)) = (retR ρ1 x) := rfl
@[simp] theorem ev_mret (m : ME) (ρ : En) : mret m ρ = k_mret_0  (m ρ) := by
  unfold mret
  cases h0 : m ρ with
  | none => simp only [Option.bind, Option.map, h0, k_mret_0]
  | some p0 =>
    obtain ⟨x, ρ1⟩ := p0
    simp only [Option.bind, Option.map, h0, k_mret_0]
    cases x with
    | dat d => rfl
    | new b => rfl
    | ref i =>
      dsimp only [retR]
      cases ρ1[i]?.join with
      | none => rfl
      | some a => cases a with
        | dat d => rfl
        | box o b => cases o <;> rfl
def k_mseq_0 (b : MS) : Option (O × En) → Option (O × En)
  | some (o, ρ1) => seqO b o ρ1
  | none => none
@[simp] theorem kk_mseq_0 (b : MS) (o : O) (ρ1 : En) : k_mseq_0 b (some (o, ρ1)) = (seqO b o ρ1) := rfl
@[simp] theorem ev_mseq (a : MS) (b : MS) (ρ : En) : mseq a b ρ = k_mseq_0 b (a ρ) := by
  unfold mseq
  cases h0 : a ρ with
  | none => simp only [Option.bind, Option.map, h0, k_mseq_0]
  | some p0 =>
    obtain ⟨o, ρ1⟩ := p0
    simp only [Option.bind, Option.map, h0, k_mseq_0]
    cases o <;> simp [seqO]
def k_mifS_0 (a : MS) (b : MS) : Option (Bool × En) → Option (O × En)
  | some (c, ρ1) => iteS a b c ρ1
  | none => none
@[simp] theorem kk_mifS_0 (a : MS) (b : MS) (c : Bool) (ρ1 : En) : k_mifS_0 a b (some (c, ρ1)) = (iteS a b c ρ1) := rfl
@[simp] theorem ev_mifS (mt : MT) (a : MS) (b : MS) (ρ : En) : mifS mt a b ρ = k_mifS_0 a b (mt ρ) := by
  unfold mifS
  cases h0 : mt ρ with
  | none => simp only [Option.bind, Option.map, h0, k_mifS_0]
  | some p0 =>
    obtain ⟨c, ρ1⟩ := p0
    simp only [Option.bind, Option.map, h0, k_mifS_0]
    cases c <;> simp [iteS]
def k_miseq_0  : Option (R × En) → Option (It3 × En)
  | some (x, ρ1) => seqR ρ1 x
  | none => none
@[simp] theorem kk_miseq_0 (x : R) (ρ1 : En) : k_miseq_0  (some (x, ρ1)) = (seqR ρ1 x) := rfl
@[simp] theorem ev_miseq (m : ME) (ρ : En) : miseq m ρ = k_miseq_0  (m ρ) := by
  unfold miseq
  cases h0 : m ρ with
  | none => simp only [Option.bind, Option.map, h0, k_miseq_0]
  | some p0 =>
    obtain ⟨x, ρ1⟩ := p0
    simp only [Option.bind, Option.map, h0, k_miseq_0]
    have hm : ∀ (ρ : En) (o : Option (List D)), o.map (fun ds => (It3.items ds, ρ)) = seqItems ρ o := fun ρ o => by cases o <;> rfl
    cases x with
    | dat d => exact hm _ _
    | new b => exact hm _ _
    | ref i =>
      dsimp only [seqR]
      cases ρ1[i]?.join with
      | none => rfl
      | some a => cases a with
        | dat d => exact hm _ _
        | box o b => cases o <;> cases b <;> first | rfl | exact hm _ _
def k_miseqC_0  : Option (R × En) → Option (It3 × En)
  | some (x, ρ1) => seqRC ρ1 x
  | none => none
@[simp] theorem kk_miseqC_0 (x : R) (ρ1 : En) : k_miseqC_0  (some (x, ρ1)) = (seqRC ρ1 x) := rfl
@[simp] theorem ev_miseqC (m : ME) (ρ : En) : miseqC m ρ = k_miseqC_0  (m ρ) := by
  unfold miseqC
  cases h0 : m ρ with
  | none => simp only [Option.bind, Option.map, h0, k_miseqC_0]
  | some p0 =>
    obtain ⟨x, ρ1⟩ := p0
    simp only [Option.bind, Option.map, h0, k_miseqC_0]
    have hm : ∀ (ρ : En) (o : Option (List D)), o.map (fun ds => (It3.items ds, ρ)) = seqItems ρ o := fun ρ o => by cases o <;> rfl
    cases x with
    | dat d => exact hm _ _
    | new b => exact hm _ _
    | ref i =>
      dsimp only [seqRC]
      cases ρ1[i]?.join with
      | none => rfl
      | some a => cases a with
        | dat d => exact hm _ _
        | box o b => cases o <;> cases b <;> first | rfl | exact hm _ _
def k_mirng1_0  : Option (List R × En) → Option (It3 × En)
  | some (rs, ρ1) => rng1 ρ1 rs
  | none => none
@[simp] theorem kk_mirng1_0 (rs : List R) (ρ1 : En) : k_mirng1_0  (some (rs, ρ1)) = (rng1 ρ1 rs) := rfl
@[simp] theorem ev_mirng1 (ms : MA) (ρ : En) : mirng1 ms ρ = k_mirng1_0  (ms ρ) := by
  unfold mirng1
  cases h0 : ms ρ with
  | none => simp only [Option.bind, Option.map, h0, k_mirng1_0]
  | some p0 =>
    obtain ⟨rs, ρ1⟩ := p0
    simp only [Option.bind, Option.map, h0, k_mirng1_0]
    cases rs with
    | nil => rfl
    | cons r t => cases t <;> rfl
def k_mfor_0 (g : MG) (b : MS) : Option (It3 × En) → Option (O × En)
  | some (it, ρ1) => forT g b it ρ1
  | none => none
@[simp] theorem kk_mfor_0 (g : MG) (b : MS) (it : It3) (ρ1 : En) : k_mfor_0 g b (some (it, ρ1)) = (forT g b it ρ1) := rfl
@[simp] theorem ev_mfor (mi : MI) (g : MG) (b : MS) (ρ : En) : mfor mi g b ρ = k_mfor_0 g b (mi ρ) := by
  unfold mfor
  cases h0 : mi ρ with
  | none => simp only [Option.bind, Option.map, h0, k_mfor_0]
  | some p0 =>
    obtain ⟨it, ρ1⟩ := p0
    simp only [Option.bind, Option.map, h0, k_mfor_0]
    cases it <;> simp [forT]
def k_mlc_1 (g : MG) (t : MT) (m : ME) (vs : List Nat) (it : It3) (ρ1 : En) : Option (Unit) → Option (R × En)
  | some u => lcT g t m vs it ρ1
  | none => none
@[simp] theorem kk_mlc_1 (g : MG) (t : MT) (m : ME) (vs : List Nat) (it : It3) (ρ1 : En) (u : Unit) : k_mlc_1 g t m vs it ρ1 (some u) = (lcT g t m vs it ρ1) := rfl
def k_mlc_0 (g : MG) (t : MT) (m : ME) (vs : List Nat) : Option (It3 × En) → Option (R × En)
  | some (it, ρ1) => k_mlc_1 g t m vs it ρ1 (guardO (noBx ρ1 vs))
  | none => none
@[simp] theorem kk_mlc_0 (g : MG) (t : MT) (m : ME) (vs : List Nat) (it : It3) (ρ1 : En) : k_mlc_0 g t m vs (some (it, ρ1)) = (k_mlc_1 g t m vs it ρ1 (guardO (noBx ρ1 vs))) := rfl
@[simp] theorem ev_mlc (mi : MI) (g : MG) (t : MT) (m : ME) (vs : List Nat) (ρ : En) : mlc mi g t m vs ρ = k_mlc_0 g t m vs (mi ρ) := by
  unfold mlc
  cases h0 : mi ρ with
  | none => simp only [Option.bind, Option.map, h0, k_mlc_0, k_mlc_1]
  | some p0 =>
    obtain ⟨it, ρ1⟩ := p0
    cases h1 : guardO (noBx ρ1 vs) with
    | none => simp only [Option.bind, Option.map, h0, h1, k_mlc_0, k_mlc_1]
    | some u =>
      simp only [Option.bind, Option.map, h0, h1, k_mlc_0, k_mlc_1]
      cases it with
      | items ds => simp only [lcT]; cases mlcI g t m vs ds [] (wipeE ρ1 vs) <;> rfl
      | slot i ds => simp only [lcT]; cases guardO (decide (i ∉ vs)) with
        | none => rfl
        | some u => cases mlcS i g t m vs ds 0 [] (wipeE ρ1 vs) <;> rfl
def k_mmut_5 (i : Nat) (ρ2 : En) (o : Bool) : Option (D × Bx) → Option (R × En)
  | some (d, b2) => some (.dat d, ρ2.set i (some (.box o b2)))
  | none => none
@[simp] theorem kk_mmut_5 (i : Nat) (ρ2 : En) (o : Bool) (d : D) (b2 : Bx) : k_mmut_5 i ρ2 o (some (d, b2)) = (some (.dat d, ρ2.set i (some (.box o b2)))) := rfl
def k_mmut_4 (i : Nat) (gm : Bx → List D → Option (D × Bx)) (ds : List D) (ρ2 : En) : Option (Bool × Bx) → Option (R × En)
  | some (o, b1) => k_mmut_5 i ρ2 o (gm b1 ds)
  | none => none
@[simp] theorem kk_mmut_4 (i : Nat) (gm : Bx → List D → Option (D × Bx)) (ds : List D) (ρ2 : En) (o : Bool) (b1 : Bx) : k_mmut_4 i gm ds ρ2 (some (o, b1)) = (k_mmut_5 i ρ2 o (gm b1 ds)) := rfl
def k_mmut_3 (i : Nat) (gm : Bx → List D → Option (D × Bx)) : Option (List D × En) → Option (R × En)
  | some (ds, ρ2) => k_mmut_4 i gm ds ρ2 (bxAt ρ2 i)
  | none => none
@[simp] theorem kk_mmut_3 (i : Nat) (gm : Bx → List D → Option (D × Bx)) (ds : List D) (ρ2 : En) : k_mmut_3 i gm (some (ds, ρ2)) = (k_mmut_4 i gm ds ρ2 (bxAt ρ2 i)) := rfl
def k_mmut_2 (i : Nat) (gm : Bx → List D → Option (D × Bx)) : Option (List R × En) → Option (R × En)
  | some (rs, ρ1) => k_mmut_3 i gm (fzs ρ1 rs)
  | none => none
@[simp] theorem kk_mmut_2 (i : Nat) (gm : Bx → List D → Option (D × Bx)) (rs : List R) (ρ1 : En) : k_mmut_2 i gm (some (rs, ρ1)) = (k_mmut_3 i gm (fzs ρ1 rs)) := rfl
def k_mmut_1 (i : Nat) (gm : Bx → List D → Option (D × Bx)) (ms : MA) (ρ : En) : Option (Unit) → Option (R × En)
  | some u => k_mmut_2 i gm (ms ρ)
  | none => none
@[simp] theorem kk_mmut_1 (i : Nat) (gm : Bx → List D → Option (D × Bx)) (ms : MA) (ρ : En) (u : Unit) : k_mmut_1 i gm ms ρ (some u) = (k_mmut_2 i gm (ms ρ)) := rfl
def k_mmut_0 (T : String) (i : Nat) (gm : Bx → List D → Option (D × Bx)) (ms : MA) (ρ : En) : Option (Bool × Bx) → Option (R × En)
  | some (o0, b0) => k_mmut_1 i gm ms ρ (guardO (tyD T b0.dat))
  | none => none
@[simp] theorem kk_mmut_0 (T : String) (i : Nat) (gm : Bx → List D → Option (D × Bx)) (ms : MA) (ρ : En) (o0 : Bool) (b0 : Bx) : k_mmut_0 T i gm ms ρ (some (o0, b0)) = (k_mmut_1 i gm ms ρ (guardO (tyD T b0.dat))) := rfl
@[simp] theorem ev_mmut (T : String) (i : Nat) (gm : Bx → List D → Option (D × Bx)) (ms : MA) (ρ : En) : mmut T i gm ms ρ = k_mmut_0 T i gm ms ρ (bxAt ρ i) := by
  unfold mmut
  cases h0 : bxAt ρ i with
  | none => simp only [Option.bind, Option.map, h0, k_mmut_0, k_mmut_1, k_mmut_2, k_mmut_3, k_mmut_4, k_mmut_5]
  | some p0 =>
    obtain ⟨o0, b0⟩ := p0
    cases h1 : guardO (tyD T b0.dat) with
    | none => simp only [Option.bind, Option.map, h0, h1, k_mmut_0, k_mmut_1, k_mmut_2, k_mmut_3, k_mmut_4, k_mmut_5]
    | some u =>
      cases h2 : ms ρ with
      | none => simp only [Option.bind, Option.map, h0, h1, h2, k_mmut_0, k_mmut_1, k_mmut_2, k_mmut_3, k_mmut_4, k_mmut_5]
      | some p2 =>
        obtain ⟨rs, ρ1⟩ := p2
        cases h3 : fzs ρ1 rs with
        | none => simp only [Option.bind, Option.map, h0, h1, h2, h3, k_mmut_0, k_mmut_1, k_mmut_2, k_mmut_3, k_mmut_4, k_mmut_5]
        | some p3 =>
          obtain ⟨ds, ρ2⟩ := p3
          cases h4 : bxAt ρ2 i with
          | none => simp only [Option.bind, Option.map, h0, h1, h2, h3, h4, k_mmut_0, k_mmut_1, k_mmut_2, k_mmut_3, k_mmut_4, k_mmut_5]
          | some p4 =>
            obtain ⟨o, b1⟩ := p4
            cases h5 : gm b1 ds with
            | none => simp only [Option.bind, Option.map, h0, h1, h2, h3, h4, h5, k_mmut_0, k_mmut_1, k_mmut_2, k_mmut_3, k_mmut_4, k_mmut_5]
            | some p5 =>
              obtain ⟨d, b2⟩ := p5
              simp only [Option.bind, Option.map, h0, h1, h2, h3, h4, h5, k_mmut_0, k_mmut_1, k_mmut_2, k_mmut_3, k_mmut_4, k_mmut_5]
def k_mpar_2 (i : Nat) (j : Nat) (x : R) (y : R) (ρ2 : En) : Option (Unit) → Option (O × En)
  | some u => parR i j ρ2 x y
  | none => none
@[simp] theorem kk_mpar_2 (i : Nat) (j : Nat) (x : R) (y : R) (ρ2 : En) (u : Unit) : k_mpar_2 i j x y ρ2 (some u) = (parR i j ρ2 x y) := rfl
def k_mpar_1 (i : Nat) (j : Nat) (x : R) : Option (R × En) → Option (O × En)
  | some (y, ρ2) => k_mpar_2 i j x y ρ2 (guardO (notBor ρ2 i && notBor ρ2 j))
  | none => none
@[simp] theorem kk_mpar_1 (i : Nat) (j : Nat) (x : R) (y : R) (ρ2 : En) : k_mpar_1 i j x (some (y, ρ2)) = (k_mpar_2 i j x y ρ2 (guardO (notBor ρ2 i && notBor ρ2 j))) := rfl
def k_mpar_0 (i : Nat) (j : Nat) (mb : ME) : Option (R × En) → Option (O × En)
  | some (x, ρ1) => k_mpar_1 i j x (mb ρ1)
  | none => none
@[simp] theorem kk_mpar_0 (i : Nat) (j : Nat) (mb : ME) (x : R) (ρ1 : En) : k_mpar_0 i j mb (some (x, ρ1)) = (k_mpar_1 i j x (mb ρ1)) := rfl
@[simp] theorem ev_mpar (i : Nat) (j : Nat) (ma : ME) (mb : ME) (ρ : En) : mpar i j ma mb ρ = k_mpar_0 i j mb (ma ρ) := by
  unfold mpar
  cases h0 : ma ρ with
  | none => simp only [Option.bind, Option.map, h0, k_mpar_0, k_mpar_1, k_mpar_2]
  | some p0 =>
    obtain ⟨x, ρ1⟩ := p0
    cases h1 : mb ρ1 with
    | none => simp only [Option.bind, Option.map, h0, h1, k_mpar_0, k_mpar_1, k_mpar_2]
    | some p1 =>
      obtain ⟨y, ρ2⟩ := p1
      cases h2 : guardO (notBor ρ2 i && notBor ρ2 j) with
      | none => simp only [Option.bind, Option.map, h0, h1, h2, k_mpar_0, k_mpar_1, k_mpar_2]
      | some u =>
        simp only [Option.bind, Option.map, h0, h1, h2, k_mpar_0, k_mpar_1, k_mpar_2]
        have hm : ∀ (r r' : R), ((stoR ρ2 i r).bind fun ρ1 => (stoR ρ1 j r').map fun ρ2 => (O.nx, ρ2)) = stoO ((stoR ρ2 i r).bind fun ρ1 => stoR ρ1 j r') := fun r r' => by
          cases stoR ρ2 i r with
          | none => rfl
          | some ρ3 => show (stoR ρ3 j r').map _ = stoO (stoR ρ3 j r'); cases stoR ρ3 j r' <;> rfl
        cases x <;> cases y <;> first | rfl | exact hm _ _
def k_masgG_1 (g : MG) : Option (List D × En) → Option (O × En)
  | some (ds, ρ2) => asgG g ρ2 ds
  | none => none
@[simp] theorem kk_masgG_1 (g : MG) (ds : List D) (ρ2 : En) : k_masgG_1 g (some (ds, ρ2)) = (asgG g ρ2 ds) := rfl
def k_masgG_0 (g : MG) : Option (R × En) → Option (O × En)
  | some (x, ρ1) => k_masgG_1 g (fzs ρ1 [x.fz])
  | none => none
@[simp] theorem kk_masgG_0 (g : MG) (x : R) (ρ1 : En) : k_masgG_0 g (some (x, ρ1)) = (k_masgG_1 g (fzs ρ1 [x.fz])) := rfl
@[simp] theorem ev_masgG (g : MG) (m : ME) (ρ : En) : masgG g m ρ = k_masgG_0 g (m ρ) := by
  unfold masgG
  cases h0 : m ρ with
  | none => simp only [Option.bind, Option.map, h0, k_masgG_0, k_masgG_1]
  | some p0 =>
    obtain ⟨x, ρ1⟩ := p0
    cases h1 : fzs ρ1 [x.fz] with
    | none => simp only [Option.bind, Option.map, h0, h1, k_masgG_0, k_masgG_1]
    | some p1 =>
      obtain ⟨ds, ρ2⟩ := p1
      simp only [Option.bind, Option.map, h0, h1, k_masgG_0, k_masgG_1]
      cases ds with
      | nil => rfl
      | cons d t => cases t with
        | nil => show (g d ρ2).map _ = stoO (g d ρ2); cases g d ρ2 <;> rfl
        | cons _ _ => rfl
def k_mputD_9 (s : Nat) (d : D) (ρ3 : En) (k : L2.Key) (o : Bool) (kvs : List (L2.Key × D)) : Option (Unit) → Option (O × En)
  | some u => some (.nx, ρ3.set s (some (.box o (.dic (putKD kvs k d)))))
  | none => none
@[simp] theorem kk_mputD_9 (s : Nat) (d : D) (ρ3 : En) (k : L2.Key) (o : Bool) (kvs : List (L2.Key × D)) (u : Unit) : k_mputD_9 s d ρ3 k o kvs (some u) = (some (.nx, ρ3.set s (some (.box o (.dic (putKD kvs k d)))))) := rfl
def k_mputD_8 (s : Nat) (d : D) (ρ3 : En) (k : L2.Key) (o : Bool) : Option (List (L2.Key × D)) → Option (O × En)
  | some kvs => k_mputD_9 s d ρ3 k o kvs (guardO (decide (kvs.length < sizeLine)))
  | none => none
@[simp] theorem kk_mputD_8 (s : Nat) (d : D) (ρ3 : En) (k : L2.Key) (o : Bool) (kvs : List (L2.Key × D)) : k_mputD_8 s d ρ3 k o (some kvs) = (k_mputD_9 s d ρ3 k o kvs (guardO (decide (kvs.length < sizeLine)))) := rfl
def k_mputD_7 (s : Nat) (d : D) (ρ3 : En) (k : L2.Key) : Option (Bool × Bx) → Option (O × En)
  | some (o, b1) => k_mputD_8 s d ρ3 k o (dicOf b1)
  | none => none
@[simp] theorem kk_mputD_7 (s : Nat) (d : D) (ρ3 : En) (k : L2.Key) (o : Bool) (b1 : Bx) : k_mputD_7 s d ρ3 k (some (o, b1)) = (k_mputD_8 s d ρ3 k o (dicOf b1)) := rfl
def k_mputD_6 (s : Nat) (d : D) (ρ3 : En) : Option (L2.Key) → Option (O × En)
  | some k => k_mputD_7 s d ρ3 k (bxAt ρ3 s)
  | none => none
@[simp] theorem kk_mputD_6 (s : Nat) (d : D) (ρ3 : En) (k : L2.Key) : k_mputD_6 s d ρ3 (some k) = (k_mputD_7 s d ρ3 k (bxAt ρ3 s)) := rfl
def k_mputD_5 (s : Nat) (d : D) (ρ3 : En) : Option (D) → Option (O × En)
  | some dk => k_mputD_6 s d ρ3 (keyD dk)
  | none => none
@[simp] theorem kk_mputD_5 (s : Nat) (d : D) (ρ3 : En) (dk : D) : k_mputD_5 s d ρ3 (some dk) = (k_mputD_6 s d ρ3 (keyD dk)) := rfl
def k_mputD_4 (s : Nat) (d : D) : Option (R × En) → Option (O × En)
  | some (z, ρ3) => k_mputD_5 s d ρ3 (z.fz.vw ρ3)
  | none => none
@[simp] theorem kk_mputD_4 (s : Nat) (d : D) (z : R) (ρ3 : En) : k_mputD_4 s d (some (z, ρ3)) = (k_mputD_5 s d ρ3 (z.fz.vw ρ3)) := rfl
def k_mputD_3 (s : Nat) (mk : ME) (ρ2 : En) (d : D) : Option (Bool × Bx) → Option (O × En)
  | some (o0, b0) => k_mputD_4 s d (mk ρ2)
  | none => none
@[simp] theorem kk_mputD_3 (s : Nat) (mk : ME) (ρ2 : En) (d : D) (o0 : Bool) (b0 : Bx) : k_mputD_3 s mk ρ2 d (some (o0, b0)) = (k_mputD_4 s d (mk ρ2)) := rfl
def k_mputD_2 (s : Nat) (mk : ME) (ρ2 : En) : Option (D) → Option (O × En)
  | some d => k_mputD_3 s mk ρ2 d (bxAt ρ2 s)
  | none => none
@[simp] theorem kk_mputD_2 (s : Nat) (mk : ME) (ρ2 : En) (d : D) : k_mputD_2 s mk ρ2 (some d) = (k_mputD_3 s mk ρ2 d (bxAt ρ2 s)) := rfl
def k_mputD_1 (s : Nat) (mk : ME) : Option (List D × En) → Option (O × En)
  | some (ds, ρ2) => k_mputD_2 s mk ρ2 (oneOf ds)
  | none => none
@[simp] theorem kk_mputD_1 (s : Nat) (mk : ME) (ds : List D) (ρ2 : En) : k_mputD_1 s mk (some (ds, ρ2)) = (k_mputD_2 s mk ρ2 (oneOf ds)) := rfl
def k_mputD_0 (s : Nat) (mk : ME) : Option (R × En) → Option (O × En)
  | some (x, ρ1) => k_mputD_1 s mk (fzs ρ1 [x.fz])
  | none => none
@[simp] theorem kk_mputD_0 (s : Nat) (mk : ME) (x : R) (ρ1 : En) : k_mputD_0 s mk (some (x, ρ1)) = (k_mputD_1 s mk (fzs ρ1 [x.fz])) := rfl
@[simp] theorem ev_mputD (s : Nat) (mk : ME) (mv : ME) (ρ : En) : mputD s mk mv ρ = k_mputD_0 s mk (mv ρ) := by
  unfold mputD
  cases h0 : mv ρ with
  | none => simp only [Option.bind, Option.map, h0, k_mputD_0, k_mputD_1, k_mputD_2, k_mputD_3, k_mputD_4, k_mputD_5, k_mputD_6, k_mputD_7, k_mputD_8, k_mputD_9]
  | some p0 =>
    obtain ⟨x, ρ1⟩ := p0
    cases h1 : fzs ρ1 [x.fz] with
    | none => simp only [Option.bind, Option.map, h0, h1, k_mputD_0, k_mputD_1, k_mputD_2, k_mputD_3, k_mputD_4, k_mputD_5, k_mputD_6, k_mputD_7, k_mputD_8, k_mputD_9]
    | some p1 =>
      obtain ⟨ds, ρ2⟩ := p1
      cases h2 : oneOf ds with
      | none => simp only [Option.bind, Option.map, h0, h1, h2, k_mputD_0, k_mputD_1, k_mputD_2, k_mputD_3, k_mputD_4, k_mputD_5, k_mputD_6, k_mputD_7, k_mputD_8, k_mputD_9]
      | some d =>
        cases h3 : bxAt ρ2 s with
        | none => simp only [Option.bind, Option.map, h0, h1, h2, h3, k_mputD_0, k_mputD_1, k_mputD_2, k_mputD_3, k_mputD_4, k_mputD_5, k_mputD_6, k_mputD_7, k_mputD_8, k_mputD_9]
        | some p3 =>
          obtain ⟨o0, b0⟩ := p3
          cases h4 : mk ρ2 with
          | none => simp only [Option.bind, Option.map, h0, h1, h2, h3, h4, k_mputD_0, k_mputD_1, k_mputD_2, k_mputD_3, k_mputD_4, k_mputD_5, k_mputD_6, k_mputD_7, k_mputD_8, k_mputD_9]
          | some p4 =>
            obtain ⟨z, ρ3⟩ := p4
            cases h5 : z.fz.vw ρ3 with
            | none => simp only [Option.bind, Option.map, h0, h1, h2, h3, h4, h5, k_mputD_0, k_mputD_1, k_mputD_2, k_mputD_3, k_mputD_4, k_mputD_5, k_mputD_6, k_mputD_7, k_mputD_8, k_mputD_9]
            | some dk =>
              cases h6 : keyD dk with
              | none => simp only [Option.bind, Option.map, h0, h1, h2, h3, h4, h5, h6, k_mputD_0, k_mputD_1, k_mputD_2, k_mputD_3, k_mputD_4, k_mputD_5, k_mputD_6, k_mputD_7, k_mputD_8, k_mputD_9]
              | some k =>
                cases h7 : bxAt ρ3 s with
                | none => simp only [Option.bind, Option.map, h0, h1, h2, h3, h4, h5, h6, h7, k_mputD_0, k_mputD_1, k_mputD_2, k_mputD_3, k_mputD_4, k_mputD_5, k_mputD_6, k_mputD_7, k_mputD_8, k_mputD_9]
                | some p7 =>
                  obtain ⟨o, b1⟩ := p7
                  cases h8 : dicOf b1 with
                  | none => simp only [Option.bind, Option.map, h0, h1, h2, h3, h4, h5, h6, h7, h8, k_mputD_0, k_mputD_1, k_mputD_2, k_mputD_3, k_mputD_4, k_mputD_5, k_mputD_6, k_mputD_7, k_mputD_8, k_mputD_9]
                  | some kvs =>
                    cases h9 : guardO (decide (kvs.length < sizeLine)) with
                    | none => simp only [Option.bind, Option.map, h0, h1, h2, h3, h4, h5, h6, h7, h8, h9, k_mputD_0, k_mputD_1, k_mputD_2, k_mputD_3, k_mputD_4, k_mputD_5, k_mputD_6, k_mputD_7, k_mputD_8, k_mputD_9]
                    | some u =>
                      simp only [Option.bind, Option.map, h0, h1, h2, h3, h4, h5, h6, h7, h8, h9, k_mputD_0, k_mputD_1, k_mputD_2, k_mputD_3, k_mputD_4, k_mputD_5, k_mputD_6, k_mputD_7, k_mputD_8, k_mputD_9]
def k_mputL_8 (s : Nat) (d : D) (ρ3 : En) (o : Bool) (xs : List D) : Option (Nat) → Option (O × En)
  | some j => some (.nx, ρ3.set s (some (.box o (.lst (xs.set j d)))))
  | none => none
@[simp] theorem kk_mputL_8 (s : Nat) (d : D) (ρ3 : En) (o : Bool) (xs : List D) (j : Nat) : k_mputL_8 s d ρ3 o xs (some j) = (some (.nx, ρ3.set s (some (.box o (.lst (xs.set j d)))))) := rfl
def k_mputL_7 (s : Nat) (d : D) (ρ3 : En) (ki : Int) (o : Bool) : Option (List D) → Option (O × En)
  | some xs => k_mputL_8 s d ρ3 o xs (L2.ixN xs.length ki)
  | none => none
@[simp] theorem kk_mputL_7 (s : Nat) (d : D) (ρ3 : En) (ki : Int) (o : Bool) (xs : List D) : k_mputL_7 s d ρ3 ki o (some xs) = (k_mputL_8 s d ρ3 o xs (L2.ixN xs.length ki)) := rfl
def k_mputL_6 (s : Nat) (d : D) (ρ3 : En) (ki : Int) : Option (Bool × Bx) → Option (O × En)
  | some (o, b1) => k_mputL_7 s d ρ3 ki o (lstOf b1)
  | none => none
@[simp] theorem kk_mputL_6 (s : Nat) (d : D) (ρ3 : En) (ki : Int) (o : Bool) (b1 : Bx) : k_mputL_6 s d ρ3 ki (some (o, b1)) = (k_mputL_7 s d ρ3 ki o (lstOf b1)) := rfl
def k_mputL_5 (s : Nat) (d : D) (ρ3 : En) : Option (Int) → Option (O × En)
  | some ki => k_mputL_6 s d ρ3 ki (bxAt ρ3 s)
  | none => none
@[simp] theorem kk_mputL_5 (s : Nat) (d : D) (ρ3 : En) (ki : Int) : k_mputL_5 s d ρ3 (some ki) = (k_mputL_6 s d ρ3 ki (bxAt ρ3 s)) := rfl
def k_mputL_4 (s : Nat) (d : D) : Option (R × En) → Option (O × En)
  | some (z, ρ3) => k_mputL_5 s d ρ3 (intR ρ3 z.fz)
  | none => none
@[simp] theorem kk_mputL_4 (s : Nat) (d : D) (z : R) (ρ3 : En) : k_mputL_4 s d (some (z, ρ3)) = (k_mputL_5 s d ρ3 (intR ρ3 z.fz)) := rfl
def k_mputL_3 (s : Nat) (mk : ME) (ρ2 : En) (d : D) : Option (Bool × Bx) → Option (O × En)
  | some (o0, b0) => k_mputL_4 s d (mk ρ2)
  | none => none
@[simp] theorem kk_mputL_3 (s : Nat) (mk : ME) (ρ2 : En) (d : D) (o0 : Bool) (b0 : Bx) : k_mputL_3 s mk ρ2 d (some (o0, b0)) = (k_mputL_4 s d (mk ρ2)) := rfl
def k_mputL_2 (s : Nat) (mk : ME) (ρ2 : En) : Option (D) → Option (O × En)
  | some d => k_mputL_3 s mk ρ2 d (bxAt ρ2 s)
  | none => none
@[simp] theorem kk_mputL_2 (s : Nat) (mk : ME) (ρ2 : En) (d : D) : k_mputL_2 s mk ρ2 (some d) = (k_mputL_3 s mk ρ2 d (bxAt ρ2 s)) := rfl
def k_mputL_1 (s : Nat) (mk : ME) : Option (List D × En) → Option (O × En)
  | some (ds, ρ2) => k_mputL_2 s mk ρ2 (oneOf ds)
  | none => none
@[simp] theorem kk_mputL_1 (s : Nat) (mk : ME) (ds : List D) (ρ2 : En) : k_mputL_1 s mk (some (ds, ρ2)) = (k_mputL_2 s mk ρ2 (oneOf ds)) := rfl
def k_mputL_0 (s : Nat) (mk : ME) : Option (R × En) → Option (O × En)
  | some (x, ρ1) => k_mputL_1 s mk (fzs ρ1 [x.fz])
  | none => none
@[simp] theorem kk_mputL_0 (s : Nat) (mk : ME) (x : R) (ρ1 : En) : k_mputL_0 s mk (some (x, ρ1)) = (k_mputL_1 s mk (fzs ρ1 [x.fz])) := rfl
@[simp] theorem ev_mputL (s : Nat) (mk : ME) (mv : ME) (ρ : En) : mputL s mk mv ρ = k_mputL_0 s mk (mv ρ) := by
  unfold mputL
  cases h0 : mv ρ with
  | none => simp only [Option.bind, Option.map, h0, k_mputL_0, k_mputL_1, k_mputL_2, k_mputL_3, k_mputL_4, k_mputL_5, k_mputL_6, k_mputL_7, k_mputL_8]
  | some p0 =>
    obtain ⟨x, ρ1⟩ := p0
    cases h1 : fzs ρ1 [x.fz] with
    | none => simp only [Option.bind, Option.map, h0, h1, k_mputL_0, k_mputL_1, k_mputL_2, k_mputL_3, k_mputL_4, k_mputL_5, k_mputL_6, k_mputL_7, k_mputL_8]
    | some p1 =>
      obtain ⟨ds, ρ2⟩ := p1
      cases h2 : oneOf ds with
      | none => simp only [Option.bind, Option.map, h0, h1, h2, k_mputL_0, k_mputL_1, k_mputL_2, k_mputL_3, k_mputL_4, k_mputL_5, k_mputL_6, k_mputL_7, k_mputL_8]
      | some d =>
        cases h3 : bxAt ρ2 s with
        | none => simp only [Option.bind, Option.map, h0, h1, h2, h3, k_mputL_0, k_mputL_1, k_mputL_2, k_mputL_3, k_mputL_4, k_mputL_5, k_mputL_6, k_mputL_7, k_mputL_8]
        | some p3 =>
          obtain ⟨o0, b0⟩ := p3
          cases h4 : mk ρ2 with
          | none => simp only [Option.bind, Option.map, h0, h1, h2, h3, h4, k_mputL_0, k_mputL_1, k_mputL_2, k_mputL_3, k_mputL_4, k_mputL_5, k_mputL_6, k_mputL_7, k_mputL_8]
          | some p4 =>
            obtain ⟨z, ρ3⟩ := p4
            cases h5 : intR ρ3 z.fz with
            | none => simp only [Option.bind, Option.map, h0, h1, h2, h3, h4, h5, k_mputL_0, k_mputL_1, k_mputL_2, k_mputL_3, k_mputL_4, k_mputL_5, k_mputL_6, k_mputL_7, k_mputL_8]
            | some ki =>
              cases h6 : bxAt ρ3 s with
              | none => simp only [Option.bind, Option.map, h0, h1, h2, h3, h4, h5, h6, k_mputL_0, k_mputL_1, k_mputL_2, k_mputL_3, k_mputL_4, k_mputL_5, k_mputL_6, k_mputL_7, k_mputL_8]
              | some p6 =>
                obtain ⟨o, b1⟩ := p6
                cases h7 : lstOf b1 with
                | none => simp only [Option.bind, Option.map, h0, h1, h2, h3, h4, h5, h6, h7, k_mputL_0, k_mputL_1, k_mputL_2, k_mputL_3, k_mputL_4, k_mputL_5, k_mputL_6, k_mputL_7, k_mputL_8]
                | some xs =>
                  cases h8 : L2.ixN xs.length ki with
                  | none => simp only [Option.bind, Option.map, h0, h1, h2, h3, h4, h5, h6, h7, h8, k_mputL_0, k_mputL_1, k_mputL_2, k_mputL_3, k_mputL_4, k_mputL_5, k_mputL_6, k_mputL_7, k_mputL_8]
                  | some j =>
                    simp only [Option.bind, Option.map, h0, h1, h2, h3, h4, h5, h6, h7, h8, k_mputL_0, k_mputL_1, k_mputL_2, k_mputL_3, k_mputL_4, k_mputL_5, k_mputL_6, k_mputL_7, k_mputL_8]
def k_mput_0 (s : Nat) (mk : ME) (mv : ME) (ρ : En) : Option (Bool × Bx) → Option (O × En)
  | some (o, b) => iteS (mputD s mk mv) (mputL s mk mv) (isDic b) ρ
  | none => none
@[simp] theorem kk_mput_0 (s : Nat) (mk : ME) (mv : ME) (ρ : En) (o : Bool) (b : Bx) : k_mput_0 s mk mv ρ (some (o, b)) = (iteS (mputD s mk mv) (mputL s mk mv) (isDic b) ρ) := rfl
@[simp] theorem ev_mput (s : Nat) (mk : ME) (mv : ME) (ρ : En) : mput s mk mv ρ = k_mput_0 s mk mv ρ (bxAt ρ s) := by
  unfold mput
  cases h0 : bxAt ρ s with
  | none => simp only [Option.bind, Option.map, h0, k_mput_0]
  | some p0 =>
    obtain ⟨o, b⟩ := p0
    simp only [Option.bind, Option.map, h0, k_mput_0]
    cases isDic b <;> simp [iteS]
def k_maug_5 (i : Nat) (ρ1 : En) : Option (R) → Option (O × En)
  | some r => stoO (stoR ρ1 i r)
  | none => none
@[simp] theorem kk_maug_5 (i : Nat) (ρ1 : En) (r : R) : k_maug_5 i ρ1 (some r) = (stoO (stoR ρ1 i r)) := rfl
def k_maug_4 (i : Nat) (g : D → D → Option R) (d : D) (ρ1 : En) : Option (D) → Option (O × En)
  | some e => k_maug_5 i ρ1 (g d e)
  | none => none
@[simp] theorem kk_maug_4 (i : Nat) (g : D → D → Option R) (d : D) (ρ1 : En) (e : D) : k_maug_4 i g d ρ1 (some e) = (k_maug_5 i ρ1 (g d e)) := rfl
def k_maug_3 (i : Nat) (g : D → D → Option R) (d : D) (y : R) (ρ1 : En) : Option (Unit) → Option (O × En)
  | some u => k_maug_4 i g d ρ1 (y.fz.vw ρ1)
  | none => none
@[simp] theorem kk_maug_3 (i : Nat) (g : D → D → Option R) (d : D) (y : R) (ρ1 : En) (u : Unit) : k_maug_3 i g d y ρ1 (some u) = (k_maug_4 i g d ρ1 (y.fz.vw ρ1)) := rfl
def k_maug_2 (i : Nat) (g : D → D → Option R) (d : D) : Option (R × En) → Option (O × En)
  | some (y, ρ1) => k_maug_3 i g d y ρ1 (guardO (notBor ρ1 i))
  | none => none
@[simp] theorem kk_maug_2 (i : Nat) (g : D → D → Option R) (d : D) (y : R) (ρ1 : En) : k_maug_2 i g d (some (y, ρ1)) = (k_maug_3 i g d y ρ1 (guardO (notBor ρ1 i))) := rfl
def k_maug_1 (i : Nat) (g : D → D → Option R) (m : ME) (ρ : En) : Option (D) → Option (O × En)
  | some d => k_maug_2 i g d (m ρ)
  | none => none
@[simp] theorem kk_maug_1 (i : Nat) (g : D → D → Option R) (m : ME) (ρ : En) (d : D) : k_maug_1 i g m ρ (some d) = (k_maug_2 i g d (m ρ)) := rfl
def k_maug_0 (i : Nat) (g : D → D → Option R) (m : ME) (ρ : En) : Option (A) → Option (O × En)
  | some a => k_maug_1 i g m ρ (datOf a)
  | none => none
@[simp] theorem kk_maug_0 (i : Nat) (g : D → D → Option R) (m : ME) (ρ : En) (a : A) : k_maug_0 i g m ρ (some a) = (k_maug_1 i g m ρ (datOf a)) := rfl
@[simp] theorem ev_maug (i : Nat) (g : D → D → Option R) (m : ME) (ρ : En) : maug i g m ρ = k_maug_0 i g m ρ (ρ[i]?.join) := by
  unfold maug
  cases h0 : ρ[i]?.join with
  | none => simp only [Option.bind, Option.map, h0, k_maug_0, k_maug_1, k_maug_2, k_maug_3, k_maug_4, k_maug_5]
  | some a =>
    cases h1 : datOf a with
    | none => simp only [Option.bind, Option.map, h0, h1, k_maug_0, k_maug_1, k_maug_2, k_maug_3, k_maug_4, k_maug_5]
    | some d =>
      cases h2 : m ρ with
      | none => simp only [Option.bind, Option.map, h0, h1, h2, k_maug_0, k_maug_1, k_maug_2, k_maug_3, k_maug_4, k_maug_5]
      | some p2 =>
        obtain ⟨y, ρ1⟩ := p2
        cases h3 : guardO (notBor ρ1 i) with
        | none => simp only [Option.bind, Option.map, h0, h1, h2, h3, k_maug_0, k_maug_1, k_maug_2, k_maug_3, k_maug_4, k_maug_5]
        | some u =>
          cases h4 : y.fz.vw ρ1 with
          | none => simp only [Option.bind, Option.map, h0, h1, h2, h3, h4, k_maug_0, k_maug_1, k_maug_2, k_maug_3, k_maug_4, k_maug_5]
          | some e =>
            cases h5 : g d e with
            | none => simp only [Option.bind, Option.map, h0, h1, h2, h3, h4, h5, k_maug_0, k_maug_1, k_maug_2, k_maug_3, k_maug_4, k_maug_5]
            | some r =>
              simp only [Option.bind, Option.map, h0, h1, h2, h3, h4, h5, k_maug_0, k_maug_1, k_maug_2, k_maug_3, k_maug_4, k_maug_5]
              cases stoR ρ1 i r <;> simp [stoO]
def k_maugL_12 (s : Nat) (ρ2 : En) (r : R) (o2 : Bool) (xs2 : List D) : Option (Nat) → Option (O × En)
  | some j => augR s ρ2 o2 xs2 j r
  | none => none
@[simp] theorem kk_maugL_12 (s : Nat) (ρ2 : En) (r : R) (o2 : Bool) (xs2 : List D) (j : Nat) : k_maugL_12 s ρ2 r o2 xs2 (some j) = (augR s ρ2 o2 xs2 j r) := rfl
def k_maugL_11 (s : Nat) (ki : Int) (ρ2 : En) (r : R) (o2 : Bool) : Option (List D) → Option (O × En)
  | some xs2 => k_maugL_12 s ρ2 r o2 xs2 (L2.ixN xs2.length ki)
  | none => none
@[simp] theorem kk_maugL_11 (s : Nat) (ki : Int) (ρ2 : En) (r : R) (o2 : Bool) (xs2 : List D) : k_maugL_11 s ki ρ2 r o2 (some xs2) = (k_maugL_12 s ρ2 r o2 xs2 (L2.ixN xs2.length ki)) := rfl
def k_maugL_10 (s : Nat) (ki : Int) (ρ2 : En) (r : R) : Option (Bool × Bx) → Option (O × En)
  | some (o2, b2) => k_maugL_11 s ki ρ2 r o2 (lstOf b2)
  | none => none
@[simp] theorem kk_maugL_10 (s : Nat) (ki : Int) (ρ2 : En) (r : R) (o2 : Bool) (b2 : Bx) : k_maugL_10 s ki ρ2 r (some (o2, b2)) = (k_maugL_11 s ki ρ2 r o2 (lstOf b2)) := rfl
def k_maugL_9 (s : Nat) (ki : Int) (ρ2 : En) : Option (R) → Option (O × En)
  | some r => k_maugL_10 s ki ρ2 r (bxAt ρ2 s)
  | none => none
@[simp] theorem kk_maugL_9 (s : Nat) (ki : Int) (ρ2 : En) (r : R) : k_maugL_9 s ki ρ2 (some r) = (k_maugL_10 s ki ρ2 r (bxAt ρ2 s)) := rfl
def k_maugL_8 (s : Nat) (g : D → D → Option R) (ki : Int) (d : D) (ρ2 : En) : Option (D) → Option (O × En)
  | some e => k_maugL_9 s ki ρ2 (g d e)
  | none => none
@[simp] theorem kk_maugL_8 (s : Nat) (g : D → D → Option R) (ki : Int) (d : D) (ρ2 : En) (e : D) : k_maugL_8 s g ki d ρ2 (some e) = (k_maugL_9 s ki ρ2 (g d e)) := rfl
def k_maugL_7 (s : Nat) (g : D → D → Option R) (ki : Int) (d : D) : Option (R × En) → Option (O × En)
  | some (x, ρ2) => k_maugL_8 s g ki d ρ2 (x.fz.vw ρ2)
  | none => none
@[simp] theorem kk_maugL_7 (s : Nat) (g : D → D → Option R) (ki : Int) (d : D) (x : R) (ρ2 : En) : k_maugL_7 s g ki d (some (x, ρ2)) = (k_maugL_8 s g ki d ρ2 (x.fz.vw ρ2)) := rfl
def k_maugL_6 (s : Nat) (g : D → D → Option R) (mv : ME) (ρ1 : En) (ki : Int) : Option (D) → Option (O × En)
  | some d => k_maugL_7 s g ki d (mv ρ1)
  | none => none
@[simp] theorem kk_maugL_6 (s : Nat) (g : D → D → Option R) (mv : ME) (ρ1 : En) (ki : Int) (d : D) : k_maugL_6 s g mv ρ1 ki (some d) = (k_maugL_7 s g ki d (mv ρ1)) := rfl
def k_maugL_5 (s : Nat) (g : D → D → Option R) (mv : ME) (ρ1 : En) (ki : Int) (xs : List D) : Option (Unit) → Option (O × En)
  | some u => k_maugL_6 s g mv ρ1 ki (xs[ki.toNat]?)
  | none => none
@[simp] theorem kk_maugL_5 (s : Nat) (g : D → D → Option R) (mv : ME) (ρ1 : En) (ki : Int) (xs : List D) (u : Unit) : k_maugL_5 s g mv ρ1 ki xs (some u) = (k_maugL_6 s g mv ρ1 ki (xs[ki.toNat]?)) := rfl
def k_maugL_4 (s : Nat) (g : D → D → Option R) (mv : ME) (ρ1 : En) (ki : Int) : Option (List D) → Option (O × En)
  | some xs => k_maugL_5 s g mv ρ1 ki xs (guardO (decide (0 ≤ ki ∧ ki < 2 ^ 63)))
  | none => none
@[simp] theorem kk_maugL_4 (s : Nat) (g : D → D → Option R) (mv : ME) (ρ1 : En) (ki : Int) (xs : List D) : k_maugL_4 s g mv ρ1 ki (some xs) = (k_maugL_5 s g mv ρ1 ki xs (guardO (decide (0 ≤ ki ∧ ki < 2 ^ 63)))) := rfl
def k_maugL_3 (s : Nat) (g : D → D → Option R) (mv : ME) (ρ1 : En) (ki : Int) : Option (Bool × Bx) → Option (O × En)
  | some (o, b1) => k_maugL_4 s g mv ρ1 ki (lstOf b1)
  | none => none
@[simp] theorem kk_maugL_3 (s : Nat) (g : D → D → Option R) (mv : ME) (ρ1 : En) (ki : Int) (o : Bool) (b1 : Bx) : k_maugL_3 s g mv ρ1 ki (some (o, b1)) = (k_maugL_4 s g mv ρ1 ki (lstOf b1)) := rfl
def k_maugL_2 (s : Nat) (g : D → D → Option R) (mv : ME) (ρ1 : En) : Option (Int) → Option (O × En)
  | some ki => k_maugL_3 s g mv ρ1 ki (bxAt ρ1 s)
  | none => none
@[simp] theorem kk_maugL_2 (s : Nat) (g : D → D → Option R) (mv : ME) (ρ1 : En) (ki : Int) : k_maugL_2 s g mv ρ1 (some ki) = (k_maugL_3 s g mv ρ1 ki (bxAt ρ1 s)) := rfl
def k_maugL_1 (s : Nat) (g : D → D → Option R) (mv : ME) : Option (R × En) → Option (O × En)
  | some (z, ρ1) => k_maugL_2 s g mv ρ1 (intR ρ1 z.fz)
  | none => none
@[simp] theorem kk_maugL_1 (s : Nat) (g : D → D → Option R) (mv : ME) (z : R) (ρ1 : En) : k_maugL_1 s g mv (some (z, ρ1)) = (k_maugL_2 s g mv ρ1 (intR ρ1 z.fz)) := rfl
def k_maugL_0 (s : Nat) (g : D → D → Option R) (mk : ME) (mv : ME) (ρ : En) : Option (Bool × Bx) → Option (O × En)
  | some (o0, b0) => k_maugL_1 s g mv (mk ρ)
  | none => none
@[simp] theorem kk_maugL_0 (s : Nat) (g : D → D → Option R) (mk : ME) (mv : ME) (ρ : En) (o0 : Bool) (b0 : Bx) : k_maugL_0 s g mk mv ρ (some (o0, b0)) = (k_maugL_1 s g mv (mk ρ)) := rfl
@[simp] theorem ev_maugL (s : Nat) (g : D → D → Option R) (mk : ME) (mv : ME) (ρ : En) : maugL s g mk mv ρ = k_maugL_0 s g mk mv ρ (bxAt ρ s) := by
  unfold maugL
  cases h0 : bxAt ρ s with
  | none => simp only [Option.bind, Option.map, h0, k_maugL_0, k_maugL_1, k_maugL_2, k_maugL_3, k_maugL_4, k_maugL_5, k_maugL_6, k_maugL_7, k_maugL_8, k_maugL_9, k_maugL_10, k_maugL_11, k_maugL_12]
  | some p0 =>
    obtain ⟨o0, b0⟩ := p0
    cases h1 : mk ρ with
    | none => simp only [Option.bind, Option.map, h0, h1, k_maugL_0, k_maugL_1, k_maugL_2, k_maugL_3, k_maugL_4, k_maugL_5, k_maugL_6, k_maugL_7, k_maugL_8, k_maugL_9, k_maugL_10, k_maugL_11, k_maugL_12]
    | some p1 =>
      obtain ⟨z, ρ1⟩ := p1
      cases h2 : intR ρ1 z.fz with
      | none => simp only [Option.bind, Option.map, h0, h1, h2, k_maugL_0, k_maugL_1, k_maugL_2, k_maugL_3, k_maugL_4, k_maugL_5, k_maugL_6, k_maugL_7, k_maugL_8, k_maugL_9, k_maugL_10, k_maugL_11, k_maugL_12]
      | some ki =>
        cases h3 : bxAt ρ1 s with
        | none => simp only [Option.bind, Option.map, h0, h1, h2, h3, k_maugL_0, k_maugL_1, k_maugL_2, k_maugL_3, k_maugL_4, k_maugL_5, k_maugL_6, k_maugL_7, k_maugL_8, k_maugL_9, k_maugL_10, k_maugL_11, k_maugL_12]
        | some p3 =>
          obtain ⟨o, b1⟩ := p3
          cases h4 : lstOf b1 with
          | none => simp only [Option.bind, Option.map, h0, h1, h2, h3, h4, k_maugL_0, k_maugL_1, k_maugL_2, k_maugL_3, k_maugL_4, k_maugL_5, k_maugL_6, k_maugL_7, k_maugL_8, k_maugL_9, k_maugL_10, k_maugL_11, k_maugL_12]
          | some xs =>
            cases h5 : guardO (decide (0 ≤ ki ∧ ki < 2 ^ 63)) with
            | none => simp only [Option.bind, Option.map, h0, h1, h2, h3, h4, h5, k_maugL_0, k_maugL_1, k_maugL_2, k_maugL_3, k_maugL_4, k_maugL_5, k_maugL_6, k_maugL_7, k_maugL_8, k_maugL_9, k_maugL_10, k_maugL_11, k_maugL_12]
            | some u =>
              cases h6 : xs[ki.toNat]? with
              | none => simp only [Option.bind, Option.map, h0, h1, h2, h3, h4, h5, h6, k_maugL_0, k_maugL_1, k_maugL_2, k_maugL_3, k_maugL_4, k_maugL_5, k_maugL_6, k_maugL_7, k_maugL_8, k_maugL_9, k_maugL_10, k_maugL_11, k_maugL_12]
              | some d =>
                cases h7 : mv ρ1 with
                | none => simp only [Option.bind, Option.map, h0, h1, h2, h3, h4, h5, h6, h7, k_maugL_0, k_maugL_1, k_maugL_2, k_maugL_3, k_maugL_4, k_maugL_5, k_maugL_6, k_maugL_7, k_maugL_8, k_maugL_9, k_maugL_10, k_maugL_11, k_maugL_12]
                | some p7 =>
                  obtain ⟨x, ρ2⟩ := p7
                  cases h8 : x.fz.vw ρ2 with
                  | none => simp only [Option.bind, Option.map, h0, h1, h2, h3, h4, h5, h6, h7, h8, k_maugL_0, k_maugL_1, k_maugL_2, k_maugL_3, k_maugL_4, k_maugL_5, k_maugL_6, k_maugL_7, k_maugL_8, k_maugL_9, k_maugL_10, k_maugL_11, k_maugL_12]
                  | some e =>
                    cases h9 : g d e with
                    | none => simp only [Option.bind, Option.map, h0, h1, h2, h3, h4, h5, h6, h7, h8, h9, k_maugL_0, k_maugL_1, k_maugL_2, k_maugL_3, k_maugL_4, k_maugL_5, k_maugL_6, k_maugL_7, k_maugL_8, k_maugL_9, k_maugL_10, k_maugL_11, k_maugL_12]
                    | some r =>
                      cases h10 : bxAt ρ2 s with
                      | none => simp only [Option.bind, Option.map, h0, h1, h2, h3, h4, h5, h6, h7, h8, h9, h10, k_maugL_0, k_maugL_1, k_maugL_2, k_maugL_3, k_maugL_4, k_maugL_5, k_maugL_6, k_maugL_7, k_maugL_8, k_maugL_9, k_maugL_10, k_maugL_11, k_maugL_12]
                      | some p10 =>
                        obtain ⟨o2, b2⟩ := p10
                        cases h11 : lstOf b2 with
                        | none => simp only [Option.bind, Option.map, h0, h1, h2, h3, h4, h5, h6, h7, h8, h9, h10, h11, k_maugL_0, k_maugL_1, k_maugL_2, k_maugL_3, k_maugL_4, k_maugL_5, k_maugL_6, k_maugL_7, k_maugL_8, k_maugL_9, k_maugL_10, k_maugL_11, k_maugL_12]
                        | some xs2 =>
                          cases h12 : L2.ixN xs2.length ki with
                          | none => simp only [Option.bind, Option.map, h0, h1, h2, h3, h4, h5, h6, h7, h8, h9, h10, h11, h12, k_maugL_0, k_maugL_1, k_maugL_2, k_maugL_3, k_maugL_4, k_maugL_5, k_maugL_6, k_maugL_7, k_maugL_8, k_maugL_9, k_maugL_10, k_maugL_11, k_maugL_12]
                          | some j =>
                            simp only [Option.bind, Option.map, h0, h1, h2, h3, h4, h5, h6, h7, h8, h9, h10, h11, h12, k_maugL_0, k_maugL_1, k_maugL_2, k_maugL_3, k_maugL_4, k_maugL_5, k_maugL_6, k_maugL_7, k_maugL_8, k_maugL_9, k_maugL_10, k_maugL_11, k_maugL_12]
                            cases r <;> simp [augR]
def k_mdef_0 (as : List A) : Option (O × En) → Option (R × List A)
  | some (o, ρ1) => defE as ρ1 o
  | none => none
@[simp] theorem kk_mdef_0 (as : List A) (o : O) (ρ1 : En) : k_mdef_0 as (some (o, ρ1)) = (defE as ρ1 o) := rfl
@[simp] theorem ev_mdef (n : Nat) (b : MS) (as : List A) : mdef n b as = k_mdef_0 as (b (startE n as)) := by
  unfold mdef
  cases h0 : b (startE n as) with
  | none => simp only [Option.bind, Option.map, h0, k_mdef_0]
  | some p0 =>
    obtain ⟨o, ρ1⟩ := p0
    simp only [Option.bind, Option.map, h0, k_mdef_0]
    cases o <;> simp [defE, Option.map]
@[simp] theorem q_seqO_1 (b : MS) (ρ : En) : seqO b .nx ρ = b ρ := by first | rfl | (cases a with | none => rfl | some a => cases a <;> rfl) | (simp [stoO, stoR, parR, Option.bind]) | (unfold eqD eqOk; simp [scalD, PyData.eqv]) | (unfold neD eqOk; simp [scalD, PyData.eqv])
@[simp] theorem q_seqO_2 (b : MS) (ρ : En) : seqO b .bk ρ = some (.bk, ρ) := by first | rfl | (cases a with | none => rfl | some a => cases a <;> rfl) | (simp [stoO, stoR, parR, Option.bind]) | (unfold eqD eqOk; simp [scalD, PyData.eqv]) | (unfold neD eqOk; simp [scalD, PyData.eqv])
@[simp] theorem q_seqO_3 (b : MS) (ρ : En) : seqO b .ct ρ = some (.ct, ρ) := by first | rfl | (cases a with | none => rfl | some a => cases a <;> rfl) | (simp [stoO, stoR, parR, Option.bind]) | (unfold eqD eqOk; simp [scalD, PyData.eqv]) | (unfold neD eqOk; simp [scalD, PyData.eqv])
@[simp] theorem q_seqO_4 (b : MS) (r : R) (ρ : En) : seqO b (.rt r) ρ = some (.rt r, ρ) := by first | rfl | (cases a with | none => rfl | some a => cases a <;> rfl) | (simp [stoO, stoR, parR, Option.bind]) | (unfold eqD eqOk; simp [scalD, PyData.eqv]) | (unfold neD eqOk; simp [scalD, PyData.eqv])
@[simp] theorem q_iteS_1 {α : Type} (a b : En → Option α) (ρ : En) : iteS a b true ρ = a ρ := by first | rfl | (cases a with | none => rfl | some a => cases a <;> rfl) | (simp [stoO, stoR, parR, Option.bind]) | (unfold eqD eqOk; simp [scalD, PyData.eqv]) | (unfold neD eqOk; simp [scalD, PyData.eqv])
@[simp] theorem q_iteS_2 {α : Type} (a b : En → Option α) (ρ : En) : iteS a b false ρ = b ρ := by first | rfl | (cases a with | none => rfl | some a => cases a <;> rfl) | (simp [stoO, stoR, parR, Option.bind]) | (unfold eqD eqOk; simp [scalD, PyData.eqv]) | (unfold neD eqOk; simp [scalD, PyData.eqv])
@[simp] theorem q_retA_1 (i : Nat) (ρ : En) (d : D) : retA i ρ (some (.dat d)) = some (.rt (.dat d), ρ) := by first | rfl | (cases a with | none => rfl | some a => cases a <;> rfl) | (simp [stoO, stoR, parR, Option.bind]) | (unfold eqD eqOk; simp [scalD, PyData.eqv]) | (unfold neD eqOk; simp [scalD, PyData.eqv])
@[simp] theorem q_retA_2 (i : Nat) (ρ : En) (b : Bx) : retA i ρ (some (.box true b)) = some (.rt (.new b), ρ) := by first | rfl | (cases a with | none => rfl | some a => cases a <;> rfl) | (simp [stoO, stoR, parR, Option.bind]) | (unfold eqD eqOk; simp [scalD, PyData.eqv]) | (unfold neD eqOk; simp [scalD, PyData.eqv])
@[simp] theorem q_retR_1 (ρ : En) (d : D) : retR ρ (.dat d) = some (.rt (.dat d), ρ) := by first | rfl | (cases a with | none => rfl | some a => cases a <;> rfl) | (simp [stoO, stoR, parR, Option.bind]) | (unfold eqD eqOk; simp [scalD, PyData.eqv]) | (unfold neD eqOk; simp [scalD, PyData.eqv])
@[simp] theorem q_retR_2 (ρ : En) (b : Bx) : retR ρ (.new b) = some (.rt (.new b), ρ) := by first | rfl | (cases a with | none => rfl | some a => cases a <;> rfl) | (simp [stoO, stoR, parR, Option.bind]) | (unfold eqD eqOk; simp [scalD, PyData.eqv]) | (unfold neD eqOk; simp [scalD, PyData.eqv])
@[simp] theorem q_retR_3 (ρ : En) (i : Nat) : retR ρ (.ref i) = retA i ρ ρ[i]?.join := by first | rfl | (cases a with | none => rfl | some a => cases a <;> rfl) | (simp [stoO, stoR, parR, Option.bind]) | (unfold eqD eqOk; simp [scalD, PyData.eqv]) | (unfold neD eqOk; simp [scalD, PyData.eqv])
@[simp] theorem q_varA_1 (i : Nat) (ρ : En) (d : D) : varA i ρ (some (.dat d)) = some (.dat d, ρ) := by first | rfl | (cases a with | none => rfl | some a => cases a <;> rfl) | (simp [stoO, stoR, parR, Option.bind]) | (unfold eqD eqOk; simp [scalD, PyData.eqv]) | (unfold neD eqOk; simp [scalD, PyData.eqv])
@[simp] theorem q_varA_2 (i : Nat) (ρ : En) (o : Bool) (b : Bx) : varA i ρ (some (.box o b)) = some (.ref i, ρ) := by first | rfl | (cases a with | none => rfl | some a => cases a <;> rfl) | (simp [stoO, stoR, parR, Option.bind]) | (unfold eqD eqOk; simp [scalD, PyData.eqv]) | (unfold neD eqOk; simp [scalD, PyData.eqv])
@[simp] theorem q_partD_1 (ρ : En) (i : Int) : partD ρ (.int i) = some (some i, ρ) := by first | rfl | (cases a with | none => rfl | some a => cases a <;> rfl) | (simp [stoO, stoR, parR, Option.bind]) | (unfold eqD eqOk; simp [scalD, PyData.eqv]) | (unfold neD eqOk; simp [scalD, PyData.eqv])
@[simp] theorem q_seqItems_1 (ρ : En) (ds : List D) : seqItems ρ (some ds) = some (.items ds, ρ) := by first | rfl | (cases a with | none => rfl | some a => cases a <;> rfl) | (simp [stoO, stoR, parR, Option.bind]) | (unfold eqD eqOk; simp [scalD, PyData.eqv]) | (unfold neD eqOk; simp [scalD, PyData.eqv])
@[simp] theorem q_seqA_1 (i : Nat) (ρ : En) (d : D) : seqA i ρ (some (.dat d)) = seqItems ρ (seqD d) := by first | rfl | (cases a with | none => rfl | some a => cases a <;> rfl) | (simp [stoO, stoR, parR, Option.bind]) | (unfold eqD eqOk; simp [scalD, PyData.eqv]) | (unfold neD eqOk; simp [scalD, PyData.eqv])
@[simp] theorem q_seqA_2 (i : Nat) (ρ : En) (b : Bx) : seqA i ρ (some (.box true b)) = seqItems (ρ.set i (some (.dat b.dat))) (seqD b.dat) := by first | rfl | (cases a with | none => rfl | some a => cases a <;> rfl) | (simp [stoO, stoR, parR, Option.bind]) | (unfold eqD eqOk; simp [scalD, PyData.eqv]) | (unfold neD eqOk; simp [scalD, PyData.eqv])
@[simp] theorem q_seqA_3 (i : Nat) (ρ : En) (ds : List D) : seqA i ρ (some (.box false (.lst ds))) = some (.slot i ds, ρ) := by first | rfl | (cases a with | none => rfl | some a => cases a <;> rfl) | (simp [stoO, stoR, parR, Option.bind]) | (unfold eqD eqOk; simp [scalD, PyData.eqv]) | (unfold neD eqOk; simp [scalD, PyData.eqv])
@[simp] theorem q_seqR_1 (ρ : En) (d : D) : seqR ρ (.dat d) = seqItems ρ (seqD d) := by first | rfl | (cases a with | none => rfl | some a => cases a <;> rfl) | (simp [stoO, stoR, parR, Option.bind]) | (unfold eqD eqOk; simp [scalD, PyData.eqv]) | (unfold neD eqOk; simp [scalD, PyData.eqv])
@[simp] theorem q_seqR_2 (ρ : En) (b : Bx) : seqR ρ (.new b) = seqItems ρ (seqD b.dat) := by first | rfl | (cases a with | none => rfl | some a => cases a <;> rfl) | (simp [stoO, stoR, parR, Option.bind]) | (unfold eqD eqOk; simp [scalD, PyData.eqv]) | (unfold neD eqOk; simp [scalD, PyData.eqv])
@[simp] theorem q_seqR_3 (ρ : En) (i : Nat) : seqR ρ (.ref i) = seqA i ρ ρ[i]?.join := by first | rfl | (cases a with | none => rfl | some a => cases a <;> rfl) | (simp [stoO, stoR, parR, Option.bind]) | (unfold eqD eqOk; simp [scalD, PyData.eqv]) | (unfold neD eqOk; simp [scalD, PyData.eqv])
@[simp] theorem q_seqAC_1 (i : Nat) (ρ : En) (d : D) : seqAC i ρ (some (.dat d)) = seqItems ρ (seqD d) := by first | rfl | (cases a with | none => rfl | some a => cases a <;> rfl) | (simp [stoO, stoR, parR, Option.bind]) | (unfold eqD eqOk; simp [scalD, PyData.eqv]) | (unfold neD eqOk; simp [scalD, PyData.eqv])
@[simp] theorem q_seqAC_2 (i : Nat) (ρ : En) (o : Bool) (ds : List D) : seqAC i ρ (some (.box o (.lst ds))) = some (.slot i ds, ρ) := by first | rfl | (cases a with | none => rfl | some a => cases a <;> rfl) | (simp [stoO, stoR, parR, Option.bind]) | (unfold eqD eqOk; simp [scalD, PyData.eqv]) | (unfold neD eqOk; simp [scalD, PyData.eqv])
@[simp] theorem q_seqRC_1 (ρ : En) (d : D) : seqRC ρ (.dat d) = seqItems ρ (seqD d) := by first | rfl | (cases a with | none => rfl | some a => cases a <;> rfl) | (simp [stoO, stoR, parR, Option.bind]) | (unfold eqD eqOk; simp [scalD, PyData.eqv]) | (unfold neD eqOk; simp [scalD, PyData.eqv])
@[simp] theorem q_seqRC_2 (ρ : En) (b : Bx) : seqRC ρ (.new b) = seqItems ρ (seqD b.dat) := by first | rfl | (cases a with | none => rfl | some a => cases a <;> rfl) | (simp [stoO, stoR, parR, Option.bind]) | (unfold eqD eqOk; simp [scalD, PyData.eqv]) | (unfold neD eqOk; simp [scalD, PyData.eqv])
@[simp] theorem q_seqRC_3 (ρ : En) (i : Nat) : seqRC ρ (.ref i) = seqAC i ρ ρ[i]?.join := by first | rfl | (cases a with | none => rfl | some a => cases a <;> rfl) | (simp [stoO, stoR, parR, Option.bind]) | (unfold eqD eqOk; simp [scalD, PyData.eqv]) | (unfold neD eqOk; simp [scalD, PyData.eqv])
@[simp] theorem q_seqD_1 (ds : List D) : seqD (.list ds) = some ds := by first | rfl | (cases a with | none => rfl | some a => cases a <;> rfl) | (simp [stoO, stoR, parR, Option.bind]) | (unfold eqD eqOk; simp [scalD, PyData.eqv]) | (unfold neD eqOk; simp [scalD, PyData.eqv])
@[simp] theorem q_seqD_2 (ds : List D) : seqD (.tuple ds) = some ds := by first | rfl | (cases a with | none => rfl | some a => cases a <;> rfl) | (simp [stoO, stoR, parR, Option.bind]) | (unfold eqD eqOk; simp [scalD, PyData.eqv]) | (unfold neD eqOk; simp [scalD, PyData.eqv])
@[simp] theorem q_forT_1 (g : MG) (b : MS) (ds : List D) (ρ : En) : forT g b (.items ds) ρ = mforI g b ds ρ := by first | rfl | (cases a with | none => rfl | some a => cases a <;> rfl) | (simp [stoO, stoR, parR, Option.bind]) | (unfold eqD eqOk; simp [scalD, PyData.eqv]) | (unfold neD eqOk; simp [scalD, PyData.eqv])
@[simp] theorem q_forT_2 (g : MG) (b : MS) (i : Nat) (ds : List D) (ρ : En) : forT g b (.slot i ds) ρ = mforS i g b ds 0 ρ := by first | rfl | (cases a with | none => rfl | some a => cases a <;> rfl) | (simp [stoO, stoR, parR, Option.bind]) | (unfold eqD eqOk; simp [scalD, PyData.eqv]) | (unfold neD eqOk; simp [scalD, PyData.eqv])
@[simp] theorem q_stoO_1 (ρ : En) : stoO (some ρ) = some (.nx, ρ) := by first | rfl | (cases a with | none => rfl | some a => cases a <;> rfl) | (simp [stoO, stoR, parR, Option.bind]) | (unfold eqD eqOk; simp [scalD, PyData.eqv]) | (unfold neD eqOk; simp [scalD, PyData.eqv])
@[simp] theorem q_parR_1 (i j : Nat) (ρ : En) (d d' : D) : parR i j ρ (.dat d) (.dat d') = some (.nx, (ρ.set i (some (.dat d))).set j (some (.dat d'))) := by first | rfl | (cases a with | none => rfl | some a => cases a <;> rfl) | (simp [stoO, stoR, parR, Option.bind]) | (unfold eqD eqOk; simp [scalD, PyData.eqv]) | (unfold neD eqOk; simp [scalD, PyData.eqv])
@[simp] theorem q_parR_2 (i j : Nat) (ρ : En) (d : D) (b : Bx) : parR i j ρ (.dat d) (.new b) = some (.nx, (ρ.set i (some (.dat d))).set j (some (.box true b))) := by first | rfl | (cases a with | none => rfl | some a => cases a <;> rfl) | (simp [stoO, stoR, parR, Option.bind]) | (unfold eqD eqOk; simp [scalD, PyData.eqv]) | (unfold neD eqOk; simp [scalD, PyData.eqv])
@[simp] theorem q_parR_3 (i j : Nat) (ρ : En) (b : Bx) (d : D) : parR i j ρ (.new b) (.dat d) = some (.nx, (ρ.set i (some (.box true b))).set j (some (.dat d))) := by first | rfl | (cases a with | none => rfl | some a => cases a <;> rfl) | (simp [stoO, stoR, parR, Option.bind]) | (unfold eqD eqOk; simp [scalD, PyData.eqv]) | (unfold neD eqOk; simp [scalD, PyData.eqv])
@[simp] theorem q_parR_4 (i j : Nat) (ρ : En) (b b' : Bx) : parR i j ρ (.new b) (.new b') = some (.nx, (ρ.set i (some (.box true b))).set j (some (.box true b'))) := by first | rfl | (cases a with | none => rfl | some a => cases a <;> rfl) | (simp [stoO, stoR, parR, Option.bind]) | (unfold eqD eqOk; simp [scalD, PyData.eqv]) | (unfold neD eqOk; simp [scalD, PyData.eqv])
@[simp] theorem q_lcE_1 (ρ : En) (vs : List Nat) (xs : List D) (ρ1 : En) : lcE ρ vs (some (xs, ρ1)) = some (.new (.lst xs), restE ρ ρ1 vs) := by first | rfl | (cases a with | none => rfl | some a => cases a <;> rfl) | (simp [stoO, stoR, parR, Option.bind]) | (unfold eqD eqOk; simp [scalD, PyData.eqv]) | (unfold neD eqOk; simp [scalD, PyData.eqv])
theorem q_lcT_1 (g : MG) (t : MT) (m : ME) (vs : List Nat) (ds : List D) (ρ : En) : lcT g t m vs (.items ds) ρ = lcE ρ vs (mlcI g t m vs ds [] (wipeE ρ vs)) := by first | rfl | (cases a with | none => rfl | some a => cases a <;> rfl) | (simp [stoO, stoR, parR, Option.bind]) | (unfold eqD eqOk; simp [scalD, PyData.eqv]) | (unfold neD eqOk; simp [scalD, PyData.eqv])
@[simp] theorem q_rng1_1 (ρ : En) (r : R) : rng1 ρ [r] = ((intR ρ r).bind fun j => (guardO (decide (-(2 ^ 62) ≤ j ∧ j < 2 ^ 62))).bind fun _ => some (.items (rngD 0 j), ρ)) := by first | rfl | (cases a with | none => rfl | some a => cases a <;> rfl) | (simp [stoO, stoR, parR, Option.bind]) | (unfold eqD eqOk; simp [scalD, PyData.eqv]) | (unfold neD eqOk; simp [scalD, PyData.eqv])
@[simp] theorem q_augR_1 (s : Nat) (ρ : En) (o : Bool) (xs : List D) (j : Nat) (d : D) : augR s ρ o xs j (.dat d) = some (.nx, ρ.set s (some (.box o (.lst (xs.set j d))))) := by first | rfl | (cases a with | none => rfl | some a => cases a <;> rfl) | (simp [stoO, stoR, parR, Option.bind]) | (unfold eqD eqOk; simp [scalD, PyData.eqv]) | (unfold neD eqOk; simp [scalD, PyData.eqv])
@[simp] theorem q_asgG_1 (g : MG) (ρ : En) (d : D) : asgG g ρ [d] = stoO (g d ρ) := by first | rfl | (cases a with | none => rfl | some a => cases a <;> rfl) | (simp [stoO, stoR, parR, Option.bind]) | (unfold eqD eqOk; simp [scalD, PyData.eqv]) | (unfold neD eqOk; simp [scalD, PyData.eqv])
@[simp] theorem q_defE_1 (as : List A) (ρ : En) (r : R) : defE as ρ (.rt r) = ((outAs ρ as 0).map fun o => (r, o)) := by first | rfl | (cases a with | none => rfl | some a => cases a <;> rfl) | (simp [stoO, stoR, parR, Option.bind]) | (unfold eqD eqOk; simp [scalD, PyData.eqv]) | (unfold neD eqOk; simp [scalD, PyData.eqv])
@[simp] theorem q_defE_2 (as : List A) (ρ : En) : defE as ρ .nx = ((outAs ρ as 0).map fun o => (.dat .none, o)) := by first | rfl | (cases a with | none => rfl | some a => cases a <;> rfl) | (simp [stoO, stoR, parR, Option.bind]) | (unfold eqD eqOk; simp [scalD, PyData.eqv]) | (unfold neD eqOk; simp [scalD, PyData.eqv])
@[simp] theorem q_R_fz_1 (d : D) : (R.dat d).fz = .dat d := by first | rfl | (cases a with | none => rfl | some a => cases a <;> rfl) | (simp [stoO, stoR, parR, Option.bind]) | (unfold eqD eqOk; simp [scalD, PyData.eqv]) | (unfold neD eqOk; simp [scalD, PyData.eqv])
@[simp] theorem q_R_fz_2 (b : Bx) : (R.new b).fz = .dat b.dat := by first | rfl | (cases a with | none => rfl | some a => cases a <;> rfl) | (simp [stoO, stoR, parR, Option.bind]) | (unfold eqD eqOk; simp [scalD, PyData.eqv]) | (unfold neD eqOk; simp [scalD, PyData.eqv])
@[simp] theorem q_R_fz_3 (i : Nat) : (R.ref i).fz = .ref i := by first | rfl | (cases a with | none => rfl | some a => cases a <;> rfl) | (simp [stoO, stoR, parR, Option.bind]) | (unfold eqD eqOk; simp [scalD, PyData.eqv]) | (unfold neD eqOk; simp [scalD, PyData.eqv])
@[simp] theorem q_R_vw_1 (ρ : En) (d : D) : (R.dat d).vw ρ = some d := by first | rfl | (cases a with | none => rfl | some a => cases a <;> rfl) | (simp [stoO, stoR, parR, Option.bind]) | (unfold eqD eqOk; simp [scalD, PyData.eqv]) | (unfold neD eqOk; simp [scalD, PyData.eqv])
@[simp] theorem q_R_vw_2 (ρ : En) (i : Nat) : (R.ref i).vw ρ = (ρ[i]?.join).map A.vw := by first | rfl | (cases a with | none => rfl | some a => cases a <;> rfl) | (simp [stoO, stoR, parR, Option.bind]) | (unfold eqD eqOk; simp [scalD, PyData.eqv]) | (unfold neD eqOk; simp [scalD, PyData.eqv])
@[simp] theorem q_A_vw_1 (d : D) : (A.dat d).vw = d := by first | rfl | (cases a with | none => rfl | some a => cases a <;> rfl) | (simp [stoO, stoR, parR, Option.bind]) | (unfold eqD eqOk; simp [scalD, PyData.eqv]) | (unfold neD eqOk; simp [scalD, PyData.eqv])
@[simp] theorem q_A_vw_2 (o : Bool) (b : Bx) : (A.box o b).vw = b.dat := by first | rfl | (cases a with | none => rfl | some a => cases a <;> rfl) | (simp [stoO, stoR, parR, Option.bind]) | (unfold eqD eqOk; simp [scalD, PyData.eqv]) | (unfold neD eqOk; simp [scalD, PyData.eqv])
@[simp] theorem q_Bx_dat_1 (xs : List D) : (Bx.lst xs).dat = .list xs := by first | rfl | (cases a with | none => rfl | some a => cases a <;> rfl) | (simp [stoO, stoR, parR, Option.bind]) | (unfold eqD eqOk; simp [scalD, PyData.eqv]) | (unfold neD eqOk; simp [scalD, PyData.eqv])
@[simp] theorem q_Bx_dat_2 (xs : List (L2.Key × D)) : (Bx.dic xs).dat = .dict (dkv xs) := by first | rfl | (cases a with | none => rfl | some a => cases a <;> rfl) | (simp [stoO, stoR, parR, Option.bind]) | (unfold eqD eqOk; simp [scalD, PyData.eqv]) | (unfold neD eqOk; simp [scalD, PyData.eqv])
@[simp] theorem q_guardO_1 : guardO true = some () := by first | rfl | (cases a with | none => rfl | some a => cases a <;> rfl) | (simp [stoO, stoR, parR, Option.bind]) | (unfold eqD eqOk; simp [scalD, PyData.eqv]) | (unfold neD eqOk; simp [scalD, PyData.eqv])
@[simp] theorem q_boolR_1 (b : Bool) : boolR (.dat (.bool b)) = some b := by first | rfl | (cases a with | none => rfl | some a => cases a <;> rfl) | (simp [stoO, stoR, parR, Option.bind]) | (unfold eqD eqOk; simp [scalD, PyData.eqv]) | (unfold neD eqOk; simp [scalD, PyData.eqv])
@[simp] theorem q_truD_1 (b : Bool) : truD (.bool b) = some b := by first | rfl | (cases a with | none => rfl | some a => cases a <;> rfl) | (simp [stoO, stoR, parR, Option.bind]) | (unfold eqD eqOk; simp [scalD, PyData.eqv]) | (unfold neD eqOk; simp [scalD, PyData.eqv])
@[simp] theorem q_truD_2 (xs : List D) : truD (.list xs) = some (!xs.isEmpty) := by first | rfl | (cases a with | none => rfl | some a => cases a <;> rfl) | (simp [stoO, stoR, parR, Option.bind]) | (unfold eqD eqOk; simp [scalD, PyData.eqv]) | (unfold neD eqOk; simp [scalD, PyData.eqv])
@[simp] theorem q_truD_3 (xs : List D) : truD (.tuple xs) = some (!xs.isEmpty) := by first | rfl | (cases a with | none => rfl | some a => cases a <;> rfl) | (simp [stoO, stoR, parR, Option.bind]) | (unfold eqD eqOk; simp [scalD, PyData.eqv]) | (unfold neD eqOk; simp [scalD, PyData.eqv])
@[simp] theorem q_argAs_1 (ρ : En) : argAs ρ [] = some [] := by first | rfl | (cases a with | none => rfl | some a => cases a <;> rfl) | (simp [stoO, stoR, parR, Option.bind]) | (unfold eqD eqOk; simp [scalD, PyData.eqv]) | (unfold neD eqOk; simp [scalD, PyData.eqv])
@[simp] theorem q_argAs_2 (ρ : En) (r : R) (rs : List R) : argAs ρ (r :: rs) = ((argA ρ r).bind fun a => (argAs ρ rs).map fun as => a :: as) := by first | rfl | (cases a with | none => rfl | some a => cases a <;> rfl) | (simp [stoO, stoR, parR, Option.bind]) | (unfold eqD eqOk; simp [scalD, PyData.eqv]) | (unfold neD eqOk; simp [scalD, PyData.eqv])
@[simp] theorem q_argA_1 (ρ : En) (d : D) : argA ρ (.dat d) = some (.dat d) := by first | rfl | (cases a with | none => rfl | some a => cases a <;> rfl) | (simp [stoO, stoR, parR, Option.bind]) | (unfold eqD eqOk; simp [scalD, PyData.eqv]) | (unfold neD eqOk; simp [scalD, PyData.eqv])
@[simp] theorem q_stoR_1 (ρ : En) (i : Nat) (d : D) : stoR ρ i (.dat d) = some (ρ.set i (some (.dat d))) := by first | rfl | (cases a with | none => rfl | some a => cases a <;> rfl) | (simp [stoO, stoR, parR, Option.bind]) | (unfold eqD eqOk; simp [scalD, PyData.eqv]) | (unfold neD eqOk; simp [scalD, PyData.eqv])
@[simp] theorem q_stoR_2 (ρ : En) (i : Nat) (b : Bx) : stoR ρ i (.new b) = some (ρ.set i (some (.box true b))) := by first | rfl | (cases a with | none => rfl | some a => cases a <;> rfl) | (simp [stoO, stoR, parR, Option.bind]) | (unfold eqD eqOk; simp [scalD, PyData.eqv]) | (unfold neD eqOk; simp [scalD, PyData.eqv])
@[simp] theorem q_fzs_1 (ρ : En) : fzs ρ [] = some ([], ρ) := by first | rfl | (cases a with | none => rfl | some a => cases a <;> rfl) | (simp [stoO, stoR, parR, Option.bind]) | (unfold eqD eqOk; simp [scalD, PyData.eqv]) | (unfold neD eqOk; simp [scalD, PyData.eqv])
@[simp] theorem q_fzs_2 (ρ : En) (d : D) (rs : List R) : fzs ρ (.dat d :: rs) = ((fzs ρ rs).map fun x => (d :: x.1, x.2)) := by first | rfl | (cases a with | none => rfl | some a => cases a <;> rfl) | (simp [stoO, stoR, parR, Option.bind]) | (unfold eqD eqOk; simp [scalD, PyData.eqv]) | (unfold neD eqOk; simp [scalD, PyData.eqv])
@[simp] theorem q_vws_1 (ρ : En) : vws ρ [] = some [] := by first | rfl | (cases a with | none => rfl | some a => cases a <;> rfl) | (simp [stoO, stoR, parR, Option.bind]) | (unfold eqD eqOk; simp [scalD, PyData.eqv]) | (unfold neD eqOk; simp [scalD, PyData.eqv])
@[simp] theorem q_vws_2 (ρ : En) (r : R) (rs : List R) : vws ρ (r :: rs) = ((r.vw ρ).bind fun d => (vws ρ rs).bind fun ds => some (d :: ds)) := by first | rfl | (cases a with | none => rfl | some a => cases a <;> rfl) | (simp [stoO, stoR, parR, Option.bind]) | (unfold eqD eqOk; simp [scalD, PyData.eqv]) | (unfold neD eqOk; simp [scalD, PyData.eqv])
@[simp] theorem q_bxIx_1 (ρ : En) : bxIx ρ [] = [] := by first | rfl | (cases a with | none => rfl | some a => cases a <;> rfl) | (simp [stoO, stoR, parR, Option.bind]) | (unfold eqD eqOk; simp [scalD, PyData.eqv]) | (unfold neD eqOk; simp [scalD, PyData.eqv])
@[simp] theorem q_bxIx_2 (ρ : En) (d : D) (rs : List R) : bxIx ρ (.dat d :: rs) = bxIx ρ rs := by first | rfl | (cases a with | none => rfl | some a => cases a <;> rfl) | (simp [stoO, stoR, parR, Option.bind]) | (unfold eqD eqOk; simp [scalD, PyData.eqv]) | (unfold neD eqOk; simp [scalD, PyData.eqv])
@[simp] theorem q_gnm_1 (i : Nat) (d : D) (ρ : En) : gnm i d ρ = ((guardO (notBor ρ i)).map fun _ => ρ.set i (some (.dat d))) := by first | rfl | (cases a with | none => rfl | some a => cases a <;> rfl) | (simp [stoO, stoR, parR, Option.bind]) | (unfold eqD eqOk; simp [scalD, PyData.eqv]) | (unfold neD eqOk; simp [scalD, PyData.eqv])
@[simp] theorem q_gtup_1 (is : List Nat) (ds : List D) (ρ : En) : gtup is (.tuple ds) ρ = gset is ds ρ := by first | rfl | (cases a with | none => rfl | some a => cases a <;> rfl) | (simp [stoO, stoR, parR, Option.bind]) | (unfold eqD eqOk; simp [scalD, PyData.eqv]) | (unfold neD eqOk; simp [scalD, PyData.eqv])
@[simp] theorem q_gset_1 (ρ : En) : gset [] [] ρ = some ρ := by first | rfl | (cases a with | none => rfl | some a => cases a <;> rfl) | (simp [stoO, stoR, parR, Option.bind]) | (unfold eqD eqOk; simp [scalD, PyData.eqv]) | (unfold neD eqOk; simp [scalD, PyData.eqv])
@[simp] theorem q_gset_2 (i : Nat) (is : List Nat) (d : D) (ds : List D) (ρ : En) : gset (i :: is) (d :: ds) ρ = ((guardO (notBor ρ i)).bind fun _ => gset is ds (ρ.set i (some (.dat d)))) := by first | rfl | (cases a with | none => rfl | some a => cases a <;> rfl) | (simp [stoO, stoR, parR, Option.bind]) | (unfold eqD eqOk; simp [scalD, PyData.eqv]) | (unfold neD eqOk; simp [scalD, PyData.eqv])
@[simp] theorem q_dicOf_1 (kvs : List (L2.Key × D)) : dicOf (.dic kvs) = some kvs := by first | rfl | (cases a with | none => rfl | some a => cases a <;> rfl) | (simp [stoO, stoR, parR, Option.bind]) | (unfold eqD eqOk; simp [scalD, PyData.eqv]) | (unfold neD eqOk; simp [scalD, PyData.eqv])
@[simp] theorem q_lstOf_1 (xs : List D) : lstOf (.lst xs) = some xs := by first | rfl | (cases a with | none => rfl | some a => cases a <;> rfl) | (simp [stoO, stoR, parR, Option.bind]) | (unfold eqD eqOk; simp [scalD, PyData.eqv]) | (unfold neD eqOk; simp [scalD, PyData.eqv])
@[simp] theorem q_oneOf_1 (d : D) : oneOf [d] = some d := by first | rfl | (cases a with | none => rfl | some a => cases a <;> rfl) | (simp [stoO, stoR, parR, Option.bind]) | (unfold eqD eqOk; simp [scalD, PyData.eqv]) | (unfold neD eqOk; simp [scalD, PyData.eqv])
@[simp] theorem q_isDic_1 (kvs : List (L2.Key × D)) : isDic (.dic kvs) = true := by first | rfl | (cases a with | none => rfl | some a => cases a <;> rfl) | (simp [stoO, stoR, parR, Option.bind]) | (unfold eqD eqOk; simp [scalD, PyData.eqv]) | (unfold neD eqOk; simp [scalD, PyData.eqv])
@[simp] theorem q_isDic_2 (xs : List D) : isDic (.lst xs) = false := by first | rfl | (cases a with | none => rfl | some a => cases a <;> rfl) | (simp [stoO, stoR, parR, Option.bind]) | (unfold eqD eqOk; simp [scalD, PyData.eqv]) | (unfold neD eqOk; simp [scalD, PyData.eqv])
@[simp] theorem q_datOf_1 (d : D) : datOf (.dat d) = some d := by first | rfl | (cases a with | none => rfl | some a => cases a <;> rfl) | (simp [stoO, stoR, parR, Option.bind]) | (unfold eqD eqOk; simp [scalD, PyData.eqv]) | (unfold neD eqOk; simp [scalD, PyData.eqv])
@[simp] theorem q_isBx_1 (d : D) : isBx (.dat d) = false := by first | rfl | (cases a with | none => rfl | some a => cases a <;> rfl) | (simp [stoO, stoR, parR, Option.bind]) | (unfold eqD eqOk; simp [scalD, PyData.eqv]) | (unfold neD eqOk; simp [scalD, PyData.eqv])
@[simp] theorem q_isBx_2 (o : Bool) (b : Bx) : isBx (.box o b) = true := by first | rfl | (cases a with | none => rfl | some a => cases a <;> rfl) | (simp [stoO, stoR, parR, Option.bind]) | (unfold eqD eqOk; simp [scalD, PyData.eqv]) | (unfold neD eqOk; simp [scalD, PyData.eqv])
@[simp] theorem q_outAs_1 (ρ : En) (i : Nat) : outAs ρ [] i = some [] := by first | rfl | (cases a with | none => rfl | some a => cases a <;> rfl) | (simp [stoO, stoR, parR, Option.bind]) | (unfold eqD eqOk; simp [scalD, PyData.eqv]) | (unfold neD eqOk; simp [scalD, PyData.eqv])
@[simp] theorem q_outAs_2 (ρ : En) (a : A) (as : List A) (i : Nat) : outAs ρ (a :: as) i = ((outA a ρ[i]?).bind fun x => (outAs ρ as (i + 1)).map fun xs => x :: xs) := by first | rfl | (cases a with | none => rfl | some a => cases a <;> rfl) | (simp [stoO, stoR, parR, Option.bind]) | (unfold eqD eqOk; simp [scalD, PyData.eqv]) | (unfold neD eqOk; simp [scalD, PyData.eqv])
@[simp] theorem q_outA_1 (d : D) (x : Option (Option A)) : outA (.dat d) x = some (.dat d) := by first | rfl | (cases a with | none => rfl | some a => cases a <;> rfl) | (simp [stoO, stoR, parR, Option.bind]) | (unfold eqD eqOk; simp [scalD, PyData.eqv]) | (unfold neD eqOk; simp [scalD, PyData.eqv])
@[simp] theorem q_outA_2 (o : Bool) (b b' : Bx) : outA (.box o b) (some (some (.box false b'))) = some (.box false b') := by first | rfl | (cases a with | none => rfl | some a => cases a <;> rfl) | (simp [stoO, stoR, parR, Option.bind]) | (unfold eqD eqOk; simp [scalD, PyData.eqv]) | (unfold neD eqOk; simp [scalD, PyData.eqv])
@[simp] theorem q_intR_1 (ρ : En) (i : Int) : intR ρ (.dat (.int i)) = some i := by first | rfl | (cases a with | none => rfl | some a => cases a <;> rfl) | (simp [stoO, stoR, parR, Option.bind]) | (unfold eqD eqOk; simp [scalD, PyData.eqv]) | (unfold neD eqOk; simp [scalD, PyData.eqv])
@[simp] theorem q_tyD_1 (T : String) (xs : List D) : tyD T (.list xs) = (T == "list") := by first | rfl | (cases a with | none => rfl | some a => cases a <;> rfl) | (simp [stoO, stoR, parR, Option.bind]) | (unfold eqD eqOk; simp [scalD, PyData.eqv]) | (unfold neD eqOk; simp [scalD, PyData.eqv])
@[simp] theorem q_tyD_2 (T : String) (xs : List (D × D)) : tyD T (.dict xs) = (T == "dict") := by first | rfl | (cases a with | none => rfl | some a => cases a <;> rfl) | (simp [stoO, stoR, parR, Option.bind]) | (unfold eqD eqOk; simp [scalD, PyData.eqv]) | (unfold neD eqOk; simp [scalD, PyData.eqv])
@[simp] theorem q_tyD_3 (T : String) (x : Str) : tyD T (.str x) = (T == "str") := by first | rfl | (cases a with | none => rfl | some a => cases a <;> rfl) | (simp [stoO, stoR, parR, Option.bind]) | (unfold eqD eqOk; simp [scalD, PyData.eqv]) | (unfold neD eqOk; simp [scalD, PyData.eqv])
@[simp] theorem q_wipeE_1 (ρ : En) : wipeE ρ [] = ρ := by first | rfl | (cases a with | none => rfl | some a => cases a <;> rfl) | (simp [stoO, stoR, parR, Option.bind]) | (unfold eqD eqOk; simp [scalD, PyData.eqv]) | (unfold neD eqOk; simp [scalD, PyData.eqv])
@[simp] theorem q_wipeE_2 (ρ : En) (v : Nat) (vs : List Nat) : wipeE ρ (v :: vs) = (wipeE ρ vs).set v none := by first | rfl | (cases a with | none => rfl | some a => cases a <;> rfl) | (simp [stoO, stoR, parR, Option.bind]) | (unfold eqD eqOk; simp [scalD, PyData.eqv]) | (unfold neD eqOk; simp [scalD, PyData.eqv])
@[simp] theorem q_keyD_1 (i : Int) : keyD (.int i) = some (.inl i) := by first | rfl | (cases a with | none => rfl | some a => cases a <;> rfl) | (simp [stoO, stoR, parR, Option.bind]) | (unfold eqD eqOk; simp [scalD, PyData.eqv]) | (unfold neD eqOk; simp [scalD, PyData.eqv])
@[simp] theorem q_keyD_2 (x : Str) : keyD (.str x) = some (.inr x) := by first | rfl | (cases a with | none => rfl | some a => cases a <;> rfl) | (simp [stoO, stoR, parR, Option.bind]) | (unfold eqD eqOk; simp [scalD, PyData.eqv]) | (unfold neD eqOk; simp [scalD, PyData.eqv])
@[simp] theorem q_ltD_1 (i j : Int) : ltD (.int i) (.int j) = some (.dat (.bool (decide (i < j)))) := by first | rfl | (cases a with | none => rfl | some a => cases a <;> rfl) | (simp [stoO, stoR, parR, Option.bind]) | (unfold eqD eqOk; simp [scalD, PyData.eqv]) | (unfold neD eqOk; simp [scalD, PyData.eqv])
@[simp] theorem q_leD_1 (i j : Int) : leD (.int i) (.int j) = some (.dat (.bool (decide (i ≤ j)))) := by first | rfl | (cases a with | none => rfl | some a => cases a <;> rfl) | (simp [stoO, stoR, parR, Option.bind]) | (unfold eqD eqOk; simp [scalD, PyData.eqv]) | (unfold neD eqOk; simp [scalD, PyData.eqv])
@[simp] theorem q_gtD_1 (i j : Int) : gtD (.int i) (.int j) = some (.dat (.bool (decide (j < i)))) := by first | rfl | (cases a with | none => rfl | some a => cases a <;> rfl) | (simp [stoO, stoR, parR, Option.bind]) | (unfold eqD eqOk; simp [scalD, PyData.eqv]) | (unfold neD eqOk; simp [scalD, PyData.eqv])
@[simp] theorem q_geD_1 (i j : Int) : geD (.int i) (.int j) = some (.dat (.bool (decide (j ≤ i)))) := by first | rfl | (cases a with | none => rfl | some a => cases a <;> rfl) | (simp [stoO, stoR, parR, Option.bind]) | (unfold eqD eqOk; simp [scalD, PyData.eqv]) | (unfold neD eqOk; simp [scalD, PyData.eqv])
@[simp] theorem q_addD_1 (i j : Int) : addD (.int i) (.int j) = some (.dat (.int (i + j))) := by first | rfl | (cases a with | none => rfl | some a => cases a <;> rfl) | (simp [stoO, stoR, parR, Option.bind]) | (unfold eqD eqOk; simp [scalD, PyData.eqv]) | (unfold neD eqOk; simp [scalD, PyData.eqv])
@[simp] theorem q_addI_1 (i j : Int) : addI (.int i) (.int j) = some (.dat (.int (i + j))) := by first | rfl | (cases a with | none => rfl | some a => cases a <;> rfl) | (simp [stoO, stoR, parR, Option.bind]) | (unfold eqD eqOk; simp [scalD, PyData.eqv]) | (unfold neD eqOk; simp [scalD, PyData.eqv])
@[simp] theorem q_subD_1 (i j : Int) : subD (.int i) (.int j) = some (.dat (.int (i - j))) := by first | rfl | (cases a with | none => rfl | some a => cases a <;> rfl) | (simp [stoO, stoR, parR, Option.bind]) | (unfold eqD eqOk; simp [scalD, PyData.eqv]) | (unfold neD eqOk; simp [scalD, PyData.eqv])
@[simp] theorem q_negD_1 (i : Int) : negD (.int i) = some (.dat (.int (-i))) := by first | rfl | (cases a with | none => rfl | some a => cases a <;> rfl) | (simp [stoO, stoR, parR, Option.bind]) | (unfold eqD eqOk; simp [scalD, PyData.eqv]) | (unfold neD eqOk; simp [scalD, PyData.eqv])
@[simp] theorem q_eqD_1 (i j : Int) : eqD (.int i) (.int j) = some (.dat (.bool (i == j))) := by first | rfl | (cases a with | none => rfl | some a => cases a <;> rfl) | (simp [stoO, stoR, parR, Option.bind]) | (unfold eqD eqOk; simp [scalD, PyData.eqv]) | (unfold neD eqOk; simp [scalD, PyData.eqv])
@[simp] theorem q_neD_1 (i j : Int) : neD (.int i) (.int j) = some (.dat (.bool (!(i == j)))) := by first | rfl | (cases a with | none => rfl | some a => cases a <;> rfl) | (simp [stoO, stoR, parR, Option.bind]) | (unfold eqD eqOk; simp [scalD, PyData.eqv]) | (unfold neD eqOk; simp [scalD, PyData.eqv])
@[simp] theorem q_eqD_2 (i j : Str) : eqD (.str i) (.str j) = some (.dat (.bool (i == j))) := by first | rfl | (cases a with | none => rfl | some a => cases a <;> rfl) | (simp [stoO, stoR, parR, Option.bind]) | (unfold eqD eqOk; simp [scalD, PyData.eqv]) | (unfold neD eqOk; simp [scalD, PyData.eqv])
@[simp] theorem q_neD_2 (i j : Str) : neD (.str i) (.str j) = some (.dat (.bool (!(i == j)))) := by first | rfl | (cases a with | none => rfl | some a => cases a <;> rfl) | (simp [stoO, stoR, parR, Option.bind]) | (unfold eqD eqOk; simp [scalD, PyData.eqv]) | (unfold neD eqOk; simp [scalD, PyData.eqv])
@[simp] theorem q_isD_1 (d : D) : isD d .none = some (.dat (.bool (isNoD d))) := by first | rfl | (cases a with | none => rfl | some a => cases a <;> rfl) | (simp [stoO, stoR, parR, Option.bind]) | (unfold eqD eqOk; simp [scalD, PyData.eqv]) | (unfold neD eqOk; simp [scalD, PyData.eqv])
@[simp] theorem q_isNotD_1 (d : D) : isNotD d .none = some (.dat (.bool (!isNoD d))) := by first | rfl | (cases a with | none => rfl | some a => cases a <;> rfl) | (simp [stoO, stoR, parR, Option.bind]) | (unfold eqD eqOk; simp [scalD, PyData.eqv]) | (unfold neD eqOk; simp [scalD, PyData.eqv])
@[simp] theorem q_ixD_1 (ds : List D) (i : Int) : ixD (.list ds) (.int i) = ((L2.atI ds i).bind fun d => some (.dat d)) := by first | rfl | (cases a with | none => rfl | some a => cases a <;> rfl) | (simp [stoO, stoR, parR, Option.bind]) | (unfold eqD eqOk; simp [scalD, PyData.eqv]) | (unfold neD eqOk; simp [scalD, PyData.eqv])
@[simp] theorem q_ixD_2 (ds : List D) (i : Int) : ixD (.tuple ds) (.int i) = ((L2.atI ds i).bind fun d => some (.dat d)) := by first | rfl | (cases a with | none => rfl | some a => cases a <;> rfl) | (simp [stoO, stoR, parR, Option.bind]) | (unfold eqD eqOk; simp [scalD, PyData.eqv]) | (unfold neD eqOk; simp [scalD, PyData.eqv])
@[simp] theorem q_ixD_3 (kvs : List (D × D)) (k : Str) : ixD (.dict kvs) (.str k) = ((valD kvs (.inr k)).bind fun d => some (.dat d)) := by first | rfl | (cases a with | none => rfl | some a => cases a <;> rfl) | (simp [stoO, stoR, parR, Option.bind]) | (unfold eqD eqOk; simp [scalD, PyData.eqv]) | (unfold neD eqOk; simp [scalD, PyData.eqv])
@[simp] theorem q_getD_1 (kvs : List (D × D)) (k : Str) (i : Int) : getD (.dict kvs) [.str k, .int i] = some (.dat ((valD kvs (.inr k)).getD (.int i))) := by first | rfl | (cases a with | none => rfl | some a => cases a <;> rfl) | (simp [stoO, stoR, parR, Option.bind]) | (unfold eqD eqOk; simp [scalD, PyData.eqv]) | (unfold neD eqOk; simp [scalD, PyData.eqv])
@[simp] theorem q_getD_2 (kvs : List (D × D)) (k : Str) (i : Bool) : getD (.dict kvs) [.str k, .bool i] = some (.dat ((valD kvs (.inr k)).getD (.bool i))) := by first | rfl | (cases a with | none => rfl | some a => cases a <;> rfl) | (simp [stoO, stoR, parR, Option.bind]) | (unfold eqD eqOk; simp [scalD, PyData.eqv]) | (unfold neD eqOk; simp [scalD, PyData.eqv])
@[simp] theorem q_getD_3 (kvs : List (D × D)) (i : Bool) : getD (.dict kvs) [.none, .bool i] = some (.dat (.bool i)) := by first | rfl | (cases a with | none => rfl | some a => cases a <;> rfl) | (simp [stoO, stoR, parR, Option.bind]) | (unfold eqD eqOk; simp [scalD, PyData.eqv]) | (unfold neD eqOk; simp [scalD, PyData.eqv])
@[simp] theorem q_slD_1 (ds : List D) (lo hi : Option Int) : slD (.list ds) lo hi = some (.new (.lst (cutL ds lo hi))) := by first | rfl | (cases a with | none => rfl | some a => cases a <;> rfl) | (simp [stoO, stoR, parR, Option.bind]) | (unfold eqD eqOk; simp [scalD, PyData.eqv]) | (unfold neD eqOk; simp [scalD, PyData.eqv])
@[simp] theorem q_slD_2 (ds : List D) (lo hi : Option Int) : slD (.tuple ds) lo hi = some (.dat (.tuple (cutL ds lo hi))) := by first | rfl | (cases a with | none => rfl | some a => cases a <;> rfl) | (simp [stoO, stoR, parR, Option.bind]) | (unfold eqD eqOk; simp [scalD, PyData.eqv]) | (unfold neD eqOk; simp [scalD, PyData.eqv])
@[simp] theorem q_lenD_1 (ds : List D) : lenD [.list ds] = some (.dat (.int ds.length)) := by first | rfl | (cases a with | none => rfl | some a => cases a <;> rfl) | (simp [stoO, stoR, parR, Option.bind]) | (unfold eqD eqOk; simp [scalD, PyData.eqv]) | (unfold neD eqOk; simp [scalD, PyData.eqv])
@[simp] theorem q_lenD_2 (ds : List D) : lenD [.tuple ds] = some (.dat (.int ds.length)) := by first | rfl | (cases a with | none => rfl | some a => cases a <;> rfl) | (simp [stoO, stoR, parR, Option.bind]) | (unfold eqD eqOk; simp [scalD, PyData.eqv]) | (unfold neD eqOk; simp [scalD, PyData.eqv])
@[simp] theorem q_lenD_3 (ds : List (D × D)) : lenD [.dict ds] = some (.dat (.int ds.length)) := by first | rfl | (cases a with | none => rfl | some a => cases a <;> rfl) | (simp [stoO, stoR, parR, Option.bind]) | (unfold eqD eqOk; simp [scalD, PyData.eqv]) | (unfold neD eqOk; simp [scalD, PyData.eqv])
@[simp] theorem q_tupleD_1 (ds : List D) : tupleD [.list ds] = some (.dat (.tuple ds)) := by first | rfl | (cases a with | none => rfl | some a => cases a <;> rfl) | (simp [stoO, stoR, parR, Option.bind]) | (unfold eqD eqOk; simp [scalD, PyData.eqv]) | (unfold neD eqOk; simp [scalD, PyData.eqv])
@[simp] theorem q_tupleD_2 (ds : List D) : tupleD [.tuple ds] = some (.dat (.tuple ds)) := by first | rfl | (cases a with | none => rfl | some a => cases a <;> rfl) | (simp [stoO, stoR, parR, Option.bind]) | (unfold eqD eqOk; simp [scalD, PyData.eqv]) | (unfold neD eqOk; simp [scalD, PyData.eqv])
@[simp] theorem q_listD_1 (ds : List D) : listD [.list ds] = some (.new (.lst ds)) := by first | rfl | (cases a with | none => rfl | some a => cases a <;> rfl) | (simp [stoO, stoR, parR, Option.bind]) | (unfold eqD eqOk; simp [scalD, PyData.eqv]) | (unfold neD eqOk; simp [scalD, PyData.eqv])
@[simp] theorem q_listD_2 (ds : List D) : listD [.tuple ds] = some (.new (.lst ds)) := by first | rfl | (cases a with | none => rfl | some a => cases a <;> rfl) | (simp [stoO, stoR, parR, Option.bind]) | (unfold eqD eqOk; simp [scalD, PyData.eqv]) | (unfold neD eqOk; simp [scalD, PyData.eqv])
@[simp] theorem q_listD_3 (kvs : List (D × D)) : listD [.dict kvs] = some (.new (.lst (kvs.map (·.1)))) := by first | rfl | (cases a with | none => rfl | some a => cases a <;> rfl) | (simp [stoO, stoR, parR, Option.bind]) | (unfold eqD eqOk; simp [scalD, PyData.eqv]) | (unfold neD eqOk; simp [scalD, PyData.eqv])
@[simp] theorem q_intD_1 (i : Int) : intD [.int i] = some (.dat (.int i)) := by first | rfl | (cases a with | none => rfl | some a => cases a <;> rfl) | (simp [stoO, stoR, parR, Option.bind]) | (unfold eqD eqOk; simp [scalD, PyData.eqv]) | (unfold neD eqOk; simp [scalD, PyData.eqv])
@[simp] theorem q_absD_1 (i : Int) : absD [.int i] = some (.dat (.int (if i < 0 then -i else i))) := by first | rfl | (cases a with | none => rfl | some a => cases a <;> rfl) | (simp [stoO, stoR, parR, Option.bind]) | (unfold eqD eqOk; simp [scalD, PyData.eqv]) | (unfold neD eqOk; simp [scalD, PyData.eqv])
@[simp] theorem q_max2D_1 (i j : Int) : max2D [.int i, .int j] = some (.dat (.int (if j > i then j else i))) := by first | rfl | (cases a with | none => rfl | some a => cases a <;> rfl) | (simp [stoO, stoR, parR, Option.bind]) | (unfold eqD eqOk; simp [scalD, PyData.eqv]) | (unfold neD eqOk; simp [scalD, PyData.eqv])
@[simp] theorem q_backA_1 (a : Option A) : backA none a = a := by first | rfl | (cases a with | none => rfl | some a => cases a <;> rfl) | (simp [stoO, stoR, parR, Option.bind]) | (unfold eqD eqOk; simp [scalD, PyData.eqv]) | (unfold neD eqOk; simp [scalD, PyData.eqv])
@[simp] theorem q_backA_2 (o : Bool) (b c : Bx) : backA (some c) (some (.box o b)) = some (.box o c) := by first | rfl | (cases a with | none => rfl | some a => cases a <;> rfl) | (simp [stoO, stoR, parR, Option.bind]) | (unfold eqD eqOk; simp [scalD, PyData.eqv]) | (unfold neD eqOk; simp [scalD, PyData.eqv])
@[simp] theorem q_min2D_1 (i j : Int) : min2D [.int i, .int j] = some (.dat (.int (if j < i then j else i))) := by first | rfl | (cases a with | none => rfl | some a => cases a <;> rfl) | (simp [stoO, stoR, parR, Option.bind]) | (unfold eqD eqOk; simp [scalD, PyData.eqv]) | (unfold neD eqOk; simp [scalD, PyData.eqv])
end L3

namespace L3
open PySem

/-! loops, by what holds of the items that are left -/
theorem forI_run {g : MG} {b : MS} {P : List D → En → Prop} (step : ∀ d r ρ, P (d :: r) ρ → ∃ ρ1 o ρ2, g d ρ = some ρ1 ∧ b ρ1 = some (o, ρ2) ∧ (o = .nx ∨ o = .ct) ∧ P r ρ2) :
    ∀ (ds : List D) (ρ : En), P ds ρ → ∃ ρ', mforI g b ds ρ = some (.nx, ρ') ∧ P [] ρ'
  | [], ρ, h => ⟨ρ, rfl, h⟩
  | d :: r, ρ, h => by
    obtain ⟨ρ1, o, ρ2, h1, h2, h3, h4⟩ := step d r ρ h
    obtain ⟨ρ', h5, h6⟩ := forI_run step r ρ2 h4
    refine ⟨ρ', ?_, h6⟩
    unfold mforI
    rw [h1, Option.bind_some, h2, Option.bind_some]
    rcases h3 with rfl | rfl <;> exact h5
/-- .., or it ends before by a return -/
theorem forI_ret {g : MG} {b : MS} {P : List D → En → Prop} {Z : R → En → Prop} (step : ∀ d r ρ, P (d :: r) ρ → ∃ ρ1 o ρ2, g d ρ = some ρ1 ∧ b ρ1 = some (o, ρ2) ∧ (((o = .nx ∨ o = .ct) ∧ P r ρ2) ∨ ∃ r, o = .rt r ∧ Z r ρ2)) :
    ∀ (ds : List D) (ρ : En), P ds ρ → (∃ ρ', mforI g b ds ρ = some (.nx, ρ') ∧ P [] ρ') ∨ ∃ r ρ', mforI g b ds ρ = some (.rt r, ρ') ∧ Z r ρ'
  | [], ρ, h => .inl ⟨ρ, rfl, h⟩
  | d :: r, ρ, h => by
    obtain ⟨ρ1, o, ρ2, h1, h2, h3⟩ := step d r ρ h
    rcases h3 with ⟨h3, h4⟩ | ⟨r', rfl, h4⟩
    · rcases forI_ret step r ρ2 h4 with ⟨ρ', h5, h6⟩ | ⟨r', ρ', h5, h6⟩
      · refine .inl ⟨ρ', ?_, h6⟩
        unfold mforI
        rw [h1, Option.bind_some, h2, Option.bind_some]
        rcases h3 with rfl | rfl <;> exact h5
      · refine .inr ⟨r', ρ', ?_, h6⟩
        unfold mforI
        rw [h1, Option.bind_some, h2, Option.bind_some]
        rcases h3 with rfl | rfl <;> exact h5
    · refine .inr ⟨r', ρ2, ?_, h4⟩
      unfold mforI
      rw [h1, Option.bind_some, h2, Option.bind_some]
/-- over a borrowed list that stays -/
theorem forS_eq {i : Nat} {g : MG} {b : MS} {xs : List D} (I : En → Prop) (hI : ∀ ρ, I ρ → lstB ρ i = some xs) (hs : ∀ d ρ ρ1 o ρ2, I ρ → g d ρ = some ρ1 → b ρ1 = some (o, ρ2) → I ρ2) :
    ∀ (ds : List D) (n : Nat) (ρ : En) (z : O × En), I ρ → xs.drop n = ds → mforI g b ds ρ = some z → mforS i g b ds n ρ = some z
  | [], n, ρ, z, h, hd, e => by
    unfold mforS
    rw [hI ρ h, Option.bind_some]
    have hl : xs.length ≤ n := by
      have := congrArg List.length hd
      rw [List.length_drop, List.length_nil] at this
      omega
    rw [show decide (xs.length ≤ n) = true from decide_eq_true hl]
    exact e
  | d :: r, n, ρ, z, h, hd, e => by
    unfold mforS
    unfold mforI at e
    have hx : xs[n]? = some d := by
      have := congrArg List.head? hd
      rw [List.head?_drop] at this
      exact this
    have hr : xs.drop (n + 1) = r := by
      rw [← List.tail_drop, hd]
      rfl
    rw [hI ρ h, Option.bind_some, hx, Option.bind_some]
    obtain ⟨ρ1, e1, e⟩ := Option.bind_eq_some_iff.mp e
    obtain ⟨⟨o, ρ2⟩, e2, e⟩ := Option.bind_eq_some_iff.mp e
    rw [e1, Option.bind_some, e2, Option.bind_some]
    have h2 := hs d ρ ρ1 o ρ2 h e1 e2
    cases o with
    | nx => exact forS_eq I hI hs r (n + 1) ρ2 z h2 hr e
    | ct => exact forS_eq I hI hs r (n + 1) ρ2 z h2 hr e
    | bk => exact e
    | rt r' => exact e
theorem forS_run {i : Nat} {xs : List D} {g : MG} {b : MS} {P : List D → En → Prop} (hI : ∀ r ρ, P r ρ → lstB ρ i = some xs) (step : ∀ d r ρ, P (d :: r) ρ → ∃ ρ1 o ρ2, g d ρ = some ρ1 ∧ b ρ1 = some (o, ρ2) ∧ (o = .nx ∨ o = .ct) ∧ P r ρ2) :
    ∀ (ds : List D) (n : Nat) (ρ : En), xs.drop n = ds → P ds ρ → ∃ ρ', mforS i g b ds n ρ = some (.nx, ρ') ∧ P [] ρ'
  | [], n, ρ, hd, h => by
    refine ⟨ρ, ?_, h⟩
    unfold mforS
    rw [hI _ ρ h, Option.bind_some]
    have hl : xs.length ≤ n := by
      have := congrArg List.length hd
      rw [List.length_drop, List.length_nil] at this
      omega
    rw [show decide (xs.length ≤ n) = true from decide_eq_true hl]
    rfl
  | d :: r, n, ρ, hd, h => by
    obtain ⟨ρ1, o, ρ2, h1, h2, h3, h4⟩ := step d r ρ h
    have hx : xs[n]? = some d := by
      have := congrArg List.head? hd
      rw [List.head?_drop] at this
      exact this
    have hr : xs.drop (n + 1) = r := by
      rw [← List.tail_drop, hd]
      rfl
    obtain ⟨ρ', h5, h6⟩ := forS_run hI step r (n + 1) ρ2 hr h4
    refine ⟨ρ', ?_, h6⟩
    unfold mforS
    rw [hI _ ρ h, Option.bind_some, hx, Option.bind_some, h1, Option.bind_some, h2, Option.bind_some]
    rcases h3 with rfl | rfl <;> exact h5
/-! comprehensions -/
/-- one turn -/
theorem turn_yes {g : MG} {t : MT} {m : ME} {vs : List Nat} {d d' : D} {acc : List D} {ρ ρ1 ρ2 ρ3 ρ4 : En} {y : R} (h1 : g d (wipeE ρ vs) = some ρ1) (h2 : t ρ1 = some (true, ρ2)) (h3 : m ρ2 = some (y, ρ3)) (h4 : fzs ρ3 [y.fz] = some ([d'], ρ4)) (h5 : acc.length < sizeLine) :
    mturn g t m vs d acc ρ = some (acc ++ [d'], ρ4) := by
  unfold mturn
  rw [h1, Option.bind_some, h2, Option.bind_some, if_pos rfl, h3, Option.bind_some, h4, Option.bind_some]
  show (guardO (decide (acc.length < sizeLine))).bind _ = _
  rw [show decide (acc.length < sizeLine) = true from decide_eq_true h5]
  rfl
theorem turn_no {g : MG} {t : MT} {m : ME} {vs : List Nat} {d : D} {acc : List D} {ρ ρ1 ρ2 : En} (h1 : g d (wipeE ρ vs) = some ρ1) (h2 : t ρ1 = some (false, ρ2)) : mturn g t m vs d acc ρ = some (acc, ρ2) := by
  unfold mturn
  rw [h1, Option.bind_some, h2, Option.bind_some, if_neg Bool.false_ne_true]
theorem lcI_run {g : MG} {t : MT} {m : ME} {vs : List Nat} {P : List D → List D → En → Prop} (step : ∀ d r acc ρ, P (d :: r) acc ρ → ∃ acc' ρ', mturn g t m vs d acc ρ = some (acc', ρ') ∧ P r acc' ρ') :
    ∀ (ds acc : List D) (ρ : En), P ds acc ρ → ∃ acc' ρ', mlcI g t m vs ds acc ρ = some (acc', ρ') ∧ P [] acc' ρ'
  | [], acc, ρ, h => ⟨acc, ρ, rfl, h⟩
  | d :: r, acc, ρ, h => by
    obtain ⟨acc1, ρ1, h1, h2⟩ := step d r acc ρ h
    obtain ⟨acc', ρ', h3, h4⟩ := lcI_run step r acc1 ρ1 h2
    refine ⟨acc', ρ', ?_, h4⟩
    unfold mlcI
    rw [h1, Option.bind_some]
    exact h3
theorem lcS_run {i : Nat} {xs : List D} {g : MG} {t : MT} {m : ME} {vs : List Nat} {P : List D → List D → En → Prop} (hI : ∀ r acc ρ, P r acc ρ → lstAt ρ i = some xs) (step : ∀ d r acc ρ, P (d :: r) acc ρ → ∃ acc' ρ', mturn g t m vs d acc ρ = some (acc', ρ') ∧ P r acc' ρ') :
    ∀ (ds : List D) (n : Nat) (acc : List D) (ρ : En), xs.drop n = ds → P ds acc ρ → ∃ acc' ρ', mlcS i g t m vs ds n acc ρ = some (acc', ρ') ∧ P [] acc' ρ'
  | [], n, acc, ρ, hd, h => by
    refine ⟨acc, ρ, ?_, h⟩
    unfold mlcS
    rw [hI _ _ ρ h, Option.bind_some]
    have hl : xs.length ≤ n := by
      have := congrArg List.length hd
      rw [List.length_drop, List.length_nil] at this
      omega
    rw [show decide (xs.length ≤ n) = true from decide_eq_true hl]
    rfl
  | d :: r, n, acc, ρ, hd, h => by
    obtain ⟨acc1, ρ1, h1, h2⟩ := step d r acc ρ h
    have hx : xs[n]? = some d := by
      have := congrArg List.head? hd
      rw [List.head?_drop] at this
      exact this
    have hr : xs.drop (n + 1) = r := by
      rw [← List.tail_drop, hd]
      rfl
    obtain ⟨acc', ρ', h3, h4⟩ := lcS_run hI step r (n + 1) acc1 ρ1 hr h2
    refine ⟨acc', ρ', ?_, h4⟩
    unfold mlcS
    rw [hI _ _ ρ h, Option.bind_some, hx, Option.bind_some, h1, Option.bind_some]
    exact h3
/-- a turn that changes nothing but the target's slots, F what it gives -/
def PureTurn (g : MG) (t : MT) (m : ME) (vs : List Nat) (ρ : En) (d : D) (o : Option D) : Prop := ∃ ρ1 c, g d (wipeE ρ vs) = some ρ1 ∧ wipeE ρ1 vs = wipeE ρ vs ∧ t ρ1 = some (c, ρ1) ∧ match o with
  | some d' => c = true ∧ m ρ1 = some (.dat d', ρ1)
  | none => c = false
theorem pure_turn {g : MG} {t : MT} {m : ME} {vs : List Nat} {ρ ρ' : En} {d : D} {o : Option D} {acc : List D} (h : PureTurn g t m vs ρ d o) (hw : wipeE ρ' vs = wipeE ρ vs) (hz : acc.length < sizeLine) :
    ∃ ρ2, mturn g t m vs d acc ρ' = some (acc ++ o.toList, ρ2) ∧ wipeE ρ2 vs = wipeE ρ vs := by
  obtain ⟨ρ1, c, h1, h2, h3, h4⟩ := h
  rw [← hw] at h1
  cases o with
  | none =>
    subst h4
    exact ⟨ρ1, by rw [turn_no h1 h3]; simp, h2⟩
  | some d' =>
    obtain ⟨rfl, h4⟩ := h4
    exact ⟨ρ1, turn_yes h1 h3 h4 rfl hz, h2⟩
theorem wipe_wipe (ρ : En) (vs : List Nat) : wipeE (wipeE ρ vs) vs = wipeE ρ vs := by
  refine List.ext_getElem? fun j => ?_
  rw [wipeE_get, wipeE_get]
  split
  · cases ρ[j]? <;> rfl
  · rfl
theorem lcI_pure {α : Type} {g : MG} {t : MT} {m : ME} {vs : List Nat} {ρ : En} {enc : α → D} {F : α → Option D} {xs : List α} (h : ∀ x ∈ xs, PureTurn g t m vs ρ (enc x) (F x)) (hz : xs.length ≤ sizeLine) :
    ∃ ρ', mlcI g t m vs (xs.map enc) [] (wipeE ρ vs) = some (xs.filterMap F, ρ') ∧ wipeE ρ' vs = wipeE ρ vs := by
  have key : ∀ (ds' : List α) (acc : List D) (ρ' : En), (∀ d ∈ ds', d ∈ xs) → acc.length + ds'.length ≤ sizeLine → wipeE ρ' vs = wipeE ρ vs → ∃ ρ'', mlcI g t m vs (ds'.map enc) acc ρ' = some (acc ++ ds'.filterMap F, ρ'') ∧ wipeE ρ'' vs = wipeE ρ vs := by
    intro ds'
    induction ds' with
    | nil => intro acc ρ' _ _ e; exact ⟨ρ', by simp [mlcI], e⟩
    | cons d r ih =>
      intro acc ρ' hm hl e
      rw [List.length_cons] at hl
      obtain ⟨ρ2, e1, e2⟩ := pure_turn (acc := acc) (h d (hm d List.mem_cons_self)) e (by omega)
      obtain ⟨ρ3, e3, e4⟩ := ih (acc ++ (F d).toList) ρ2 (fun x hx => hm x (List.mem_cons_of_mem _ hx)) (by
        rw [List.length_append]
        have : (F d).toList.length ≤ 1 := by cases F d <;> simp
        omega) e2
      refine ⟨ρ3, ?_, e4⟩
      rw [List.map_cons]
      unfold mlcI
      rw [e1, Option.bind_some, e3]
      cases hF : F d with
      | none => simp [List.filterMap_cons, hF]
      | some y => simp [List.filterMap_cons, hF]
  obtain ⟨ρ', h1, h2⟩ := key xs [] (wipeE ρ vs) (fun _ h => h) (by simpa using hz) (wipe_wipe ρ vs)
  exact ⟨ρ', by simpa using h1, h2⟩
theorem restE_back {ρ ρ' : En} {vs : List Nat} (h : wipeE ρ' vs = wipeE ρ vs) : restE ρ ρ' vs = ρ := by
  have hl : ρ'.length = ρ.length := by
    have := congrArg List.length h
    rwa [wipeE_len, wipeE_len] at this
  refine List.ext_getElem? fun j => ?_
  unfold restE
  rw [List.getElem?_mapIdx]
  by_cases hj : j ∈ vs
  · by_cases hlt : j < ρ.length
    · have h1 : ρ'[j]? = some ρ'[j] := List.getElem?_eq_getElem (by omega)
      have h2 : ρ[j]? = some ρ[j] := List.getElem?_eq_getElem hlt
      rw [h1, h2]
      simp [hj]
    · rw [List.getElem?_eq_none (by omega), List.getElem?_eq_none (by omega)]
      rfl
  · have e := congrArg (·[j]?) h
    simp only [wipeE_get, if_neg hj] at e
    rw [e]
    cases ρ[j]? with
    | none => rfl
    | some a => simp [hj]
/-- a comprehension whose turns change nothing -/
theorem lc_pure {α : Type} {g : MG} {t : MT} {m : ME} {vs : List Nat} {ρ : En} (enc : α → D) (F : α → Option D) (xs : List α) (h : ∀ x ∈ xs, PureTurn g t m vs ρ (enc x) (F x)) (hz : xs.length ≤ sizeLine) : lcT g t m vs (.items (xs.map enc)) ρ = some (.new (.lst (xs.filterMap F)), ρ) := by
  obtain ⟨ρ', h1, h2⟩ := lcI_pure h hz
  show lcE ρ vs (mlcI g t m vs (xs.map enc) [] (wipeE ρ vs)) = _
  rw [h1]
  show some (R.new (.lst _), restE ρ ρ' vs) = _
  rw [restE_back h2]
theorem lcS_pure {α : Type} {i : Nat} {g : MG} {t : MT} {m : ME} {vs : List Nat} {ρ : En} (enc : α → D) (F : α → Option D) (xs : List α) (hi : i ∉ vs) (hl : lstAt ρ i = some (xs.map enc)) (h : ∀ x ∈ xs, PureTurn g t m vs ρ (enc x) (F x)) (hz : xs.length ≤ sizeLine) :
    lcT g t m vs (.slot i (xs.map enc)) ρ = some (.new (.lst (xs.filterMap F)), ρ) := by
  have hlw : ∀ ρ', wipeE ρ' vs = wipeE ρ vs → lstAt ρ' i = some (xs.map enc) := fun ρ' e => by
    have e2 := congrArg (·[i]?) e
    simp only [wipeE_get, if_neg hi] at e2
    unfold lstAt at hl ⊢
    rw [e2]
    exact hl
  have key : ∀ (r : List α) (n : Nat) (acc : List D) (ρ' : En), xs.drop n = r → acc.length + r.length ≤ sizeLine → wipeE ρ' vs = wipeE ρ vs → ∃ ρ'', mlcS i g t m vs (r.map enc) n acc ρ' = some (acc ++ r.filterMap F, ρ'') ∧ wipeE ρ'' vs = wipeE ρ vs := by
    intro r
    induction r with
    | nil =>
      intro n acc ρ' hd _ e
      refine ⟨ρ', ?_, e⟩
      rw [List.map_nil]
      unfold mlcS
      rw [hlw ρ' e, Option.bind_some]
      have hl : (xs.map enc).length ≤ n := by
        have := congrArg List.length hd
        rw [List.length_drop, List.length_nil] at this
        rw [List.length_map]
        omega
      rw [show decide ((xs.map enc).length ≤ n) = true from decide_eq_true hl]
      simp [guardO]
    | cons d r ih =>
      intro n acc ρ' hd hl e
      rw [List.length_cons] at hl
      have hx : xs[n]? = some d := by
        have := congrArg List.head? hd
        rw [List.head?_drop] at this
        exact this
      have hr : xs.drop (n + 1) = r := by
        rw [← List.tail_drop, hd]
        rfl
      obtain ⟨ρ2, e1, e2⟩ := pure_turn (acc := acc) (h d (List.mem_of_getElem? hx)) e (by omega)
      obtain ⟨ρ3, e3, e4⟩ := ih (n + 1) (acc ++ (F d).toList) ρ2 hr (by
        rw [List.length_append]
        have : (F d).toList.length ≤ 1 := by cases F d <;> simp
        omega) e2
      refine ⟨ρ3, ?_, e4⟩
      rw [List.map_cons]
      unfold mlcS
      rw [hlw ρ' e, Option.bind_some, show (xs.map enc)[n]? = some (enc d) by rw [List.getElem?_map, hx]; rfl, Option.bind_some, e1, Option.bind_some, e3]
      cases hF : F d with
      | none => simp [List.filterMap_cons, hF]
      | some y => simp [List.filterMap_cons, hF]
  obtain ⟨ρ', h1, h2⟩ := key xs 0 [] (wipeE ρ vs) rfl (by simpa using hz) (wipe_wipe ρ vs)
  show lcE ρ vs ((guardO (decide (i ∉ vs))).bind fun _ => mlcS i g t m vs (xs.map enc) 0 [] (wipeE ρ vs)) = _
  rw [show decide (i ∉ vs) = true from decide_eq_true hi]
  show lcE ρ vs (mlcS i g t m vs (xs.map enc) 0 [] (wipeE ρ vs)) = _
  rw [h1]
  show some (R.new (.lst _), restE ρ ρ' vs) = _
  rw [restE_back h2]
  simp
/-! loops as folds: E s j the environment at the state s, j what else may lie there -/
theorem forI_fold {σ α J : Type} {g : MG} {b : MS} {enc : α → D} (E : σ → J → En) (f : σ → α → σ) (I : σ → List α → Prop)
    (step : ∀ s x r j, I s (x :: r) → ∃ ρ1 j', g (enc x) (E s j) = some ρ1 ∧ b ρ1 = some (.nx, E (f s x) j') ∧ I (f s x) r) :
    ∀ (xs : List α) (s : σ) (j : J), I s xs → ∃ j', mforI g b (xs.map enc) (E s j) = some (.nx, E (xs.foldl f s) j') ∧ I (xs.foldl f s) []
  | [], s, j, h => ⟨j, rfl, h⟩
  | x :: r, s, j, h => by
    obtain ⟨ρ1, j1, h1, h2, h3⟩ := step s x r j h
    obtain ⟨j', h4, h5⟩ := forI_fold E f I step r (f s x) j1 h3
    refine ⟨j', ?_, h5⟩
    rw [List.map_cons]
    unfold mforI
    rw [h1, Option.bind_some, h2, Option.bind_some]
    exact h4
theorem forS_fold {σ α J : Type} {i : Nat} {g : MG} {b : MS} {enc : α → D} {xs : List α} (E : σ → J → En) (f : σ → α → σ) (I : σ → List α → Prop) (hi : ∀ s j, lstB (E s j) i = some (xs.map enc))
    (step : ∀ s x r j, I s (x :: r) → ∃ ρ1 j', g (enc x) (E s j) = some ρ1 ∧ b ρ1 = some (.nx, E (f s x) j') ∧ I (f s x) r) (s : σ) (j : J) (h : I s xs) :
    ∃ j', mforS i g b (xs.map enc) 0 (E s j) = some (.nx, E (xs.foldl f s) j') ∧ I (xs.foldl f s) [] := by
  have key : ∀ (r : List α) (n : Nat) (s : σ) (j : J), xs.drop n = r → I s r → ∃ j', mforS i g b (r.map enc) n (E s j) = some (.nx, E (r.foldl f s) j') ∧ I (r.foldl f s) [] := by
    intro r
    induction r with
    | nil =>
      intro n s j hd h
      refine ⟨j, ?_, h⟩
      rw [List.map_nil]
      unfold mforS
      have hl : (xs.map enc).length ≤ n := by
        have := congrArg List.length hd
        rw [List.length_drop, List.length_nil] at this
        rw [List.length_map]
        omega
      rw [hi, Option.bind_some, show decide ((xs.map enc).length ≤ n) = true from decide_eq_true hl]
      rfl
    | cons x r ih =>
      intro n s j hd h
      have hx : xs[n]? = some x := by
        have := congrArg List.head? hd
        rw [List.head?_drop] at this
        exact this
      have hr : xs.drop (n + 1) = r := by
        rw [← List.tail_drop, hd]
        rfl
      obtain ⟨ρ1, j1, h1, h2, h3⟩ := step s x r j h
      obtain ⟨j', h4, h5⟩ := ih (n + 1) (f s x) j1 hr h3
      refine ⟨j', ?_, h5⟩
      rw [List.map_cons]
      unfold mforS
      rw [hi, Option.bind_some, show (xs.map enc)[n]? = some (enc x) by rw [List.getElem?_map, hx]; rfl, Option.bind_some, h1, Option.bind_some, h2, Option.bind_some]
      exact h4
  exact key xs 0 s j rfl h
/-- a slot that holds nothing or data -/
def sD (o : Option D) : Option A := o.map A.dat
theorem sD_none : sD none = none := rfl
theorem sD_some (d : D) : sD (some d) = some (.dat d) := rfl
end L3

namespace L3
open PySem
/-! comprehensions with two generators whose turns change nothing -/
theorem lcIT_pure {β : Type} {g : MG} {t : MT} {m : ME} {vs : List Nat} {ρ : En} {enc : β → D} {F : β → Option D} : ∀ (ys : List β) (acc : List D) (ρ' : En), (∀ y ∈ ys, PureTurn g t m vs ρ (enc y) (F y)) → acc.length + ys.length ≤ sizeLine → wipeE ρ' vs = wipeE ρ vs →
    ∃ ρ'', lcIT (fun d acc ρ => mturn g t m vs d acc ρ) (ys.map enc) acc ρ' = some (acc ++ ys.filterMap F, ρ'') ∧ wipeE ρ'' vs = wipeE ρ vs
  | [], acc, ρ', _, _, e => ⟨ρ', by simp [lcIT], e⟩
  | y :: r, acc, ρ', h, hl, e => by
    rw [List.length_cons] at hl
    obtain ⟨ρ2, e1, e2⟩ := pure_turn (acc := acc) (h y List.mem_cons_self) e (by omega)
    obtain ⟨ρ3, e3, e4⟩ := lcIT_pure r (acc ++ (F y).toList) ρ2 (fun x hx => h x (List.mem_cons_of_mem _ hx)) (by
      rw [List.length_append]
      have : (F y).toList.length ≤ 1 := by cases F y <;> simp
      omega) e2
    refine ⟨ρ3, ?_, e4⟩
    rw [List.map_cons]
    unfold lcIT
    rw [e1, Option.bind_some, e3]
    cases hF : F y with
    | none => simp [List.filterMap_cons, hF]
    | some z => simp [List.filterMap_cons, hF]
theorem lc2_pure {α β : Type} {mi mi1 : MI} {g g1 : MG} {t t1 : MT} {m : ME} {vs vs1 : List Nat} {ρ : En} (enc : α → D) (enc1 : β → D) (xs : List α) (ys : α → List β) (F : α → β → Option D) (hv : ∀ i ∈ vs1, i ∈ vs) (hi : mi ρ = some (.items (xs.map enc), ρ)) (nb : noBx ρ vs = true)
    (h : ∀ x ∈ xs, ∃ ρ1, g (enc x) (wipeE ρ vs) = some ρ1 ∧ wipeE ρ1 vs = wipeE ρ vs ∧ t ρ1 = some (true, ρ1) ∧ mi1 ρ1 = some (.items ((ys x).map enc1), ρ1) ∧ ∀ y ∈ ys x, PureTurn g1 t1 m vs1 ρ1 (enc1 y) (F x y))
    (hz : ((xs.map fun x => (ys x).length).sum) ≤ sizeLine) : mlc2 mi g t mi1 g1 t1 m vs vs1 ρ = some (.new (.lst (xs.flatMap fun x => (ys x).filterMap (F x))), ρ) := by
  have key : ∀ (r : List α) (acc : List D) (ρ' : En), (∀ x ∈ r, x ∈ xs) → acc.length + ((r.map fun x => (ys x).length).sum) ≤ sizeLine → wipeE ρ' vs = wipeE ρ vs →
      ∃ ρ'', lcIT (turn2 g t vs mi1 g1 t1 m vs1) (r.map enc) acc ρ' = some (acc ++ r.flatMap (fun x => (ys x).filterMap (F x)), ρ'') ∧ wipeE ρ'' vs = wipeE ρ vs := by
    intro r
    induction r with
    | nil => intro acc ρ' _ _ e; exact ⟨ρ', by simp [lcIT], e⟩
    | cons x r ih =>
      intro acc ρ' hm hl e
      rw [List.map_cons, List.sum_cons] at hl
      obtain ⟨ρ1, h1, h2, h3, h4, h5⟩ := h x (hm x List.mem_cons_self)
      obtain ⟨ρ2, e1, e2⟩ := lcIT_pure (ρ := ρ1) (ys x) acc (wipeE ρ1 vs1) h5 (by omega) (wipe_wipe ρ1 vs1)
      have hlen : ((ys x).filterMap (F x)).length ≤ (ys x).length := List.length_filterMap_le _ _
      have w2 : wipeE ρ2 vs = wipeE ρ vs := by
        rw [← wipeE_sub (ρ := ρ2) hv, e2, wipeE_sub hv, h2]
      obtain ⟨ρ3, e3, e4⟩ := ih (acc ++ (ys x).filterMap (F x)) ρ2 (fun z hz => hm z (List.mem_cons_of_mem _ hz)) (by rw [List.length_append]; omega) w2
      refine ⟨ρ3, ?_, e4⟩
      rw [List.map_cons]
      unfold lcIT
      have ht : turn2 g t vs mi1 g1 t1 m vs1 (enc x) acc ρ' = some (acc ++ (ys x).filterMap (F x), ρ2) := by
        unfold turn2
        rw [e, h1, Option.bind_some, h3, Option.bind_some, if_pos rfl, h4, Option.bind_some]
        exact e1
      rw [ht, Option.bind_some, e3, List.flatMap_cons, List.append_assoc]
  obtain ⟨ρ', h1, h2⟩ := key xs [] (wipeE ρ vs) (fun _ h => h) (by simpa using hz) (wipe_wipe ρ vs)
  unfold mlc2
  rw [hi, Option.bind_some]
  show (guardO (noBx ρ vs)).bind _ = _
  rw [nb]
  show (lcRun (turn2 g t vs mi1 g1 t1 m vs1) vs [] (.items (xs.map enc)) ρ).bind _ = _
  rw [show lcRun (turn2 g t vs mi1 g1 t1 m vs1) vs [] (.items (xs.map enc)) ρ = lcIT (turn2 g t vs mi1 g1 t1 m vs1) (xs.map enc) [] (wipeE ρ vs) from rfl, h1, Option.bind_some, List.nil_append]
  show some (R.new (.lst _), restE ρ ρ' vs) = _
  rw [restE_back h2]
/-! sorted({x: True for x in xs}, key=len) -/
theorem srl_items {i : Nat} {mi : MI} {ρ : En} {ds : List D} (h : mi ρ = some (.items ds, ρ)) (hi : i < ρ.length) (hl : ds.length ≤ 100000) (ht : ds.all tupK = true) : msrl i mi ρ = some (.new (.lst ((dedD ds).mergeSort leLen)), ρ) := by
  unfold msrl
  rw [h, Option.bind_some]
  show (guardO (decide (i < ρ.length))).bind _ = _
  rw [show decide (i < ρ.length) = true from decide_eq_true hi]
  show (guardO (decide (ds.length ≤ 100000) && ds.all tupK)).map _ = _
  rw [ht, show decide (ds.length ≤ 100000) = true from decide_eq_true hl]
  rfl
theorem srl_slot {i j : Nat} {mi : MI} {ρ : En} {ds ds' : List D} (h : mi ρ = some (.slot j ds', ρ)) (hj : lstAt ρ j = some ds) (hi : i < ρ.length) (hl : ds.length ≤ 100000) (ht : ds.all tupK = true) : msrl i mi ρ = some (.new (.lst ((dedD ds).mergeSort leLen)), ρ) := by
  unfold msrl
  rw [h, Option.bind_some]
  show (guardO (decide (i < ρ.length))).bind _ = _
  rw [show decide (i < ρ.length) = true from decide_eq_true hi]
  show (lstAt ρ j).bind _ = _
  rw [hj]
  show (guardO (decide (ds.length ≤ 100000) && ds.all tupK)).map _ = _
  rw [ht, show decide (ds.length ≤ 100000) = true from decide_eq_true hl]
  rfl
noncomputable def addN {α : Type} [DecidableEq α] (acc : List α) (x : α) : List α := if x ∈ acc then acc else acc ++ [x]
noncomputable def dedN {α : Type} [DecidableEq α] (xs : List α) : List α := xs.foldl addN []
theorem mem_addN {α : Type} [DecidableEq α] {acc : List α} {x y : α} : y ∈ addN acc x ↔ y ∈ acc ∨ y = x := by
  unfold addN
  split
  · exact ⟨.inl, fun h => h.elim id fun e => by rw [e]; assumption⟩
  · rw [List.mem_append, List.mem_singleton]
theorem mem_foldN {α : Type} [DecidableEq α] {y : α} : ∀ {xs acc : List α}, y ∈ xs.foldl addN acc ↔ y ∈ acc ∨ y ∈ xs
  | [], acc => by simp
  | x :: r, acc => by
    rw [List.foldl_cons, mem_foldN, mem_addN, List.mem_cons, or_assoc]
theorem mem_dedN {α : Type} [DecidableEq α] {xs : List α} {y : α} : y ∈ dedN xs ↔ y ∈ xs := by
  unfold dedN
  rw [mem_foldN]
  simp
theorem len_dedN {α : Type} [DecidableEq α] (xs : List α) : (dedN xs).length ≤ xs.length := by
  have key : ∀ (xs acc : List α), (xs.foldl addN acc).length ≤ acc.length + xs.length := by
    intro xs
    induction xs with
    | nil => intro acc; simp
    | cons x r ih =>
      intro acc
      have := ih (addN acc x)
      have h2 : (addN acc x).length ≤ acc.length + 1 := by unfold addN; split <;> simp
      rw [List.foldl_cons, List.length_cons]
      omega
  unfold dedN
  simpa using key xs []
theorem nodup_dedN {α : Type} [DecidableEq α] (xs : List α) : (dedN xs).Nodup := by
  have key : ∀ (xs acc : List α), acc.Nodup → (xs.foldl addN acc).Nodup := by
    intro xs
    induction xs with
    | nil => intro acc h; exact h
    | cons x r ih =>
      intro acc h
      refine ih _ ?_
      unfold addN
      split
      · exact h
      · rw [List.nodup_append]
        exact ⟨h, by simp, fun a ha b hb e => by rw [List.mem_singleton.mp hb] at e; rename_i hn; exact hn (by rw [← e]; exact ha)⟩
  exact key xs [] .nil
theorem dedD_map {α : Type} [DecidableEq α] {enc : α → D} (inj : ∀ x y, enc x = enc y → x = y) (xs : List α) : dedD (xs.map enc) = (dedN xs).map enc := by
  have key : ∀ (xs acc : List α), (xs.map enc).foldl addNew (acc.map enc) = (xs.foldl addN acc).map enc := by
    intro xs
    induction xs with
    | nil => intro acc; rfl
    | cons x r ih =>
      intro acc
      rw [List.map_cons, List.foldl_cons, List.foldl_cons, ← ih]
      congr 1
      unfold addNew addN
      have : enc x ∈ acc.map enc ↔ x ∈ acc := ⟨fun h => by obtain ⟨y, hy, e⟩ := List.mem_map.mp h; rw [← inj _ _ e]; exact hy, fun h => List.mem_map_of_mem h⟩
      by_cases h : x ∈ acc
      · rw [if_pos (this.mpr h), if_pos h]
      · rw [if_neg fun z => h (this.mp z), if_neg h, List.map_append]; rfl
  exact key xs []
theorem sortLen_map {α : Type} {enc : α → D} (xs : List α) : (xs.map enc).mergeSort leLen = (xs.mergeSort fun a b => leLen (enc a) (enc b)).map enc := (List.map_mergeSort (f := enc) (r := fun a b => leLen (enc a) (enc b)) (s := leLen) fun _ _ _ _ => rfl).symm
theorem sortD_map {α : Type} {enc : α → D} (xs : List α) : sortD (xs.map enc) = (xs.mergeSort fun a b => PySem.W.dataLe false id (enc a) (enc b)).map enc := (List.map_mergeSort (f := enc) (r := fun a b => PySem.W.dataLe false id (enc a) (enc b)) (s := PySem.W.dataLe false id) fun _ _ _ _ => rfl).symm
/-! the order of data is total; where signs tell the data apart, a sorted list is told by what is in it -/
theorem dle_trans (a b c : D) (h : PySem.W.dataLe false id a b = true) (h2 : PySem.W.dataLe false id b c = true) : PySem.W.dataLe false id a c = true := by
  have e : ∀ x y : D, PySem.W.dataLe false id x y = !PySem.W.dataLt y x := fun _ _ => rfl
  rw [e, Bool.not_eq_true'] at *
  cases h3 : PySem.W.dataLt c a with
  | false => rfl
  | true =>
    unfold PySem.W.dataLt at *
    cases h4 : PyProof.Rows.lexLt PyProof.Rows.itemOrd (PySem.W.keyToks a) (PySem.W.keyToks b) with
    | true =>
      have := PyProof.Rows.lex_trans _ _ _ h3 h4
      rw [this] at h2; cases h2
    | false =>
      have := PyProof.Rows.lex_total _ _ h4 h
      rw [this] at h3
      rw [h3] at h2; cases h2
theorem dle_total (a b : D) : (PySem.W.dataLe false id a b || PySem.W.dataLe false id b a) = true := by
  have e : ∀ x y : D, PySem.W.dataLe false id x y = !PySem.W.dataLt y x := fun _ _ => rfl
  rw [e, e]
  cases h1 : PySem.W.dataLt b a with
  | false => rfl
  | true =>
    cases h2 : PySem.W.dataLt a b with
    | false => rfl
    | true =>
      have := PyProof.Rows.lex_trans _ _ _ h1 h2
      rw [PyProof.Rows.lex_irrefl] at this
      cases this
theorem dle_toks {a b : D} (h : PySem.W.dataLe false id a b = true) (h2 : PySem.W.dataLe false id b a = true) : PySem.W.keyToks a = PySem.W.keyToks b := by
  have e : ∀ x y : D, PySem.W.dataLe false id x y = !PySem.W.dataLt y x := fun _ _ => rfl
  rw [e, Bool.not_eq_true'] at h h2
  exact PyProof.Rows.lex_total _ _ h2 h
theorem sortL_unique {α : Type} {enc : α → D} (inj : ∀ x y, PySem.W.keyToks (enc x) = PySem.W.keyToks (enc y) → x = y) {xs ys : List α} (p : xs.Perm ys) :
    (xs.mergeSort fun a b => PySem.W.dataLe false id (enc a) (enc b)) = ys.mergeSort fun a b => PySem.W.dataLe false id (enc a) (enc b) :=
  List.Perm.eq_of_pairwise (le := fun a b => PySem.W.dataLe false id (enc a) (enc b) = true) (fun a b _ _ h1 h2 => inj a b (dle_toks h1 h2)) (List.pairwise_mergeSort (fun a b c => dle_trans (enc a) (enc b) (enc c)) (fun a b => dle_total (enc a) (enc b)) xs) (List.pairwise_mergeSort (fun a b c => dle_trans (enc a) (enc b) (enc c)) (fun a b => dle_total (enc a) (enc b)) ys)
    (((List.mergeSort_perm _ _).trans p).trans (List.mergeSort_perm _ _).symm)
end L3

namespace L3
open PySem PySem.Spec PyProof.Rows

/-! texts of numbers -/
def numS (k : Nat) : Str := Str.ofString (toString ((k : Nat) : Int))
theorem numS_cps (k : Nat) : (numS k).cps.toList = (Nat.toDigits 10 k).map Char.toNat := PySem.W.KIN.signs_num k
theorem numS_inj {j k : Nat} (h : numS j = numS k) : j = k := by
  have h1 := congrArg (fun s : Str => PySem.NumText.digitsVal s.cps.toList) h
  simp only [numS_cps, PySem.W.KIN.val_back] at h1
  exact h1
theorem numS_len (k : Nat) : (numS k).length ≤ k + 1 := by
  have h1 := congrArg List.length (numS_cps k)
  rw [List.length_map] at h1
  have h2 := PyProof.Rows.tDigits_len_le 10 k
  show (numS k).cps.size ≤ k + 1
  rw [← Array.length_toList, h1]
  exact h2
theorem numS_digit {k c : Nat} (h : c ∈ (numS k).cps.toList) : 48 ≤ c ∧ c < 58 := by
  rw [numS_cps] at h
  obtain ⟨ch, h1, rfl⟩ := List.mem_map.mp h
  have h2 := Nat.isDigit_of_mem_toDigits (by decide) (by decide) h1
  unfold Char.isDigit at h2
  rw [Bool.and_eq_true, decide_eq_true_eq, decide_eq_true_eq] at h2
  exact ⟨h2.1, Nat.lt_succ_of_le h2.2⟩
/-- n and a number -/
def nmS (k : Nat) : Str := Str.ofString "n" ++ numS k
theorem nmS_cps (k : Nat) : (nmS k).cps.toList = 110 :: (numS k).cps.toList := by
  unfold nmS
  rw [Str.cps_append, Array.toList_append]
  rfl
theorem nmS_inj {j k : Nat} (h : nmS j = nmS k) : j = k := by
  have h1 := congrArg (fun s : Str => s.cps.toList) h
  simp only [nmS_cps, List.cons.injEq, true_and] at h1
  exact numS_inj (PySem.W.str_of_cps h1)
theorem nmS_len (k : Nat) : (nmS k).length = 1 + (numS k).length := by
  show (nmS k).cps.size = 1 + (numS k).cps.size
  rw [← Array.length_toList, nmS_cps, List.length_cons, Array.length_toList]
  omega
theorem nmS_ok (k : Nat) : PyData.strOk (nmS k) = true := by
  unfold PyData.strOk
  rw [← Array.all_toList, nmS_cps, List.all_cons]
  simp only [Bool.and_eq_true, List.all_eq_true, decide_eq_true_eq]
  exact ⟨by decide, fun c hc => by have := numS_digit hc; omega⟩
theorem pigeon {α : Type} [DecidableEq α] : ∀ (l : List α) (f : Nat → α), (∀ i j, f i = f j → i = j) → ∃ k, k ≤ l.length ∧ f k ∉ l
  | [], f, _ => ⟨0, Nat.le_refl _, by simp⟩
  | a :: r, f, hf => by
    by_cases ha : ∃ j, f j = a
    · obtain ⟨j, hj⟩ := ha
      obtain ⟨k, h1, h2⟩ := pigeon r (fun k => f (if k < j then k else k + 1)) (fun x y h => by
        have := hf _ _ h
        split at this <;> split at this <;> omega)
      refine ⟨if k < j then k else k + 1, ?_, ?_⟩
      · rw [List.length_cons]; split <;> omega
      · rw [List.mem_cons]
        rintro (h | h)
        · have := hf _ _ (h.trans hj.symm)
          split at this <;> omega
        · exact h2 h
    · obtain ⟨k, h1, h2⟩ := pigeon r f hf
      refine ⟨k, by rw [List.length_cons]; omega, ?_⟩
      rw [List.mem_cons]
      rintro (h | h)
      · exact ha ⟨k, h⟩
      · exact h2 h
/-- the first name that is free -/
theorem first_free (l : List Str) : ∃ k, k ≤ l.length ∧ nmS k ∉ l ∧ ∀ j, j < k → nmS j ∈ l := by
  obtain ⟨k, h1, h2⟩ := pigeon l nmS fun i j h => nmS_inj h
  have key : ∀ (n k : Nat), k ≤ n → nmS k ∉ l → ∃ m, m ≤ k ∧ nmS m ∉ l ∧ ∀ j, j < m → nmS j ∈ l := by
    intro n
    induction n with
    | zero => intro k hk h; exact ⟨k, Nat.le_refl _, h, fun j hj => by omega⟩
    | succ n ih =>
      intro k hk h
      by_cases hall : ∀ j, j < k → nmS j ∈ l
      · exact ⟨k, Nat.le_refl _, h, hall⟩
      · obtain ⟨j, hj⟩ := Classical.not_forall.mp hall
        obtain ⟨hj1, hj2⟩ := Classical.not_imp.mp hj
        obtain ⟨m, h3, h4, h5⟩ := ih j (by omega) hj2
        exact ⟨m, by omega, h4, h5⟩
  obtain ⟨m, h3, h4, h5⟩ := key k k (Nat.le_refl _) h2
  exact ⟨m, by omega, h4, h5⟩

/-! in, of texts -/
theorem eqv_str (s t : Str) : PyData.eqv (.str s) (.str t) = (s == t) := by simp [PyData.eqv]
theorem any_str (s : Str) (l : List Str) : ((l.map PyData.str).any fun z => PyData.eqv z (.str s)) = decide (s ∈ l) := by
  induction l with
  | nil => rfl
  | cons t r ih =>
    rw [List.map_cons, List.any_cons, ih, eqv_str]
    by_cases h : s = t
    · subst h; simp
    · have h' : ¬ t = s := fun z => h z.symm
      simp [h, h']
theorem flat_strs (l : List Str) : (l.map PyData.str).all flatD = true := by
  induction l with
  | nil => rfl
  | cons t r ih => simp [flatD]
theorem in_strs (s : Str) (l : List Str) : inD (.str s) (.list (l.map PyData.str)) = some (.dat (.bool (decide (s ∈ l)))) := by
  unfold inD inB
  simp only []
  rw [if_pos (by unfold inOkS; rw [flat_strs]; rfl), any_str]
  rfl
theorem notIn_strs (s : Str) (l : List Str) : notInD (.str s) (.list (l.map PyData.str)) = some (.dat (.bool (!decide (s ∈ l)))) := by
  unfold notInD inB
  simp only []
  rw [if_pos (by unfold inOkS; rw [flat_strs]; rfl), any_str]
  rfl
theorem in_strsT (s : Str) (l : List Str) : inD (.str s) (.tuple (l.map PyData.str)) = some (.dat (.bool (decide (s ∈ l)))) := by
  unfold inD inB
  simp only []
  rw [if_pos (by unfold inOkS; rw [flat_strs]; rfl), any_str]
  rfl
theorem notIn_strsT (s : Str) (l : List Str) : notInD (.str s) (.tuple (l.map PyData.str)) = some (.dat (.bool (!decide (s ∈ l)))) := by
  unfold notInD inB
  simp only []
  rw [if_pos (by unfold inOkS; rw [flat_strs]; rfl), any_str]
  rfl
theorem str_num {k : Nat} (h : k < 1900) : strD [.int (k : Int)] = some (.dat (.str (numS k))) := by
  unfold strD
  simp only []
  rw [if_pos]
  · rfl
  · have := Nat.log2_le_self k
    show (k : Int).natAbs.log2 < 1920
    rw [Int.natAbs_natCast]
    omega
theorem add_num {k : Nat} (h : k < 1900) : addD (.str (Str.ofString "n")) (.str (numS k)) = some (.dat (.str (nmS k))) := by
  have h1 := numS_len k
  unfold addD
  simp only []
  rw [if_pos]
  · rfl
  · rw [sizeLine_eq]
    show 1 + (numS k).length ≤ _
    omega
end L3

namespace L3
open PySem PySem.Spec PyProof.Rows

/-! data that can be shown: no dicts, ints from 0 to a million, plain texts -/
mutual
def okD : D → Bool
  | .none => true
  | .bool _ => true
  | .int i => decide (0 ≤ i ∧ i ≤ 1000000)
  | .str x => PyData.strOk x
  | .list xs => okL xs
  | .tuple xs => okL xs
  | .dict _ => false
def okL : List D → Bool
  | [] => true
  | x :: xs => okD x && okL xs
end
mutual
def wtD : D → Nat
  | .none => 4
  | .bool _ => 5
  | .int i => i.toNat + 2
  | .str x => 10 * x.length + 2
  | .list xs => 2 + wtL xs
  | .tuple xs => 3 + wtL xs
  | .dict _ => 0
def wtL : List D → Nat
  | [] => 0
  | x :: xs => wtD x + 2 + wtL xs
end
mutual
theorem okD_lay : ∀ d : D, okD d = true → d.canLay0 = true
  | .none, _ => by simp only [PyData.canLay0]
  | .bool _, _ => by simp only [PyData.canLay0]
  | .int _, _ => by simp only [PyData.canLay0]
  | .str x, h => by simpa only [PyData.canLay0, okD] using h
  | .list xs, h => by simp only [PyData.canLay0]; exact okL_lay xs (by simpa only [okD] using h)
  | .tuple xs, h => by simp only [PyData.canLay0]; exact okL_lay xs (by simpa only [okD] using h)
  | .dict _, h => by simp [okD] at h
theorem okL_lay : ∀ ds : List D, okL ds = true → PyData.canLayAll0 ds = true
  | [], _ => by simp only [PyData.canLayAll0]
  | d :: ds, h => by
    have h' : okD d = true ∧ okL ds = true := by simpa only [okL, Bool.and_eq_true] using h
    simp only [PyData.canLayAll0, okD_lay d h'.1, okL_lay ds h'.2, Bool.and_self]
end
mutual
theorem okD_show : ∀ d : D, okD d = true → d.showable = true
  | .none, _ => by simp only [PyData.showable]
  | .bool _, _ => by simp only [PyData.showable]
  | .int i, h => by
    have h' : 0 ≤ i ∧ i ≤ 1000000 := by simpa only [okD, decide_eq_true_eq] using h
    simp only [PyData.showable, decide_eq_true_eq]
    have h1 : i.natAbs < 2 ^ 20 := by omega
    by_cases h0 : i.natAbs = 0
    · rw [h0]; decide
    · have := (Nat.log2_lt h0).mpr h1
      omega
  | .str x, h => by simp only [PyData.showable]
  | .list xs, h => by simp only [PyData.showable]; exact okL_show xs (by simpa only [okD] using h)
  | .tuple xs, h => by simp only [PyData.showable]; exact okL_show xs (by simpa only [okD] using h)
  | .dict _, h => by simp [okD] at h
theorem okL_show : ∀ ds : List D, okL ds = true → PyData.showableAll ds = true
  | [], _ => by simp only [PyData.showableAll]
  | d :: ds, h => by
    have h' : okD d = true ∧ okL ds = true := by simpa only [okL, Bool.and_eq_true] using h
    simp only [PyData.showableAll, okD_show d h'.1, okL_show ds h'.2, Bool.and_self]
end
mutual
theorem eqv_self : ∀ d : D, okD d = true → PyData.eqv d d = true
  | .none, _ => by simp only [PyData.eqv]
  | .bool _, _ => by simp [PyData.eqv]
  | .int i, h => by simp [PyData.eqv]
  | .str x, h => by simp [PyData.eqv]
  | .list xs, h => by simp only [PyData.eqv]; exact eqvL_self xs (by simpa only [okD] using h)
  | .tuple xs, h => by simp only [PyData.eqv]; exact eqvL_self xs (by simpa only [okD] using h)
  | .dict _, h => by simp [okD] at h
theorem eqvL_self : ∀ ds : List D, okL ds = true → PyData.eqvAll ds ds = true
  | [], _ => by simp only [PyData.eqvAll]
  | d :: ds, h => by
    have h' : okD d = true ∧ okL ds = true := by simpa only [okL, Bool.and_eq_true] using h
    simp only [PyData.eqvAll, eqv_self d h'.1, eqvL_self ds h'.2, Bool.and_self]
end
def sumL : List Str → Nat
  | [] => 0
  | t :: r => t.length + 2 + sumL r
theorem textFrom_le : ∀ (ts : List Str) (k : Nat) (acc : Str), (textFrom k acc ts).length ≤ acc.length + sumL ts
  | [], k, acc => Nat.le_refl _
  | t :: r, k, acc => by
    have h := textFrom_le r (k + 1) (acc ++ (if k > 0 then ", " else "" : String) ++ t)
    have e : (acc ++ (if k > 0 then ", " else "" : String) ++ t).length ≤ acc.length + 2 + t.length := by
      rw [strLen_append, strLen_append]
      have : ((if k > 0 then ", " else "" : String) : Str).length ≤ 2 := by split <;> decide
      omega
    show (textFrom (k + 1) _ r).length ≤ acc.length + (t.length + 2 + sumL r)
    omega
theorem listText_le (ts : List Str) : (listText ts).length ≤ 2 + sumL ts := by
  unfold listText
  rw [strLen_append]
  have h := textFrom_le ts 0 "["
  have e1 : (("[" : String) : Str).length = 1 := rfl
  have e2 : (("]" : String) : Str).length = 1 := rfl
  omega
theorem join_le : ∀ ts : List Str, (Str.join ", " ts).length ≤ sumL ts
  | [] => Nat.le_refl _
  | [x] => by show x.length ≤ x.length + 2 + 0; omega
  | x :: y :: r => by
    have ih := join_le (y :: r)
    show (x ++ ", " ++ Str.join ", " (y :: r)).length ≤ x.length + 2 + sumL (y :: r)
    have e2 : ((", " : String) : Str).length = 2 := rfl
    rw [strLen_append, strLen_append]
    omega
theorem tupleText_le (ts : List Str) : (tupleText ts).length ≤ 3 + sumL ts := by
  unfold tupleText
  rw [strLen_append, strLen_append]
  have h := join_le ts
  have e1 : (("(" : String) : Str).length = 1 := rfl
  have e2 : ((if ts.length == 1 then ",)" else ")" : String) : Str).length ≤ 2 := by split <;> decide
  omega
mutual
theorem shown_le : ∀ d : D, okD d = true → d.shown.length ≤ wtD d
  | .none, _ => by simp only [PyData.shown, wtD]; decide
  | .bool b, _ => by cases b <;> simp only [PyData.shown, wtD] <;> decide
  | .int i, h => by
    have h' : 0 ≤ i ∧ i ≤ 1000000 := by simpa only [okD, decide_eq_true_eq] using h
    obtain ⟨k, rfl⟩ := Int.eq_ofNat_of_zero_le h'.1
    simp only [PyData.shown, wtD]
    have := numS_len k
    show (numS k).length ≤ (k : Int).toNat + 2
    rw [Int.toNat_natCast]
    omega
  | .str x, h => by
    have h' : PyData.strOk x = true := by simpa only [okD] using h
    simp only [PyData.shown, wtD]
    refine PySem.StrLaws.reprText_len x fun c hc => ?_
    unfold PyData.strOk at h'
    rw [← Array.all_toList, List.all_eq_true] at h'
    have := h' c hc
    rw [decide_eq_true_eq] at this
    omega
  | .list xs, h => by
    have h' : okL xs = true := by simpa only [okD] using h
    simp only [PyData.shown, wtD]
    exact Nat.le_trans (listText_le _) (Nat.add_le_add_left (shownL_le xs h') 2)
  | .tuple xs, h => by
    have h' : okL xs = true := by simpa only [okD] using h
    simp only [PyData.shown, wtD]
    exact Nat.le_trans (tupleText_le _) (Nat.add_le_add_left (shownL_le xs h') 3)
  | .dict _, h => by simp [okD] at h
theorem shownL_le : ∀ ds : List D, okL ds = true → sumL (PyData.shownAll ds) ≤ wtL ds
  | [], _ => by simp only [PyData.shownAll, sumL, wtL]; omega
  | d :: ds, h => by
    have h' : okD d = true ∧ okL ds = true := by simpa only [okL, Bool.and_eq_true] using h
    simp only [PyData.shownAll, sumL, wtL]
    have h1 := shown_le d h'.1
    have h2 := shownL_le ds h'.2
    omega
end
theorem okL_map {α : Type} {f : α → D} {xs : List α} (h : ∀ x ∈ xs, okD (f x) = true) : okL (xs.map f) = true := by
  induction xs with
  | nil => rfl
  | cons x r ih => simp only [List.map_cons, okL, h x List.mem_cons_self, ih fun y hy => h y (List.mem_cons_of_mem _ hy), Bool.and_self]
theorem wtL_map {α : Type} {f : α → D} {n : Nat} {xs : List α} (h : ∀ x ∈ xs, wtD (f x) ≤ n) : wtL (xs.map f) ≤ xs.length * (n + 2) := by
  induction xs with
  | nil => simp [wtL]
  | cons x r ih =>
    have h1 := h x List.mem_cons_self
    have h2 := ih fun y hy => h y (List.mem_cons_of_mem _ hy)
    simp only [List.map_cons, wtL, List.length_cons]
    rw [Nat.add_mul]
    omega
theorem depthL_le {n : Nat} : ∀ {ds : List D}, (∀ d ∈ ds, d.depth ≤ n) → PyData.depthAll ds ≤ n
  | [], _ => by simp only [PyData.depthAll]; exact Nat.zero_le _
  | d :: ds, h => by
    simp only [PyData.depthAll]
    exact Nat.max_le.mpr ⟨h d List.mem_cons_self, depthL_le fun x hx => h x (List.mem_cons_of_mem _ hx)⟩
/-- what repr and == may be asked of -/
structure ShowOk (d : D) : Prop where
  ok : okD d = true
  dep : d.depth ≤ 64
  wt : wtD d ≤ 16777216
theorem ShowOk.shaped {d : D} (h : ShowOk d) : SeqAt.shaped d = true := by
  unfold SeqAt.shaped
  rw [okD_lay d h.ok, decide_eq_true h.dep]
  rfl
theorem repr_show {d : D} (h : ShowOk d) (hd : displayD d = true) : reprD [d] = some (.dat (.str d.shown)) := by
  unfold reprD
  simp only []
  rw [if_pos ⟨hd, h.shaped, okD_show d h.ok, Nat.le_trans (shown_le d h.ok) (by rw [sizeLine_eq]; exact h.wt)⟩]
theorem eq_show {d : D} (h : ShowOk d) : eqD d d = some (.dat (.bool true)) := by
  unfold eqD eqOk
  rw [h.shaped, Bool.and_self, Bool.or_true, if_pos rfl, eqv_self d h.ok]
end L3

namespace L3
open PySem PySem.Spec PyProof.Rows L2

/-! dicts from texts, typed -/
section
variable {α : Type}
def dE (f : α → D) (c : List (Str × α)) : List (Key × D) := c.map fun p => (.inr p.1, f p.2)
def keyT (c : List (Str × α)) : List Str := c.map (·.1)
def getT (c : List (Str × α)) (k : Str) : Option α := (c.find? fun p => decide (p.1 = k)).map (·.2)
def putT (c : List (Str × α)) (k : Str) (v : α) : List (Str × α) := if k ∈ keyT c then c.map (fun p => if p.1 = k then (p.1, v) else p) else c ++ [(k, v)]
theorem getT_nil (k : Str) : getT ([] : List (Str × α)) k = none := rfl
theorem getT_cons (p : Str × α) (c : List (Str × α)) (k : Str) : getT (p :: c) k = if p.1 = k then some p.2 else getT c k := by
  unfold getT
  rw [List.find?_cons]
  by_cases h : p.1 = k <;> simp [h]
theorem getT_none {c : List (Str × α)} {k : Str} : getT c k = none ↔ k ∉ keyT c := by
  induction c with
  | nil => simp [getT_nil, keyT]
  | cons p r ih =>
    rw [getT_cons]
    show _ ↔ k ∉ p.1 :: keyT r
    rw [List.mem_cons, not_or, ← ih]
    by_cases h : p.1 = k
    · simp [h]
    · have h' : ¬ k = p.1 := fun z => h z.symm
      simp [h, h']
theorem getT_mem {c : List (Str × α)} {k : Str} {v : α} (h : getT c k = some v) : (k, v) ∈ c := by
  induction c with
  | nil => cases h
  | cons p r ih =>
    rw [getT_cons] at h
    split at h
    · rename_i e
      cases h
      rw [← e]
      exact List.mem_cons_self
    · exact List.mem_cons_of_mem _ (ih h)
theorem getT_of_mem {c : List (Str × α)} (hn : (keyT c).Nodup) {k : Str} {v : α} (h : (k, v) ∈ c) : getT c k = some v := by
  induction c with
  | nil => cases h
  | cons p r ih =>
    rw [getT_cons]
    have hn' : p.1 ∉ keyT r ∧ (keyT r).Nodup := List.nodup_cons.mp hn
    rcases List.mem_cons.mp h with rfl | h
    · simp
    · rw [if_neg, ih hn'.2 h]
      intro e
      exact hn'.1 (by rw [e]; exact List.mem_map.mpr ⟨_, h, rfl⟩)
theorem getT_put (c : List (Str × α)) (k : Str) (v : α) (j : Str) : getT (putT c k v) j = if j = k then some v else getT c j := by
  unfold putT
  split
  · rename_i hk
    have key : ∀ c : List (Str × α), getT (c.map fun p => if p.1 = k then (p.1, v) else p) j = if j = k then (if k ∈ keyT c then some v else none) else getT c j := by
      intro c
      induction c with
      | nil => by_cases h : j = k <;> simp [h, getT_nil, keyT]
      | cons p r ih =>
        rw [List.map_cons, getT_cons, getT_cons, ih]
        by_cases hp : p.1 = k
        · by_cases hj : j = k
          · subst hj; simp [hp, keyT]
          · have : ¬ p.1 = j := fun z => hj (z.symm.trans hp)
            have h3 : ¬ k = j := fun z => hj z.symm
            simp [hp, hj, h3]
        · by_cases hj : j = k
          · subst hj
            have h2 : ¬ j = p.1 := fun z => hp z.symm
            have h3 : (j ∈ keyT (p :: r)) = (j ∈ keyT r) := by
              show (j ∈ p.1 :: keyT r) = _
              rw [List.mem_cons]
              simp [h2]
            simp [hp, h3]
          · simp [hp, hj]
    rw [key, if_pos hk]
  · rename_i hk
    have key : ∀ c : List (Str × α), k ∉ keyT c → getT (c ++ [(k, v)]) j = if j = k then some v else getT c j := by
      intro c
      induction c with
      | nil =>
        intro _
        rw [List.nil_append, getT_cons, getT_nil]
        by_cases h : j = k
        · simp [h]
        · have : ¬ k = j := fun z => h z.symm
          simp [h, this]
      | cons p r ih =>
        intro h
        have h' : ¬ k = p.1 ∧ k ∉ keyT r := by
          have : k ∉ p.1 :: keyT r := h
          rwa [List.mem_cons, not_or] at this
        rw [List.cons_append, getT_cons, ih h'.2, getT_cons]
        by_cases hj : j = k
        · have : ¬ p.1 = j := fun z => h'.1 (hj.symm.trans z.symm)
          simp [hj]
          intro z; exact absurd z.symm h'.1
        · simp [hj]
    exact key c hk
theorem keyT_put (c : List (Str × α)) (k : Str) (v : α) : keyT (putT c k v) = if k ∈ keyT c then keyT c else keyT c ++ [k] := by
  unfold putT
  split
  · unfold keyT
    rw [List.map_map]
    refine List.map_congr_left fun p _ => ?_
    simp only [Function.comp]
    split <;> rfl
  · unfold keyT
    rw [List.map_append]
    rfl
theorem nodup_put {c : List (Str × α)} (h : (keyT c).Nodup) (k : Str) (v : α) : (keyT (putT c k v)).Nodup := by
  rw [keyT_put]
  split
  · exact h
  · rename_i hk
    rw [List.nodup_append]
    exact ⟨h, by simp, fun a ha b hb e => by
      rw [List.mem_singleton.mp hb] at e
      exact hk (e ▸ ha)⟩
theorem put_len (c : List (Str × α)) (k : Str) (v : α) : (putT c k v).length ≤ c.length + 1 := by
  unfold putT
  split
  · rw [List.length_map]; omega
  · rw [List.length_append]; exact Nat.le_refl _
theorem dE_any (f : α → D) (c : List (Str × α)) (k : Str) : ((dE f c).any fun kv => decide (kv.1 = Sum.inr k)) = decide (k ∈ keyT c) := by
  induction c with
  | nil => rfl
  | cons p r ih =>
    show (decide ((Sum.inr p.1 : Key) = Sum.inr k) || (dE f r).any _) = decide (k ∈ p.1 :: keyT r)
    rw [ih, Bool.eq_iff_iff]
    simp only [Bool.or_eq_true, decide_eq_true_eq, List.mem_cons, Sum.inr.injEq]
    constructor
    · rintro (h | h)
      · exact .inl h.symm
      · exact .inr h
    · rintro (h | h)
      · exact .inl h.symm
      · exact .inr h
theorem dE_put (f : α → D) (c : List (Str × α)) (k : Str) (v : α) : putKD (dE f c) (.inr k) (f v) = dE f (putT c k v) := by
  unfold putKD putT
  rw [dE_any]
  by_cases h : k ∈ keyT c
  · rw [if_pos (decide_eq_true h), if_pos h]
    unfold dE
    rw [List.map_map, List.map_map]
    refine List.map_congr_left fun p _ => ?_
    by_cases hp : p.1 = k
    · simp [hp]
    · simp [hp]
  · rw [if_neg (by rw [decide_eq_true_eq]; exact h), if_neg h]
    unfold dE
    rw [List.map_append]
    rfl
theorem dE_val (f : α → D) (c : List (Str × α)) (k : Str) : valD (dkv (dE f c)) (.inr k) = (getT c k).map f := by
  induction c with
  | nil => rfl
  | cons p r ih =>
    rw [getT_cons]
    show (if keyD (kD (.inr p.1)) = some (.inr k) then some (f p.2) else valD (dkv (dE f r)) (.inr k)) = _
    rw [keyD_kD, ih]
    by_cases h : p.1 = k
    · simp [h]
    · simp [h]
theorem dE_keys (f : α → D) (c : List (Str × α)) : (dkv (dE f c)).map (·.1) = (keyT c).map PyData.str := by
  unfold dkv dE keyT
  rw [List.map_map, List.map_map, List.map_map]
  rfl
theorem dE_vals (f : α → D) (c : List (Str × α)) : (dkv (dE f c)).map (·.2) = c.map fun p => f p.2 := by
  unfold dkv dE
  rw [List.map_map, List.map_map]
  rfl
theorem dE_len (f : α → D) (c : List (Str × α)) : (dkv (dE f c)).length = c.length := by
  unfold dkv dE
  rw [List.length_map, List.length_map]
theorem strs_all (l : List Str) : (l.map PyData.str).all isStrD = true := by
  induction l with
  | nil => rfl
  | cons t r ih => simp [isStrD]
theorem sorted_dE (f : α → D) (c : List (Str × α)) (h : c.length < 64) : sortedD [.dict (dkv (dE f c))] = some (.new (.lst ((sortS (keyT c)).map PyData.str))) := by
  unfold sortedD
  simp only []
  rw [if_pos, dE_keys, sortD_str]
  rw [dE_keys, dE_len]
  exact ⟨strs_all _, h⟩
/-- dict(pairs) -/
def encP (f : α → D) (p : Str × α) : D := .tuple [.str p.1, f p.2]
theorem pairsD_enc (f : α → D) (c : List (Str × α)) : pairsD (c.map (encP f)) = some (dE f c) := by
  induction c with
  | nil => rfl
  | cons p r ih =>
    rw [List.map_cons]
    unfold pairsD
    rw [ih]
    rfl
theorem merge_dE (f : α → D) : ∀ (st c : List (Str × α)), mergeKD (dE f c) (dE f st) = dE f (st.foldl (fun c p => putT c p.1 p.2) c)
  | [], c => rfl
  | p :: r, c => by
    show mergeKD (putKD (dE f c) (.inr p.1) (f p.2)) (dE f r) = _
    rw [dE_put, merge_dE f r]
    rfl
theorem fold_put : ∀ (st c : List (Str × α)), (keyT (c ++ st)).Nodup → st.foldl (fun c p => putT c p.1 p.2) c = c ++ st
  | [], c, _ => by simp
  | p :: r, c, h => by
    have hp : p.1 ∉ keyT c := by
      intro hm
      unfold keyT at h hm
      rw [List.map_append, List.nodup_append] at h
      exact h.2.2 _ hm _ (List.mem_map.mpr ⟨p, List.mem_cons_self, rfl⟩) rfl
    rw [List.foldl_cons]
    have e : putT c p.1 p.2 = c ++ [p] := by
      unfold putT
      rw [if_neg hp]
    rw [e, fold_put r (c ++ [p]) (by rw [List.append_assoc]; exact h), List.append_assoc]
    rfl
theorem dict_pairs (f : α → D) {st : List (Str × α)} (h : (keyT st).Nodup) : dictD [.tuple (st.map (encP f))] = some (.new (.dic (dE f st))) := by
  unfold dictD
  simp only []
  rw [pairsD_enc]
  show some (R.new (.dic (mergeKD (dE f []) (dE f st)))) = _
  rw [merge_dE, fold_put st [] (by simpa using h)]
  rfl
end
/-! sorted lists with the same members -/
theorem sort_unique {l m : List Str} (h1 : l.Pairwise fun a b => leS a b = true) (h2 : m.Pairwise fun a b => leS a b = true) (n1 : l.Nodup) (n2 : m.Nodup) (h : ∀ a, a ∈ l ↔ a ∈ m) : l = m :=
  List.Perm.eq_of_pairwise (fun a b _ _ h1 h2 => leS_antisymm h1 h2) h1 h2 ((List.perm_ext_iff_of_nodup n1 n2).mpr h)
end L3

namespace K21
open PySem L3
noncomputable section
/-- _law_alike(_law_found, _law_due); slots: _law_found, _law_due -/
def b__law_alike : MS := (mret (mandV (m2 eqD (mvar 0) (mvar 1)) (m2 eqD (mn reprD (mcons (mvar 0) mnil)) (mn reprD (mcons (mvar 1) mnil)))))
def m_law_alike : MF := mdef 2 b__law_alike
/-- _law_bag(_law_script); slots: _law_script, _law_cell -/
def M__law_bag_1 : ME := (mn absD (mcons (mvar 1) mnil))
def b__law_bag : MS := (mret (mlst (mcons (mcon (.int 0)) (mcons (mcon (.int 1234567891)) (mcons (mcon (.int 0)) (mcons (mlc (miseqC (msl slD (mvar 0) monone (mosome (mcon (.int 63))))) (gnm 1) myes M__law_bag_1 [1]) mnil))))))
def m_law_bag : MF := mdef 2 b__law_bag
/-- _law_kinds(_law_decls); slots: _law_decls, _law_decl -/
def T__law_kinds_1 : MT := (mtst (m2 inD (m2 ixD (mvar 1) (mcon (.int 0))) (mtup (mcons (mcon (.str (Str.ofString "plain"))) (mcons (mcon (.str (Str.ofString "once"))) (mcons (mcon (.str (Str.ofString "record"))) (mcons (mcon (.str (Str.ofString "choice"))) mnil)))))))
def M__law_kinds_1 : ME := (m2 ixD (mvar 1) (mcon (.int 1)))
def b__law_kinds : MS := (mret (m2 addD (mlst (mcons (mcon (.str (Str.ofString "num"))) (mcons (mcon (.str (Str.ofString "truth"))) mnil))) (mlc (miseqC (mvar 0)) (gnm 1) T__law_kinds_1 M__law_kinds_1 [1])))
def m_law_kinds : MF := mdef 2 b__law_kinds
/-- _law_declared_kinds(_law_decls); slots: _law_decls -/
def b__law_declared_kinds : MS := (mret (mn sortedD (mcons (msl slD (mcall m_law_kinds (mcons (mvar 0) mnil)) (mosome (mcon (.int 2))) monone) mnil)))
def m_law_declared_kinds : MF := mdef 1 b__law_declared_kinds
/-- _law_parts(_law_decl); slots: _law_decl, _law_name, _law_kind -/
def T__law_parts_1 : MT := (mtst (m2 isNotD (mvar 2) (mcon .none)))
def M__law_parts_1 : ME := (mvar 2)
def b__law_parts : MS := (mseq (mifS (mtst (m2 notInD (m2 ixD (mvar 0) (mcon (.int 0))) (mtup (mcons (mcon (.str (Str.ofString "record"))) (mcons (mcon (.str (Str.ofString "choice"))) mnil))))) (mret (mlst mnil)) mpass)
    (mret (mlc (miseqC (m2 ixD (mvar 0) (mcon (.int 2)))) (gtup [1, 2]) T__law_parts_1 M__law_parts_1 [1, 2])))
def m_law_parts : MF := mdef 3 b__law_parts
/-- _law_once_table(_law_decls); slots: _law_decls, _law_found, _law_decl, _law_part -/
def T__law_once_table_1 : MT := (mtru (m2 ixD (mvar 1) (mvar 3)))
def M__law_once_table_1 : ME := (mvar 3)
def L__law_once_table_2 : MS := (mifS (mtst (m2 inD (m2 ixD (mvar 2) (mcon (.int 0))) (mtup (mcons (mcon (.str (Str.ofString "plain"))) (mcons (mcon (.str (Str.ofString "once"))) (mcons (mcon (.str (Str.ofString "record"))) (mcons (mcon (.str (Str.ofString "choice"))) mnil))))))) (mput 1 (m2 ixD (mvar 2) (mcon (.int 1))) (morV (m2 eqD (m2 ixD (mvar 2) (mcon (.int 0))) (mcon (.str (Str.ofString "once")))) (m2 neD (mlc (miseqC (mcall m_law_parts (mcons (mvar 2) mnil))) (gnm 3) T__law_once_table_1 M__law_once_table_1 [3]) (mlst mnil)))) mpass)
def b__law_once_table : MS := (mseq (masg 1 (mdic [(.inr (Str.ofString "num"), .bool false), (.inr (Str.ofString "truth"), .bool false)]))
    (mseq (mfor (miseq (mvar 0)) (gnm 2) L__law_once_table_2)
    (mret (mvar 1))))
def m_law_once_table : MF := mdef 4 b__law_once_table
/-- _law_is_once(_law_decls, _law_kind); slots: _law_decls, _law_kind -/
def b__law_is_once : MS := (mret (m2 ixD (mcall m_law_once_table (mcons (mvar 0) mnil)) (mvar 1)))
def m_law_is_once : MF := mdef 2 b__law_is_once
/-- _law_take(_law_bag_here, _law_many); slots: _law_bag_here, _law_many, _law_begin, _law_second, _law_cell, _law_stirred, _law_value -/
def b__law_take : MS := (mseq (mifS (mtst (m2 eqD (m2 ixD (mvar 0) (mcon (.int 0))) (mcon (.int 0)))) (mseq (masg 4 (m2 ixD (m2 addD (msl slD (m2 ixD (mvar 0) (mcon (.int 3))) (mosome (m2 ixD (mvar 0) (mcon (.int 2)))) monone) (mlst (mcons (mcon (.int 0)) mnil))) (mcon (.int 0))))
    (mseq (maugL 0 addI (mcon (.int 2)) (mcon (.int 1)))
    (mseq (mifS (mtst (m2 geD (mvar 4) (m2 powD (mcon (.int 10)) (mcon (.int 18))))) (mput 0 (mcon (.int 0)) (mvar 4)) mpass)
    (mseq (masg 5 (m2 addD (m2 addD (m2 mulD (m2 ixD (mvar 0) (mcon (.int 1))) (mcon (.int 48271))) (m2 modD (mn intD (mcons (mvar 4) mnil)) (mcon (.int 2147483647)))) (m2 mulD (mcon (.int 7919)) (m2 ixD (mvar 0) (mcon (.int 2))))))
    (mput 0 (mcon (.int 1)) (m2 modD (mn intD (mcons (mvar 5) mnil)) (mcon (.int 2147483647)))))))) mpass)
    (mseq (mifS (mtst (m2 gtD (m2 ixD (mvar 0) (mcon (.int 0))) (mcon (.int 0)))) (mseq (masg 6 (m2 modD (mn intD (mcons (m2 ixD (mvar 0) (mcon (.int 0))) mnil)) (mvar 1)))
    (mseq (mput 0 (mcon (.int 0)) (m2 fdivD (mn intD (mcons (m2 ixD (mvar 0) (mcon (.int 0))) mnil)) (mvar 1)))
    (mret (mvar 6)))) mpass)
    (mseq (masg 2 (m2 modD (mn intD (mcons (m2 mulD (m2 addD (m2 ixD (mvar 0) (mcon (.int 1))) (mcon (.int 1))) (mcon (.int 39373))) mnil)) (mcon (.int 1000000007))))
    (mseq (masg 3 (m2 modD (mn intD (mcons (m2 mulD (m2 modD (mn intD (mcons (m2 mulD (mvar 2) (mvar 2)) mnil)) (mcon (.int 998244353))) (mcon (.int 30011))) mnil)) (mcon (.int 998244353))))
    (mret (m2 modD (mn intD (mcons (m2 fdivD (mvar 3) (mcon (.int 7))) mnil)) (mvar 1)))))))
def m_law_take : MF := mdef 7 b__law_take
/-- _law_some(_law_bag_here, _law_things); slots: _law_bag_here, _law_things -/
def b__law_some : MS := (mret (m2 ixD (mvar 1) (mcall m_law_take (mcons (mvar 0) (mcons (mn lenD (mcons (mvar 1) mnil)) mnil)))))
def m_law_some : MF := mdef 2 b__law_some
/-- _law_stock(_law_counts); slots: _law_counts, _law_kind -/
def T__law_stock_1 : MT := (mtst (m2 gtD (m2 ixD (mvar 0) (mvar 1)) (mcon (.int 0))))
def M__law_stock_1 : ME := (mtup (mcons (mvar 1) (mcons (m2 ixD (mvar 0) (mvar 1)) mnil)))
def b__law_stock : MS := (mret (mn tupleD (mcons (mlc (miseqC (mn sortedD (mcons (mvar 0) mnil))) (gnm 1) T__law_stock_1 M__law_stock_1 [1]) mnil)))
def m_law_stock : MF := mdef 2 b__law_stock
/-- _law_drawn_stock(_law_bag_here, _law_decls); slots: _law_bag_here, _law_decls, _law_found, _law_kind, _law_many -/
def L__law_drawn_stock_1 : MS := (mseq (masg 4 (mcall m_law_some (mcons (mvar 0) (mcons (mlst (mcons (mcon (.int 0)) (mcons (mcon (.int 0)) (mcons (mcon (.int 1)) (mcons (mcon (.int 1)) (mcons (mcon (.int 2)) (mcons (mcon (.int 3)) mnil))))))) mnil))))
    (mput 2 (mvar 3) (mif (mtru (mcall m_law_is_once (mcons (mvar 1) (mcons (mvar 3) mnil)))) (mvar 4) (mn min2D (mcons (mvar 4) (mcons (mcon (.int 1)) mnil))))))
def b__law_drawn_stock : MS := (mseq (masg 2 mdnew)
    (mseq (mfor (miseq (mcall m_law_declared_kinds (mcons (mvar 1) mnil))) (gnm 3) L__law_drawn_stock_1)
    (mret (mcall m_law_stock (mcons (mvar 2) mnil)))))
def m_law_drawn_stock : MF := mdef 5 b__law_drawn_stock
/-- _law_declared(_law_decls); slots: _law_decls, _law_found, _law_decl, _law_arm, _law_kind -/
def M__law_declared_1 : ME := (m2 ixD (mvar 2) (mcon (.int 1)))
def M__law_declared_2 : ME := (mvar 3)
def L__law_declared_3 : MS := (mifS (mtst (m2 eqD (m2 ixD (mvar 2) (mcon (.int 0))) (mcon (.str (Str.ofString "choice"))))) (mdrop (mmut "list" 1 extendD (mcons (mlc (miseqC (m2 ixD (mvar 2) (mcon (.int 2)))) (gtup [3, 4]) myes M__law_declared_2 [3, 4]) mnil))) mpass)
def b__law_declared : MS := (mseq (masg 1 (mlc (miseqC (mvar 0)) (gnm 2) myes M__law_declared_1 [2]))
    (mseq (mfor (miseq (mvar 0)) (gnm 2) L__law_declared_3)
    (mret (mvar 1))))
def m_law_declared : MF := mdef 5 b__law_declared
/-- _law_is_within(_law_decls); slots: _law_decls, _law_table, _law_many, _law_decl, _law_once, _law_part -/
def T__law_is_within_1 : MT := (mtst (m2 inD (m2 ixD (mvar 3) (mcon (.int 0))) (mtup (mcons (mcon (.str (Str.ofString "given"))) (mcons (mcon (.str (Str.ofString "def"))) mnil)))))
def M__law_is_within_1 : ME := (mcon (.int 1))
def T__law_is_within_2 : MT := (mtru (mm "dict" getD (mvar 1) (mcons (mvar 5) (mcons (mcon (.bool false)) mnil))))
def M__law_is_within_2 : ME := (mvar 5)
def L__law_is_within_3 : MS := (mifS (mtst (m2 notInD (m2 ixD (mvar 3) (mcon (.int 0))) (mtup (mcons (mcon (.str (Str.ofString "given"))) (mcons (mcon (.str (Str.ofString "def"))) mnil))))) (mput 1 (m2 ixD (mvar 3) (mcon (.int 1))) (morV (m2 eqD (m2 ixD (mvar 3) (mcon (.int 0))) (mcon (.str (Str.ofString "once")))) (m2 neD (mlc (miseqC (mcall m_law_parts (mcons (mvar 3) mnil))) (gnm 5) T__law_is_within_2 M__law_is_within_2 [5]) (mlst mnil)))) mpass)
def b__law_is_within : MS := (mseq (mpar 1 2 mdnew (mn lenD (mcons (mlc (miseqC (mvar 0)) (gnm 3) T__law_is_within_1 M__law_is_within_1 [3]) mnil)))
    (mseq (mfor (miseq (mvar 0)) (gnm 3) L__law_is_within_3)
    (mseq (masg 4 (mm "list" countD (m1 valuesD (mvar 1)) (mcons (mcon (.bool true)) mnil)))
    (mret (mandV (m2 ltD (mvar 4) (mcon (.int 7))) (mandV (m2 ltD (m2 subD (mn lenD (mcons (mvar 1) mnil)) (mvar 4)) (mcon (.int 6))) (m2 ltD (mvar 2) (mcon (.int 11)))))))))
def m_law_is_within : MF := mdef 6 b__law_is_within
/-- _law_mixed(_law_bag_here, _law_things); slots: _law_bag_here, _law_things, _law_found, _law_thing -/
def L__law_mixed_1 : MS := (mdrop (mmut "list" 2 insertD (mcons (mcall m_law_take (mcons (mvar 0) (mcons (m2 addD (mn lenD (mcons (mvar 2) mnil)) (mcon (.int 1))) mnil))) (mcons (mvar 3) mnil))))
def b__law_mixed : MS := (mseq (masg 2 (mlst mnil))
    (mseq (mfor (miseq (mvar 1)) (gnm 3) L__law_mixed_1)
    (mret (mvar 2))))
def m_law_mixed : MF := mdef 4 b__law_mixed
/-- _law_new_name(_law_bag_here, _law_had); slots: _law_bag_here, _law_had, _law_menu, _law_turn, _law_at, _law_name -/
def L__law_new_name_1 : MS := (mseq (masg 5 (mcall m_law_some (mcons (mvar 0) (mcons (mvar 2) mnil))))
    (mifS (mtst (m2 notInD (mvar 5) (mvar 1))) (mret (mvar 5)) mpass))
def C__law_new_name_2 : MT := (mtst (m2 inD (m2 addD (mcon (.str (Str.ofString "n"))) (mn strD (mcons (mvar 4) mnil))) (mvar 1)))
def L__law_new_name_2 : MS := (maug 4 addI (mcon (.int 1)))
def b__law_new_name : MS := (mseq (masg 2 (mlst (mcons (mcon (.str (Str.ofString "a"))) (mcons (mcon (.str (Str.ofString "b"))) (mcons (mcon (.str (Str.ofString "k"))) (mcons (mcon (.str (Str.ofString "x"))) (mcons (mcon (.str (Str.ofString "y"))) (mcons (mcon (.str (Str.ofString "z"))) (mcons (mcon (.str (Str.ofString "p"))) (mcons (mcon (.str (Str.ofString "q"))) (mcons (mcon (.str (Str.ofString "box"))) (mcons (mcon (.str (Str.ofString "key"))) (mcons (mcon (.str (Str.ofString "lock"))) (mcons (mcon (.str (Str.ofString "made"))) (mcons (mcon (.str (Str.ofString "last"))) (mcons (mcon (.str (Str.ofString "in"))) (mcons (mcon (.str (Str.ofString "to"))) (mcons (mcon (.str (Str.ofString "s1"))) (mcons (mcon (.str (Str.ofString "r2d2"))) mnil)))))))))))))))))))
    (mseq (mfor (mirng1 (mcons (mcon (.int 2)) mnil)) (gnm 3) L__law_new_name_1)
    (mseq (masg 4 (mcon (.int 0)))
    (mseq (mwh C__law_new_name_2 L__law_new_name_2)
    (mret (m2 addD (mcon (.str (Str.ofString "n"))) (mn strD (mcons (mvar 4) mnil))))))))
def m_law_new_name : MF := mdef 6 b__law_new_name
/-- _law_shaped(_law_bag_here, _law_decls, _law_word); slots: _law_bag_here, _law_decls, _law_word, _law_had, _law_kinds_here, _law_name, _law_many, _law_arms, _law_turn, _law_some_here, _law_fields, _law_arm, _law_field, _law_one, _law_kind -/
def M__law_shaped_1 : ME := (mcall m_law_some (mcons (mvar 0) (mcons (mvar 4) mnil)))
def T__law_shaped_2 : MT := (mtst (m2 neD (mvar 13) (mvar 5)))
def M__law_shaped_2 : ME := (mvar 13)
def M__law_shaped_3 : ME := (mtup (mcons (mvar 12) (mcons (mcall m_law_some (mcons (mvar 0) (mcons (mvar 4) mnil))) mnil)))
def M__law_shaped_4 : ME := (mvar 13)
def L__law_shaped_5 : MS := (mseq (masg 11 (mcall m_law_new_name (mcons (mvar 0) (mcons (m2 addD (m2 addD (mvar 3) (mlst (mcons (mvar 5) mnil))) (mlc (miseqC (mvar 7)) (gtup [13, 14]) myes M__law_shaped_4 [13, 14])) mnil))))
    (mdrop (mmut "list" 7 appendD (mcons (mtup (mcons (mvar 11) (mcons (mcall m_law_some (mcons (mvar 0) (mcons (m2 addD (mvar 4) (mlst (mcons (mcon .none) (mcons (mcon .none) mnil)))) mnil))) mnil))) mnil))))
def b__law_shaped : MS := (mseq (mpar 3 4 (mcall m_law_declared (mcons (mvar 1) mnil)) (mcall m_law_kinds (mcons (mvar 1) mnil)))
    (mseq (masg 5 (mcall m_law_new_name (mcons (mvar 0) (mcons (mvar 3) mnil))))
    (mseq (masg 6 (mcall m_law_some (mcons (mvar 0) (mcons (mlst (mcons (mcon (.int 2)) (mcons (mcon (.int 1)) (mcons (mcon (.int 3)) (mcons (mcon (.int 2)) mnil))))) mnil))))
    (mseq (mifS (mtst (m2 eqD (mvar 2) (mcon (.str (Str.ofString "given"))))) (mseq (masg 9 (mn tupleD (mcons (mlc (mirng1 (mcons (mcall m_law_some (mcons (mvar 0) (mcons (mlst (mcons (mcon (.int 1)) (mcons (mcon (.int 2)) (mcons (mcon (.int 0)) (mcons (mcon (.int 3)) mnil))))) mnil))) mnil)) (gnm 8) myes M__law_shaped_1 [8]) mnil)))
    (mret (mtup (mcons (mcon (.str (Str.ofString "given"))) (mcons (mvar 5) (mcons (mvar 9) (mcons (mcall m_law_some (mcons (mvar 0) (mcons (m2 addD (msl slD (mvar 4) (mosome (mcon (.int 2))) monone) (mvar 4)) mnil))) mnil))))))) mpass)
    (mseq (mifS (mtst (m2 eqD (mvar 2) (mcon (.str (Str.ofString "record"))))) (mseq (masg 10 (msl slD (mcall m_law_mixed (mcons (mvar 0) (mcons (m2 addD (mlc (miseqC (mlst (mcons (mcon (.str (Str.ofString "a"))) (mcons (mcon (.str (Str.ofString "b"))) (mcons (mcon (.str (Str.ofString "in"))) (mcons (mcon (.str (Str.ofString "left"))) mnil)))))) (gnm 13) T__law_shaped_2 M__law_shaped_2 [13]) (mlst (mcons (mvar 5) mnil))) mnil))) monone (mosome (mvar 6))))
    (mret (mtup (mcons (mcon (.str (Str.ofString "record"))) (mcons (mvar 5) (mcons (mn tupleD (mcons (mlc (miseqC (mvar 10)) (gnm 12) myes M__law_shaped_3 [12]) mnil)) mnil)))))) mpass)
    (mseq (masg 7 (mlst mnil))
    (mseq (mfor (mirng1 (mcons (mvar 6) mnil)) (gnm 8) L__law_shaped_5)
    (mret (mtup (mcons (mcon (.str (Str.ofString "choice"))) (mcons (mvar 5) (mcons (mn tupleD (mcons (mvar 7) mnil)) mnil))))))))))))
def m_law_shaped : MF := mdef 15 b__law_shaped
/-- _law_library(_law_bag_here, _law_most); slots: _law_bag_here, _law_most, _law_decls, _law_words, _law_word, _law_many, _law_rest -/
def L__law_library_1 : MS := (mdrop (mmut "list" 3 extendD (mcons (m2 mulD (mlst (mcons (mvar 4) mnil)) (mvar 5)) mnil)))
def C__law_library_2 : MT := (mandT (mtst (m2 ltD (mn lenD (mcons (mvar 3) mnil)) (mvar 1))) (mtst (m2 gtD (mcall m_law_take (mcons (mvar 0) (mcons (mcon (.int 9)) mnil))) (mcon (.int 0)))))
def L__law_library_2 : MS := (mdrop (mmut "list" 3 appendD (mcons (mif (mtst (m2 gtD (mcall m_law_take (mcons (mvar 0) (mcons (mcon (.int 40)) mnil))) (mcon (.int 0)))) (m2 ixD (mvar 6) (mcall m_law_take (mcons (mvar 0) (mcons (mn lenD (mcons (mvar 6) mnil)) mnil)))) (mcon (.str (Str.ofString "given")))) mnil)))
def L__law_library_3 : MS := (mifS (mtst (m2 inD (mvar 4) (mtup (mcons (mcon (.str (Str.ofString "once"))) (mcons (mcon (.str (Str.ofString "plain"))) mnil))))) (mdrop (mmut "list" 2 appendD (mcons (mtup (mcons (mvar 4) (mcons (mcall m_law_new_name (mcons (mvar 0) (mcons (mcall m_law_declared (mcons (mvar 2) mnil)) mnil))) mnil))) mnil))) (mdrop (mmut "list" 2 appendD (mcons (mcall m_law_shaped (mcons (mvar 0) (mcons (mvar 2) (mcons (mvar 4) mnil)))) mnil))))
def C__law_library_4 : MT := (mnot (mtru (mcall m_law_is_within (mcons (mvar 2) mnil))))
def L__law_library_4 : MS := (masg 2 (msl slD (mvar 2) monone (mosome (m1 negD (mcon (.int 1))))))
def b__law_library : MS := (mseq (mpar 2 3 (mlst mnil) (mlst mnil))
    (mseq (mfor (miseq (mtup (mcons (mtup (mcons (mcon (.str (Str.ofString "once"))) (mcons (mcall m_law_some (mcons (mvar 0) (mcons (mlst (mcons (mcon (.int 1)) (mcons (mcon (.int 2)) (mcons (mcon (.int 0)) (mcons (mcon (.int 4)) mnil))))) mnil))) mnil))) (mcons (mtup (mcons (mcon (.str (Str.ofString "plain"))) (mcons (mcall m_law_some (mcons (mvar 0) (mcons (mlst (mcons (mcon (.int 1)) (mcons (mcon (.int 0)) (mcons (mcon (.int 2)) (mcons (mcon (.int 3)) mnil))))) mnil))) mnil))) mnil)))) (gtup [4, 5]) L__law_library_1)
    (mseq (masg 3 (mcall m_law_mixed (mcons (mvar 0) (mcons (mvar 3) mnil))))
    (mseq (masg 6 (mlst (mcons (mcon (.str (Str.ofString "record"))) (mcons (mcon (.str (Str.ofString "choice"))) (mcons (mcon (.str (Str.ofString "given"))) (mcons (mcon (.str (Str.ofString "choice"))) (mcons (mcon (.str (Str.ofString "given"))) (mcons (mcon (.str (Str.ofString "record"))) (mcons (mcon (.str (Str.ofString "given"))) mnil)))))))))
    (mseq (mwh C__law_library_2 L__law_library_2)
    (mseq (mfor (miseq (msl slD (mvar 3) monone (mosome (mvar 1)))) (gnm 4) L__law_library_3)
    (mseq (mwh C__law_library_4 L__law_library_4)
    (mret (mn tupleD (mcons (mvar 2) mnil))))))))))
def m_law_library : MF := mdef 7 b__law_library
/-- stock_by(counts); slots: counts, kind -/
def T_stock_by_1 : MT := (mtst (m2 gtD (m2 ixD (mvar 0) (mvar 1)) (mcon (.int 0))))
def M_stock_by_1 : ME := (mtup (mcons (mvar 1) (mcons (m2 ixD (mvar 0) (mvar 1)) mnil)))
def b_stock_by : MS := (mret (mn tupleD (mcons (mlc (miseqC (mn sortedD (mcons (mvar 0) mnil))) (gnm 1) T_stock_by_1 M_stock_by_1 [1]) mnil)))
def p_stock_by : MF := mdef 2 b_stock_by
/-- added_by(once, stocks); slots: once, stocks, counts, stock, kind, count -/
def L_added_by_1 : MS := (mput 2 (mvar 4) (mif (mtst (m2 inD (mvar 4) (mvar 0))) (m2 addD (mm "dict" getD (mvar 2) (mcons (mvar 4) (mcons (mcon (.int 0)) mnil))) (mvar 5)) (mcon (.int 1))))
def L_added_by_2 : MS := (mfor (miseq (mvar 3)) (gtup [4, 5]) L_added_by_1)
def b_added_by : MS := (mseq (masg 2 mdnew)
    (mseq (mfor (miseq (mvar 1)) (gnm 3) L_added_by_2)
    (mret (mcall p_stock_by (mcons (mvar 2) mnil)))))
def p_added_by : MF := mdef 6 b_added_by
/-- once_table(declarations); slots: declarations, found, tree, _name, part -/
def M_once_table_1 : ME := (mm "dict" getD (mvar 1) (mcons (mvar 4) (mcons (mcon (.bool false)) mnil)))
def L_once_table_2 : MS := (mifS (mtst (m2 inD (m2 ixD (mvar 2) (mcon (.int 0))) (mtup (mcons (mcon (.str (Str.ofString "plain"))) (mcons (mcon (.str (Str.ofString "once"))) mnil))))) (mput 1 (m2 ixD (mvar 2) (mcon (.int 1))) (m2 eqD (m2 ixD (mvar 2) (mcon (.int 0))) (mcon (.str (Str.ofString "once"))))) (mifS (mtst (m2 inD (m2 ixD (mvar 2) (mcon (.int 0))) (mtup (mcons (mcon (.str (Str.ofString "record"))) (mcons (mcon (.str (Str.ofString "choice"))) mnil))))) (mput 1 (m2 ixD (mvar 2) (mcon (.int 1))) (mn anyD (mcons (mlc (miseqC (m2 ixD (mvar 2) (mcon (.int 2)))) (gtup [3, 4]) myes M_once_table_1 [3, 4]) mnil))) mpass))
def b_once_table : MS := (mseq (masg 1 mdnew)
    (mseq (mfor (miseq (mvar 0)) (gnm 2) L_once_table_2)
    (mret (mvar 1))))
def p_once_table : MF := mdef 5 b_once_table
/-- once_kinds(declarations); slots: declarations, table, kind -/
def T_once_kinds_1 : MT := (mtru (m2 ixD (mvar 1) (mvar 2)))
def M_once_kinds_1 : ME := (mvar 2)
def b_once_kinds : MS := (mseq (masg 1 (mcall p_once_table (mcons (mvar 0) mnil)))
    (mret (mn tupleD (mcons (mlc (miseqC (mn sortedD (mcons (mvar 1) mnil))) (gnm 2) T_once_kinds_1 M_once_kinds_1 [2]) mnil))))
def p_once_kinds : MF := mdef 3 b_once_kinds
/-- added(declarations, stocks); slots: declarations, stocks -/
def b_added : MS := (mret (mcall p_added_by (mcons (mcall p_once_kinds (mcons (mvar 0) mnil)) (mcons (mvar 1) mnil))))
def p_added : MF := mdef 2 b_added
/-- is_above(one, other); slots: one, other, counts, kind, count -/
def M_is_above_1 : ME := (m2 geD (mm "dict" getD (mvar 2) (mcons (mvar 3) (mcons (mcon (.int 0)) mnil))) (mvar 4))
def b_is_above : MS := (mseq (masg 2 (mn dictD (mcons (mvar 0) mnil)))
    (mret (mn allD (mcons (mlc (miseqC (mvar 1)) (gtup [3, 4]) myes M_is_above_1 [3, 4]) mnil))))
def p_is_above : MF := mdef 5 b_is_above
/-- is_met(lot, stock); slots: lot, stock, member -/
def M_is_met_1 : ME := (mcall p_is_above (mcons (mvar 1) (mcons (mvar 2) mnil)))
def b_is_met : MS := (mret (mn anyD (mcons (mlc (miseqC (mvar 0)) (gnm 2) myes M_is_met_1 [2]) mnil)))
def p_is_met : MF := mdef 3 b_is_met
/-- joined(stocks); slots: stocks, counts, stock, kind, count -/
def L_joined_1 : MS := (mput 1 (mvar 3) (mn max2D (mcons (mvar 4) (mcons (mm "dict" getD (mvar 1) (mcons (mvar 3) (mcons (mcon (.int 0)) mnil))) mnil))))
def L_joined_2 : MS := (mfor (miseq (mvar 2)) (gtup [3, 4]) L_joined_1)
def b_joined : MS := (mseq (masg 1 mdnew)
    (mseq (mfor (miseq (mvar 0)) (gnm 2) L_joined_2)
    (mret (mcall p_stock_by (mcons (mvar 1) mnil)))))
def p_joined : MF := mdef 5 b_joined
/-- least_of(stocks); slots: stocks, found, stock, other -/
def T_least_of_1 : MT := (mnot (mtru (mcall p_is_above (mcons (mvar 3) (mcons (mvar 2) mnil)))))
def M_least_of_1 : ME := (mvar 3)
def L_least_of_2 : MS := (mifS (mnot (mtru (mcall p_is_met (mcons (mvar 1) (mcons (mvar 2) mnil))))) (masg 1 (m2 addD (mlc (miseqC (mvar 1)) (gnm 3) T_least_of_1 M_least_of_1 [3]) (mlst (mcons (mvar 2) mnil)))) mpass)
def b_least_of : MS := (mseq (masg 1 (mlst mnil))
    (mseq (mfor (miseq (msrl 2 (miseqC (mvar 0)))) (gnm 2) L_least_of_2)
    (mret (mn tupleD (mcons (mn sortedE (mcons (mvar 1) mnil)) mnil)))))
def p_least_of : MF := mdef 4 b_least_of
/-- joins_of(lots); slots: lots, found, lot, one, other -/
def M_joins_of_1 : ME := (mcall p_joined (mcons (mtup (mcons (mvar 3) (mcons (mvar 4) mnil))) mnil))
def L_joins_of_2 : MS := (masg 1 (mcall p_least_of (mcons (mlc2 (miseqC (mvar 1)) (gnm 3) myes (miseqC (mvar 2)) (gnm 4) myes M_joins_of_1 [3, 4] [4]) mnil)))
def b_joins_of : MS := (mseq (masg 1 (mtup (mcons (mtup mnil) mnil)))
    (mseq (mfor (miseq (mvar 0)) (gnm 2) L_joins_of_2)
    (mret (mvar 1))))
def p_joins_of : MF := mdef 5 b_joins_of
/-- sums_of(declarations, lots); slots: declarations, lots, once, found, lot, one, other -/
def M_sums_of_1 : ME := (mcall p_added_by (mcons (mvar 2) (mcons (mtup (mcons (mvar 5) (mcons (mvar 6) mnil))) mnil)))
def L_sums_of_2 : MS := (masg 3 (mcall p_least_of (mcons (mlc2 (miseqC (mvar 3)) (gnm 5) myes (miseqC (mvar 4)) (gnm 6) myes M_sums_of_1 [5, 6] [6]) mnil)))
def b_sums_of : MS := (mseq (mpar 2 3 (mcall p_once_kinds (mcons (mvar 0) mnil)) (mtup (mcons (mtup mnil) mnil)))
    (mseq (mfor (miseq (mvar 1)) (gnm 4) L_sums_of_2)
    (mret (mvar 3))))
def p_sums_of : MF := mdef 7 b_sums_of
/-- taken(declarations, one, other); slots: declarations, one, other, once, counts, kind, count -/
def L_taken_1 : MS := (mput 4 (mvar 5) (mif (mtst (m2 inD (mvar 5) (mvar 3))) (m2 subD (m2 ixD (mvar 4) (mvar 5)) (mvar 6)) (m2 ixD (mvar 4) (mvar 5))))
def b_taken : MS := (mseq (mpar 3 4 (mcall p_once_kinds (mcons (mvar 0) mnil)) (mn dictD (mcons (mvar 1) mnil)))
    (mseq (mfor (miseq (mvar 2)) (gtup [5, 6]) L_taken_1)
    (mret (mcall p_stock_by (mcons (mvar 4) mnil)))))
def p_taken : MF := mdef 7 b_taken
/-- without_by(once, one, other); slots: once, one, other, counts, kind, count -/
def L_without_by_1 : MS := (mput 3 (mvar 4) (mif (mtst (m2 inD (mvar 4) (mvar 0))) (mn max2D (mcons (mcon (.int 0)) (mcons (m2 subD (mm "dict" getD (mvar 3) (mcons (mvar 4) (mcons (mcon (.int 0)) mnil))) (mvar 5)) mnil))) (mcon (.int 0))))
def b_without_by : MS := (mseq (masg 3 (mn dictD (mcons (mvar 1) mnil)))
    (mseq (mfor (miseq (mvar 2)) (gtup [4, 5]) L_without_by_1)
    (mret (mcall p_stock_by (mcons (mvar 3) mnil)))))
def p_without_by : MF := mdef 6 b_without_by
/-- without(declarations, one, other); slots: declarations, one, other -/
def b_without : MS := (mret (mcall p_without_by (mcons (mcall p_once_kinds (mcons (mvar 0) mnil)) (mcons (mvar 1) (mcons (mvar 2) mnil)))))
def p_without : MF := mdef 3 b_without
/-- law(_law_script); slots: _law_script, _law_bag_here, _law_turn, _law_decls, _law_one, _law_other, _law_third, _law_less, _law_both, _law_all_three, _law_rest, _law_kind, _law_count, _law_lots, _law_sums, _law_fewer, _law_k, _law_some_here, _law_name, _law_many, _law_lot -/
def M_law_1 : ME := (mcall m_law_drawn_stock (mcons (mvar 1) (mcons (mvar 3) mnil)))
def T_law_2 : MT := (mtst (m2 gtD (mvar 19) (mn intD (mcons (m2 eqD (mvar 18) (mvar 11)) mnil))))
def M_law_2 : ME := (mtup (mcons (mvar 18) (mcons (m2 subD (mvar 19) (mn intD (mcons (m2 eqD (mvar 18) (mvar 11)) mnil))) mnil)))
def L_law_3 : MS := (mseq (masg 15 (mn tupleD (mcons (mlc (miseqC (mvar 10)) (gtup [18, 19]) T_law_2 M_law_2 [18, 19]) mnil)))
    (mifS (mtru (mcall p_is_above (mcons (mcall p_added (mcons (mvar 3) (mcons (mlst (mcons (mvar 15) (mcons (mvar 5) mnil))) mnil))) (mcons (mvar 4) mnil)))) (mret (mcon (.bool false))) mpass))
def T_law_4 : MT := (mnot (mtru (mcall p_is_above (mcons (m2 ixD (mcall p_sums_of (mcons (mvar 3) (mcons (mlst (mcons (mtup (mcons (mvar 17) mnil)) mnil)) mnil))) (mcon (.int 0))) (mcons (mvar 17) mnil)))))
def M_law_4 : ME := (mcon (.int 1))
def T_law_5 : MT := (mnot (mtru (mcall p_is_met (mcons (mvar 20) (mcons (mvar 17) mnil)))))
def M_law_5 : ME := (mcon (.int 1))
def T_law_6 : MT := (mtst (m2 neD (mlc (miseqC (mvar 13)) (gnm 20) T_law_5 M_law_5 [20]) (mlst mnil)))
def M_law_6 : ME := (mcon (.int 1))
def L_law_7 : MS := (mseq (masg 3 (mcall m_law_library (mcons (mvar 1) (mcons (mcall m_law_some (mcons (mvar 1) (mcons (mlst (mcons (mcon (.int 6)) (mcons (mcon (.int 4)) (mcons (mcon (.int 9)) mnil)))) mnil))) mnil))))
    (mseq (masgG (glst [4, 5, 6, 7]) (mlc (mirng1 (mcons (mcon (.int 4)) mnil)) (gnm 16) myes M_law_1 [16]))
    (mseq (mpar 8 9 (mcall p_added (mcons (mvar 3) (mcons (mlst (mcons (mvar 4) (mcons (mvar 5) mnil))) mnil))) (mcall p_added (mcons (mvar 3) (mcons (mlst (mcons (mvar 4) (mcons (mvar 5) (mcons (mvar 6) mnil)))) mnil))))
    (mseq (mifS (morT (mnot (mtru (mcall p_is_above (mcons (mvar 8) (mcons (mvar 4) mnil))))) (morT (mnot (mtru (mcall p_is_above (mcons (mvar 9) (mcons (mvar 8) mnil))))) (morT (mnot (mtru (mcall p_is_above (mcons (mvar 9) (mcons (mvar 5) mnil))))) (mnot (mtru (mcall p_is_above (mcons (mvar 4) (mcons (mvar 4) mnil)))))))) (mret (mcon (.bool false))) mpass)
    (mseq (mifS (mandT (mtru (mcall p_is_above (mcons (mvar 4) (mcons (mvar 5) mnil)))) (mandT (mtru (mcall p_is_above (mcons (mvar 5) (mcons (mvar 4) mnil)))) (mtst (m2 neD (mvar 4) (mvar 5))))) (mret (mcon (.bool false))) mpass)
    (mseq (mifS (mnot (mtru (mcall m_law_alike (mcons (mlst (mcons (mcall p_added (mcons (mvar 3) (mcons (mlst (mcons (mvar 8) (mcons (mvar 6) mnil))) mnil))) (mcons (mcall p_added (mcons (mvar 3) (mcons (mlst (mcons (mvar 6) (mcons (mvar 5) (mcons (mvar 4) mnil)))) mnil))) (mcons (mcall p_joined (mcons (mlst (mcons (mvar 4) (mcons (mcall p_joined (mcons (mlst (mcons (mvar 5) (mcons (mvar 6) mnil))) mnil)) mnil))) mnil)) mnil)))) (mcons (mlst (mcons (mvar 9) (mcons (mvar 9) (mcons (mcall p_joined (mcons (mlst (mcons (mvar 6) (mcons (mvar 4) (mcons (mvar 5) mnil)))) mnil)) mnil)))) mnil))))) (mret (mcon (.bool false))) mpass)
    (mseq (mifS (morT (mnot (mtru (mcall p_is_above (mcons (mvar 8) (mcons (mcall p_joined (mcons (mlst (mcons (mvar 4) (mcons (mvar 5) mnil))) mnil)) mnil))))) (mnot (mtru (mcall p_is_above (mcons (mcall p_added (mcons (mvar 3) (mcons (mlst (mcons (mcall p_taken (mcons (mvar 3) (mcons (mvar 8) (mcons (mvar 5) mnil)))) (mcons (mvar 5) mnil))) mnil))) (mcons (mvar 8) mnil)))))) (mret (mcon (.bool false))) mpass)
    (mseq (masg 10 (mcall p_without (mcons (mvar 3) (mcons (mvar 4) (mcons (mvar 5) mnil)))))
    (mseq (mifS (morT (mnot (mtru (mcall p_is_above (mcons (mcall p_added (mcons (mvar 3) (mcons (mlst (mcons (mvar 10) (mcons (mvar 5) mnil))) mnil))) (mcons (mvar 4) mnil))))) (mnot (mtru (mcall p_is_above (mcons (mvar 4) (mcons (mvar 10) mnil)))))) (mret (mcon (.bool false))) mpass)
    (mseq (mfor (miseq (mvar 10)) (gtup [11, 12]) L_law_3)
    (mseq (masg 13 (mlst (mcons (mcall p_least_of (mcons (mlst (mcons (mvar 4) (mcons (mvar 5) (mcons (mvar 7) mnil)))) mnil)) (mcons (mcall p_least_of (mcons (mlst (mcons (mvar 6) (mcons (mvar 7) mnil))) mnil)) (mcons (mcall p_least_of (mcons (mlst (mcons (mvar 5) (mcons (mvar 9) mnil))) mnil)) mnil)))))
    (mseq (masg 14 (mcall p_sums_of (mcons (mvar 3) (mcons (mvar 13) mnil))))
    (mseq (mifS (mnot (mtru (mcall m_law_alike (mcons (mlst (mcons (mcall p_sums_of (mcons (mvar 3) (mcons (mrev (mvar 13)) mnil))) (mcons (mcall p_sums_of (mcons (mvar 3) (mcons (mlst (mcons (mcall p_sums_of (mcons (mvar 3) (mcons (msl slD (mvar 13) monone (mosome (mcon (.int 2)))) mnil))) (mcons (m2 ixD (mvar 13) (mcon (.int 2))) mnil))) mnil))) mnil))) (mcons (mlst (mcons (mvar 14) (mcons (mvar 14) mnil))) mnil))))) (mret (mcon (.bool false))) mpass)
    (mseq (mifS (morT (mnot (mtru (mcall p_is_met (mcons (mvar 14) (mcons (mcall p_added (mcons (mvar 3) (mcons (mlst (mcons (mvar 7) (mcons (mvar 7) (mcons (mvar 5) mnil)))) mnil))) mnil))))) (mtst (m2 neD (mlc (miseqC (mcall p_joins_of (mcons (mvar 13) mnil))) (gnm 17) T_law_4 M_law_4 [17]) (mlst mnil)))) (mret (mcon (.bool false))) mpass)
    (mifS (mtst (m2 neD (mlc (miseqC (mvar 14)) (gnm 17) T_law_6 M_law_6 [17]) (mlst mnil))) (mret (mcon (.bool false))) mpass)))))))))))))))
def b_law : MS := (mseq (masg 1 (mcall m_law_bag (mcons (mvar 0) mnil)))
    (mseq (mfor (mirng1 (mcons (mcon (.int 3)) mnil)) (gnm 2) L_law_7)
    (mret (mcon (.bool true)))))
def p_law : MF := mdef 21 b_law
end
end K21

namespace K21
open PySem PySem.Spec PyProof.Rows L3

/-! the bag -/
def BagOk (xs : List D) : Prop := ∃ (a b c : Int) (cs : List Int), xs = [.int a, .int b, .int c, .list (cs.map PyData.int)] ∧ cs.length ≤ 63
theorem cut_map (cs : List Int) (lo hi : Option Int) : cutL (cs.map PyData.int) lo hi = (cutL cs lo hi).map PyData.int := by
  unfold cutL
  rw [List.map_take, List.map_drop, List.length_map]
theorem cut_len {α : Type} (cs : List α) (lo hi : Option Int) : (cutL cs lo hi).length ≤ cs.length := by
  unfold cutL
  rw [List.length_take, List.length_drop]
  omega
theorem atI_0 (d : D) (r : List D) : L2.atI (d :: r) 0 = some d := by
  simp [L2.atI, L2.ixN]
theorem atI_l0 {a b c d : D} : L2.atI [a, b, c, d] 0 = some a := rfl
theorem atI_l1 {a b c d : D} : L2.atI [a, b, c, d] 1 = some b := rfl
theorem atI_l2 {a b c d : D} : L2.atI [a, b, c, d] 2 = some c := rfl
theorem atI_l3 {a b c d : D} : L2.atI [a, b, c, d] 3 = some d := rfl
theorem ixN_l0 : L2.ixN 4 0 = some 0 := rfl
theorem ixN_l1 : L2.ixN 4 1 = some 1 := rfl
theorem ixN_l2 : L2.ixN 4 2 = some 2 := rfl
theorem first_ok (cs : List Int) (lo : Int) : ∃ v, L2.atI (cutL (cs.map PyData.int) (some lo) none ++ [PyData.int 0]) 0 = some (.int v) := by
  rw [cut_map]
  cases cutL cs (some lo) none with
  | nil => exact ⟨0, atI_0 _ _⟩
  | cons x r => exact ⟨x, atI_0 _ _⟩
theorem size_63 {n : Nat} (h : n ≤ 63) : n + 1 ≤ sizeLine := by rw [sizeLine_eq]; omega
theorem bag_ok (ns : List Int) (h : ns.length ≤ 63) : ∃ bag, m_law_bag [.dat (.list (ns.map PyData.int))] = some (.new (.lst bag), [.dat (.list (ns.map PyData.int))]) ∧ BagOk bag := by
  unfold m_law_bag b__law_bag
  have hc : cutL (ns.map PyData.int) none (some 63) = ns.map PyData.int := by
    unfold cutL
    have h1 : HT.sIx (ns.map PyData.int).length 0 none = 0 := HT.sIx_none _ _
    have h2 : HT.sIx (ns.map PyData.int).length (ns.map PyData.int).length (some 63) = (ns.map PyData.int).length := by
      rw [show ((63 : Int)) = ((63 : Nat) : Int) from rfl, HT.sIx_nat, List.length_map]
      omega
    rw [h1, h2, List.drop_zero, Nat.sub_zero, List.take_length]
  have hp := lc_pure (g := gnm 1) (t := myes) (m := M__law_bag_1) (vs := [1]) (ρ := [some (.dat (.list (ns.map PyData.int))), none]) PyData.int (fun i => some (.int (if i < 0 then -i else i))) ns (fun i _ => by
      refine ⟨[some (.dat (.list (ns.map PyData.int))), some (.dat (.int i))], true, ?_, ?_, rfl, rfl, ?_⟩
      · simp [sizeLine_eq, startE, argA, bxIx, back, newC, notBor, bxAt, restE, noBx, lstB, lstAt, isNoD]
      · simp [sizeLine_eq, startE, argA, bxIx, back, newC, notBor, bxAt, restE, noBx, lstB, lstAt, isNoD]
      · simp [sizeLine_eq, startE, argA, bxIx, back, newC, notBor, bxAt, restE, noBx, lstB, lstAt, isNoD, M__law_bag_1]) (by rw [sizeLine_eq]; omega)
  rw [show (ns.filterMap fun i => some (PyData.int (if i < 0 then -i else i))) = (ns.map fun i => if i < 0 then -i else i).map PyData.int by rw [List.filterMap_eq_map', List.map_map]; rfl] at hp
  refine ⟨[.int 0, .int 1234567891, .int 0, .list ((ns.map fun i => if i < 0 then -i else i).map PyData.int)], ?_, 0, 1234567891, 0, _, rfl, by rw [List.length_map]; exact h⟩
  have hz : (4 : Nat) ≤ sizeLine := by decide
  simp [sizeLine_eq, startE, argA, bxIx, back, newC, notBor, bxAt, restE, noBx, lstB, lstAt, isNoD, hc, hp, hz]
theorem mul_l {i : Int} (j : Int) (h : -(2 ^ 64) < i ∧ i < 2 ^ 64) : mulD (.int i) (.int j) = some (.dat (.int (i * j))) := by
  unfold mulD
  simp only []
  rw [if_pos (Or.inl h)]
theorem mul_r (i : Int) {j : Int} (h : -(2 ^ 64) < j ∧ j < 2 ^ 64) : mulD (.int i) (.int j) = some (.dat (.int (i * j))) := by
  unfold mulD
  simp only []
  rw [if_pos (Or.inr h)]
theorem mul_mod (x y : Int) : mulD (.int (x % 1000000007)) (.int y) = some (.dat (.int (x % 1000000007 * y))) := mul_l y ⟨by omega, by omega⟩
theorem mul_c1 (x : Int) : mulD (.int x) (.int 48271) = some (.dat (.int (x * 48271))) := mul_r x (by decide)
theorem mul_c2 (x : Int) : mulD (.int 7919) (.int x) = some (.dat (.int (7919 * x))) := mul_l x (by decide)
theorem mul_c3 (x : Int) : mulD (.int x) (.int 39373) = some (.dat (.int (x * 39373))) := mul_r x (by decide)
theorem mul_c4 (x : Int) : mulD (.int x) (.int 30011) = some (.dat (.int (x * 30011))) := mul_r x (by decide)
theorem take_ok {xs : List D} (h : BagOk xs) (n : Int) (h0 : 0 < n) (h1 : n < 1073741824) : ∃ v ys, m_law_take [.box false (.lst xs), .dat (.int n)] = some (.dat (.int v), [.box false (.lst ys), .dat (.int n)]) ∧ BagOk ys ∧ 0 ≤ v ∧ v < n := by
  obtain ⟨a, b, c, cs, rfl, hl⟩ := h
  obtain ⟨v, hv⟩ := first_ok cs c
  have hz : (cutL (cs.map PyData.int) (some c) none).length + 1 ≤ 16777216 := by
    have := cut_len (cs.map PyData.int) (some c) none
    rw [List.length_map] at this
    omega
  unfold m_law_take b__law_take
  have e1 : 0 ≤ ((b + 1) * 39373) % 1000000007 := Int.emod_nonneg _ (by omega)
  have hn : n ≠ 0 := by omega
  have fin : ∀ (a b c : Int) (x : Int), BagOk [.int a, .int b, .int c, .list (cs.map PyData.int)] ∧ 0 ≤ x % n ∧ x % n < n := fun a b c x => ⟨⟨a, b, c, cs, rfl, hl⟩, Int.emod_nonneg _ hn, Int.emod_lt_of_pos _ h0⟩
  by_cases ha : a = 0
  · subst ha
    by_cases hb : 1000000000000000000 ≤ v
    · have hb2 : 0 < v := by omega
      simp [sizeLine_eq, startE, argA, bxIx, back, newC, notBor, bxAt, restE, noBx, lstB, lstAt, isNoD, atI_l0, atI_l1, atI_l2, atI_l3, ixN_l0, ixN_l1, ixN_l2, hv, addD, hz, mul_mod, mul_c1, mul_c2, mul_c3, mul_c4, modD, fdivD, powD, hb, hb2, h0, h1]
      exact ⟨_, _, ⟨rfl, rfl⟩, fin _ _ _ _⟩
    · simp [sizeLine_eq, startE, argA, bxIx, back, newC, notBor, bxAt, restE, noBx, lstB, lstAt, isNoD, atI_l0, atI_l1, atI_l2, atI_l3, ixN_l0, ixN_l1, ixN_l2, hv, addD, hz, mul_mod, mul_c1, mul_c2, mul_c3, mul_c4, modD, fdivD, powD, hb, h0, h1]
      exact ⟨_, _, ⟨rfl, rfl⟩, fin _ _ _ _⟩
  · have ha' : (a == 0) = false := by simp [ha]
    by_cases hb : 0 < a
    · simp [sizeLine_eq, startE, argA, bxIx, back, newC, notBor, bxAt, restE, noBx, lstB, lstAt, isNoD, atI_l0, atI_l1, atI_l2, atI_l3, ixN_l0, ixN_l1, ixN_l2, hv, addD, hz, mul_mod, mul_c1, mul_c2, mul_c3, mul_c4, modD, fdivD, powD, ha', hb, h0, h1]
      exact ⟨_, _, ⟨rfl, rfl⟩, fin _ _ _ _⟩
    · simp [sizeLine_eq, startE, argA, bxIx, back, newC, notBor, bxAt, restE, noBx, lstB, lstAt, isNoD, atI_l0, atI_l1, atI_l2, atI_l3, ixN_l0, ixN_l1, ixN_l2, hv, addD, hz, mul_mod, mul_c1, mul_c2, mul_c3, mul_c4, modD, fdivD, powD, ha', hb, h0, h1]
      exact ⟨_, _, ⟨rfl, rfl⟩, fin _ _ _ _⟩
end K21

namespace K21
open PySem PySem.Spec PyProof.Rows L3
/-- a list, as data or lent -/
def IsL (x : A) (ds : List D) : Prop := x = .dat (.list ds) ∨ x = .box false (.lst ds)
theorem atI_get (ds : List D) (v : Int) (h0 : 0 ≤ v) (h1 : v < ds.length) : ∃ d, L2.atI ds v = some d ∧ d ∈ ds := by
  have hv : v.toNat < ds.length := by omega
  refine ⟨ds[v.toNat], ?_, List.getElem_mem hv⟩
  unfold L2.atI L2.ixN
  rw [if_pos h0, if_pos h1, Option.bind_some, List.getElem?_eq_getElem hv]
theorem some_ok {bag : List D} (hb : BagOk bag) {x : A} {ds : List D} (hx : IsL x ds) (hd : ds ≠ []) (hl : ds.length < 1073741824) :
    ∃ d bag', m_law_some [.box false (.lst bag), x] = some (.dat d, [.box false (.lst bag'), x]) ∧ d ∈ ds ∧ BagOk bag' := by
  have hp : 0 < ds.length := List.length_pos_iff.mpr hd
  obtain ⟨v, bag', h1, h2, h3, h4⟩ := take_ok hb (ds.length : Int) (by omega) (by omega)
  obtain ⟨d, h5, h6⟩ := atI_get ds v h3 h4
  refine ⟨d, bag', ?_, h6, h2⟩
  unfold m_law_some b__law_some
  rcases hx with rfl | rfl
  · simp [sizeLine_eq, startE, argA, bxIx, back, newC, notBor, bxAt, restE, noBx, lstB, lstAt, isNoD, h1, h5]
  · simp [sizeLine_eq, startE, argA, bxIx, back, newC, notBor, bxAt, restE, noBx, lstB, lstAt, isNoD, h1, h5]
theorem perm_ins {α : Type} (ys : List α) (n : Nat) (y : α) : (ys.take n ++ ([y] ++ ys.drop n)).Perm (ys ++ [y]) := by
  have h1 : (ys.take n ++ ([y] ++ ys.drop n)).Perm (ys.take n ++ (ys.drop n ++ [y])) := List.Perm.append_left _ List.perm_append_comm
  have h2 : ys.take n ++ (ys.drop n ++ [y]) = ys ++ [y] := by rw [← List.append_assoc, List.take_append_drop]
  rw [h2] at h1
  exact h1
theorem mixed_ok {bag : List D} (hb : BagOk bag) {x : A} {ds : List D} (hx : IsL x ds) (hl : ds.length < 1000) :
    ∃ ys bag', m_law_mixed [.box false (.lst bag), x] = some (.new (.lst ys), [.box false (.lst bag'), x]) ∧ ys.Perm ds ∧ BagOk bag' := by
  have step : ∀ (d : D) (r : List D) (ρ : En), (∃ bag ys done z, BagOk bag ∧ ds = done ++ (d :: r) ∧ ys.Perm done ∧ ρ = [some (.box false (.lst bag)), some x, some (.box true (.lst ys)), z] ∧ (z = none ∨ ∃ e, z = some (.dat e))) →
      ∃ ρ1 o ρ2, gnm 3 d ρ = some ρ1 ∧ L__law_mixed_1 ρ1 = some (o, ρ2) ∧ (o = .nx ∨ o = .ct) ∧ (∃ bag ys done z, BagOk bag ∧ ds = done ++ r ∧ ys.Perm done ∧ ρ2 = [some (.box false (.lst bag)), some x, some (.box true (.lst ys)), z] ∧ (z = none ∨ ∃ e, z = some (.dat e))) := by
    rintro d r ρ ⟨bag, ys, done, z, hb, hd, hp, rfl, hz⟩
    have hlen : ys.length < 1000 := by
      rw [hp.length_eq]
      have := congrArg List.length hd
      rw [List.length_append] at this
      omega
    obtain ⟨v, bag', h1, h2, h3, h4⟩ := take_ok hb ((ys.length : Int) + 1) (by omega) (by omega)
    refine ⟨[some (.box false (.lst bag)), some x, some (.box true (.lst ys)), some (.dat d)], .nx, [some (.box false (.lst bag')), some x, some (.box true (.lst (ys.take v.toNat ++ ([d] ++ ys.drop v.toNat)))), some (.dat d)], ?_, ?_, .inl rfl, bag', _, done ++ [d], _, h2, by simp [hd], (perm_ins _ _ _).trans (hp.append_right [d]), rfl, .inr ⟨d, rfl⟩⟩
    · rcases hz with rfl | ⟨e, rfl⟩ <;> simp [sizeLine_eq, startE, argA, bxIx, back, newC, notBor, bxAt, restE, noBx, lstB, lstAt, isNoD]
    · have hlen2 : ys.length < 16777216 := by omega
      have hv2 : v < 9223372036854775808 := by omega
      unfold L__law_mixed_1
      simp [sizeLine_eq, startE, argA, bxIx, back, newC, notBor, bxAt, restE, noBx, lstB, lstAt, isNoD, h1, insertD, hlen2, h3, hv2]
  have h0 : ∃ bag' ys done z, BagOk bag' ∧ ds = done ++ ds ∧ ys.Perm done ∧ [some (A.box false (.lst bag)), some x, some (A.box true (.lst [])), none] = [some (A.box false (.lst bag')), some x, some (A.box true (.lst ys)), z] ∧ (z = none ∨ ∃ e, z = some (A.dat e)) := ⟨bag, [], [], none, hb, rfl, .nil, rfl, .inl rfl⟩
  rcases hx with rfl | rfl
  · obtain ⟨ρ', h1, bag', ys, done, z, h2, h3, h4, rfl, h5⟩ := forI_run (P := fun r ρ => ∃ bag ys done z, BagOk bag ∧ ds = done ++ r ∧ ys.Perm done ∧ ρ = [some (.box false (.lst bag)), some (.dat (.list ds)), some (.box true (.lst ys)), z] ∧ (z = none ∨ ∃ e, z = some (.dat e))) step ds _ h0
    refine ⟨ys, bag', ?_, by rw [h3, List.append_nil]; exact h4, h2⟩
    unfold m_law_mixed b__law_mixed
    simp [sizeLine_eq, startE, argA, bxIx, back, newC, notBor, bxAt, restE, noBx, lstB, lstAt, isNoD, h1]
  · obtain ⟨ρ', h1, bag', ys, done, z, h2, h3, h4, rfl, h5⟩ := forS_run (i := 1) (xs := ds) (P := fun r ρ => ∃ bag ys done z, BagOk bag ∧ ds = done ++ r ∧ ys.Perm done ∧ ρ = [some (.box false (.lst bag)), some (.box false (.lst ds)), some (.box true (.lst ys)), z] ∧ (z = none ∨ ∃ e, z = some (.dat e))) (by
      rintro r ρ ⟨bag, ys, done, z, _, _, _, rfl, _⟩
      rfl) step ds 0 _ rfl h0
    refine ⟨ys, bag', ?_, by rw [h3, List.append_nil]; exact h4, h2⟩
    unfold m_law_mixed b__law_mixed
    simp [sizeLine_eq, startE, argA, bxIx, back, newC, notBor, bxAt, restE, noBx, lstB, lstAt, isNoD, h1]
end K21

namespace K21
open PySem PySem.Spec PyProof.Rows L3
structure NameOk (s : Str) : Prop where
  ok : PyData.strOk s = true
  len : s.length ≤ 1002
  num : s ≠ Str.ofString "num"
  tru : s ≠ Str.ofString "truth"
def menuS : List Str := [Str.ofString "a", Str.ofString "b", Str.ofString "k", Str.ofString "x", Str.ofString "y", Str.ofString "z", Str.ofString "p", Str.ofString "q", Str.ofString "box", Str.ofString "key", Str.ofString "lock", Str.ofString "made", Str.ofString "last", Str.ofString "in", Str.ofString "to", Str.ofString "s1", Str.ofString "r2d2"]
theorem menu_ok : ∀ s ∈ menuS, NameOk s := by
  have h : menuS.all (fun s => PyData.strOk s && decide (s.length ≤ 1002) && decide (s ≠ Str.ofString "num") && decide (s ≠ Str.ofString "truth")) = true := by decide +kernel
  intro s hs
  have := List.all_eq_true.mp h s hs
  simp only [Bool.and_eq_true, decide_eq_true_eq] at this
  exact ⟨this.1.1.1, this.1.1.2, this.1.2, this.2⟩
theorem nmS_name {k : Nat} (h : k ≤ 1000) : NameOk (nmS k) := by
  have hl := numS_len k
  refine ⟨nmS_ok k, by rw [nmS_len]; omega, fun e => ?_, fun e => ?_⟩
  · have e1 := congrArg (fun s : Str => s.cps.toList) e
    rw [nmS_cps] at e1
    have e2 : (numS k).cps.toList = [117, 109] := by
      injection e1
    have := numS_digit (k := k) (c := 117) (by rw [e2]; simp)
    omega
  · have e1 := congrArg (fun s : Str => s.cps.toList) e
    rw [nmS_cps] at e1
    injection e1 with e2 e3
    exact absurd e2 (by decide)
theorem notIn_L {x : A} {l : List Str} (hx : IsL x (l.map PyData.str)) (s : Str) : notInD (.str s) x.vw = some (.dat (.bool (!decide (s ∈ l)))) := by
  rcases hx with rfl | rfl <;> exact notIn_strs s l
theorem in_L {x : A} {l : List Str} (hx : IsL x (l.map PyData.str)) (s : Str) : inD (.str s) x.vw = some (.dat (.bool (decide (s ∈ l)))) := by
  rcases hx with rfl | rfl <;> exact in_strs s l
theorem isL_var {x : A} {ds : List D} (hx : IsL x ds) (i : Nat) (ρ : En) : (varA i ρ (some x) = some (.dat (.list ds), ρ) ∧ x = .dat (.list ds)) ∨ (varA i ρ (some x) = some (.ref i, ρ) ∧ x = .box false (.lst ds)) := by
  rcases hx with rfl | rfl
  · exact .inl ⟨rfl, rfl⟩
  · exact .inr ⟨rfl, rfl⟩
theorem new_name_ok {bag : List D} (hb : BagOk bag) {x : A} {had : List Str} (hx : IsL x (had.map PyData.str)) (hl : had.length < 1000) :
    ∃ s bag', m_law_new_name [.box false (.lst bag), x] = some (.dat (.str s), [.box false (.lst bag'), x]) ∧ BagOk bag' ∧ s ∉ had ∧ NameOk s := by
  have step : ∀ (d : D) (r : List D) (ρ : En), (∃ bag z3 z5, BagOk bag ∧ ρ = [some (.box false (.lst bag)), some x, some (.box true (.lst (menuS.map PyData.str))), z3, none, z5] ∧ (z3 = none ∨ ∃ e, z3 = some (.dat e)) ∧ (z5 = none ∨ ∃ e, z5 = some (.dat e))) →
      ∃ ρ1 o ρ2, gnm 3 d ρ = some ρ1 ∧ L__law_new_name_1 ρ1 = some (o, ρ2) ∧ (((o = .nx ∨ o = .ct) ∧ ∃ bag z3 z5, BagOk bag ∧ ρ2 = [some (.box false (.lst bag)), some x, some (.box true (.lst (menuS.map PyData.str))), z3, none, z5] ∧ (z3 = none ∨ ∃ e, z3 = some (.dat e)) ∧ (z5 = none ∨ ∃ e, z5 = some (.dat e))) ∨
        ∃ r, o = .rt r ∧ ∃ s bag z3 z5, r = .dat (.str s) ∧ BagOk bag ∧ s ∉ had ∧ NameOk s ∧ ρ2 = [some (.box false (.lst bag)), some x, some (.box true (.lst (menuS.map PyData.str))), z3, none, z5]) := by
    rintro d r ρ ⟨bag, z3, z5, hb, rfl, h3, h5⟩
    obtain ⟨e, bag', h1, h2, h4⟩ := some_ok hb (x := .box false (.lst (menuS.map PyData.str))) (ds := menuS.map PyData.str) (.inr rfl) (by decide) (by decide)
    obtain ⟨s, hs, rfl⟩ := List.mem_map.mp h2
    refine ⟨[some (.box false (.lst bag)), some x, some (.box true (.lst (menuS.map PyData.str))), some (.dat d), none, z5], ?_⟩
    by_cases hin : s ∈ had
    · refine ⟨.nx, [some (.box false (.lst bag')), some x, some (.box true (.lst (menuS.map PyData.str))), some (.dat d), none, some (.dat (.str s))], ?_, ?_, .inl ⟨.inl rfl, bag', _, _, h4, rfl, .inr ⟨_, rfl⟩, .inr ⟨_, rfl⟩⟩⟩
      · rcases h3 with rfl | ⟨e, rfl⟩ <;> simp [sizeLine_eq, startE, argA, bxIx, back, newC, notBor, bxAt, restE, noBx, lstB, lstAt, isNoD]
      · have hv := notIn_L hx s
        unfold L__law_new_name_1
        rcases hx with rfl | rfl <;> rcases h5 with rfl | ⟨e, rfl⟩ <;> simp [sizeLine_eq, startE, argA, bxIx, back, newC, notBor, bxAt, restE, noBx, lstB, lstAt, isNoD, h1, notIn_strs, hin]
    · refine ⟨.rt (.dat (.str s)), [some (.box false (.lst bag')), some x, some (.box true (.lst (menuS.map PyData.str))), some (.dat d), none, some (.dat (.str s))], ?_, ?_, .inr ⟨_, rfl, s, bag', _, _, rfl, h4, hin, menu_ok s hs, rfl⟩⟩
      · rcases h3 with rfl | ⟨e, rfl⟩ <;> simp [sizeLine_eq, startE, argA, bxIx, back, newC, notBor, bxAt, restE, noBx, lstB, lstAt, isNoD]
      · unfold L__law_new_name_1
        rcases hx with rfl | rfl <;> rcases h5 with rfl | ⟨e, rfl⟩ <;> simp [sizeLine_eq, startE, argA, bxIx, back, newC, notBor, bxAt, restE, noBx, lstB, lstAt, isNoD, h1, notIn_strs, hin]
  have hm : ([.str (Str.ofString "a"), .str (Str.ofString "b"), .str (Str.ofString "k"), .str (Str.ofString "x"), .str (Str.ofString "y"), .str (Str.ofString "z"), .str (Str.ofString "p"), .str (Str.ofString "q"), .str (Str.ofString "box"), .str (Str.ofString "key"), .str (Str.ofString "lock"), .str (Str.ofString "made"), .str (Str.ofString "last"), .str (Str.ofString "in"), .str (Str.ofString "to"), .str (Str.ofString "s1"), .str (Str.ofString "r2d2")] : List D) = menuS.map PyData.str := rfl
  have hml : menuS.length = 17 := rfl
  rcases forI_ret (P := fun _ ρ => ∃ bag z3 z5, BagOk bag ∧ ρ = [some (.box false (.lst bag)), some x, some (.box true (.lst (menuS.map PyData.str))), z3, none, z5] ∧ (z3 = none ∨ ∃ e, z3 = some (.dat e)) ∧ (z5 = none ∨ ∃ e, z5 = some (.dat e)))
      (Z := fun r ρ2 => ∃ s bag z3 z5, r = .dat (.str s) ∧ BagOk bag ∧ s ∉ had ∧ NameOk s ∧ ρ2 = [some (.box false (.lst bag)), some x, some (.box true (.lst (menuS.map PyData.str))), z3, none, z5]) step (rngD 0 2) [some (.box false (.lst bag)), some x, some (.box true (.lst (menuS.map PyData.str))), none, none, none] ⟨bag, none, none, hb, rfl, .inl rfl, .inl rfl⟩ with ⟨ρ', h1, bag', z3, z5, h2, rfl, _⟩ | ⟨r, ρ', h1, s, bag', z3, z5, rfl, h2, h3, h4, rfl⟩
  · obtain ⟨k, k1, k2, k3⟩ := first_free had
    have hw : ∀ (m j : Nat), j + m = k → mwhN C__law_new_name_2 L__law_new_name_2 (m + 1) [some (.box false (.lst bag')), some x, some (.box true (.lst (menuS.map PyData.str))), z3, some (.dat (.int (j : Int))), z5] =
        some (.nx, [some (.box false (.lst bag')), some x, some (.box true (.lst (menuS.map PyData.str))), z3, some (.dat (.int (k : Int))), z5]) := by
      intro m
      induction m with
      | zero =>
        intro j hj
        have ej : j = k := by omega
        subst ej
        have hc : C__law_new_name_2 [some (.box false (.lst bag')), some x, some (.box true (.lst (menuS.map PyData.str))), z3, some (.dat (.int (j : Int))), z5] = some (false, [some (.box false (.lst bag')), some x, some (.box true (.lst (menuS.map PyData.str))), z3, some (.dat (.int (j : Int))), z5]) := by
          unfold C__law_new_name_2
          rcases hx with rfl | rfl <;> simp [sizeLine_eq, startE, argA, bxIx, back, newC, notBor, bxAt, restE, noBx, lstB, lstAt, isNoD, str_num (show j < 1900 by omega), add_num (show j < 1900 by omega), in_strs, k2]
        unfold mwhN
        rw [hc]
        rfl
      | succ m ih =>
        intro j hj
        have hin : nmS j ∈ had := k3 j (by omega)
        have hc : C__law_new_name_2 [some (.box false (.lst bag')), some x, some (.box true (.lst (menuS.map PyData.str))), z3, some (.dat (.int (j : Int))), z5] = some (true, [some (.box false (.lst bag')), some x, some (.box true (.lst (menuS.map PyData.str))), z3, some (.dat (.int (j : Int))), z5]) := by
          unfold C__law_new_name_2
          rcases hx with rfl | rfl <;> simp [sizeLine_eq, startE, argA, bxIx, back, newC, notBor, bxAt, restE, noBx, lstB, lstAt, isNoD, str_num (show j < 1900 by omega), add_num (show j < 1900 by omega), in_strs, hin]
        have hbd : L__law_new_name_2 [some (.box false (.lst bag')), some x, some (.box true (.lst (menuS.map PyData.str))), z3, some (.dat (.int (j : Int))), z5] = some (.nx, [some (.box false (.lst bag')), some x, some (.box true (.lst (menuS.map PyData.str))), z3, some (.dat (.int ((j + 1 : Nat) : Int))), z5]) := by
          unfold L__law_new_name_2
          simp [sizeLine_eq, startE, argA, bxIx, back, newC, notBor, bxAt, restE, noBx, lstB, lstAt, isNoD]
        unfold mwhN
        rw [hc, Option.bind_some, if_pos rfl, hbd]
        exact ih (j + 1) (by omega)
    have hw1 := mwh_of (hw k 0 (by omega))
    rw [show (((0 : Nat) : Int)) = 0 from rfl] at hw1
    refine ⟨nmS k, bag', ?_, h2, k2, nmS_name (by omega)⟩
    unfold m_law_new_name b__law_new_name
    rcases hx with rfl | rfl <;> simp [sizeLine_eq, startE, argA, bxIx, back, newC, notBor, bxAt, restE, noBx, lstB, lstAt, isNoD, hm, hml, h1, hw1, str_num (show k < 1900 by omega), add_num (show k < 1900 by omega)]
  · refine ⟨s, bag', ?_, h2, h3, h4⟩
    unfold m_law_new_name b__law_new_name
    rcases hx with rfl | rfl <;> simp [sizeLine_eq, startE, argA, bxIx, back, newC, notBor, bxAt, restE, noBx, lstB, lstAt, isNoD, hm, hml, h1]
end K21

namespace K21
open PySem PySem.Spec PyProof.Rows L3
/-! stocks, dicts of counts -/
abbrev St := List (Str × Int)
abbrev dI (c : St) : List (L2.Key × D) := dE PyData.int c
def encSt (st : St) : D := .tuple (st.map (encP PyData.int))
def posT (c : St) (k : Str) : Option (Str × Int) := match getT c k with
  | some n => if 0 < n then some (k, n) else none
  | none => none
def stockOf (c : St) : St := (sortS (keyT c)).filterMap (posT c)
theorem stock_items (c : St) : (sortS (keyT c)).filterMap (fun k => (posT c k).map (encP PyData.int)) = (stockOf c).map (encP PyData.int) := by
  unfold stockOf
  rw [List.map_filterMap]
theorem mem_sort {l : List Str} {k : Str} (h : k ∈ sortS l) : k ∈ l := (sortS_perm l).mem_iff.mp h
theorem law_stock_ok (c : St) (h : c.length < 64) : m_law_stock [.box false (.dic (dI c))] = some (.dat (encSt (stockOf c)), [.box false (.dic (dI c))]) := by
  have hl : (sortS (keyT c)).length ≤ 16777216 := by
    rw [(sortS_perm _).length_eq]
    unfold keyT
    rw [List.length_map]
    omega
  have hp := lc_pure (g := gnm 1) (t := T__law_stock_1) (m := M__law_stock_1) (vs := [1]) (ρ := [some (.box false (.dic (dI c))), none]) PyData.str (fun k => (posT c k).map (encP PyData.int)) (sortS (keyT c)) (fun k hk => by
    have hm := mem_sort hk
    cases hg : getT c k with
    | none => exact absurd hm (getT_none.mp hg)
    | some n =>
      refine ⟨[some (.box false (.dic (dI c))), some (.dat (.str k))], decide (0 < n), ?_, ?_, ?_, ?_⟩
      · simp [sizeLine_eq, startE, argA, bxIx, back, newC, notBor, bxAt, restE, noBx, lstB, lstAt, isNoD]
      · simp [sizeLine_eq, startE, argA, bxIx, back, newC, notBor, bxAt, restE, noBx, lstB, lstAt, isNoD]
      · simp [sizeLine_eq, startE, argA, bxIx, back, newC, notBor, bxAt, restE, noBx, lstB, lstAt, isNoD, T__law_stock_1, dI, dE_val, hg]
      · by_cases hn : 0 < n
        · simp [posT, hg, hn, sizeLine_eq, startE, argA, bxIx, back, newC, notBor, bxAt, restE, noBx, lstB, lstAt, isNoD, M__law_stock_1, dI, dE_val, encP]
        · simp [posT, hg, hn]) (by rw [sizeLine_eq]; exact hl)
  rw [stock_items] at hp
  unfold m_law_stock b__law_stock
  simp [sizeLine_eq, startE, argA, bxIx, back, newC, notBor, bxAt, restE, noBx, lstB, lstAt, isNoD, dI, sorted_dE PyData.int c h] at hp ⊢
  simp [sizeLine_eq, startE, argA, bxIx, back, newC, notBor, bxAt, restE, noBx, lstB, lstAt, isNoD, hp, encSt]
theorem stock_by_ok (c : St) (h : c.length < 64) : p_stock_by [.box false (.dic (dI c))] = some (.dat (encSt (stockOf c)), [.box false (.dic (dI c))]) := law_stock_ok c h
/-- a list or a tuple, as data or lent -/
def IsS (x : A) (ds : List D) : Prop := x = .dat (.list ds) ∨ x = .dat (.tuple ds) ∨ x = .box false (.lst ds)
/-! joined -/
def joinP (c : St) (p : Str × Int) : St := putT c p.1 (if p.2 > (getT c p.1).getD 0 then p.2 else (getT c p.1).getD 0)
def joinT (c : St) (st : St) : St := st.foldl joinP c
theorem getD_map (o : Option Int) : (o.map PyData.int).getD (PyData.int 0) = PyData.int (o.getD 0) := by cases o <;> rfl
def totalL (sts : List St) : Nat := (sts.map List.length).sum
theorem dI_len {c : St} (h : c.length < 64) : (dE PyData.int c).length < 16777216 := by
  unfold dE
  rw [List.length_map]
  omega
theorem max_comm (i j : Int) : (if i < j then j else i) = (if j < i then i else j) := by split <;> split <;> omega
/-- a loop over the stocks, the pairs of each put into a dict -/
theorem total_cons (st : St) (sts : List St) : totalL (st :: sts) = st.length + totalL sts := by simp [totalL]
def inS (L : MS) (E : St → St → (Option D × Option D) → En) (f : St → Str × Int → St) (ok : Str × Int → Prop) : Prop :=
  ∀ (c st : St) (j : Option D × Option D), c.length + st.length < 64 → (∀ p ∈ st, ok p) → ∃ j', L (E c st j) = some (.nx, E (st.foldl f c) st j') ∧ (st.foldl f c).length < 64
theorem put_fold_len {f : St → Str × Int → St} (hf : ∀ c p, (f c p).length ≤ c.length + 1) : ∀ (st c : St), (st.foldl f c).length ≤ c.length + st.length
  | [], c => Nat.le_refl _
  | p :: r, c => by
    have h1 := put_fold_len hf r (f c p)
    have h2 := hf c p
    rw [List.foldl_cons, List.length_cons]
    omega
/-- the outer loop -/
theorem outer_I {L : MS} {E : St → St → (Option D × Option D) → En} {f : St → Str × Int → St} {ok : Str × Int → Prop} (hin : inS L E f ok) {g : MG} {sts : List St} {E0 : St → (Option D × Option D × Option D) → En}
    (hg : ∀ c st j, g (encSt st) (E0 c j) = some (E c st (j.2.1, j.2.2))) (hE : ∀ c st j, E c st j = E0 c (some (encSt st), j.1, j.2)) (hf : ∀ c p, (f c p).length ≤ c.length + 1) (hl : totalL sts < 64) (hok : ∀ st ∈ sts, ∀ p ∈ st, ok p) (j : Option D × Option D × Option D) :
    (∃ j', mforI g L (sts.map encSt) (E0 [] j) = some (.nx, E0 (sts.foldl (fun c st => st.foldl f c) []) j')) ∧ (sts.foldl (fun c st => st.foldl f c) []).length < 64 ∧
    ∀ i, (∀ c j, lstB (E0 c j) i = some (sts.map encSt)) → ∃ j', mforS i g L (sts.map encSt) 0 (E0 [] j) = some (.nx, E0 (sts.foldl (fun c st => st.foldl f c) []) j') := by
  have step : ∀ (s : St) (x : St) (r : List St) (j : Option D × Option D × Option D), (s.length + totalL (x :: r) < 64 ∧ ∀ st ∈ x :: r, ∀ p ∈ st, ok p) → ∃ ρ1 j', g (encSt x) (E0 s j) = some ρ1 ∧ L ρ1 = some (.nx, E0 (x.foldl f s) j') ∧ ((x.foldl f s).length + totalL r < 64 ∧ ∀ st ∈ r, ∀ p ∈ st, ok p) := by
    intro s x r j ⟨h1, h2⟩
    rw [total_cons] at h1
    obtain ⟨j', h3, _⟩ := hin s x (j.2.1, j.2.2) (by omega) (h2 x List.mem_cons_self)
    have := put_fold_len hf x s
    exact ⟨_, _, hg s x j, by rw [h3, hE], by omega, fun st hst => h2 st (List.mem_cons_of_mem _ hst)⟩
  have h0 : (([] : St).length + totalL sts < 64 ∧ ∀ st ∈ sts, ∀ p ∈ st, ok p) := ⟨by simpa using hl, hok⟩
  obtain ⟨j', h1, h2⟩ := forI_fold (g := g) (b := L) (enc := encSt) E0 (fun c st => st.foldl f c) (fun c r => c.length + totalL r < 64 ∧ ∀ st ∈ r, ∀ p ∈ st, ok p) step sts [] j h0
  refine ⟨⟨j', h1⟩, Nat.lt_of_le_of_lt (Nat.le_add_right _ _) h2.1, fun i hi => ?_⟩
  obtain ⟨j', h1, _⟩ := forS_fold (g := g) (b := L) (enc := encSt) E0 (fun c st => st.foldl f c) (fun c r => c.length + totalL r < 64 ∧ ∀ st ∈ r, ∀ p ∈ st, ok p) hi step [] j h0
  exact ⟨j', h1⟩
theorem joinP_len (c : St) (p : Str × Int) : (joinP c p).length ≤ c.length + 1 := put_len _ _ _
/-! joined, the program's -/
theorem joined_in (x : A) : inS L_joined_2 (fun c st j => [some x, some (.box true (.dic (dI c))), some (.dat (encSt st)), sD j.1, sD j.2]) joinP (fun _ => True) := by
  intro c st j hc _
  obtain ⟨j', h1, h2⟩ := forI_fold (g := gtup [3, 4]) (b := L_joined_1) (enc := encP PyData.int) (fun (c : St) (j : Option D × Option D) => [some x, some (.box true (.dic (dI c))), some (.dat (encSt st)), sD j.1, sD j.2]) joinP (fun c r => c.length + r.length < 64) (fun s p r j hI => by
    have hs := dI_len (c := s) (by omega)
    refine ⟨[some x, some (.box true (.dic (dI s))), some (.dat (encSt st)), some (.dat (.str p.1)), some (.dat (.int p.2))], (some (.str p.1), some (.int p.2)), ?_, ?_, ?_⟩
    · obtain ⟨j1, j2⟩ := j
      cases j1 <;> cases j2 <;> simp [sizeLine_eq, startE, argA, bxIx, back, newC, notBor, bxAt, restE, noBx, lstB, lstAt, isNoD, encP, sD]
    · unfold L_joined_1
      simp [sizeLine_eq, startE, argA, bxIx, back, newC, notBor, bxAt, restE, noBx, lstB, lstAt, isNoD, dE_val, getD_map, sD, hs, dE_put, joinP]
      rw [max_comm]
    · have := joinP_len s p
      rw [List.length_cons] at hI
      omega) st c j hc
  refine ⟨j', ?_, h2⟩
  unfold L_joined_2
  simp [sizeLine_eq, startE, argA, bxIx, back, newC, notBor, bxAt, restE, noBx, lstB, lstAt, isNoD, encSt] at h1 ⊢
  exact h1
theorem joined_ok {x : A} {sts : List St} (hx : IsS x (sts.map encSt)) (hl : totalL sts < 64) : p_joined [x] = some (.dat (encSt (stockOf (sts.foldl joinT []))), [x]) := by
  obtain ⟨⟨j, h1⟩, h2, h3⟩ := outer_I (joined_in x) (g := gnm 2) (sts := sts) (E0 := fun c j => [some x, some (.box true (.dic (dI c))), sD j.1, sD j.2.1, sD j.2.2]) (fun c st j => by
    obtain ⟨j1, j2, j3⟩ := j
    cases j1 <;> simp [sizeLine_eq, startE, argA, bxIx, back, newC, notBor, bxAt, restE, noBx, lstB, lstAt, isNoD, sD]) (fun c st j => rfl) joinP_len hl (fun _ _ _ _ => trivial) (none, none, none)
  have h4 := stock_by_ok (sts.foldl (fun c st => st.foldl joinP c) []) h2
  unfold p_joined b_joined
  show _ = some (R.dat (encSt (stockOf (sts.foldl (fun c st => st.foldl joinP c) []))), [x])
  rcases hx with rfl | rfl | rfl
  · simp [sizeLine_eq, startE, argA, bxIx, back, newC, notBor, bxAt, restE, noBx, lstB, lstAt, isNoD, sD, dE] at h1 h4 ⊢
    simp [sizeLine_eq, startE, argA, bxIx, back, newC, notBor, bxAt, restE, noBx, lstB, lstAt, isNoD, h1, h4, sD, dE]
  · simp [sizeLine_eq, startE, argA, bxIx, back, newC, notBor, bxAt, restE, noBx, lstB, lstAt, isNoD, sD, dE] at h1 h4 ⊢
    simp [sizeLine_eq, startE, argA, bxIx, back, newC, notBor, bxAt, restE, noBx, lstB, lstAt, isNoD, h1, h4, sD, dE]
  · obtain ⟨j, h1⟩ := h3 0 (fun c j => rfl)
    simp [sizeLine_eq, startE, argA, bxIx, back, newC, notBor, bxAt, restE, noBx, lstB, lstAt, isNoD, sD, dE] at h1 h4 ⊢
    simp [sizeLine_eq, startE, argA, bxIx, back, newC, notBor, bxAt, restE, noBx, lstB, lstAt, isNoD, h1, h4, sD, dE]
/-! added, by the names of once kinds -/
def addP (o : Str → Bool) (c : St) (p : Str × Int) : St := putT c p.1 (if o p.1 = true then (getT c p.1).getD 0 + p.2 else 1)
theorem addP_len (o : Str → Bool) (c : St) (p : Str × Int) : (addP o c p).length ≤ c.length + 1 := put_len _ _ _
def addT (o : Str → Bool) (sts : List St) : St := sts.foldl (fun c st => st.foldl (addP o) c) []
theorem added_in (x : A) (os : List Str) : inS L_added_by_2 (fun c st j => [some (.dat (.tuple (os.map PyData.str))), some x, some (.box true (.dic (dI c))), some (.dat (encSt st)), sD j.1, sD j.2]) (addP fun k => decide (k ∈ os)) (fun _ => True) := by
  intro c st j hc _
  obtain ⟨j', h1, h2⟩ := forI_fold (g := gtup [4, 5]) (b := L_added_by_1) (enc := encP PyData.int) (fun (c : St) (j : Option D × Option D) => [some (.dat (.tuple (os.map PyData.str))), some x, some (.box true (.dic (dI c))), some (.dat (encSt st)), sD j.1, sD j.2]) (addP fun k => decide (k ∈ os)) (fun c r => c.length + r.length < 64) (fun s p r j hI => by
    have hs := dI_len (c := s) (by omega)
    refine ⟨[some (.dat (.tuple (os.map PyData.str))), some x, some (.box true (.dic (dI s))), some (.dat (encSt st)), some (.dat (.str p.1)), some (.dat (.int p.2))], (some (.str p.1), some (.int p.2)), ?_, ?_, ?_⟩
    · obtain ⟨j1, j2⟩ := j
      cases j1 <;> cases j2 <;> simp [sizeLine_eq, startE, argA, bxIx, back, newC, notBor, bxAt, restE, noBx, lstB, lstAt, isNoD, encP, sD]
    · unfold L_added_by_1
      by_cases ho : p.1 ∈ os
      · simp [sizeLine_eq, startE, argA, bxIx, back, newC, notBor, bxAt, restE, noBx, lstB, lstAt, isNoD, dE_val, getD_map, sD, hs, dE_put, addP, in_strsT, ho]
      · simp [sizeLine_eq, startE, argA, bxIx, back, newC, notBor, bxAt, restE, noBx, lstB, lstAt, isNoD, dE_val, getD_map, sD, hs, dE_put, addP, in_strsT, ho]
    · have := addP_len (fun k => decide (k ∈ os)) s p
      rw [List.length_cons] at hI
      omega) st c j hc
  refine ⟨j', ?_, h2⟩
  unfold L_added_by_2
  simp [sizeLine_eq, startE, argA, bxIx, back, newC, notBor, bxAt, restE, noBx, lstB, lstAt, isNoD, encSt] at h1 ⊢
  exact h1
theorem added_by_ok (os : List Str) {x : A} {sts : List St} (hx : IsS x (sts.map encSt)) (hl : totalL sts < 64) : p_added_by [.dat (.tuple (os.map PyData.str)), x] = some (.dat (encSt (stockOf (addT (fun k => decide (k ∈ os)) sts))), [.dat (.tuple (os.map PyData.str)), x]) := by
  obtain ⟨⟨j, h1⟩, h2, h3⟩ := outer_I (added_in x os) (g := gnm 3) (sts := sts) (E0 := fun c j => [some (.dat (.tuple (os.map PyData.str))), some x, some (.box true (.dic (dI c))), sD j.1, sD j.2.1, sD j.2.2]) (fun c st j => by
    obtain ⟨j1, j2, j3⟩ := j
    cases j1 <;> simp [sizeLine_eq, startE, argA, bxIx, back, newC, notBor, bxAt, restE, noBx, lstB, lstAt, isNoD, sD]) (fun c st j => rfl) (addP_len _) hl (fun _ _ _ _ => trivial) (none, none, none)
  have h4 := stock_by_ok (addT (fun k => decide (k ∈ os)) sts) h2
  unfold p_added_by b_added_by
  unfold addT at h4 ⊢
  rcases hx with rfl | rfl | rfl
  · simp [sizeLine_eq, startE, argA, bxIx, back, newC, notBor, bxAt, restE, noBx, lstB, lstAt, isNoD, sD, dE] at h1 h4 ⊢
    simp [sizeLine_eq, startE, argA, bxIx, back, newC, notBor, bxAt, restE, noBx, lstB, lstAt, isNoD, h1, h4, sD, dE]
  · simp [sizeLine_eq, startE, argA, bxIx, back, newC, notBor, bxAt, restE, noBx, lstB, lstAt, isNoD, sD, dE] at h1 h4 ⊢
    simp [sizeLine_eq, startE, argA, bxIx, back, newC, notBor, bxAt, restE, noBx, lstB, lstAt, isNoD, h1, h4, sD, dE]
  · obtain ⟨j, h1⟩ := h3 1 (fun c j => rfl)
    simp [sizeLine_eq, startE, argA, bxIx, back, newC, notBor, bxAt, restE, noBx, lstB, lstAt, isNoD, sD, dE] at h1 h4 ⊢
    simp [sizeLine_eq, startE, argA, bxIx, back, newC, notBor, bxAt, restE, noBx, lstB, lstAt, isNoD, h1, h4, sD, dE]
end K21

namespace K21
open PySem PySem.Spec PyProof.Rows L3
/-! at or above -/
def geT (one other : St) : Bool := other.all fun p => decide (p.2 ≤ (getT one p.1).getD 0)
theorem bools_map {α : Type} (f : α → Bool) : ∀ xs : List α, boolsD (xs.map fun x => PyData.bool (f x)) = some (xs.map f)
  | [] => rfl
  | x :: r => by
    rw [List.map_cons]
    unfold boolsD
    rw [bools_map f r]
    rfl
theorem is_above_ok {one other : St} (hn : (keyT one).Nodup) (hl : other.length < 64) : p_is_above [.dat (encSt one), .dat (encSt other)] = some (.dat (.bool (geT one other)), [.dat (encSt one), .dat (encSt other)]) := by
  have hd := dict_pairs PyData.int hn
  have hp := lc_pure (g := gtup [3, 4]) (t := myes) (m := M_is_above_1) (vs := [3, 4]) (ρ := [some (.dat (encSt one)), some (.dat (encSt other)), some (.box true (.dic (dI one))), none, none]) (encP PyData.int) (fun p => some (.bool (decide (p.2 ≤ (getT one p.1).getD 0)))) other (fun p hp => by
    refine ⟨[some (.dat (encSt one)), some (.dat (encSt other)), some (.box true (.dic (dI one))), some (.dat (.str p.1)), some (.dat (.int p.2))], true, ?_, ?_, rfl, rfl, ?_⟩
    · simp [sizeLine_eq, startE, argA, bxIx, back, newC, notBor, bxAt, restE, noBx, lstB, lstAt, isNoD, encP]
    · simp [sizeLine_eq, startE, argA, bxIx, back, newC, notBor, bxAt, restE, noBx, lstB, lstAt, isNoD]
    · simp [sizeLine_eq, startE, argA, bxIx, back, newC, notBor, bxAt, restE, noBx, lstB, lstAt, isNoD, M_is_above_1, dE_val, getD_map]) (by rw [sizeLine_eq]; omega)
  rw [show (other.filterMap fun p => some (PyData.bool (decide (p.2 ≤ (getT one p.1).getD 0)))) = other.map (fun p => PyData.bool (decide (p.2 ≤ (getT one p.1).getD 0))) by rw [List.filterMap_eq_map']] at hp
  have hb : allD [.list (other.map (fun p => PyData.bool (decide (p.2 ≤ (getT one p.1).getD 0))))] = some (.dat (.bool (geT one other))) := by
    unfold allD
    simp only []
    rw [bools_map (fun p : Str × Int => decide (p.2 ≤ (getT one p.1).getD 0))]
    simp only [Option.map_some, List.all_map, geT]
    rfl
  unfold p_is_above b_is_above
  simp [sizeLine_eq, startE, argA, bxIx, back, newC, notBor, bxAt, restE, noBx, lstB, lstAt, isNoD, encSt, hd] at hp ⊢
  simp [sizeLine_eq, startE, argA, bxIx, back, newC, notBor, bxAt, restE, noBx, lstB, lstAt, isNoD, hp, hb]
theorem eq_nil {ds : List D} (h : okL ds = true) (hd : ∀ d ∈ ds, d.depth ≤ 60) : eqD (.list ds) (.list []) = some (.dat (.bool ds.isEmpty)) := by
  have h1 : SeqAt.shaped (.list ds) = true := by
    unfold SeqAt.shaped
    rw [Bool.and_eq_true, decide_eq_true_eq]
    refine ⟨okD_lay (.list ds) (by simpa only [okD] using h), ?_⟩
    have := depthL_le hd
    show PyData.depthAll ds + 1 ≤ 64
    omega
  have h2 : SeqAt.shaped (.list []) = true := by decide
  unfold eqD eqOk
  rw [h1, h2, Bool.and_self, Bool.or_true, if_pos rfl]
  cases ds <;> simp [PyData.eqv, PyData.eqvAll]
theorem ne_nil {ds : List D} (h : okL ds = true) (hd : ∀ d ∈ ds, d.depth ≤ 60) : neD (.list ds) (.list []) = some (.dat (.bool (!ds.isEmpty))) := by
  have h0 := eq_nil h hd
  unfold eqD at h0
  unfold neD
  split at h0
  · rename_i hq
    rw [if_pos hq]
    have : PyData.eqv (.list ds) (.list []) = ds.isEmpty := by
      injection h0 with h0
      injection h0 with h0
      injection h0
    rw [this]
  · cases h0
theorem okL_strs {l : List Str} (h : ∀ s ∈ l, PyData.strOk s = true) : okL (l.map PyData.str) = true := okL_map fun s hs => by simpa only [okD] using h s hs
theorem dep_strs (l : List Str) : ∀ d ∈ l.map PyData.str, d.depth ≤ 60 := fun d hd => by
  obtain ⟨s, _, rfl⟩ := List.mem_map.mp hd
  exact Nat.zero_le _
/-! without -/
def mx0 (i : Int) : Int := if 0 < i then i else 0
def woP (o : Str → Bool) (c : St) (p : Str × Int) : St := putT c p.1 (if o p.1 = true then mx0 ((getT c p.1).getD 0 - p.2) else 0)
theorem woP_len (o : Str → Bool) (c : St) (p : Str × Int) : (woP o c p).length ≤ c.length + 1 := put_len _ _ _
theorem without_by_ok (os : List Str) {one other : St} (hn : (keyT one).Nodup) (hl : one.length + other.length < 64) :
    p_without_by [.dat (.tuple (os.map PyData.str)), .dat (encSt one), .dat (encSt other)] = some (.dat (encSt (stockOf (other.foldl (woP fun k => decide (k ∈ os)) one))), [.dat (.tuple (os.map PyData.str)), .dat (encSt one), .dat (encSt other)]) := by
  have hd := dict_pairs PyData.int hn
  obtain ⟨j', h1, h2⟩ := forI_fold (g := gtup [4, 5]) (b := L_without_by_1) (enc := encP PyData.int) (fun (c : St) (j : Option D × Option D) => [some (.dat (.tuple (os.map PyData.str))), some (.dat (encSt one)), some (.dat (encSt other)), some (.box true (.dic (dI c))), sD j.1, sD j.2]) (woP fun k => decide (k ∈ os)) (fun c r => c.length + r.length < 64) (fun s p r j hI => by
    have hs := dI_len (c := s) (by omega)
    refine ⟨[some (.dat (.tuple (os.map PyData.str))), some (.dat (encSt one)), some (.dat (encSt other)), some (.box true (.dic (dI s))), some (.dat (.str p.1)), some (.dat (.int p.2))], (some (.str p.1), some (.int p.2)), ?_, ?_, ?_⟩
    · obtain ⟨j1, j2⟩ := j
      cases j1 <;> cases j2 <;> simp [sizeLine_eq, startE, argA, bxIx, back, newC, notBor, bxAt, restE, noBx, lstB, lstAt, isNoD, encP, sD]
    · unfold L_without_by_1
      by_cases ho : p.1 ∈ os
      · simp [sizeLine_eq, startE, argA, bxIx, back, newC, notBor, bxAt, restE, noBx, lstB, lstAt, isNoD, dE_val, getD_map, sD, hs, dE_put, woP, mx0, in_strsT, ho]
      · simp [sizeLine_eq, startE, argA, bxIx, back, newC, notBor, bxAt, restE, noBx, lstB, lstAt, isNoD, dE_val, getD_map, sD, hs, dE_put, woP, in_strsT, ho]
    · have := woP_len (fun k => decide (k ∈ os)) s p
      rw [List.length_cons] at hI
      omega) other one (none, none) hl
  have h4 := stock_by_ok (other.foldl (woP fun k => decide (k ∈ os)) one) (by simpa using h2)
  unfold p_without_by b_without_by
  simp [sizeLine_eq, startE, argA, bxIx, back, newC, notBor, bxAt, restE, noBx, lstB, lstAt, isNoD, encSt, hd, sD] at h1 h4 ⊢
  simp [sizeLine_eq, startE, argA, bxIx, back, newC, notBor, bxAt, restE, noBx, lstB, lstAt, isNoD, h1, h4]
/-- found[k] = f k found[k], for each key -/
def eachP (f : Str → Int → Int) (c : St) (k : Str) : St := putT c k (f k ((getT c k).getD 0))
theorem eachP_len (f : Str → Int → Int) (c : St) (k : Str) : (eachP f c k).length ≤ c.length + 1 := put_len _ _ _
theorem each_get (f : Str → Int → Int) (j : Str) : ∀ (ks : List Str) (c : St), ks.Nodup → getT (ks.foldl (eachP f) c) j = if j ∈ ks then some (f j ((getT c j).getD 0)) else getT c j
  | [], c, _ => by simp
  | k :: r, c, h => by
    obtain ⟨h1, h2⟩ := List.nodup_cons.mp h
    rw [List.foldl_cons, each_get f j r _ h2]
    unfold eachP
    rw [getT_put]
    by_cases hj : j = k
    · subst hj
      simp [h1]
    · simp [hj]
theorem each_keys (f : Str → Int → Int) : ∀ (ks : List Str) (c : St), (∀ k ∈ ks, k ∈ keyT c) → keyT (ks.foldl (eachP f) c) = keyT c
  | [], c, _ => rfl
  | k :: r, c, h => by
    have hk : keyT (eachP f c k) = keyT c := by
      unfold eachP
      rw [keyT_put, if_pos (h k List.mem_cons_self)]
    rw [List.foldl_cons, each_keys f r _ (fun x hx => by rw [hk]; exact h x (List.mem_cons_of_mem _ hx)), hk]
theorem get_some {c : St} {k : Str} (h : k ∈ keyT c) : getT c k = some ((getT c k).getD 0) := by
  cases e : getT c k with
  | none => exact absurd h (getT_none.mp e)
  | some n => rfl
end K21

namespace K21
open PySem PySem.Spec PyProof.Rows L3
/-- which kinds are once, by the program and by the law -/
structure OnceOk (dt : D) (os : List Str) (K : List Str) : Prop where
  hp : p_once_kinds [.dat dt] = some (.dat (.tuple (os.map PyData.str)), [.dat dt])
  hl : ∀ k ∈ K, m_law_is_once [.dat dt, .dat (.str k)] = some (.dat (.bool (decide (k ∈ os))), [.dat dt, .dat (.str k)])
abbrev onc (os : List Str) (k : Str) : Bool := decide (k ∈ os)
theorem added_ok {dt : D} {os K : List Str} (O : OnceOk dt os K) {x : A} {sts : List St} (hx : IsS x (sts.map encSt)) (hl : totalL sts < 64) : p_added [.dat dt, x] = some (.dat (encSt (stockOf (addT (onc os) sts))), [.dat dt, x]) := by
  have h1 := added_by_ok os hx hl
  have h2 := O.hp
  unfold p_added b_added
  rcases hx with rfl | rfl | rfl <;> simp [sizeLine_eq, startE, argA, bxIx, back, newC, notBor, bxAt, restE, noBx, lstB, lstAt, isNoD, h2, h1]
theorem without_ok {dt : D} {os K : List Str} (O : OnceOk dt os K) {one other : St} (hn : (keyT one).Nodup) (hl : one.length + other.length < 64) :
    p_without [.dat dt, .dat (encSt one), .dat (encSt other)] = some (.dat (encSt (stockOf (other.foldl (woP (onc os)) one))), [.dat dt, .dat (encSt one), .dat (encSt other)]) := by
  have h1 := without_by_ok os hn hl
  have h2 := O.hp
  unfold p_without b_without
  simp [sizeLine_eq, startE, argA, bxIx, back, newC, notBor, bxAt, restE, noBx, lstB, lstAt, isNoD, h2, h1]
/-! taken -/
def tkP (o : Str → Bool) (c : St) (p : Str × Int) : St := putT c p.1 (if o p.1 = true then (getT c p.1).getD 0 - p.2 else (getT c p.1).getD 0)
theorem taken_ok {dt : D} {os K : List Str} (O : OnceOk dt os K) {one other : St} (hn : (keyT one).Nodup) (hl : one.length < 64) (hk : ∀ p ∈ other, p.1 ∈ keyT one) :
    p_taken [.dat dt, .dat (encSt one), .dat (encSt other)] = some (.dat (encSt (stockOf (other.foldl (tkP (onc os)) one))), [.dat dt, .dat (encSt one), .dat (encSt other)]) := by
  have hd := dict_pairs PyData.int hn
  have ho := O.hp
  obtain ⟨j', h1, h2⟩ := forI_fold (g := gtup [5, 6]) (b := L_taken_1) (enc := encP PyData.int) (fun (c : St) (j : Option D × Option D) => [some (.dat dt), some (.dat (encSt one)), some (.dat (encSt other)), some (.dat (.tuple (os.map PyData.str))), some (.box true (.dic (dI c))), sD j.1, sD j.2]) (tkP (onc os)) (fun c r => keyT c = keyT one ∧ ∀ p ∈ r, p.1 ∈ keyT one) (fun s p r j hI => by
    have hk : p.1 ∈ keyT s := by rw [hI.1]; exact hI.2 p List.mem_cons_self
    have hs := dI_len (c := s) (by
      have := congrArg List.length hI.1
      unfold keyT at this
      rw [List.length_map, List.length_map] at this
      omega)
    refine ⟨[some (.dat dt), some (.dat (encSt one)), some (.dat (encSt other)), some (.dat (.tuple (os.map PyData.str))), some (.box true (.dic (dI s))), some (.dat (.str p.1)), some (.dat (.int p.2))], (some (.str p.1), some (.int p.2)), ?_, ?_, ?_, ?_⟩
    · obtain ⟨j1, j2⟩ := j
      cases j1 <;> cases j2 <;> simp [sizeLine_eq, startE, argA, bxIx, back, newC, notBor, bxAt, restE, noBx, lstB, lstAt, isNoD, encP, sD]
    · have hg := get_some hk
      generalize (getT s p.1).getD 0 = n at hg
      unfold L_taken_1
      by_cases h : p.1 ∈ os
      · simp [sizeLine_eq, startE, argA, bxIx, back, newC, notBor, bxAt, restE, noBx, lstB, lstAt, isNoD, dE_val, sD, hs, dE_put, tkP, in_strsT, hg, h]
      · simp [sizeLine_eq, startE, argA, bxIx, back, newC, notBor, bxAt, restE, noBx, lstB, lstAt, isNoD, dE_val, sD, hs, dE_put, tkP, in_strsT, hg, h]
    · unfold tkP
      rw [keyT_put, if_pos hk, hI.1]
    · exact fun x hx => hI.2 x (List.mem_cons_of_mem _ hx)) other one (none, none) ⟨rfl, hk⟩
  have h4 := stock_by_ok (other.foldl (tkP (onc os)) one) (by
    have := congrArg List.length h2.1
    unfold keyT at this
    rw [List.length_map, List.length_map] at this
    omega)
  unfold p_taken b_taken
  simp [sizeLine_eq, startE, argA, bxIx, back, newC, notBor, bxAt, restE, noBx, lstB, lstAt, isNoD, encSt, hd, sD, ho] at h1 h4 ⊢
  simp [sizeLine_eq, startE, argA, bxIx, back, newC, notBor, bxAt, restE, noBx, lstB, lstAt, isNoD, h1, h4]
/-! stock_of -/
end K21

namespace K21
open PySem PySem.Spec PyProof.Rows L3
/-! declarations -/
inductive Dc where
  | once (n : Str)
  | plain (n : Str)
  | record (n : Str) (ps : List (Str × Option Str))
  | choice (n : Str) (ps : List (Str × Option Str))
  | given (n : Str) (ps : List Str) (g : Str)
def Dc.word : Dc → Str
  | .once _ => Str.ofString "once"
  | .plain _ => Str.ofString "plain"
  | .record _ _ => Str.ofString "record"
  | .choice _ _ => Str.ofString "choice"
  | .given _ _ _ => Str.ofString "given"
def Dc.name : Dc → Str
  | .once n => n
  | .plain n => n
  | .record n _ => n
  | .choice n _ => n
  | .given n _ _ => n
def encO : Option Str → D
  | none => .none
  | some s => .str s
def Dc.rest : Dc → List D
  | .once _ => []
  | .plain _ => []
  | .record _ ps => [.tuple (ps.map (encP encO))]
  | .choice _ ps => [.tuple (ps.map (encP encO))]
  | .given _ ps g => [.tuple (ps.map PyData.str), .str g]
def encDc (d : Dc) : D := .tuple (.str d.word :: .str d.name :: d.rest)
def Dc.isKd : Dc → Bool
  | .given _ _ _ => false
  | _ => true
def Dc.pairs : Dc → List (Str × Option Str)
  | .record _ ps => ps
  | .choice _ ps => ps
  | _ => []
def Dc.isRC : Dc → Bool
  | .record _ _ => true
  | .choice _ _ => true
  | _ => false
def Dc.isOnce : Dc → Bool
  | .once _ => true
  | _ => false
def Dc.arms : Dc → List Str
  | .choice _ ps => ps.map (·.1)
  | _ => []
def Dc.parts (d : Dc) : List Str := d.pairs.filterMap (·.2)
theorem atI_1 (a b : D) (r : List D) : L2.atI (a :: b :: r) 1 = some b := by
  unfold L2.atI L2.ixN
  rw [if_pos (by decide), if_pos (by simp only [List.length_cons]; omega)]
  rfl
theorem atI_2 (a b c : D) (r : List D) : L2.atI (a :: b :: c :: r) 2 = some c := by
  unfold L2.atI L2.ixN
  rw [if_pos (by decide), if_pos (by simp only [List.length_cons]; omega)]
  rfl
theorem ix0 (d : Dc) : ixD (encDc d) (.int 0) = some (.dat (.str d.word)) := by
  unfold encDc
  rw [q_ixD_2, atI_0]
  rfl
theorem ix1 (d : Dc) : ixD (encDc d) (.int 1) = some (.dat (.str d.name)) := by
  unfold encDc
  rw [q_ixD_2, atI_1]
  rfl
theorem ix2 (d : Dc) (h : d.isRC = true) : ixD (encDc d) (.int 2) = some (.dat (.tuple (d.pairs.map (encP encO)))) := by
  cases d with
  | once n => cases h
  | plain n => cases h
  | given n ps g => cases h
  | record n ps =>
    unfold encDc
    show ixD (.tuple [_, _, _]) _ = _
    rw [q_ixD_2, atI_2]
    rfl
  | choice n ps =>
    unfold encDc
    show ixD (.tuple [_, _, _]) _ = _
    rw [q_ixD_2, atI_2]
    rfl
theorem inW (w : Str) (ws : List Str) (b : Bool) (h : decide (w ∈ ws) = b) : inD (.str w) (.tuple (ws.map PyData.str)) = some (.dat (.bool b)) := by rw [in_strsT, h]
theorem notInW (w : Str) (ws : List Str) (b : Bool) (h : decide (w ∈ ws) = b) : notInD (.str w) (.tuple (ws.map PyData.str)) = some (.dat (.bool (!b))) := by rw [notIn_strsT, h]
theorem w_kind (d : Dc) : inD (.str d.word) (.tuple [.str (Str.ofString "plain"), .str (Str.ofString "once"), .str (Str.ofString "record"), .str (Str.ofString "choice")]) = some (.dat (.bool d.isKd)) := by
  cases d <;> exact inW _ [Str.ofString "plain", Str.ofString "once", Str.ofString "record", Str.ofString "choice"] _ rfl
theorem w_rc (d : Dc) : inD (.str d.word) (.tuple [.str (Str.ofString "record"), .str (Str.ofString "choice")]) = some (.dat (.bool d.isRC)) := by
  cases d <;> exact inW _ [Str.ofString "record", Str.ofString "choice"] _ rfl
theorem w_nrc (d : Dc) : notInD (.str d.word) (.tuple [.str (Str.ofString "record"), .str (Str.ofString "choice")]) = some (.dat (.bool (!d.isRC))) := by
  cases d <;> exact notInW _ [Str.ofString "record", Str.ofString "choice"] (Dc.isRC _) rfl
theorem w_po (d : Dc) : inD (.str d.word) (.tuple [.str (Str.ofString "plain"), .str (Str.ofString "once")]) = some (.dat (.bool (d.isKd && !d.isRC))) := by
  cases d <;> exact inW _ [Str.ofString "plain", Str.ofString "once"] _ rfl
theorem w_gd (d : Dc) : inD (.str d.word) (.tuple [.str (Str.ofString "given"), .str (Str.ofString "def")]) = some (.dat (.bool (!d.isKd))) := by
  cases d <;> exact inW _ [Str.ofString "given", Str.ofString "def"] _ rfl
theorem w_ngd (d : Dc) : notInD (.str d.word) (.tuple [.str (Str.ofString "given"), .str (Str.ofString "def")]) = some (.dat (.bool d.isKd)) := by
  have h : ∀ d : Dc, decide (d.word ∈ [Str.ofString "given", Str.ofString "def"]) = !d.isKd := fun d => by cases d <;> rfl
  have := notInW d.word [Str.ofString "given", Str.ofString "def"] _ (h d)
  rw [Bool.not_not] at this
  exact this
theorem w_once (d : Dc) : (d.word == Str.ofString "once") = d.isOnce := by cases d <;> rfl
theorem w_choice (d : Dc) : (d.word == Str.ofString "choice") = (match d with | .choice _ _ => true | _ => false) := by cases d <;> rfl
/-! parts -/
theorem law_parts_ok (d : Dc) (hl : d.pairs.length < 64) : m_law_parts [.dat (encDc d)] = some (.new (.lst (d.parts.map PyData.str)), [.dat (encDc d)]) := by
  have hp := lc_pure (g := gtup [1, 2]) (t := T__law_parts_1) (m := M__law_parts_1) (vs := [1, 2]) (ρ := [some (.dat (encDc d)), none, none]) (encP encO) (fun p => p.2.map PyData.str) d.pairs (fun p hp => by
    obtain ⟨a, o⟩ := p
    refine ⟨[some (.dat (encDc d)), some (.dat (.str a)), some (.dat (encO o))], o.isSome, ?_, ?_, ?_, ?_⟩
    · simp [sizeLine_eq, startE, argA, bxIx, back, newC, notBor, bxAt, restE, noBx, lstB, lstAt, isNoD, encP]
    · simp [sizeLine_eq, startE, argA, bxIx, back, newC, notBor, bxAt, restE, noBx, lstB, lstAt, isNoD]
    · cases o <;> simp [sizeLine_eq, startE, argA, bxIx, back, newC, notBor, bxAt, restE, noBx, lstB, lstAt, isNoD, T__law_parts_1, encO]
    · cases o <;> simp [sizeLine_eq, startE, argA, bxIx, back, newC, notBor, bxAt, restE, noBx, lstB, lstAt, isNoD, M__law_parts_1, encO]) (by rw [sizeLine_eq]; omega)
  rw [← List.map_filterMap] at hp
  unfold m_law_parts b__law_parts
  have h0 := ix0 d
  have h1 := w_nrc d
  by_cases h : d.isRC = true
  · have h2 := ix2 d h
    rw [h] at h1
    simp [sizeLine_eq, startE, argA, bxIx, back, newC, notBor, bxAt, restE, noBx, lstB, lstAt, isNoD, h0, h1, h2, hp]
    rfl
  · have h' : d.isRC = false := by simpa using h
    rw [h'] at h1
    have hn : d.parts = [] := by cases d <;> first | rfl | cases h'
    simp [sizeLine_eq, startE, argA, bxIx, back, newC, notBor, bxAt, restE, noBx, lstB, lstAt, isNoD, h0, h1, hn]
/-! declared -/
def declT (ds : List Dc) : List Str := ds.map Dc.name ++ ds.flatMap Dc.arms
theorem arms_len (d : Dc) : d.arms.length ≤ d.pairs.length := by cases d <;> simp [Dc.arms, Dc.pairs]
theorem law_declared_ok {x : A} {ds : List Dc} (hx : IsS x (ds.map encDc)) (hl : ds.length < 64) (hp : ∀ d ∈ ds, d.pairs.length < 64) : m_law_declared [x] = some (.new (.lst ((declT ds).map PyData.str)), [x]) := by
  have turn : ∀ d ∈ ds, PureTurn (gnm 2) myes M__law_declared_1 [2] [some x, none, none, none, none] (encDc d) (some (.str d.name)) := fun d _ =>
    ⟨[some x, none, some (.dat (encDc d)), none, none], true, by simp [sizeLine_eq, startE, argA, bxIx, back, newC, notBor, bxAt, restE, noBx, lstB, lstAt, isNoD], by simp [sizeLine_eq, startE, argA, bxIx, back, newC, notBor, bxAt, restE, noBx, lstB, lstAt, isNoD], rfl, rfl, by simp [sizeLine_eq, startE, argA, bxIx, back, newC, notBor, bxAt, restE, noBx, lstB, lstAt, isNoD, M__law_declared_1, ix1]⟩
  have step : ∀ (s : List Str) (d : Dc) (r : List Dc) (j : Option D), (s.length + 64 * (d :: r).length < 16777216 ∧ ∀ e ∈ d :: r, e.pairs.length < 64) →
      ∃ ρ1 j', gnm 2 (encDc d) [some x, some (.box true (.lst (s.map PyData.str))), sD j, none, none] = some ρ1 ∧ L__law_declared_3 ρ1 = some (.nx, [some x, some (.box true (.lst ((s ++ d.arms).map PyData.str))), sD j', none, none]) ∧ ((s ++ d.arms).length + 64 * r.length < 16777216 ∧ ∀ e ∈ r, e.pairs.length < 64) := by
    intro s d r j ⟨h1, h2⟩
    rw [List.length_cons] at h1
    have ha := arms_len d
    have hq := h2 d List.mem_cons_self
    refine ⟨[some x, some (.box true (.lst (s.map PyData.str))), some (.dat (encDc d)), none, none], some (encDc d), ?_, ?_, by rw [List.length_append]; omega, fun e he => h2 e (List.mem_cons_of_mem _ he)⟩
    · cases j <;> simp [sizeLine_eq, startE, argA, bxIx, back, newC, notBor, bxAt, restE, noBx, lstB, lstAt, isNoD, sD]
    · have h0 := ix0 d
      have hc := w_choice d
      unfold L__law_declared_3
      cases d with
      | choice n ps =>
        have h2' := ix2 (.choice n ps) rfl
        have hp := lc_pure (g := gtup [3, 4]) (t := myes) (m := M__law_declared_2) (vs := [3, 4]) (ρ := [some x, some (.box true (.lst (s.map PyData.str))), some (.dat (encDc (.choice n ps))), none, none]) (encP encO) (fun p => some (.str p.1)) ps (fun p hp => by
          refine ⟨[some x, some (.box true (.lst (s.map PyData.str))), some (.dat (encDc (.choice n ps))), some (.dat (.str p.1)), some (.dat (encO p.2))], true, ?_, ?_, rfl, rfl, ?_⟩
          · simp [sizeLine_eq, startE, argA, bxIx, back, newC, notBor, bxAt, restE, noBx, lstB, lstAt, isNoD, encP]
          · simp [sizeLine_eq, startE, argA, bxIx, back, newC, notBor, bxAt, restE, noBx, lstB, lstAt, isNoD]
          · simp [sizeLine_eq, startE, argA, bxIx, back, newC, notBor, bxAt, restE, noBx, lstB, lstAt, isNoD, M__law_declared_2]) (by rw [sizeLine_eq]; have : ps.length < 64 := hq; omega)
        rw [List.filterMap_eq_map'] at hp
        have hz : s.length + ps.length ≤ 16777216 := by have : ps.length < 64 := hq; omega
        have h2' : ixD (encDc (.choice n ps)) (.int 2) = some (.dat (.tuple (ps.map (encP encO)))) := h2'
        simp [sizeLine_eq, startE, argA, bxIx, back, newC, notBor, bxAt, restE, noBx, lstB, lstAt, isNoD, h0, hc, h2', hp, extendD, hz, sD, Dc.arms]
      | once n => simp [sizeLine_eq, startE, argA, bxIx, back, newC, notBor, bxAt, restE, noBx, lstB, lstAt, isNoD, h0, hc, sD, Dc.arms]
      | plain n => simp [sizeLine_eq, startE, argA, bxIx, back, newC, notBor, bxAt, restE, noBx, lstB, lstAt, isNoD, h0, hc, sD, Dc.arms]
      | record n ps => simp [sizeLine_eq, startE, argA, bxIx, back, newC, notBor, bxAt, restE, noBx, lstB, lstAt, isNoD, h0, hc, sD, Dc.arms]
      | given n ps g => simp [sizeLine_eq, startE, argA, bxIx, back, newC, notBor, bxAt, restE, noBx, lstB, lstAt, isNoD, h0, hc, sD, Dc.arms]
  have hfold : ∀ (r : List Dc) (s : List Str), r.foldl (fun s d => s ++ d.arms) s = s ++ r.flatMap Dc.arms := by
    intro r
    induction r with
    | nil => intro s; simp
    | cons d r ih => intro s; rw [List.foldl_cons, ih, List.flatMap_cons, List.append_assoc]
  have h0 : (ds.map Dc.name).length + 64 * ds.length < 16777216 ∧ ∀ e ∈ ds, e.pairs.length < 64 := ⟨by rw [List.length_map]; omega, hp⟩
  have e1 : (ds.filterMap fun d => some (PyData.str d.name)) = (ds.map Dc.name).map PyData.str := by rw [List.filterMap_eq_map', List.map_map]; rfl
  unfold m_law_declared b__law_declared declT
  rcases hx with rfl | rfl | rfl
  · have hq := lc_pure _ _ ds turn (by rw [sizeLine_eq]; omega)
    obtain ⟨j', h1, _⟩ := forI_fold (g := gnm 2) (b := L__law_declared_3) (enc := encDc) (fun (s : List Str) (j : Option D) => [some (.dat (.list (ds.map encDc))), some (.box true (.lst (s.map PyData.str))), sD j, none, none]) (fun s d => s ++ d.arms) (fun s r => s.length + 64 * r.length < 16777216 ∧ ∀ e ∈ r, e.pairs.length < 64) step ds (ds.map Dc.name) none h0
    rw [e1] at hq
    rw [hfold] at h1
    simp [sizeLine_eq, startE, argA, bxIx, back, newC, notBor, bxAt, restE, noBx, lstB, lstAt, isNoD, sD] at h1 hq ⊢
    simp [sizeLine_eq, startE, argA, bxIx, back, newC, notBor, bxAt, restE, noBx, lstB, lstAt, isNoD, hq, h1]
  · have hq := lc_pure _ _ ds turn (by rw [sizeLine_eq]; omega)
    obtain ⟨j', h1, _⟩ := forI_fold (g := gnm 2) (b := L__law_declared_3) (enc := encDc) (fun (s : List Str) (j : Option D) => [some (.dat (.tuple (ds.map encDc))), some (.box true (.lst (s.map PyData.str))), sD j, none, none]) (fun s d => s ++ d.arms) (fun s r => s.length + 64 * r.length < 16777216 ∧ ∀ e ∈ r, e.pairs.length < 64) step ds (ds.map Dc.name) none h0
    rw [e1] at hq
    rw [hfold] at h1
    simp [sizeLine_eq, startE, argA, bxIx, back, newC, notBor, bxAt, restE, noBx, lstB, lstAt, isNoD, sD] at h1 hq ⊢
    simp [sizeLine_eq, startE, argA, bxIx, back, newC, notBor, bxAt, restE, noBx, lstB, lstAt, isNoD, hq, h1]
  · have hq := lcS_pure (i := 0) _ _ ds (by decide) rfl turn (by rw [sizeLine_eq]; omega)
    obtain ⟨j', h1, _⟩ := forS_fold (i := 0) (g := gnm 2) (b := L__law_declared_3) (enc := encDc) (xs := ds) (fun (s : List Str) (j : Option D) => [some (.box false (.lst (ds.map encDc))), some (.box true (.lst (s.map PyData.str))), sD j, none, none]) (fun s d => s ++ d.arms) (fun s r => s.length + 64 * r.length < 16777216 ∧ ∀ e ∈ r, e.pairs.length < 64) (fun _ _ => rfl) step (ds.map Dc.name) none h0
    rw [e1] at hq
    rw [hfold] at h1
    simp [sizeLine_eq, startE, argA, bxIx, back, newC, notBor, bxAt, restE, noBx, lstB, lstAt, isNoD, sD] at h1 hq ⊢
    simp [sizeLine_eq, startE, argA, bxIx, back, newC, notBor, bxAt, restE, noBx, lstB, lstAt, isNoD, hq, h1]
end K21

namespace K21
open PySem PySem.Spec PyProof.Rows L3
/-! kinds -/
def kdT (ds : List Dc) : List Str := (ds.filter Dc.isKd).map Dc.name
def kindsT (ds : List Dc) : List Str := [Str.ofString "num", Str.ofString "truth"] ++ kdT ds
theorem law_kinds_ok {x : A} {ds : List Dc} (hx : IsS x (ds.map encDc)) (hl : ds.length < 64) : m_law_kinds [x] = some (.new (.lst ((kindsT ds).map PyData.str)), [x]) := by
  have turn : ∀ d ∈ ds, PureTurn (gnm 1) T__law_kinds_1 M__law_kinds_1 [1] [some x, none] (encDc d) (if d.isKd = true then some (.str d.name) else none) := fun d _ => by
    refine ⟨[some x, some (.dat (encDc d))], d.isKd, by simp [sizeLine_eq, startE, argA, bxIx, back, newC, notBor, bxAt, restE, noBx, lstB, lstAt, isNoD], by simp [sizeLine_eq, startE, argA, bxIx, back, newC, notBor, bxAt, restE, noBx, lstB, lstAt, isNoD], ?_, ?_⟩
    · unfold T__law_kinds_1
      simp [sizeLine_eq, startE, argA, bxIx, back, newC, notBor, bxAt, restE, noBx, lstB, lstAt, isNoD, ix0, w_kind]
    · by_cases h : d.isKd = true
      · rw [if_pos h]
        exact ⟨h, by simp [sizeLine_eq, startE, argA, bxIx, back, newC, notBor, bxAt, restE, noBx, lstB, lstAt, isNoD, M__law_kinds_1, ix1]⟩
      · rw [if_neg h]
        simpa using h
  have e1 : (ds.filterMap fun d => if d.isKd = true then some (PyData.str d.name) else none) = (kdT ds).map PyData.str := by
    clear hx hl turn
    unfold kdT
    induction ds with
    | nil => rfl
    | cons d r ih =>
      by_cases h : d.isKd = true
      · simp [h, ih]
      · simp [h, ih]
  have hz : (kdT ds).length ≤ ds.length := by
    unfold kdT
    rw [List.length_map]
    exact List.length_filter_le _ _
  have ha : addD (.list [.str (Str.ofString "num"), .str (Str.ofString "truth")]) (.list ((kdT ds).map PyData.str)) = some (.new (.lst ((kindsT ds).map PyData.str))) := by
    unfold addD
    simp only []
    rw [if_pos]
    · rfl
    · rw [sizeLine_eq, List.length_map]
      simp only [List.length_cons, List.length_nil]
      omega
  unfold m_law_kinds b__law_kinds
  rcases hx with rfl | rfl | rfl
  · have hq := lc_pure _ _ ds turn (by rw [sizeLine_eq]; omega)
    rw [e1] at hq
    simp [sizeLine_eq, startE, argA, bxIx, back, newC, notBor, bxAt, restE, noBx, lstB, lstAt, isNoD, hq, ha]
  · have hq := lc_pure _ _ ds turn (by rw [sizeLine_eq]; omega)
    rw [e1] at hq
    simp [sizeLine_eq, startE, argA, bxIx, back, newC, notBor, bxAt, restE, noBx, lstB, lstAt, isNoD, hq, ha]
  · have hq := lcS_pure (i := 0) _ _ ds (by decide) rfl turn (by rw [sizeLine_eq]; omega)
    rw [e1] at hq
    simp [sizeLine_eq, startE, argA, bxIx, back, newC, notBor, bxAt, restE, noBx, lstB, lstAt, isNoD, hq, ha]
theorem alikes_str (l : List Str) : alikeB (l.map PyData.str) = true := by
  unfold alikeB
  rw [List.all_eq_true]
  intro d hd
  rw [List.all_eq_true]
  intro e he
  obtain ⟨s, _, rfl⟩ := List.mem_map.mp hd
  obtain ⟨t, _, rfl⟩ := List.mem_map.mp he
  simp [PySem.W.alike]
theorem sorted_strs (l : List Str) : sortedD [.list (l.map PyData.str)] = some (.new (.lst ((sortS l).map PyData.str))) := by
  unfold sortedD
  simp only []
  rw [if_pos, sortD_str]
  unfold sortOk
  rw [alikes_str]
  have h1 : (l.map PyData.str).all noTup = true := by
    rw [List.all_eq_true]
    intro d hd
    obtain ⟨s, _, rfl⟩ := List.mem_map.mp hd
    rfl
  have h2 : (l.map PyData.str).all (fun d => decide (d.depth ≤ 64)) = true := by
    rw [List.all_eq_true]
    intro d hd
    obtain ⟨s, _, rfl⟩ := List.mem_map.mp hd
    rfl
  rw [h1, h2]
  simp
theorem cut2 (a b : D) (r : List D) (h : r.length < 1000) : cutL (a :: b :: r) (some 2) none = r := by
  unfold cutL
  rw [show ((2 : Int)) = ((2 : Nat) : Int) from rfl, HT.sIx_nat, HT.sIx_none]
  simp only [List.length_cons]
  have e : min 2 (r.length + 1 + 1) = 2 := by omega
  rw [e]
  simp
theorem law_declared_kinds_ok {x : A} {ds : List Dc} (hx : IsS x (ds.map encDc)) (hl : ds.length < 64) : m_law_declared_kinds [x] = some (.new (.lst ((sortS (kdT ds)).map PyData.str)), [x]) := by
  have h1 := law_kinds_ok hx hl
  have hz : (kdT ds).length ≤ ds.length := by
    unfold kdT
    rw [List.length_map]
    exact List.length_filter_le _ _
  have h2 : cutL ((kindsT ds).map PyData.str) (some 2) none = (kdT ds).map PyData.str := cut2 (.str (Str.ofString "num")) (.str (Str.ofString "truth")) ((kdT ds).map PyData.str) (by rw [List.length_map]; omega)
  have h3 := sorted_strs (kdT ds)
  unfold m_law_declared_kinds b__law_declared_kinds
  rcases hx with rfl | rfl | rfl <;> simp [sizeLine_eq, startE, argA, bxIx, back, newC, notBor, bxAt, restE, noBx, lstB, lstAt, isNoD, h1, h2, h3]
/-! once: the program's table -/
abbrev Tb := List (Str × Bool)
def stepP (t : Tb) (d : Dc) : Tb := if d.isKd = true then putT t d.name (d.isOnce || d.parts.any fun p => (getT t p).getD false) else t
def tabP (ds : List Dc) : Tb := ds.foldl stepP []
theorem stepP_len (t : Tb) (d : Dc) : (stepP t d).length ≤ t.length + 1 := by
  unfold stepP
  split
  · exact put_len _ _ _
  · omega
theorem getB_map (o : Option Bool) : (o.map PyData.bool).getD (PyData.bool false) = PyData.bool (o.getD false) := by cases o <;> rfl
theorem any_bools {α : Type} (f : α → Bool) (xs : List α) : anyD [.list (xs.map fun x => PyData.bool (f x))] = some (.dat (.bool (xs.any f))) := by
  unfold anyD
  simp only []
  rw [bools_map f]
  simp only [Option.map_some, List.any_map]
  rfl
theorem dB_len {t : Tb} (h : t.length < 64) : (dE PyData.bool t).length < 16777216 := by
  unfold dE
  rw [List.length_map]
  omega
theorem once_in (x : A) (t : Tb) (d : Dc) (j : Option D) (hd : d.pairs.length < 64) (ht : t.length < 64) :
    L_once_table_2 [some x, some (.box true (.dic (dE PyData.bool t))), some (.dat (encDc d)), none, none] = some (.nx, [some x, some (.box true (.dic (dE PyData.bool (stepP t d)))), some (.dat (encDc d)), none, none]) := by
  have hs := dB_len ht
  have h0 := ix0 d
  have h1 := ix1 d
  have hp := w_po d
  have hr := w_rc d
  have ho := w_once d
  unfold L_once_table_2
  by_cases hrc : d.isRC = true
  · have h2 := ix2 d hrc
    have hk : d.isKd = true := by cases d <;> first | rfl | cases hrc
    have hno : d.isOnce = false := by cases d <;> first | rfl | cases hrc
    have hq := lc_pure (g := gtup [3, 4]) (t := myes) (m := M_once_table_1) (vs := [3, 4]) (ρ := [some x, some (.box true (.dic (dE PyData.bool t))), some (.dat (encDc d)), none, none]) (encP encO) (fun p => some (.bool (match p.2 with | some k => (getT t k).getD false | none => false))) d.pairs (fun p _ => by
      obtain ⟨a, o⟩ := p
      refine ⟨[some x, some (.box true (.dic (dE PyData.bool t))), some (.dat (encDc d)), some (.dat (.str a)), some (.dat (encO o))], true, ?_, ?_, rfl, rfl, ?_⟩
      · simp [sizeLine_eq, startE, argA, bxIx, back, newC, notBor, bxAt, restE, noBx, lstB, lstAt, isNoD, encP]
      · simp [sizeLine_eq, startE, argA, bxIx, back, newC, notBor, bxAt, restE, noBx, lstB, lstAt, isNoD]
      · cases o with
        | none => simp [sizeLine_eq, startE, argA, bxIx, back, newC, notBor, bxAt, restE, noBx, lstB, lstAt, isNoD, M_once_table_1, encO]
        | some k => simp [sizeLine_eq, startE, argA, bxIx, back, newC, notBor, bxAt, restE, noBx, lstB, lstAt, isNoD, M_once_table_1, encO, dE_val, getB_map]) (by rw [sizeLine_eq]; omega)
    rw [List.filterMap_eq_map'] at hq
    have ha := any_bools (fun p : Str × Option Str => match p.2 with | some k => (getT t k).getD false | none => false) d.pairs
    have hany : (d.pairs.any fun p => match p.2 with | some k => (getT t k).getD false | none => false) = d.parts.any fun p => (getT t p).getD false := by
      unfold Dc.parts
      rw [List.any_filterMap]
      refine congrArg (d.pairs.any ·) (funext fun p => ?_)
      cases p.2 <;> rfl
    rw [hany] at ha
    rw [hrc, hk] at hp
    rw [hrc] at hr
    have he : stepP t d = putT t d.name (d.parts.any fun p => (getT t p).getD false) := by
      unfold stepP
      rw [if_pos hk, hno, Bool.false_or]
    rw [he]
    simp [sizeLine_eq, startE, argA, bxIx, back, newC, notBor, bxAt, restE, noBx, lstB, lstAt, isNoD, h0, h1, h2, hp, hr, hq, ha, hs, dE_put]
  · have hrc' : d.isRC = false := by simpa using hrc
    rw [hrc'] at hp hr
    have hn : d.parts = [] := by cases d <;> first | rfl | cases hrc'
    by_cases hk : d.isKd = true
    · rw [hk] at hp
      have he : stepP t d = putT t d.name d.isOnce := by
        unfold stepP
        rw [if_pos hk, hn]
        simp
      rw [he]
      simp [sizeLine_eq, startE, argA, bxIx, back, newC, notBor, bxAt, restE, noBx, lstB, lstAt, isNoD, h0, h1, hp, ho, hs, dE_put]
    · have hk' : d.isKd = false := by simpa using hk
      rw [hk'] at hp
      have he : stepP t d = t := by
        unfold stepP
        rw [if_neg hk]
      rw [he]
      simp [sizeLine_eq, startE, argA, bxIx, back, newC, notBor, bxAt, restE, noBx, lstB, lstAt, isNoD, h0, hp, hr]
theorem once_table_ok {ds : List Dc} (hl : ds.length < 64) (hp : ∀ d ∈ ds, d.pairs.length < 64) : p_once_table [.dat (.tuple (ds.map encDc))] = some (.new (.dic (dE PyData.bool (tabP ds))), [.dat (.tuple (ds.map encDc))]) := by
  obtain ⟨j', h1, _⟩ := forI_fold (g := gnm 2) (b := L_once_table_2) (enc := encDc) (fun (t : Tb) (j : Option D) => [some (.dat (.tuple (ds.map encDc))), some (.box true (.dic (dE PyData.bool t))), sD j, none, none]) stepP (fun t r => t.length + r.length < 64 ∧ ∀ d ∈ r, d.pairs.length < 64) (fun t d r j hI => by
    have h1 := hI.1
    rw [List.length_cons] at h1
    have hs := stepP_len t d
    refine ⟨[some (.dat (.tuple (ds.map encDc))), some (.box true (.dic (dE PyData.bool t))), some (.dat (encDc d)), none, none], some (encDc d), ?_, once_in _ t d j (hI.2 d List.mem_cons_self) (by omega), by omega, fun e he => hI.2 e (List.mem_cons_of_mem _ he)⟩
    cases j <;> simp [sizeLine_eq, startE, argA, bxIx, back, newC, notBor, bxAt, restE, noBx, lstB, lstAt, isNoD, sD]) ds [] none ⟨by simpa using hl, hp⟩
  unfold p_once_table b_once_table tabP
  simp [sizeLine_eq, startE, argA, bxIx, back, newC, notBor, bxAt, restE, noBx, lstB, lstAt, isNoD, sD, dE] at h1 ⊢
  simp [sizeLine_eq, startE, argA, bxIx, back, newC, notBor, bxAt, restE, noBx, lstB, lstAt, isNoD, h1]
def osT (ds : List Dc) : List Str := (sortS (keyT (tabP ds))).filter fun k => (getT (tabP ds) k).getD false
theorem tabP_len (ds : List Dc) : (tabP ds).length ≤ ds.length := by
  have h : ∀ (r : List Dc) (t : Tb), (r.foldl stepP t).length ≤ t.length + r.length := by
    intro r
    induction r with
    | nil => intro t; exact Nat.le_refl _
    | cons d r ih =>
      intro t
      have h1 := ih (stepP t d)
      have h2 := stepP_len t d
      rw [List.foldl_cons, List.length_cons]
      omega
  have := h ds []
  simpa [tabP] using this
theorem once_kinds_ok {ds : List Dc} (hl : ds.length < 64) (hp : ∀ d ∈ ds, d.pairs.length < 64) : p_once_kinds [.dat (.tuple (ds.map encDc))] = some (.dat (.tuple ((osT ds).map PyData.str)), [.dat (.tuple (ds.map encDc))]) := by
  have h1 := once_table_ok hl hp
  have h2 := tabP_len ds
  have h3 := sorted_dE PyData.bool (tabP ds) (by omega)
  have hq := lc_pure (g := gnm 2) (t := T_once_kinds_1) (m := M_once_kinds_1) (vs := [2]) (ρ := [some (.dat (.tuple (ds.map encDc))), some (.box true (.dic (dE PyData.bool (tabP ds)))), none]) PyData.str (fun k => if (getT (tabP ds) k).getD false = true then some (.str k) else none) (sortS (keyT (tabP ds))) (fun k hk => by
    have hm := mem_sort hk
    cases hg : getT (tabP ds) k with
    | none => exact absurd hm (getT_none.mp hg)
    | some b =>
      refine ⟨[some (.dat (.tuple (ds.map encDc))), some (.box true (.dic (dE PyData.bool (tabP ds)))), some (.dat (.str k))], b, by simp [sizeLine_eq, startE, argA, bxIx, back, newC, notBor, bxAt, restE, noBx, lstB, lstAt, isNoD], by simp [sizeLine_eq, startE, argA, bxIx, back, newC, notBor, bxAt, restE, noBx, lstB, lstAt, isNoD], ?_, ?_⟩
      · simp [sizeLine_eq, startE, argA, bxIx, back, newC, notBor, bxAt, restE, noBx, lstB, lstAt, isNoD, T_once_kinds_1, dE_val, hg]
      · cases b
        · simp
        · simp [sizeLine_eq, startE, argA, bxIx, back, newC, notBor, bxAt, restE, noBx, lstB, lstAt, isNoD, M_once_kinds_1]) (by
    rw [(sortS_perm _).length_eq, sizeLine_eq]
    unfold keyT
    rw [List.length_map]
    omega)
  have e1 : ((sortS (keyT (tabP ds))).filterMap fun k => if (getT (tabP ds) k).getD false = true then some (PyData.str k) else none) = (osT ds).map PyData.str := by
    unfold osT
    generalize sortS (keyT (tabP ds)) = l
    induction l with
    | nil => rfl
    | cons k r ih =>
      by_cases h : (getT (tabP ds) k).getD false = true
      · simp [h, ih]
      · simp [h, ih]
  rw [e1] at hq
  unfold p_once_kinds b_once_kinds
  simp [sizeLine_eq, startE, argA, bxIx, back, newC, notBor, bxAt, restE, noBx, lstB, lstAt, isNoD, h1, h3, hq]
end K21

namespace K21
open PySem PySem.Spec PyProof.Rows L3
/-! well-made libraries: parts are kinds known ahead -/
def Wf : List Str → List Dc → Prop
  | _, [] => True
  | K, d :: r => NameOk d.name ∧ d.pairs.length < 64 ∧ (∀ p ∈ d.parts, p ∈ K) ∧ Wf (if d.isKd = true then K ++ [d.name] else K) r
def K0 : List Str := [Str.ofString "num", Str.ofString "truth"]
theorem Wf.pairs {K : List Str} {ds : List Dc} (h : Wf K ds) : ∀ d ∈ ds, d.pairs.length < 64 := by
  induction ds generalizing K with
  | nil => exact fun d hd => by cases hd
  | cons e r ih =>
    obtain ⟨_, h2, _, h4⟩ := h
    intro d hd
    rcases List.mem_cons.mp hd with rfl | hd
    · exact h2
    · exact ih h4 d hd
theorem Wf.names {K : List Str} {ds : List Dc} (h : Wf K ds) : ∀ d ∈ ds, NameOk d.name := by
  induction ds generalizing K with
  | nil => exact fun d hd => by cases hd
  | cons e r ih =>
    obtain ⟨h1, _, _, h4⟩ := h
    intro d hd
    rcases List.mem_cons.mp hd with rfl | hd
    · exact h1
    · exact ih h4 d hd
def kAfter (K : List Str) : List Dc → List Str
  | [] => K
  | d :: r => kAfter (if d.isKd = true then K ++ [d.name] else K) r
theorem kAfter_eq : ∀ (ds : List Dc) (K : List Str), kAfter K ds = K ++ kdT ds
  | [], K => by simp [kAfter, kdT]
  | d :: r, K => by
    unfold kAfter
    rw [kAfter_eq r]
    unfold kdT
    by_cases h : d.isKd = true
    · simp [h]
    · simp [h]
theorem Wf.snoc {d : Dc} (h1 : NameOk d.name) (h2 : d.pairs.length < 64) : ∀ {ds : List Dc} {K : List Str}, Wf K ds → (∀ p ∈ d.parts, p ∈ kAfter K ds) → Wf K (ds ++ [d])
  | [], K, _, h3 => ⟨h1, h2, h3, trivial⟩
  | e :: r, K, h, h3 => ⟨h.1, h.2.1, h.2.2.1, Wf.snoc h1 h2 h.2.2.2 h3⟩
theorem Wf.take : ∀ {ds : List Dc} {K : List Str} (n : Nat), Wf K ds → Wf K (ds.take n)
  | _, _, 0, _ => trivial
  | [], _, _ + 1, _ => trivial
  | d :: r, K, n + 1, h => ⟨h.1, h.2.1, h.2.2.1, Wf.take n h.2.2.2⟩
/-- a table that knows the kinds K -/
def TbOk (K : List Str) (t : Tb) : Prop := ∀ k ∈ K, k ∈ keyT t ∧ PyData.strOk k = true
theorem TbOk.step {K : List Str} {t : Tb} (h : TbOk K t) (d : Dc) (hn : NameOk d.name) : TbOk (if d.isKd = true then K ++ [d.name] else K) (stepP t d) := by
  unfold stepP
  by_cases hk : d.isKd = true
  · rw [if_pos hk, if_pos hk]
    intro k hkm
    rw [keyT_put]
    rcases List.mem_append.mp hkm with hm | hm
    · refine ⟨?_, (h k hm).2⟩
      split
      · exact (h k hm).1
      · exact List.mem_append_left _ (h k hm).1
    · rw [List.mem_singleton.mp hm]
      refine ⟨?_, hn.ok⟩
      split
      · assumption
      · exact List.mem_append_right _ (List.mem_singleton_self _)
  · rw [if_neg hk, if_neg hk]
    exact h
theorem filt_map {α : Type} (q : α → Bool) (f : α → D) (l : List α) : (l.filterMap fun k => if q k = true then some (f k) else none) = (l.filter q).map f := by
  induction l with
  | nil => rfl
  | cons k r ih =>
    by_cases h : q k = true
    · simp [h, ih]
    · simp [h, ih]
theorem parts_len (d : Dc) : d.parts.length ≤ d.pairs.length := by
  unfold Dc.parts
  exact List.length_filterMap_le _ _
theorem ne_filter {q : Str → Bool} {l : List Str} (h : ∀ s ∈ l, PyData.strOk s = true) : neD (.list ((l.filter q).map PyData.str)) (.list []) = some (.dat (.bool (l.any q))) := by
  rw [ne_nil (okL_strs fun s hs => h s (List.mem_filter.mp hs).1) (dep_strs _)]
  refine congrArg (fun b => some (R.dat (.bool b))) ?_
  clear h
  induction l with
  | nil => rfl
  | cons k r ih =>
    rw [List.any_cons, ← ih]
    by_cases hq : q k = true
    · simp [hq]
    · simp [hq]
theorem get_someB {c : Tb} {k : Str} (h : k ∈ keyT c) : getT c k = some ((getT c k).getD false) := by
  cases e : getT c k with
  | none => exact absurd h (getT_none.mp e)
  | some n => rfl
theorem law_once_in (dt : D) (t : Tb) (d : Dc) (hd : d.pairs.length < 64) (ht : t.length < 80) (hk : ∀ p ∈ d.parts, p ∈ keyT t ∧ PyData.strOk p = true) :
    L__law_once_table_2 [some (.dat dt), some (.box true (.dic (dE PyData.bool t))), some (.dat (encDc d)), none] = some (.nx, [some (.dat dt), some (.box true (.dic (dE PyData.bool (stepP t d)))), some (.dat (encDc d)), none]) := by
  have hs : (dE PyData.bool t).length < 16777216 := by
    unfold dE
    rw [List.length_map]
    omega
  have h0 := ix0 d
  have h1 := ix1 d
  have hw := w_kind d
  have ho := w_once d
  have hp := law_parts_ok d hd
  have hl := parts_len d
  have hq := lc_pure (g := gnm 3) (t := T__law_once_table_1) (m := M__law_once_table_1) (vs := [3]) (ρ := [some (.dat dt), some (.box true (.dic (dE PyData.bool t))), some (.dat (encDc d)), none]) PyData.str (fun p => if (getT t p).getD false = true then some (.str p) else none) d.parts (fun p hp => by
    have hg := get_someB (hk p hp).1
    generalize hb : (getT t p).getD false = b at hg ⊢
    refine ⟨[some (.dat dt), some (.box true (.dic (dE PyData.bool t))), some (.dat (encDc d)), some (.dat (.str p))], b, by simp [sizeLine_eq, startE, argA, bxIx, back, newC, notBor, bxAt, restE, noBx, lstB, lstAt, isNoD], by simp [sizeLine_eq, startE, argA, bxIx, back, newC, notBor, bxAt, restE, noBx, lstB, lstAt, isNoD], ?_, ?_⟩
    · simp [sizeLine_eq, startE, argA, bxIx, back, newC, notBor, bxAt, restE, noBx, lstB, lstAt, isNoD, T__law_once_table_1, dE_val, hg]
    · cases b
      · simp
      · simp [sizeLine_eq, startE, argA, bxIx, back, newC, notBor, bxAt, restE, noBx, lstB, lstAt, isNoD, M__law_once_table_1]) (by rw [sizeLine_eq]; omega)
  rw [filt_map (fun p => (getT t p).getD false)] at hq
  have hne := ne_filter (q := fun p => (getT t p).getD false) (l := d.parts) (fun s hs => (hk s hs).2)
  unfold L__law_once_table_2
  by_cases hkd : d.isKd = true
  · rw [hkd] at hw
    have he : stepP t d = putT t d.name (d.isOnce || d.parts.any fun p => (getT t p).getD false) := by
      unfold stepP
      rw [if_pos hkd]
    rw [he]
    by_cases hon : d.isOnce = true
    · rw [hon] at ho
      simp [sizeLine_eq, startE, argA, bxIx, back, newC, notBor, bxAt, restE, noBx, lstB, lstAt, isNoD, h0, h1, hw, ho, hs, dE_put, hon]
    · have hon' : d.isOnce = false := by simpa using hon
      rw [hon'] at ho
      simp [sizeLine_eq, startE, argA, bxIx, back, newC, notBor, bxAt, restE, noBx, lstB, lstAt, isNoD, h0, h1, hw, ho, hs, dE_put, hon', hp, hq, hne]
  · have hkd' : d.isKd = false := by simpa using hkd
    rw [hkd'] at hw
    have he : stepP t d = t := by
      unfold stepP
      rw [if_neg hkd]
    rw [he]
    simp [sizeLine_eq, startE, argA, bxIx, back, newC, notBor, bxAt, restE, noBx, lstB, lstAt, isNoD, h0, hw]
def tab0 : Tb := [(Str.ofString "num", false), (Str.ofString "truth", false)]
def tabL (ds : List Dc) : Tb := ds.foldl stepP tab0
theorem law_once_table_ok {ds : List Dc} (hl : ds.length < 64) (hw : Wf K0 ds) : m_law_once_table [.dat (.tuple (ds.map encDc))] = some (.new (.dic (dE PyData.bool (tabL ds))), [.dat (.tuple (ds.map encDc))]) := by
  obtain ⟨j', h1, _⟩ := forI_fold (g := gnm 2) (b := L__law_once_table_2) (enc := encDc) (fun (t : Tb) (j : Option D) => [some (.dat (.tuple (ds.map encDc))), some (.box true (.dic (dE PyData.bool t))), sD j, none]) stepP (fun t r => t.length + r.length < 66 ∧ ∃ K, TbOk K t ∧ Wf K r) (fun t d r j hI => by
    obtain ⟨h1, K, hK, hr⟩ := hI
    rw [List.length_cons] at h1
    have hs := stepP_len t d
    refine ⟨[some (.dat (.tuple (ds.map encDc))), some (.box true (.dic (dE PyData.bool t))), some (.dat (encDc d)), none], some (encDc d), ?_, law_once_in _ t d hr.2.1 (by omega) (fun p hp => hK p (hr.2.2.1 p hp)), by omega, _, hK.step d hr.1, hr.2.2.2⟩
    cases j <;> simp [sizeLine_eq, startE, argA, bxIx, back, newC, notBor, bxAt, restE, noBx, lstB, lstAt, isNoD, sD]) ds tab0 none ⟨by show 2 + ds.length < 66; omega, K0, by
      intro k hk
      exact ⟨hk, by
        have : K0.all (fun s => PyData.strOk s) = true := by decide +kernel
        exact List.all_eq_true.mp this k hk⟩, hw⟩
  have e0 : mergeKD [] [((.inr (Str.ofString "num") : L2.Key), PyData.bool false), (.inr (Str.ofString "truth"), .bool false)] = dE PyData.bool tab0 := by
    have := merge_dE PyData.bool tab0 []
    rw [fold_put tab0 [] (by decide +kernel)] at this
    exact this
  unfold m_law_once_table b__law_once_table
  rw [show tabL ds = ds.foldl stepP tab0 from rfl]
  simp [sizeLine_eq, startE, argA, bxIx, back, newC, notBor, bxAt, restE, noBx, lstB, lstAt, isNoD, e0, sD] at h1 ⊢
  simp [sizeLine_eq, startE, argA, bxIx, back, newC, notBor, bxAt, restE, noBx, lstB, lstAt, isNoD, h1]
end K21

namespace K21
open PySem PySem.Spec PyProof.Rows L3
theorem get_pre (t : Tb) (k : Str) : getT (tab0 ++ t) k = if k ∈ K0 then some false else getT t k := by
  show getT ((Str.ofString "num", false) :: (Str.ofString "truth", false) :: t) k = _
  rw [getT_cons, getT_cons]
  by_cases h1 : Str.ofString "num" = k
  · subst h1; simp [K0]
  · by_cases h2 : Str.ofString "truth" = k
    · subst h2; simp [K0]
    · have h3 : ¬ k = Str.ofString "num" := fun z => h1 z.symm
      have h4 : ¬ k = Str.ofString "truth" := fun z => h2 z.symm
      simp [h1, h2, h3, h4, K0]
theorem put_pre (t : Tb) {k : Str} (v : Bool) (h : k ∉ K0) : putT (tab0 ++ t) k v = tab0 ++ putT t k v := by
  have h1 : ¬ Str.ofString "num" = k := fun z => h (by rw [← z]; simp [K0])
  have h2 : ¬ Str.ofString "truth" = k := fun z => h (by rw [← z]; simp [K0])
  have hm : (k ∈ keyT (tab0 ++ t)) = (k ∈ keyT t) := by
    show (k ∈ Str.ofString "num" :: Str.ofString "truth" :: keyT t) = _
    rw [List.mem_cons, List.mem_cons]
    have h3 : ¬ k = Str.ofString "num" := fun z => h1 z.symm
    have h4 : ¬ k = Str.ofString "truth" := fun z => h2 z.symm
    simp [h3, h4]
  unfold putT
  by_cases hc : k ∈ keyT t
  · rw [if_pos (by rw [hm]; exact hc), if_pos hc, List.map_append]
    refine congrArg (· ++ _) ?_
    simp [tab0, h1, h2]
  · rw [if_neg (by rw [hm]; exact hc), if_neg hc, List.append_assoc]
theorem nm_k0 {s : Str} (h : NameOk s) : s ∉ K0 := by
  intro hm
  rcases List.mem_cons.mp hm with rfl | hm
  · exact h.num rfl
  · exact h.tru (List.mem_singleton.mp hm)
def TbN (t : Tb) : Prop := ∀ k ∈ keyT t, NameOk k
theorem any_pre (t : Tb) (ht : TbN t) (l : List Str) : (l.any fun p => (getT (tab0 ++ t) p).getD false) = l.any fun p => (getT t p).getD false := by
  refine congrArg (l.any ·) (funext fun p => ?_)
  rw [get_pre]
  by_cases h : p ∈ K0
  · rw [if_pos h]
    have : getT t p = none := getT_none.mpr fun z => nm_k0 (ht p z) h
    rw [this]
    rfl
  · rw [if_neg h]
theorem step_pre (t : Tb) (ht : TbN t) (d : Dc) (hn : NameOk d.name) : stepP (tab0 ++ t) d = tab0 ++ stepP t d ∧ TbN (stepP t d) := by
  unfold stepP
  by_cases hk : d.isKd = true
  · rw [if_pos hk, if_pos hk, any_pre t ht, put_pre t _ (nm_k0 hn)]
    refine ⟨rfl, fun k hkm => ?_⟩
    rw [keyT_put] at hkm
    split at hkm
    · exact ht k hkm
    · rcases List.mem_append.mp hkm with hm | hm
      · exact ht k hm
      · rw [List.mem_singleton.mp hm]; exact hn
  · rw [if_neg hk, if_neg hk]
    exact ⟨rfl, ht⟩
theorem tab_pre {ds : List Dc} (hn : ∀ d ∈ ds, NameOk d.name) : tabL ds = tab0 ++ tabP ds ∧ TbN (tabP ds) := by
  have key : ∀ (r : List Dc) (t : Tb), TbN t → (∀ d ∈ r, NameOk d.name) → r.foldl stepP (tab0 ++ t) = tab0 ++ r.foldl stepP t ∧ TbN (r.foldl stepP t) := by
    intro r
    induction r with
    | nil => intro t ht _; exact ⟨rfl, ht⟩
    | cons d r ih =>
      intro t ht h
      obtain ⟨h1, h2⟩ := step_pre t ht d (h d List.mem_cons_self)
      rw [List.foldl_cons, List.foldl_cons, h1]
      exact ih _ h2 fun e he => h e (List.mem_cons_of_mem _ he)
  have := key ds [] (fun k hk => by cases hk) hn
  rw [List.append_nil] at this
  exact this
theorem tab_keys (ds : List Dc) : ∀ k ∈ kdT ds, k ∈ keyT (tabP ds) := by
  have key : ∀ (r : List Dc) (t : Tb) (k : Str), (k ∈ keyT t ∨ k ∈ kdT r) → k ∈ keyT (r.foldl stepP t) := by
    intro r
    induction r with
    | nil => intro t k h; exact h.elim id fun z => by cases z
    | cons d r ih =>
      intro t k h
      rw [List.foldl_cons]
      refine ih _ k ?_
      unfold stepP
      by_cases hk : d.isKd = true
      · rw [if_pos hk, keyT_put]
        rcases h with h | h
        · left; split
          · exact h
          · exact List.mem_append_left _ h
        · have : k ∈ d.name :: kdT r := by
            unfold kdT at h ⊢
            rw [List.filter_cons, if_pos hk] at h
            exact h
          rcases List.mem_cons.mp this with rfl | h
          · left; split
            · assumption
            · exact List.mem_append_right _ (List.mem_singleton_self _)
          · exact .inr h
      · rw [if_neg hk]
        refine h.imp id fun h => ?_
        unfold kdT at h ⊢
        rw [List.filter_cons, if_neg hk] at h
        exact h
  exact fun k hk => key ds [] k (.inr hk)
theorem once_ok {ds : List Dc} (hl : ds.length < 64) (hw : Wf K0 ds) : OnceOk (.tuple (ds.map encDc)) (osT ds) (kdT ds) := by
  refine ⟨once_kinds_ok hl hw.pairs, fun k hk => ?_⟩
  have h1 := law_once_table_ok hl hw
  obtain ⟨h2, h3⟩ := tab_pre hw.names
  have hkm := tab_keys ds k hk
  have hg := get_someB hkm
  have hg2 : getT (tabL ds) k = some ((getT (tabP ds) k).getD false) := by
    rw [h2, get_pre, if_neg (nm_k0 (h3 k hkm)), ← hg]
  have hd : decide (k ∈ osT ds) = (getT (tabP ds) k).getD false := by
    rw [Bool.eq_iff_iff, decide_eq_true_eq]
    unfold osT
    rw [List.mem_filter]
    exact ⟨fun h => h.2, fun h => ⟨(sortS_perm _).mem_iff.mpr hkm, h⟩⟩
  rw [hd]
  unfold m_law_is_once b__law_is_once
  simp [sizeLine_eq, startE, argA, bxIx, back, newC, notBor, bxAt, restE, noBx, lstB, lstAt, isNoD, h1, dE_val, hg2]
/-! within -/
theorem within_in (x : A) (t : Tb) (d : Dc) (n : Int) (hd : d.pairs.length < 64) (ht : t.length < 64) (hk : ∀ p ∈ d.parts, PyData.strOk p = true) :
    L__law_is_within_3 [some x, some (.box true (.dic (dE PyData.bool t))), some (.dat (.int n)), some (.dat (encDc d)), none, none] = some (.nx, [some x, some (.box true (.dic (dE PyData.bool (stepP t d)))), some (.dat (.int n)), some (.dat (encDc d)), none, none]) := by
  have hs := dB_len ht
  have h0 := ix0 d
  have h1 := ix1 d
  have hw := w_ngd d
  have ho := w_once d
  have hp := law_parts_ok d hd
  have hl := parts_len d
  have hq := lc_pure (g := gnm 5) (t := T__law_is_within_2) (m := M__law_is_within_2) (vs := [5]) (ρ := [some x, some (.box true (.dic (dE PyData.bool t))), some (.dat (.int n)), some (.dat (encDc d)), none, none]) PyData.str (fun p => if (getT t p).getD false = true then some (.str p) else none) d.parts (fun p hp => by
    refine ⟨[some x, some (.box true (.dic (dE PyData.bool t))), some (.dat (.int n)), some (.dat (encDc d)), none, some (.dat (.str p))], (getT t p).getD false, by simp [sizeLine_eq, startE, argA, bxIx, back, newC, notBor, bxAt, restE, noBx, lstB, lstAt, isNoD], by simp [sizeLine_eq, startE, argA, bxIx, back, newC, notBor, bxAt, restE, noBx, lstB, lstAt, isNoD], ?_, ?_⟩
    · simp [sizeLine_eq, startE, argA, bxIx, back, newC, notBor, bxAt, restE, noBx, lstB, lstAt, isNoD, T__law_is_within_2, dE_val, getB_map]
    · cases hb : (getT t p).getD false
      · simp
      · simp [sizeLine_eq, startE, argA, bxIx, back, newC, notBor, bxAt, restE, noBx, lstB, lstAt, isNoD, M__law_is_within_2]) (by rw [sizeLine_eq]; omega)
  rw [filt_map (fun p => (getT t p).getD false)] at hq
  have hne := ne_filter (q := fun p => (getT t p).getD false) (l := d.parts) (fun s hs => hk s hs)
  unfold L__law_is_within_3
  by_cases hkd : d.isKd = true
  · rw [hkd] at hw
    have he : stepP t d = putT t d.name (d.isOnce || d.parts.any fun p => (getT t p).getD false) := by
      unfold stepP
      rw [if_pos hkd]
    rw [he]
    by_cases hon : d.isOnce = true
    · rw [hon] at ho
      simp [sizeLine_eq, startE, argA, bxIx, back, newC, notBor, bxAt, restE, noBx, lstB, lstAt, isNoD, h0, h1, hw, ho, hs, dE_put, hon]
    · have hon' : d.isOnce = false := by simpa using hon
      rw [hon'] at ho
      simp [sizeLine_eq, startE, argA, bxIx, back, newC, notBor, bxAt, restE, noBx, lstB, lstAt, isNoD, h0, h1, hw, ho, hs, dE_put, hon', hp, hq, hne]
  · have hkd' : d.isKd = false := by simpa using hkd
    rw [hkd'] at hw
    have he : stepP t d = t := by
      unfold stepP
      rw [if_neg hkd]
    rw [he]
    simp [sizeLine_eq, startE, argA, bxIx, back, newC, notBor, bxAt, restE, noBx, lstB, lstAt, isNoD, h0, hw]
theorem Wf.parts {K : List Str} {ds : List Dc} (h : Wf K ds) (hK : ∀ k ∈ K, PyData.strOk k = true) : ∀ d ∈ ds, ∀ p ∈ d.parts, PyData.strOk p = true := by
  induction ds generalizing K with
  | nil => exact fun d hd => by cases hd
  | cons e r ih =>
    intro d hd
    rcases List.mem_cons.mp hd with rfl | hd
    · exact fun p hp => hK p (h.2.2.1 p hp)
    · refine ih h.2.2.2 (fun k hk => ?_) d hd
      split at hk
      · rcases List.mem_append.mp hk with hm | hm
        · exact hK k hm
        · rw [List.mem_singleton.mp hm]; exact h.1.ok
      · exact hK k hk
theorem K0_ok : ∀ k ∈ K0, PyData.strOk k = true := by
  have : K0.all (fun s => PyData.strOk s) = true := by decide +kernel
  exact List.all_eq_true.mp this
theorem within_ok {x : A} {ds : List Dc} (hx : IsS x (ds.map encDc)) (hl : ds.length < 64) (hw : Wf K0 ds) : ∃ b, m_law_is_within [x] = some (.dat (.bool b), [x]) ∧ (ds = [] → b = true) := by
  have hparts := hw.parts K0_ok
  have turn : ∀ d ∈ ds, PureTurn (gnm 3) T__law_is_within_1 M__law_is_within_1 [3] [some x, none, none, none, none, none] (encDc d) (if (!d.isKd) = true then some (.int 1) else none) := fun d _ => by
    refine ⟨[some x, none, none, some (.dat (encDc d)), none, none], !d.isKd, by simp [sizeLine_eq, startE, argA, bxIx, back, newC, notBor, bxAt, restE, noBx, lstB, lstAt, isNoD], by simp [sizeLine_eq, startE, argA, bxIx, back, newC, notBor, bxAt, restE, noBx, lstB, lstAt, isNoD], ?_, ?_⟩
    · unfold T__law_is_within_1
      simp [sizeLine_eq, startE, argA, bxIx, back, newC, notBor, bxAt, restE, noBx, lstB, lstAt, isNoD, ix0, w_gd]
    · by_cases h : (!d.isKd) = true
      · rw [if_pos h]
        exact ⟨h, by simp [sizeLine_eq, startE, argA, bxIx, back, newC, notBor, bxAt, restE, noBx, lstB, lstAt, isNoD, M__law_is_within_1]⟩
      · rw [if_neg h]
        simpa using h
  have step : ∀ (n : Int) (t : Tb) (d : Dc) (r : List Dc) (j : Option D), (t.length + (d :: r).length < 64 ∧ ∀ e ∈ d :: r, e.pairs.length < 64 ∧ ∀ p ∈ e.parts, PyData.strOk p = true) →
      ∃ ρ1 j', gnm 3 (encDc d) [some x, some (.box true (.dic (dE PyData.bool t))), some (.dat (.int n)), sD j, none, none] = some ρ1 ∧ L__law_is_within_3 ρ1 = some (.nx, [some x, some (.box true (.dic (dE PyData.bool (stepP t d)))), some (.dat (.int n)), sD j', none, none]) ∧ ((stepP t d).length + r.length < 64 ∧ ∀ e ∈ r, e.pairs.length < 64 ∧ ∀ p ∈ e.parts, PyData.strOk p = true) := by
    intro n t d r j hI
    have h1 := hI.1
    rw [List.length_cons] at h1
    have hs := stepP_len t d
    refine ⟨[some x, some (.box true (.dic (dE PyData.bool t))), some (.dat (.int n)), some (.dat (encDc d)), none, none], some (encDc d), ?_, within_in _ t d n (hI.2 d List.mem_cons_self).1 (by omega) (hI.2 d List.mem_cons_self).2, by omega, fun e he => hI.2 e (List.mem_cons_of_mem _ he)⟩
    cases j <;> simp [sizeLine_eq, startE, argA, bxIx, back, newC, notBor, bxAt, restE, noBx, lstB, lstAt, isNoD, sD]
  have hI0 : (([] : Tb).length + ds.length < 64 ∧ ∀ e ∈ ds, e.pairs.length < 64 ∧ ∀ p ∈ e.parts, PyData.strOk p = true) := ⟨by simpa using hl, fun e he => ⟨hw.pairs e he, hparts e he⟩⟩
  have hlen := dE_len PyData.bool (tabP ds)
  have hvals : boolsD ((dkv (dE PyData.bool (tabP ds))).map (·.2)) = some ((tabP ds).map (·.2)) := by
    rw [dE_vals]
    exact bools_map (fun p : Str × Bool => p.2) (tabP ds)
  generalize hn : ((ds.filterMap fun d => if (!d.isKd) = true then some (PyData.int 1) else none).length : Int) = n
  have e1 : ∀ (c n : Int), (c = 0 → n = 0 → (decide (c < 7) && (decide (((tabP ds).length : Int) - c < 6) && decide (n < 11))) = decide (((tabP ds).length : Int) < 6)) := fun c n h1 h2 => by subst h1; subst h2; simp
  refine ⟨decide ((((tabP ds).map (·.2)).count true : Int) < 7) && (decide (((tabP ds).length : Int) - (((tabP ds).map (·.2)).count true : Int) < 6) && decide (n < 11)), ?_, fun h => ?_⟩
  · unfold m_law_is_within b__law_is_within
    have fin : ∀ (x : A), True := fun _ => trivial
    rcases hx with rfl | rfl | rfl
    · have hq := lc_pure _ _ ds turn (by rw [sizeLine_eq]; omega)
      obtain ⟨j', h1, _⟩ := forI_fold (g := gnm 3) (b := L__law_is_within_3) (enc := encDc) (fun (t : Tb) (j : Option D) => [some (.dat (.list (ds.map encDc))), some (.box true (.dic (dE PyData.bool t))), some (.dat (.int n)), sD j, none, none]) stepP (fun t r => t.length + r.length < 64 ∧ ∀ e ∈ r, e.pairs.length < 64 ∧ ∀ p ∈ e.parts, PyData.strOk p = true) (step n) ds [] none hI0
      rw [show ds.foldl stepP [] = tabP ds from rfl] at h1
      simp [sizeLine_eq, startE, argA, bxIx, back, newC, notBor, bxAt, restE, noBx, lstB, lstAt, isNoD, sD, dE] at h1 hq hvals hlen hn ⊢
      simp [sizeLine_eq, startE, argA, bxIx, back, newC, notBor, bxAt, restE, noBx, lstB, lstAt, isNoD, hq, h1, hn, valuesD, countD, hvals, hlen]
      cases hA : decide ((List.count true (List.map (fun x => x.2) (tabP ds)) : Int) < 7) <;> cases hB : decide (((tabP ds).length : Int) - (List.count true (List.map (fun x => x.2) (tabP ds)) : Int) < 6) <;> simp [sizeLine_eq, startE, argA, bxIx, back, newC, notBor, bxAt, restE, noBx, lstB, lstAt, isNoD, hlen, hB]
    · have hq := lc_pure _ _ ds turn (by rw [sizeLine_eq]; omega)
      obtain ⟨j', h1, _⟩ := forI_fold (g := gnm 3) (b := L__law_is_within_3) (enc := encDc) (fun (t : Tb) (j : Option D) => [some (.dat (.tuple (ds.map encDc))), some (.box true (.dic (dE PyData.bool t))), some (.dat (.int n)), sD j, none, none]) stepP (fun t r => t.length + r.length < 64 ∧ ∀ e ∈ r, e.pairs.length < 64 ∧ ∀ p ∈ e.parts, PyData.strOk p = true) (step n) ds [] none hI0
      rw [show ds.foldl stepP [] = tabP ds from rfl] at h1
      simp [sizeLine_eq, startE, argA, bxIx, back, newC, notBor, bxAt, restE, noBx, lstB, lstAt, isNoD, sD, dE] at h1 hq hvals hlen hn ⊢
      simp [sizeLine_eq, startE, argA, bxIx, back, newC, notBor, bxAt, restE, noBx, lstB, lstAt, isNoD, hq, h1, hn, valuesD, countD, hvals, hlen]
      cases hA : decide ((List.count true (List.map (fun x => x.2) (tabP ds)) : Int) < 7) <;> cases hB : decide (((tabP ds).length : Int) - (List.count true (List.map (fun x => x.2) (tabP ds)) : Int) < 6) <;> simp [sizeLine_eq, startE, argA, bxIx, back, newC, notBor, bxAt, restE, noBx, lstB, lstAt, isNoD, hlen, hB]
    · have hq := lcS_pure (i := 0) _ _ ds (by decide) rfl turn (by rw [sizeLine_eq]; omega)
      obtain ⟨j', h1, _⟩ := forS_fold (i := 0) (g := gnm 3) (b := L__law_is_within_3) (enc := encDc) (xs := ds) (fun (t : Tb) (j : Option D) => [some (.box false (.lst (ds.map encDc))), some (.box true (.dic (dE PyData.bool t))), some (.dat (.int n)), sD j, none, none]) stepP (fun t r => t.length + r.length < 64 ∧ ∀ e ∈ r, e.pairs.length < 64 ∧ ∀ p ∈ e.parts, PyData.strOk p = true) (fun _ _ => rfl) (step n) [] none hI0
      rw [show ds.foldl stepP [] = tabP ds from rfl] at h1
      simp [sizeLine_eq, startE, argA, bxIx, back, newC, notBor, bxAt, restE, noBx, lstB, lstAt, isNoD, sD, dE] at h1 hq hvals hlen hn ⊢
      simp [sizeLine_eq, startE, argA, bxIx, back, newC, notBor, bxAt, restE, noBx, lstB, lstAt, isNoD, hq, h1, hn, valuesD, countD, hvals, hlen]
      cases hA : decide ((List.count true (List.map (fun x => x.2) (tabP ds)) : Int) < 7) <;> cases hB : decide (((tabP ds).length : Int) - (List.count true (List.map (fun x => x.2) (tabP ds)) : Int) < 6) <;> simp [sizeLine_eq, startE, argA, bxIx, back, newC, notBor, bxAt, restE, noBx, lstB, lstAt, isNoD, hlen, hB]
  · subst h
    simp at hn
    subst hn
    decide
end K21

namespace K21
open PySem PySem.Spec PyProof.Rows L3
theorem strs_of {ys : List D} (h : ∀ d ∈ ys, ∃ s, d = .str s) : ∃ zs : List Str, ys = zs.map PyData.str := by
  induction ys with
  | nil => exact ⟨[], rfl⟩
  | cons d r ih =>
    obtain ⟨s, rfl⟩ := h d List.mem_cons_self
    obtain ⟨zs, rfl⟩ := ih fun e he => h e (List.mem_cons_of_mem _ he)
    exact ⟨s :: zs, rfl⟩
theorem cut_mapF {α β : Type} (f : α → β) (cs : List α) (lo hi : Option Int) : cutL (cs.map f) lo hi = (cutL cs lo hi).map f := by
  unfold cutL
  rw [List.map_take, List.map_drop, List.length_map]
theorem add_strs (l m : List Str) (h : l.length + m.length < 10000) : addD (.list (l.map PyData.str)) (.list (m.map PyData.str)) = some (.new (.lst ((l ++ m).map PyData.str))) := by
  unfold addD
  simp only []
  rw [if_pos (by rw [sizeLine_eq, List.length_map, List.length_map]; omega), List.map_append]
/-- draw of small numbers -/
theorem some_nums {bag : List D} (hb : BagOk bag) {l : List D} {B : Int} (hl : l ≠ []) (hz : l.length < 1000) (h : ∀ d ∈ l, ∃ m : Int, d = .int m ∧ 0 ≤ m ∧ m ≤ B) :
    ∃ m bag', m_law_some [.box false (.lst bag), .dat (.list l)] = some (.dat (.int m), [.box false (.lst bag'), .dat (.list l)]) ∧ BagOk bag' ∧ 0 ≤ m ∧ m ≤ B ∧ PyData.int m ∈ l := by
  obtain ⟨d, bag', h1, h2, h3⟩ := some_ok hb (x := .dat (.list l)) (.inl rfl) hl (by omega)
  obtain ⟨m, rfl, h4, h5⟩ := h d h2
  exact ⟨m, bag', h1, h3, h4, h5, h2⟩
section
variable (x : A) (w : D) (had ks : List Str) (s0 : Str) (m : Int)
/-- the environment of shaped behind its first three lines -/
abbrev shE (bag : List D) (j7 j8 j9 j10 j11 j12 : Option A) : En := [some (.box false (.lst bag)), some x, some (.dat w), some (.box true (.lst (had.map PyData.str))), some (.box true (.lst (ks.map PyData.str))), some (.dat (.str s0)), some (.dat (.int m)), j7, j8, j9, j10, j11, j12, none, none]
theorem given_lc {bag : List D} (hb : BagOk bag) (hk : ks ≠ []) (hz : ks.length < 1000) {n : Int} (h0 : 0 ≤ n) (h1 : n ≤ 3) :
    ∃ (ps : List Str) (bag' : List D), lcT (gnm 8) myes M__law_shaped_1 [8] (.items (rngD 0 n)) (shE x w had ks s0 m bag none none none none none none) = some (.new (.lst (ps.map PyData.str)), shE x w had ks s0 m bag' none none none none none none) ∧ BagOk bag' ∧ ∀ k ∈ ps, k ∈ ks := by
  have hl : (rngD 0 n).length ≤ 3 := by
    unfold rngD
    rw [List.length_map, List.length_range]
    omega
  obtain ⟨acc, ρ', h2, bag', ps, j, h3, rfl, h4, rfl, h5⟩ := lcI_run (g := gnm 8) (t := myes) (m := M__law_shaped_1) (vs := [8]) (P := fun r acc ρ => ∃ (bag : List D) (ps : List Str) (j : Option D), BagOk bag ∧ acc = ps.map PyData.str ∧ (∀ k ∈ ps, k ∈ ks) ∧ ρ = shE x w had ks s0 m bag none (sD j) none none none none ∧ ps.length + r.length ≤ 3) (fun d r acc ρ hP => by
    obtain ⟨bag, ps, j, hb, rfl, h2, rfl, h3⟩ := hP
    obtain ⟨e, bag', h4, h5, h6⟩ := some_ok hb (x := .box false (.lst (ks.map PyData.str))) (ds := ks.map PyData.str) (.inr rfl) (by simpa using hk) (by rw [List.length_map]; omega)
    obtain ⟨k, hkm, rfl⟩ := List.mem_map.mp h5
    rw [List.length_cons] at h3
    refine ⟨(ps ++ [k]).map PyData.str, shE x w had ks s0 m bag' none (some (.dat d)) none none none none, ?_, bag', ps ++ [k], some d, h6, rfl, fun y hy => (List.mem_append.mp hy).elim (h2 y) fun z => by rw [List.mem_singleton.mp z]; exact hkm, rfl, by rw [List.length_append, List.length_singleton]; omega⟩
    rw [List.map_append]
    refine turn_yes (ρ1 := shE x w had ks s0 m bag none (some (.dat d)) none none none none) (ρ2 := shE x w had ks s0 m bag none (some (.dat d)) none none none none) (ρ3 := shE x w had ks s0 m bag' none (some (.dat d)) none none none none) (y := .dat (.str k)) ?_ rfl ?_ ?_ ?_
    · cases j <;> simp [sizeLine_eq, startE, argA, bxIx, back, newC, notBor, bxAt, restE, noBx, lstB, lstAt, isNoD, sD]
    · simp [sizeLine_eq, startE, argA, bxIx, back, newC, notBor, bxAt, restE, noBx, lstB, lstAt, isNoD, M__law_shaped_1, h4]
    · simp [sizeLine_eq, startE, argA, bxIx, back, newC, notBor, bxAt, restE, noBx, lstB, lstAt, isNoD]
    · rw [sizeLine_eq, List.length_map]; omega) (rngD 0 n) [] (shE x w had ks s0 m bag none none none none none none) ⟨bag, [], none, hb, rfl, (by simp), rfl, by simpa using hl⟩
  refine ⟨ps, bag', ?_, h3, h4⟩
  show lcE _ [8] (mlcI (gnm 8) myes M__law_shaped_1 [8] (rngD 0 n) [] _) = _
  have hw : wipeE (shE x w had ks s0 m bag none none none none none none) [8] = shE x w had ks s0 m bag none none none none none none := rfl
  rw [hw, h2]
  cases j <;> simp [sizeLine_eq, startE, argA, bxIx, back, newC, notBor, bxAt, restE, noBx, lstB, lstAt, isNoD, sD]
theorem record_lc {bag : List D} (hb : BagOk bag) (hk : ks ≠ []) (hz : ks.length < 1000) {fs : List Str} (hf : fs.length < 64) :
    ∃ (ps : List (Str × Option Str)) (bag' : List D), lcT (gnm 12) myes M__law_shaped_3 [12] (.slot 10 (fs.map PyData.str)) (shE x w had ks s0 m bag none none none (some (.box true (.lst (fs.map PyData.str)))) none none) = some (.new (.lst (ps.map (encP encO))), shE x w had ks s0 m bag' none none none (some (.box true (.lst (fs.map PyData.str)))) none none) ∧ BagOk bag' ∧ ps.length < 64 ∧ ∀ p ∈ ps, ∃ k ∈ ks, p.2 = some k := by
  obtain ⟨acc, ρ', h2, bag', ps, j, h3, rfl, h4, rfl, h5⟩ := lcS_run (i := 10) (xs := fs.map PyData.str) (g := gnm 12) (t := myes) (m := M__law_shaped_3) (vs := [12]) (P := fun r acc ρ => ∃ (bag : List D) (ps : List (Str × Option Str)) (j : Option D), BagOk bag ∧ acc = ps.map (encP encO) ∧ (∀ p ∈ ps, ∃ k ∈ ks, p.2 = some k) ∧ ρ = shE x w had ks s0 m bag none none none (some (.box true (.lst (fs.map PyData.str)))) none (sD j) ∧ ps.length + r.length < 64 ∧ ∀ d ∈ r, ∃ s, d = .str s) (by
      rintro r acc ρ ⟨bag, ps, j, _, _, _, rfl, _⟩
      rfl) (fun d r acc ρ hP => by
    obtain ⟨bag, ps, j, hb, rfl, h2, rfl, h3, h7⟩ := hP
    obtain ⟨s, rfl⟩ := h7 d List.mem_cons_self
    obtain ⟨e, bag', h4, h5, h6⟩ := some_ok hb (x := .box false (.lst (ks.map PyData.str))) (ds := ks.map PyData.str) (.inr rfl) (by simpa using hk) (by rw [List.length_map]; omega)
    obtain ⟨k, hkm, rfl⟩ := List.mem_map.mp h5
    rw [List.length_cons] at h3
    refine ⟨(ps ++ [(s, some k)]).map (encP encO), shE x w had ks s0 m bag' none none none (some (.box true (.lst (fs.map PyData.str)))) none (some (.dat (.str s))), ?_, bag', ps ++ [(s, some k)], some (.str s), h6, rfl, fun y hy => (List.mem_append.mp hy).elim (h2 y) fun z => by rw [List.mem_singleton.mp z]; exact ⟨k, hkm, rfl⟩, rfl, by rw [List.length_append, List.length_singleton]; omega, fun e he => h7 e (List.mem_cons_of_mem _ he)⟩
    rw [List.map_append]
    refine turn_yes (ρ1 := shE x w had ks s0 m bag none none none (some (.box true (.lst (fs.map PyData.str)))) none (some (.dat (.str s)))) (ρ2 := shE x w had ks s0 m bag none none none (some (.box true (.lst (fs.map PyData.str)))) none (some (.dat (.str s)))) (ρ3 := shE x w had ks s0 m bag' none none none (some (.box true (.lst (fs.map PyData.str)))) none (some (.dat (.str s)))) (y := .dat (encP encO (s, some k))) ?_ rfl ?_ ?_ ?_
    · cases j <;> simp [sizeLine_eq, startE, argA, bxIx, back, newC, notBor, bxAt, restE, noBx, lstB, lstAt, isNoD, sD]
    · simp [sizeLine_eq, startE, argA, bxIx, back, newC, notBor, bxAt, restE, noBx, lstB, lstAt, isNoD, M__law_shaped_3, h4, encP, encO]
    · simp [sizeLine_eq, startE, argA, bxIx, back, newC, notBor, bxAt, restE, noBx, lstB, lstAt, isNoD]
    · rw [sizeLine_eq, List.length_map]; omega) (fs.map PyData.str) 0 [] (shE x w had ks s0 m bag none none none (some (.box true (.lst (fs.map PyData.str)))) none none) rfl ⟨bag, [], none, hb, rfl, (by simp), rfl, by simpa using hf, fun d hd => by
      obtain ⟨s, _, rfl⟩ := List.mem_map.mp hd
      exact ⟨s, rfl⟩⟩
  refine ⟨ps, bag', ?_, h3, by simpa using h5.1, h4⟩
  show lcE _ [12] ((guardO (decide (10 ∉ [12]))).bind fun _ => mlcS 10 (gnm 12) myes M__law_shaped_3 [12] (fs.map PyData.str) 0 [] _) = _
  have hw : wipeE (shE x w had ks s0 m bag none none none (some (.box true (.lst (fs.map PyData.str)))) none none) [12] = shE x w had ks s0 m bag none none none (some (.box true (.lst (fs.map PyData.str)))) none none := rfl
  rw [hw, h2]
  cases j <;> simp [sizeLine_eq, startE, argA, bxIx, back, newC, notBor, bxAt, restE, noBx, lstB, lstAt, isNoD, sD]
theorem arms_loop {bag : List D} (hb : BagOk bag) (hz : ks.length < 1000) (hh : had.length < 900) {n : Int} (h1 : n ≤ 3) :
    ∃ (as : List (Str × Option Str)) (bag' : List D) (j8 j11 : Option A), mforI (gnm 8) L__law_shaped_5 (rngD 0 n) (shE x w had ks s0 m bag (some (.box true (.lst []))) none none none none none) = some (.nx, shE x w had ks s0 m bag' (some (.box true (.lst (as.map (encP encO))))) j8 none none j11 none) ∧ BagOk bag' ∧ as.length < 64 ∧ ∀ p ∈ as, ∀ k, p.2 = some k → k ∈ ks := by
  have hl : (rngD 0 n).length ≤ 3 := by
    unfold rngD
    rw [List.length_map, List.length_range]
    omega
  obtain ⟨ρ', h2, bag', as, j8, j11, h3, h4, rfl, h5⟩ := forI_run (g := gnm 8) (b := L__law_shaped_5) (P := fun r ρ => ∃ (bag : List D) (as : List (Str × Option Str)) (j8 j11 : Option D), BagOk bag ∧ (∀ p ∈ as, ∀ k, p.2 = some k → k ∈ ks) ∧ ρ = shE x w had ks s0 m bag (some (.box true (.lst (as.map (encP encO))))) (sD j8) none none (sD j11) none ∧ as.length + r.length ≤ 3) (fun d r ρ hP => by
    obtain ⟨bag, as, j8, j11, hb, h2, rfl, h3⟩ := hP
    rw [List.length_cons] at h3
    have hq := lcS_pure (i := 7) (g := gtup [13, 14]) (t := myes) (m := M__law_shaped_4) (vs := [13, 14]) (ρ := shE x w had ks s0 m bag (some (.box true (.lst (as.map (encP encO))))) (some (.dat d)) none none (sD j11) none) (encP encO) (fun p => some (.str p.1)) as (by decide) rfl (fun p _ => by
      obtain ⟨a, o⟩ := p
      refine ⟨[some (.box false (.lst bag)), some x, some (.dat w), some (.box true (.lst (had.map PyData.str))), some (.box true (.lst (ks.map PyData.str))), some (.dat (.str s0)), some (.dat (.int m)), some (.box true (.lst (as.map (encP encO)))), some (.dat d), none, none, sD j11, none, some (.dat (.str a)), some (.dat (encO o))], true, ?_, ?_, rfl, rfl, ?_⟩
      · simp [sizeLine_eq, startE, argA, bxIx, back, newC, notBor, bxAt, restE, noBx, lstB, lstAt, isNoD, encP]
      · simp [sizeLine_eq, startE, argA, bxIx, back, newC, notBor, bxAt, restE, noBx, lstB, lstAt, isNoD]
      · simp [sizeLine_eq, startE, argA, bxIx, back, newC, notBor, bxAt, restE, noBx, lstB, lstAt, isNoD, M__law_shaped_4]) (by rw [sizeLine_eq]; omega)
    rw [List.filterMap_eq_map', show as.map (fun p => PyData.str p.1) = (as.map (·.1)).map PyData.str by rw [List.map_map]; rfl] at hq
    have a1 := add_strs had [s0] (by simp; omega)
    have a2 := add_strs (had ++ [s0]) (as.map (·.1)) (by simp; omega)
    obtain ⟨arm, bag1, n1, n2, n3, n4⟩ := new_name_ok hb (x := .dat (.list ((had ++ [s0] ++ as.map (·.1)).map PyData.str))) (had := had ++ [s0] ++ as.map (·.1)) (.inl rfl) (by simp; omega)
    obtain ⟨e, bag2, h4, h5, h6⟩ := some_ok n2 (x := .dat (.list (ks.map PyData.str ++ [.none, .none]))) (ds := ks.map PyData.str ++ [.none, .none]) (.inl rfl) (by simp) (by simp; omega)
    obtain ⟨o, rfl, ho⟩ : ∃ o, e = encO o ∧ ∀ k, o = some k → k ∈ ks := by
      rcases List.mem_append.mp h5 with h | h
      · obtain ⟨k, hk, rfl⟩ := List.mem_map.mp h
        exact ⟨some k, rfl, fun k' e => by cases e; exact hk⟩
      · refine ⟨none, ?_, fun k e => by cases e⟩
        rcases List.mem_cons.mp h with rfl | h
        · rfl
        · rw [List.mem_singleton.mp h]; rfl
    have a3 : addD (.list (ks.map PyData.str)) (.list [.none, .none]) = some (.new (.lst (ks.map PyData.str ++ [.none, .none]))) := by
      unfold addD
      simp only []
      rw [if_pos (by rw [sizeLine_eq, List.length_map]; simp; omega)]
    have hz2 : as.length < 16777216 := by omega
    simp only [List.map_cons, List.map_nil] at a1
    refine ⟨shE x w had ks s0 m bag (some (.box true (.lst (as.map (encP encO))))) (some (.dat d)) none none (sD j11) none, .nx, shE x w had ks s0 m bag2 (some (.box true (.lst ((as ++ [(arm, o)]).map (encP encO))))) (some (.dat d)) none none (some (.dat (.str arm))) none, ?_, ?_, .inl rfl, bag2, as ++ [(arm, o)], some d, some (.str arm), h6, fun p hp k hk => (List.mem_append.mp hp).elim (fun z => h2 p z k hk) fun z => by rw [List.mem_singleton.mp z] at hk; exact ho k hk, rfl, by rw [List.length_append, List.length_singleton]; omega⟩
    · cases j8 <;> cases j11 <;> simp [sizeLine_eq, startE, argA, bxIx, back, newC, notBor, bxAt, restE, noBx, lstB, lstAt, isNoD, sD]
    · unfold L__law_shaped_5
      simp at a1 a2 n1
      cases j11 <;> simp [sizeLine_eq, startE, argA, bxIx, back, newC, notBor, bxAt, restE, noBx, lstB, lstAt, isNoD, sD] at hq ⊢ <;> simp [sizeLine_eq, startE, argA, bxIx, back, newC, notBor, bxAt, restE, noBx, lstB, lstAt, isNoD, hq, a1, a2, n1, a3, h4, appendD, hz2, encP]) (rngD 0 n) (shE x w had ks s0 m bag (some (.box true (.lst []))) none none none none none) ⟨bag, [], none, none, hb, (by simp), rfl, by simpa using hl⟩
  exact ⟨as, bag', sD j8, sD j11, h2, h3, by have : as.length + 0 ≤ 3 := h5; omega, h4⟩
end
end K21

namespace K21
open PySem PySem.Spec PyProof.Rows L3
theorem kd_len (ds : List Dc) : (kdT ds).length ≤ ds.length := by
  unfold kdT
  rw [List.length_map]
  exact List.length_filter_le _ _
theorem decl_len (ds : List Dc) (h : ∀ d ∈ ds, d.pairs.length < 64) : (declT ds).length ≤ 65 * ds.length := by
  unfold declT
  rw [List.length_append, List.length_map]
  have : (ds.flatMap Dc.arms).length ≤ 64 * ds.length := by
    induction ds with
    | nil => simp
    | cons d r ih =>
      have h1 := arms_len d
      have h2 := h d List.mem_cons_self
      have h3 := ih fun e he => h e (List.mem_cons_of_mem _ he)
      rw [List.flatMap_cons, List.length_append, List.length_cons]
      omega
  omega
/-- three words: what a further declaration may be -/
theorem shaped_ok {bag : List D} (hb : BagOk bag) {ds : List Dc} (hl : ds.length < 13) (hw : Wf K0 ds) (w : Str) :
    ∃ (d : Dc) (bag' : List D), m_law_shaped [.box false (.lst bag), .box false (.lst (ds.map encDc)), .dat (.str w)] = some (.dat (encDc d), [.box false (.lst bag'), .box false (.lst (ds.map encDc)), .dat (.str w)]) ∧ BagOk bag' ∧ NameOk d.name ∧ d.pairs.length < 64 ∧ ∀ p ∈ d.parts, p ∈ kindsT ds := by
  have hp := hw.pairs
  have h1 := law_declared_ok (x := .box false (.lst (ds.map encDc))) (.inr (.inr rfl)) (by omega) hp
  have h2 := law_kinds_ok (x := .box false (.lst (ds.map encDc))) (.inr (.inr rfl)) (by omega)
  have hdl := decl_len ds hp
  have hkl := kd_len ds
  have hkz : (kindsT ds).length < 1000 := by
    unfold kindsT
    simp only [List.length_append, List.length_cons, List.length_nil]
    omega
  have hkn : kindsT ds ≠ [] := by unfold kindsT; simp
  obtain ⟨s0, bag1, n1, n2, n3, n4⟩ := new_name_ok hb (x := .box false (.lst ((declT ds).map PyData.str))) (had := declT ds) (.inr rfl) (by omega)
  obtain ⟨m, bag2, m1, m2, m3, m4, m5⟩ := some_nums n2 (l := [.int 2, .int 1, .int 3, .int 2]) (B := 3) (by simp) (by simp) (by
    intro d hd
    simp only [List.mem_cons, List.not_mem_nil, or_false] at hd
    rcases hd with rfl | rfl | rfl | rfl
    · exact ⟨2, rfl, by decide, by decide⟩
    · exact ⟨1, rfl, by decide, by decide⟩
    · exact ⟨3, rfl, by decide, by decide⟩
    · exact ⟨2, rfl, by decide, by decide⟩)
  by_cases hg : w = Str.ofString "given"
  · subst hg
    obtain ⟨n, bag3, q1, q2, q3, q4, _⟩ := some_nums m2 (l := [.int 1, .int 2, .int 0, .int 3]) (B := 3) (by simp) (by simp) (by
      intro d hd
      simp only [List.mem_cons, List.not_mem_nil, or_false] at hd
      rcases hd with rfl | rfl | rfl | rfl
      · exact ⟨1, rfl, by decide, by decide⟩
      · exact ⟨2, rfl, by decide, by decide⟩
      · exact ⟨0, rfl, by decide, by decide⟩
      · exact ⟨3, rfl, by decide, by decide⟩)
    obtain ⟨ps, bag4, r1, r2, r3⟩ := given_lc (.box false (.lst (ds.map encDc))) (.str (Str.ofString "given")) (declT ds) (kindsT ds) s0 m q2 hkn hkz q3 q4
    have c2 : cutL ((kindsT ds).map PyData.str) (some 2) none = (kdT ds).map PyData.str := cut2 (.str (Str.ofString "num")) (.str (Str.ofString "truth")) ((kdT ds).map PyData.str) (by rw [List.length_map]; omega)
    have a1 := add_strs (kdT ds) (kindsT ds) (by omega)
    obtain ⟨e, bag5, t1, t2, t3⟩ := some_ok r2 (x := .dat (.list ((kdT ds ++ kindsT ds).map PyData.str))) (ds := (kdT ds ++ kindsT ds).map PyData.str) (.inl rfl) (by simp [hkn]) (by rw [List.length_map, List.length_append]; omega)
    obtain ⟨g, hgm, rfl⟩ := List.mem_map.mp t2
    have hn2 : -4611686018427387904 ≤ n := by omega
    have hn3 : n < 4611686018427387904 := by omega
    refine ⟨.given s0 ps g, bag5, ?_, t3, n4, by show 0 < 64; decide, fun p hp => by cases hp⟩
    unfold m_law_shaped b__law_shaped
    simp at a1 t1
    simp [sizeLine_eq, startE, argA, bxIx, back, newC, notBor, bxAt, restE, noBx, lstB, lstAt, isNoD, h1, h2, n1, m1, q1, hn2, hn3, r1, c2, a1, t1]
    rfl
  · by_cases hr : w = Str.ofString "record"
    · subst hr
      have hrg : (Str.ofString "record" == Str.ofString "given") = false := by decide +kernel
      have hq := lc_pure (g := gnm 13) (t := T__law_shaped_2) (m := M__law_shaped_2) (vs := [13]) (ρ := shE (.box false (.lst (ds.map encDc))) (.str (Str.ofString "record")) (declT ds) (kindsT ds) s0 m bag2 none none none none none none) PyData.str (fun s => if (!(s == s0)) = true then some (.str s) else none) [Str.ofString "a", Str.ofString "b", Str.ofString "in", Str.ofString "left"] (fun s _ => by
        refine ⟨[some (.box false (.lst bag2)), some (.box false (.lst (ds.map encDc))), some (.dat (.str (Str.ofString "record"))), some (.box true (.lst ((declT ds).map PyData.str))), some (.box true (.lst ((kindsT ds).map PyData.str))), some (.dat (.str s0)), some (.dat (.int m)), none, none, none, none, none, none, some (.dat (.str s)), none], !(s == s0), by simp [sizeLine_eq, startE, argA, bxIx, back, newC, notBor, bxAt, restE, noBx, lstB, lstAt, isNoD], by simp [sizeLine_eq, startE, argA, bxIx, back, newC, notBor, bxAt, restE, noBx, lstB, lstAt, isNoD], ?_, ?_⟩
        · simp [sizeLine_eq, startE, argA, bxIx, back, newC, notBor, bxAt, restE, noBx, lstB, lstAt, isNoD, T__law_shaped_2]
        · cases hc : s == s0
          · simp [sizeLine_eq, startE, argA, bxIx, back, newC, notBor, bxAt, restE, noBx, lstB, lstAt, isNoD, M__law_shaped_2]
          · simp) (by rw [sizeLine_eq]; decide)
      rw [filt_map (fun s => !(s == s0))] at hq
      generalize hfl : ([Str.ofString "a", Str.ofString "b", Str.ofString "in", Str.ofString "left"].filter fun s => !(s == s0)) = fl at hq
      have hfll : fl.length ≤ 4 := by
        rw [← hfl]
        exact List.length_filter_le _ _
      have a1 := add_strs fl [s0] (by simp; omega)
      obtain ⟨ys, bag3, x1, x2, x3⟩ := mixed_ok m2 (x := .dat (.list ((fl ++ [s0]).map PyData.str))) (ds := (fl ++ [s0]).map PyData.str) (.inl rfl) (by simp; omega)
      obtain ⟨zs, rfl⟩ := strs_of (ys := ys) fun d hd => by
        obtain ⟨s, _, rfl⟩ := List.mem_map.mp (x2.mem_iff.mp hd)
        exact ⟨s, rfl⟩
      have hzs : (cutL zs none (some m)).length < 64 := by
        have e1 := cut_len zs none (some m)
        have e2 := x2.length_eq
        simp at e2
        omega
      have c1 := cut_mapF PyData.str zs none (some m)
      obtain ⟨ps, bag4, r1, r2, r3, r4⟩ := record_lc (.box false (.lst (ds.map encDc))) (.str (Str.ofString "record")) (declT ds) (kindsT ds) s0 m x3 hkn hkz hzs
      refine ⟨.record s0 ps, bag4, ?_, r2, n4, r3, fun p hp => ?_⟩
      · unfold m_law_shaped b__law_shaped
        simp at a1 x1 hq
        simp [sizeLine_eq, startE, argA, bxIx, back, newC, notBor, bxAt, restE, noBx, lstB, lstAt, isNoD, h1, h2, n1, m1, hrg, hq, a1, x1, c1, r1]
        rfl
      · obtain ⟨q, hq1, hq2⟩ := List.mem_filterMap.mp hp
        obtain ⟨k, hk1, hk2⟩ := r4 q hq1
        have : q.2 = some p := hq2
        rw [hk2] at this
        cases this
        exact hk1
    · have hwg : (w == Str.ofString "given") = false := by simpa using hg
      have hwr : (w == Str.ofString "record") = false := by simpa using hr
      obtain ⟨as, bag3, j8, j11, r1, r2, r3, r4⟩ := arms_loop (.box false (.lst (ds.map encDc))) (.str w) (declT ds) (kindsT ds) s0 m m2 hkz (by omega) m4
      have hn2 : -4611686018427387904 ≤ m := by omega
      have hn3 : m < 4611686018427387904 := by omega
      refine ⟨.choice s0 as, bag3, ?_, r2, n4, r3, fun p hp => ?_⟩
      · unfold m_law_shaped b__law_shaped
        simp [sizeLine_eq, startE, argA, bxIx, back, newC, notBor, bxAt, restE, noBx, lstB, lstAt, isNoD, h1, h2, n1, m1, hwg, hwr, hn2, hn3, r1]
        rfl
      · obtain ⟨q, hq1, hq2⟩ := List.mem_filterMap.mp hp
        exact r4 q hq1 p hq2
end K21

namespace K21
open PySem PySem.Spec PyProof.Rows L3
theorem mul_rep (w : Str) {n : Int} (h0 : 0 ≤ n) (h1 : n ≤ 100) : mulD (.list [.str w]) (.int n) = some (.new (.lst ((List.replicate n.toNat w).map PyData.str))) := by
  unfold mulD
  simp only []
  rw [if_pos ⟨by omega, by omega, by rw [sizeLine_eq]; simp only [List.length_cons, List.length_nil]; omega⟩]
  refine congrArg (fun l => some (R.new (Bx.lst l))) ?_
  rw [List.map_replicate]
  generalize n.toNat = k
  induction k with
  | zero => rfl
  | succ k ih => rw [List.replicate_succ, List.flatten_cons, ih, List.replicate_succ]; rfl
def restW : List Str := [Str.ofString "record", Str.ofString "choice", Str.ofString "given", Str.ofString "choice", Str.ofString "given", Str.ofString "record", Str.ofString "given"]
section
variable (mo : Int)
abbrev liE (bag : List D) (ds : List Dc) (ws : List Str) (j4 j5 j6 : Option A) : En := [some (.box false (.lst bag)), some (.dat (.int mo)), some (.box true (.lst (ds.map encDc))), some (.box true (.lst (ws.map PyData.str))), j4, j5, j6]
theorem li_ext (bag : List D) (ds : List Dc) (ws : List Str) (w : Str) {n : Int} (h0 : 0 ≤ n) (h1 : n ≤ 100) (hw : ws.length < 1000) (j6 : Option A) :
    L__law_library_1 (liE mo bag ds ws (some (.dat (.str w))) (some (.dat (.int n))) j6) = some (.nx, liE mo bag ds (ws ++ List.replicate n.toNat w) (some (.dat (.str w))) (some (.dat (.int n))) j6) := by
  have h2 := mul_rep w h0 h1
  have h3 : extendD (.lst (ws.map PyData.str)) [.list ((List.replicate n.toNat w).map PyData.str)] = some (.none, .lst ((ws ++ List.replicate n.toNat w).map PyData.str)) := by
    unfold extendD
    simp only []
    rw [if_pos (by rw [sizeLine_eq, List.length_map, List.length_map, List.length_replicate]; omega), List.map_append]
  unfold L__law_library_1
  simp at h2 h3
  simp [sizeLine_eq, startE, argA, bxIx, back, newC, notBor, bxAt, restE, noBx, lstB, lstAt, isNoD, h2, h3]
theorem li_more {ds : List Dc} (j4 j5 : Option A) (hm : mo ≤ 10) : ∀ (k : Nat) (bag : List D) (ws : List Str), BagOk bag → mo ≤ (ws.length : Int) + k → ws.length + k < 100 →
    ∃ (n : Nat) (bag' : List D) (ws' : List Str), mwhN C__law_library_2 L__law_library_2 n (liE mo bag ds ws j4 j5 (some (.box true (.lst (restW.map PyData.str))))) = some (.nx, liE mo bag' ds ws' j4 j5 (some (.box true (.lst (restW.map PyData.str))))) ∧ BagOk bag' ∧ ws'.length < 100
  | k, bag, ws, hb, h1, h2 => by
    by_cases hc : (ws.length : Int) < mo
    · obtain ⟨v, bag1, t1, t2, t3, t4⟩ := take_ok hb 9 (by decide) (by decide)
      by_cases hv : 0 < v
      · have hC : C__law_library_2 (liE mo bag ds ws j4 j5 (some (.box true (.lst (restW.map PyData.str))))) = some (true, liE mo bag1 ds ws j4 j5 (some (.box true (.lst (restW.map PyData.str))))) := by
          unfold C__law_library_2
          simp [sizeLine_eq, startE, argA, bxIx, back, newC, notBor, bxAt, restE, noBx, lstB, lstAt, isNoD, hc, t1, hv]
        obtain ⟨v2, bag2, u1, u2, u3, u4⟩ := take_ok t2 40 (by decide) (by decide)
        have hz : ws.length < 16777216 := by omega
        obtain ⟨bag3, w', hL, hb3⟩ : ∃ (bag3 : List D) (w' : Str), L__law_library_2 (liE mo bag1 ds ws j4 j5 (some (.box true (.lst (restW.map PyData.str))))) = some (.nx, liE mo bag3 ds (ws ++ [w']) j4 j5 (some (.box true (.lst (restW.map PyData.str))))) ∧ BagOk bag3 := by
          by_cases hv2 : 0 < v2
          · obtain ⟨v3, bag3, y1, y2, y3, y4⟩ := take_ok u2 7 (by decide) (by decide)
            obtain ⟨e, e1, e2⟩ := atI_get (restW.map PyData.str) v3 y3 (by rw [List.length_map]; exact y4)
            obtain ⟨w', hw', rfl⟩ := List.mem_map.mp e2
            refine ⟨bag3, w', ?_, y2⟩
            have hrl : restW.length = 7 := rfl
            unfold L__law_library_2
            simp [sizeLine_eq, startE, argA, bxIx, back, newC, notBor, bxAt, restE, noBx, lstB, lstAt, isNoD, u1, hv2, hrl, y1, e1, appendD, hz]
          · refine ⟨bag2, Str.ofString "given", ?_, u2⟩
            unfold L__law_library_2
            simp [sizeLine_eq, startE, argA, bxIx, back, newC, notBor, bxAt, restE, noBx, lstB, lstAt, isNoD, u1, hv2, appendD, hz]
        cases k with
        | zero => exact absurd hc (by omega)
        | succ k =>
          obtain ⟨n, bag', ws', z1, z2, z3⟩ := li_more j4 j5 hm k bag3 (ws ++ [w']) hb3 (by rw [List.length_append, List.length_singleton]; omega) (by rw [List.length_append, List.length_singleton]; omega)
          refine ⟨n + 1, bag', ws', ?_, z2, z3⟩
          unfold mwhN
          rw [hC, Option.bind_some, if_pos rfl, hL]
          exact z1
      · refine ⟨1, bag1, ws, ?_, t2, by omega⟩
        have hC : C__law_library_2 (liE mo bag ds ws j4 j5 (some (.box true (.lst (restW.map PyData.str))))) = some (false, liE mo bag1 ds ws j4 j5 (some (.box true (.lst (restW.map PyData.str))))) := by
          unfold C__law_library_2
          simp [sizeLine_eq, startE, argA, bxIx, back, newC, notBor, bxAt, restE, noBx, lstB, lstAt, isNoD, hc, t1, hv]
        unfold mwhN
        rw [hC]
        rfl
    · refine ⟨1, bag, ws, ?_, hb, by omega⟩
      have hC : C__law_library_2 (liE mo bag ds ws j4 j5 (some (.box true (.lst (restW.map PyData.str))))) = some (false, liE mo bag ds ws j4 j5 (some (.box true (.lst (restW.map PyData.str))))) := by
        unfold C__law_library_2
        simp [sizeLine_eq, startE, argA, bxIx, back, newC, notBor, bxAt, restE, noBx, lstB, lstAt, isNoD, hc]
      unfold mwhN
      rw [hC]
      rfl
theorem in_op (w : Str) : inD (.str w) (.tuple [.str (Str.ofString "once"), .str (Str.ofString "plain")]) = some (.dat (.bool (decide (w ∈ [Str.ofString "once", Str.ofString "plain"])))) := in_strsT w [Str.ofString "once", Str.ofString "plain"]
theorem li_decl {bag : List D} (hb : BagOk bag) {ds : List Dc} (hl : ds.length < 12) (hw : Wf K0 ds) (ws : List Str) (w : Str) (j5 j6 : Option A) :
    ∃ (d : Dc) (bag' : List D), L__law_library_3 (liE mo bag ds ws (some (.dat (.str w))) j5 j6) = some (.nx, liE mo bag' (ds ++ [d]) ws (some (.dat (.str w))) j5 j6) ∧ BagOk bag' ∧ Wf K0 (ds ++ [d]) := by
  have hz : ds.length < 16777216 := by omega
  have hkk : kAfter K0 ds = kindsT ds := by rw [kAfter_eq]; rfl
  by_cases h : w ∈ [Str.ofString "once", Str.ofString "plain"]
  · have h1 := law_declared_ok (x := .box false (.lst (ds.map encDc))) (.inr (.inr rfl)) (by omega) hw.pairs
    have hdl := decl_len ds hw.pairs
    obtain ⟨s0, bag1, n1, n2, n3, n4⟩ := new_name_ok hb (x := .dat (.list ((declT ds).map PyData.str))) (had := declT ds) (.inl rfl) (by omega)
    have hin := in_op w
    rw [decide_eq_true h] at hin
    obtain ⟨d, hd, hdn, hdp⟩ : ∃ d : Dc, encDc d = .tuple [.str w, .str s0] ∧ d.name = s0 ∧ d.pairs = [] := by
      rcases List.mem_cons.mp h with rfl | h
      · exact ⟨.once s0, rfl, rfl, rfl⟩
      · rw [List.mem_singleton.mp h]
        exact ⟨.plain s0, rfl, rfl, rfl⟩
    refine ⟨d, bag1, ?_, n2, hw.snoc (by rw [hdn]; exact n4) (by rw [hdp]; decide) (fun p hp => by unfold Dc.parts at hp; rw [hdp] at hp; cases hp)⟩
    unfold L__law_library_3
    simp [sizeLine_eq, startE, argA, bxIx, back, newC, notBor, bxAt, restE, noBx, lstB, lstAt, isNoD, hin, h1, n1, appendD, hz, hd]
  · obtain ⟨d, bag1, s1, s2, s3, s4, s5⟩ := shaped_ok hb (by omega) hw w
    have hin := in_op w
    rw [decide_eq_false h] at hin
    refine ⟨d, bag1, ?_, s2, hw.snoc s3 s4 (by rw [hkk]; exact s5)⟩
    unfold L__law_library_3
    simp [sizeLine_eq, startE, argA, bxIx, back, newC, notBor, bxAt, restE, noBx, lstB, lstAt, isNoD, hin, s1, appendD, hz]
theorem cut_last (ds : List D) : cutL ds none (some (-1)) = ds.take (ds.length - 1) := by
  unfold cutL
  rw [HT.sIx_none, List.drop_zero, Nat.sub_zero]
  congr 1
  show (if (-1 : Int) < 0 then ((-1 : Int) + (ds.length : Int)).toNat else min (-1 : Int).toNat ds.length) = ds.length - 1
  rw [if_pos (by decide)]
  omega
theorem li_within (bag : List D) (ws : List Str) (j4 j5 j6 : Option A) : ∀ (k : Nat) (ds : List Dc), ds.length = k → ds.length < 64 → Wf K0 ds →
    ∃ (n : Nat) (ds' : List Dc), mwhN C__law_library_4 L__law_library_4 n (liE mo bag ds ws j4 j5 j6) = some (.nx, liE mo bag ds' ws j4 j5 j6) ∧ ds'.length ≤ ds.length ∧ Wf K0 ds'
  | k, ds, hk, hl, hw => by
    obtain ⟨b, h1, h2⟩ := within_ok (x := .box false (.lst (ds.map encDc))) (.inr (.inr rfl)) hl hw
    have hC : C__law_library_4 (liE mo bag ds ws j4 j5 j6) = some (!b, liE mo bag ds ws j4 j5 j6) := by
      unfold C__law_library_4
      simp [sizeLine_eq, startE, argA, bxIx, back, newC, notBor, bxAt, restE, noBx, lstB, lstAt, isNoD, h1]
    cases b with
    | true =>
      refine ⟨1, ds, ?_, Nat.le_refl _, hw⟩
      unfold mwhN
      rw [hC]
      rfl
    | false =>
      have hC : C__law_library_4 (liE mo bag ds ws j4 j5 j6) = some (true, liE mo bag ds ws j4 j5 j6) := hC
      cases k with
      | zero =>
        have : ds = [] := List.eq_nil_of_length_eq_zero hk
        exact absurd (h2 this) (by decide)
      | succ k =>
        have hL : L__law_library_4 (liE mo bag ds ws j4 j5 j6) = some (.nx, liE mo bag (ds.take (ds.length - 1)) ws j4 j5 j6) := by
          have := cut_last (ds.map encDc)
          rw [List.length_map, ← List.map_take] at this
          unfold L__law_library_4
          simp [sizeLine_eq, startE, argA, bxIx, back, newC, notBor, bxAt, restE, noBx, lstB, lstAt, isNoD, this]
        obtain ⟨n, ds', z1, z2, z3⟩ := li_within bag ws j4 j5 j6 k (ds.take (ds.length - 1)) (by rw [List.length_take]; omega) (by rw [List.length_take]; omega) (hw.take _)
        refine ⟨n + 1, ds', ?_, by rw [List.length_take] at z2; omega, z3⟩
        unfold mwhN
        rw [hC, Option.bind_some, if_pos rfl, hL]
        exact z1
end
theorem library_ok {bag : List D} (hb : BagOk bag) {mo : Int} (hm0 : 0 ≤ mo) (hm : mo ≤ 10) :
    ∃ (ds : List Dc) (bag' : List D), m_law_library [.box false (.lst bag), .dat (.int mo)] = some (.dat (.tuple (ds.map encDc)), [.box false (.lst bag'), .dat (.int mo)]) ∧ BagOk bag' ∧ ds.length ≤ 10 ∧ Wf K0 ds := by
  obtain ⟨n1, bag1, p1, p2, p3, p4, _⟩ := some_nums hb (l := [.int 1, .int 2, .int 0, .int 4]) (B := 4) (by simp) (by simp) (by
    intro d hd
    simp only [List.mem_cons, List.not_mem_nil, or_false] at hd
    rcases hd with rfl | rfl | rfl | rfl
    · exact ⟨1, rfl, by decide, by decide⟩
    · exact ⟨2, rfl, by decide, by decide⟩
    · exact ⟨0, rfl, by decide, by decide⟩
    · exact ⟨4, rfl, by decide, by decide⟩)
  obtain ⟨n2, bag2, q1, q2, q3, q4, _⟩ := some_nums p2 (l := [.int 1, .int 0, .int 2, .int 3]) (B := 4) (by simp) (by simp) (by
    intro d hd
    simp only [List.mem_cons, List.not_mem_nil, or_false] at hd
    rcases hd with rfl | rfl | rfl | rfl
    · exact ⟨1, rfl, by decide, by decide⟩
    · exact ⟨0, rfl, by decide, by decide⟩
    · exact ⟨2, rfl, by decide, by decide⟩
    · exact ⟨3, rfl, by decide, by decide⟩)
  have e1 := li_ext mo bag2 [] [] (Str.ofString "once") p3 (by omega) (by simp) none
  have e2 := li_ext mo bag2 [] ([] ++ List.replicate n1.toNat (Str.ofString "once")) (Str.ofString "plain") q3 (by omega) (by simp; omega) none
  generalize hw1 : ([] ++ List.replicate n1.toNat (Str.ofString "once")) ++ List.replicate n2.toNat (Str.ofString "plain") = ws1 at e2
  have hw1l : ws1.length ≤ 8 := by rw [← hw1]; simp; omega
  have hfor : mforI (gtup [4, 5]) L__law_library_1 [.tuple [.str (Str.ofString "once"), .int n1], .tuple [.str (Str.ofString "plain"), .int n2]] (liE mo bag2 [] [] none none none) = some (.nx, liE mo bag2 [] ws1 (some (.dat (.str (Str.ofString "plain")))) (some (.dat (.int n2))) none) := by
    have g1 : gtup [4, 5] (.tuple [.str (Str.ofString "once"), .int n1]) (liE mo bag2 [] [] none none none) = some (liE mo bag2 [] [] (some (.dat (.str (Str.ofString "once")))) (some (.dat (.int n1))) none) := by simp [sizeLine_eq, startE, argA, bxIx, back, newC, notBor, bxAt, restE, noBx, lstB, lstAt, isNoD]
    have g2 : ∀ ws : List Str, gtup [4, 5] (.tuple [.str (Str.ofString "plain"), .int n2]) (liE mo bag2 [] ws (some (.dat (.str (Str.ofString "once")))) (some (.dat (.int n1))) none) = some (liE mo bag2 [] ws (some (.dat (.str (Str.ofString "plain")))) (some (.dat (.int n2))) none) := fun ws => by simp [sizeLine_eq, startE, argA, bxIx, back, newC, notBor, bxAt, restE, noBx, lstB, lstAt, isNoD]
    unfold mforI
    rw [g1, Option.bind_some, e1, Option.bind_some]
    show mforI _ _ _ _ = _
    unfold mforI
    rw [g2, Option.bind_some, e2, Option.bind_some]
    rfl
  obtain ⟨ys, bag3, x1, x2, x3⟩ := mixed_ok q2 (x := .box false (.lst (ws1.map PyData.str))) (ds := ws1.map PyData.str) (.inr rfl) (by rw [List.length_map]; omega)
  obtain ⟨zs, rfl⟩ := strs_of (ys := ys) fun d hd => by
    obtain ⟨s, _, rfl⟩ := List.mem_map.mp (x2.mem_iff.mp hd)
    exact ⟨s, rfl⟩
  have hzl : zs.length ≤ 8 := by
    have := x2.length_eq
    rw [List.length_map, List.length_map] at this
    omega
  obtain ⟨nw, bag4, ws, y1, y2, y3⟩ := li_more mo (ds := []) (some (.dat (.str (Str.ofString "plain")))) (some (.dat (.int n2))) hm 10 bag3 zs x3 (by omega) (by omega)
  have y1' := mwh_of y1
  have hcl : (cutL ws none (some mo)).length ≤ 10 := by
    unfold cutL
    obtain ⟨k, rfl⟩ := Int.eq_ofNat_of_zero_le hm0
    rw [HT.sIx_none, List.drop_zero, Nat.sub_zero, List.length_take, HT.sIx_nat]
    omega
  have c1 := cut_mapF PyData.str ws none (some mo)
  obtain ⟨ρ', z1, bag5, ds, j4, z2, z3, rfl, z4⟩ := forI_run (g := gnm 4) (b := L__law_library_3) (P := fun r ρ => ∃ (bag : List D) (ds : List Dc) (j4 : Option D), BagOk bag ∧ Wf K0 ds ∧ ρ = liE mo bag ds ws (sD j4) (some (.dat (.int n2))) (some (.box true (.lst (restW.map PyData.str)))) ∧ ds.length + r.length ≤ 10 ∧ ∀ d ∈ r, ∃ s, d = .str s) (fun d r ρ hP => by
    obtain ⟨bag, ds, j4, hb, hw, rfl, h1, h2⟩ := hP
    obtain ⟨w, rfl⟩ := h2 d List.mem_cons_self
    rw [List.length_cons] at h1
    obtain ⟨d', bag', h3, h4, h5⟩ := li_decl mo hb (by omega) hw ws w (some (.dat (.int n2))) (some (.box true (.lst (restW.map PyData.str))))
    refine ⟨_, .nx, _, ?_, h3, .inl rfl, bag', ds ++ [d'], some (.str w), h4, h5, rfl, by rw [List.length_append, List.length_singleton]; omega, fun e he => h2 e (List.mem_cons_of_mem _ he)⟩
    cases j4 <;> simp [sizeLine_eq, startE, argA, bxIx, back, newC, notBor, bxAt, restE, noBx, lstB, lstAt, isNoD, sD]) ((cutL ws none (some mo)).map PyData.str) (liE mo bag4 [] ws (some (.dat (.str (Str.ofString "plain")))) (some (.dat (.int n2))) (some (.box true (.lst (restW.map PyData.str))))) ⟨bag4, [], some (.str (Str.ofString "plain")), y2, trivial, rfl, by simpa using hcl, fun d hd => by
      obtain ⟨s, _, rfl⟩ := List.mem_map.mp hd
      exact ⟨s, rfl⟩⟩
  have hdl : ds.length ≤ 10 := by have := z4.1; simpa using this
  obtain ⟨nn, ds', v1, v2, v3⟩ := li_within mo bag5 ws (sD j4) (some (.dat (.int n2))) (some (.box true (.lst (restW.map PyData.str)))) ds.length ds rfl (by omega) z3
  have v1' := mwh_of v1
  refine ⟨ds', bag5, ?_, z2, by omega, v3⟩
  have hrest : ([.str (Str.ofString "record"), .str (Str.ofString "choice"), .str (Str.ofString "given"), .str (Str.ofString "choice"), .str (Str.ofString "given"), .str (Str.ofString "record"), .str (Str.ofString "given")] : List D) = restW.map PyData.str := rfl
  have hrl : restW.length = 7 := rfl
  unfold m_law_library b__law_library
  simp only [liE, List.map_nil] at hfor y1' z1 v1'
  simp [sizeLine_eq, startE, argA, bxIx, back, newC, notBor, bxAt, restE, noBx, lstB, lstAt, isNoD, p1, q1, hfor, x1, hrest, hrl, y1', c1, z1, v1']
end K21

namespace K21
open PySem PySem.Spec PyProof.Rows L3
abbrev cnt (c : St) (k : Str) : Int := (getT c k).getD 0
/-! stocks of counts: what is in them -/
theorem posT_some {c : St} {k : Str} {q : Str × Int} (h : posT c k = some q) : q.1 = k ∧ getT c k = some q.2 ∧ 0 < q.2 := by
  unfold posT at h
  split at h
  · rename_i n e
    split at h
    · cases h; exact ⟨rfl, e, by assumption⟩
    · cases h
  · cases h
theorem mem_stockOf {c : St} {k : Str} {n : Int} : (k, n) ∈ stockOf c ↔ getT c k = some n ∧ 0 < n := by
  unfold stockOf
  rw [List.mem_filterMap]
  constructor
  · rintro ⟨k', h1, h2⟩
    obtain ⟨h3, h4, h5⟩ := posT_some h2
    have h3' : k = k' := h3
    subst h3'
    exact ⟨h4, h5⟩
  · rintro ⟨h1, h2⟩
    refine ⟨k, (sortS_perm _).mem_iff.mpr ?_, ?_⟩
    · exact List.mem_map.mpr ⟨_, getT_mem h1, rfl⟩
    · unfold posT
      rw [h1]
      simp [h2]
theorem keyT_stockOf (c : St) : keyT (stockOf c) = (sortS (keyT c)).filter fun k => (posT c k).isSome := by
  unfold stockOf keyT
  generalize sortS (c.map (·.1)) = l
  induction l with
  | nil => rfl
  | cons k r ih =>
    rw [List.filterMap_cons, List.filter_cons]
    cases h : posT c k with
    | none => simpa using ih
    | some q =>
      have := (posT_some h).1
      simp [ih, this]
theorem nodup_stockOf {c : St} (h : (keyT c).Nodup) : (keyT (stockOf c)).Nodup := by
  rw [keyT_stockOf]
  exact ((sortS_perm _).nodup_iff.mpr h).filter _
theorem len_stockOf (c : St) : (stockOf c).length ≤ c.length := by
  have h := congrArg List.length (keyT_stockOf c)
  unfold keyT at h
  rw [List.length_map] at h
  rw [h]
  refine Nat.le_trans (List.length_filter_le _ _) ?_
  rw [(sortS_perm _).length_eq, List.length_map]
  exact Nat.le_refl _
theorem get_stockOf {c : St} (hn : (keyT c).Nodup) (k : Str) : getT (stockOf c) k = match getT c k with | some n => if 0 < n then some n else none | none => none := by
  cases e : getT (stockOf c) k with
  | none =>
    cases e2 : getT c k with
    | none => rfl
    | some n =>
      by_cases h : 0 < n
      · have := getT_of_mem (nodup_stockOf hn) (mem_stockOf.mpr ⟨e2, h⟩)
        rw [e] at this
        cases this
      · simp [h]
  | some n =>
    obtain ⟨h1, h2⟩ := mem_stockOf.mp (getT_mem e)
    rw [h1]
    simp [h2]
theorem stock_ext {c c' : St} (h1 : (keyT c).Nodup) (h2 : (keyT c').Nodup) (h : ∀ k n, 0 < n → (getT c k = some n ↔ getT c' k = some n)) : stockOf c = stockOf c' := by
  have hk : keyT (stockOf c) = keyT (stockOf c') := by
    refine sort_unique ?_ ?_ (nodup_stockOf h1) (nodup_stockOf h2) fun k => ?_
    · rw [keyT_stockOf]; exact (sortS_pw _).filter _
    · rw [keyT_stockOf]; exact (sortS_pw _).filter _
    · constructor
      · intro hm
        obtain ⟨⟨k', n⟩, h3, rfl⟩ := List.mem_map.mp hm
        obtain ⟨h4, h5⟩ := mem_stockOf.mp h3
        exact List.mem_map.mpr ⟨(k', n), mem_stockOf.mpr ⟨(h k' n h5).mp h4, h5⟩, rfl⟩
      · intro hm
        obtain ⟨⟨k', n⟩, h3, rfl⟩ := List.mem_map.mp hm
        obtain ⟨h4, h5⟩ := mem_stockOf.mp h3
        exact List.mem_map.mpr ⟨(k', n), mem_stockOf.mpr ⟨(h k' n h5).mpr h4, h5⟩, rfl⟩
  have hm : ∀ p, p ∈ stockOf c ↔ p ∈ stockOf c' := fun ⟨k, n⟩ => by
    rw [mem_stockOf, mem_stockOf]
    exact ⟨fun ⟨a, b⟩ => ⟨(h k n b).mp a, b⟩, fun ⟨a, b⟩ => ⟨(h k n b).mpr a, b⟩⟩
  have key : ∀ (l m : St), keyT l = keyT m → (keyT l).Nodup → (∀ p, p ∈ l ↔ p ∈ m) → l = m := by
    intro l
    induction l with
    | nil => intro m e _ _; cases m with | nil => rfl | cons p r => cases e
    | cons p r ih =>
      intro m e nd hm
      cases m with
      | nil => cases e
      | cons q s =>
        have e1 : p.1 = q.1 := by injection e
        have e2 : keyT r = keyT s := by injection e
        have nd' : p.1 ∉ keyT r ∧ (keyT r).Nodup := List.nodup_cons.mp nd
        have hpq : p = q := by
          rcases List.mem_cons.mp ((hm p).mp List.mem_cons_self) with h | h
          · exact h
          · exact absurd (e2 ▸ List.mem_map.mpr ⟨p, h, rfl⟩) nd'.1
        subst hpq
        refine congrArg (p :: ·) (ih s e2 nd'.2 fun x => ?_)
        constructor
        · intro hx
          rcases List.mem_cons.mp ((hm x).mp (List.mem_cons_of_mem _ hx)) with h | h
          · subst h; exact absurd (List.mem_map.mpr ⟨_, hx, rfl⟩) nd'.1
          · exact h
        · intro hx
          rcases List.mem_cons.mp ((hm x).mpr (List.mem_cons_of_mem _ hx)) with h | h
          · subst h; exact absurd (e2 ▸ List.mem_map.mpr ⟨_, hx, rfl⟩) nd'.1
          · exact h
  exact key _ _ hk (nodup_stockOf h1) hm
/-! folds of puts -/
def genP (f : Str → Int → Int → Int) (c : St) (p : Str × Int) : St := putT c p.1 (f p.1 (cnt c p.1) p.2)
theorem gen_get (f : Str → Int → Int → Int) (k : Str) : ∀ (st c : St), (keyT st).Nodup → getT (st.foldl (genP f) c) k = match getT st k with | some n => some (f k (cnt c k) n) | none => getT c k
  | [], c, _ => rfl
  | p :: r, c, h => by
    have h' : p.1 ∉ keyT r ∧ (keyT r).Nodup := List.nodup_cons.mp h
    rw [List.foldl_cons, gen_get f k r _ h'.2, getT_cons]
    unfold genP cnt
    rw [getT_put]
    by_cases hk : p.1 = k
    · subst hk
      rw [getT_none.mpr h'.1]
      simp
    · have hk' : ¬ k = p.1 := fun z => hk z.symm
      simp [hk, hk']
theorem gen_nodup (f : Str → Int → Int → Int) : ∀ (st c : St), (keyT c).Nodup → (keyT (st.foldl (genP f) c)).Nodup
  | [], c, h => h
  | p :: r, c, h => gen_nodup f r _ (nodup_put h _ _)
theorem gen_keys (f : Str → Int → Int → Int) (k : Str) : ∀ (st c : St), k ∈ keyT (st.foldl (genP f) c) → k ∈ keyT c ∨ k ∈ keyT st
  | [], c, h => .inl h
  | p :: r, c, h => by
    rcases gen_keys f k r _ h with h | h
    · unfold genP at h
      rw [keyT_put] at h
      split at h
      · exact .inl h
      · rcases List.mem_append.mp h with h | h
        · exact .inl h
        · rw [List.mem_singleton.mp h]; exact .inr List.mem_cons_self
    · exact .inr (List.mem_cons_of_mem _ h)
theorem addP_gen (o : Str → Bool) : addP o = genP fun k g n => if o k = true then g + n else 1 := rfl
theorem joinP_gen : joinP = genP fun k g n => if n > g then n else g := rfl
theorem woP_gen (o : Str → Bool) : woP o = genP fun k g n => if o k = true then mx0 (g - n) else 0 := rfl
theorem tkP_gen (o : Str → Bool) : tkP o = genP fun k g n => if o k = true then g - n else g := rfl
end K21

namespace K21
open PySem PySem.Spec PyProof.Rows L3
/-- a drawn stock, or one made of such: counts from 1 to B, of plain kinds 1 -/
structure StOk (os K : List Str) (B : Int) (L : Nat) (st : St) : Prop where
  nd : (keyT st).Nodup
  kd : ∀ k ∈ keyT st, k ∈ K
  pos : ∀ p ∈ st, 1 ≤ p.2 ∧ p.2 ≤ B ∧ (p.1 ∉ os → p.2 = 1)
  len : st.length ≤ L
theorem StOk.get {os K : List Str} {B : Int} {L : Nat} {st : St} (h : StOk os K B L st) {k : Str} {n : Int} (e : getT st k = some n) : 1 ≤ n ∧ n ≤ B ∧ (k ∉ os → n = 1) := h.pos (k, n) (getT_mem e)
theorem keys_len {os K : List Str} {B : Int} {L : Nat} {st : St} (h : StOk os K B L st) : (keyT st).length = st.length := by unfold keyT; rw [List.length_map]
theorem stock_stock {c : St} (hn : (keyT c).Nodup) : stockOf (stockOf c) = stockOf c := stock_ext (nodup_stockOf hn) hn fun k n h => by
  rw [get_stockOf hn]
  cases getT c k with
  | none => exact ⟨(fun e => nomatch e), (fun e => nomatch e)⟩
  | some m =>
    simp only []
    split
    · exact Iff.rfl
    · exact ⟨(fun e => nomatch e), fun e => by have := Option.some.inj e; omega⟩
theorem drawn_ok {dt : D} {os K : List Str} (O : OnceOk dt os K) {ds : List Dc} (hdt : dt = .tuple (ds.map encDc)) (hK : K = kdT ds) (hl : ds.length ≤ 10) {bag : List D} (hb : BagOk bag) :
    ∃ (st : St) (bag' : List D), m_law_drawn_stock [.box false (.lst bag), .dat dt] = some (.dat (encSt st), [.box false (.lst bag'), .dat dt]) ∧ BagOk bag' ∧ StOk os K 3 10 st ∧ stockOf st = st := by
  have h1 := law_declared_kinds_ok (x := .dat dt) (ds := ds) (by rw [hdt]; exact .inr (.inl rfl)) (by omega)
  have hkl := kd_len ds
  obtain ⟨ρ', h2, bag', c, j3, j4, h3, rfl, h5, h6, h7, h8, h9⟩ := forI_run (g := gnm 3) (b := L__law_drawn_stock_1) (P := fun r ρ => ∃ (bag : List D) (c : St) (j3 j4 : Option D), BagOk bag ∧ ρ = [some (.box false (.lst bag)), some (.dat dt), some (.box true (.dic (dI c))), sD j3, sD j4] ∧ (keyT c).Nodup ∧ (∀ k ∈ keyT c, k ∈ K) ∧ (∀ p ∈ c, 0 ≤ p.2 ∧ p.2 ≤ 3 ∧ (p.1 ∉ os → p.2 ≤ 1)) ∧ c.length + r.length ≤ 10 ∧ ∀ d ∈ r, ∃ s ∈ K, d = .str s) (fun d r ρ hP => by
    obtain ⟨bag, c, j3, j4, hb, rfl, h5, h6, h7, h8, h9⟩ := hP
    obtain ⟨k, hk, rfl⟩ := h9 d List.mem_cons_self
    rw [List.length_cons] at h8
    obtain ⟨m, bag1, m1, m2, m3, m4, _⟩ := some_nums hb (l := [.int 0, .int 0, .int 1, .int 1, .int 2, .int 3]) (B := 3) (by simp) (by simp) (by
      intro d hd
      simp only [List.mem_cons, List.not_mem_nil, or_false] at hd
      rcases hd with rfl | rfl | rfl | rfl | rfl | rfl
      · exact ⟨0, rfl, by decide, by decide⟩
      · exact ⟨0, rfl, by decide, by decide⟩
      · exact ⟨1, rfl, by decide, by decide⟩
      · exact ⟨1, rfl, by decide, by decide⟩
      · exact ⟨2, rfl, by decide, by decide⟩
      · exact ⟨3, rfl, by decide, by decide⟩)
    have ho := O.hl k hk
    have hs := dI_len (c := c) (by omega)
    refine ⟨[some (.box false (.lst bag)), some (.dat dt), some (.box true (.dic (dI c))), some (.dat (.str k)), sD j4], .nx, [some (.box false (.lst bag1)), some (.dat dt), some (.box true (.dic (dI (putT c k (if k ∈ os then m else if 1 < m then 1 else m))))), some (.dat (.str k)), some (.dat (.int m))], ?_, ?_, .inl rfl, bag1, _, some (.str k), some (.int m), m2, rfl, nodup_put h5 _ _, fun j hj => ?_, fun p hp => ?_, ?_, fun e he => h9 e (List.mem_cons_of_mem _ he)⟩
    · cases j3 <;> simp [sizeLine_eq, startE, argA, bxIx, back, newC, notBor, bxAt, restE, noBx, lstB, lstAt, isNoD, sD]
    · unfold L__law_drawn_stock_1
      by_cases h : k ∈ os
      · cases j4 <;> simp [sizeLine_eq, startE, argA, bxIx, back, newC, notBor, bxAt, restE, noBx, lstB, lstAt, isNoD, sD, m1, ho, h, hs, dE_put]
      · cases j4 <;> simp [sizeLine_eq, startE, argA, bxIx, back, newC, notBor, bxAt, restE, noBx, lstB, lstAt, isNoD, sD, m1, ho, h, hs, dE_put]
    · rw [keyT_put] at hj
      split at hj
      · exact h6 j hj
      · rcases List.mem_append.mp hj with h | h
        · exact h6 j h
        · rw [List.mem_singleton.mp h]; exact hk
    · have hnew : ∀ q : Str × Int, q = (k, if k ∈ os then m else if 1 < m then 1 else m) → 0 ≤ q.2 ∧ q.2 ≤ 3 ∧ (q.1 ∉ os → q.2 ≤ 1) := by
        rintro q rfl
        by_cases h : k ∈ os
        · simp only [h, if_true]
          exact ⟨m3, m4, fun z => absurd trivial z⟩
        · simp only [h, if_false]
          refine ⟨by split <;> omega, by split <;> omega, fun _ => by split <;> omega⟩
      unfold putT at hp
      split at hp
      · obtain ⟨q, hq, rfl⟩ := List.mem_map.mp hp
        split
        · rename_i e
          refine hnew _ ?_
          rw [e]
        · exact h7 q hq
      · rcases List.mem_append.mp hp with h | h
        · exact h7 p h
        · exact hnew p (List.mem_singleton.mp h)
    · have := put_len c k (if k ∈ os then m else if 1 < m then 1 else m)
      omega) ((sortS (kdT ds)).map PyData.str) [some (.box false (.lst bag)), some (.dat dt), some (.box true (.dic (dI []))), none, none] ⟨bag, [], none, none, hb, rfl, .nil, (by intro k hk; cases hk), (by intro p hp; cases hp), (by
      rw [List.length_map, (sortS_perm _).length_eq]
      simp only [List.length_nil]
      omega), fun d hd => by
      obtain ⟨s, hs, rfl⟩ := List.mem_map.mp hd
      exact ⟨s, by rw [hK]; exact mem_sort hs, rfl⟩⟩
  have hcl : c.length ≤ 10 := by simpa using h8
  have h10 := law_stock_ok c (by omega)
  refine ⟨stockOf c, bag', ?_, h3, ?_⟩
  · unfold m_law_drawn_stock b__law_drawn_stock
    simp [sizeLine_eq, startE, argA, bxIx, back, newC, notBor, bxAt, restE, noBx, lstB, lstAt, isNoD, sD, dE] at h2 h10 ⊢
    simp [sizeLine_eq, startE, argA, bxIx, back, newC, notBor, bxAt, restE, noBx, lstB, lstAt, isNoD, h1, h2, h10]
  · refine ⟨⟨nodup_stockOf h5, fun k hk => ?_, fun p hp => ?_, Nat.le_trans (len_stockOf c) (by omega)⟩, stock_stock h5⟩
    · rw [keyT_stockOf] at hk
      exact h6 k (mem_sort (List.mem_filter.mp hk).1)
    · obtain ⟨k, n⟩ := p
      obtain ⟨a1, a2⟩ := mem_stockOf.mp hp
      obtain ⟨b1, b2, b3⟩ := h7 (k, n) (getT_mem a1)
      have b1' : 0 ≤ n := b1
      have b2' : n ≤ 3 := b2
      refine ⟨by show 1 ≤ n; omega, b2', fun h => ?_⟩
      have b3' : n ≤ 1 := b3 h
      show n = 1
      omega
/-! the two ways give the same -/
theorem cnt_none {c : St} {k : Str} (h : getT c k = none) : cnt c k = 0 := by unfold cnt; rw [h]; rfl
theorem cnt_some {c : St} {k : Str} {n : Int} (h : getT c k = some n) : cnt c k = n := by unfold cnt; rw [h]; rfl
theorem mx0_pos {i : Int} : 0 < mx0 i ↔ 0 < i := by unfold mx0; split <;> omega
end K21

namespace K21
open PySem PySem.Spec PyProof.Rows L3
/-! the sum of two -/
theorem both_get (o : Str → Bool) {os K : List Str} {B B' : Int} {L L' : Nat} {one other : St} (h1 : StOk os K B L one) (h2 : StOk os K B' L' other) (k : Str) :
    getT (addT o [one, other]) k = match getT other k with | some n => some (if o k = true then (match getT one k with | some m => (if o k = true then 0 + m else 1) | none => 0) + n else 1) | none => (match getT one k with | some m => some (if o k = true then 0 + m else 1) | none => none) := by
  show getT (other.foldl (addP o) (one.foldl (addP o) [])) k = _
  rw [addP_gen, gen_get _ k _ _ h2.nd]
  unfold cnt
  rw [gen_get _ k _ _ h1.nd]
  cases getT other k <;> cases getT one k <;> rfl
theorem both_ok {os K : List Str} {one other : St} (h1 : StOk os K 3 10 one) (h2 : StOk os K 3 10 other) :
    StOk os K 6 20 (stockOf (addT (onc os) [one, other])) ∧ geT (stockOf (addT (onc os) [one, other])) one = true ∧ ∀ k ∈ keyT other, k ∈ keyT (stockOf (addT (onc os) [one, other])) := by
  have hn : (keyT (addT (onc os) [one, other])).Nodup := by
    show (keyT (other.foldl (addP (onc os)) (one.foldl (addP (onc os)) []))).Nodup
    rw [addP_gen]
    exact gen_nodup _ _ _ (gen_nodup _ _ _ .nil)
  have hg := both_get (onc os) h1 h2
  have hlen : (addT (onc os) [one, other]).length ≤ 20 := by
    have a := put_fold_len (addP_len (onc os)) one []
    have b := put_fold_len (addP_len (onc os)) other (one.foldl (addP (onc os)) [])
    have c := h1.len
    have d := h2.len
    show (other.foldl (addP (onc os)) (one.foldl (addP (onc os)) [])).length ≤ 20
    simp only [List.length_nil] at a
    omega
  have hval : ∀ k n, getT (addT (onc os) [one, other]) k = some n → 1 ≤ n ∧ n ≤ 6 ∧ (k ∉ os → n = 1) := by
    intro k n e
    rw [hg k] at e
    cases e2 : getT other k with
    | none =>
      rw [e2] at e
      cases e1 : getT one k with
      | none => rw [e1] at e; cases e
      | some m =>
        rw [e1] at e
        obtain ⟨a, b, c⟩ := h1.get e1
        by_cases ho : k ∈ os
        · have e := Option.some.inj e
          rw [if_pos (decide_eq_true ho)] at e
          exact ⟨by omega, by omega, fun z => absurd ho z⟩
        · have e := Option.some.inj e
          rw [if_neg (by simp [ho])] at e
          exact ⟨by omega, by omega, fun _ => by omega⟩
    | some q =>
      rw [e2] at e
      obtain ⟨a, b, c⟩ := h2.get e2
      by_cases ho : k ∈ os
      · have e := Option.some.inj e
        rw [if_pos (decide_eq_true ho)] at e
        cases e1 : getT one k with
        | none =>
          rw [e1] at e
          simp only [] at e
          exact ⟨by omega, by omega, fun z => absurd ho z⟩
        | some m =>
          rw [e1] at e
          simp only [] at e
          rw [if_pos (decide_eq_true ho)] at e
          obtain ⟨a', b', c'⟩ := h1.get e1
          exact ⟨by omega, by omega, fun z => absurd ho z⟩
      · have e := Option.some.inj e
        rw [if_neg (by simp [ho])] at e
        exact ⟨by omega, by omega, fun _ => by omega⟩
  have hst : ∀ k, getT (stockOf (addT (onc os) [one, other])) k = getT (addT (onc os) [one, other]) k := fun k => by
    rw [get_stockOf hn]
    cases e : getT (addT (onc os) [one, other]) k with
    | none => rfl
    | some n =>
      have := (hval k n e).1
      simp only []
      rw [if_pos (by omega)]
  refine ⟨⟨nodup_stockOf hn, fun k hk => ?_, fun p hp => ?_, Nat.le_trans (len_stockOf _) hlen⟩, ?_, fun k hk => ?_⟩
  · rw [keyT_stockOf] at hk
    have hk2 := mem_sort (List.mem_filter.mp hk).1
    rw [show addT (onc os) [one, other] = other.foldl (addP (onc os)) (one.foldl (addP (onc os)) []) from rfl, addP_gen] at hk2
    rcases gen_keys _ k _ _ hk2 with h | h
    · rcases gen_keys _ k _ _ h with h | h
      · cases h
      · exact h1.kd k h
    · exact h2.kd k h
  · obtain ⟨k, n⟩ := p
    exact hval k n (mem_stockOf.mp hp).1
  · unfold geT
    rw [List.all_eq_true]
    intro p hp
    rw [decide_eq_true_eq, hst, hg p.1]
    have e1 := getT_of_mem h1.nd (show (p.1, p.2) ∈ one from hp)
    obtain ⟨a, b, c⟩ := h1.pos p hp
    rw [e1]
    cases e2 : getT other p.1 with
    | none =>
      show p.2 ≤ (if onc os p.1 = true then 0 + p.2 else 1)
      split
      · omega
      · rename_i ho
        have := c (by simpa using ho)
        omega
    | some q =>
      obtain ⟨a', b', c'⟩ := h2.get e2
      show p.2 ≤ (if onc os p.1 = true then (if onc os p.1 = true then 0 + p.2 else 1) + q else 1)
      by_cases ho : onc os p.1 = true
      · rw [if_pos ho, if_pos ho]; omega
      · rw [if_neg ho]
        have := c (by simpa using ho)
        omega
  · obtain ⟨⟨k', n⟩, h3, rfl⟩ := List.mem_map.mp hk
    have e2 := getT_of_mem h2.nd h3
    have e3 := hg k'
    rw [e2] at e3
    have e4 : getT (stockOf (addT (onc os) [one, other])) k' ≠ none := by
      rw [hst, e3]
      exact Option.some_ne_none _
    exact Classical.byContradiction fun z => e4 (getT_none.mpr z)
/-! what is shown -/
structure Sh (st : St) : Prop where
  each : ∀ p ∈ st, PyData.strOk p.1 = true ∧ p.1.length ≤ 1002 ∧ 0 ≤ p.2 ∧ p.2 ≤ 1000
  len : st.length ≤ 63
theorem Sh.okP {st : St} (h : Sh st) : ∀ p ∈ st, okD (encP PyData.int p) = true ∧ wtD (encP PyData.int p) ≤ 11100 := by
  intro p hp
  obtain ⟨h1, h2, h3, h4⟩ := h.each p hp
  constructor
  · simp only [encP, okD, okL, h1, Bool.true_and, Bool.and_true, decide_eq_true_eq]
    omega
  · simp only [encP, wtD, wtL]
    omega
theorem Sh.ok {st : St} (h : Sh st) : okD (encSt st) = true := by
  unfold encSt
  simp only [okD]
  exact okL_map fun p hp => (h.okP p hp).1
theorem Sh.wt {st : St} (h : Sh st) : wtD (encSt st) ≤ 700000 := by
  have h1 := wtL_map (f := encP PyData.int) (n := 11100) fun p hp => (h.okP p hp).2
  have h2 := h.len
  have h3 : st.length * (11100 + 2) ≤ 63 * (11100 + 2) := Nat.mul_le_mul_right _ h2
  show 3 + wtL (st.map (encP PyData.int)) ≤ 700000
  omega
theorem dep_encSt (st : St) : (encSt st).depth ≤ 2 := by
  unfold encSt
  have : PyData.depthAll (st.map (encP PyData.int)) ≤ 1 := depthL_le fun d hd => by
    obtain ⟨p, _, rfl⟩ := List.mem_map.mp hd
    simp only [encP, PyData.depth, PyData.depthAll]
    decide
  show PyData.depthAll (st.map (encP PyData.int)) + 1 ≤ 2
  omega
theorem Sh.show {st : St} (h : Sh st) : ShowOk (encSt st) := ⟨h.ok, Nat.le_trans (dep_encSt st) (by decide), Nat.le_trans h.wt (by decide)⟩
theorem show_list {sts : List St} (h : ∀ st ∈ sts, Sh st) (hl : sts.length ≤ 20) : ShowOk (.list (sts.map encSt)) := by
  refine ⟨?_, ?_, ?_⟩
  · simp only [okD]
    exact okL_map fun st hst => (h st hst).ok
  · have : PyData.depthAll (sts.map encSt) ≤ 2 := depthL_le fun d hd => by
      obtain ⟨st, _, rfl⟩ := List.mem_map.mp hd
      exact dep_encSt st
    show PyData.depthAll (sts.map encSt) + 1 ≤ 64
    omega
  · have h1 := wtL_map (f := encSt) (n := 700000) fun st hst => (h st hst).wt
    have h3 : sts.length * (700000 + 2) ≤ 20 * (700000 + 2) := Nat.mul_le_mul_right _ hl
    show 2 + wtL (sts.map encSt) ≤ 16777216
    omega
theorem alike_ok {d : D} {y : A} (h : ShowOk d) (hd : displayD d = true) (hy : y = .dat d ∨ ∃ l, d = .list l ∧ y = .box false (.lst l)) : m_law_alike [.dat d, y] = some (.dat (.bool true), [.dat d, y]) := by
  have h1 := eq_show h
  have h2 := repr_show h hd
  unfold m_law_alike b__law_alike
  rcases hy with rfl | ⟨l, rfl, rfl⟩
  · simp [sizeLine_eq, startE, argA, bxIx, back, newC, notBor, bxAt, restE, noBx, lstB, lstAt, isNoD, h1, h2]
  · simp [sizeLine_eq, startE, argA, bxIx, back, newC, notBor, bxAt, restE, noBx, lstB, lstAt, isNoD, h1, h2]
/-! bounds -/
def Bd (K : List Str) (c : St) (M : Int) : Prop := (∀ k n, getT c k = some n → n ≤ M) ∧ ∀ k ∈ keyT c, k ∈ K
theorem gen_bd {K : List Str} (f : Str → Int → Int → Int) (B : Int) (hB : 0 ≤ B) (hf : ∀ k g n, n ≤ B → ∀ M, 0 ≤ M → g ≤ M → f k g n ≤ M + B) : ∀ (st c : St) (M : Int), 0 ≤ M → Bd K c M → (∀ p ∈ st, p.2 ≤ B ∧ p.1 ∈ K) → Bd K (st.foldl (genP f) c) (M + B * st.length)
  | [], c, M, hM, h, _ => by simpa using h
  | p :: r, c, M, hM, h, hs => by
    have h1 : Bd K (genP f c p) (M + B) := by
      refine ⟨fun k n e => ?_, fun k hk => ?_⟩
      · unfold genP at e
        rw [getT_put] at e
        split at e
        · have e := Option.some.inj e
          rw [← e]
          refine hf _ _ _ (hs p List.mem_cons_self).1 M hM ?_
          unfold cnt
          cases e2 : getT c p.1 with
          | none => exact hM
          | some m => exact h.1 _ _ e2
        · have := h.1 k n e
          omega
      · unfold genP at hk
        rw [keyT_put] at hk
        split at hk
        · exact h.2 k hk
        · rcases List.mem_append.mp hk with hk | hk
          · exact h.2 k hk
          · rw [List.mem_singleton.mp hk]; exact (hs p List.mem_cons_self).2
    have h2 := gen_bd f B hB hf r _ (M + B) (by omega) h1 fun q hq => hs q (List.mem_cons_of_mem _ hq)
    rw [List.foldl_cons]
    refine ⟨fun k n e => ?_, h2.2⟩
    have := h2.1 k n e
    rw [List.length_cons]
    rw [show ((r.length + 1 : Nat) : Int) = (r.length : Int) + 1 by omega, Int.mul_add]
    omega
theorem folds_bd {K : List Str} (f : Str → Int → Int → Int) (B : Int) (hB : 0 ≤ B) (hf : ∀ k g n, n ≤ B → ∀ M, 0 ≤ M → g ≤ M → f k g n ≤ M + B) : ∀ (sts : List St) (c : St) (M : Int), 0 ≤ M → Bd K c M → (∀ st ∈ sts, ∀ p ∈ st, p.2 ≤ B ∧ p.1 ∈ K) → Bd K (sts.foldl (fun c st => st.foldl (genP f) c) c) (M + B * totalL sts)
  | [], c, M, hM, h, _ => by simpa [totalL] using h
  | st :: r, c, M, hM, h, hs => by
    have h1 := gen_bd f B hB hf st c M hM h (hs st List.mem_cons_self)
    have h0 : 0 ≤ B * (st.length : Int) := Int.mul_nonneg hB (by omega)
    have h2 := folds_bd f B hB hf r _ _ (by omega) h1 fun q hq => hs q (List.mem_cons_of_mem _ hq)
    rw [List.foldl_cons]
    refine ⟨fun k n e => ?_, h2.2⟩
    have := h2.1 k n e
    rw [total_cons, show ((st.length + totalL r : Nat) : Int) = (st.length : Int) + (totalL r : Int) by omega, Int.mul_add]
    omega
theorem sh_of {K : List Str} (hK : ∀ k ∈ K, NameOk k) {c : St} (hb : Bd K c 1000) (hl : c.length ≤ 63) : Sh (stockOf c) := by
  refine ⟨fun p hp => ?_, Nat.le_trans (len_stockOf c) hl⟩
  obtain ⟨k, n⟩ := p
  obtain ⟨h1, h2⟩ := mem_stockOf.mp hp
  have hk := hK k (hb.2 k (List.mem_map.mpr ⟨_, getT_mem h1, rfl⟩))
  exact ⟨hk.ok, hk.len, by show 0 ≤ n; omega, hb.1 k n h1⟩
theorem folds_len {f : St → Str × Int → St} (hf : ∀ c p, (f c p).length ≤ c.length + 1) : ∀ (sts : List St) (c : St), (sts.foldl (fun c st => st.foldl f c) c).length ≤ c.length + totalL sts
  | [], c => by simp [totalL]
  | st :: r, c => by
    have h1 := folds_len hf r (st.foldl f c)
    have h2 := put_fold_len hf st c
    rw [List.foldl_cons, total_cons]
    omega
theorem sh_add {K : List Str} (hK : ∀ k ∈ K, NameOk k) (o : Str → Bool) {sts : List St} (hs : ∀ st ∈ sts, ∀ p ∈ st, p.2 ≤ 6 ∧ p.1 ∈ K) (hl : totalL sts ≤ 63) : Sh (stockOf (addT o sts)) := by
  have h := folds_bd (K := K) (fun k g n => if o k = true then g + n else 1) 6 (by decide) (fun k g n hn M hM hg => by split <;> omega) sts [] 0 (by decide) ⟨fun k n e => (by cases e), fun k hk => (by cases hk)⟩ hs
  rw [← addP_gen] at h
  refine sh_of hK ⟨fun k n e => ?_, h.2⟩ ?_
  · have := h.1 k n e
    omega
  · have := folds_len (addP_len o) sts []
    unfold addT
    simp only [List.length_nil] at this
    omega
theorem sh_join {K : List Str} (hK : ∀ k ∈ K, NameOk k) {sts : List St} (hs : ∀ st ∈ sts, ∀ p ∈ st, p.2 ≤ 6 ∧ p.1 ∈ K) (hl : totalL sts ≤ 63) : Sh (stockOf (sts.foldl joinT [])) := by
  have h := folds_bd (K := K) (fun k g n => if n > g then n else g) 6 (by decide) (fun k g n hn M hM hg => by split <;> omega) sts [] 0 (by decide) ⟨fun k n e => (by cases e), fun k hk => (by cases hk)⟩ hs
  rw [← joinP_gen] at h
  refine sh_of hK ⟨fun k n e => ?_, h.2⟩ ?_
  · have := h.1 k n e
    omega
  · have := folds_len joinP_len sts []
    simp only [List.length_nil, Nat.zero_add] at this
    exact Nat.le_trans this hl
theorem sh_st {os K : List Str} (hK : ∀ k ∈ K, NameOk k) {B : Int} {L : Nat} (hB : B ≤ 6) (hL : L ≤ 20) {st : St} (h : StOk os K B L st) : Sh st := by
  refine ⟨fun p hp => ?_, by have := h.len; omega⟩
  have hk := hK p.1 (h.kd p.1 (List.mem_map.mpr ⟨p, hp, rfl⟩))
  obtain ⟨a, b, _⟩ := h.pos p hp
  exact ⟨hk.ok, hk.len, by omega, by omega⟩
theorem sh_each {os K : List Str} (hK : ∀ k ∈ K, NameOk k) {B : Int} {L : Nat} (hB : B ≤ 6) (hL : L ≤ 20) {st : St} (h : StOk os K B L st) (f : Str → Int → Int) (hf : ∀ k n, 0 ≤ n → f k n ≤ n) : Sh (stockOf ((keyT st).foldl (eachP f) st)) := by
  have hk := each_keys f (keyT st) st fun _ h => h
  refine sh_of hK ⟨fun k n e => ?_, fun k hkm => ?_⟩ ?_
  · rw [each_get f k _ _ h.nd] at e
    split at e
    · rename_i hm
      have e := Option.some.inj e
      have hg := get_some hm
      obtain ⟨a, b, _⟩ := h.get hg
      have := hf k ((getT st k).getD 0) (by omega)
      omega
    · obtain ⟨a, b, _⟩ := h.get e
      omega
  · rw [hk] at hkm
    exact h.kd k hkm
  · have := congrArg List.length hk
    unfold keyT at this
    rw [List.length_map, List.length_map] at this
    have h2 := h.len
    unfold keyT
    omega
end K21

namespace K21
open PySem PySem.Spec PyProof.Rows L3
/-! stocks as counts -/
structure Cn (os K : List Str) (B : Int) (st : St) : Prop where
  nd : (keyT st).Nodup
  kd : ∀ k ∈ keyT st, k ∈ K
  pos : ∀ p ∈ st, 1 ≤ p.2 ∧ p.2 ≤ B ∧ (p.1 ∉ os → p.2 = 1)
  can : stockOf st = st
section
variable {os K : List Str} {B B' : Int} {a b c st : St} {k : Str}
theorem Cn.get (h : Cn os K B st) {k : Str} {n : Int} (e : getT st k = some n) : 1 ≤ n ∧ n ≤ B ∧ (k ∉ os → n = 1) := h.pos (k, n) (getT_mem e)
theorem Cn.mono (h : Cn os K B st) (hB : B ≤ B') : Cn os K B' st := ⟨h.nd, h.kd, fun p m => let ⟨x, y, z⟩ := h.pos p m; ⟨x, Int.le_trans y hB, z⟩, h.can⟩
theorem Cn.nn (h : Cn os K B st) (k : Str) : 0 ≤ cnt st k := by
  cases e : getT st k with
  | none => rw [cnt_none e]; exact Int.le_refl _
  | some n => rw [cnt_some e]; have := (h.get e).1; omega
theorem Cn.pl (h : Cn os K B st) (hk : k ∉ os) : cnt st k ≤ 1 := by
  cases e : getT st k with
  | none => rw [cnt_none e]; decide
  | some n => rw [cnt_some e]; have := (h.get e).2.2 hk; omega
theorem Cn.le (h : Cn os K B st) (hB : 0 ≤ B) (k : Str) : cnt st k ≤ B := by
  cases e : getT st k with
  | none => rw [cnt_none e]; exact hB
  | some n => rw [cnt_some e]; exact (h.get e).2.1
theorem Cn.ext (ha : Cn os K B a) (hb : Cn os K B' b) (h : ∀ k, cnt a k = cnt b k) : a = b := by
  rw [← ha.can, ← hb.can]
  refine stock_ext ha.nd hb.nd fun k n hn => ?_
  have key : ∀ {x y : St}, (∀ k, cnt x k = cnt y k) → getT x k = some n → getT y k = some n := fun {x y} hxy e => by
    have h1 := hxy k
    rw [cnt_some e] at h1
    cases e2 : getT y k with
    | none => rw [cnt_none e2] at h1; omega
    | some m => rw [cnt_some e2] at h1; rw [h1]
  exact ⟨key h, key fun k => (h k).symm⟩
theorem cnt_stockOf (hn : (keyT c).Nodup) (k : Str) : cnt (stockOf c) k = if 0 < cnt c k then cnt c k else 0 := by
  unfold cnt
  rw [get_stockOf hn]
  cases e : getT c k with
  | none => rfl
  | some n =>
    simp only [Option.getD_some]
    split <;> rfl
theorem Cn.of (hn : (keyT c).Nodup) (hk : ∀ k ∈ keyT c, k ∈ K) (h : ∀ k, cnt c k ≤ B ∧ (k ∉ os → cnt c k ≤ 1)) : Cn os K B (stockOf c) := by
  refine ⟨nodup_stockOf hn, fun k m => ?_, fun p m => ?_, stock_stock hn⟩
  · obtain ⟨⟨k', n⟩, m2, rfl⟩ := List.mem_map.mp m
    exact hk _ (List.mem_map.mpr ⟨_, getT_mem (mem_stockOf.mp m2).1, rfl⟩)
  · obtain ⟨k, n⟩ := p
    obtain ⟨h1, h2⟩ := mem_stockOf.mp m
    have h3 := h k
    rw [cnt_some h1] at h3
    exact ⟨by show 1 ≤ n; omega, h3.1, fun z => by have := h3.2 z; show n = 1; omega⟩
theorem cnt_nil (k : Str) : cnt [] k = 0 := rfl
theorem cnt_gen (f : Str → Int → Int → Int) (hn : (keyT st).Nodup) : cnt (st.foldl (genP f) c) k = match getT st k with | some n => f k (cnt c k) n | none => cnt c k := by
  show (getT (st.foldl (genP f) c) k).getD 0 = _
  rw [gen_get f k st c hn]
  cases getT st k <;> rfl
/-- two counts added -/
def plusC (o : Bool) (x y : Int) : Int := if o = true then x + y else max x y
theorem cnt_add (h : Cn os K B st) (h0 : 0 ≤ cnt c k) (h1 : k ∉ os → cnt c k ≤ 1) : cnt (st.foldl (addP (onc os)) c) k = plusC (onc os k) (cnt c k) (cnt st k) := by
  rw [addP_gen, cnt_gen _ h.nd]
  unfold plusC
  by_cases ho : k ∈ os
  · rw [show onc os k = true from decide_eq_true ho]
    cases e : getT st k with
    | none => rw [cnt_none e]; simp
    | some n => rw [cnt_some e]; simp
  · rw [show onc os k = false from decide_eq_false ho]
    simp only [Bool.false_eq_true, if_false]
    cases e : getT st k with
    | none => rw [cnt_none e]; show cnt c k = _; omega
    | some n =>
      have := (h.get e).2.2 ho
      have := h1 ho
      rw [cnt_some e]
      show (1 : Int) = _
      omega
theorem cnt_join (h : Cn os K B st) (h0 : 0 ≤ cnt c k) : cnt (st.foldl joinP c) k = max (cnt c k) (cnt st k) := by
  rw [joinP_gen, cnt_gen _ h.nd]
  cases e : getT st k with
  | none => rw [cnt_none e]; show cnt c k = _; omega
  | some n =>
    rw [cnt_some e]
    show (if n > cnt c k then n else cnt c k) = _
    split <;> omega
def sumS (os : List Str) (sts : List St) : St := stockOf (addT (onc os) sts)
def joinS (sts : List St) : St := stockOf (sts.foldl joinT [])
theorem fold_nodup (f : Str → Int → Int → Int) : ∀ (sts : List St) (c : St), (keyT c).Nodup → (keyT (sts.foldl (fun c st => st.foldl (genP f) c) c)).Nodup
  | [], _, h => h
  | st :: r, c, h => fold_nodup f r _ (gen_nodup f st c h)
theorem fold_keys (f : Str → Int → Int → Int) (k : Str) : ∀ (sts : List St) (c : St), k ∈ keyT (sts.foldl (fun c st => st.foldl (genP f) c) c) → k ∈ keyT c ∨ ∃ st ∈ sts, k ∈ keyT st
  | [], _, h => .inl h
  | st :: r, c, h => by
    rcases fold_keys f k r _ h with h | ⟨s, m, h⟩
    · rcases gen_keys f k st c h with h | h
      · exact .inl h
      · exact .inr ⟨st, List.mem_cons_self, h⟩
    · exact .inr ⟨s, List.mem_cons_of_mem _ m, h⟩
theorem plusC_nn {o : Bool} {x y : Int} (hx : 0 ≤ x) (hy : 0 ≤ y) : 0 ≤ plusC o x y := by unfold plusC; split <;> omega
theorem plusC_pl {x y : Int} (hx : x ≤ 1) (hy : y ≤ 1) : plusC false x y ≤ 1 := by unfold plusC; rw [if_neg Bool.false_ne_true]; omega
theorem cnt_adds (k : Str) : ∀ (sts : List St) (c : St), (∀ st ∈ sts, Cn os K B st) → 0 ≤ cnt c k → (k ∉ os → cnt c k ≤ 1) →
    cnt (sts.foldl (fun c st => st.foldl (addP (onc os)) c) c) k = sts.foldl (fun x st => plusC (onc os k) x (cnt st k)) (cnt c k)
  | [], _, _, _, _ => rfl
  | st :: r, c, h, h0, h1 => by
    have hs := h st List.mem_cons_self
    have e := cnt_add hs h0 h1
    rw [List.foldl_cons, List.foldl_cons, ← e]
    refine cnt_adds k r _ (fun s m => h s (List.mem_cons_of_mem _ m)) ?_ fun ho => ?_
    · rw [e]; exact plusC_nn h0 (hs.nn k)
    · rw [e, show onc os k = false from decide_eq_false ho]
      exact plusC_pl (h1 ho) (hs.pl ho)
theorem fold_bd {o : Bool} {B : Int} (hB : 0 ≤ B) : ∀ (xs : List Int) (x : Int), (∀ y ∈ xs, 0 ≤ y ∧ y ≤ B ∧ (o = false → y ≤ 1)) → 0 ≤ x → (o = false → x ≤ 1) → 0 ≤ xs.foldl (plusC o) x ∧ xs.foldl (plusC o) x ≤ x + B * xs.length ∧ (o = false → xs.foldl (plusC o) x ≤ 1)
  | [], x, _, h0, h1 => by simp only [List.foldl_nil, List.length_nil]; exact ⟨h0, by simp, h1⟩
  | y :: r, x, h, h0, h1 => by
    obtain ⟨y0, y1, y2⟩ := h y List.mem_cons_self
    have z := fold_bd hB r (plusC o x y) (fun w m => h w (List.mem_cons_of_mem _ m)) (plusC_nn h0 y0) fun e => by subst e; exact plusC_pl (h1 rfl) (y2 rfl)
    rw [List.foldl_cons]
    refine ⟨z.1, Int.le_trans z.2.1 ?_, z.2.2⟩
    have : plusC o x y ≤ x + B := by unfold plusC; split <;> omega
    rw [List.length_cons, show ((r.length + 1 : Nat) : Int) = (r.length : Int) + 1 by omega, Int.mul_add]
    omega
theorem fold_map (k : Str) (o : Bool) (sts : List St) (x : Int) : sts.foldl (fun x st => plusC o x (cnt st k)) x = (sts.map fun st => cnt st k).foldl (plusC o) x := by
  rw [List.foldl_map]
theorem adds_bd (hB : 0 ≤ B) {sts : List St} (h : ∀ st ∈ sts, Cn os K B st) (k : Str) : 0 ≤ cnt (addT (onc os) sts) k ∧ cnt (addT (onc os) sts) k ≤ B * sts.length ∧ (k ∉ os → cnt (addT (onc os) sts) k ≤ 1) := by
  have e : cnt (addT (onc os) sts) k = _ := cnt_adds k sts [] h (Int.le_refl _) fun _ => by show (0 : Int) ≤ 1; decide
  rw [fold_map, cnt_nil] at e
  rw [e]
  have z := fold_bd (o := onc os k) hB (sts.map fun st => cnt st k) 0 (fun y m => by
    obtain ⟨st, ms, rfl⟩ := List.mem_map.mp m
    exact ⟨(h st ms).nn k, (h st ms).le hB k, fun ho => (h st ms).pl (of_decide_eq_false ho)⟩) (Int.le_refl _) fun _ => by decide
  rw [List.length_map] at z
  exact ⟨z.1, by simpa using z.2.1, fun ho => z.2.2 (decide_eq_false ho)⟩
theorem sum_cn (hB : 0 ≤ B) {sts : List St} (h : ∀ st ∈ sts, Cn os K B st) : Cn os K (B * sts.length) (sumS os sts) := by
  have hn : (keyT (addT (onc os) sts)).Nodup := by
    unfold addT; rw [addP_gen]; exact fold_nodup _ _ _ .nil
  refine Cn.of hn (fun k m => ?_) fun k => (adds_bd hB h k).2
  unfold addT at m
  rw [addP_gen] at m
  rcases fold_keys _ k sts [] m with z | ⟨st, ms, z⟩
  · cases z
  · exact (h st ms).kd k z
theorem sum_cnt {sts : List St} (hB : 0 ≤ B) (h : ∀ st ∈ sts, Cn os K B st) (k : Str) : cnt (sumS os sts) k = sts.foldl (fun x st => plusC (onc os k) x (cnt st k)) 0 := by
  have hn : (keyT (addT (onc os) sts)).Nodup := by
    unfold addT; rw [addP_gen]; exact fold_nodup _ _ _ .nil
  have e : cnt (addT (onc os) sts) k = _ := cnt_adds k sts [] h (Int.le_refl _) fun _ => by show (0 : Int) ≤ 1; decide
  rw [cnt_nil] at e
  unfold sumS
  rw [cnt_stockOf hn, ← e]
  have := (adds_bd hB h k).1
  split <;> omega
theorem cnt_joins (k : Str) : ∀ (sts : List St) (c : St), (∀ st ∈ sts, Cn os K B st) → 0 ≤ cnt c k → cnt (sts.foldl joinT c) k = sts.foldl (fun x st => max x (cnt st k)) (cnt c k)
  | [], _, _, _ => rfl
  | st :: r, c, h, h0 => by
    have hs := h st List.mem_cons_self
    have e : cnt (joinT c st) k = _ := cnt_join hs h0
    rw [List.foldl_cons, List.foldl_cons, ← e]
    refine cnt_joins k r _ (fun s m => h s (List.mem_cons_of_mem _ m)) ?_
    rw [e]; omega
theorem maxs_bd {B : Int} (hB : 0 ≤ B) : ∀ (xs : List Int) (x : Int), (∀ y ∈ xs, y ≤ B) → 0 ≤ x → x ≤ B → 0 ≤ xs.foldl max x ∧ xs.foldl max x ≤ B
  | [], x, _, h0, h1 => ⟨h0, h1⟩
  | y :: r, x, h, h0, h1 => by
    have := h y List.mem_cons_self
    exact maxs_bd hB r (max x y) (fun w m => h w (List.mem_cons_of_mem _ m)) (by omega) (by omega)
theorem joins_bd (hB : 1 ≤ B) {sts : List St} (h : ∀ st ∈ sts, Cn os K B st) (k : Str) : 0 ≤ cnt (sts.foldl joinT []) k ∧ cnt (sts.foldl joinT []) k ≤ B ∧ (k ∉ os → cnt (sts.foldl joinT []) k ≤ 1) := by
  rw [cnt_joins k sts [] h (Int.le_refl _), show (sts.foldl (fun x st => max x (cnt st k)) (cnt [] k)) = (sts.map fun st => cnt st k).foldl max 0 by rw [List.foldl_map]; rfl]
  have z := maxs_bd (B := B) (by omega) (sts.map fun st => cnt st k) 0 (fun y m => by
    obtain ⟨st, ms, rfl⟩ := List.mem_map.mp m
    exact (h st ms).le (by omega) k) (Int.le_refl _) (by omega)
  refine ⟨z.1, z.2, fun ho => ?_⟩
  exact (maxs_bd (B := 1) (by decide) (sts.map fun st => cnt st k) 0 (fun y m => by
    obtain ⟨st, ms, rfl⟩ := List.mem_map.mp m
    exact (h st ms).pl ho) (Int.le_refl _) (by decide)).2
theorem joins_nodup (sts : List St) : (keyT (sts.foldl joinT [])).Nodup := by
  show (keyT (sts.foldl (fun c st => st.foldl joinP c) [])).Nodup
  rw [joinP_gen]; exact fold_nodup _ _ _ .nil
theorem join_cn (hB : 1 ≤ B) {sts : List St} (h : ∀ st ∈ sts, Cn os K B st) : Cn os K B (joinS sts) := by
  refine Cn.of (joins_nodup sts) (fun k m => ?_) fun k => (joins_bd hB h k).2
  have m' : k ∈ keyT (sts.foldl (fun c st => st.foldl joinP c) []) := m
  rw [joinP_gen] at m'
  rcases fold_keys _ k sts [] m' with z | ⟨st, ms, z⟩
  · cases z
  · exact (h st ms).kd k z
theorem join_cnt (hB : 1 ≤ B) {sts : List St} (h : ∀ st ∈ sts, Cn os K B st) (k : Str) : cnt (joinS sts) k = sts.foldl (fun x st => max x (cnt st k)) 0 := by
  have e := cnt_joins k sts [] h (Int.le_refl _)
  rw [cnt_nil] at e
  unfold joinS
  rw [cnt_stockOf (joins_nodup sts), ← e]
  have := (joins_bd hB h k).1
  split <;> omega
/-- at or above, by counts -/
theorem ge_iff (ha : Cn os K B a) (hb : Cn os K B' b) : geT a b = true ↔ ∀ k, cnt b k ≤ cnt a k := by
  unfold geT
  rw [List.all_eq_true]
  constructor
  · intro h k
    cases e : getT b k with
    | none => rw [cnt_none e]; exact ha.nn k
    | some n =>
      rw [cnt_some e]
      exact of_decide_eq_true (h (k, n) (getT_mem e))
  · intro h p m
    refine decide_eq_true ?_
    have := h p.1
    rw [cnt_some (getT_of_mem hb.nd (show (p.1, p.2) ∈ b from m))] at this
    exact this
theorem ge_refl (ha : Cn os K B a) : geT a a = true := (ge_iff ha ha).mpr fun _ => Int.le_refl _
theorem ge_trans {B'' : Int} (ha : Cn os K B a) (hb : Cn os K B' b) (hc : Cn os K B'' c) (h1 : geT a b = true) (h2 : geT b c = true) : geT a c = true :=
  (ge_iff ha hc).mpr fun k => Int.le_trans ((ge_iff hb hc).mp h2 k) ((ge_iff ha hb).mp h1 k)
theorem ge_antisymm (ha : Cn os K B a) (hb : Cn os K B' b) (h1 : geT a b = true) (h2 : geT b a = true) : a = b :=
  ha.ext hb fun k => Int.le_antisymm ((ge_iff hb ha).mp h2 k) ((ge_iff ha hb).mp h1 k)
theorem StOk.cn {L : Nat} (h : StOk os K B L st) (hc : stockOf st = st) : Cn os K B st := ⟨h.nd, h.kd, h.pos, hc⟩
theorem nodup_len {α : Type} [DecidableEq α] : ∀ (l m : List α), l.Nodup → (∀ x ∈ l, x ∈ m) → l.length ≤ m.length
  | [], _, _, _ => Nat.zero_le _
  | x :: l, m, hn, h => by
    have hx := h x List.mem_cons_self
    have hn' := List.nodup_cons.mp hn
    have := nodup_len l (m.erase x) hn'.2 fun y hy => (List.mem_erase_of_ne fun e => hn'.1 (by rw [← e]; exact hy)).mpr (h y (List.mem_cons_of_mem _ hy))
    rw [List.length_erase_of_mem hx] at this
    have := List.length_pos_of_mem hx
    rw [List.length_cons]
    omega
theorem Cn.len (h : Cn os K B st) : st.length ≤ K.length := by
  have := nodup_len (keyT st) K h.nd h.kd
  unfold keyT at this
  rwa [List.length_map] at this
/-- a stock, of whatever counts -/
def Cs (os K : List Str) (st : St) : Prop := ∃ B, 0 ≤ B ∧ Cn os K B st
theorem Cn.cs (hB : 0 ≤ B) (h : Cn os K B st) : Cs os K st := ⟨B, hB, h⟩
theorem Cs.nd (h : Cs os K st) : (keyT st).Nodup := let ⟨_, _, c⟩ := h; c.nd
theorem Cs.len (h : Cs os K st) : st.length ≤ K.length := let ⟨_, _, c⟩ := h; c.len
theorem Cs.nn (h : Cs os K st) (k : Str) : 0 ≤ cnt st k := let ⟨_, _, c⟩ := h; c.nn k
theorem Cs.pl (h : Cs os K st) (hk : k ∉ os) : cnt st k ≤ 1 := let ⟨_, _, c⟩ := h; c.pl hk
theorem Cs.ext (ha : Cs os K a) (hb : Cs os K b) (h : ∀ k, cnt a k = cnt b k) : a = b := let ⟨_, _, x⟩ := ha; let ⟨_, _, y⟩ := hb; x.ext y h
theorem geS_iff (ha : Cs os K a) (hb : Cs os K b) : geT a b = true ↔ ∀ k, cnt b k ≤ cnt a k := let ⟨_, _, x⟩ := ha; let ⟨_, _, y⟩ := hb; ge_iff x y
theorem geS_refl (ha : Cs os K a) : geT a a = true := let ⟨_, _, x⟩ := ha; ge_refl x
theorem geS_trans (ha : Cs os K a) (hb : Cs os K b) (hc : Cs os K c) (h1 : geT a b = true) (h2 : geT b c = true) : geT a c = true := let ⟨_, _, x⟩ := ha; let ⟨_, _, y⟩ := hb; let ⟨_, _, z⟩ := hc; ge_trans x y z h1 h2
theorem geS_antisymm (ha : Cs os K a) (hb : Cs os K b) (h1 : geT a b = true) (h2 : geT b a = true) : a = b := let ⟨_, _, x⟩ := ha; let ⟨_, _, y⟩ := hb; ge_antisymm x y h1 h2
theorem nil_cn (hB : 0 ≤ B) : Cn os K B [] := ⟨.nil, (fun _ m => nomatch m), (fun _ m => nomatch m), by simp [stockOf, keyT, sortS]⟩
theorem plusC_zero {o : Bool} {x : Int} (h : 0 ≤ x) : plusC o 0 x = x := by unfold plusC; split <;> omega
/-- two added -/
theorem sum2_cnt (ha : Cs os K a) (hb : Cs os K b) (k : Str) : cnt (sumS os [a, b]) k = plusC (onc os k) (cnt a k) (cnt b k) := by
  obtain ⟨B, hB, x⟩ := ha
  obtain ⟨B', hB', y⟩ := hb
  have h : ∀ st ∈ [a, b], Cn os K (B + B') st := fun st m => by
    rcases List.mem_cons.mp m with rfl | m
    · exact x.mono (by omega)
    · rw [List.mem_singleton.mp m]; exact y.mono (by omega)
  rw [sum_cnt (by omega) h]
  show plusC _ (plusC _ 0 (cnt a k)) (cnt b k) = _
  rw [plusC_zero (x.nn k)]
theorem sum2_cn (hB : 0 ≤ B) (hB' : 0 ≤ B') (ha : Cn os K B a) (hb : Cn os K B' b) : Cn os K (B + B') (sumS os [a, b]) := by
  have h : ∀ st ∈ [a, b], Cn os K (B + B') st := fun st m => by
    rcases List.mem_cons.mp m with rfl | m
    · exact ha.mono (by omega)
    · rw [List.mem_singleton.mp m]; exact hb.mono (by omega)
  have c := sum_cn (by omega) h
  refine ⟨c.nd, c.kd, fun p m => ?_, c.can⟩
  obtain ⟨x, y, z⟩ := c.pos p m
  refine ⟨x, ?_, z⟩
  have e := sum2_cnt (ha.cs hB) (hb.cs hB') p.1
  rw [cnt_some (getT_of_mem c.nd (show (p.1, p.2) ∈ _ from m))] at e
  have h1 := ha.le hB p.1
  have h2 := hb.le hB' p.1
  have h3 := ha.nn p.1
  have h4 := hb.nn p.1
  rw [e]
  unfold plusC
  split <;> omega
theorem sum2_cs (ha : Cs os K a) (hb : Cs os K b) : Cs os K (sumS os [a, b]) := let ⟨B, h1, x⟩ := ha; let ⟨B', h2, y⟩ := hb; ⟨B + B', by omega, sum2_cn h1 h2 x y⟩
theorem join2_cnt (ha : Cs os K a) (hb : Cs os K b) (k : Str) : cnt (joinS [a, b]) k = max (cnt a k) (cnt b k) := by
  obtain ⟨B, hB, x⟩ := ha
  obtain ⟨B', hB', y⟩ := hb
  have h : ∀ st ∈ [a, b], Cn os K (B + B' + 1) st := fun st m => by
    rcases List.mem_cons.mp m with rfl | m
    · exact x.mono (by omega)
    · rw [List.mem_singleton.mp m]; exact y.mono (by omega)
  rw [join_cnt (by omega) h]
  show max (max 0 (cnt a k)) (cnt b k) = _
  have := x.nn k
  omega
theorem join2_cn (hB : 1 ≤ B) (ha : Cn os K B a) (hb : Cn os K B b) : Cn os K B (joinS [a, b]) := join_cn hB fun st m => by
  rcases List.mem_cons.mp m with rfl | m
  · exact ha
  · rw [List.mem_singleton.mp m]; exact hb
theorem join2_cs (ha : Cs os K a) (hb : Cs os K b) : Cs os K (joinS [a, b]) := let ⟨B, h1, x⟩ := ha; let ⟨B', h2, y⟩ := hb; ⟨B + B' + 1, by omega, join2_cn (by omega) (x.mono (by omega)) (y.mono (by omega))⟩
end
end K21

namespace K21
open PySem PySem.Spec PyProof.Rows L3
/-! lots of least stocks -/
theorem encP_inj {p q : Str × Int} (h : encP PyData.int p = encP PyData.int q) : p = q := by
  obtain ⟨a, b⟩ := p
  obtain ⟨c, d⟩ := q
  simp only [encP, PyData.tuple.injEq, List.cons.injEq, PyData.str.injEq, PyData.int.injEq, and_true] at h
  rw [h.1, h.2]
theorem encSt_inj (a b : St) (h : encSt a = encSt b) : a = b := by
  have h' : a.map (encP PyData.int) = b.map (encP PyData.int) := by
    unfold encSt at h
    injection h
  clear h
  induction a generalizing b with
  | nil => cases b with
    | nil => rfl
    | cons _ _ => simp at h'
  | cons p a ih => cases b with
    | nil => simp at h'
    | cons q b =>
      rw [List.map_cons, List.map_cons] at h'
      have e := List.cons_eq_cons.mp h'
      rw [encP_inj e.1, ih b e.2]
theorem toks_pair (p : Str × Int) : PySem.W.keyToks (encP PyData.int p) = [.inl 1, .inr p.1.cps.toList, .inl 1, .inl p.2, .inl 0] := by
  simp [encP, PySem.W.keyToks, PySem.W.keyToksAll]
theorem encSt_toks (a b : St) (h : PySem.W.keyToks (encSt a) = PySem.W.keyToks (encSt b)) : a = b := by
  have h' : PySem.W.keyToksAll (a.map (encP PyData.int)) = PySem.W.keyToksAll (b.map (encP PyData.int)) := by
    unfold encSt at h
    rw [PySem.W.keyToks, PySem.W.keyToks] at h
    exact h
  clear h
  induction a generalizing b with
  | nil => cases b with
    | nil => rfl
    | cons _ _ => simp [PySem.W.keyToksAll] at h'
  | cons p a ih => cases b with
    | nil => simp [PySem.W.keyToksAll] at h'
    | cons q b =>
      rw [List.map_cons, List.map_cons, PySem.W.keyToksAll, PySem.W.keyToksAll, toks_pair, toks_pair] at h'
      simp only [List.cons_append, List.nil_append, List.cons.injEq, Sum.inr.injEq, Sum.inl.injEq, true_and] at h'
      obtain ⟨e1, e2, e3⟩ := h'
      obtain ⟨p1, p2⟩ := p
      obtain ⟨q1, q2⟩ := q
      have e1' : p1 = q1 := PySem.W.str_of_cps e1
      have e2' : p2 = q2 := e2
      rw [e1', e2', ih b e3]
def stepL (F : List St) (s : St) : List St := if F.any (fun m => geT s m) = true then F else F.filter (fun o => !geT o s) ++ [s]
noncomputable def sortSt (xs : List St) : List St := xs.mergeSort fun a b => PySem.W.dataLe false id (encSt a) (encSt b)
noncomputable def orderS (xs : List St) : List St := (dedN xs).mergeSort fun a b => leLen (encSt a) (encSt b)
noncomputable def leastS (xs : List St) : List St := sortSt ((orderS xs).foldl stepL [])
/-- M: the least ones of xs -/
structure Least (xs M : List St) : Prop where
  sub : ∀ m ∈ M, m ∈ xs
  anti : ∀ a ∈ M, ∀ b ∈ M, geT a b = true → a = b
  cov : ∀ x ∈ xs, ∃ m ∈ M, geT x m = true
  nd : M.Nodup
section
variable {os K : List Str} {xs ys M M' F P : List St} {s : St}
theorem step_least (h : ∀ x ∈ P, Cs os K x) (hs : Cs os K s) (l : Least P F) : Least (P ++ [s]) (stepL F s) := by
  unfold stepL
  split
  · rename_i hm
    obtain ⟨m, m1, m2⟩ := List.any_eq_true.mp hm
    refine ⟨fun x hx => List.mem_append_left _ (l.sub x hx), l.anti, fun x hx => ?_, l.nd⟩
    rcases List.mem_append.mp hx with hx | hx
    · exact l.cov x hx
    · rw [List.mem_singleton.mp hx]; exact ⟨m, m1, m2⟩
  · rename_i hm
    have hm' : ∀ m ∈ F, geT s m = false := fun m hmm => by
      cases e : geT s m with
      | false => rfl
      | true => exact absurd (List.any_eq_true.mpr ⟨m, hmm, e⟩) hm
    have hF : ∀ m ∈ F, Cs os K m := fun m hmm => h m (l.sub m hmm)
    refine ⟨fun x hx => ?_, fun a ha b hb hab => ?_, fun x hx => ?_, ?_⟩
    · rcases List.mem_append.mp hx with hx | hx
      · exact List.mem_append_left _ (l.sub x (List.mem_filter.mp hx).1)
      · exact List.mem_append_right _ hx
    · rcases List.mem_append.mp ha with ha | ha <;> rcases List.mem_append.mp hb with hb | hb
      · exact l.anti a (List.mem_filter.mp ha).1 b (List.mem_filter.mp hb).1 hab
      · rw [List.mem_singleton.mp hb] at hab
        have := (List.mem_filter.mp ha).2
        rw [hab] at this
        cases this
      · rw [List.mem_singleton.mp ha] at hab
        rw [hm' b (List.mem_filter.mp hb).1] at hab
        cases hab
      · rw [List.mem_singleton.mp ha, List.mem_singleton.mp hb]
    · have cs : ∃ m ∈ F.filter (fun o => !geT o s) ++ [s], geT s m = true := ⟨s, List.mem_append_right _ (List.mem_singleton.mpr rfl), geS_refl hs⟩
      rcases List.mem_append.mp hx with hx | hx
      · obtain ⟨m, m1, m2⟩ := l.cov x hx
        cases e : geT m s with
        | false => exact ⟨m, List.mem_append_left _ (List.mem_filter.mpr ⟨m1, by rw [e]; rfl⟩), m2⟩
        | true => exact ⟨s, List.mem_append_right _ (List.mem_singleton.mpr rfl), geS_trans (h x hx) (hF m m1) hs m2 e⟩
      · rw [List.mem_singleton.mp hx]; exact cs
    · rw [List.nodup_append]
      refine ⟨l.nd.filter _, by simp, fun a ha b hb e => ?_⟩
      rw [List.mem_singleton.mp hb] at e
      subst e
      have := hm' a (List.mem_filter.mp ha).1
      rw [geS_refl hs] at this
      cases this
theorem fold_least : ∀ (ys P F : List St), (∀ x ∈ P ++ ys, Cs os K x) → Least P F → Least (P ++ ys) (ys.foldl stepL F)
  | [], P, F, _, l => by rw [List.append_nil]; exact l
  | y :: r, P, F, h, l => by
    have h1 := step_least (fun x hx => h x (List.mem_append_left _ hx)) (h y (List.mem_append_right _ List.mem_cons_self)) l
    have h2 := fold_least r (P ++ [y]) (stepL F y) (by rw [List.append_assoc]; exact h) h1
    rw [List.append_assoc] at h2
    exact h2
theorem Least.congr (l : Least xs M) (h : ∀ x, x ∈ xs ↔ x ∈ ys) (p : M'.Perm M) : Least ys M' :=
  ⟨fun m hm => (h m).mp (l.sub m (p.mem_iff.mp hm)), fun a ha b hb => l.anti a (p.mem_iff.mp ha) b (p.mem_iff.mp hb), fun x hx => let ⟨m, a, b⟩ := l.cov x ((h x).mpr hx); ⟨m, p.mem_iff.mpr a, b⟩, p.nodup_iff.mpr l.nd⟩
theorem mem_orderS {x : St} : x ∈ orderS xs ↔ x ∈ xs := by
  unfold orderS
  rw [(List.mergeSort_perm _ _).mem_iff, mem_dedN]
theorem order_least (h : ∀ x ∈ xs, Cs os K x) : Least xs ((orderS xs).foldl stepL []) := by
  have l := fold_least (orderS xs) [] [] (fun x hx => h x (mem_orderS.mp hx)) ⟨(fun _ m => nomatch m), (fun _ m => nomatch m), (fun _ m => nomatch m), .nil⟩
  exact l.congr (fun x => mem_orderS) (.refl _)
theorem leastS_least (h : ∀ x ∈ xs, Cs os K x) : Least xs (leastS xs) := (order_least h).congr (fun _ => Iff.rfl) (List.mergeSort_perm _ _)
theorem Least.perm (hx : ∀ x ∈ xs, Cs os K x) (hy : ∀ y ∈ ys, Cs os K y) (l : Least xs M) (l' : Least ys M') (h1 : ∀ x ∈ xs, ∃ y ∈ ys, geT x y = true) (h2 : ∀ y ∈ ys, ∃ x ∈ xs, geT y x = true) : M.Perm M' := by
  have key : ∀ {xs ys M M' : List St}, (∀ x ∈ xs, Cs os K x) → (∀ y ∈ ys, Cs os K y) → Least xs M → Least ys M' → (∀ x ∈ xs, ∃ y ∈ ys, geT x y = true) → (∀ y ∈ ys, ∃ x ∈ xs, geT y x = true) → ∀ m ∈ M, m ∈ M' := by
    intro xs ys M M' hx hy l l' h1 h2 m hm
    obtain ⟨y, y1, y2⟩ := h1 m (l.sub m hm)
    obtain ⟨m', n1, n2⟩ := l'.cov y y1
    obtain ⟨x, x1, x2⟩ := h2 m' (l'.sub m' n1)
    obtain ⟨m2, p1, p2⟩ := l.cov x x1
    have c0 := hx m (l.sub m hm)
    have c1 := hy y y1
    have c2 := hy m' (l'.sub m' n1)
    have c3 := hx x x1
    have c4 := hx m2 (l.sub m2 p1)
    have g1 := geS_trans c0 c1 c2 y2 n2
    have g2 := geS_trans c2 c3 c4 x2 p2
    have e := l.anti m hm m2 p1 (geS_trans c0 c2 c4 g1 g2)
    subst e
    rw [geS_antisymm c0 c2 g1 g2]
    exact n1
  exact (List.perm_ext_iff_of_nodup l.nd l'.nd).mpr fun m => ⟨key hx hy l l' h1 h2 m, key hy hx l' l h2 h1 m⟩
theorem leastS_of (hx : ∀ x ∈ xs, Cs os K x) (hy : ∀ y ∈ ys, Cs os K y) (l' : Least ys M') (h1 : ∀ x ∈ xs, ∃ y ∈ ys, geT x y = true) (h2 : ∀ y ∈ ys, ∃ x ∈ xs, geT y x = true) : leastS xs = sortSt M' :=
  sortL_unique encSt_toks ((order_least hx).perm hx hy l' h1 h2)
theorem leastS_eq (hx : ∀ x ∈ xs, Cs os K x) (hy : ∀ y ∈ ys, Cs os K y) (h1 : ∀ x ∈ xs, ∃ y ∈ ys, geT x y = true) (h2 : ∀ y ∈ ys, ∃ x ∈ xs, geT y x = true) : leastS xs = leastS ys :=
  leastS_of hx hy (order_least hy) h1 h2
theorem leastS_cn (h : ∀ x ∈ xs, Cs os K x) : ∀ m ∈ leastS xs, Cs os K m := fun m hm => h m ((leastS_least h).sub m hm)
theorem stepL_len (F : List St) (s : St) : (stepL F s).length ≤ F.length + 1 := by
  unfold stepL
  split
  · omega
  · rw [List.length_append, List.length_singleton]
    have := List.length_filter_le (fun o => !geT o s) F
    omega
theorem foldL_len : ∀ (ys F : List St), (ys.foldl stepL F).length ≤ F.length + ys.length
  | [], F => by simp
  | y :: r, F => by
    have := foldL_len r (stepL F y)
    have := stepL_len F y
    rw [List.foldl_cons, List.length_cons]
    omega
theorem order_len (xs : List St) : (orderS xs).length ≤ xs.length := by
  unfold orderS
  rw [List.length_mergeSort]
  exact len_dedN xs
theorem leastS_len (xs : List St) : (leastS xs).length ≤ xs.length := by
  unfold leastS sortSt
  rw [List.length_mergeSort]
  have h1 := foldL_len (orderS xs) []
  have h2 := order_len xs
  simp only [List.length_nil] at h1
  omega
end
/-! what the program computes -/
theorem sortSt_sorted {F : List St} (h : F.length ≤ 1 ∨ [] ∉ F) : sortedE [.list (F.map encSt)] = some (.new (.lst ((sortSt F).map encSt))) := by
  have e : sortD (F.map encSt) = (sortSt F).map encSt := sortD_map F
  unfold sortedE
  simp only []
  split
  · rw [e]
  · rename_i hn
    rcases h with h | h
    · rw [if_pos (by rw [List.length_map]; exact h), ← e]
      have := perm_short (List.mergeSort_perm (F.map encSt) (PySem.W.dataLe false id)) (by rw [List.length_map]; exact h)
      rw [show sortD (F.map encSt) = F.map encSt from this]
    · refine absurd ?_ hn
      unfold sortOk
      rw [Bool.and_eq_true, Bool.and_eq_true, Bool.or_eq_true]
      have al : ∀ a b : St, PySem.W.alikeAll (a.map (encP PyData.int)) (b.map (encP PyData.int)) = true := by
        intro a
        induction a with
        | nil => intro b; simp [PySem.W.alikeAll]
        | cons p a ih =>
          intro b
          cases b with
          | nil => simp [PySem.W.alikeAll]
          | cons q b => rw [List.map_cons, List.map_cons, PySem.W.alikeAll, ih b]; simp [encP, PySem.W.alike, PySem.W.alikeAll]
      refine ⟨⟨?_, .inl ?_⟩, ?_⟩
      · unfold alikeB
        rw [List.all_map, List.all_eq_true]
        intro a _
        show (F.map encSt).all _ = true
        rw [List.all_map, List.all_eq_true]
        intro b _
        show PySem.W.alike (encSt a) (encSt b) = true
        unfold encSt
        rw [PySem.W.alike]
        exact al a b
      · rw [List.all_map, List.all_eq_true]
        intro a ha
        cases a with
        | nil => exact absurd ha h
        | cons _ _ => rfl
      · rw [List.all_map, List.all_eq_true]
        intro a _
        have := dep_encSt a
        exact decide_eq_true (show (encSt a).depth ≤ 64 by omega)
theorem tupK_St (st : St) : tupK (encSt st) = true := by
  unfold encSt tupK
  simp only [ndOk]
  rw [List.all_map, List.all_eq_true]
  intro p _
  simp [encP, ndOk]
theorem is_met_ok {x : A} {F : List St} (hx : IsS x (F.map encSt)) {s : St} (hs : (keyT s).Nodup) (hF : ∀ m ∈ F, m.length < 64) (hl : F.length ≤ 100000) : p_is_met [x, .dat (encSt s)] = some (.dat (.bool (F.any fun m => geT s m)), [x, .dat (encSt s)]) := by
  have hz : F.length ≤ sizeLine := by rw [sizeLine_eq]; omega
  have ht : ∀ m ∈ F, PureTurn (gnm 2) myes M_is_met_1 [2] [some x, some (.dat (encSt s)), none] (encSt m) (some (.bool (geT s m))) := fun m hm => by
    have h1 := is_above_ok (one := s) (other := m) hs (hF m hm)
    refine ⟨[some x, some (.dat (encSt s)), some (.dat (encSt m))], true, ?_, ?_, rfl, rfl, ?_⟩
    · simp [sizeLine_eq, startE, argA, bxIx, back, newC, notBor, bxAt, restE, noBx, lstB, lstAt, isNoD]
    · simp [sizeLine_eq, startE, argA, bxIx, back, newC, notBor, bxAt, restE, noBx, lstB, lstAt, isNoD]
    · unfold M_is_met_1
      simp [sizeLine_eq, startE, argA, bxIx, back, newC, notBor, bxAt, restE, noBx, lstB, lstAt, isNoD, h1]
  have hb : anyD [.list (F.map fun m => PyData.bool (geT s m))] = some (.dat (.bool (F.any fun m => geT s m))) := by
    unfold anyD
    simp only []
    rw [bools_map (fun m : St => geT s m)]
    simp only [Option.map_some, List.any_map]
    rfl
  have hf : (F.filterMap fun m => some (PyData.bool (geT s m))) = F.map fun m => PyData.bool (geT s m) := by rw [List.filterMap_eq_map']
  unfold p_is_met b_is_met
  rcases hx with rfl | rfl | rfl
  · have h2 := lc_pure encSt (fun m => some (.bool (geT s m))) F ht hz
    rw [hf] at h2
    simp [sizeLine_eq, startE, argA, bxIx, back, newC, notBor, bxAt, restE, noBx, lstB, lstAt, isNoD, h2, hb]
  · have h2 := lc_pure encSt (fun m => some (.bool (geT s m))) F ht hz
    rw [hf] at h2
    simp [sizeLine_eq, startE, argA, bxIx, back, newC, notBor, bxAt, restE, noBx, lstB, lstAt, isNoD, h2, hb]
  · have h2 := lcS_pure (i := 0) encSt (fun m => some (.bool (geT s m))) F (by decide) rfl ht hz
    rw [hf] at h2
    simp [sizeLine_eq, startE, argA, bxIx, back, newC, notBor, bxAt, restE, noBx, lstB, lstAt, isNoD, h2, hb]
theorem filter_ge (F : List St) (s : St) : (F.filterMap fun o => if geT o s = true then none else some (encSt o)) = (F.filter fun o => !geT o s).map encSt := by
  induction F with
  | nil => rfl
  | cons o r ih =>
    rw [List.filterMap_cons, List.filter_cons]
    cases geT o s <;> simp [ih]
theorem least_step {x : A} {F : List St} {s : St} (hs : (keyT s).Nodup) (hl : s.length < 64) (hF : ∀ m ∈ F, (keyT m).Nodup ∧ m.length < 64) (hz : F.length ≤ 50000) (j : Option D) :
    L_least_of_2 [some x, some (.box true (.lst (F.map encSt))), some (.dat (encSt s)), sD j] = some (.nx, [some x, some (.box true (.lst ((stepL F s).map encSt))), some (.dat (encSt s)), sD j]) := by
  have h1 := is_met_ok (x := .box false (.lst (F.map encSt))) (.inr (.inr rfl)) hs (fun m hm => (hF m hm).2) (by omega)
  have h2 := lcS_pure (i := 1) (g := gnm 3) (t := T_least_of_1) (m := M_least_of_1) (vs := [3]) (ρ := [some x, some (.box true (.lst (F.map encSt))), some (.dat (encSt s)), sD j]) encSt (fun o => if geT o s = true then none else some (encSt o)) F (by decide) rfl (fun o ho => by
    have h3 := is_above_ok (one := o) (other := s) (hF o ho).1 hl
    refine ⟨[some x, some (.box true (.lst (F.map encSt))), some (.dat (encSt s)), some (.dat (encSt o))], !geT o s, ?_, ?_, ?_, ?_⟩
    · cases j <;> simp [sizeLine_eq, startE, argA, bxIx, back, newC, notBor, bxAt, restE, noBx, lstB, lstAt, isNoD, sD]
    · cases j <;> simp [sizeLine_eq, startE, argA, bxIx, back, newC, notBor, bxAt, restE, noBx, lstB, lstAt, isNoD, sD]
    · unfold T_least_of_1
      simp [sizeLine_eq, startE, argA, bxIx, back, newC, notBor, bxAt, restE, noBx, lstB, lstAt, isNoD, h3]
    · cases hg : geT o s with
      | true => simp
      | false => simp [M_least_of_1, sizeLine_eq, startE, argA, bxIx, back, newC, notBor, bxAt, restE, noBx, lstB, lstAt, isNoD]) (by rw [sizeLine_eq]; omega)
  have hf := filter_ge F s
  rw [hf] at h2
  have hadd : addD (.list ((F.filter fun o => !geT o s).map encSt)) (.list [encSt s]) = some (.new (.lst ((F.filter fun o => !geT o s).map encSt ++ [encSt s]))) := by
    unfold addD
    simp only []
    rw [if_pos]
    rw [sizeLine_eq, List.length_map, List.length_singleton]
    have := List.length_filter_le (fun o => !geT o s) F
    omega
  unfold L_least_of_2 stepL
  cases hm : F.any (fun m => geT s m) with
  | true =>
    rw [hm] at h1
    cases j <;> simp [sizeLine_eq, startE, argA, bxIx, back, newC, notBor, bxAt, restE, noBx, lstB, lstAt, isNoD, h1, sD]
  | false =>
    rw [hm] at h1
    cases j <;> (simp [sizeLine_eq, startE, argA, bxIx, back, newC, notBor, bxAt, restE, noBx, lstB, lstAt, isNoD, sD] at h2 ⊢; simp [sizeLine_eq, startE, argA, bxIx, back, newC, notBor, bxAt, restE, noBx, lstB, lstAt, isNoD, h1, h2, hadd, sD])
theorem least_run {x : A} {os K : List Str} (hK : K.length < 60) : ∀ (ys F : List St) (j : Option D × Option D), (∀ s ∈ ys, Cs os K s) → (∀ m ∈ F, Cs os K m) → F.length + ys.length ≤ 50000 →
    ∃ j' : Option D × Option D, mforI (gnm 2) L_least_of_2 (ys.map encSt) [some x, some (.box true (.lst (F.map encSt))), sD j.1, sD j.2] = some (.nx, [some x, some (.box true (.lst ((ys.foldl stepL F).map encSt))), sD j'.1, sD j'.2])
  | [], F, j, _, _, _ => ⟨j, rfl⟩
  | s :: r, F, j, h, hF, hl => by
    rw [List.length_cons] at hl
    have hs := h s List.mem_cons_self
    have hsl := hs.len
    have h1 := least_step (x := x) (F := F) (s := s) hs.nd (by omega) (fun m hm => ⟨(hF m hm).nd, by have := (hF m hm).len; omega⟩) (by omega) j.2
    have hF' : ∀ m ∈ stepL F s, Cs os K m := fun m hm => by
      unfold stepL at hm
      split at hm
      · exact hF m hm
      · rcases List.mem_append.mp hm with hm | hm
        · exact hF m (List.mem_filter.mp hm).1
        · rw [List.mem_singleton.mp hm]; exact hs
    have h3 := stepL_len F s
    obtain ⟨j', h2⟩ := least_run hK r (stepL F s) (some (encSt s), j.2) (fun y hy => h y (List.mem_cons_of_mem _ hy)) hF' (by omega)
    refine ⟨j', ?_⟩
    rw [List.map_cons, List.foldl_cons]
    unfold mforI
    have hg : gnm 2 (encSt s) [some x, some (.box true (.lst (F.map encSt))), sD j.1, sD j.2] = some [some x, some (.box true (.lst (F.map encSt))), some (.dat (encSt s)), sD j.2] := by
      obtain ⟨a, b⟩ := j
      cases a <;> simp [sizeLine_eq, startE, argA, bxIx, back, newC, notBor, bxAt, restE, noBx, lstB, lstAt, isNoD, sD]
    rw [hg, Option.bind_some, h1, Option.bind_some]
    exact h2
theorem short_or {os K : List Str} {xs M : List St} (h : ∀ x ∈ xs, Cs os K x) (l : Least xs M) : M.length ≤ 1 ∨ [] ∉ M := by
  by_cases hm : [] ∈ M
  · left
    have all : ∀ m ∈ M, m = [] := fun m hmm => l.anti m hmm [] hm rfl
    match M, l.nd, all with
    | [], _, _ => exact Nat.zero_le _
    | [_], _, _ => exact Nat.le_refl _
    | a :: b :: r, nd, all =>
      have e1 := all a List.mem_cons_self
      have e2 := all b (List.mem_cons_of_mem _ List.mem_cons_self)
      subst e1 e2
      exact absurd List.mem_cons_self (List.nodup_cons.mp nd).1
  · exact .inr hm
theorem least_of_ok {x : A} {xs : List St} {os K : List Str} (hx : IsS x (xs.map encSt)) (h : ∀ s ∈ xs, Cs os K s) (hK : K.length < 60) (hl : xs.length ≤ 50000) : p_least_of [x] = some (.dat (.tuple ((leastS xs).map encSt)), [x]) := by
  have ht : (xs.map encSt).all tupK = true := by
    rw [List.all_map, List.all_eq_true]
    exact fun s _ => tupK_St s
  have hd : (dedD (xs.map encSt)).mergeSort leLen = (orderS xs).map encSt := by
    rw [dedD_map encSt_inj, sortLen_map]; rfl
  have hs : msrl 2 (miseqC (mvar 0)) [some x, some (.box true (.lst [])), none, none] = some (.new (.lst ((orderS xs).map encSt)), [some x, some (.box true (.lst [])), none, none]) := by
    rw [← hd]
    rcases hx with rfl | rfl | rfl
    · exact srl_items rfl (by simp) (by rw [List.length_map]; omega) ht
    · exact srl_items rfl (by simp) (by rw [List.length_map]; omega) ht
    · exact srl_slot (j := 0) rfl rfl (by simp) (by rw [List.length_map]; omega) ht
  have ho := order_len xs
  obtain ⟨j, h1⟩ := least_run (x := x) hK (orderS xs) [] (none, none) (fun s hs => h s (mem_orderS.mp hs)) (fun _ m => nomatch m) (by simp only [List.length_nil]; omega)
  have h2 := sortSt_sorted (short_or h (order_least h))
  have e : leastS xs = sortSt ((orderS xs).foldl stepL []) := rfl
  unfold p_least_of b_least_of
  rw [e]
  simp only [sD, Option.map_none, List.map_nil] at h1
  rcases hx with rfl | rfl | rfl <;> simp [sizeLine_eq, startE, argA, bxIx, back, newC, notBor, bxAt, restE, noBx, lstB, lstAt, isNoD, hs, h1, h2]
def tupS (lot : List St) : D := .tuple (lot.map encSt)
end K21

namespace K21
open PySem PySem.Spec PyProof.Rows L3
/-! sums and joins of lots -/
def pairsL (f : St → St → St) (A B : List St) : List St := A.flatMap fun a => B.map fun b => f a b
noncomputable def combL (f : St → St → St) (A B : List St) : List St := leastS (pairsL f A B)
abbrev addF (os : List Str) (a b : St) : St := sumS os [a, b]
abbrev joinF (a b : St) : St := joinS [a, b]
noncomputable def lotsS (f : St → St → St) (lots : List (List St)) : List St := lots.foldl (combL f) [[]]
theorem mem_pairs {f : St → St → St} {A B : List St} {x : St} : x ∈ pairsL f A B ↔ ∃ a ∈ A, ∃ b ∈ B, x = f a b := by
  unfold pairsL
  rw [List.mem_flatMap]
  constructor
  · rintro ⟨a, ha, h⟩
    obtain ⟨b, hb, rfl⟩ := List.mem_map.mp h
    exact ⟨a, ha, b, hb, rfl⟩
  · rintro ⟨a, ha, b, hb, rfl⟩
    exact ⟨a, ha, List.mem_map_of_mem hb⟩
theorem pairs_len {f : St → St → St} (A B : List St) : (pairsL f A B).length = A.length * B.length := by
  unfold pairsL
  induction A with
  | nil => simp
  | cons a A ih => rw [List.flatMap_cons, List.length_append, List.length_map, ih, List.length_cons, Nat.add_mul, Nat.one_mul]; omega
theorem comb_len {f : St → St → St} (A B : List St) : (combL f A B).length ≤ A.length * B.length := by
  rw [← pairs_len (f := f)]; exact leastS_len _
/-- the lots that may come, so many words in all -/
structure LtOk (os K : List Str) (L : Nat) (found : List St) (r : List (List St)) : Prop where
  fd : ∀ s ∈ found, Cs os K s
  lt : ∀ lot ∈ r, lot.length ≤ L ∧ ∀ s ∈ lot, Cs os K s
  sz : found.length * L ^ r.length ≤ 40000
theorem pow_one_le {L n : Nat} (h : 1 ≤ L) : 1 ≤ L ^ n := Nat.pow_pos h
theorem LtOk.now {os K : List Str} {L : Nat} {found lot : List St} {r : List (List St)} (hL : 1 ≤ L) (h : LtOk os K L found (lot :: r)) : found.length * lot.length ≤ 40000 := by
  have h1 := (h.lt lot List.mem_cons_self).1
  have h2 := h.sz
  rw [List.length_cons, Nat.pow_succ] at h2
  have h3 : found.length * lot.length ≤ found.length * (L ^ r.length * L) := Nat.mul_le_mul_left _ (Nat.le_trans h1 (Nat.le_mul_of_pos_left _ (pow_one_le hL)))
  omega
theorem LtOk.next {os K : List Str} {L : Nat} {f : St → St → St} (hf : ∀ a b, Cs os K a → Cs os K b → Cs os K (f a b)) {found lot : List St} {r : List (List St)} (h : LtOk os K L found (lot :: r)) : LtOk os K L (combL f found lot) r := by
  have hp : ∀ x ∈ pairsL f found lot, Cs os K x := fun x hx => by
    obtain ⟨a, ha, b, hb, rfl⟩ := mem_pairs.mp hx
    exact hf a b (h.fd a ha) ((h.lt lot List.mem_cons_self).2 b hb)
  refine ⟨leastS_cn hp, fun l m => h.lt l (List.mem_cons_of_mem _ m), ?_⟩
  have h1 := comb_len (f := f) found lot
  have h2 := h.sz
  have h3 := (h.lt lot List.mem_cons_self).1
  rw [List.length_cons, Nat.pow_succ] at h2
  calc (combL f found lot).length * L ^ r.length ≤ (found.length * L) * L ^ r.length := Nat.mul_le_mul_right _ (Nat.le_trans h1 (Nat.mul_le_mul_left _ h3))
    _ = found.length * (L ^ r.length * L) := by rw [Nat.mul_assoc, Nat.mul_comm L]
    _ ≤ 40000 := h2
theorem pairs_sum (A B : List St) : (A.map fun _ => B.length).sum = A.length * B.length := by
  induction A with
  | nil => simp
  | cons a A ih => rw [List.map_cons, List.sum_cons, ih, List.length_cons, Nat.add_mul, Nat.one_mul]; omega
theorem sums_step {dt : D} {x : A} {os K : List Str} {L : Nat} (hK : K.length < 30) (hL : 1 ≤ L) {found lot : List St} {r : List (List St)} (h : LtOk os K L found (lot :: r)) (j5 j6 : Option D) :
    L_sums_of_2 [some (.dat dt), some x, some (.dat (.tuple (os.map PyData.str))), some (.dat (tupS found)), some (.dat (tupS lot)), sD j5, sD j6] = some (.nx, [some (.dat dt), some x, some (.dat (.tuple (os.map PyData.str))), some (.dat (tupS (combL (addF os) found lot))), some (.dat (tupS lot)), sD j5, sD j6]) := by
  have hn := h.now hL
  have hl := (h.lt lot List.mem_cons_self).2
  have h1 := lc2_pure (mi := miseqC (mvar 3)) (mi1 := miseqC (mvar 4)) (g := gnm 5) (g1 := gnm 6) (t := myes) (t1 := myes) (m := M_sums_of_1) (vs := [5, 6]) (vs1 := [6]) (ρ := [some (.dat dt), some x, some (.dat (.tuple (os.map PyData.str))), some (.dat (tupS found)), some (.dat (tupS lot)), sD j5, sD j6])
    encSt encSt found (fun _ => lot) (fun a b => some (encSt (sumS os [a, b]))) (by decide) (by simp [sizeLine_eq, startE, argA, bxIx, back, newC, notBor, bxAt, restE, noBx, lstB, lstAt, isNoD, tupS]) (by cases j5 <;> cases j6 <;> rfl) (fun a ha => by
      refine ⟨[some (.dat dt), some x, some (.dat (.tuple (os.map PyData.str))), some (.dat (tupS found)), some (.dat (tupS lot)), some (.dat (encSt a)), none], ?_, ?_, rfl, ?_, fun b hb => ?_⟩
      · cases j5 <;> cases j6 <;> simp [sizeLine_eq, startE, argA, bxIx, back, newC, notBor, bxAt, restE, noBx, lstB, lstAt, isNoD, sD]
      · cases j5 <;> cases j6 <;> simp [sizeLine_eq, startE, argA, bxIx, back, newC, notBor, bxAt, restE, noBx, lstB, lstAt, isNoD, sD]
      · simp [sizeLine_eq, startE, argA, bxIx, back, newC, notBor, bxAt, restE, noBx, lstB, lstAt, isNoD, tupS]
      · have la := (h.fd a ha).len
        have lb := (hl b hb).len
        have h2 := added_by_ok os (x := .dat (.tuple ([a, b].map encSt))) (.inr (.inl rfl)) (by show a.length + (b.length + 0) < 64; omega)
        refine ⟨[some (.dat dt), some x, some (.dat (.tuple (os.map PyData.str))), some (.dat (tupS found)), some (.dat (tupS lot)), some (.dat (encSt a)), some (.dat (encSt b))], true, ?_, ?_, rfl, rfl, ?_⟩
        · simp [sizeLine_eq, startE, argA, bxIx, back, newC, notBor, bxAt, restE, noBx, lstB, lstAt, isNoD]
        · simp [sizeLine_eq, startE, argA, bxIx, back, newC, notBor, bxAt, restE, noBx, lstB, lstAt, isNoD]
        · unfold M_sums_of_1
          simp at h2
          simp [sizeLine_eq, startE, argA, bxIx, back, newC, notBor, bxAt, restE, noBx, lstB, lstAt, isNoD, h2, sumS]) (by rw [pairs_sum, sizeLine_eq]; omega)
  have e : (found.flatMap fun a => lot.filterMap fun b => some (encSt (sumS os [a, b]))) = (pairsL (addF os) found lot).map encSt := by
    unfold pairsL
    rw [List.map_flatMap]
    congr 1
    funext a
    rw [List.filterMap_eq_map', List.map_map]
    rfl
  rw [e] at h1
  have hp : ∀ x ∈ pairsL (addF os) found lot, Cs os K x := fun x hx => by
    obtain ⟨a, ha, b, hb, rfl⟩ := mem_pairs.mp hx
    exact sum2_cs (h.fd a ha) (hl b hb)
  have h3 := least_of_ok (x := .dat (.list ((pairsL (addF os) found lot).map encSt))) (.inl rfl) hp (by omega) (by rw [pairs_len]; omega)
  unfold L_sums_of_2
  simp only [tupS] at h1
  simp [sizeLine_eq, startE, argA, bxIx, back, newC, notBor, bxAt, restE, noBx, lstB, lstAt, isNoD, h1, h3, tupS, combL]
theorem sums_of_ok {dt : D} {os K : List Str} (O : OnceOk dt os K) {x : A} {lots : List (List St)} (hx : x = .dat (.list (lots.map tupS)) ∨ x = .dat (.tuple (lots.map tupS)) ∨ x = .box false (.lst (lots.map tupS))) (hK : K.length < 30) {L : Nat} (hL : 1 ≤ L) (hl : ∀ lot ∈ lots, lot.length ≤ L ∧ ∀ s ∈ lot, Cs os K s) (hz : L ^ lots.length ≤ 40000) :
    p_sums_of [.dat dt, x] = some (.dat (tupS (lotsS (addF os) lots)), [.dat dt, x]) := by
  have h0 := O.hp
  have i0 : LtOk os K L [[]] lots := ⟨fun s m => by rw [List.mem_singleton.mp m]; exact ⟨0, by decide, nil_cn (by decide)⟩, hl, by simpa using hz⟩
  have step : ∀ (s : List St) (y : List St) (r : List (List St)) (j : Option D × Option D × Option D), LtOk os K L s (y :: r) → ∃ ρ1 j', gnm 4 (tupS y) ((fun (f : List St) (j : Option D × Option D × Option D) => [some (.dat dt), some x, some (.dat (.tuple (os.map PyData.str))), some (.dat (tupS f)), sD j.1, sD j.2.1, sD j.2.2]) s j) = some ρ1 ∧
      L_sums_of_2 ρ1 = some (.nx, (fun (f : List St) (j : Option D × Option D × Option D) => [some (.dat dt), some x, some (.dat (.tuple (os.map PyData.str))), some (.dat (tupS f)), sD j.1, sD j.2.1, sD j.2.2]) (combL (addF os) s y) j') ∧ LtOk os K L (combL (addF os) s y) r := by
    intro s y r j h
    obtain ⟨j1, j2, j3⟩ := j
    refine ⟨_, (some (tupS y), j2, j3), ?_, sums_step hK hL h j2 j3, h.next fun a b => sum2_cs⟩
    cases j1 <;> simp [sizeLine_eq, startE, argA, bxIx, back, newC, notBor, bxAt, restE, noBx, lstB, lstAt, isNoD, sD]
  unfold p_sums_of b_sums_of
  rcases hx with rfl | rfl | rfl
  · obtain ⟨j, h1, _⟩ := forI_fold _ _ _ step lots [[]] (none, none, none) i0
    simp [sizeLine_eq, startE, argA, bxIx, back, newC, notBor, bxAt, restE, noBx, lstB, lstAt, isNoD, sD, encSt, tupS] at h1
    simp [sizeLine_eq, startE, argA, bxIx, back, newC, notBor, bxAt, restE, noBx, lstB, lstAt, isNoD, h0, h1, lotsS, sD]
    rfl
  · obtain ⟨j, h1, _⟩ := forI_fold _ _ _ step lots [[]] (none, none, none) i0
    simp [sizeLine_eq, startE, argA, bxIx, back, newC, notBor, bxAt, restE, noBx, lstB, lstAt, isNoD, sD, encSt, tupS] at h1
    simp [sizeLine_eq, startE, argA, bxIx, back, newC, notBor, bxAt, restE, noBx, lstB, lstAt, isNoD, h0, h1, lotsS, sD]
    rfl
  · obtain ⟨j, h1, _⟩ := forS_fold (i := 1) _ _ _ (fun _ _ => rfl) step [[]] (none, none, none) i0
    simp [sizeLine_eq, startE, argA, bxIx, back, newC, notBor, bxAt, restE, noBx, lstB, lstAt, isNoD, sD, encSt, tupS] at h1
    simp [sizeLine_eq, startE, argA, bxIx, back, newC, notBor, bxAt, restE, noBx, lstB, lstAt, isNoD, h0, h1, lotsS, sD]
    rfl
theorem joins_step {x : A} {os K : List Str} {L : Nat} (hK : K.length < 30) (hL : 1 ≤ L) {found lot : List St} {r : List (List St)} (h : LtOk os K L found (lot :: r)) (j5 j6 : Option D) :
    L_joins_of_2 [some x, some (.dat (tupS found)), some (.dat (tupS lot)), sD j5, sD j6] = some (.nx, [some x, some (.dat (tupS (combL (joinF) found lot))), some (.dat (tupS lot)), sD j5, sD j6]) := by
  have hn := h.now hL
  have hl := (h.lt lot List.mem_cons_self).2
  have h1 := lc2_pure (mi := miseqC (mvar 1)) (mi1 := miseqC (mvar 2)) (g := gnm 3) (g1 := gnm 4) (t := myes) (t1 := myes) (m := M_joins_of_1) (vs := [3, 4]) (vs1 := [4]) (ρ := [some x, some (.dat (tupS found)), some (.dat (tupS lot)), sD j5, sD j6])
    encSt encSt found (fun _ => lot) (fun a b => some (encSt (joinS [a, b]))) (by decide) (by simp [sizeLine_eq, startE, argA, bxIx, back, newC, notBor, bxAt, restE, noBx, lstB, lstAt, isNoD, tupS]) (by cases j5 <;> cases j6 <;> rfl) (fun a ha => by
      refine ⟨[some x, some (.dat (tupS found)), some (.dat (tupS lot)), some (.dat (encSt a)), none], ?_, ?_, rfl, ?_, fun b hb => ?_⟩
      · cases j5 <;> cases j6 <;> simp [sizeLine_eq, startE, argA, bxIx, back, newC, notBor, bxAt, restE, noBx, lstB, lstAt, isNoD, sD]
      · cases j5 <;> cases j6 <;> simp [sizeLine_eq, startE, argA, bxIx, back, newC, notBor, bxAt, restE, noBx, lstB, lstAt, isNoD, sD]
      · simp [sizeLine_eq, startE, argA, bxIx, back, newC, notBor, bxAt, restE, noBx, lstB, lstAt, isNoD, tupS]
      · have la := (h.fd a ha).len
        have lb := (hl b hb).len
        have h2 := joined_ok (x := .dat (.tuple ([a, b].map encSt))) (.inr (.inl rfl)) (by show a.length + (b.length + 0) < 64; omega)
        refine ⟨[some x, some (.dat (tupS found)), some (.dat (tupS lot)), some (.dat (encSt a)), some (.dat (encSt b))], true, ?_, ?_, rfl, rfl, ?_⟩
        · simp [sizeLine_eq, startE, argA, bxIx, back, newC, notBor, bxAt, restE, noBx, lstB, lstAt, isNoD]
        · simp [sizeLine_eq, startE, argA, bxIx, back, newC, notBor, bxAt, restE, noBx, lstB, lstAt, isNoD]
        · unfold M_joins_of_1
          simp at h2
          simp [sizeLine_eq, startE, argA, bxIx, back, newC, notBor, bxAt, restE, noBx, lstB, lstAt, isNoD, h2, joinS]) (by rw [pairs_sum, sizeLine_eq]; omega)
  have e : (found.flatMap fun a => lot.filterMap fun b => some (encSt (joinS [a, b]))) = (pairsL (joinF) found lot).map encSt := by
    unfold pairsL
    rw [List.map_flatMap]
    congr 1
    funext a
    rw [List.filterMap_eq_map', List.map_map]
    rfl
  rw [e] at h1
  have hp : ∀ x ∈ pairsL (joinF) found lot, Cs os K x := fun x hx => by
    obtain ⟨a, ha, b, hb, rfl⟩ := mem_pairs.mp hx
    exact join2_cs (h.fd a ha) (hl b hb)
  have h3 := least_of_ok (x := .dat (.list ((pairsL (joinF) found lot).map encSt))) (.inl rfl) hp (by omega) (by rw [pairs_len]; omega)
  unfold L_joins_of_2
  simp only [tupS] at h1
  simp [sizeLine_eq, startE, argA, bxIx, back, newC, notBor, bxAt, restE, noBx, lstB, lstAt, isNoD, h1, h3, tupS, combL]
theorem joins_of_ok {os K : List Str} {x : A} {lots : List (List St)} (hx : x = .dat (.list (lots.map tupS)) ∨ x = .dat (.tuple (lots.map tupS)) ∨ x = .box false (.lst (lots.map tupS))) (hK : K.length < 30) {L : Nat} (hL : 1 ≤ L) (hl : ∀ lot ∈ lots, lot.length ≤ L ∧ ∀ s ∈ lot, Cs os K s) (hz : L ^ lots.length ≤ 40000) :
    p_joins_of [x] = some (.dat (tupS (lotsS (joinF) lots)), [x]) := by
  have i0 : LtOk os K L [[]] lots := ⟨fun s m => by rw [List.mem_singleton.mp m]; exact ⟨0, by decide, nil_cn (by decide)⟩, hl, by simpa using hz⟩
  have step : ∀ (s : List St) (y : List St) (r : List (List St)) (j : Option D × Option D × Option D), LtOk os K L s (y :: r) → ∃ ρ1 j', gnm 2 (tupS y) ((fun (f : List St) (j : Option D × Option D × Option D) => [some x, some (.dat (tupS f)), sD j.1, sD j.2.1, sD j.2.2]) s j) = some ρ1 ∧
      L_joins_of_2 ρ1 = some (.nx, (fun (f : List St) (j : Option D × Option D × Option D) => [some x, some (.dat (tupS f)), sD j.1, sD j.2.1, sD j.2.2]) (combL (joinF) s y) j') ∧ LtOk os K L (combL (joinF) s y) r := by
    intro s y r j h
    obtain ⟨j1, j2, j3⟩ := j
    refine ⟨_, (some (tupS y), j2, j3), ?_, joins_step hK hL h j2 j3, h.next fun a b => join2_cs⟩
    cases j1 <;> simp [sizeLine_eq, startE, argA, bxIx, back, newC, notBor, bxAt, restE, noBx, lstB, lstAt, isNoD, sD]
  unfold p_joins_of b_joins_of
  rcases hx with rfl | rfl | rfl
  · obtain ⟨j, h1, _⟩ := forI_fold _ _ _ step lots [[]] (none, none, none) i0
    simp [sizeLine_eq, startE, argA, bxIx, back, newC, notBor, bxAt, restE, noBx, lstB, lstAt, isNoD, sD, encSt, tupS] at h1
    simp [sizeLine_eq, startE, argA, bxIx, back, newC, notBor, bxAt, restE, noBx, lstB, lstAt, isNoD, h1, lotsS, sD]
    rfl
  · obtain ⟨j, h1, _⟩ := forI_fold _ _ _ step lots [[]] (none, none, none) i0
    simp [sizeLine_eq, startE, argA, bxIx, back, newC, notBor, bxAt, restE, noBx, lstB, lstAt, isNoD, sD, encSt, tupS] at h1
    simp [sizeLine_eq, startE, argA, bxIx, back, newC, notBor, bxAt, restE, noBx, lstB, lstAt, isNoD, h1, lotsS, sD]
    rfl
  · obtain ⟨j, h1, _⟩ := forS_fold (i := 0) _ _ _ (fun _ _ => rfl) step [[]] (none, none, none) i0
    simp [sizeLine_eq, startE, argA, bxIx, back, newC, notBor, bxAt, restE, noBx, lstB, lstAt, isNoD, sD, encSt, tupS] at h1
    simp [sizeLine_eq, startE, argA, bxIx, back, newC, notBor, bxAt, restE, noBx, lstB, lstAt, isNoD, h1, lotsS, sD]
    rfl
end K21

namespace K21
open PySem PySem.Spec PyProof.Rows L3
/-! lots that are above one another -/
def Up (A B : List St) : Prop := ∀ x ∈ A, ∃ y ∈ B, geT x y = true
def AllC (os K : List Str) (A : List St) : Prop := ∀ x ∈ A, Cs os K x
structure Mono (os K : List Str) (f : St → St → St) : Prop where
  cs : ∀ a b, Cs os K a → Cs os K b → Cs os K (f a b)
  mono : ∀ a b a' b', Cs os K a → Cs os K b → Cs os K a' → Cs os K b' → geT a a' = true → geT b b' = true → geT (f a b) (f a' b') = true
  unit : ∀ a, Cs os K a → f [] a = a
  comm : ∀ a b, Cs os K a → Cs os K b → f a b = f b a
  assoc : ∀ a b c, Cs os K a → Cs os K b → Cs os K c → f (f a b) c = f a (f b c)
section
variable {os K : List Str} {A A' B B' C X Y : List St} {f : St → St → St} {a b c : St}
theorem nil_cs : Cs os K [] := ⟨0, by decide, nil_cn (by decide)⟩
theorem plusC_mono {o : Bool} {x y x' y' : Int} (h1 : x' ≤ x) (h2 : y' ≤ y) : plusC o x' y' ≤ plusC o x y := by unfold plusC; split <;> omega
theorem plusC_comm (o : Bool) (x y : Int) : plusC o x y = plusC o y x := by unfold plusC; split <;> omega
theorem plusC_assoc (o : Bool) (x y z : Int) : plusC o (plusC o x y) z = plusC o x (plusC o y z) := by unfold plusC; split <;> omega
theorem add_mono : Mono os K (addF os) where
  cs := fun a b => sum2_cs
  mono := fun a b a' b' ha hb ha' hb' h1 h2 => (geS_iff (sum2_cs ha hb) (sum2_cs ha' hb')).mpr fun k => by
    rw [sum2_cnt ha hb, sum2_cnt ha' hb']
    exact plusC_mono ((geS_iff ha ha').mp h1 k) ((geS_iff hb hb').mp h2 k)
  unit := fun a ha => (sum2_cs nil_cs ha).ext ha fun k => by
    rw [sum2_cnt nil_cs ha, cnt_nil]; exact plusC_zero (ha.nn k)
  comm := fun a b ha hb => (sum2_cs ha hb).ext (sum2_cs hb ha) fun k => by
    rw [sum2_cnt ha hb, sum2_cnt hb ha, plusC_comm]
  assoc := fun a b c ha hb hc => (sum2_cs (sum2_cs ha hb) hc).ext (sum2_cs ha (sum2_cs hb hc)) fun k => by
    rw [sum2_cnt (sum2_cs ha hb) hc, sum2_cnt ha hb, sum2_cnt ha (sum2_cs hb hc), sum2_cnt hb hc, plusC_assoc]
theorem join_mono : Mono os K joinF where
  cs := fun a b => join2_cs
  mono := fun a b a' b' ha hb ha' hb' h1 h2 => (geS_iff (join2_cs ha hb) (join2_cs ha' hb')).mpr fun k => by
    rw [join2_cnt ha hb, join2_cnt ha' hb']
    have := (geS_iff ha ha').mp h1 k
    have := (geS_iff hb hb').mp h2 k
    omega
  unit := fun a ha => (join2_cs nil_cs ha).ext ha fun k => by
    rw [join2_cnt nil_cs ha, cnt_nil]
    have := ha.nn k
    omega
  comm := fun a b ha hb => (join2_cs ha hb).ext (join2_cs hb ha) fun k => by
    rw [join2_cnt ha hb, join2_cnt hb ha]; omega
  assoc := fun a b c ha hb hc => (join2_cs (join2_cs ha hb) hc).ext (join2_cs ha (join2_cs hb hc)) fun k => by
    rw [join2_cnt (join2_cs ha hb) hc, join2_cnt ha hb, join2_cnt ha (join2_cs hb hc), join2_cnt hb hc]; omega
theorem Up.refl (h : AllC os K A) : Up A A := fun x m => ⟨x, m, geS_refl (h x m)⟩
theorem Up.trans (hA : AllC os K A) (hB : AllC os K B) (hC : AllC os K C) (h1 : Up A B) (h2 : Up B C) : Up A C := fun x m => by
  obtain ⟨y, y1, y2⟩ := h1 x m
  obtain ⟨z, z1, z2⟩ := h2 y y1
  exact ⟨z, z1, geS_trans (hA x m) (hB y y1) (hC z z1) y2 z2⟩
theorem least_up (h : AllC os K A) : Up A (leastS A) := (leastS_least h).cov
theorem least_dn (h : AllC os K A) : Up (leastS A) A := fun x m => ⟨x, (leastS_least h).sub x m, geS_refl (leastS_cn h x m)⟩
theorem pairs_all (M : Mono os K f) (hA : AllC os K A) (hB : AllC os K B) : AllC os K (pairsL f A B) := fun x m => by
  obtain ⟨a, ha, b, hb, rfl⟩ := mem_pairs.mp m
  exact M.cs a b (hA a ha) (hB b hb)
theorem pairs_up (M : Mono os K f) (hA : AllC os K A) (hB : AllC os K B) (hA' : AllC os K A') (hB' : AllC os K B') (h1 : Up A A') (h2 : Up B B') : Up (pairsL f A B) (pairsL f A' B') := fun x m => by
  obtain ⟨a, ha, b, hb, rfl⟩ := mem_pairs.mp m
  obtain ⟨a', ha', ga⟩ := h1 a ha
  obtain ⟨b', hb', gb⟩ := h2 b hb
  exact ⟨f a' b', mem_pairs.mpr ⟨a', ha', b', hb', rfl⟩, M.mono _ _ _ _ (hA a ha) (hB b hb) (hA' a' ha') (hB' b' hb') ga gb⟩
theorem comb_all (M : Mono os K f) (hA : AllC os K A) (hB : AllC os K B) : AllC os K (combL f A B) := leastS_cn (pairs_all M hA hB)
/-- all choices put together -/
def foldP (f : St → St → St) (X : List St) (lots : List (List St)) : List St := lots.foldl (pairsL f) X
theorem foldP_all (M : Mono os K f) : ∀ (lots : List (List St)) (X : List St), AllC os K X → (∀ lot ∈ lots, AllC os K lot) → AllC os K (foldP f X lots)
  | [], _, h, _ => h
  | l :: r, X, h, hl => foldP_all M r _ (pairs_all M h (hl l List.mem_cons_self)) fun y m => hl y (List.mem_cons_of_mem _ m)
theorem foldC_all (M : Mono os K f) : ∀ (lots : List (List St)) (X : List St), AllC os K X → (∀ lot ∈ lots, AllC os K lot) → AllC os K (lots.foldl (combL f) X)
  | [], _, h, _ => h
  | l :: r, X, h, hl => foldC_all M r _ (comb_all M h (hl l List.mem_cons_self)) fun y m => hl y (List.mem_cons_of_mem _ m)
theorem fold_up (M : Mono os K f) : ∀ (lots : List (List St)) (X Y : List St), AllC os K X → AllC os K Y → (∀ lot ∈ lots, AllC os K lot) → Up X Y → Up Y X → Up (lots.foldl (combL f) X) (foldP f Y lots) ∧ Up (foldP f Y lots) (lots.foldl (combL f) X)
  | [], _, _, _, _, _, h1, h2 => ⟨h1, h2⟩
  | l :: r, X, Y, hX, hY, hl, h1, h2 => by
    have hc := hl l List.mem_cons_self
    have p1 := pairs_all M hX hc
    have p2 := pairs_all M hY hc
    have u := Up.refl hc
    exact fold_up M r _ _ (comb_all M hX hc) p2 (fun y m => hl y (List.mem_cons_of_mem _ m)) ((least_dn p1).trans (comb_all M hX hc) p1 p2 (pairs_up M hX hc hY hc h1 u)) ((pairs_up M hY hc hX hc h2 u).trans p2 p1 (comb_all M hX hc) (least_up p1))
theorem one_all : AllC os K [[]] := fun x m => by rw [List.mem_singleton.mp m]; exact nil_cs
theorem lots_all (M : Mono os K f) {lots : List (List St)} (hl : ∀ lot ∈ lots, AllC os K lot) : AllC os K (lotsS f lots) := foldC_all M lots _ one_all hl
theorem lots_up (M : Mono os K f) {lots : List (List St)} (hl : ∀ lot ∈ lots, AllC os K lot) : Up (lotsS f lots) (foldP f [[]] lots) ∧ Up (foldP f [[]] lots) (lotsS f lots) := fold_up M lots _ _ one_all one_all hl (Up.refl (os := os) (K := K) one_all) (Up.refl (os := os) (K := K) one_all)
theorem leastS_one (a : St) (ha : Cs os K a) : leastS [a] = [a] := by
  have h : AllC os K [a] := fun x m => by rw [List.mem_singleton.mp m]; exact ha
  rw [leastS_of (ys := [a]) (M' := [a]) h h ⟨fun _ m => m, fun x hx y hy _ => by rw [List.mem_singleton.mp hx, List.mem_singleton.mp hy], fun x m => ⟨x, m, geS_refl (h x m)⟩, by simp⟩ (Up.refl h) (Up.refl h)]
  exact List.mergeSort_singleton a
/-- of what is its own lot of least ones -/
theorem leastS_self (h : AllC os K A) : leastS (leastS A) = leastS A := leastS_eq (leastS_cn h) h (least_dn h) (least_up h)
/-- lots put together, the last of them told: by any roads that are alike -/
theorem lots_last (M : Mono os K f) (lots : List (List St)) (l : List St) (hl : ∀ lot ∈ lots ++ [l], AllC os K lot) : lotsS f (lots ++ [l]) = leastS (foldP f [[]] (lots ++ [l])) := by
  have h1 : ∀ lot ∈ lots, AllC os K lot := fun x m => hl x (List.mem_append_left _ m)
  have h2 := hl l (List.mem_append_right _ (List.mem_singleton.mpr rfl))
  have u := lots_up M h1
  have a1 := lots_all M h1
  have a2 := foldP_all M lots [[]] one_all h1
  have e1 : lotsS f (lots ++ [l]) = leastS (pairsL f (lotsS f lots) l) := by unfold lotsS; rw [List.foldl_append]; rfl
  have e2 : foldP f [[]] (lots ++ [l]) = pairsL f (foldP f [[]] lots) l := by unfold foldP; rw [List.foldl_append]; rfl
  rw [e1, e2]
  exact leastS_eq (pairs_all M a1 h2) (pairs_all M a2 h2) (pairs_up M a1 h2 a2 h2 u.1 (Up.refl h2)) (pairs_up M a2 h2 a1 h2 u.2 (Up.refl h2))
theorem mem3 {A B C : List St} {x : St} : x ∈ foldP f [[]] [A, B, C] ↔ ∃ a ∈ A, ∃ b ∈ B, ∃ c ∈ C, x = f (f (f [] a) b) c := by
  show x ∈ pairsL f (pairsL f (pairsL f [[]] A) B) C ↔ _
  rw [mem_pairs]
  constructor
  · rintro ⟨y, hy, c, hc, rfl⟩
    obtain ⟨z, hz, b, hb, rfl⟩ := mem_pairs.mp hy
    obtain ⟨w, hw, a, ha, rfl⟩ := mem_pairs.mp hz
    rw [List.mem_singleton.mp hw]
    exact ⟨a, ha, b, hb, c, hc, rfl⟩
  · rintro ⟨a, ha, b, hb, c, hc, rfl⟩
    exact ⟨_, mem_pairs.mpr ⟨_, mem_pairs.mpr ⟨[], List.mem_singleton.mpr rfl, a, ha, rfl⟩, b, hb, rfl⟩, c, hc, rfl⟩
theorem up_of_mem (hB : AllC os K B) (h : ∀ x ∈ A, x ∈ B) : Up A B := fun x m => ⟨x, h x m, geS_refl (hB x (h x m))⟩
theorem sums_rev (M : Mono os K f) (hA : AllC os K A) (hB : AllC os K B) (hC : AllC os K C) : lotsS f [C, B, A] = lotsS f [A, B, C] := by
  have all : ∀ {P Q R : List St}, AllC os K P → AllC os K Q → AllC os K R → ∀ lot ∈ [P, Q, R], AllC os K lot := fun {P Q R} p q r lot m => by
    simp only [List.mem_cons, List.not_mem_nil, or_false] at m
    rcases m with rfl | rfl | rfl <;> assumption
  have e1 := lots_last M [C, B] A (all hC hB hA)
  have e2 := lots_last M [A, B] C (all hA hB hC)
  have key : ∀ {P Q R : List St}, AllC os K P → AllC os K Q → AllC os K R → ∀ x ∈ foldP f [[]] [P, Q, R], x ∈ foldP f [[]] [R, Q, P] := fun {P Q R} hp hq hr x m => by
    obtain ⟨a, ha, b, hb, c, hc, rfl⟩ := mem3.mp m
    refine mem3.mpr ⟨c, hc, b, hb, a, ha, ?_⟩
    rw [M.unit _ (hp a ha), M.unit _ (hr c hc), M.assoc _ _ _ (hp a ha) (hq b hb) (hr c hc), M.comm _ _ (hp a ha) (M.cs _ _ (hq b hb) (hr c hc)), M.comm b c (hq b hb) (hr c hc)]
  show lotsS f ([C, B] ++ [A]) = lotsS f ([A, B] ++ [C])
  rw [e1, e2]
  have p1 := foldP_all M [C, B, A] [[]] one_all (all hC hB hA)
  have p2 := foldP_all M [A, B, C] [[]] one_all (all hA hB hC)
  exact leastS_eq p1 p2 (up_of_mem p2 (key hC hB hA)) (up_of_mem p1 (key hA hB hC))
theorem sums_part (M : Mono os K f) (hA : AllC os K A) (hB : AllC os K B) (hC : AllC os K C) : lotsS f [lotsS f [A, B], C] = lotsS f [A, B, C] := by
  have h2 : ∀ lot ∈ [A, B], AllC os K lot := fun lot m => by
    simp only [List.mem_cons, List.not_mem_nil, or_false] at m
    rcases m with rfl | rfl <;> assumption
  have aS := lots_all M h2
  have u := lots_up M h2
  have aF := foldP_all M [A, B] [[]] one_all h2
  have a1 : AllC os K (pairsL f [[]] (lotsS f [A, B])) := pairs_all M one_all aS
  have e1 : lotsS f [lotsS f [A, B], C] = leastS (pairsL f (leastS (pairsL f [[]] (lotsS f [A, B]))) C) := rfl
  have e2 : lotsS f [A, B, C] = leastS (pairsL f (lotsS f [A, B]) C) := rfl
  rw [e1, e2]
  have ue : ∀ x, x ∈ pairsL f [[]] (lotsS f [A, B]) ↔ x ∈ lotsS f [A, B] := fun x => by
    rw [mem_pairs]
    constructor
    · rintro ⟨y, hy, b, hb, rfl⟩
      rw [List.mem_singleton.mp hy, M.unit _ (aS b hb)]
      exact hb
    · intro h
      exact ⟨[], List.mem_singleton.mpr rfl, x, h, (M.unit _ (aS x h)).symm⟩
  have l1 := leastS_cn a1
  have u1 : Up (leastS (pairsL f [[]] (lotsS f [A, B]))) (lotsS f [A, B]) := (least_dn a1).trans l1 a1 aS (up_of_mem aS fun x m => (ue x).mp m)
  have u2 : Up (lotsS f [A, B]) (leastS (pairsL f [[]] (lotsS f [A, B]))) := (up_of_mem a1 fun x m => (ue x).mpr m).trans aS a1 l1 (least_up a1)
  exact leastS_eq (pairs_all M l1 hC) (pairs_all M aS hC) (pairs_up M l1 hC aS hC u1 (Up.refl hC)) (pairs_up M aS hC l1 hC u2 (Up.refl hC))
/-- a member of the sums is at or above a member of each lot -/
theorem ge_left (M : Mono os K f) (ha : Cs os K a) (hb : Cs os K b) : geT (f a b) a = true := by
  have h := M.mono a b a [] ha hb ha nil_cs (geS_refl ha) rfl
  rw [M.comm a [] ha nil_cs, M.unit a ha] at h
  exact h
theorem ge_right (M : Mono os K f) (ha : Cs os K a) (hb : Cs os K b) : geT (f a b) b = true := by
  rw [M.comm a b ha hb]; exact ge_left M hb ha
end
end K21

namespace K21
open PySem PySem.Spec PyProof.Rows L3
/-! a stock without another one, taken from another one, with one name less -/
def restS (os : List Str) (a b : St) : St := stockOf (b.foldl (woP (onc os)) a)
def tkS (os : List Str) (a b : St) : St := stockOf (b.foldl (tkP (onc os)) a)
def fewS (k0 : Str) (a : St) : St := a.filterMap fun p => if (if p.1 = k0 then 1 else 0) < p.2 then some (p.1, p.2 - (if p.1 = k0 then 1 else 0)) else none
section
variable {os K : List Str} {B B' : Int} {a b c st : St} {k : Str}
theorem mx0_eq (i : Int) : mx0 i = if 0 < i then i else 0 := rfl
theorem rest_raw (ha : Cn os K B a) (hb : Cn os K B' b) (k : Str) : cnt (b.foldl (woP (onc os)) a) k = if k ∈ os then mx0 (cnt a k - cnt b k) else if 0 < cnt b k then 0 else cnt a k := by
  rw [woP_gen, cnt_gen _ hb.nd]
  have h0 := ha.nn k
  cases e : getT b k with
  | none =>
    rw [cnt_none e]
    simp only [mx0_eq]
    show cnt a k = _
    split <;> (try split) <;> omega
  | some n =>
    have h1 := (hb.get e).1
    rw [cnt_some e]
    simp only []
    by_cases ho : k ∈ os
    · rw [if_pos (decide_eq_true ho), if_pos ho]
    · rw [if_neg (by simp [ho]), if_neg ho, if_pos (by omega)]
theorem rest_bd (ha : Cn os K B a) (hb : Cn os K B' b) (hB : 0 ≤ B) (k : Str) : 0 ≤ cnt (b.foldl (woP (onc os)) a) k ∧ cnt (b.foldl (woP (onc os)) a) k ≤ cnt a k := by
  rw [rest_raw ha hb]
  have := ha.nn k
  have := hb.nn k
  simp only [mx0_eq]
  constructor <;> (split <;> (try split) <;> omega)
theorem rest_nd (ha : Cn os K B a) : (keyT (b.foldl (woP (onc os)) a)).Nodup := by rw [woP_gen]; exact gen_nodup _ _ _ ha.nd
theorem rest_cn (hB : 0 ≤ B) (ha : Cn os K B a) (hb : Cn os K B' b) : Cn os K B (restS os a b) := by
  refine Cn.of (rest_nd ha) (fun k m => ?_) fun k => ⟨Int.le_trans (rest_bd ha hb hB k).2 (ha.le hB k), fun ho => Int.le_trans (rest_bd ha hb hB k).2 (ha.pl ho)⟩
  rw [woP_gen] at m
  rcases gen_keys _ k b a m with h | h
  · exact ha.kd k h
  · exact hb.kd k h
theorem rest_cnt (hB : 0 ≤ B) (ha : Cn os K B a) (hb : Cn os K B' b) (k : Str) : cnt (restS os a b) k = if k ∈ os then mx0 (cnt a k - cnt b k) else if 0 < cnt b k then 0 else cnt a k := by
  rw [← rest_raw ha hb]
  unfold restS
  rw [cnt_stockOf (rest_nd ha)]
  have := (rest_bd ha hb hB k).1
  split <;> omega
theorem tk_raw (hb : Cn os K B' b) (k : Str) : cnt (b.foldl (tkP (onc os)) a) k = if k ∈ os then cnt a k - cnt b k else cnt a k := by
  rw [tkP_gen, cnt_gen _ hb.nd]
  cases e : getT b k with
  | none =>
    rw [cnt_none e]
    show cnt a k = _
    split <;> omega
  | some n =>
    rw [cnt_some e]
    simp only []
    by_cases ho : k ∈ os
    · rw [if_pos (decide_eq_true ho), if_pos ho]
    · rw [if_neg (by simp [ho]), if_neg ho]
theorem tk_nd (ha : Cn os K B a) : (keyT (b.foldl (tkP (onc os)) a)).Nodup := by rw [tkP_gen]; exact gen_nodup _ _ _ ha.nd
theorem tk_cn (hB : 0 ≤ B) (ha : Cn os K B a) (hb : Cn os K B' b) : Cn os K B (tkS os a b) := by
  refine Cn.of (tk_nd ha) (fun k m => ?_) fun k => ?_
  · rw [tkP_gen] at m
    rcases gen_keys _ k b a m with h | h
    · exact ha.kd k h
    · exact hb.kd k h
  · rw [tk_raw hb]
    have h1 := ha.le hB k
    have h2 := hb.nn k
    refine ⟨by split <;> omega, fun ho => ?_⟩
    rw [if_neg ho]
    exact ha.pl ho
theorem tk_cnt (ha : Cn os K B a) (hb : Cn os K B' b) (k : Str) : cnt (tkS os a b) k = if 0 < (if k ∈ os then cnt a k - cnt b k else cnt a k) then (if k ∈ os then cnt a k - cnt b k else cnt a k) else 0 := by
  unfold tkS
  rw [cnt_stockOf (tk_nd ha), tk_raw hb]
theorem mem_keys (h : 0 < cnt a k) : k ∈ keyT a := by
  refine Classical.byContradiction fun z => ?_
  rw [cnt_none (getT_none.mpr z)] at h
  omega
theorem keys_pos (ha : Cn os K B a) (h : k ∈ keyT a) : 0 < cnt a k := by
  obtain ⟨p, m, rfl⟩ := List.mem_map.mp h
  rw [cnt_some (getT_of_mem ha.nd (show (p.1, p.2) ∈ a from m))]
  have := (ha.pos p m).1
  omega
theorem keys_sorted (ha : Cn os K B a) : (keyT a).Pairwise fun x y => leS x y = true := by
  rw [← ha.can, keyT_stockOf]
  exact (sortS_pw _).filter _
theorem can_of (hn : (keyT c).Nodup) (hs : (keyT c).Pairwise fun x y => leS x y = true) (hp : ∀ p ∈ c, 0 < p.2) : stockOf c = c := by
  unfold stockOf
  rw [show sortS (keyT c) = keyT c from (sortS_eq (.refl _) hs).symm]
  unfold keyT
  rw [List.filterMap_map]
  have key : ∀ r : St, (∀ p ∈ r, p ∈ c) → r.filterMap ((posT c) ∘ fun p => p.1) = r := by
    intro r
    induction r with
    | nil => intro _; rfl
    | cons p r ih =>
      intro h
      have m := h p List.mem_cons_self
      have e : posT c p.1 = some p := by
        unfold posT
        rw [getT_of_mem hn (show (p.1, p.2) ∈ c from m)]
        simp only []
        rw [if_pos (hp p m)]
      rw [List.filterMap_cons]
      simp only [Function.comp]
      rw [e]
      simp only []
      rw [ih fun q mq => h q (List.mem_cons_of_mem _ mq)]
  exact key c fun _ m => m
theorem few_keys (k0 : Str) (a : St) : (keyT (fewS k0 a)).Sublist (keyT a) := by
  induction a with
  | nil => exact .slnil
  | cons p a ih =>
    unfold fewS keyT at *
    rw [List.filterMap_cons, List.map_cons]
    by_cases h : (if p.1 = k0 then (1 : Int) else 0) < p.2
    · rw [if_pos h]
      exact ih.cons_cons _
    · rw [if_neg h]
      exact ih.cons _
theorem few_cn (hB : 0 ≤ B) (ha : Cn os K B a) (k0 : Str) : Cn os K B (fewS k0 a) := by
  have s := few_keys k0 a
  have hp : ∀ p ∈ fewS k0 a, 1 ≤ p.2 ∧ p.2 ≤ B ∧ (p.1 ∉ os → p.2 = 1) := fun p m => by
    unfold fewS at m
    obtain ⟨q, hq, e⟩ := List.mem_filterMap.mp m
    obtain ⟨x, y, z⟩ := ha.pos q hq
    by_cases h : (if q.1 = k0 then (1 : Int) else 0) < q.2
    · rw [if_pos h] at e
      cases e
      simp only []
      refine ⟨by omega, by split <;> omega, fun ho => ?_⟩
      have := z ho
      split at h <;> (rename_i hh; simp only [hh, if_true, if_false]; omega)
    · rw [if_neg h] at e; cases e
  exact ⟨ha.nd.sublist s, fun k m => ha.kd k (s.subset m), hp, can_of (ha.nd.sublist s) ((keys_sorted ha).sublist s) fun p m => by have := (hp p m).1; omega⟩
theorem few_cnt (ha : Cn os K B a) {k0 : Str} (h0 : 0 < cnt a k0) : cnt (fewS k0 a) k0 = cnt a k0 - 1 := by
  have m : (k0, cnt a k0) ∈ a := by
    cases e : getT a k0 with
    | none => rw [cnt_none e] at h0; omega
    | some n => rw [cnt_some e]; exact getT_mem e
  by_cases h1 : 1 < cnt a k0
  · have m2 : (k0, cnt a k0 - 1) ∈ fewS k0 a := by
      unfold fewS
      rw [List.mem_filterMap]
      refine ⟨_, m, ?_⟩
      simp only [if_true]
      rw [if_pos h1]
    exact cnt_some (getT_of_mem (ha.nd.sublist (few_keys k0 a)) m2)
  · have : getT (fewS k0 a) k0 = none := by
      rw [getT_none]
      intro z
      obtain ⟨p, hp, e⟩ := List.mem_map.mp z
      unfold fewS at hp
      obtain ⟨q, hq, e2⟩ := List.mem_filterMap.mp hp
      by_cases h : (if q.1 = k0 then (1 : Int) else 0) < q.2
      · rw [if_pos h] at e2
        cases e2
        have e' : q.1 = k0 := e
        rw [if_pos e'] at h
        have := getT_of_mem ha.nd (show (q.1, q.2) ∈ a from hq)
        rw [e'] at this
        rw [cnt_some this] at h1
        omega
      · rw [if_neg h] at e2; cases e2
    rw [cnt_none this]
    omega
/-! what the law asks of these -/
theorem rest_ge (hB : 0 ≤ B) (ha : Cn os K B a) (hb : Cn os K B b) : geT (sumS os [restS os a b, b]) a = true := by
  have cr := (rest_cn hB ha hb).cs hB
  refine (geS_iff (sum2_cs cr (hb.cs hB)) (ha.cs hB)).mpr fun k => ?_
  rw [sum2_cnt cr (hb.cs hB), rest_cnt hB ha hb]
  have h0 := ha.nn k
  have h1 := hb.nn k
  by_cases ho : k ∈ os
  · rw [if_pos ho, show onc os k = true from decide_eq_true ho, mx0_eq]
    unfold plusC
    rw [if_pos rfl]
    split <;> omega
  · have := ha.pl ho
    rw [if_neg ho, show onc os k = false from decide_eq_false ho]
    unfold plusC
    rw [if_neg Bool.false_ne_true]
    split <;> omega
theorem ge_rest (hB : 0 ≤ B) (ha : Cn os K B a) (hb : Cn os K B b) : geT a (restS os a b) = true := by
  refine (geS_iff (ha.cs hB) ((rest_cn hB ha hb).cs hB)).mpr fun k => ?_
  rw [rest_cnt hB ha hb]
  have h0 := ha.nn k
  have h1 := hb.nn k
  simp only [mx0_eq]
  split <;> (try split) <;> omega
theorem few_no (hB : 0 ≤ B) (ha : Cn os K B a) (hb : Cn os K B b) {k0 : Str} (h : k0 ∈ keyT (restS os a b)) : geT (sumS os [fewS k0 (restS os a b), b]) a = false := by
  have cr := rest_cn hB ha hb
  have hp := keys_pos cr h
  have cf := (few_cn hB cr k0).cs hB
  cases e : geT (sumS os [fewS k0 (restS os a b), b]) a with
  | false => rfl
  | true =>
    have := (geS_iff (sum2_cs cf (hb.cs hB)) (ha.cs hB)).mp e k0
    rw [sum2_cnt cf (hb.cs hB), few_cnt cr hp] at this
    rw [rest_cnt hB ha hb] at hp this
    have h0 := ha.nn k0
    have h1 := hb.nn k0
    by_cases ho : k0 ∈ os
    · rw [if_pos ho, mx0_eq] at hp this
      rw [show onc os k0 = true from decide_eq_true ho] at this
      unfold plusC at this
      rw [if_pos rfl] at this
      split at hp <;> split at this <;> omega
    · rw [if_neg ho] at hp this
      rw [show onc os k0 = false from decide_eq_false ho] at this
      have h2 := ha.pl ho
      unfold plusC at this
      rw [if_neg Bool.false_ne_true] at this
      split at hp <;> split at this <;> omega
theorem tk_ge (hB : 0 ≤ B) (hB' : 0 ≤ B') (ha : Cn os K B a) (hb : Cn os K B' b) : geT (sumS os [tkS os a b, b]) a = true := by
  have ct := (tk_cn hB ha hb).cs hB
  refine (geS_iff (sum2_cs ct (hb.cs hB')) (ha.cs hB)).mpr fun k => ?_
  rw [sum2_cnt ct (hb.cs hB'), tk_cnt ha hb]
  have h0 := ha.nn k
  have h1 := hb.nn k
  unfold plusC
  by_cases ho : k ∈ os
  · rw [if_pos ho, if_pos (decide_eq_true ho)]
    split <;> omega
  · rw [if_neg ho, if_neg (by simp [ho])]
    split <;> omega
theorem join_le (ha : Cs os K a) (hb : Cs os K b) : geT (sumS os [a, b]) (joinS [a, b]) = true := by
  refine (geS_iff (sum2_cs ha hb) (join2_cs ha hb)).mpr fun k => ?_
  rw [sum2_cnt ha hb, join2_cnt ha hb]
  have h0 := ha.nn k
  have h1 := hb.nn k
  unfold plusC
  split <;> omega
theorem mem3S {P : St → Prop} (h1 : P a) (h2 : P b) (h3 : P c) : ∀ st ∈ [a, b, c], P st := fun st m => by
  simp only [List.mem_cons, List.not_mem_nil, or_false] at m
  rcases m with rfl | rfl | rfl <;> assumption
theorem sum3_cn (hB : 0 ≤ B) (ha : Cn os K B a) (hb : Cn os K B b) (hc : Cn os K B c) : Cn os K (B * 3) (sumS os [a, b, c]) := sum_cn hB (mem3S ha hb hc)
theorem sum3_cnt (hB : 0 ≤ B) (ha : Cn os K B a) (hb : Cn os K B b) (hc : Cn os K B c) (k : Str) : cnt (sumS os [a, b, c]) k = plusC (onc os k) (plusC (onc os k) (cnt a k) (cnt b k)) (cnt c k) := by
  rw [sum_cnt hB (mem3S ha hb hc)]
  show plusC _ (plusC _ (plusC _ 0 (cnt a k)) (cnt b k)) (cnt c k) = _
  rw [plusC_zero (ha.nn k)]
theorem sum3_eq (hB : 0 ≤ B) (ha : Cn os K B a) (hb : Cn os K B b) (hc : Cn os K B c) : sumS os [a, b, c] = sumS os [sumS os [a, b], c] :=
  ((sum3_cn hB ha hb hc).cs (by omega)).ext (sum2_cs (sum2_cs (ha.cs hB) (hb.cs hB)) (hc.cs hB)) fun k => by
    rw [sum3_cnt hB ha hb hc, sum2_cnt (sum2_cs (ha.cs hB) (hb.cs hB)) (hc.cs hB), sum2_cnt (ha.cs hB) (hb.cs hB)]
theorem sum3_rev (hB : 0 ≤ B) (ha : Cn os K B a) (hb : Cn os K B b) (hc : Cn os K B c) : sumS os [c, b, a] = sumS os [a, b, c] :=
  ((sum3_cn hB hc hb ha).cs (by omega)).ext ((sum3_cn hB ha hb hc).cs (by omega)) fun k => by
    rw [sum3_cnt hB ha hb hc, sum3_cnt hB hc hb ha, plusC_assoc, plusC_comm, plusC_comm (onc os k) (cnt b k) (cnt a k)]
theorem join3_cnt (hB : 1 ≤ B) (ha : Cn os K B a) (hb : Cn os K B b) (hc : Cn os K B c) (k : Str) : cnt (joinS [a, b, c]) k = max (max (cnt a k) (cnt b k)) (cnt c k) := by
  rw [join_cnt hB (mem3S ha hb hc)]
  show max (max (max 0 (cnt a k)) (cnt b k)) (cnt c k) = _
  have := ha.nn k
  omega
theorem join3_eq (hB : 1 ≤ B) (ha : Cn os K B a) (hb : Cn os K B b) (hc : Cn os K B c) : joinS [a, joinS [b, c]] = joinS [c, a, b] := by
  have h0 : 0 ≤ B := by omega
  have c1 : Cs os K (joinS [a, joinS [b, c]]) := join2_cs (ha.cs h0) (join2_cs (hb.cs h0) (hc.cs h0))
  refine c1.ext ((join_cn hB (mem3S hc ha hb)).cs h0) fun k => ?_
  rw [join3_cnt hB hc ha hb, join2_cnt (ha.cs h0) (join2_cs (hb.cs h0) (hc.cs h0)), join2_cnt (hb.cs h0) (hc.cs h0)]
  omega
end
end K21

namespace K21
open PySem PySem.Spec PyProof.Rows L3
/-- a slot that isn't lent -/
def nbA : Option A → Bool
  | some (.box false _) => false
  | _ => true
theorem notBor_eq (ρ : En) (i : Nat) : notBor ρ i = (decide (i < ρ.length) && nbA ρ[i]?.join) := by
  unfold notBor nbA
  cases ρ[i]?.join with
  | none => rfl
  | some a => cases a with
    | dat d => rfl
    | box o b => cases o <;> rfl
theorem nb_none : nbA none = true := rfl
theorem nb_dat (d : D) : nbA (some (.dat d)) = true := rfl
theorem nb_own (b : Bx) : nbA (some (.box true b)) = true := rfl
theorem glst_list (is : List Nat) (ds : List D) (ρ : En) : glst is (.list ds) ρ = gset is ds ρ := rfl
/-! what is shown -/
theorem sh_cn {os K : List Str} {B : Int} {st : St} (hN : ∀ k ∈ K, NameOk k) (h : Cn os K B st) (hB : B ≤ 1000) (hl : K.length ≤ 10) : Sh st ∧ st.length ≤ 10 := by
  have h1 := h.len
  refine ⟨⟨fun p m => ?_, by omega⟩, by omega⟩
  have hk := hN p.1 (h.kd p.1 (List.mem_map.mpr ⟨p, m, rfl⟩))
  obtain ⟨a, b, _⟩ := h.pos p m
  exact ⟨hk.ok, hk.len, by omega, by omega⟩
theorem wt10 {st : St} (h : Sh st) (hl : st.length ≤ 10) : wtD (encSt st) ≤ 111100 := by
  have h1 := wtL_map (f := encP PyData.int) (n := 11100) fun p hp => (h.okP p hp).2
  have h3 : st.length * (11100 + 2) ≤ 10 * (11100 + 2) := Nat.mul_le_mul_right _ hl
  show 3 + wtL (st.map (encP PyData.int)) ≤ 111100
  omega
/-- a lot of few -/
structure ShL (S : List St) : Prop where
  each : ∀ st ∈ S, Sh st ∧ st.length ≤ 10
  len : S.length ≤ 12
theorem ShL.ok {S : List St} (h : ShL S) : okD (tupS S) = true := by
  unfold tupS
  simp only [okD]
  exact okL_map fun st m => (h.each st m).1.ok
theorem ShL.dep {S : List St} : (tupS S).depth ≤ 3 := by
  have : PyData.depthAll (S.map encSt) ≤ 2 := depthL_le fun d hd => by
    obtain ⟨st, _, rfl⟩ := List.mem_map.mp hd
    exact dep_encSt st
  show PyData.depthAll (S.map encSt) + 1 ≤ 3
  omega
theorem ShL.wt {S : List St} (h : ShL S) : wtD (tupS S) ≤ 1400000 := by
  have h1 := wtL_map (f := encSt) (xs := S) (n := 111100) fun st m => wt10 (h.each st m).1 (h.each st m).2
  have h2 := h.len
  have h3 : S.length * (111100 + 2) ≤ 12 * (111100 + 2) := Nat.mul_le_mul_right _ h2
  show 3 + wtL (S.map encSt) ≤ 1400000
  omega
theorem show_lots {Ss : List (List St)} (h : ∀ S ∈ Ss, ShL S) (hl : Ss.length ≤ 10) : ShowOk (.list (Ss.map tupS)) := by
  refine ⟨?_, ?_, ?_⟩
  · simp only [okD]
    exact okL_map fun S m => (h S m).ok
  · have : PyData.depthAll (Ss.map tupS) ≤ 3 := depthL_le fun d hd => by
      obtain ⟨S, _, rfl⟩ := List.mem_map.mp hd
      exact ShL.dep
    show PyData.depthAll (Ss.map tupS) + 1 ≤ 64
    omega
  · have h1 := wtL_map (f := tupS) (xs := Ss) (n := 1400000) fun S m => (h S m).wt
    have h3 : Ss.length * (1400000 + 2) ≤ 10 * (1400000 + 2) := Nat.mul_le_mul_right _ hl
    show 2 + wtL (Ss.map tupS) ≤ 16777216
    omega
theorem ne_show {d : D} (h : ShowOk d) : neD d d = some (.dat (.bool false)) := by
  unfold neD eqOk
  rw [h.shaped, Bool.and_self, Bool.or_true, if_pos rfl, eqv_self d h.ok]
  rfl
section
variable (sc dt : D)
abbrev laE (bag : List D) (j2 j4 j5 j6 j7 j8 j9 j10 j11 j12 j13 j14 j15 j16 : Option A) : En := [some (.dat sc), some (.box true (.lst bag)), j2, some (.dat dt), j4, j5, j6, j7, j8, j9, j10, j11, j12, j13, j14, j15, j16, none, none, none, none]
theorem la_stocks {os K : List Str} (O : OnceOk dt os K) {ds : List Dc} (hdt : dt = .tuple (ds.map encDc)) (hK : K = kdT ds) (hl : ds.length ≤ 10) {bag : List D} (hb : BagOk bag) (j2 j4 j5 j6 j7 j8 j9 j10 j11 j12 j13 j14 j15 : Option A) :
    ∃ (sts : List St) (bag' : List D), lcT (gnm 16) myes M_law_1 [16] (.items (rngD 0 4)) (laE sc dt bag j2 j4 j5 j6 j7 j8 j9 j10 j11 j12 j13 j14 j15 none) = some (.new (.lst (sts.map encSt)), laE sc dt bag' j2 j4 j5 j6 j7 j8 j9 j10 j11 j12 j13 j14 j15 none) ∧ BagOk bag' ∧ sts.length = 4 ∧ ∀ st ∈ sts, Cn os K 3 st := by
  obtain ⟨acc, ρ', h2, bag', sts, j, h3, rfl, h4, rfl, h5⟩ := lcI_run (g := gnm 16) (t := myes) (m := M_law_1) (vs := [16]) (P := fun r acc ρ => ∃ (bag : List D) (sts : List St) (j : Option D), BagOk bag ∧ acc = sts.map encSt ∧ (∀ st ∈ sts, Cn os K 3 st) ∧ ρ = laE sc dt bag j2 j4 j5 j6 j7 j8 j9 j10 j11 j12 j13 j14 j15 (sD j) ∧ sts.length + r.length = 4) (fun d r acc ρ hP => by
    obtain ⟨bag, sts, j, hb, rfl, h2, rfl, h3⟩ := hP
    obtain ⟨st, bag', d1, d2, d3, d4⟩ := drawn_ok O hdt hK hl hb
    rw [List.length_cons] at h3
    refine ⟨(sts ++ [st]).map encSt, laE sc dt bag' j2 j4 j5 j6 j7 j8 j9 j10 j11 j12 j13 j14 j15 (some (.dat d)), ?_, bag', sts ++ [st], some d, d2, rfl, fun y hy => (List.mem_append.mp hy).elim (h2 y) fun z => by rw [List.mem_singleton.mp z]; exact d3.cn d4, rfl, by rw [List.length_append, List.length_singleton]; omega⟩
    rw [List.map_append]
    refine turn_yes (ρ1 := laE sc dt bag j2 j4 j5 j6 j7 j8 j9 j10 j11 j12 j13 j14 j15 (some (.dat d))) (ρ2 := laE sc dt bag j2 j4 j5 j6 j7 j8 j9 j10 j11 j12 j13 j14 j15 (some (.dat d))) (ρ3 := laE sc dt bag' j2 j4 j5 j6 j7 j8 j9 j10 j11 j12 j13 j14 j15 (some (.dat d))) (y := .dat (encSt st)) ?_ rfl ?_ ?_ ?_
    · cases j <;> simp [sizeLine_eq, startE, argA, bxIx, back, newC, notBor, bxAt, restE, noBx, lstB, lstAt, isNoD, sD]
    · simp [sizeLine_eq, startE, argA, bxIx, back, newC, notBor, bxAt, restE, noBx, lstB, lstAt, isNoD, M_law_1, d1]
    · simp [sizeLine_eq, startE, argA, bxIx, back, newC, notBor, bxAt, restE, noBx, lstB, lstAt, isNoD]
    · rw [sizeLine_eq, List.length_map]; omega) (rngD 0 4) [] (laE sc dt bag j2 j4 j5 j6 j7 j8 j9 j10 j11 j12 j13 j14 j15 none) ⟨bag, [], none, hb, rfl, (by simp), rfl, by rfl⟩
  refine ⟨sts, bag', ?_, h3, by have : sts.length + 0 = 4 := h5; omega, h4⟩
  show lcE _ [16] (mlcI (gnm 16) myes M_law_1 [16] (rngD 0 4) [] _) = _
  have hw : wipeE (laE sc dt bag j2 j4 j5 j6 j7 j8 j9 j10 j11 j12 j13 j14 j15 none) [16] = laE sc dt bag j2 j4 j5 j6 j7 j8 j9 j10 j11 j12 j13 j14 j15 none := rfl
  rw [hw, h2]
  cases j <;> simp [sizeLine_eq, startE, argA, bxIx, back, newC, notBor, bxAt, restE, noBx, lstB, lstAt, isNoD, sD]
theorem list4 {α : Type} {xs : List α} (h : xs.length = 4) : ∃ a b c d, xs = [a, b, c, d] := by
  match xs, h with
  | [a, b, c, d], _ => exact ⟨a, b, c, d, rfl⟩
variable (bag : List D) (j2 : Option A) (one other third less both all rest : St)
/-- the environment ahead of the loop over what is left -/
abbrev lvE (j11 j12 j13 j14 j15 j18 j19 : Option A) : En := [some (.dat sc), some (.box true (.lst bag)), j2, some (.dat dt), some (.dat (encSt one)), some (.dat (encSt other)), some (.dat (encSt third)), some (.dat (encSt less)), some (.dat (encSt both)), some (.dat (encSt all)), some (.dat (encSt rest)), j11, j12, j13, j14, j15, none, none, j18, j19, none]
theorem few_lc (k0 : Str) (n0 : Int) (j13 j14 j15 : Option A) (hz : rest.length < 64) :
    lcT (gtup [18, 19]) T_law_2 M_law_2 [18, 19] (.items (rest.map (encP PyData.int))) (lvE sc dt bag j2 one other third less both all rest (some (.dat (.str k0))) (some (.dat (.int n0))) j13 j14 j15 none none) =
      some (.new (.lst ((fewS k0 rest).map (encP PyData.int))), lvE sc dt bag j2 one other third less both all rest (some (.dat (.str k0))) (some (.dat (.int n0))) j13 j14 j15 none none) := by
  have h := lc_pure (g := gtup [18, 19]) (t := T_law_2) (m := M_law_2) (vs := [18, 19]) (ρ := lvE sc dt bag j2 one other third less both all rest (some (.dat (.str k0))) (some (.dat (.int n0))) j13 j14 j15 none none) (encP PyData.int)
    (fun p => if (if p.1 = k0 then (1 : Int) else 0) < p.2 then some (encP PyData.int (p.1, p.2 - (if p.1 = k0 then 1 else 0))) else none) rest (fun p hp => by
      refine ⟨lvE sc dt bag j2 one other third less both all rest (some (.dat (.str k0))) (some (.dat (.int n0))) j13 j14 j15 (some (.dat (.str p.1))) (some (.dat (.int p.2))), decide ((if p.1 = k0 then (1 : Int) else 0) < p.2), ?_, ?_, ?_, ?_⟩
      · simp [sizeLine_eq, startE, argA, bxIx, back, newC, notBor, bxAt, restE, noBx, lstB, lstAt, isNoD, encP]
      · simp [sizeLine_eq, startE, argA, bxIx, back, newC, notBor, bxAt, restE, noBx, lstB, lstAt, isNoD]
      · unfold T_law_2
        by_cases e : p.1 = k0
        · simp [sizeLine_eq, startE, argA, bxIx, back, newC, notBor, bxAt, restE, noBx, lstB, lstAt, isNoD, e, L3.intD]
        · have eb : (p.1 == k0) = false := by simpa using e
          simp [sizeLine_eq, startE, argA, bxIx, back, newC, notBor, bxAt, restE, noBx, lstB, lstAt, isNoD, e, eb, L3.intD]
      · by_cases hlt : (if p.1 = k0 then (1 : Int) else 0) < p.2
        · rw [if_pos hlt]
          refine ⟨decide_eq_true hlt, ?_⟩
          unfold M_law_2
          by_cases e : p.1 = k0
          · simp [sizeLine_eq, startE, argA, bxIx, back, newC, notBor, bxAt, restE, noBx, lstB, lstAt, isNoD, e, L3.intD, encP]
          · have eb : (p.1 == k0) = false := by simpa using e
            simp [sizeLine_eq, startE, argA, bxIx, back, newC, notBor, bxAt, restE, noBx, lstB, lstAt, isNoD, e, eb, L3.intD, encP]
        · rw [if_neg hlt]
          exact decide_eq_false hlt) (by rw [sizeLine_eq]; omega)
  rw [h]
  have e : (rest.filterMap fun p => if (if p.1 = k0 then (1 : Int) else 0) < p.2 then some (encP PyData.int (p.1, p.2 - (if p.1 = k0 then 1 else 0))) else none) = (fewS k0 rest).map (encP PyData.int) := by
    unfold fewS
    rw [List.map_filterMap]
    congr 1
    funext p
    by_cases hlt : (if p.1 = k0 then (1 : Int) else 0) < p.2
    · rw [if_pos hlt, if_pos hlt]; rfl
    · rw [if_neg hlt, if_neg hlt]; rfl
  rw [e]
theorem rest_loop {os K : List Str} (O : OnceOk dt os K) (hKl : K.length ≤ 10) (c1 : Cn os K 3 one) (c2 : Cn os K 3 other) (hr : rest = restS os one other) (j13 j14 : Option A) :
    ∀ (r : St) (j11 j12 j15 : Option A), (∀ p ∈ r, p ∈ rest) → nbA j11 = true → nbA j12 = true → nbA j15 = true → ∃ i11 i12 i15, mforI (gtup [11, 12]) L_law_3 (r.map (encP PyData.int)) (lvE sc dt bag j2 one other third less both all rest j11 j12 j13 j14 j15 none none) =
      some (.nx, lvE sc dt bag j2 one other third less both all rest i11 i12 j13 j14 i15 none none) ∧ nbA i11 = true ∧ nbA i12 = true ∧ nbA i15 = true
  | [], j11, j12, j15, _, n11, n12, n15 => ⟨j11, j12, j15, rfl, n11, n12, n15⟩
  | p :: r, j11, j12, j15, hm, n11, n12, n15 => by
    have cr : Cn os K 3 rest := by rw [hr]; exact rest_cn (by decide) c1 c2
    have hrl := cr.len
    have l1 := c1.len
    have l2 := c2.len
    have hk : p.1 ∈ keyT rest := List.mem_map.mpr ⟨p, hm p List.mem_cons_self, rfl⟩
    have cf := few_cn (by decide) cr p.1
    have hfl := cf.len
    have F1 := few_lc sc dt bag j2 one other third less both all rest p.1 p.2 j13 j14 j15 (by omega)
    have F2 := added_ok O (x := .dat (.list [encSt (fewS p.1 rest), encSt other])) (sts := [fewS p.1 rest, other]) (.inl rfl) (by simp [totalL]; omega)
    have cs := sum2_cn (os := os) (by decide) (by decide) cf c2
    have F3 := is_above_ok (one := sumS os [fewS p.1 rest, other]) (other := one) cs.nd (by omega)
    have F4 : geT (sumS os [fewS p.1 rest, other]) one = false := by
      have hk' := hk
      rw [hr] at hk' ⊢
      exact few_no (by decide) c1 c2 hk'
    rw [F4] at F3
    change p_added _ = some (R.dat (encSt (sumS os [fewS p.1 rest, other])), _) at F2
    obtain ⟨i11, i12, i15, G1, G2, G3, G4⟩ := rest_loop O hKl c1 c2 hr j13 j14 r (some (.dat (.str p.1))) (some (.dat (.int p.2))) (some (.dat (encSt (fewS p.1 rest)))) (fun q hq => hm q (List.mem_cons_of_mem _ hq)) rfl rfl rfl
    refine ⟨i11, i12, i15, ?_, G2, G3, G4⟩
    rw [List.map_cons]
    unfold mforI
    have hg : gtup [11, 12] (encP PyData.int p) (lvE sc dt bag j2 one other third less both all rest j11 j12 j13 j14 j15 none none) = some (lvE sc dt bag j2 one other third less both all rest (some (.dat (.str p.1))) (some (.dat (.int p.2))) j13 j14 j15 none none) := by
      simp [sizeLine_eq, startE, argA, bxIx, back, newC, bxAt, restE, noBx, lstB, lstAt, isNoD, notBor_eq, nb_none, nb_dat, nb_own, encP, n11, n12]
    have hL : L_law_3 (lvE sc dt bag j2 one other third less both all rest (some (.dat (.str p.1))) (some (.dat (.int p.2))) j13 j14 j15 none none) = some (.nx, lvE sc dt bag j2 one other third less both all rest (some (.dat (.str p.1))) (some (.dat (.int p.2))) j13 j14 (some (.dat (encSt (fewS p.1 rest)))) none none) := by
      unfold L_law_3
      simp only [lvE, encSt] at F1 F2 F3 ⊢
      simp [sizeLine_eq, startE, argA, bxIx, back, newC, bxAt, restE, noBx, lstB, lstAt, isNoD, notBor_eq, nb_none, nb_dat, nb_own, F1, F2, F3, n15]
    rw [hg, Option.bind_some, hL, Option.bind_some]
    exact G1
end
end K21

namespace K21
open PySem PySem.Spec PyProof.Rows L3
theorem kd_names {ds : List Dc} (h : ∀ d ∈ ds, NameOk d.name) : ∀ k ∈ kdT ds, NameOk k := fun k hk => by
  unfold kdT at hk
  obtain ⟨d, hd, rfl⟩ := List.mem_map.mp hk
  exact h d (List.mem_filter.mp hd).1
section
variable {os K : List Str} {A B C : List St}
theorem two_mem {α : Type} {P : α → Prop} {a b : α} (h1 : P a) (h2 : P b) : ∀ x ∈ [a, b], P x := fun x m => by
  simp only [List.mem_cons, List.not_mem_nil, or_false] at m
  rcases m with rfl | rfl <;> assumption
theorem three_mem {α : Type} {P : α → Prop} {a b c : α} (h1 : P a) (h2 : P b) (h3 : P c) : ∀ x ∈ [a, b, c], P x := fun x m => by
  simp only [List.mem_cons, List.not_mem_nil, or_false] at m
  rcases m with rfl | rfl | rfl <;> assumption
theorem lots3_len (f : St → St → St) (A B C : List St) : (lotsS f [A, B, C]).length ≤ A.length * B.length * C.length := by
  show (combL f (combL f (combL f [[]] A) B) C).length ≤ _
  have h1 := comb_len (f := f) [[]] A
  have h2 := comb_len (f := f) (combL f [[]] A) B
  have h3 := comb_len (f := f) (combL f (combL f [[]] A) B) C
  simp only [List.length_singleton, Nat.one_mul] at h1
  exact Nat.le_trans h3 (Nat.mul_le_mul_right _ (Nat.le_trans h2 (Nat.mul_le_mul_right _ h1)))
/-- of a bound and a member of three lots -/
theorem lots3_cn {Ba Bb Bc : Int} (ha : ∀ x ∈ A, Cn os K Ba x) (hb : ∀ x ∈ B, Cn os K Bb x) (hc : ∀ x ∈ C, Cn os K Bc x) (h1 : 0 ≤ Ba) (h2 : 0 ≤ Bb) (h3 : 0 ≤ Bc) : ∀ m ∈ lotsS (addF os) [A, B, C], Cn os K (Ba + Bb + Bc) m ∧ (∃ a ∈ A, geT m a = true) ∧ (∃ b ∈ B, geT m b = true) ∧ ∃ c ∈ C, geT m c = true := by
  have sA : AllC os K A := fun x m => (ha x m).cs h1
  have sB : AllC os K B := fun x m => (hb x m).cs h2
  have sC : AllC os K C := fun x m => (hc x m).cs h3
  have hl : ∀ lot ∈ [A, B, C], AllC os K lot := three_mem sA sB sC
  have e := lots_last add_mono [A, B] C hl
  intro m hm
  have hm' : m ∈ lotsS (addF os) ([A, B] ++ [C]) := hm
  rw [e] at hm'
  have hm2 := (leastS_least (foldP_all add_mono _ _ one_all hl)).sub m hm'
  obtain ⟨a, ma, b, mb, c, mc, rfl⟩ := mem3.mp hm2
  have ca := sA a ma
  have cb := sB b mb
  have cc := sC c mc
  rw [add_mono.unit a ca]
  have g1 : geT (addF os a b) a = true := ge_left add_mono ca cb
  have g2 : geT (addF os a b) b = true := ge_right add_mono ca cb
  have cab := sum2_cs ca cb
  have g3 : geT (addF os (addF os a b) c) (addF os a b) = true := ge_left add_mono cab cc
  have call := sum2_cs cab cc
  exact ⟨sum2_cn (by omega) h3 (sum2_cn h1 h2 (ha a ma) (hb b mb)) (hc c mc), ⟨a, ma, geS_trans call cab ca g3 g1⟩, ⟨b, mb, geS_trans call cab cb g3 g2⟩, ⟨c, mc, ge_right add_mono cab cc⟩⟩
/-- what is above a member of each of three is above one of the sums -/
theorem lots3_met (sA : AllC os K A) (sB : AllC os K B) (sC : AllC os K C) {a b c s : St} (ma : a ∈ A) (mb : b ∈ B) (mc : c ∈ C) (cs : Cs os K s) (h : geT s (addF os (addF os a b) c) = true) : (lotsS (addF os) [A, B, C]).any (fun m => geT s m) = true := by
  have hl : ∀ lot ∈ [A, B, C], AllC os K lot := three_mem sA sB sC
  have u := (lots_up add_mono hl).2
  obtain ⟨m, m1, m2⟩ := u (addF os (addF os a b) c) (mem3.mpr ⟨a, ma, b, mb, c, mc, by rw [add_mono.unit a (sA a ma)]⟩)
  exact List.any_eq_true.mpr ⟨m, m1, geS_trans cs (sum2_cs (sum2_cs (sA a ma) (sB b mb)) (sC c mc)) (lots_all add_mono hl m m1) h m2⟩
theorem sum_ge {a b c a' b' c' : St} (B : Int) (hB : 0 ≤ B) (ha : Cn os K B a) (hb : Cn os K B b) (hc : Cn os K B c) (ha' : Cs os K a') (hb' : Cs os K b') (hc' : Cs os K c') (h1 : geT a a' = true) (h2 : geT b b' = true) (h3 : geT c c' = true) : geT (sumS os [a, b, c]) (addF os (addF os a' b') c') = true := by
  rw [sum3_eq hB ha hb hc]
  have ca := ha.cs hB
  have cb := hb.cs hB
  have cc := hc.cs hB
  exact add_mono.mono _ _ _ _ (sum2_cs ca cb) cc (sum2_cs ha' hb') hc' (add_mono.mono _ _ _ _ ca cb ha' hb' h1 h2) h3
theorem lots_one {j : St} (h : Cs os K j) : lotsS (addF os) [[j]] = [j] := by
  show leastS (pairsL (addF os) [[]] [j]) = [j]
  have e : pairsL (addF os) [[]] [j] = [j] := by
    show [addF os [] j] = [j]
    rw [add_mono.unit j h]
  rw [e, leastS_one j h]
end
section
variable (sc dt : D)
/-- the second half of a round -/
theorem lots_part {os K : List Str} (O : OnceOk dt os K) (hN : ∀ k ∈ K, NameOk k) (hKl : K.length ≤ 10) (bag : List D) (j2 : Option A) {one other third less both all rest : St} (c1 : Cn os K 3 one) (c2 : Cn os K 3 other) (c3 : Cn os K 3 third) (c4 : Cn os K 3 less) (c6 : Cn os K 9 all) (j11 j12 j13 j14 j15 : Option A) (n13 : nbA j13 = true) (n14 : nbA j14 = true) :
    ∃ (L1 L2 L3 S J : List St) (m3 : St),
      p_least_of [.dat (.list [encSt one, encSt other, encSt less])] = some (.dat (tupS L1), [.dat (.list [encSt one, encSt other, encSt less])]) ∧
      p_least_of [.dat (.list [encSt third, encSt less])] = some (.dat (tupS L2), [.dat (.list [encSt third, encSt less])]) ∧
      p_least_of [.dat (.list [encSt other, encSt all])] = some (.dat (tupS L3), [.dat (.list [encSt other, encSt all])]) ∧
      p_sums_of [.dat dt, .box false (.lst [tupS L1, tupS L2, tupS L3])] = some (.dat (tupS S), [.dat dt, .box false (.lst [tupS L1, tupS L2, tupS L3])]) ∧
      p_sums_of [.dat dt, .dat (.list [tupS L3, tupS L2, tupS L1])] = some (.dat (tupS S), [.dat dt, .dat (.list [tupS L3, tupS L2, tupS L1])]) ∧
      (∃ P : List St, p_sums_of [.dat dt, .dat (.list [tupS L1, tupS L2])] = some (.dat (tupS P), [.dat dt, .dat (.list [tupS L1, tupS L2])]) ∧
        p_sums_of [.dat dt, .dat (.list [tupS P, tupS L3])] = some (.dat (tupS S), [.dat dt, .dat (.list [tupS P, tupS L3])])) ∧
      m_law_alike [.dat (.list [tupS S, tupS S]), .dat (.list [tupS S, tupS S])] = some (.dat (.bool true), [.dat (.list [tupS S, tupS S]), .dat (.list [tupS S, tupS S])]) ∧
      p_added [.dat dt, .dat (.list [encSt less, encSt less, encSt other])] = some (.dat (encSt m3), [.dat dt, .dat (.list [encSt less, encSt less, encSt other])]) ∧
      p_is_met [.dat (tupS S), .dat (encSt m3)] = some (.dat (.bool true), [.dat (tupS S), .dat (encSt m3)]) ∧
      p_joins_of [.box false (.lst [tupS L1, tupS L2, tupS L3])] = some (.dat (tupS J), [.box false (.lst [tupS L1, tupS L2, tupS L3])]) ∧
      (∀ ρ, ρ = lvE sc dt bag j2 one other third less both all rest j11 j12 (some (.box true (.lst [tupS L1, tupS L2, tupS L3]))) (some (.dat (tupS S))) j15 none none → lcT (gnm 17) T_law_4 M_law_4 [17] (.items (J.map encSt)) ρ = some (.new (.lst []), ρ)) ∧
      ∀ ρ, ρ = lvE sc dt bag j2 one other third less both all rest j11 j12 (some (.box true (.lst [tupS L1, tupS L2, tupS L3]))) (some (.dat (tupS S))) j15 none none → lcT (gnm 17) T_law_6 M_law_6 [17] (.items (S.map encSt)) ρ = some (.new (.lst []), ρ) := by
  have k1 := c1.cs (by decide)
  have k2 := c2.cs (by decide)
  have k3 := c3.cs (by decide)
  have k4 := c4.cs (by decide)
  have k6 := c6.cs (by decide)
  have q1 : AllC os K [one, other, less] := three_mem k1 k2 k4
  have q2 : AllC os K [third, less] := two_mem k3 k4
  have q3 : AllC os K [other, all] := two_mem k2 k6
  have F1 := least_of_ok (x := .dat (.list [encSt one, encSt other, encSt less])) (xs := [one, other, less]) (.inl rfl) q1 (by omega) (by simp)
  have F2 := least_of_ok (x := .dat (.list [encSt third, encSt less])) (xs := [third, less]) (.inl rfl) q2 (by omega) (by simp)
  have F3 := least_of_ok (x := .dat (.list [encSt other, encSt all])) (xs := [other, all]) (.inl rfl) q3 (by omega) (by simp)
  have n1 := leastS_len [one, other, less]
  have n2 := leastS_len [third, less]
  have n3 := leastS_len [other, all]
  have a1 : AllC os K (leastS [one, other, less]) := leastS_cn q1
  have a2 : AllC os K (leastS [third, less]) := leastS_cn q2
  have a3 : AllC os K (leastS [other, all]) := leastS_cn q3
  have l1 := leastS_least q1
  have l2 := leastS_least q2
  have l3 := leastS_least q3
  have b1 : ∀ x ∈ leastS [one, other, less], Cn os K 3 x := fun x m => three_mem c1 c2 c4 x (l1.sub x m)
  have b2 : ∀ x ∈ leastS [third, less], Cn os K 3 x := fun x m => two_mem c3 c4 x (l2.sub x m)
  have b3 : ∀ x ∈ leastS [other, all], Cn os K 9 x := fun x m => two_mem (c2.mono (by decide)) c6 x (l3.sub x m)
  have v1 := l1.cov less (by simp)
  have v2 := l2.cov less (by simp)
  have v3 := l3.cov other (by simp)
  generalize leastS [one, other, less] = L1 at F1 n1 a1 b1 v1
  generalize leastS [third, less] = L2 at F2 n2 a2 b2 v2
  generalize leastS [other, all] = L3 at F3 n3 a3 b3 v3
  simp only [List.length_cons, List.length_nil] at n1 n2 n3
  have hl3 : ∀ lot ∈ [L1, L2, L3], lot.length ≤ 3 ∧ ∀ s ∈ lot, Cs os K s := three_mem ⟨by omega, a1⟩ ⟨by omega, a2⟩ ⟨by omega, a3⟩
  have SS := sums_of_ok O (x := .box false (.lst [tupS L1, tupS L2, tupS L3])) (lots := [L1, L2, L3]) (.inr (.inr rfl)) (by omega) (L := 3) (by decide) hl3 (by simp)
  have SR := sums_of_ok O (x := .dat (.list [tupS L3, tupS L2, tupS L1])) (lots := [L3, L2, L1]) (.inl rfl) (by omega) (L := 3) (by decide) (three_mem ⟨by omega, a3⟩ ⟨by omega, a2⟩ ⟨by omega, a1⟩) (by simp)
  have SP := sums_of_ok O (x := .dat (.list [tupS L1, tupS L2])) (lots := [L1, L2]) (.inl rfl) (by omega) (L := 3) (by decide) (two_mem ⟨by omega, a1⟩ ⟨by omega, a2⟩) (by simp)
  have np : (lotsS (addF os) [L1, L2]).length ≤ 6 := by
    have h1 := comb_len (f := addF os) [[]] L1
    have h2 := comb_len (f := addF os) (combL (addF os) [[]] L1) L2
    simp only [List.length_singleton, Nat.one_mul] at h1
    exact Nat.le_trans h2 (Nat.le_trans (Nat.mul_le_mul (Nat.le_trans h1 n1) n2) (by decide))
  have ap : AllC os K (lotsS (addF os) [L1, L2]) := lots_all add_mono (two_mem a1 a2)
  have SQ := sums_of_ok O (x := .dat (.list [tupS (lotsS (addF os) [L1, L2]), tupS L3])) (lots := [lotsS (addF os) [L1, L2], L3]) (.inl rfl) (by omega) (L := 6) (by decide) (two_mem ⟨np, ap⟩ ⟨by omega, a3⟩) (by simp)
  rw [sums_rev add_mono a1 a2 a3] at SR
  rw [sums_part add_mono a1 a2 a3] at SQ
  have nS : (lotsS (addF os) [L1, L2, L3]).length ≤ 12 := Nat.le_trans (lots3_len _ _ _ _) (Nat.le_trans (Nat.mul_le_mul (Nat.mul_le_mul n1 n2) n3) (by decide))
  have eS := lots3_cn b1 b2 b3 (by decide) (by decide) (by decide)
  have aS : AllC os K (lotsS (addF os) [L1, L2, L3]) := lots_all add_mono (three_mem a1 a2 a3)
  have shS : ShL (lotsS (addF os) [L1, L2, L3]) := ⟨fun m mm => sh_cn hN (eS m mm).1 (by decide) hKl, nS⟩
  obtain ⟨a, ma, ga⟩ := v1
  obtain ⟨b, mb, gb⟩ := v2
  obtain ⟨c, mc, gc⟩ := v3
  have cm : Cn os K (3 * 3) (sumS os [less, less, other]) := sum3_cn (by decide) c4 c4 c2
  have met := lots3_met a1 a2 a3 ma mb mc (cm.cs (by decide)) (sum_ge 3 (by decide) c4 c4 c2 (a1 a ma) (a2 b mb) (a3 c mc) ga gb gc)
  have AD := added_ok O (x := .dat (.list [encSt less, encSt less, encSt other])) (sts := [less, less, other]) (.inl rfl) (by have := c4.len; have := c2.len; simp [totalL]; omega)
  change p_added _ = some (R.dat (encSt (sumS os [less, less, other])), _) at AD
  have MM := is_met_ok (x := .dat (tupS (lotsS (addF os) [L1, L2, L3]))) (F := lotsS (addF os) [L1, L2, L3]) (.inr (.inl rfl)) (s := sumS os [less, less, other]) cm.nd (fun m mm => by have := (aS m mm).len; omega) (by omega)
  rw [met] at MM
  have JJ := joins_of_ok (os := os) (K := K) (x := .box false (.lst [tupS L1, tupS L2, tupS L3])) (lots := [L1, L2, L3]) (.inr (.inr rfl)) (by omega) (L := 3) (by decide) hl3 (by simp)
  have aJ : AllC os K (lotsS joinF [L1, L2, L3]) := lots_all join_mono (three_mem a1 a2 a3)
  have nJ : (lotsS joinF [L1, L2, L3]).length ≤ 12 := Nat.le_trans (lots3_len _ _ _ _) (Nat.le_trans (Nat.mul_le_mul (Nat.mul_le_mul n1 n2) n3) (by decide))
  have AL := alike_ok (d := .list [tupS (lotsS (addF os) [L1, L2, L3]), tupS (lotsS (addF os) [L1, L2, L3])]) (y := .dat (.list [tupS (lotsS (addF os) [L1, L2, L3]), tupS (lotsS (addF os) [L1, L2, L3])])) (show_lots (Ss := [_, _]) (two_mem shS shS) (by simp)) rfl (.inl rfl)
  generalize lotsS (addF os) [L1, L2, L3] = S at SS SR SQ nS eS aS shS met MM AL
  generalize lotsS joinF [L1, L2, L3] = J at JJ aJ nJ
  refine ⟨L1, L2, L3, S, J, sumS os [less, less, other], F1, F2, F3, SS, SR, ⟨_, SP, SQ⟩, AL, AD, MM, JJ, ?_, ?_⟩
  · rintro ρ rfl
    have h := lc_pure (g := gnm 17) (t := T_law_4) (m := M_law_4) (vs := [17]) (ρ := lvE sc dt bag j2 one other third less both all rest j11 j12 (some (.box true (.lst [tupS L1, tupS L2, tupS L3]))) (some (.dat (tupS S))) j15 none none) encSt (fun _ => none) J (fun j hj => by
      have hc := aJ j hj
      have hjl := hc.len
      have G1 := sums_of_ok O (x := .dat (.list [tupS [j]])) (lots := [[j]]) (.inl rfl) (by omega) (L := 1) (by decide) (fun lot m => by rw [List.mem_singleton.mp m]; exact ⟨Nat.le_refl _, fun s m => by rw [List.mem_singleton.mp m]; exact hc⟩) (by simp)
      rw [lots_one hc] at G1
      have G2 := is_above_ok (one := j) (other := j) hc.nd (by omega)
      rw [geS_refl hc] at G2
      have G3 : ixD (tupS [j]) (.int 0) = some (.dat (encSt j)) := rfl
      refine ⟨_, false, rfl, rfl, ?_, rfl⟩
      unfold T_law_4
      simp only [tupS, List.map_cons, List.map_nil] at G1 G3
      simp [sizeLine_eq, startE, argA, bxIx, back, newC, notBor, bxAt, restE, noBx, lstB, lstAt, isNoD, G1, G2, G3]) (by rw [sizeLine_eq]; omega)
    rw [h]
    simp
  · rintro ρ rfl
    have h := lc_pure (g := gnm 17) (t := T_law_6) (m := M_law_6) (vs := [17]) (ρ := lvE sc dt bag j2 one other third less both all rest j11 j12 (some (.box true (.lst [tupS L1, tupS L2, tupS L3]))) (some (.dat (tupS S))) j15 none none) encSt (fun _ => none) S (fun m hm => by
      obtain ⟨_, ⟨x1, y1, z1⟩, ⟨x2, y2, z2⟩, ⟨x3, y3, z3⟩⟩ := eS m hm
      have hc := aS m hm
      have e1 : ∀ lot ∈ [L1, L2, L3], lot.any (fun x => geT m x) = true := three_mem (List.any_eq_true.mpr ⟨x1, y1, z1⟩) (List.any_eq_true.mpr ⟨x2, y2, z2⟩) (List.any_eq_true.mpr ⟨x3, y3, z3⟩)
      have h2 := lcS_pure (i := 13) (g := gnm 20) (t := T_law_5) (m := M_law_5) (vs := [20]) (ρ := [some (.dat sc), some (.box true (.lst bag)), j2, some (.dat dt), some (.dat (encSt one)), some (.dat (encSt other)), some (.dat (encSt third)), some (.dat (encSt less)), some (.dat (encSt both)), some (.dat (encSt all)), some (.dat (encSt rest)), j11, j12, some (.box true (.lst [tupS L1, tupS L2, tupS L3])), some (.dat (tupS S)), j15, none, some (.dat (encSt m)), none, none, none]) tupS (fun _ => none) [L1, L2, L3] (by decide) rfl (fun lot hlot => by
        obtain ⟨q1, q2⟩ := hl3 lot hlot
        have G1 := is_met_ok (x := .dat (tupS lot)) (F := lot) (.inr (.inl rfl)) (s := m) hc.nd (fun x hx => by have := (q2 x hx).len; omega) (by omega)
        rw [e1 lot hlot] at G1
        refine ⟨_, false, rfl, rfl, ?_, rfl⟩
        unfold T_law_5
        simp only [tupS] at G1
        simp [sizeLine_eq, startE, argA, bxIx, back, newC, notBor, bxAt, restE, noBx, lstB, lstAt, isNoD, tupS, G1]) (by rw [sizeLine_eq]; simp)
      refine ⟨_, false, rfl, rfl, ?_, rfl⟩
      have e2 : neD (.list []) (.list []) = some (.dat (.bool false)) := by
        have := ne_nil (ds := []) rfl (fun _ m => nomatch m)
        simpa using this
      unfold T_law_6
      simp at h2
      simp [sizeLine_eq, startE, argA, bxIx, back, newC, notBor, bxAt, restE, noBx, lstB, lstAt, isNoD, h2, e2]) (by rw [sizeLine_eq]; omega)
    rw [h]
    simp
end
end K21

namespace K21
open PySem PySem.Spec PyProof.Rows L3
/-- the environment of the law, slots that aren't lent -/
def LaOk (sc : D) (ρ : En) : Prop := ∃ (bag : List D) (j2 j3 j4 j5 j6 j7 j8 j9 j10 j11 j12 j13 j14 j15 : Option A), ρ = [some (.dat sc), some (.box true (.lst bag)), j2, j3, j4, j5, j6, j7, j8, j9, j10, j11, j12, j13, j14, j15, none, none, none, none, none] ∧ BagOk bag ∧ nbA j2 = true ∧ nbA j3 = true ∧ nbA j4 = true ∧ nbA j5 = true ∧ nbA j6 = true ∧ nbA j7 = true ∧ nbA j8 = true ∧ nbA j9 = true ∧ nbA j10 = true ∧ nbA j11 = true ∧ nbA j12 = true ∧ nbA j13 = true ∧ nbA j14 = true ∧ nbA j15 = true
theorem rev_own {ρ : En} {i : Nat} {o : Bool} {ds : List D} (h : ρ[i]?.join = some (.box o (.lst ds))) : mrev (mvar i) ρ = some (.new (.lst ds.reverse), ρ) := by
  unfold mrev mvar
  rw [h]
  show (Option.map A.vw ρ[i]?.join).bind _ = _
  rw [h]
  rfl
theorem round_ok (sc : D) {ρ : En} (h : LaOk sc ρ) : ∃ ρ', L_law_7 ρ = some (.nx, ρ') ∧ LaOk sc ρ' := by
  obtain ⟨bag, j2, j3, j4, j5, j6, j7, j8, j9, j10, j11, j12, j13, j14, j15, rfl, hb, n2, n3, n4, n5, n6, n7, n8, n9, n10, n11, n12, n13, n14, n15⟩ := h
  obtain ⟨mo, bag1, r1, r2, r3, r4, _⟩ := some_nums hb (l := [.int 6, .int 4, .int 9]) (B := 9) (by simp) (by simp) (by
    intro d hd
    simp only [List.mem_cons, List.not_mem_nil, or_false] at hd
    rcases hd with rfl | rfl | rfl
    · exact ⟨6, rfl, by decide, by decide⟩
    · exact ⟨4, rfl, by decide, by decide⟩
    · exact ⟨9, rfl, by decide, by decide⟩)
  obtain ⟨ds, bag2, t1, t2, t3, t4⟩ := library_ok r2 r3 (by omega)
  have O := once_ok (ds := ds) (by omega) t4
  have hN := kd_names t4.names
  have hKl : (kdT ds).length ≤ 10 := Nat.le_trans (kd_len ds) t3
  obtain ⟨sts, bag3, d1, d2, d3, d4⟩ := la_stocks sc (.tuple (ds.map encDc)) O rfl rfl t3 t2 j2 j4 j5 j6 j7 j8 j9 j10 j11 j12 j13 j14 j15
  obtain ⟨one, other, third, less, rfl⟩ := list4 d3
  have c1 := d4 one (by simp)
  have c2 := d4 other (by simp)
  have c3 := d4 third (by simp)
  have c4 := d4 less (by simp)
  clear d4 d3
  generalize osT ds = os at O c1 c2 c3 c4
  generalize hK : kdT ds = K at O c1 c2 c3 c4 hN hKl
  generalize hdt : PyData.tuple (ds.map encDc) = dt at O t1 d1
  have p0 : (0 : Int) ≤ 3 := by decide
  have s1 := c1.cs p0
  have s2 := c2.cs p0
  have s3 := c3.cs p0
  have s4 := c4.cs p0
  have l1 := c1.len
  have l2 := c2.len
  have l3 := c3.len
  have l4 := c4.len
  have cb : Cn os K 6 (sumS os [one, other]) := sum2_cn p0 p0 c1 c2
  have ca : Cn os K 9 (sumS os [one, other, third]) := sum3_cn p0 c1 c2 c3
  have e3 := sum3_eq p0 c1 c2 c3
  have A1 := added_ok O (x := .dat (.list [encSt one, encSt other])) (sts := [one, other]) (.inl rfl) (by simp [totalL]; omega)
  have A2 := added_ok O (x := .dat (.list [encSt one, encSt other, encSt third])) (sts := [one, other, third]) (.inl rfl) (by simp [totalL]; omega)
  have A4 := added_ok O (x := .dat (.list [encSt third, encSt other, encSt one])) (sts := [third, other, one]) (.inl rfl) (by simp [totalL]; omega)
  change p_added _ = some (R.dat (encSt (sumS os [one, other])), _) at A1
  change p_added _ = some (R.dat (encSt (sumS os [one, other, third])), _) at A2
  change p_added _ = some (R.dat (encSt (sumS os [third, other, one])), _) at A4
  rw [sum3_rev p0 c1 c2 c3] at A4
  have lb := cb.len
  have A3 := added_ok O (x := .dat (.list [encSt (sumS os [one, other]), encSt third])) (sts := [sumS os [one, other], third]) (.inl rfl) (by simp [totalL]; omega)
  change p_added _ = some (R.dat (encSt (sumS os [sumS os [one, other], third])), _) at A3
  rw [← e3] at A3
  have g1 : geT (sumS os [one, other]) one = true := ge_left add_mono s1 s2
  have g2 : geT (sumS os [one, other, third]) (sumS os [one, other]) = true := by rw [e3]; exact ge_left add_mono (sum2_cs s1 s2) s3
  have g3 : geT (sumS os [one, other, third]) other = true := geS_trans (ca.cs (by decide)) (cb.cs (by decide)) s2 g2 (ge_right add_mono s1 s2)
  have g4 := geS_refl s1
  have J1 := joined_ok (x := .dat (.list [encSt other, encSt third])) (sts := [other, third]) (.inl rfl) (by simp [totalL]; omega)
  change p_joined _ = some (R.dat (encSt (joinS [other, third])), _) at J1
  have cj := join2_cn (by decide) c2 c3
  have lj := cj.len
  have J2 := joined_ok (x := .dat (.list [encSt one, encSt (joinS [other, third])])) (sts := [one, joinS [other, third]]) (.inl rfl) (by simp [totalL]; omega)
  change p_joined _ = some (R.dat (encSt (joinS [one, joinS [other, third]])), _) at J2
  have J3 := joined_ok (x := .dat (.list [encSt third, encSt one, encSt other])) (sts := [third, one, other]) (.inl rfl) (by simp [totalL]; omega)
  change p_joined _ = some (R.dat (encSt (joinS [third, one, other])), _) at J3
  rw [join3_eq (by decide) c1 c2 c3] at J2
  have cj3 : Cn os K 3 (joinS [third, one, other]) := join_cn (by decide) (mem3S c3 c1 c2)
  have J4 := joined_ok (x := .dat (.list [encSt one, encSt other])) (sts := [one, other]) (.inl rfl) (by simp [totalL]; omega)
  change p_joined _ = some (R.dat (encSt (joinS [one, other])), _) at J4
  have g5 := join_le s1 s2
  have cjo := join2_cn (by decide) c1 c2
  have hks : ∀ p ∈ other, p.1 ∈ keyT (sumS os [one, other]) := fun p hp => mem_keys (by
    have h1 := (geS_iff (cb.cs (by decide)) s2).mp (ge_right add_mono s1 s2) p.1
    have h2 := keys_pos c2 (List.mem_map.mpr ⟨p, hp, rfl⟩)
    omega)
  have T1 := taken_ok O (one := sumS os [one, other]) (other := other) cb.nd (by omega) hks
  change p_taken _ = some (R.dat (encSt (tkS os (sumS os [one, other]) other)), _) at T1
  have ct := tk_cn (by decide) cb c2
  have lt := ct.len
  have g6 := tk_ge (by decide) p0 cb c2
  have A5 := added_ok O (x := .dat (.list [encSt (tkS os (sumS os [one, other]) other), encSt other])) (sts := [tkS os (sumS os [one, other]) other, other]) (.inl rfl) (by simp [totalL]; omega)
  change p_added _ = some (R.dat (encSt (sumS os [tkS os (sumS os [one, other]) other, other])), _) at A5
  have cat := sum2_cn (os := os) (by decide) p0 ct c2
  have W1 := without_ok O (one := one) (other := other) c1.nd (by omega)
  change p_without _ = some (R.dat (encSt (restS os one other)), _) at W1
  have cr := rest_cn p0 c1 c2
  have lr := cr.len
  have A6 := added_ok O (x := .dat (.list [encSt (restS os one other), encSt other])) (sts := [restS os one other, other]) (.inl rfl) (by simp [totalL]; omega)
  change p_added _ = some (R.dat (encSt (sumS os [restS os one other, other])), _) at A6
  have car := sum2_cn (os := os) p0 p0 cr c2
  have g7 := rest_ge p0 c1 c2
  have g8 := ge_rest p0 c1 c2
  have hsh : ∀ {B : Int} {st : St}, Cn os K B st → B ≤ 1000 → Sh st := fun h hB => (sh_cn hN h hB hKl).1
  have D1 := alike_ok (d := .list [encSt (sumS os [one, other, third]), encSt (sumS os [one, other, third]), encSt (joinS [third, one, other])]) (y := .dat (.list [encSt (sumS os [one, other, third]), encSt (sumS os [one, other, third]), encSt (joinS [third, one, other])])) (show_list (sts := [_, _, _]) (three_mem (hsh ca (by decide)) (hsh ca (by decide)) (hsh cj3 (by decide))) (by simp)) rfl (.inl rfl)
  have E1 := is_above_ok (one := one) (other := other) c1.nd (by omega)
  have E2 := is_above_ok (one := other) (other := one) c2.nd (by omega)
  have hr : restS os one other = restS os one other := rfl
  obtain ⟨i11, i12, i15, R1, R2, R3, R4⟩ := rest_loop sc dt bag3 j2 one other third less (sumS os [one, other]) (sumS os [one, other, third]) (restS os one other) O hKl c1 c2 rfl j13 j14 (restS os one other) j11 j12 j15 (fun _ m => m) n11 n12 n15
  obtain ⟨L1, L2, L3, S, J, m3, X1, X2, X3, X4, X5, ⟨P, X6, X7⟩, X8, X9, X10, X11, X12, X13⟩ := lots_part sc dt O hN hKl bag3 j2 (both := sumS os [one, other]) (rest := restS os one other) c1 c2 c3 c4 ca i11 i12 (some (.box true (.lst []))) (some (.dat .none)) i15 rfl rfl
  have X12' := X12 _ rfl
  have X13' := X13 _ rfl
  have B1 := is_above_ok (one := sumS os [one, other]) (other := one) cb.nd (by omega)
  have B2 := is_above_ok (one := sumS os [one, other, third]) (other := sumS os [one, other]) ca.nd (by omega)
  have B3 := is_above_ok (one := sumS os [one, other, third]) (other := other) ca.nd (by omega)
  have B4 := is_above_ok (one := one) (other := one) c1.nd (by omega)
  have B5 := is_above_ok (one := sumS os [one, other]) (other := joinS [one, other]) cb.nd (by have := cjo.len; omega)
  have B6 := is_above_ok (one := sumS os [tkS os (sumS os [one, other]) other, other]) (other := sumS os [one, other]) cat.nd (by omega)
  have B7 := is_above_ok (one := sumS os [restS os one other, other]) (other := one) car.nd (by omega)
  have B8 := is_above_ok (one := one) (other := restS os one other) c1.nd (by omega)
  rw [g1] at B1
  rw [g2] at B2
  rw [g3] at B3
  rw [g4] at B4
  rw [g5] at B5
  rw [g6] at B6
  rw [g7] at B7
  rw [g8] at B8
  have shO := (hsh c2 (by decide)).show
  have anti : geT one other = true → geT other one = true → one = other := fun h1 h2 => geS_antisymm s1 s2 h1 h2
  generalize sumS os [tkS os (sumS os [one, other]) other, other] = at1 at A5 B6
  generalize sumS os [restS os one other, other] = ro at A6 B7
  generalize restS os one other = rest at *
  generalize tkS os (sumS os [one, other]) other = tk at *
  generalize sumS os [one, other, third] = all at *
  generalize sumS os [one, other] = both at *
  generalize joinS [third, one, other] = j3 at *
  generalize joinS [one, other] = jo at *
  generalize joinS [other, third] = jot at *
  have N0 : neD (.list []) (.list []) = some (.dat (.bool false)) := by
    have := ne_nil (ds := []) rfl (fun _ m => nomatch m)
    simpa using this
  have V1 : slD (.list [tupS L1, tupS L2, tupS L3]) none (some 2) = some (.new (.lst [tupS L1, tupS L2])) := rfl
  have V2 : ixD (.list [tupS L1, tupS L2, tupS L3]) (.int 2) = some (.dat (tupS L3)) := rfl
  refine ⟨[some (.dat sc), some (.box true (.lst bag3)), j2, some (.dat dt), some (.dat (encSt one)), some (.dat (encSt other)), some (.dat (encSt third)), some (.dat (encSt less)), some (.dat (encSt both)), some (.dat (encSt all)), some (.dat (encSt rest)), i11, i12, some (.box true (.lst [tupS L1, tupS L2, tupS L3])), some (.dat (tupS S)), i15, none, none, none, none, none], ?_, bag3, j2, _, _, _, _, _, _, _, _, i11, i12, _, _, i15, rfl, d2, n2, rfl, rfl, rfl, rfl, rfl, rfl, rfl, rfl, R2, R3, rfl, rfl, R4⟩
  have rv : ∀ (a0 a1 a2 a3 a4 a5 a6 a7 a8 a9 a10 a11 a12 a14 a15 a16 a17 a18 a19 a20 : Option A), mrev (mvar 13) [a0, a1, a2, a3, a4, a5, a6, a7, a8, a9, a10, a11, a12, some (A.box true (.lst [tupS L1, tupS L2, tupS L3])), a14, a15, a16, a17, a18, a19, a20] = some (.new (.lst [tupS L3, tupS L2, tupS L1]), [a0, a1, a2, a3, a4, a5, a6, a7, a8, a9, a10, a11, a12, some (A.box true (.lst [tupS L1, tupS L2, tupS L3])), a14, a15, a16, a17, a18, a19, a20]) := fun _ _ _ _ _ _ _ _ _ _ _ _ _ _ _ _ _ _ _ _ => rev_own (i := 13) (o := true) (ds := [tupS L1, tupS L2, tupS L3]) rfl
  have q1 : seqD (encSt rest) = some (rest.map (encP PyData.int)) := rfl
  have q2 : seqD (tupS S) = some (S.map encSt) := rfl
  have q3 : seqD (tupS J) = some (J.map encSt) := rfl
  simp only [laE, lvE, List.map_cons, List.map_nil] at d1 R1 X12' X13'
  unfold L_law_7
  by_cases h1 : geT one other = true
  · rw [h1] at E1
    by_cases h2 : geT other one = true
    · rw [h2] at E2
      have e := anti h1 h2
      have N1 := ne_show shO
      rw [← e] at N1
      simp only [← e] at *
      simp [sizeLine_eq, startE, argA, bxIx, back, newC, bxAt, restE, noBx, lstB, lstAt, isNoD, notBor_eq, nb_none, nb_dat, nb_own, glst_list, r1, t1, d1, A1, A2, A3, A4, A5, A6, B1, B2, B3, B4, B5, B6, B7, B8, J1, J2, J3, J4, T1, W1, D1, E1, E2, N1, N0, R1, V1, V2, rv, q1, q2, q3, X1, X2, X3, X4, X5, X6, X7, X8, X9, X10, X11, X12', X13', n3, n4, n5, n6, n7, n8, n9, n10, n13, n14, R2, R3, R4]
    · have h2' : geT other one = false := by simpa using h2
      rw [h2'] at E2
      simp [sizeLine_eq, startE, argA, bxIx, back, newC, bxAt, restE, noBx, lstB, lstAt, isNoD, notBor_eq, nb_none, nb_dat, nb_own, glst_list, r1, t1, d1, A1, A2, A3, A4, A5, A6, B1, B2, B3, B4, B5, B6, B7, B8, J1, J2, J3, J4, T1, W1, D1, E1, E2, N0, R1, V1, V2, rv, q1, q2, q3, X1, X2, X3, X4, X5, X6, X7, X8, X9, X10, X11, X12', X13', n3, n4, n5, n6, n7, n8, n9, n10, n13, n14, R2, R3, R4]
  · have h1' : geT one other = false := by simpa using h1
    rw [h1'] at E1
    simp [sizeLine_eq, startE, argA, bxIx, back, newC, bxAt, restE, noBx, lstB, lstAt, isNoD, notBor_eq, nb_none, nb_dat, nb_own, glst_list, r1, t1, d1, A1, A2, A3, A4, A5, A6, B1, B2, B3, B4, B5, B6, B7, B8, J1, J2, J3, J4, T1, W1, D1, E1, N0, R1, V1, V2, rv, q1, q2, q3, X1, X2, X3, X4, X5, X6, X7, X8, X9, X10, X11, X12', X13', n3, n4, n5, n6, n7, n8, n9, n10, n13, n14, R2, R3, R4]
theorem law_true (ns : List Int) (h : ns.length ≤ 63) : ∃ outs, p_law [.dat (.list (ns.map PyData.int))] = some (.dat (.bool true), outs) ∧ outs.map isBx = [false] := by
  obtain ⟨bag, b1, b2⟩ := bag_ok ns h
  obtain ⟨ρ', f1, f2⟩ := forI_run (g := gnm 2) (b := L_law_7) (P := fun _ ρ => LaOk (.list (ns.map PyData.int)) ρ) (fun d r ρ hP => by
    obtain ⟨bag, j2, j3, j4, j5, j6, j7, j8, j9, j10, j11, j12, j13, j14, j15, rfl, hb, n2, n3⟩ := hP
    obtain ⟨ρ', h1, h2⟩ := round_ok (.list (ns.map PyData.int)) ⟨bag, some (.dat d), j3, j4, j5, j6, j7, j8, j9, j10, j11, j12, j13, j14, j15, rfl, hb, rfl, n3⟩
    refine ⟨_, .nx, ρ', ?_, h1, .inl rfl, h2⟩
    simp [sizeLine_eq, startE, argA, bxIx, back, newC, bxAt, restE, noBx, lstB, lstAt, isNoD, notBor_eq, nb_none, nb_dat, nb_own, n2]) (rngD 0 3) [some (.dat (.list (ns.map PyData.int))), some (.box true (.lst bag)), none, none, none, none, none, none, none, none, none, none, none, none, none, none, none, none, none, none, none] ⟨bag, none, none, none, none, none, none, none, none, none, none, none, none, none, none, rfl, b2, rfl, rfl, rfl, rfl, rfl, rfl, rfl, rfl, rfl, rfl, rfl, rfl, rfl, rfl⟩
  obtain ⟨bag', j2, j3, j4, j5, j6, j7, j8, j9, j10, j11, j12, j13, j14, j15, rfl, _⟩ := f2
  refine ⟨[.dat (.list (ns.map PyData.int))], ?_, rfl⟩
  unfold p_law b_law
  simp [sizeLine_eq, startE, argA, bxIx, back, newC, bxAt, restE, noBx, lstB, lstAt, isNoD, notBor_eq, nb_none, nb_dat, nb_own, b1, f1]
end K21

namespace K21
open PySem PySem.Spec PyProof.Rows L2 L3
def topS (i : Nat) : Stmt := PySem.Challenge.pw_endsahead_k21_whole_an_order_and_what_ke.main.body.getD i (.Pass ⟨0, 0, 0, 0⟩)
abbrev s__law_alike : Stmt := topS 21
theorem sc__law_alike : FnScope ["_law_found", "_law_due"] ["_law_found", "_law_due"] (defScope s__law_alike) := ⟨rfl, rfl, rfl, by decide +kernel, rfl, by decide +kernel, by decide +kernel⟩
abbrev s__law_bag : Stmt := topS 17
theorem sc__law_bag : FnScope ["_law_script", "_law_cell"] ["_law_script"] (defScope s__law_bag) := ⟨rfl, rfl, rfl, by decide +kernel, rfl, by decide +kernel, by decide +kernel⟩
abbrev s__law_kinds : Stmt := topS 24
theorem sc__law_kinds : FnScope ["_law_decls", "_law_decl"] ["_law_decls"] (defScope s__law_kinds) := ⟨rfl, rfl, rfl, by decide +kernel, rfl, by decide +kernel, by decide +kernel⟩
abbrev s__law_declared_kinds : Stmt := topS 30
theorem sc__law_declared_kinds : FnScope ["_law_decls"] ["_law_decls"] (defScope s__law_declared_kinds) := ⟨rfl, rfl, rfl, by decide +kernel, rfl, by decide +kernel, by decide +kernel⟩
abbrev s__law_parts : Stmt := topS 25
theorem sc__law_parts : FnScope ["_law_decl", "_law_name", "_law_kind"] ["_law_decl"] (defScope s__law_parts) := ⟨rfl, rfl, rfl, by decide +kernel, rfl, by decide +kernel, by decide +kernel⟩
abbrev s__law_once_table : Stmt := topS 26
theorem sc__law_once_table : FnScope ["_law_decls", "_law_found", "_law_decl", "_law_part"] ["_law_decls"] (defScope s__law_once_table) := ⟨rfl, rfl, rfl, by decide +kernel, rfl, by decide +kernel, by decide +kernel⟩
abbrev s__law_is_once : Stmt := topS 27
theorem sc__law_is_once : FnScope ["_law_decls", "_law_kind"] ["_law_decls", "_law_kind"] (defScope s__law_is_once) := ⟨rfl, rfl, rfl, by decide +kernel, rfl, by decide +kernel, by decide +kernel⟩
abbrev s__law_take : Stmt := topS 18
theorem sc__law_take : FnScope ["_law_bag_here", "_law_many", "_law_begin", "_law_second", "_law_cell", "_law_stirred", "_law_value"] ["_law_bag_here", "_law_many"] (defScope s__law_take) := ⟨rfl, rfl, rfl, by decide +kernel, rfl, by decide +kernel, by decide +kernel⟩
abbrev s__law_some : Stmt := topS 19
theorem sc__law_some : FnScope ["_law_bag_here", "_law_things"] ["_law_bag_here", "_law_things"] (defScope s__law_some) := ⟨rfl, rfl, rfl, by decide +kernel, rfl, by decide +kernel, by decide +kernel⟩
abbrev s__law_stock : Stmt := topS 31
theorem sc__law_stock : FnScope ["_law_counts", "_law_kind"] ["_law_counts"] (defScope s__law_stock) := ⟨rfl, rfl, rfl, by decide +kernel, rfl, by decide +kernel, by decide +kernel⟩
abbrev s__law_drawn_stock : Stmt := topS 32
theorem sc__law_drawn_stock : FnScope ["_law_bag_here", "_law_decls", "_law_found", "_law_kind", "_law_many"] ["_law_bag_here", "_law_decls"] (defScope s__law_drawn_stock) := ⟨rfl, rfl, rfl, by decide +kernel, rfl, by decide +kernel, by decide +kernel⟩
abbrev s__law_declared : Stmt := topS 23
theorem sc__law_declared : FnScope ["_law_decls", "_law_found", "_law_decl", "_law_arm", "_law_kind"] ["_law_decls"] (defScope s__law_declared) := ⟨rfl, rfl, rfl, by decide +kernel, rfl, by decide +kernel, by decide +kernel⟩
abbrev s__law_is_within : Stmt := topS 33
theorem sc__law_is_within : FnScope ["_law_decls", "_law_table", "_law_many", "_law_decl", "_law_once", "_law_part"] ["_law_decls"] (defScope s__law_is_within) := ⟨rfl, rfl, rfl, by decide +kernel, rfl, by decide +kernel, by decide +kernel⟩
abbrev s__law_mixed : Stmt := topS 20
theorem sc__law_mixed : FnScope ["_law_bag_here", "_law_things", "_law_found", "_law_thing"] ["_law_bag_here", "_law_things"] (defScope s__law_mixed) := ⟨rfl, rfl, rfl, by decide +kernel, rfl, by decide +kernel, by decide +kernel⟩
abbrev s__law_new_name : Stmt := topS 22
theorem sc__law_new_name : FnScope ["_law_bag_here", "_law_had", "_law_menu", "_law_turn", "_law_at", "_law_name"] ["_law_bag_here", "_law_had"] (defScope s__law_new_name) := ⟨rfl, rfl, rfl, by decide +kernel, rfl, by decide +kernel, by decide +kernel⟩
abbrev s__law_shaped : Stmt := topS 28
theorem sc__law_shaped : FnScope ["_law_bag_here", "_law_decls", "_law_word", "_law_had", "_law_kinds_here", "_law_name", "_law_many", "_law_arms", "_law_turn", "_law_some_here", "_law_fields", "_law_arm", "_law_field", "_law_one", "_law_kind"] ["_law_bag_here", "_law_decls", "_law_word"] (defScope s__law_shaped) := ⟨rfl, rfl, rfl, by decide +kernel, rfl, by decide +kernel, by decide +kernel⟩
abbrev s__law_library : Stmt := topS 29
theorem sc__law_library : FnScope ["_law_bag_here", "_law_most", "_law_decls", "_law_words", "_law_word", "_law_many", "_law_rest"] ["_law_bag_here", "_law_most"] (defScope s__law_library) := ⟨rfl, rfl, rfl, by decide +kernel, rfl, by decide +kernel, by decide +kernel⟩
abbrev s_stock_by : Stmt := topS 4
theorem sc_stock_by : FnScope ["counts", "kind"] ["counts"] (defScope s_stock_by) := ⟨rfl, rfl, rfl, by decide +kernel, rfl, by decide +kernel, by decide +kernel⟩
abbrev s_added_by : Stmt := topS 6
theorem sc_added_by : FnScope ["once", "stocks", "counts", "stock", "kind", "count"] ["once", "stocks"] (defScope s_added_by) := ⟨rfl, rfl, rfl, by decide +kernel, rfl, by decide +kernel, by decide +kernel⟩
abbrev s_once_table : Stmt := topS 1
theorem sc_once_table : FnScope ["declarations", "found", "tree", "_name", "part"] ["declarations"] (defScope s_once_table) := ⟨rfl, rfl, rfl, by decide +kernel, rfl, by decide +kernel, by decide +kernel⟩
abbrev s_once_kinds : Stmt := topS 2
theorem sc_once_kinds : FnScope ["declarations", "table", "kind"] ["declarations"] (defScope s_once_kinds) := ⟨rfl, rfl, rfl, by decide +kernel, rfl, by decide +kernel, by decide +kernel⟩
abbrev s_added : Stmt := topS 7
theorem sc_added : FnScope ["declarations", "stocks"] ["declarations", "stocks"] (defScope s_added) := ⟨rfl, rfl, rfl, by decide +kernel, rfl, by decide +kernel, by decide +kernel⟩
abbrev s_is_above : Stmt := topS 5
theorem sc_is_above : FnScope ["one", "other", "counts", "kind", "count"] ["one", "other"] (defScope s_is_above) := ⟨rfl, rfl, rfl, by decide +kernel, rfl, by decide +kernel, by decide +kernel⟩
abbrev s_is_met : Stmt := topS 13
theorem sc_is_met : FnScope ["lot", "stock", "member"] ["lot", "stock"] (defScope s_is_met) := ⟨rfl, rfl, rfl, by decide +kernel, rfl, by decide +kernel, by decide +kernel⟩
abbrev s_joined : Stmt := topS 8
theorem sc_joined : FnScope ["stocks", "counts", "stock", "kind", "count"] ["stocks"] (defScope s_joined) := ⟨rfl, rfl, rfl, by decide +kernel, rfl, by decide +kernel, by decide +kernel⟩
abbrev s_least_of : Stmt := topS 12
theorem sc_least_of : FnScope ["stocks", "found", "stock", "other"] ["stocks"] (defScope s_least_of) := ⟨rfl, rfl, rfl, by decide +kernel, rfl, by decide +kernel, by decide +kernel⟩
abbrev s_joins_of : Stmt := topS 15
theorem sc_joins_of : FnScope ["lots", "found", "lot", "one", "other"] ["lots"] (defScope s_joins_of) := ⟨rfl, rfl, rfl, by decide +kernel, rfl, by decide +kernel, by decide +kernel⟩
abbrev s_sums_of : Stmt := topS 14
theorem sc_sums_of : FnScope ["declarations", "lots", "once", "found", "lot", "one", "other"] ["declarations", "lots"] (defScope s_sums_of) := ⟨rfl, rfl, rfl, by decide +kernel, rfl, by decide +kernel, by decide +kernel⟩
abbrev s_taken : Stmt := topS 9
theorem sc_taken : FnScope ["declarations", "one", "other", "once", "counts", "kind", "count"] ["declarations", "one", "other"] (defScope s_taken) := ⟨rfl, rfl, rfl, by decide +kernel, rfl, by decide +kernel, by decide +kernel⟩
abbrev s_without_by : Stmt := topS 10
theorem sc_without_by : FnScope ["once", "one", "other", "counts", "kind", "count"] ["once", "one", "other"] (defScope s_without_by) := ⟨rfl, rfl, rfl, by decide +kernel, rfl, by decide +kernel, by decide +kernel⟩
abbrev s_without : Stmt := topS 11
theorem sc_without : FnScope ["declarations", "one", "other"] ["declarations", "one", "other"] (defScope s_without) := ⟨rfl, rfl, rfl, by decide +kernel, rfl, by decide +kernel, by decide +kernel⟩
abbrev s_law : Stmt := topS 34
theorem sc_law : FnScope ["_law_script", "_law_bag_here", "_law_turn", "_law_decls", "_law_one", "_law_other", "_law_third", "_law_less", "_law_both", "_law_all_three", "_law_rest", "_law_kind", "_law_count", "_law_lots", "_law_sums", "_law_fewer", "_law_k", "_law_some_here", "_law_name", "_law_many", "_law_lot"] ["_law_script"] (defScope s_law) := ⟨rfl, rfl, rfl, by decide +kernel, rfl, by decide +kernel, by decide +kernel⟩
/-- what the top has written -/
structure Fx (G : GC) where
  f__law_alike : Addr
  d__law_alike : FuncData
  F__law_alike : Fun G.K "_law_alike" "_law_alike" s__law_alike f__law_alike d__law_alike
  g__law_alike : G.mg "_law_alike" = some (.ref f__law_alike)
  b__law_alike : Binds G.K d__law_alike ["_law_found", "_law_due"] []
  f__law_bag : Addr
  d__law_bag : FuncData
  F__law_bag : Fun G.K "_law_bag" "_law_bag" s__law_bag f__law_bag d__law_bag
  g__law_bag : G.mg "_law_bag" = some (.ref f__law_bag)
  b__law_bag : Binds G.K d__law_bag ["_law_script"] []
  f__law_kinds : Addr
  d__law_kinds : FuncData
  F__law_kinds : Fun G.K "_law_kinds" "_law_kinds" s__law_kinds f__law_kinds d__law_kinds
  g__law_kinds : G.mg "_law_kinds" = some (.ref f__law_kinds)
  b__law_kinds : Binds G.K d__law_kinds ["_law_decls"] []
  f__law_declared_kinds : Addr
  d__law_declared_kinds : FuncData
  F__law_declared_kinds : Fun G.K "_law_declared_kinds" "_law_declared_kinds" s__law_declared_kinds f__law_declared_kinds d__law_declared_kinds
  g__law_declared_kinds : G.mg "_law_declared_kinds" = some (.ref f__law_declared_kinds)
  b__law_declared_kinds : Binds G.K d__law_declared_kinds ["_law_decls"] []
  f__law_parts : Addr
  d__law_parts : FuncData
  F__law_parts : Fun G.K "_law_parts" "_law_parts" s__law_parts f__law_parts d__law_parts
  g__law_parts : G.mg "_law_parts" = some (.ref f__law_parts)
  b__law_parts : Binds G.K d__law_parts ["_law_decl"] []
  f__law_once_table : Addr
  d__law_once_table : FuncData
  F__law_once_table : Fun G.K "_law_once_table" "_law_once_table" s__law_once_table f__law_once_table d__law_once_table
  g__law_once_table : G.mg "_law_once_table" = some (.ref f__law_once_table)
  b__law_once_table : Binds G.K d__law_once_table ["_law_decls"] []
  f__law_is_once : Addr
  d__law_is_once : FuncData
  F__law_is_once : Fun G.K "_law_is_once" "_law_is_once" s__law_is_once f__law_is_once d__law_is_once
  g__law_is_once : G.mg "_law_is_once" = some (.ref f__law_is_once)
  b__law_is_once : Binds G.K d__law_is_once ["_law_decls", "_law_kind"] []
  f__law_take : Addr
  d__law_take : FuncData
  F__law_take : Fun G.K "_law_take" "_law_take" s__law_take f__law_take d__law_take
  g__law_take : G.mg "_law_take" = some (.ref f__law_take)
  b__law_take : Binds G.K d__law_take ["_law_bag_here", "_law_many"] []
  f__law_some : Addr
  d__law_some : FuncData
  F__law_some : Fun G.K "_law_some" "_law_some" s__law_some f__law_some d__law_some
  g__law_some : G.mg "_law_some" = some (.ref f__law_some)
  b__law_some : Binds G.K d__law_some ["_law_bag_here", "_law_things"] []
  f__law_stock : Addr
  d__law_stock : FuncData
  F__law_stock : Fun G.K "_law_stock" "_law_stock" s__law_stock f__law_stock d__law_stock
  g__law_stock : G.mg "_law_stock" = some (.ref f__law_stock)
  b__law_stock : Binds G.K d__law_stock ["_law_counts"] []
  f__law_drawn_stock : Addr
  d__law_drawn_stock : FuncData
  F__law_drawn_stock : Fun G.K "_law_drawn_stock" "_law_drawn_stock" s__law_drawn_stock f__law_drawn_stock d__law_drawn_stock
  g__law_drawn_stock : G.mg "_law_drawn_stock" = some (.ref f__law_drawn_stock)
  b__law_drawn_stock : Binds G.K d__law_drawn_stock ["_law_bag_here", "_law_decls"] []
  f__law_declared : Addr
  d__law_declared : FuncData
  F__law_declared : Fun G.K "_law_declared" "_law_declared" s__law_declared f__law_declared d__law_declared
  g__law_declared : G.mg "_law_declared" = some (.ref f__law_declared)
  b__law_declared : Binds G.K d__law_declared ["_law_decls"] []
  f__law_is_within : Addr
  d__law_is_within : FuncData
  F__law_is_within : Fun G.K "_law_is_within" "_law_is_within" s__law_is_within f__law_is_within d__law_is_within
  g__law_is_within : G.mg "_law_is_within" = some (.ref f__law_is_within)
  b__law_is_within : Binds G.K d__law_is_within ["_law_decls"] []
  f__law_mixed : Addr
  d__law_mixed : FuncData
  F__law_mixed : Fun G.K "_law_mixed" "_law_mixed" s__law_mixed f__law_mixed d__law_mixed
  g__law_mixed : G.mg "_law_mixed" = some (.ref f__law_mixed)
  b__law_mixed : Binds G.K d__law_mixed ["_law_bag_here", "_law_things"] []
  f__law_new_name : Addr
  d__law_new_name : FuncData
  F__law_new_name : Fun G.K "_law_new_name" "_law_new_name" s__law_new_name f__law_new_name d__law_new_name
  g__law_new_name : G.mg "_law_new_name" = some (.ref f__law_new_name)
  b__law_new_name : Binds G.K d__law_new_name ["_law_bag_here", "_law_had"] []
  f__law_shaped : Addr
  d__law_shaped : FuncData
  F__law_shaped : Fun G.K "_law_shaped" "_law_shaped" s__law_shaped f__law_shaped d__law_shaped
  g__law_shaped : G.mg "_law_shaped" = some (.ref f__law_shaped)
  b__law_shaped : Binds G.K d__law_shaped ["_law_bag_here", "_law_decls", "_law_word"] []
  f__law_library : Addr
  d__law_library : FuncData
  F__law_library : Fun G.K "_law_library" "_law_library" s__law_library f__law_library d__law_library
  g__law_library : G.mg "_law_library" = some (.ref f__law_library)
  b__law_library : Binds G.K d__law_library ["_law_bag_here", "_law_most"] []
  f_stock_by : Addr
  d_stock_by : FuncData
  F_stock_by : Fun G.K "stock_by" "stock_by" s_stock_by f_stock_by d_stock_by
  g_stock_by : G.mg "stock_by" = some (.ref f_stock_by)
  b_stock_by : Binds G.K d_stock_by ["counts"] []
  f_added_by : Addr
  d_added_by : FuncData
  F_added_by : Fun G.K "added_by" "added_by" s_added_by f_added_by d_added_by
  g_added_by : G.mg "added_by" = some (.ref f_added_by)
  b_added_by : Binds G.K d_added_by ["once", "stocks"] []
  f_once_table : Addr
  d_once_table : FuncData
  F_once_table : Fun G.K "once_table" "once_table" s_once_table f_once_table d_once_table
  g_once_table : G.mg "once_table" = some (.ref f_once_table)
  b_once_table : Binds G.K d_once_table ["declarations"] []
  f_once_kinds : Addr
  d_once_kinds : FuncData
  F_once_kinds : Fun G.K "once_kinds" "once_kinds" s_once_kinds f_once_kinds d_once_kinds
  g_once_kinds : G.mg "once_kinds" = some (.ref f_once_kinds)
  b_once_kinds : Binds G.K d_once_kinds ["declarations"] []
  f_added : Addr
  d_added : FuncData
  F_added : Fun G.K "added" "added" s_added f_added d_added
  g_added : G.mg "added" = some (.ref f_added)
  b_added : Binds G.K d_added ["declarations", "stocks"] []
  f_is_above : Addr
  d_is_above : FuncData
  F_is_above : Fun G.K "is_above" "is_above" s_is_above f_is_above d_is_above
  g_is_above : G.mg "is_above" = some (.ref f_is_above)
  b_is_above : Binds G.K d_is_above ["one", "other"] []
  f_is_met : Addr
  d_is_met : FuncData
  F_is_met : Fun G.K "is_met" "is_met" s_is_met f_is_met d_is_met
  g_is_met : G.mg "is_met" = some (.ref f_is_met)
  b_is_met : Binds G.K d_is_met ["lot", "stock"] []
  f_joined : Addr
  d_joined : FuncData
  F_joined : Fun G.K "joined" "joined" s_joined f_joined d_joined
  g_joined : G.mg "joined" = some (.ref f_joined)
  b_joined : Binds G.K d_joined ["stocks"] []
  f_least_of : Addr
  d_least_of : FuncData
  F_least_of : Fun G.K "least_of" "least_of" s_least_of f_least_of d_least_of
  g_least_of : G.mg "least_of" = some (.ref f_least_of)
  b_least_of : Binds G.K d_least_of ["stocks"] []
  f_joins_of : Addr
  d_joins_of : FuncData
  F_joins_of : Fun G.K "joins_of" "joins_of" s_joins_of f_joins_of d_joins_of
  g_joins_of : G.mg "joins_of" = some (.ref f_joins_of)
  b_joins_of : Binds G.K d_joins_of ["lots"] []
  f_sums_of : Addr
  d_sums_of : FuncData
  F_sums_of : Fun G.K "sums_of" "sums_of" s_sums_of f_sums_of d_sums_of
  g_sums_of : G.mg "sums_of" = some (.ref f_sums_of)
  b_sums_of : Binds G.K d_sums_of ["declarations", "lots"] []
  f_taken : Addr
  d_taken : FuncData
  F_taken : Fun G.K "taken" "taken" s_taken f_taken d_taken
  g_taken : G.mg "taken" = some (.ref f_taken)
  b_taken : Binds G.K d_taken ["declarations", "one", "other"] []
  f_without_by : Addr
  d_without_by : FuncData
  F_without_by : Fun G.K "without_by" "without_by" s_without_by f_without_by d_without_by
  g_without_by : G.mg "without_by" = some (.ref f_without_by)
  b_without_by : Binds G.K d_without_by ["once", "one", "other"] []
  f_without : Addr
  d_without : FuncData
  F_without : Fun G.K "without" "without" s_without f_without d_without
  g_without : G.mg "without" = some (.ref f_without)
  b_without : Binds G.K d_without ["declarations", "one", "other"] []
  f_law : Addr
  d_law : FuncData
  F_law : Fun G.K "law" "law" s_law f_law d_law
  g_law : G.mg "law" = some (.ref f_law)
  b_law : Binds G.K d_law ["_law_script"] []
  z_abs : G.mg "abs" = none
  z_all : G.mg "all" = none
  z_any : G.mg "any" = none
  z_dict : G.mg "dict" = none
  z_int : G.mg "int" = none
  z_len : G.mg "len" = none
  z_list : G.mg "list" = none
  z_max : G.mg "max" = none
  z_min : G.mg "min" = none
  z_range : G.mg "range" = none
  z_repr : G.mg "repr" = none
  z_sorted : G.mg "sorted" = none
  z_str : G.mg "str" = none
  z_tuple : G.mg "tuple" = none
theorem dss__law_alike {G : GC} (Y : Fx G) : DSs G ⟨["_law_found", "_law_due"], defScope s__law_alike, fun _ => true, 0⟩ (defBody s__law_alike) b__law_alike :=
    (dss_one (ds_ret (de_and (de_cmp op_eqD' (de_name 0 rfl (vis_of rfl) rfl rfl) (de_name 1 rfl (vis_of rfl) rfl rfl) rfl) (de_one (de_cmp op_eqD' (de_callB call_reprD rfl Y.z_repr rfl (da_cons (de_name 0 rfl (vis_of rfl) rfl rfl) da_nil (fun _ => rfl)) (by decide) rfl (fun _ => rfl) (fun _ => rfl)) (de_callB call_reprD rfl Y.z_repr rfl (da_cons (de_name 1 rfl (vis_of rfl) rfl rfl) da_nil (fun _ => rfl)) (by decide) rfl (fun _ => rfl) (fun _ => rfl)) rfl)))))
theorem ok__law_alike {G : GC} (Y : Fx G) : FnG G 1 Y.f__law_alike Y.d__law_alike ["_law_found", "_law_due"] (spM G.K 2 m_law_alike) := fn_m Y.F__law_alike sc__law_alike (dss__law_alike Y)
theorem dss__law_bag {G : GC} (Y : Fx G) : DSs G ⟨["_law_script", "_law_cell"], defScope s__law_bag, fun _ => true, 0⟩ (defBody s__law_bag) b__law_bag :=
    (dss_one (ds_ret (de_lst (da_cons de_int (da_cons de_int (da_cons de_int (da_cons (de_lc (di_seqC (de_slice sl_D (de_name 0 rfl (vis_of rfl) rfl rfl) do_none (do_some de_int))) (blkOk_by (own := [("_law_cell", 1)]) (by decide +kernel)) (dg_name (sto_of rfl rfl)) dts_nil (de_callB call_absD rfl Y.z_abs rfl (da_cons (de_name 1 rfl (vis_of rfl) rfl rfl) da_nil (fun _ => rfl)) (by decide) rfl (fun _ => rfl) (fun _ => rfl)) (by decide) (gnm_stay 1) (fun _ _ => rfl)) da_nil (fun _ => rfl)) (fun _ => rfl)) (fun _ => rfl)) (fun _ => rfl)))))
theorem ok__law_bag {G : GC} (Y : Fx G) : FnG G 1 Y.f__law_bag Y.d__law_bag ["_law_script"] (spM G.K 1 m_law_bag) := fn_m Y.F__law_bag sc__law_bag (dss__law_bag Y)
theorem dss__law_kinds {G : GC} (Y : Fx G) : DSs G ⟨["_law_decls", "_law_decl"], defScope s__law_kinds, fun _ => true, 0⟩ (defBody s__law_kinds) b__law_kinds :=
    (dss_one (ds_ret (de_op op_addD (de_lst (da_cons de_str (da_cons de_str da_nil (fun _ => rfl)) (fun _ => rfl))) (de_lc (di_seqC (de_name 0 rfl (vis_of rfl) rfl rfl)) (blkOk_by (own := [("_law_decl", 1)]) (by decide +kernel)) (dg_name (sto_of rfl rfl)) (dts_one (dt_cmp op_inD' (de_ix ix_D (de_name 1 rfl (vis_of rfl) rfl rfl) de_int (fun _ _ => rfl)) (de_tup (da_cons de_str (da_cons de_str (da_cons de_str (da_cons de_str da_nil (fun _ => rfl)) (fun _ => rfl)) (fun _ => rfl)) (fun _ => rfl))) rfl)) (de_ix ix_D (de_name 1 rfl (vis_of rfl) rfl rfl) de_int (fun _ _ => rfl)) (by decide) (gnm_stay 1) (fun _ _ => rfl)))))
theorem ok__law_kinds {G : GC} (Y : Fx G) : FnG G 1 Y.f__law_kinds Y.d__law_kinds ["_law_decls"] (spM G.K 1 m_law_kinds) := fn_m Y.F__law_kinds sc__law_kinds (dss__law_kinds Y)
theorem dss__law_declared_kinds {G : GC} (Y : Fx G) : DSs G ⟨["_law_decls"], defScope s__law_declared_kinds, fun _ => true, 1⟩ (defBody s__law_declared_kinds) b__law_declared_kinds :=
    (dss_one (ds_ret (de_callB call_sortedD' rfl Y.z_sorted rfl (da_cons (de_slice sl_D (de_call (ok__law_kinds Y) (by decide) rfl Y.g__law_kinds Y.F__law_kinds.kp Y.b__law_kinds (da_cons (de_name 0 rfl (vis_of rfl) rfl rfl) da_nil (fun _ => rfl)) rfl (fun _ => rfl) (fun _ => rfl) rfl (mcons_len mnil_len)) (do_some de_int) do_none) da_nil (fun _ => rfl)) (by decide) rfl (fun _ => rfl) (fun _ => rfl))))
theorem ok__law_declared_kinds {G : GC} (Y : Fx G) : FnG G 2 Y.f__law_declared_kinds Y.d__law_declared_kinds ["_law_decls"] (spM G.K 1 m_law_declared_kinds) := fn_m Y.F__law_declared_kinds sc__law_declared_kinds (dss__law_declared_kinds Y)
theorem dss__law_parts {G : GC} (Y : Fx G) : DSs G ⟨["_law_decl", "_law_name", "_law_kind"], defScope s__law_parts, fun _ => true, 0⟩ (defBody s__law_parts) b__law_parts :=
    (dss_cons (ds_if (dt_cmp op_notInD' (de_ix ix_D (de_name 0 rfl (vis_of rfl) rfl rfl) de_int (fun _ _ => rfl)) (de_tup (da_cons de_str (da_cons de_str da_nil (fun _ => rfl)) (fun _ => rfl))) rfl) (dss_one (ds_ret (de_lst da_nil))) dss_nil)
    (dss_one (ds_ret (de_lc (di_seqC (de_ix ix_D (de_name 0 rfl (vis_of rfl) rfl rfl) de_int (fun _ _ => rfl))) (blkOk_by (own := [("_law_name", 1), ("_law_kind", 2)]) (by decide +kernel)) (dg_tup (fun X c => (pgsN_cons c (sto_of rfl rfl) (pgsN_cons c (sto_of rfl rfl) pgsN_nil rfl) rfl)) (fun _ => rfl) (fun _ => rfl)) (dts_one (dt_cmp op_isNotD (de_name 2 rfl (vis_of rfl) rfl rfl) de_non rfl)) (de_name 2 rfl (vis_of rfl) rfl rfl) (by decide) (gtup_stay [1, 2]) (fun _ _ => rfl)))))
theorem ok__law_parts {G : GC} (Y : Fx G) : FnG G 1 Y.f__law_parts Y.d__law_parts ["_law_decl"] (spM G.K 1 m_law_parts) := fn_m Y.F__law_parts sc__law_parts (dss__law_parts Y)
theorem dss__law_once_table {G : GC} (Y : Fx G) : DSs G ⟨["_law_decls", "_law_found", "_law_decl", "_law_part"], defScope s__law_once_table, fun _ => true, 1⟩ (defBody s__law_once_table) b__law_once_table :=
    (dss_cons (ds_asg (sto_of rfl rfl) (de_dicC (fun _ => (pps_cons pe_str pe_bl (pps_cons pe_str pe_bl pps_nil))) rfl rfl (by simp) (by decide) (by decide) rfl) (fun _ => rfl))
    (dss_cons (ds_for (di_seq (de_name 0 rfl (vis_of rfl) rfl rfl)) (dg_name (sto_of rfl rfl)) (dss_one (ds_if (dt_cmp op_inD' (de_ix ix_D (de_name 2 rfl (vis_of rfl) rfl rfl) de_int (fun _ _ => rfl)) (de_tup (da_cons de_str (da_cons de_str (da_cons de_str (da_cons de_str da_nil (fun _ => rfl)) (fun _ => rfl)) (fun _ => rfl)) (fun _ => rfl))) rfl) (dss_one (ds_put rfl (vis_of rfl) rfl rfl (de_ix ix_D (de_name 2 rfl (vis_of rfl) rfl rfl) de_int (fun _ _ => rfl)) (de_or (de_cmp op_eqD' (de_ix ix_D (de_name 2 rfl (vis_of rfl) rfl rfl) de_int (fun _ _ => rfl)) de_str rfl) (de_one (de_cmp op_neD' (de_lc (di_seqC (de_call (ok__law_parts Y) (by decide) rfl Y.g__law_parts Y.F__law_parts.kp Y.b__law_parts (da_cons (de_name 2 rfl (vis_of rfl) rfl rfl) da_nil (fun _ => rfl)) rfl (fun _ => rfl) (fun _ => rfl) rfl (mcons_len mnil_len))) (blkOk_by (own := [("_law_part", 3)]) (by decide +kernel)) (dg_name (sto_of rfl rfl)) (dts_one (dt_val (de_ix ix_D (de_name 1 rfl (vis_of rfl) rfl rfl) (de_name 3 rfl (vis_of rfl) rfl rfl) (fun _ _ => rfl)) (fun _ _ => rfl))) (de_name 3 rfl (vis_of rfl) rfl rfl) (by decide) (gnm_stay 3) (fun _ _ => rfl)) (de_lst da_nil) rfl))) (fun _ => rfl) (fun _ => rfl) (fun _ => rfl) (fun _ => rfl) (fun _ _ => rfl))) dss_nil)) (fun _ _ => rfl))
    (dss_one (ds_ret (de_name 1 rfl (vis_of rfl) rfl rfl)))))
theorem ok__law_once_table {G : GC} (Y : Fx G) : FnG G 2 Y.f__law_once_table Y.d__law_once_table ["_law_decls"] (spM G.K 1 m_law_once_table) := fn_m Y.F__law_once_table sc__law_once_table (dss__law_once_table Y)
theorem dss__law_is_once {G : GC} (Y : Fx G) : DSs G ⟨["_law_decls", "_law_kind"], defScope s__law_is_once, fun _ => true, 2⟩ (defBody s__law_is_once) b__law_is_once :=
    (dss_one (ds_ret (de_ix ix_D (de_call (ok__law_once_table Y) (by decide) rfl Y.g__law_once_table Y.F__law_once_table.kp Y.b__law_once_table (da_cons (de_name 0 rfl (vis_of rfl) rfl rfl) da_nil (fun _ => rfl)) rfl (fun _ => rfl) (fun _ => rfl) rfl (mcons_len mnil_len)) (de_name 1 rfl (vis_of rfl) rfl rfl) (fun _ _ => rfl))))
theorem ok__law_is_once {G : GC} (Y : Fx G) : FnG G 3 Y.f__law_is_once Y.d__law_is_once ["_law_decls", "_law_kind"] (spM G.K 2 m_law_is_once) := fn_m Y.F__law_is_once sc__law_is_once (dss__law_is_once Y)
theorem dss__law_take {G : GC} (Y : Fx G) : DSs G ⟨["_law_bag_here", "_law_many", "_law_begin", "_law_second", "_law_cell", "_law_stirred", "_law_value"], defScope s__law_take, fun _ => true, 0⟩ (defBody s__law_take) b__law_take :=
    (dss_cons (ds_if (dt_cmp op_eqD' (de_ix ix_D (de_name 0 rfl (vis_of rfl) rfl rfl) de_int (fun _ _ => rfl)) de_int rfl) (dss_cons (ds_asg (sto_of rfl rfl) (de_ix ix_D (de_op op_addD (de_slice sl_D (de_ix ix_D (de_name 0 rfl (vis_of rfl) rfl rfl) de_int (fun _ _ => rfl)) (do_some (de_ix ix_D (de_name 0 rfl (vis_of rfl) rfl rfl) de_int (fun _ _ => rfl))) do_none) (de_lst (da_cons de_int da_nil (fun _ => rfl)))) de_int (fun _ _ => rfl)) (fun _ => rfl))
    (dss_cons (ds_augL rfl (vis_of rfl) rfl rfl de_int de_int iop_addI (fun _ _ _ => rfl))
    (dss_cons (ds_if (dt_cmp op_geD (de_name 4 rfl (vis_of rfl) rfl rfl) (de_op op_powD de_int de_int) rfl) (dss_one (ds_put rfl (vis_of rfl) rfl rfl de_int (de_name 4 rfl (vis_of rfl) rfl rfl) (fun _ => rfl) (fun _ => rfl) (fun _ => rfl) (fun _ => rfl) (fun _ _ => rfl))) dss_nil)
    (dss_cons (ds_asg (sto_of rfl rfl) (de_op op_addD (de_op op_addD (de_op op_mulD (de_ix ix_D (de_name 0 rfl (vis_of rfl) rfl rfl) de_int (fun _ _ => rfl)) de_int) (de_op op_modD (de_callTy call_intD rfl Y.z_int rfl (da_cons (de_name 4 rfl (vis_of rfl) rfl rfl) da_nil (fun _ => rfl)) (by decide) rfl (fun _ => rfl) (fun _ => rfl)) de_int)) (de_op op_mulD de_int (de_ix ix_D (de_name 0 rfl (vis_of rfl) rfl rfl) de_int (fun _ _ => rfl)))) (fun _ => rfl))
    (dss_one (ds_put rfl (vis_of rfl) rfl rfl de_int (de_op op_modD (de_callTy call_intD rfl Y.z_int rfl (da_cons (de_name 5 rfl (vis_of rfl) rfl rfl) da_nil (fun _ => rfl)) (by decide) rfl (fun _ => rfl) (fun _ => rfl)) de_int) (fun _ => rfl) (fun _ => rfl) (fun _ => rfl) (fun _ => rfl) (fun _ _ => rfl))))))) dss_nil)
    (dss_cons (ds_if (dt_cmp op_gtD (de_ix ix_D (de_name 0 rfl (vis_of rfl) rfl rfl) de_int (fun _ _ => rfl)) de_int rfl) (dss_cons (ds_asg (sto_of rfl rfl) (de_op op_modD (de_callTy call_intD rfl Y.z_int rfl (da_cons (de_ix ix_D (de_name 0 rfl (vis_of rfl) rfl rfl) de_int (fun _ _ => rfl)) da_nil (fun _ => rfl)) (by decide) rfl (fun _ => rfl) (fun _ => rfl)) (de_name 1 rfl (vis_of rfl) rfl rfl)) (fun _ => rfl))
    (dss_cons (ds_put rfl (vis_of rfl) rfl rfl de_int (de_op op_fdivD (de_callTy call_intD rfl Y.z_int rfl (da_cons (de_ix ix_D (de_name 0 rfl (vis_of rfl) rfl rfl) de_int (fun _ _ => rfl)) da_nil (fun _ => rfl)) (by decide) rfl (fun _ => rfl) (fun _ => rfl)) (de_name 1 rfl (vis_of rfl) rfl rfl)) (fun _ => rfl) (fun _ => rfl) (fun _ => rfl) (fun _ => rfl) (fun _ _ => rfl))
    (dss_one (ds_ret (de_name 6 rfl (vis_of rfl) rfl rfl))))) dss_nil)
    (dss_cons (ds_asg (sto_of rfl rfl) (de_op op_modD (de_callTy call_intD rfl Y.z_int rfl (da_cons (de_op op_mulD (de_op op_addD (de_ix ix_D (de_name 0 rfl (vis_of rfl) rfl rfl) de_int (fun _ _ => rfl)) de_int) de_int) da_nil (fun _ => rfl)) (by decide) rfl (fun _ => rfl) (fun _ => rfl)) de_int) (fun _ => rfl))
    (dss_cons (ds_asg (sto_of rfl rfl) (de_op op_modD (de_callTy call_intD rfl Y.z_int rfl (da_cons (de_op op_mulD (de_op op_modD (de_callTy call_intD rfl Y.z_int rfl (da_cons (de_op op_mulD (de_name 2 rfl (vis_of rfl) rfl rfl) (de_name 2 rfl (vis_of rfl) rfl rfl)) da_nil (fun _ => rfl)) (by decide) rfl (fun _ => rfl) (fun _ => rfl)) de_int) de_int) da_nil (fun _ => rfl)) (by decide) rfl (fun _ => rfl) (fun _ => rfl)) de_int) (fun _ => rfl))
    (dss_one (ds_ret (de_op op_modD (de_callTy call_intD rfl Y.z_int rfl (da_cons (de_op op_fdivD (de_name 3 rfl (vis_of rfl) rfl rfl) de_int) da_nil (fun _ => rfl)) (by decide) rfl (fun _ => rfl) (fun _ => rfl)) (de_name 1 rfl (vis_of rfl) rfl rfl))))))))
theorem ok__law_take {G : GC} (Y : Fx G) : FnG G 1 Y.f__law_take Y.d__law_take ["_law_bag_here", "_law_many"] (spM G.K 2 m_law_take) := fn_m Y.F__law_take sc__law_take (dss__law_take Y)
theorem dss__law_some {G : GC} (Y : Fx G) : DSs G ⟨["_law_bag_here", "_law_things"], defScope s__law_some, fun _ => true, 1⟩ (defBody s__law_some) b__law_some :=
    (dss_one (ds_ret (de_ix ix_D (de_name 1 rfl (vis_of rfl) rfl rfl) (de_call (ok__law_take Y) (by decide) rfl Y.g__law_take Y.F__law_take.kp Y.b__law_take (da_cons (de_name 0 rfl (vis_of rfl) rfl rfl) (da_cons (de_callB call_lenD' rfl Y.z_len rfl (da_cons (de_name 1 rfl (vis_of rfl) rfl rfl) da_nil (fun _ => rfl)) (by decide) rfl (fun _ => rfl) (fun _ => rfl)) da_nil (fun _ => rfl)) (fun _ => rfl)) rfl (fun _ => rfl) (fun _ => rfl) rfl (mcons_len (mcons_len mnil_len))) (fun _ _ => rfl))))
theorem ok__law_some {G : GC} (Y : Fx G) : FnG G 2 Y.f__law_some Y.d__law_some ["_law_bag_here", "_law_things"] (spM G.K 2 m_law_some) := fn_m Y.F__law_some sc__law_some (dss__law_some Y)
theorem dss__law_stock {G : GC} (Y : Fx G) : DSs G ⟨["_law_counts", "_law_kind"], defScope s__law_stock, fun _ => true, 0⟩ (defBody s__law_stock) b__law_stock :=
    (dss_one (ds_ret (de_callTy call_tupleD rfl Y.z_tuple rfl (da_cons (de_lc (di_seqC (de_callB call_sortedD' rfl Y.z_sorted rfl (da_cons (de_name 0 rfl (vis_of rfl) rfl rfl) da_nil (fun _ => rfl)) (by decide) rfl (fun _ => rfl) (fun _ => rfl))) (blkOk_by (own := [("_law_kind", 1)]) (by decide +kernel)) (dg_name (sto_of rfl rfl)) (dts_one (dt_cmp op_gtD (de_ix ix_D (de_name 0 rfl (vis_of rfl) rfl rfl) (de_name 1 rfl (vis_of rfl) rfl rfl) (fun _ _ => rfl)) de_int rfl)) (de_tup (da_cons (de_name 1 rfl (vis_of rfl) rfl rfl) (da_cons (de_ix ix_D (de_name 0 rfl (vis_of rfl) rfl rfl) (de_name 1 rfl (vis_of rfl) rfl rfl) (fun _ _ => rfl)) da_nil (fun _ => rfl)) (fun _ => rfl))) (by decide) (gnm_stay 1) (fun _ _ => rfl)) da_nil (fun _ => rfl)) (by decide) rfl (fun _ => rfl) (fun _ => rfl))))
theorem ok__law_stock {G : GC} (Y : Fx G) : FnG G 1 Y.f__law_stock Y.d__law_stock ["_law_counts"] (spM G.K 1 m_law_stock) := fn_m Y.F__law_stock sc__law_stock (dss__law_stock Y)
theorem dss__law_drawn_stock {G : GC} (Y : Fx G) : DSs G ⟨["_law_bag_here", "_law_decls", "_law_found", "_law_kind", "_law_many"], defScope s__law_drawn_stock, fun _ => true, 3⟩ (defBody s__law_drawn_stock) b__law_drawn_stock :=
    (dss_cons (ds_asg (sto_of rfl rfl) de_dnew (fun _ => rfl))
    (dss_cons (ds_for (di_seq (de_call (ok__law_declared_kinds Y) (by decide) rfl Y.g__law_declared_kinds Y.F__law_declared_kinds.kp Y.b__law_declared_kinds (da_cons (de_name 1 rfl (vis_of rfl) rfl rfl) da_nil (fun _ => rfl)) rfl (fun _ => rfl) (fun _ => rfl) rfl (mcons_len mnil_len))) (dg_name (sto_of rfl rfl)) (dss_cons (ds_asg (sto_of rfl rfl) (de_call (ok__law_some Y) (by decide) rfl Y.g__law_some Y.F__law_some.kp Y.b__law_some (da_cons (de_name 0 rfl (vis_of rfl) rfl rfl) (da_cons (de_lst (da_cons de_int (da_cons de_int (da_cons de_int (da_cons de_int (da_cons de_int (da_cons de_int da_nil (fun _ => rfl)) (fun _ => rfl)) (fun _ => rfl)) (fun _ => rfl)) (fun _ => rfl)) (fun _ => rfl))) da_nil (fun _ => rfl)) (fun _ => rfl)) rfl (fun _ => rfl) (fun _ => rfl) rfl (mcons_len (mcons_len mnil_len))) (fun _ => rfl))
    (dss_one (ds_put rfl (vis_of rfl) rfl rfl (de_name 3 rfl (vis_of rfl) rfl rfl) (de_if (dt_val (de_call (ok__law_is_once Y) (by decide) rfl Y.g__law_is_once Y.F__law_is_once.kp Y.b__law_is_once (da_cons (de_name 1 rfl (vis_of rfl) rfl rfl) (da_cons (de_name 3 rfl (vis_of rfl) rfl rfl) da_nil (fun _ => rfl)) (fun _ => rfl)) rfl (fun _ => rfl) (fun _ => rfl) rfl (mcons_len (mcons_len mnil_len))) (fun _ _ => rfl)) (de_name 4 rfl (vis_of rfl) rfl rfl) (de_callB call_min2D rfl Y.z_min rfl (da_cons (de_name 4 rfl (vis_of rfl) rfl rfl) (da_cons de_int da_nil (fun _ => rfl)) (fun _ => rfl)) (by decide) rfl (fun _ => rfl) (fun _ => rfl))) (fun _ => rfl) (fun _ => rfl) (fun _ => rfl) (fun _ => rfl) (fun _ _ => rfl)))) (fun _ _ => rfl))
    (dss_one (ds_ret (de_call (ok__law_stock Y) (by decide) rfl Y.g__law_stock Y.F__law_stock.kp Y.b__law_stock (da_cons (de_name 2 rfl (vis_of rfl) rfl rfl) da_nil (fun _ => rfl)) rfl (fun _ => rfl) (fun _ => rfl) rfl (mcons_len mnil_len))))))
theorem ok__law_drawn_stock {G : GC} (Y : Fx G) : FnG G 4 Y.f__law_drawn_stock Y.d__law_drawn_stock ["_law_bag_here", "_law_decls"] (spM G.K 2 m_law_drawn_stock) := fn_m Y.F__law_drawn_stock sc__law_drawn_stock (dss__law_drawn_stock Y)
theorem dss__law_declared {G : GC} (Y : Fx G) : DSs G ⟨["_law_decls", "_law_found", "_law_decl", "_law_arm", "_law_kind"], defScope s__law_declared, fun _ => true, 0⟩ (defBody s__law_declared) b__law_declared :=
    (dss_cons (ds_setLc rfl rfl rfl rfl rfl (di_seqC (de_name 0 rfl (vis_of rfl) rfl rfl)) (blkOk_by (own := [("_law_decl", 2)]) (by decide +kernel)) (dg_name (sto_of rfl rfl)) dts_nil (de_ix ix_D (de_name 2 rfl (vis_of rfl) rfl rfl) de_int (fun _ _ => rfl)) (by decide) (gnm_stay 2) (fun _ _ => rfl))
    (dss_cons (ds_for (di_seq (de_name 0 rfl (vis_of rfl) rfl rfl)) (dg_name (sto_of rfl rfl)) (dss_one (ds_if (dt_cmp op_eqD' (de_ix ix_D (de_name 2 rfl (vis_of rfl) rfl rfl) de_int (fun _ _ => rfl)) de_str rfl) (dss_one (ds_expr (de_mut PySem.F.plainAttrs_list PySem.F.slot_list_extend PySem.F.type_list_extend mt_extendD rfl (vis_of rfl) rfl rfl (da_cons (de_lc (di_seqC (de_ix ix_D (de_name 2 rfl (vis_of rfl) rfl rfl) de_int (fun _ _ => rfl))) (blkOk_by (own := [("_law_arm", 3), ("_law_kind", 4)]) (by decide +kernel)) (dg_tup (fun X c => (pgsN_cons c (sto_of rfl rfl) (pgsN_cons c (sto_of rfl rfl) pgsN_nil rfl) rfl)) (fun _ => rfl) (fun _ => rfl)) dts_nil (de_name 3 rfl (vis_of rfl) rfl rfl) (by decide) (gtup_stay [3, 4]) (fun _ _ => rfl)) da_nil (fun _ => rfl)) (fun _ => rfl) (fun _ => rfl) rfl (fun _ => rfl) (fun _ => rfl)) (fun _ => rfl))) dss_nil)) (fun _ _ => rfl))
    (dss_one (ds_ret (de_name 1 rfl (vis_of rfl) rfl rfl)))))
theorem ok__law_declared {G : GC} (Y : Fx G) : FnG G 1 Y.f__law_declared Y.d__law_declared ["_law_decls"] (spM G.K 1 m_law_declared) := fn_m Y.F__law_declared sc__law_declared (dss__law_declared Y)
theorem dss__law_is_within {G : GC} (Y : Fx G) : DSs G ⟨["_law_decls", "_law_table", "_law_many", "_law_decl", "_law_once", "_law_part"], defScope s__law_is_within, fun _ => true, 1⟩ (defBody s__law_is_within) b__law_is_within :=
    (dss_cons (ds_parC (sto_of rfl rfl) (sto_of rfl rfl) de_dnew (de_callB call_lenD' rfl Y.z_len rfl (da_cons (de_lc (di_seqC (de_name 0 rfl (vis_of rfl) rfl rfl)) (blkOk_by (own := [("_law_decl", 3)]) (by decide +kernel)) (dg_name (sto_of rfl rfl)) (dts_one (dt_cmp op_inD' (de_ix ix_D (de_name 3 rfl (vis_of rfl) rfl rfl) de_int (fun _ _ => rfl)) (de_tup (da_cons de_str (da_cons de_str da_nil (fun _ => rfl)) (fun _ => rfl))) rfl)) de_int (by decide) (gnm_stay 3) (fun _ _ => rfl)) da_nil (fun _ => rfl)) (by decide) rfl (fun _ => rfl) (fun _ => rfl)) (fun _ => rfl) (fun _ => rfl) (fun env h => by cases env; cases h; rfl) (fun env h => by cases env; cases h; rfl) (fun _ => rfl) (fun _ => rfl) (fun _ => rfl) (fun _ => rfl) (fun _ => rfl))
    (dss_cons (ds_for (di_seq (de_name 0 rfl (vis_of rfl) rfl rfl)) (dg_name (sto_of rfl rfl)) (dss_one (ds_if (dt_cmp op_notInD' (de_ix ix_D (de_name 3 rfl (vis_of rfl) rfl rfl) de_int (fun _ _ => rfl)) (de_tup (da_cons de_str (da_cons de_str da_nil (fun _ => rfl)) (fun _ => rfl))) rfl) (dss_one (ds_put rfl (vis_of rfl) rfl rfl (de_ix ix_D (de_name 3 rfl (vis_of rfl) rfl rfl) de_int (fun _ _ => rfl)) (de_or (de_cmp op_eqD' (de_ix ix_D (de_name 3 rfl (vis_of rfl) rfl rfl) de_int (fun _ _ => rfl)) de_str rfl) (de_one (de_cmp op_neD' (de_lc (di_seqC (de_call (ok__law_parts Y) (by decide) rfl Y.g__law_parts Y.F__law_parts.kp Y.b__law_parts (da_cons (de_name 3 rfl (vis_of rfl) rfl rfl) da_nil (fun _ => rfl)) rfl (fun _ => rfl) (fun _ => rfl) rfl (mcons_len mnil_len))) (blkOk_by (own := [("_law_part", 5)]) (by decide +kernel)) (dg_name (sto_of rfl rfl)) (dts_one (dt_val (de_bm PySem.F.plainAttrs_dict PySem.F.slot_dict_get PySem.F.type_dict_get mt_getD (de_name 1 rfl (vis_of rfl) rfl rfl) (da_cons (de_name 5 rfl (vis_of rfl) rfl rfl) (da_cons de_bl da_nil (fun _ => rfl)) (fun _ => rfl)) (fun _ => rfl) (fun _ => rfl) rfl (fun _ => rfl) (fun _ => rfl)) (fun _ _ => rfl))) (de_name 5 rfl (vis_of rfl) rfl rfl) (by decide) (gnm_stay 5) (fun _ _ => rfl)) (de_lst da_nil) rfl))) (fun _ => rfl) (fun _ => rfl) (fun _ => rfl) (fun _ => rfl) (fun _ _ => rfl))) dss_nil)) (fun _ _ => rfl))
    (dss_cons (ds_asg (sto_of rfl rfl) (de_bm PySem.F.plainAttrs_list PySem.F.slot_list_count PySem.F.type_list_count mt_countD (de_listVals rfl Y.z_list (de_name 1 rfl (vis_of rfl) rfl rfl) (fun _ => rfl) rfl (fun _ => rfl)) (da_cons de_bl da_nil (fun _ => rfl)) (fun _ => rfl) (fun _ => rfl) rfl (fun _ => rfl) (fun _ => rfl)) (fun _ => rfl))
    (dss_one (ds_ret (de_and (de_cmp op_ltD (de_name 4 rfl (vis_of rfl) rfl rfl) de_int rfl) (de_and (de_cmp op_ltD (de_op op_subD (de_callB call_lenD' rfl Y.z_len rfl (da_cons (de_name 1 rfl (vis_of rfl) rfl rfl) da_nil (fun _ => rfl)) (by decide) rfl (fun _ => rfl) (fun _ => rfl)) (de_name 4 rfl (vis_of rfl) rfl rfl)) de_int rfl) (de_one (de_cmp op_ltD (de_name 2 rfl (vis_of rfl) rfl rfl) de_int rfl)))))))))
theorem ok__law_is_within {G : GC} (Y : Fx G) : FnG G 2 Y.f__law_is_within Y.d__law_is_within ["_law_decls"] (spM G.K 1 m_law_is_within) := fn_m Y.F__law_is_within sc__law_is_within (dss__law_is_within Y)
theorem dss__law_mixed {G : GC} (Y : Fx G) : DSs G ⟨["_law_bag_here", "_law_things", "_law_found", "_law_thing"], defScope s__law_mixed, fun _ => true, 1⟩ (defBody s__law_mixed) b__law_mixed :=
    (dss_cons (ds_asg (sto_of rfl rfl) (de_lst da_nil) (fun _ => rfl))
    (dss_cons (ds_for (di_seq (de_name 1 rfl (vis_of rfl) rfl rfl)) (dg_name (sto_of rfl rfl)) (dss_one (ds_expr (de_mut PySem.F.plainAttrs_list PySem.F.slot_list_insert PySem.F.type_list_insert mt_insertD rfl (vis_of rfl) rfl rfl (da_cons (de_call (ok__law_take Y) (by decide) rfl Y.g__law_take Y.F__law_take.kp Y.b__law_take (da_cons (de_name 0 rfl (vis_of rfl) rfl rfl) (da_cons (de_op op_addD (de_callB call_lenD' rfl Y.z_len rfl (da_cons (de_name 2 rfl (vis_of rfl) rfl rfl) da_nil (fun _ => rfl)) (by decide) rfl (fun _ => rfl) (fun _ => rfl)) de_int) da_nil (fun _ => rfl)) (fun _ => rfl)) rfl (fun _ => rfl) (fun _ => rfl) rfl (mcons_len (mcons_len mnil_len))) (da_cons (de_name 3 rfl (vis_of rfl) rfl rfl) da_nil (fun _ => rfl)) (fun _ => rfl)) (fun _ => rfl) (fun _ => rfl) rfl (fun _ => rfl) (fun _ => rfl)) (fun _ => rfl))) (fun _ _ => rfl))
    (dss_one (ds_ret (de_name 2 rfl (vis_of rfl) rfl rfl)))))
theorem ok__law_mixed {G : GC} (Y : Fx G) : FnG G 2 Y.f__law_mixed Y.d__law_mixed ["_law_bag_here", "_law_things"] (spM G.K 2 m_law_mixed) := fn_m Y.F__law_mixed sc__law_mixed (dss__law_mixed Y)
theorem dss__law_new_name {G : GC} (Y : Fx G) : DSs G ⟨["_law_bag_here", "_law_had", "_law_menu", "_law_turn", "_law_at", "_law_name"], defScope s__law_new_name, fun _ => true, 2⟩ (defBody s__law_new_name) b__law_new_name :=
    (dss_cons (ds_asg (sto_of rfl rfl) (de_lst (da_cons de_str (da_cons de_str (da_cons de_str (da_cons de_str (da_cons de_str (da_cons de_str (da_cons de_str (da_cons de_str (da_cons de_str (da_cons de_str (da_cons de_str (da_cons de_str (da_cons de_str (da_cons de_str (da_cons de_str (da_cons de_str (da_cons de_str da_nil (fun _ => rfl)) (fun _ => rfl)) (fun _ => rfl)) (fun _ => rfl)) (fun _ => rfl)) (fun _ => rfl)) (fun _ => rfl)) (fun _ => rfl)) (fun _ => rfl)) (fun _ => rfl)) (fun _ => rfl)) (fun _ => rfl)) (fun _ => rfl)) (fun _ => rfl)) (fun _ => rfl)) (fun _ => rfl)) (fun _ => rfl))) (fun _ => rfl))
    (dss_cons (ds_for (di_range1 rfl Y.z_range (da_cons de_int da_nil (fun _ => rfl)) (fun _ => rfl)) (dg_name (sto_of rfl rfl)) (dss_cons (ds_asg (sto_of rfl rfl) (de_call (ok__law_some Y) (by decide) rfl Y.g__law_some Y.F__law_some.kp Y.b__law_some (da_cons (de_name 0 rfl (vis_of rfl) rfl rfl) (da_cons (de_name 2 rfl (vis_of rfl) rfl rfl) da_nil (fun _ => rfl)) (fun _ => rfl)) rfl (fun _ => rfl) (fun _ => rfl) rfl (mcons_len (mcons_len mnil_len))) (fun _ => rfl))
    (dss_one (ds_if (dt_cmp op_notInD' (de_name 5 rfl (vis_of rfl) rfl rfl) (de_name 1 rfl (vis_of rfl) rfl rfl) rfl) (dss_one (ds_ret (de_name 5 rfl (vis_of rfl) rfl rfl))) dss_nil))) (fun _ _ => rfl))
    (dss_cons (ds_asg (sto_of rfl rfl) de_int (fun _ => rfl))
    (dss_cons (ds_while (dt_cmp op_inD' (de_op op_addD de_str (de_callTy call_strD rfl Y.z_str rfl (da_cons (de_name 4 rfl (vis_of rfl) rfl rfl) da_nil (fun _ => rfl)) (by decide) rfl (fun _ => rfl) (fun _ => rfl))) (de_name 1 rfl (vis_of rfl) rfl rfl) rfl) (dss_one (ds_aug (sto_of rfl rfl) de_int iop_addI)))
    (dss_one (ds_ret (de_op op_addD de_str (de_callTy call_strD rfl Y.z_str rfl (da_cons (de_name 4 rfl (vis_of rfl) rfl rfl) da_nil (fun _ => rfl)) (by decide) rfl (fun _ => rfl) (fun _ => rfl)))))))))
theorem ok__law_new_name {G : GC} (Y : Fx G) : FnG G 3 Y.f__law_new_name Y.d__law_new_name ["_law_bag_here", "_law_had"] (spM G.K 2 m_law_new_name) := fn_m Y.F__law_new_name sc__law_new_name (dss__law_new_name Y)
theorem dss__law_shaped {G : GC} (Y : Fx G) : DSs G ⟨["_law_bag_here", "_law_decls", "_law_word", "_law_had", "_law_kinds_here", "_law_name", "_law_many", "_law_arms", "_law_turn", "_law_some_here", "_law_fields", "_law_arm", "_law_field", "_law_one", "_law_kind"], defScope s__law_shaped, fun _ => true, 3⟩ (defBody s__law_shaped) b__law_shaped :=
    (dss_cons (ds_parC (sto_of rfl rfl) (sto_of rfl rfl) (de_call (ok__law_declared Y) (by decide) rfl Y.g__law_declared Y.F__law_declared.kp Y.b__law_declared (da_cons (de_name 1 rfl (vis_of rfl) rfl rfl) da_nil (fun _ => rfl)) rfl (fun _ => rfl) (fun _ => rfl) rfl (mcons_len mnil_len)) (de_call (ok__law_kinds Y) (by decide) rfl Y.g__law_kinds Y.F__law_kinds.kp Y.b__law_kinds (da_cons (de_name 1 rfl (vis_of rfl) rfl rfl) da_nil (fun _ => rfl)) rfl (fun _ => rfl) (fun _ => rfl) rfl (mcons_len mnil_len)) (fun _ => rfl) (fun _ => rfl) (fun env h => by cases env; cases h; rfl) (fun env h => by cases env; cases h; rfl) (fun _ => rfl) (fun _ => rfl) (fun _ => rfl) (fun _ => rfl) (fun _ => rfl))
    (dss_cons (ds_asg (sto_of rfl rfl) (de_call (ok__law_new_name Y) (by decide) rfl Y.g__law_new_name Y.F__law_new_name.kp Y.b__law_new_name (da_cons (de_name 0 rfl (vis_of rfl) rfl rfl) (da_cons (de_name 3 rfl (vis_of rfl) rfl rfl) da_nil (fun _ => rfl)) (fun _ => rfl)) rfl (fun _ => rfl) (fun _ => rfl) rfl (mcons_len (mcons_len mnil_len))) (fun _ => rfl))
    (dss_cons (ds_asg (sto_of rfl rfl) (de_call (ok__law_some Y) (by decide) rfl Y.g__law_some Y.F__law_some.kp Y.b__law_some (da_cons (de_name 0 rfl (vis_of rfl) rfl rfl) (da_cons (de_lst (da_cons de_int (da_cons de_int (da_cons de_int (da_cons de_int da_nil (fun _ => rfl)) (fun _ => rfl)) (fun _ => rfl)) (fun _ => rfl))) da_nil (fun _ => rfl)) (fun _ => rfl)) rfl (fun _ => rfl) (fun _ => rfl) rfl (mcons_len (mcons_len mnil_len))) (fun _ => rfl))
    (dss_cons (ds_if (dt_cmp op_eqD' (de_name 2 rfl (vis_of rfl) rfl rfl) de_str rfl) (dss_cons (ds_asg (sto_of rfl rfl) (de_callTy call_tupleD rfl Y.z_tuple rfl (da_cons (de_lc (di_range1 rfl Y.z_range (da_cons (de_call (ok__law_some Y) (by decide) rfl Y.g__law_some Y.F__law_some.kp Y.b__law_some (da_cons (de_name 0 rfl (vis_of rfl) rfl rfl) (da_cons (de_lst (da_cons de_int (da_cons de_int (da_cons de_int (da_cons de_int da_nil (fun _ => rfl)) (fun _ => rfl)) (fun _ => rfl)) (fun _ => rfl))) da_nil (fun _ => rfl)) (fun _ => rfl)) rfl (fun _ => rfl) (fun _ => rfl) rfl (mcons_len (mcons_len mnil_len))) da_nil (fun _ => rfl)) (fun _ => rfl)) (blkOk_by (own := [("_law_turn", 8)]) (by decide +kernel)) (dg_name (sto_of rfl rfl)) dts_nil (de_call (ok__law_some Y) (by decide) rfl Y.g__law_some Y.F__law_some.kp Y.b__law_some (da_cons (de_name 0 rfl (vis_of rfl) rfl rfl) (da_cons (de_name 4 rfl (vis_of rfl) rfl rfl) da_nil (fun _ => rfl)) (fun _ => rfl)) rfl (fun _ => rfl) (fun _ => rfl) rfl (mcons_len (mcons_len mnil_len))) (by decide) (gnm_stay 8) (fun _ _ => rfl)) da_nil (fun _ => rfl)) (by decide) rfl (fun _ => rfl) (fun _ => rfl)) (fun _ => rfl))
    (dss_one (ds_ret (de_tup (da_cons de_str (da_cons (de_name 5 rfl (vis_of rfl) rfl rfl) (da_cons (de_name 9 rfl (vis_of rfl) rfl rfl) (da_cons (de_call (ok__law_some Y) (by decide) rfl Y.g__law_some Y.F__law_some.kp Y.b__law_some (da_cons (de_name 0 rfl (vis_of rfl) rfl rfl) (da_cons (de_op op_addD (de_slice sl_D (de_name 4 rfl (vis_of rfl) rfl rfl) (do_some de_int) do_none) (de_name 4 rfl (vis_of rfl) rfl rfl)) da_nil (fun _ => rfl)) (fun _ => rfl)) rfl (fun _ => rfl) (fun _ => rfl) rfl (mcons_len (mcons_len mnil_len))) da_nil (fun _ => rfl)) (fun _ => rfl)) (fun _ => rfl)) (fun _ => rfl)))))) dss_nil)
    (dss_cons (ds_if (dt_cmp op_eqD' (de_name 2 rfl (vis_of rfl) rfl rfl) de_str rfl) (dss_cons (ds_asg (sto_of rfl rfl) (de_slice sl_D (de_call (ok__law_mixed Y) (by decide) rfl Y.g__law_mixed Y.F__law_mixed.kp Y.b__law_mixed (da_cons (de_name 0 rfl (vis_of rfl) rfl rfl) (da_cons (de_op op_addD (de_lc (di_seqC (de_lst (da_cons de_str (da_cons de_str (da_cons de_str (da_cons de_str da_nil (fun _ => rfl)) (fun _ => rfl)) (fun _ => rfl)) (fun _ => rfl)))) (blkOk_by (own := [("_law_one", 13)]) (by decide +kernel)) (dg_name (sto_of rfl rfl)) (dts_one (dt_cmp op_neD' (de_name 13 rfl (vis_of rfl) rfl rfl) (de_name 5 rfl (vis_of rfl) rfl rfl) rfl)) (de_name 13 rfl (vis_of rfl) rfl rfl) (by decide) (gnm_stay 13) (fun _ _ => rfl)) (de_lst (da_cons (de_name 5 rfl (vis_of rfl) rfl rfl) da_nil (fun _ => rfl)))) da_nil (fun _ => rfl)) (fun _ => rfl)) rfl (fun _ => rfl) (fun _ => rfl) rfl (mcons_len (mcons_len mnil_len))) do_none (do_some (de_name 6 rfl (vis_of rfl) rfl rfl))) (fun _ => rfl))
    (dss_one (ds_ret (de_tup (da_cons de_str (da_cons (de_name 5 rfl (vis_of rfl) rfl rfl) (da_cons (de_callTy call_tupleD rfl Y.z_tuple rfl (da_cons (de_lc (di_seqC (de_name 10 rfl (vis_of rfl) rfl rfl)) (blkOk_by (own := [("_law_field", 12)]) (by decide +kernel)) (dg_name (sto_of rfl rfl)) dts_nil (de_tup (da_cons (de_name 12 rfl (vis_of rfl) rfl rfl) (da_cons (de_call (ok__law_some Y) (by decide) rfl Y.g__law_some Y.F__law_some.kp Y.b__law_some (da_cons (de_name 0 rfl (vis_of rfl) rfl rfl) (da_cons (de_name 4 rfl (vis_of rfl) rfl rfl) da_nil (fun _ => rfl)) (fun _ => rfl)) rfl (fun _ => rfl) (fun _ => rfl) rfl (mcons_len (mcons_len mnil_len))) da_nil (fun _ => rfl)) (fun _ => rfl))) (by decide) (gnm_stay 12) (fun _ _ => rfl)) da_nil (fun _ => rfl)) (by decide) rfl (fun _ => rfl) (fun _ => rfl)) da_nil (fun _ => rfl)) (fun _ => rfl)) (fun _ => rfl)))))) dss_nil)
    (dss_cons (ds_asg (sto_of rfl rfl) (de_lst da_nil) (fun _ => rfl))
    (dss_cons (ds_for (di_range1 rfl Y.z_range (da_cons (de_name 6 rfl (vis_of rfl) rfl rfl) da_nil (fun _ => rfl)) (fun _ => rfl)) (dg_name (sto_of rfl rfl)) (dss_cons (ds_asg (sto_of rfl rfl) (de_call (ok__law_new_name Y) (by decide) rfl Y.g__law_new_name Y.F__law_new_name.kp Y.b__law_new_name (da_cons (de_name 0 rfl (vis_of rfl) rfl rfl) (da_cons (de_op op_addD (de_op op_addD (de_name 3 rfl (vis_of rfl) rfl rfl) (de_lst (da_cons (de_name 5 rfl (vis_of rfl) rfl rfl) da_nil (fun _ => rfl)))) (de_lc (di_seqC (de_name 7 rfl (vis_of rfl) rfl rfl)) (blkOk_by (own := [("_law_one", 13), ("_law_kind", 14)]) (by decide +kernel)) (dg_tup (fun X c => (pgsN_cons c (sto_of rfl rfl) (pgsN_cons c (sto_of rfl rfl) pgsN_nil rfl) rfl)) (fun _ => rfl) (fun _ => rfl)) dts_nil (de_name 13 rfl (vis_of rfl) rfl rfl) (by decide) (gtup_stay [13, 14]) (fun _ _ => rfl))) da_nil (fun _ => rfl)) (fun _ => rfl)) rfl (fun _ => rfl) (fun _ => rfl) rfl (mcons_len (mcons_len mnil_len))) (fun _ => rfl))
    (dss_one (ds_expr (de_mut PySem.F.plainAttrs_list PySem.F.slot_list_append PySem.F.type_list_append mt_appendD rfl (vis_of rfl) rfl rfl (da_cons (de_tup (da_cons (de_name 11 rfl (vis_of rfl) rfl rfl) (da_cons (de_call (ok__law_some Y) (by decide) rfl Y.g__law_some Y.F__law_some.kp Y.b__law_some (da_cons (de_name 0 rfl (vis_of rfl) rfl rfl) (da_cons (de_op op_addD (de_name 4 rfl (vis_of rfl) rfl rfl) (de_lst (da_cons de_non (da_cons de_non da_nil (fun _ => rfl)) (fun _ => rfl)))) da_nil (fun _ => rfl)) (fun _ => rfl)) rfl (fun _ => rfl) (fun _ => rfl) rfl (mcons_len (mcons_len mnil_len))) da_nil (fun _ => rfl)) (fun _ => rfl))) da_nil (fun _ => rfl)) (fun _ => rfl) (fun _ => rfl) rfl (fun _ => rfl) (fun _ => rfl)) (fun _ => rfl)))) (fun _ _ => rfl))
    (dss_one (ds_ret (de_tup (da_cons de_str (da_cons (de_name 5 rfl (vis_of rfl) rfl rfl) (da_cons (de_callTy call_tupleD rfl Y.z_tuple rfl (da_cons (de_name 7 rfl (vis_of rfl) rfl rfl) da_nil (fun _ => rfl)) (by decide) rfl (fun _ => rfl) (fun _ => rfl)) da_nil (fun _ => rfl)) (fun _ => rfl)) (fun _ => rfl))))))))))))
theorem ok__law_shaped {G : GC} (Y : Fx G) : FnG G 4 Y.f__law_shaped Y.d__law_shaped ["_law_bag_here", "_law_decls", "_law_word"] (spM G.K 3 m_law_shaped) := fn_m Y.F__law_shaped sc__law_shaped (dss__law_shaped Y)
theorem dss__law_library {G : GC} (Y : Fx G) : DSs G ⟨["_law_bag_here", "_law_most", "_law_decls", "_law_words", "_law_word", "_law_many", "_law_rest"], defScope s__law_library, fun _ => true, 4⟩ (defBody s__law_library) b__law_library :=
    (dss_cons (ds_par rfl rfl (by decide) rfl rfl (de_lst da_nil) (de_lst da_nil) (fun _ => rfl) (fun _ => rfl) (fun env h => by cases env; cases h; rfl) (fun env h => by cases env; cases h; rfl))
    (dss_cons (ds_for (di_seq (de_tup (da_cons (de_tup (da_cons de_str (da_cons (de_call (ok__law_some Y) (by decide) rfl Y.g__law_some Y.F__law_some.kp Y.b__law_some (da_cons (de_name 0 rfl (vis_of rfl) rfl rfl) (da_cons (de_lst (da_cons de_int (da_cons de_int (da_cons de_int (da_cons de_int da_nil (fun _ => rfl)) (fun _ => rfl)) (fun _ => rfl)) (fun _ => rfl))) da_nil (fun _ => rfl)) (fun _ => rfl)) rfl (fun _ => rfl) (fun _ => rfl) rfl (mcons_len (mcons_len mnil_len))) da_nil (fun _ => rfl)) (fun _ => rfl))) (da_cons (de_tup (da_cons de_str (da_cons (de_call (ok__law_some Y) (by decide) rfl Y.g__law_some Y.F__law_some.kp Y.b__law_some (da_cons (de_name 0 rfl (vis_of rfl) rfl rfl) (da_cons (de_lst (da_cons de_int (da_cons de_int (da_cons de_int (da_cons de_int da_nil (fun _ => rfl)) (fun _ => rfl)) (fun _ => rfl)) (fun _ => rfl))) da_nil (fun _ => rfl)) (fun _ => rfl)) rfl (fun _ => rfl) (fun _ => rfl) rfl (mcons_len (mcons_len mnil_len))) da_nil (fun _ => rfl)) (fun _ => rfl))) da_nil (fun _ => rfl)) (fun _ => rfl)))) (dg_tup (fun X c => (pgsN_cons c (sto_of rfl rfl) (pgsN_cons c (sto_of rfl rfl) pgsN_nil rfl) rfl)) (fun _ => rfl) (fun _ => rfl)) (dss_one (ds_expr (de_mut PySem.F.plainAttrs_list PySem.F.slot_list_extend PySem.F.type_list_extend mt_extendD rfl (vis_of rfl) rfl rfl (da_cons (de_op op_mulD (de_lst (da_cons (de_name 4 rfl (vis_of rfl) rfl rfl) da_nil (fun _ => rfl))) (de_name 5 rfl (vis_of rfl) rfl rfl)) da_nil (fun _ => rfl)) (fun _ => rfl) (fun _ => rfl) rfl (fun _ => rfl) (fun _ => rfl)) (fun _ => rfl))) (fun _ _ => rfl))
    (dss_cons (ds_asg (sto_of rfl rfl) (de_call (ok__law_mixed Y) (by decide) rfl Y.g__law_mixed Y.F__law_mixed.kp Y.b__law_mixed (da_cons (de_name 0 rfl (vis_of rfl) rfl rfl) (da_cons (de_name 3 rfl (vis_of rfl) rfl rfl) da_nil (fun _ => rfl)) (fun _ => rfl)) rfl (fun _ => rfl) (fun _ => rfl) rfl (mcons_len (mcons_len mnil_len))) (fun _ => rfl))
    (dss_cons (ds_asg (sto_of rfl rfl) (de_lst (da_cons de_str (da_cons de_str (da_cons de_str (da_cons de_str (da_cons de_str (da_cons de_str (da_cons de_str da_nil (fun _ => rfl)) (fun _ => rfl)) (fun _ => rfl)) (fun _ => rfl)) (fun _ => rfl)) (fun _ => rfl)) (fun _ => rfl))) (fun _ => rfl))
    (dss_cons (ds_while (dt_w (dw_and (dt_cmp op_ltD (de_callB call_lenD' rfl Y.z_len rfl (da_cons (de_name 3 rfl (vis_of rfl) rfl rfl) da_nil (fun _ => rfl)) (by decide) rfl (fun _ => rfl) (fun _ => rfl)) (de_name 1 rfl (vis_of rfl) rfl rfl) rfl) (dw_one (dt_cmp op_gtD (de_call (ok__law_take Y) (by decide) rfl Y.g__law_take Y.F__law_take.kp Y.b__law_take (da_cons (de_name 0 rfl (vis_of rfl) rfl rfl) (da_cons de_int da_nil (fun _ => rfl)) (fun _ => rfl)) rfl (fun _ => rfl) (fun _ => rfl) rfl (mcons_len (mcons_len mnil_len))) de_int rfl)))) (dss_one (ds_expr (de_mut PySem.F.plainAttrs_list PySem.F.slot_list_append PySem.F.type_list_append mt_appendD rfl (vis_of rfl) rfl rfl (da_cons (de_if (dt_cmp op_gtD (de_call (ok__law_take Y) (by decide) rfl Y.g__law_take Y.F__law_take.kp Y.b__law_take (da_cons (de_name 0 rfl (vis_of rfl) rfl rfl) (da_cons de_int da_nil (fun _ => rfl)) (fun _ => rfl)) rfl (fun _ => rfl) (fun _ => rfl) rfl (mcons_len (mcons_len mnil_len))) de_int rfl) (de_ix ix_D (de_name 6 rfl (vis_of rfl) rfl rfl) (de_call (ok__law_take Y) (by decide) rfl Y.g__law_take Y.F__law_take.kp Y.b__law_take (da_cons (de_name 0 rfl (vis_of rfl) rfl rfl) (da_cons (de_callB call_lenD' rfl Y.z_len rfl (da_cons (de_name 6 rfl (vis_of rfl) rfl rfl) da_nil (fun _ => rfl)) (by decide) rfl (fun _ => rfl) (fun _ => rfl)) da_nil (fun _ => rfl)) (fun _ => rfl)) rfl (fun _ => rfl) (fun _ => rfl) rfl (mcons_len (mcons_len mnil_len))) (fun _ _ => rfl)) de_str) da_nil (fun _ => rfl)) (fun _ => rfl) (fun _ => rfl) rfl (fun _ => rfl) (fun _ => rfl)) (fun _ => rfl))))
    (dss_cons (ds_for (di_seq (de_slice sl_D (de_name 3 rfl (vis_of rfl) rfl rfl) do_none (do_some (de_name 1 rfl (vis_of rfl) rfl rfl)))) (dg_name (sto_of rfl rfl)) (dss_one (ds_if (dt_cmp op_inD' (de_name 4 rfl (vis_of rfl) rfl rfl) (de_tup (da_cons de_str (da_cons de_str da_nil (fun _ => rfl)) (fun _ => rfl))) rfl) (dss_one (ds_expr (de_mut PySem.F.plainAttrs_list PySem.F.slot_list_append PySem.F.type_list_append mt_appendD rfl (vis_of rfl) rfl rfl (da_cons (de_tup (da_cons (de_name 4 rfl (vis_of rfl) rfl rfl) (da_cons (de_call (ok__law_new_name Y) (by decide) rfl Y.g__law_new_name Y.F__law_new_name.kp Y.b__law_new_name (da_cons (de_name 0 rfl (vis_of rfl) rfl rfl) (da_cons (de_call (ok__law_declared Y) (by decide) rfl Y.g__law_declared Y.F__law_declared.kp Y.b__law_declared (da_cons (de_name 2 rfl (vis_of rfl) rfl rfl) da_nil (fun _ => rfl)) rfl (fun _ => rfl) (fun _ => rfl) rfl (mcons_len mnil_len)) da_nil (fun _ => rfl)) (fun _ => rfl)) rfl (fun _ => rfl) (fun _ => rfl) rfl (mcons_len (mcons_len mnil_len))) da_nil (fun _ => rfl)) (fun _ => rfl))) da_nil (fun _ => rfl)) (fun _ => rfl) (fun _ => rfl) rfl (fun _ => rfl) (fun _ => rfl)) (fun _ => rfl))) (dss_one (ds_expr (de_mut PySem.F.plainAttrs_list PySem.F.slot_list_append PySem.F.type_list_append mt_appendD rfl (vis_of rfl) rfl rfl (da_cons (de_call (ok__law_shaped Y) (by decide) rfl Y.g__law_shaped Y.F__law_shaped.kp Y.b__law_shaped (da_cons (de_name 0 rfl (vis_of rfl) rfl rfl) (da_cons (de_name 2 rfl (vis_of rfl) rfl rfl) (da_cons (de_name 4 rfl (vis_of rfl) rfl rfl) da_nil (fun _ => rfl)) (fun _ => rfl)) (fun _ => rfl)) rfl (fun _ => rfl) (fun _ => rfl) rfl (mcons_len (mcons_len (mcons_len mnil_len)))) da_nil (fun _ => rfl)) (fun _ => rfl) (fun _ => rfl) rfl (fun _ => rfl) (fun _ => rfl)) (fun _ => rfl))))) (fun _ _ => rfl))
    (dss_cons (ds_while (dt_not (dt_val (de_call (ok__law_is_within Y) (by decide) rfl Y.g__law_is_within Y.F__law_is_within.kp Y.b__law_is_within (da_cons (de_name 2 rfl (vis_of rfl) rfl rfl) da_nil (fun _ => rfl)) rfl (fun _ => rfl) (fun _ => rfl) rfl (mcons_len mnil_len)) (fun _ _ => rfl))) (dss_one (ds_asg (sto_of rfl rfl) (de_slice sl_D (de_name 2 rfl (vis_of rfl) rfl rfl) do_none (do_some (de_un un_negD de_int))) (fun _ => rfl))))
    (dss_one (ds_ret (de_callTy call_tupleD rfl Y.z_tuple rfl (da_cons (de_name 2 rfl (vis_of rfl) rfl rfl) da_nil (fun _ => rfl)) (by decide) rfl (fun _ => rfl) (fun _ => rfl)))))))))))
theorem ok__law_library {G : GC} (Y : Fx G) : FnG G 5 Y.f__law_library Y.d__law_library ["_law_bag_here", "_law_most"] (spM G.K 2 m_law_library) := fn_m Y.F__law_library sc__law_library (dss__law_library Y)
theorem dss_stock_by {G : GC} (Y : Fx G) : DSs G ⟨["counts", "kind"], defScope s_stock_by, fun _ => true, 0⟩ (defBody s_stock_by) b_stock_by :=
    (dss_one (ds_ret (de_callTy call_tupleD rfl Y.z_tuple rfl (da_cons (de_lc (di_seqC (de_callB call_sortedD' rfl Y.z_sorted rfl (da_cons (de_name 0 rfl (vis_of rfl) rfl rfl) da_nil (fun _ => rfl)) (by decide) rfl (fun _ => rfl) (fun _ => rfl))) (blkOk_by (own := [("kind", 1)]) (by decide +kernel)) (dg_name (sto_of rfl rfl)) (dts_one (dt_cmp op_gtD (de_ix ix_D (de_name 0 rfl (vis_of rfl) rfl rfl) (de_name 1 rfl (vis_of rfl) rfl rfl) (fun _ _ => rfl)) de_int rfl)) (de_tup (da_cons (de_name 1 rfl (vis_of rfl) rfl rfl) (da_cons (de_ix ix_D (de_name 0 rfl (vis_of rfl) rfl rfl) (de_name 1 rfl (vis_of rfl) rfl rfl) (fun _ _ => rfl)) da_nil (fun _ => rfl)) (fun _ => rfl))) (by decide) (gnm_stay 1) (fun _ _ => rfl)) da_nil (fun _ => rfl)) (by decide) rfl (fun _ => rfl) (fun _ => rfl))))
theorem ok_stock_by {G : GC} (Y : Fx G) : FnG G 1 Y.f_stock_by Y.d_stock_by ["counts"] (spM G.K 1 p_stock_by) := fn_m Y.F_stock_by sc_stock_by (dss_stock_by Y)
theorem dss_added_by {G : GC} (Y : Fx G) : DSs G ⟨["once", "stocks", "counts", "stock", "kind", "count"], defScope s_added_by, fun _ => true, 1⟩ (defBody s_added_by) b_added_by :=
    (dss_cons (ds_asg (sto_of rfl rfl) de_dnew (fun _ => rfl))
    (dss_cons (ds_for (di_seq (de_name 1 rfl (vis_of rfl) rfl rfl)) (dg_name (sto_of rfl rfl)) (dss_one (ds_for (di_seq (de_name 3 rfl (vis_of rfl) rfl rfl)) (dg_tup (fun X c => (pgsN_cons c (sto_of rfl rfl) (pgsN_cons c (sto_of rfl rfl) pgsN_nil rfl) rfl)) (fun _ => rfl) (fun _ => rfl)) (dss_one (ds_put rfl (vis_of rfl) rfl rfl (de_name 4 rfl (vis_of rfl) rfl rfl) (de_if (dt_cmp op_inD' (de_name 4 rfl (vis_of rfl) rfl rfl) (de_name 0 rfl (vis_of rfl) rfl rfl) rfl) (de_op op_addD (de_bm PySem.F.plainAttrs_dict PySem.F.slot_dict_get PySem.F.type_dict_get mt_getD (de_name 2 rfl (vis_of rfl) rfl rfl) (da_cons (de_name 4 rfl (vis_of rfl) rfl rfl) (da_cons de_int da_nil (fun _ => rfl)) (fun _ => rfl)) (fun _ => rfl) (fun _ => rfl) rfl (fun _ => rfl) (fun _ => rfl)) (de_name 5 rfl (vis_of rfl) rfl rfl)) de_int) (fun _ => rfl) (fun _ => rfl) (fun _ => rfl) (fun _ => rfl) (fun _ _ => rfl))) (fun _ _ => rfl))) (fun _ _ => rfl))
    (dss_one (ds_ret (de_call (ok_stock_by Y) (by decide) rfl Y.g_stock_by Y.F_stock_by.kp Y.b_stock_by (da_cons (de_name 2 rfl (vis_of rfl) rfl rfl) da_nil (fun _ => rfl)) rfl (fun _ => rfl) (fun _ => rfl) rfl (mcons_len mnil_len))))))
theorem ok_added_by {G : GC} (Y : Fx G) : FnG G 2 Y.f_added_by Y.d_added_by ["once", "stocks"] (spM G.K 2 p_added_by) := fn_m Y.F_added_by sc_added_by (dss_added_by Y)
theorem dss_once_table {G : GC} (Y : Fx G) : DSs G ⟨["declarations", "found", "tree", "_name", "part"], defScope s_once_table, fun _ => true, 0⟩ (defBody s_once_table) b_once_table :=
    (dss_cons (ds_asg (sto_of rfl rfl) de_dnew (fun _ => rfl))
    (dss_cons (ds_for (di_seq (de_name 0 rfl (vis_of rfl) rfl rfl)) (dg_name (sto_of rfl rfl)) (dss_one (ds_if (dt_cmp op_inD' (de_ix ix_D (de_name 2 rfl (vis_of rfl) rfl rfl) de_int (fun _ _ => rfl)) (de_tup (da_cons de_str (da_cons de_str da_nil (fun _ => rfl)) (fun _ => rfl))) rfl) (dss_one (ds_put rfl (vis_of rfl) rfl rfl (de_ix ix_D (de_name 2 rfl (vis_of rfl) rfl rfl) de_int (fun _ _ => rfl)) (de_cmp op_eqD' (de_ix ix_D (de_name 2 rfl (vis_of rfl) rfl rfl) de_int (fun _ _ => rfl)) de_str rfl) (fun _ => rfl) (fun _ => rfl) (fun _ => rfl) (fun _ => rfl) (fun _ _ => rfl))) (dss_one (ds_if (dt_cmp op_inD' (de_ix ix_D (de_name 2 rfl (vis_of rfl) rfl rfl) de_int (fun _ _ => rfl)) (de_tup (da_cons de_str (da_cons de_str da_nil (fun _ => rfl)) (fun _ => rfl))) rfl) (dss_one (ds_put rfl (vis_of rfl) rfl rfl (de_ix ix_D (de_name 2 rfl (vis_of rfl) rfl rfl) de_int (fun _ _ => rfl)) (de_callB call_anyD rfl Y.z_any rfl (da_cons (de_lc (di_seqC (de_ix ix_D (de_name 2 rfl (vis_of rfl) rfl rfl) de_int (fun _ _ => rfl))) (blkOk_by (own := [("_name", 3), ("part", 4)]) (by decide +kernel)) (dg_tup (fun X c => (pgsN_cons c (sto_of rfl rfl) (pgsN_cons c (sto_of rfl rfl) pgsN_nil rfl) rfl)) (fun _ => rfl) (fun _ => rfl)) dts_nil (de_bm PySem.F.plainAttrs_dict PySem.F.slot_dict_get PySem.F.type_dict_get mt_getD (de_name 1 rfl (vis_of rfl) rfl rfl) (da_cons (de_name 4 rfl (vis_of rfl) rfl rfl) (da_cons de_bl da_nil (fun _ => rfl)) (fun _ => rfl)) (fun _ => rfl) (fun _ => rfl) rfl (fun _ => rfl) (fun _ => rfl)) (by decide) (gtup_stay [3, 4]) (fun _ _ => rfl)) da_nil (fun _ => rfl)) (by decide) rfl (fun _ => rfl) (fun _ => rfl)) (fun _ => rfl) (fun _ => rfl) (fun _ => rfl) (fun _ => rfl) (fun _ _ => rfl))) dss_nil)))) (fun _ _ => rfl))
    (dss_one (ds_ret (de_name 1 rfl (vis_of rfl) rfl rfl)))))
theorem ok_once_table {G : GC} (Y : Fx G) : FnG G 1 Y.f_once_table Y.d_once_table ["declarations"] (spM G.K 1 p_once_table) := fn_m Y.F_once_table sc_once_table (dss_once_table Y)
theorem dss_once_kinds {G : GC} (Y : Fx G) : DSs G ⟨["declarations", "table", "kind"], defScope s_once_kinds, fun _ => true, 1⟩ (defBody s_once_kinds) b_once_kinds :=
    (dss_cons (ds_asg (sto_of rfl rfl) (de_call (ok_once_table Y) (by decide) rfl Y.g_once_table Y.F_once_table.kp Y.b_once_table (da_cons (de_name 0 rfl (vis_of rfl) rfl rfl) da_nil (fun _ => rfl)) rfl (fun _ => rfl) (fun _ => rfl) rfl (mcons_len mnil_len)) (fun _ => rfl))
    (dss_one (ds_ret (de_callTy call_tupleD rfl Y.z_tuple rfl (da_cons (de_lc (di_seqC (de_callB call_sortedD' rfl Y.z_sorted rfl (da_cons (de_name 1 rfl (vis_of rfl) rfl rfl) da_nil (fun _ => rfl)) (by decide) rfl (fun _ => rfl) (fun _ => rfl))) (blkOk_by (own := [("kind", 2)]) (by decide +kernel)) (dg_name (sto_of rfl rfl)) (dts_one (dt_val (de_ix ix_D (de_name 1 rfl (vis_of rfl) rfl rfl) (de_name 2 rfl (vis_of rfl) rfl rfl) (fun _ _ => rfl)) (fun _ _ => rfl))) (de_name 2 rfl (vis_of rfl) rfl rfl) (by decide) (gnm_stay 2) (fun _ _ => rfl)) da_nil (fun _ => rfl)) (by decide) rfl (fun _ => rfl) (fun _ => rfl)))))
theorem ok_once_kinds {G : GC} (Y : Fx G) : FnG G 2 Y.f_once_kinds Y.d_once_kinds ["declarations"] (spM G.K 1 p_once_kinds) := fn_m Y.F_once_kinds sc_once_kinds (dss_once_kinds Y)
theorem dss_added {G : GC} (Y : Fx G) : DSs G ⟨["declarations", "stocks"], defScope s_added, fun _ => true, 2⟩ (defBody s_added) b_added :=
    (dss_one (ds_ret (de_call (ok_added_by Y) (by decide) rfl Y.g_added_by Y.F_added_by.kp Y.b_added_by (da_cons (de_call (ok_once_kinds Y) (by decide) rfl Y.g_once_kinds Y.F_once_kinds.kp Y.b_once_kinds (da_cons (de_name 0 rfl (vis_of rfl) rfl rfl) da_nil (fun _ => rfl)) rfl (fun _ => rfl) (fun _ => rfl) rfl (mcons_len mnil_len)) (da_cons (de_name 1 rfl (vis_of rfl) rfl rfl) da_nil (fun _ => rfl)) (fun _ => rfl)) rfl (fun _ => rfl) (fun _ => rfl) rfl (mcons_len (mcons_len mnil_len)))))
theorem ok_added {G : GC} (Y : Fx G) : FnG G 3 Y.f_added Y.d_added ["declarations", "stocks"] (spM G.K 2 p_added) := fn_m Y.F_added sc_added (dss_added Y)
theorem dss_is_above {G : GC} (Y : Fx G) : DSs G ⟨["one", "other", "counts", "kind", "count"], defScope s_is_above, fun _ => true, 0⟩ (defBody s_is_above) b_is_above :=
    (dss_cons (ds_asg (sto_of rfl rfl) (de_callTy call_dictD' rfl Y.z_dict rfl (da_cons (de_name 0 rfl (vis_of rfl) rfl rfl) da_nil (fun _ => rfl)) (by decide) rfl (fun _ => rfl) (fun _ => rfl)) (fun _ => rfl))
    (dss_one (ds_ret (de_callB call_allD rfl Y.z_all rfl (da_cons (de_lc (di_seqC (de_name 1 rfl (vis_of rfl) rfl rfl)) (blkOk_by (own := [("kind", 3), ("count", 4)]) (by decide +kernel)) (dg_tup (fun X c => (pgsN_cons c (sto_of rfl rfl) (pgsN_cons c (sto_of rfl rfl) pgsN_nil rfl) rfl)) (fun _ => rfl) (fun _ => rfl)) dts_nil (de_cmp op_geD (de_bm PySem.F.plainAttrs_dict PySem.F.slot_dict_get PySem.F.type_dict_get mt_getD (de_name 2 rfl (vis_of rfl) rfl rfl) (da_cons (de_name 3 rfl (vis_of rfl) rfl rfl) (da_cons de_int da_nil (fun _ => rfl)) (fun _ => rfl)) (fun _ => rfl) (fun _ => rfl) rfl (fun _ => rfl) (fun _ => rfl)) (de_name 4 rfl (vis_of rfl) rfl rfl) rfl) (by decide) (gtup_stay [3, 4]) (fun _ _ => rfl)) da_nil (fun _ => rfl)) (by decide) rfl (fun _ => rfl) (fun _ => rfl)))))
theorem ok_is_above {G : GC} (Y : Fx G) : FnG G 1 Y.f_is_above Y.d_is_above ["one", "other"] (spM G.K 2 p_is_above) := fn_m Y.F_is_above sc_is_above (dss_is_above Y)
theorem dss_is_met {G : GC} (Y : Fx G) : DSs G ⟨["lot", "stock", "member"], defScope s_is_met, fun _ => true, 1⟩ (defBody s_is_met) b_is_met :=
    (dss_one (ds_ret (de_callB call_anyD rfl Y.z_any rfl (da_cons (de_lc (di_seqC (de_name 0 rfl (vis_of rfl) rfl rfl)) (blkOk_by (own := [("member", 2)]) (by decide +kernel)) (dg_name (sto_of rfl rfl)) dts_nil (de_call (ok_is_above Y) (by decide) rfl Y.g_is_above Y.F_is_above.kp Y.b_is_above (da_cons (de_name 1 rfl (vis_of rfl) rfl rfl) (da_cons (de_name 2 rfl (vis_of rfl) rfl rfl) da_nil (fun _ => rfl)) (fun _ => rfl)) rfl (fun _ => rfl) (fun _ => rfl) rfl (mcons_len (mcons_len mnil_len))) (by decide) (gnm_stay 2) (fun _ _ => rfl)) da_nil (fun _ => rfl)) (by decide) rfl (fun _ => rfl) (fun _ => rfl))))
theorem ok_is_met {G : GC} (Y : Fx G) : FnG G 2 Y.f_is_met Y.d_is_met ["lot", "stock"] (spM G.K 2 p_is_met) := fn_m Y.F_is_met sc_is_met (dss_is_met Y)
theorem dss_joined {G : GC} (Y : Fx G) : DSs G ⟨["stocks", "counts", "stock", "kind", "count"], defScope s_joined, fun _ => true, 1⟩ (defBody s_joined) b_joined :=
    (dss_cons (ds_asg (sto_of rfl rfl) de_dnew (fun _ => rfl))
    (dss_cons (ds_for (di_seq (de_name 0 rfl (vis_of rfl) rfl rfl)) (dg_name (sto_of rfl rfl)) (dss_one (ds_for (di_seq (de_name 2 rfl (vis_of rfl) rfl rfl)) (dg_tup (fun X c => (pgsN_cons c (sto_of rfl rfl) (pgsN_cons c (sto_of rfl rfl) pgsN_nil rfl) rfl)) (fun _ => rfl) (fun _ => rfl)) (dss_one (ds_put rfl (vis_of rfl) rfl rfl (de_name 3 rfl (vis_of rfl) rfl rfl) (de_callB call_max2D rfl Y.z_max rfl (da_cons (de_name 4 rfl (vis_of rfl) rfl rfl) (da_cons (de_bm PySem.F.plainAttrs_dict PySem.F.slot_dict_get PySem.F.type_dict_get mt_getD (de_name 1 rfl (vis_of rfl) rfl rfl) (da_cons (de_name 3 rfl (vis_of rfl) rfl rfl) (da_cons de_int da_nil (fun _ => rfl)) (fun _ => rfl)) (fun _ => rfl) (fun _ => rfl) rfl (fun _ => rfl) (fun _ => rfl)) da_nil (fun _ => rfl)) (fun _ => rfl)) (by decide) rfl (fun _ => rfl) (fun _ => rfl)) (fun _ => rfl) (fun _ => rfl) (fun _ => rfl) (fun _ => rfl) (fun _ _ => rfl))) (fun _ _ => rfl))) (fun _ _ => rfl))
    (dss_one (ds_ret (de_call (ok_stock_by Y) (by decide) rfl Y.g_stock_by Y.F_stock_by.kp Y.b_stock_by (da_cons (de_name 1 rfl (vis_of rfl) rfl rfl) da_nil (fun _ => rfl)) rfl (fun _ => rfl) (fun _ => rfl) rfl (mcons_len mnil_len))))))
theorem ok_joined {G : GC} (Y : Fx G) : FnG G 2 Y.f_joined Y.d_joined ["stocks"] (spM G.K 1 p_joined) := fn_m Y.F_joined sc_joined (dss_joined Y)
theorem dss_least_of {G : GC} (Y : Fx G) : DSs G ⟨["stocks", "found", "stock", "other"], defScope s_least_of, fun _ => true, 2⟩ (defBody s_least_of) b_least_of :=
    (dss_cons (ds_asg (sto_of rfl rfl) (de_lst da_nil) (fun _ => rfl))
    (dss_cons (ds_for (di_seq (de_srl (di_seqC (de_name 0 rfl (vis_of rfl) rfl rfl)) (blkOk_by (own := [("stock", 2)]) (by decide +kernel)) (sto_of rfl rfl) (vis_of rfl) rfl rfl rfl Y.z_sorted rfl Y.z_len (fun _ _ => rfl))) (dg_name (sto_of rfl rfl)) (dss_one (ds_if (dt_not (dt_val (de_call (ok_is_met Y) (by decide) rfl Y.g_is_met Y.F_is_met.kp Y.b_is_met (da_cons (de_name 1 rfl (vis_of rfl) rfl rfl) (da_cons (de_name 2 rfl (vis_of rfl) rfl rfl) da_nil (fun _ => rfl)) (fun _ => rfl)) rfl (fun _ => rfl) (fun _ => rfl) rfl (mcons_len (mcons_len mnil_len))) (fun _ _ => rfl))) (dss_one (ds_asg (sto_of rfl rfl) (de_op op_addD (de_lc (di_seqC (de_name 1 rfl (vis_of rfl) rfl rfl)) (blkOk_by (own := [("other", 3)]) (by decide +kernel)) (dg_name (sto_of rfl rfl)) (dts_one (dt_not (dt_val (de_call (ok_is_above Y) (by decide) rfl Y.g_is_above Y.F_is_above.kp Y.b_is_above (da_cons (de_name 3 rfl (vis_of rfl) rfl rfl) (da_cons (de_name 2 rfl (vis_of rfl) rfl rfl) da_nil (fun _ => rfl)) (fun _ => rfl)) rfl (fun _ => rfl) (fun _ => rfl) rfl (mcons_len (mcons_len mnil_len))) (fun _ _ => rfl)))) (de_name 3 rfl (vis_of rfl) rfl rfl) (by decide) (gnm_stay 3) (fun _ _ => rfl)) (de_lst (da_cons (de_name 2 rfl (vis_of rfl) rfl rfl) da_nil (fun _ => rfl)))) (fun _ => rfl))) dss_nil)) (fun _ _ => rfl))
    (dss_one (ds_ret (de_callTy call_tupleD rfl Y.z_tuple rfl (da_cons (de_callB call_sortedE rfl Y.z_sorted rfl (da_cons (de_name 1 rfl (vis_of rfl) rfl rfl) da_nil (fun _ => rfl)) (by decide) rfl (fun _ => rfl) (fun _ => rfl)) da_nil (fun _ => rfl)) (by decide) rfl (fun _ => rfl) (fun _ => rfl))))))
theorem ok_least_of {G : GC} (Y : Fx G) : FnG G 3 Y.f_least_of Y.d_least_of ["stocks"] (spM G.K 1 p_least_of) := fn_m Y.F_least_of sc_least_of (dss_least_of Y)
theorem dss_joins_of {G : GC} (Y : Fx G) : DSs G ⟨["lots", "found", "lot", "one", "other"], defScope s_joins_of, fun _ => true, 3⟩ (defBody s_joins_of) b_joins_of :=
    (dss_cons (ds_asg (sto_of rfl rfl) (de_tup (da_cons (de_tup da_nil) da_nil (fun _ => rfl))) (fun _ => rfl))
    (dss_cons (ds_for (di_seq (de_name 0 rfl (vis_of rfl) rfl rfl)) (dg_name (sto_of rfl rfl)) (dss_one (ds_asg (sto_of rfl rfl) (de_call (ok_least_of Y) (by decide) rfl Y.g_least_of Y.F_least_of.kp Y.b_least_of (da_cons (de_lc2 (di_seqC (de_name 1 rfl (vis_of rfl) rfl rfl)) (blkOk_by (own := [("one", 3), ("other", 4)]) (by decide +kernel)) (by decide) (dg_name (sto_of rfl rfl)) dts_nil (di_seqC (de_name 2 rfl (vis_of rfl) rfl rfl)) (dg_name (sto_of rfl rfl)) dts_nil (de_call (ok_joined Y) (by decide) rfl Y.g_joined Y.F_joined.kp Y.b_joined (da_cons (de_tup (da_cons (de_name 3 rfl (vis_of rfl) rfl rfl) (da_cons (de_name 4 rfl (vis_of rfl) rfl rfl) da_nil (fun _ => rfl)) (fun _ => rfl))) da_nil (fun _ => rfl)) rfl (fun _ => rfl) (fun _ => rfl) rfl (mcons_len mnil_len)) (by decide) (gnm_stay 3) (by decide) (gnm_stay 4) (fun _ _ => rfl) (fun _ _ => rfl)) da_nil (fun _ => rfl)) rfl (fun _ => rfl) (fun _ => rfl) rfl (mcons_len mnil_len)) (fun _ => rfl))) (fun _ _ => rfl))
    (dss_one (ds_ret (de_name 1 rfl (vis_of rfl) rfl rfl)))))
theorem ok_joins_of {G : GC} (Y : Fx G) : FnG G 4 Y.f_joins_of Y.d_joins_of ["lots"] (spM G.K 1 p_joins_of) := fn_m Y.F_joins_of sc_joins_of (dss_joins_of Y)
theorem dss_sums_of {G : GC} (Y : Fx G) : DSs G ⟨["declarations", "lots", "once", "found", "lot", "one", "other"], defScope s_sums_of, fun _ => true, 3⟩ (defBody s_sums_of) b_sums_of :=
    (dss_cons (ds_parC (sto_of rfl rfl) (sto_of rfl rfl) (de_call (ok_once_kinds Y) (by decide) rfl Y.g_once_kinds Y.F_once_kinds.kp Y.b_once_kinds (da_cons (de_name 0 rfl (vis_of rfl) rfl rfl) da_nil (fun _ => rfl)) rfl (fun _ => rfl) (fun _ => rfl) rfl (mcons_len mnil_len)) (de_tup (da_cons (de_tup da_nil) da_nil (fun _ => rfl))) (fun _ => rfl) (fun _ => rfl) (fun env h => by cases env; cases h; rfl) (fun env h => by cases env; cases h; rfl) (fun _ => rfl) (fun _ => rfl) (fun _ => rfl) (fun _ => rfl) (fun _ => rfl))
    (dss_cons (ds_for (di_seq (de_name 1 rfl (vis_of rfl) rfl rfl)) (dg_name (sto_of rfl rfl)) (dss_one (ds_asg (sto_of rfl rfl) (de_call (ok_least_of Y) (by decide) rfl Y.g_least_of Y.F_least_of.kp Y.b_least_of (da_cons (de_lc2 (di_seqC (de_name 3 rfl (vis_of rfl) rfl rfl)) (blkOk_by (own := [("one", 5), ("other", 6)]) (by decide +kernel)) (by decide) (dg_name (sto_of rfl rfl)) dts_nil (di_seqC (de_name 4 rfl (vis_of rfl) rfl rfl)) (dg_name (sto_of rfl rfl)) dts_nil (de_call (ok_added_by Y) (by decide) rfl Y.g_added_by Y.F_added_by.kp Y.b_added_by (da_cons (de_name 2 rfl (vis_of rfl) rfl rfl) (da_cons (de_tup (da_cons (de_name 5 rfl (vis_of rfl) rfl rfl) (da_cons (de_name 6 rfl (vis_of rfl) rfl rfl) da_nil (fun _ => rfl)) (fun _ => rfl))) da_nil (fun _ => rfl)) (fun _ => rfl)) rfl (fun _ => rfl) (fun _ => rfl) rfl (mcons_len (mcons_len mnil_len))) (by decide) (gnm_stay 5) (by decide) (gnm_stay 6) (fun _ _ => rfl) (fun _ _ => rfl)) da_nil (fun _ => rfl)) rfl (fun _ => rfl) (fun _ => rfl) rfl (mcons_len mnil_len)) (fun _ => rfl))) (fun _ _ => rfl))
    (dss_one (ds_ret (de_name 3 rfl (vis_of rfl) rfl rfl)))))
theorem ok_sums_of {G : GC} (Y : Fx G) : FnG G 4 Y.f_sums_of Y.d_sums_of ["declarations", "lots"] (spM G.K 2 p_sums_of) := fn_m Y.F_sums_of sc_sums_of (dss_sums_of Y)
theorem dss_taken {G : GC} (Y : Fx G) : DSs G ⟨["declarations", "one", "other", "once", "counts", "kind", "count"], defScope s_taken, fun _ => true, 2⟩ (defBody s_taken) b_taken :=
    (dss_cons (ds_par rfl rfl (by decide) rfl rfl (de_call (ok_once_kinds Y) (by decide) rfl Y.g_once_kinds Y.F_once_kinds.kp Y.b_once_kinds (da_cons (de_name 0 rfl (vis_of rfl) rfl rfl) da_nil (fun _ => rfl)) rfl (fun _ => rfl) (fun _ => rfl) rfl (mcons_len mnil_len)) (de_callTy call_dictD' rfl Y.z_dict rfl (da_cons (de_name 1 rfl (vis_of rfl) rfl rfl) da_nil (fun _ => rfl)) (by decide) rfl (fun _ => rfl) (fun _ => rfl)) (fun _ => rfl) (fun _ => rfl) (fun env h => by cases env; cases h; rfl) (fun env h => by cases env; cases h; rfl))
    (dss_cons (ds_for (di_seq (de_name 2 rfl (vis_of rfl) rfl rfl)) (dg_tup (fun X c => (pgsN_cons c (sto_of rfl rfl) (pgsN_cons c (sto_of rfl rfl) pgsN_nil rfl) rfl)) (fun _ => rfl) (fun _ => rfl)) (dss_one (ds_put rfl (vis_of rfl) rfl rfl (de_name 5 rfl (vis_of rfl) rfl rfl) (de_if (dt_cmp op_inD' (de_name 5 rfl (vis_of rfl) rfl rfl) (de_name 3 rfl (vis_of rfl) rfl rfl) rfl) (de_op op_subD (de_ix ix_D (de_name 4 rfl (vis_of rfl) rfl rfl) (de_name 5 rfl (vis_of rfl) rfl rfl) (fun _ _ => rfl)) (de_name 6 rfl (vis_of rfl) rfl rfl)) (de_ix ix_D (de_name 4 rfl (vis_of rfl) rfl rfl) (de_name 5 rfl (vis_of rfl) rfl rfl) (fun _ _ => rfl))) (fun _ => rfl) (fun _ => rfl) (fun _ => rfl) (fun _ => rfl) (fun _ _ => rfl))) (fun _ _ => rfl))
    (dss_one (ds_ret (de_call (ok_stock_by Y) (by decide) rfl Y.g_stock_by Y.F_stock_by.kp Y.b_stock_by (da_cons (de_name 4 rfl (vis_of rfl) rfl rfl) da_nil (fun _ => rfl)) rfl (fun _ => rfl) (fun _ => rfl) rfl (mcons_len mnil_len))))))
theorem ok_taken {G : GC} (Y : Fx G) : FnG G 3 Y.f_taken Y.d_taken ["declarations", "one", "other"] (spM G.K 3 p_taken) := fn_m Y.F_taken sc_taken (dss_taken Y)
theorem dss_without_by {G : GC} (Y : Fx G) : DSs G ⟨["once", "one", "other", "counts", "kind", "count"], defScope s_without_by, fun _ => true, 1⟩ (defBody s_without_by) b_without_by :=
    (dss_cons (ds_asg (sto_of rfl rfl) (de_callTy call_dictD' rfl Y.z_dict rfl (da_cons (de_name 1 rfl (vis_of rfl) rfl rfl) da_nil (fun _ => rfl)) (by decide) rfl (fun _ => rfl) (fun _ => rfl)) (fun _ => rfl))
    (dss_cons (ds_for (di_seq (de_name 2 rfl (vis_of rfl) rfl rfl)) (dg_tup (fun X c => (pgsN_cons c (sto_of rfl rfl) (pgsN_cons c (sto_of rfl rfl) pgsN_nil rfl) rfl)) (fun _ => rfl) (fun _ => rfl)) (dss_one (ds_put rfl (vis_of rfl) rfl rfl (de_name 4 rfl (vis_of rfl) rfl rfl) (de_if (dt_cmp op_inD' (de_name 4 rfl (vis_of rfl) rfl rfl) (de_name 0 rfl (vis_of rfl) rfl rfl) rfl) (de_callB call_max2D rfl Y.z_max rfl (da_cons de_int (da_cons (de_op op_subD (de_bm PySem.F.plainAttrs_dict PySem.F.slot_dict_get PySem.F.type_dict_get mt_getD (de_name 3 rfl (vis_of rfl) rfl rfl) (da_cons (de_name 4 rfl (vis_of rfl) rfl rfl) (da_cons de_int da_nil (fun _ => rfl)) (fun _ => rfl)) (fun _ => rfl) (fun _ => rfl) rfl (fun _ => rfl) (fun _ => rfl)) (de_name 5 rfl (vis_of rfl) rfl rfl)) da_nil (fun _ => rfl)) (fun _ => rfl)) (by decide) rfl (fun _ => rfl) (fun _ => rfl)) de_int) (fun _ => rfl) (fun _ => rfl) (fun _ => rfl) (fun _ => rfl) (fun _ _ => rfl))) (fun _ _ => rfl))
    (dss_one (ds_ret (de_call (ok_stock_by Y) (by decide) rfl Y.g_stock_by Y.F_stock_by.kp Y.b_stock_by (da_cons (de_name 3 rfl (vis_of rfl) rfl rfl) da_nil (fun _ => rfl)) rfl (fun _ => rfl) (fun _ => rfl) rfl (mcons_len mnil_len))))))
theorem ok_without_by {G : GC} (Y : Fx G) : FnG G 2 Y.f_without_by Y.d_without_by ["once", "one", "other"] (spM G.K 3 p_without_by) := fn_m Y.F_without_by sc_without_by (dss_without_by Y)
theorem dss_without {G : GC} (Y : Fx G) : DSs G ⟨["declarations", "one", "other"], defScope s_without, fun _ => true, 2⟩ (defBody s_without) b_without :=
    (dss_one (ds_ret (de_call (ok_without_by Y) (by decide) rfl Y.g_without_by Y.F_without_by.kp Y.b_without_by (da_cons (de_call (ok_once_kinds Y) (by decide) rfl Y.g_once_kinds Y.F_once_kinds.kp Y.b_once_kinds (da_cons (de_name 0 rfl (vis_of rfl) rfl rfl) da_nil (fun _ => rfl)) rfl (fun _ => rfl) (fun _ => rfl) rfl (mcons_len mnil_len)) (da_cons (de_name 1 rfl (vis_of rfl) rfl rfl) (da_cons (de_name 2 rfl (vis_of rfl) rfl rfl) da_nil (fun _ => rfl)) (fun _ => rfl)) (fun _ => rfl)) rfl (fun _ => rfl) (fun _ => rfl) rfl (mcons_len (mcons_len (mcons_len mnil_len))))))
theorem ok_without {G : GC} (Y : Fx G) : FnG G 3 Y.f_without Y.d_without ["declarations", "one", "other"] (spM G.K 3 p_without) := fn_m Y.F_without sc_without (dss_without Y)
theorem dss_law {G : GC} (Y : Fx G) : DSs G ⟨["_law_script", "_law_bag_here", "_law_turn", "_law_decls", "_law_one", "_law_other", "_law_third", "_law_less", "_law_both", "_law_all_three", "_law_rest", "_law_kind", "_law_count", "_law_lots", "_law_sums", "_law_fewer", "_law_k", "_law_some_here", "_law_name", "_law_many", "_law_lot"], defScope s_law, fun _ => true, 5⟩ (defBody s_law) b_law :=
    (dss_cons (ds_asg (sto_of rfl rfl) (de_call (ok__law_bag Y) (by decide) rfl Y.g__law_bag Y.F__law_bag.kp Y.b__law_bag (da_cons (de_name 0 rfl (vis_of rfl) rfl rfl) da_nil (fun _ => rfl)) rfl (fun _ => rfl) (fun _ => rfl) rfl (mcons_len mnil_len)) (fun _ => rfl))
    (dss_cons (ds_for (di_range1 rfl Y.z_range (da_cons de_int da_nil (fun _ => rfl)) (fun _ => rfl)) (dg_name (sto_of rfl rfl)) (dss_cons (ds_asg (sto_of rfl rfl) (de_call (ok__law_library Y) (by decide) rfl Y.g__law_library Y.F__law_library.kp Y.b__law_library (da_cons (de_name 1 rfl (vis_of rfl) rfl rfl) (da_cons (de_call (ok__law_some Y) (by decide) rfl Y.g__law_some Y.F__law_some.kp Y.b__law_some (da_cons (de_name 1 rfl (vis_of rfl) rfl rfl) (da_cons (de_lst (da_cons de_int (da_cons de_int (da_cons de_int da_nil (fun _ => rfl)) (fun _ => rfl)) (fun _ => rfl))) da_nil (fun _ => rfl)) (fun _ => rfl)) rfl (fun _ => rfl) (fun _ => rfl) rfl (mcons_len (mcons_len mnil_len))) da_nil (fun _ => rfl)) (fun _ => rfl)) rfl (fun _ => rfl) (fun _ => rfl) rfl (mcons_len (mcons_len mnil_len))) (fun _ => rfl))
    (dss_cons (ds_asgG (de_lc (di_range1 rfl Y.z_range (da_cons de_int da_nil (fun _ => rfl)) (fun _ => rfl)) (blkOk_by (own := [("_law_k", 16)]) (by decide +kernel)) (dg_name (sto_of rfl rfl)) dts_nil (de_call (ok__law_drawn_stock Y) (by decide) rfl Y.g__law_drawn_stock Y.F__law_drawn_stock.kp Y.b__law_drawn_stock (da_cons (de_name 1 rfl (vis_of rfl) rfl rfl) (da_cons (de_name 3 rfl (vis_of rfl) rfl rfl) da_nil (fun _ => rfl)) (fun _ => rfl)) rfl (fun _ => rfl) (fun _ => rfl) rfl (mcons_len (mcons_len mnil_len))) (by decide) (gnm_stay 16) (fun _ _ => rfl)) (dg_lst (fun X c => (pgsN_cons c (sto_of rfl rfl) (pgsN_cons c (sto_of rfl rfl) (pgsN_cons c (sto_of rfl rfl) (pgsN_cons c (sto_of rfl rfl) pgsN_nil rfl) rfl) rfl) rfl)) (fun _ => rfl) (fun _ => rfl)) (fun env h => by cases env; cases h; rfl) (fun env h => by cases env; cases h; rfl) (fun _ => rfl))
    (dss_cons (ds_par rfl rfl (by decide) rfl rfl (de_call (ok_added Y) (by decide) rfl Y.g_added Y.F_added.kp Y.b_added (da_cons (de_name 3 rfl (vis_of rfl) rfl rfl) (da_cons (de_lst (da_cons (de_name 4 rfl (vis_of rfl) rfl rfl) (da_cons (de_name 5 rfl (vis_of rfl) rfl rfl) da_nil (fun _ => rfl)) (fun _ => rfl))) da_nil (fun _ => rfl)) (fun _ => rfl)) rfl (fun _ => rfl) (fun _ => rfl) rfl (mcons_len (mcons_len mnil_len))) (de_call (ok_added Y) (by decide) rfl Y.g_added Y.F_added.kp Y.b_added (da_cons (de_name 3 rfl (vis_of rfl) rfl rfl) (da_cons (de_lst (da_cons (de_name 4 rfl (vis_of rfl) rfl rfl) (da_cons (de_name 5 rfl (vis_of rfl) rfl rfl) (da_cons (de_name 6 rfl (vis_of rfl) rfl rfl) da_nil (fun _ => rfl)) (fun _ => rfl)) (fun _ => rfl))) da_nil (fun _ => rfl)) (fun _ => rfl)) rfl (fun _ => rfl) (fun _ => rfl) rfl (mcons_len (mcons_len mnil_len))) (fun _ => rfl) (fun _ => rfl) (fun env h => by cases env; cases h; rfl) (fun env h => by cases env; cases h; rfl))
    (dss_cons (ds_if (dt_w (dw_or (dt_not (dt_val (de_call (ok_is_above Y) (by decide) rfl Y.g_is_above Y.F_is_above.kp Y.b_is_above (da_cons (de_name 8 rfl (vis_of rfl) rfl rfl) (da_cons (de_name 4 rfl (vis_of rfl) rfl rfl) da_nil (fun _ => rfl)) (fun _ => rfl)) rfl (fun _ => rfl) (fun _ => rfl) rfl (mcons_len (mcons_len mnil_len))) (fun _ _ => rfl))) (dw_or (dt_not (dt_val (de_call (ok_is_above Y) (by decide) rfl Y.g_is_above Y.F_is_above.kp Y.b_is_above (da_cons (de_name 9 rfl (vis_of rfl) rfl rfl) (da_cons (de_name 8 rfl (vis_of rfl) rfl rfl) da_nil (fun _ => rfl)) (fun _ => rfl)) rfl (fun _ => rfl) (fun _ => rfl) rfl (mcons_len (mcons_len mnil_len))) (fun _ _ => rfl))) (dw_or (dt_not (dt_val (de_call (ok_is_above Y) (by decide) rfl Y.g_is_above Y.F_is_above.kp Y.b_is_above (da_cons (de_name 9 rfl (vis_of rfl) rfl rfl) (da_cons (de_name 5 rfl (vis_of rfl) rfl rfl) da_nil (fun _ => rfl)) (fun _ => rfl)) rfl (fun _ => rfl) (fun _ => rfl) rfl (mcons_len (mcons_len mnil_len))) (fun _ _ => rfl))) (dw_one (dt_not (dt_val (de_call (ok_is_above Y) (by decide) rfl Y.g_is_above Y.F_is_above.kp Y.b_is_above (da_cons (de_name 4 rfl (vis_of rfl) rfl rfl) (da_cons (de_name 4 rfl (vis_of rfl) rfl rfl) da_nil (fun _ => rfl)) (fun _ => rfl)) rfl (fun _ => rfl) (fun _ => rfl) rfl (mcons_len (mcons_len mnil_len))) (fun _ _ => rfl)))))))) (dss_one (ds_ret de_bl)) dss_nil)
    (dss_cons (ds_if (dt_w (dw_and (dt_val (de_call (ok_is_above Y) (by decide) rfl Y.g_is_above Y.F_is_above.kp Y.b_is_above (da_cons (de_name 4 rfl (vis_of rfl) rfl rfl) (da_cons (de_name 5 rfl (vis_of rfl) rfl rfl) da_nil (fun _ => rfl)) (fun _ => rfl)) rfl (fun _ => rfl) (fun _ => rfl) rfl (mcons_len (mcons_len mnil_len))) (fun _ _ => rfl)) (dw_and (dt_val (de_call (ok_is_above Y) (by decide) rfl Y.g_is_above Y.F_is_above.kp Y.b_is_above (da_cons (de_name 5 rfl (vis_of rfl) rfl rfl) (da_cons (de_name 4 rfl (vis_of rfl) rfl rfl) da_nil (fun _ => rfl)) (fun _ => rfl)) rfl (fun _ => rfl) (fun _ => rfl) rfl (mcons_len (mcons_len mnil_len))) (fun _ _ => rfl)) (dw_one (dt_cmp op_neD' (de_name 4 rfl (vis_of rfl) rfl rfl) (de_name 5 rfl (vis_of rfl) rfl rfl) rfl))))) (dss_one (ds_ret de_bl)) dss_nil)
    (dss_cons (ds_if (dt_not (dt_val (de_call (ok__law_alike Y) (by decide) rfl Y.g__law_alike Y.F__law_alike.kp Y.b__law_alike (da_cons (de_lst (da_cons (de_call (ok_added Y) (by decide) rfl Y.g_added Y.F_added.kp Y.b_added (da_cons (de_name 3 rfl (vis_of rfl) rfl rfl) (da_cons (de_lst (da_cons (de_name 8 rfl (vis_of rfl) rfl rfl) (da_cons (de_name 6 rfl (vis_of rfl) rfl rfl) da_nil (fun _ => rfl)) (fun _ => rfl))) da_nil (fun _ => rfl)) (fun _ => rfl)) rfl (fun _ => rfl) (fun _ => rfl) rfl (mcons_len (mcons_len mnil_len))) (da_cons (de_call (ok_added Y) (by decide) rfl Y.g_added Y.F_added.kp Y.b_added (da_cons (de_name 3 rfl (vis_of rfl) rfl rfl) (da_cons (de_lst (da_cons (de_name 6 rfl (vis_of rfl) rfl rfl) (da_cons (de_name 5 rfl (vis_of rfl) rfl rfl) (da_cons (de_name 4 rfl (vis_of rfl) rfl rfl) da_nil (fun _ => rfl)) (fun _ => rfl)) (fun _ => rfl))) da_nil (fun _ => rfl)) (fun _ => rfl)) rfl (fun _ => rfl) (fun _ => rfl) rfl (mcons_len (mcons_len mnil_len))) (da_cons (de_call (ok_joined Y) (by decide) rfl Y.g_joined Y.F_joined.kp Y.b_joined (da_cons (de_lst (da_cons (de_name 4 rfl (vis_of rfl) rfl rfl) (da_cons (de_call (ok_joined Y) (by decide) rfl Y.g_joined Y.F_joined.kp Y.b_joined (da_cons (de_lst (da_cons (de_name 5 rfl (vis_of rfl) rfl rfl) (da_cons (de_name 6 rfl (vis_of rfl) rfl rfl) da_nil (fun _ => rfl)) (fun _ => rfl))) da_nil (fun _ => rfl)) rfl (fun _ => rfl) (fun _ => rfl) rfl (mcons_len mnil_len)) da_nil (fun _ => rfl)) (fun _ => rfl))) da_nil (fun _ => rfl)) rfl (fun _ => rfl) (fun _ => rfl) rfl (mcons_len mnil_len)) da_nil (fun _ => rfl)) (fun _ => rfl)) (fun _ => rfl))) (da_cons (de_lst (da_cons (de_name 9 rfl (vis_of rfl) rfl rfl) (da_cons (de_name 9 rfl (vis_of rfl) rfl rfl) (da_cons (de_call (ok_joined Y) (by decide) rfl Y.g_joined Y.F_joined.kp Y.b_joined (da_cons (de_lst (da_cons (de_name 6 rfl (vis_of rfl) rfl rfl) (da_cons (de_name 4 rfl (vis_of rfl) rfl rfl) (da_cons (de_name 5 rfl (vis_of rfl) rfl rfl) da_nil (fun _ => rfl)) (fun _ => rfl)) (fun _ => rfl))) da_nil (fun _ => rfl)) rfl (fun _ => rfl) (fun _ => rfl) rfl (mcons_len mnil_len)) da_nil (fun _ => rfl)) (fun _ => rfl)) (fun _ => rfl))) da_nil (fun _ => rfl)) (fun _ => rfl)) rfl (fun _ => rfl) (fun _ => rfl) rfl (mcons_len (mcons_len mnil_len))) (fun _ _ => rfl))) (dss_one (ds_ret de_bl)) dss_nil)
    (dss_cons (ds_if (dt_w (dw_or (dt_not (dt_val (de_call (ok_is_above Y) (by decide) rfl Y.g_is_above Y.F_is_above.kp Y.b_is_above (da_cons (de_name 8 rfl (vis_of rfl) rfl rfl) (da_cons (de_call (ok_joined Y) (by decide) rfl Y.g_joined Y.F_joined.kp Y.b_joined (da_cons (de_lst (da_cons (de_name 4 rfl (vis_of rfl) rfl rfl) (da_cons (de_name 5 rfl (vis_of rfl) rfl rfl) da_nil (fun _ => rfl)) (fun _ => rfl))) da_nil (fun _ => rfl)) rfl (fun _ => rfl) (fun _ => rfl) rfl (mcons_len mnil_len)) da_nil (fun _ => rfl)) (fun _ => rfl)) rfl (fun _ => rfl) (fun _ => rfl) rfl (mcons_len (mcons_len mnil_len))) (fun _ _ => rfl))) (dw_one (dt_not (dt_val (de_call (ok_is_above Y) (by decide) rfl Y.g_is_above Y.F_is_above.kp Y.b_is_above (da_cons (de_call (ok_added Y) (by decide) rfl Y.g_added Y.F_added.kp Y.b_added (da_cons (de_name 3 rfl (vis_of rfl) rfl rfl) (da_cons (de_lst (da_cons (de_call (ok_taken Y) (by decide) rfl Y.g_taken Y.F_taken.kp Y.b_taken (da_cons (de_name 3 rfl (vis_of rfl) rfl rfl) (da_cons (de_name 8 rfl (vis_of rfl) rfl rfl) (da_cons (de_name 5 rfl (vis_of rfl) rfl rfl) da_nil (fun _ => rfl)) (fun _ => rfl)) (fun _ => rfl)) rfl (fun _ => rfl) (fun _ => rfl) rfl (mcons_len (mcons_len (mcons_len mnil_len)))) (da_cons (de_name 5 rfl (vis_of rfl) rfl rfl) da_nil (fun _ => rfl)) (fun _ => rfl))) da_nil (fun _ => rfl)) (fun _ => rfl)) rfl (fun _ => rfl) (fun _ => rfl) rfl (mcons_len (mcons_len mnil_len))) (da_cons (de_name 8 rfl (vis_of rfl) rfl rfl) da_nil (fun _ => rfl)) (fun _ => rfl)) rfl (fun _ => rfl) (fun _ => rfl) rfl (mcons_len (mcons_len mnil_len))) (fun _ _ => rfl)))))) (dss_one (ds_ret de_bl)) dss_nil)
    (dss_cons (ds_asg (sto_of rfl rfl) (de_call (ok_without Y) (by decide) rfl Y.g_without Y.F_without.kp Y.b_without (da_cons (de_name 3 rfl (vis_of rfl) rfl rfl) (da_cons (de_name 4 rfl (vis_of rfl) rfl rfl) (da_cons (de_name 5 rfl (vis_of rfl) rfl rfl) da_nil (fun _ => rfl)) (fun _ => rfl)) (fun _ => rfl)) rfl (fun _ => rfl) (fun _ => rfl) rfl (mcons_len (mcons_len (mcons_len mnil_len)))) (fun _ => rfl))
    (dss_cons (ds_if (dt_w (dw_or (dt_not (dt_val (de_call (ok_is_above Y) (by decide) rfl Y.g_is_above Y.F_is_above.kp Y.b_is_above (da_cons (de_call (ok_added Y) (by decide) rfl Y.g_added Y.F_added.kp Y.b_added (da_cons (de_name 3 rfl (vis_of rfl) rfl rfl) (da_cons (de_lst (da_cons (de_name 10 rfl (vis_of rfl) rfl rfl) (da_cons (de_name 5 rfl (vis_of rfl) rfl rfl) da_nil (fun _ => rfl)) (fun _ => rfl))) da_nil (fun _ => rfl)) (fun _ => rfl)) rfl (fun _ => rfl) (fun _ => rfl) rfl (mcons_len (mcons_len mnil_len))) (da_cons (de_name 4 rfl (vis_of rfl) rfl rfl) da_nil (fun _ => rfl)) (fun _ => rfl)) rfl (fun _ => rfl) (fun _ => rfl) rfl (mcons_len (mcons_len mnil_len))) (fun _ _ => rfl))) (dw_one (dt_not (dt_val (de_call (ok_is_above Y) (by decide) rfl Y.g_is_above Y.F_is_above.kp Y.b_is_above (da_cons (de_name 4 rfl (vis_of rfl) rfl rfl) (da_cons (de_name 10 rfl (vis_of rfl) rfl rfl) da_nil (fun _ => rfl)) (fun _ => rfl)) rfl (fun _ => rfl) (fun _ => rfl) rfl (mcons_len (mcons_len mnil_len))) (fun _ _ => rfl)))))) (dss_one (ds_ret de_bl)) dss_nil)
    (dss_cons (ds_for (di_seq (de_name 10 rfl (vis_of rfl) rfl rfl)) (dg_tup (fun X c => (pgsN_cons c (sto_of rfl rfl) (pgsN_cons c (sto_of rfl rfl) pgsN_nil rfl) rfl)) (fun _ => rfl) (fun _ => rfl)) (dss_cons (ds_asg (sto_of rfl rfl) (de_callTy call_tupleD rfl Y.z_tuple rfl (da_cons (de_lc (di_seqC (de_name 10 rfl (vis_of rfl) rfl rfl)) (blkOk_by (own := [("_law_name", 18), ("_law_many", 19)]) (by decide +kernel)) (dg_tup (fun X c => (pgsN_cons c (sto_of rfl rfl) (pgsN_cons c (sto_of rfl rfl) pgsN_nil rfl) rfl)) (fun _ => rfl) (fun _ => rfl)) (dts_one (dt_cmp op_gtD (de_name 19 rfl (vis_of rfl) rfl rfl) (de_callTy call_intD rfl Y.z_int rfl (da_cons (de_cmp op_eqD' (de_name 18 rfl (vis_of rfl) rfl rfl) (de_name 11 rfl (vis_of rfl) rfl rfl) rfl) da_nil (fun _ => rfl)) (by decide) rfl (fun _ => rfl) (fun _ => rfl)) rfl)) (de_tup (da_cons (de_name 18 rfl (vis_of rfl) rfl rfl) (da_cons (de_op op_subD (de_name 19 rfl (vis_of rfl) rfl rfl) (de_callTy call_intD rfl Y.z_int rfl (da_cons (de_cmp op_eqD' (de_name 18 rfl (vis_of rfl) rfl rfl) (de_name 11 rfl (vis_of rfl) rfl rfl) rfl) da_nil (fun _ => rfl)) (by decide) rfl (fun _ => rfl) (fun _ => rfl))) da_nil (fun _ => rfl)) (fun _ => rfl))) (by decide) (gtup_stay [18, 19]) (fun _ _ => rfl)) da_nil (fun _ => rfl)) (by decide) rfl (fun _ => rfl) (fun _ => rfl)) (fun _ => rfl))
    (dss_one (ds_if (dt_val (de_call (ok_is_above Y) (by decide) rfl Y.g_is_above Y.F_is_above.kp Y.b_is_above (da_cons (de_call (ok_added Y) (by decide) rfl Y.g_added Y.F_added.kp Y.b_added (da_cons (de_name 3 rfl (vis_of rfl) rfl rfl) (da_cons (de_lst (da_cons (de_name 15 rfl (vis_of rfl) rfl rfl) (da_cons (de_name 5 rfl (vis_of rfl) rfl rfl) da_nil (fun _ => rfl)) (fun _ => rfl))) da_nil (fun _ => rfl)) (fun _ => rfl)) rfl (fun _ => rfl) (fun _ => rfl) rfl (mcons_len (mcons_len mnil_len))) (da_cons (de_name 4 rfl (vis_of rfl) rfl rfl) da_nil (fun _ => rfl)) (fun _ => rfl)) rfl (fun _ => rfl) (fun _ => rfl) rfl (mcons_len (mcons_len mnil_len))) (fun _ _ => rfl)) (dss_one (ds_ret de_bl)) dss_nil))) (fun _ _ => rfl))
    (dss_cons (ds_asg (sto_of rfl rfl) (de_lst (da_cons (de_call (ok_least_of Y) (by decide) rfl Y.g_least_of Y.F_least_of.kp Y.b_least_of (da_cons (de_lst (da_cons (de_name 4 rfl (vis_of rfl) rfl rfl) (da_cons (de_name 5 rfl (vis_of rfl) rfl rfl) (da_cons (de_name 7 rfl (vis_of rfl) rfl rfl) da_nil (fun _ => rfl)) (fun _ => rfl)) (fun _ => rfl))) da_nil (fun _ => rfl)) rfl (fun _ => rfl) (fun _ => rfl) rfl (mcons_len mnil_len)) (da_cons (de_call (ok_least_of Y) (by decide) rfl Y.g_least_of Y.F_least_of.kp Y.b_least_of (da_cons (de_lst (da_cons (de_name 6 rfl (vis_of rfl) rfl rfl) (da_cons (de_name 7 rfl (vis_of rfl) rfl rfl) da_nil (fun _ => rfl)) (fun _ => rfl))) da_nil (fun _ => rfl)) rfl (fun _ => rfl) (fun _ => rfl) rfl (mcons_len mnil_len)) (da_cons (de_call (ok_least_of Y) (by decide) rfl Y.g_least_of Y.F_least_of.kp Y.b_least_of (da_cons (de_lst (da_cons (de_name 5 rfl (vis_of rfl) rfl rfl) (da_cons (de_name 9 rfl (vis_of rfl) rfl rfl) da_nil (fun _ => rfl)) (fun _ => rfl))) da_nil (fun _ => rfl)) rfl (fun _ => rfl) (fun _ => rfl) rfl (mcons_len mnil_len)) da_nil (fun _ => rfl)) (fun _ => rfl)) (fun _ => rfl))) (fun _ => rfl))
    (dss_cons (ds_asg (sto_of rfl rfl) (de_call (ok_sums_of Y) (by decide) rfl Y.g_sums_of Y.F_sums_of.kp Y.b_sums_of (da_cons (de_name 3 rfl (vis_of rfl) rfl rfl) (da_cons (de_name 13 rfl (vis_of rfl) rfl rfl) da_nil (fun _ => rfl)) (fun _ => rfl)) rfl (fun _ => rfl) (fun _ => rfl) rfl (mcons_len (mcons_len mnil_len))) (fun _ => rfl))
    (dss_cons (ds_if (dt_not (dt_val (de_call (ok__law_alike Y) (by decide) rfl Y.g__law_alike Y.F__law_alike.kp Y.b__law_alike (da_cons (de_lst (da_cons (de_call (ok_sums_of Y) (by decide) rfl Y.g_sums_of Y.F_sums_of.kp Y.b_sums_of (da_cons (de_name 3 rfl (vis_of rfl) rfl rfl) (da_cons (de_revL (de_name 13 rfl (vis_of rfl) rfl rfl)) da_nil (fun _ => rfl)) (fun _ => rfl)) rfl (fun _ => rfl) (fun _ => rfl) rfl (mcons_len (mcons_len mnil_len))) (da_cons (de_call (ok_sums_of Y) (by decide) rfl Y.g_sums_of Y.F_sums_of.kp Y.b_sums_of (da_cons (de_name 3 rfl (vis_of rfl) rfl rfl) (da_cons (de_lst (da_cons (de_call (ok_sums_of Y) (by decide) rfl Y.g_sums_of Y.F_sums_of.kp Y.b_sums_of (da_cons (de_name 3 rfl (vis_of rfl) rfl rfl) (da_cons (de_slice sl_D (de_name 13 rfl (vis_of rfl) rfl rfl) do_none (do_some de_int)) da_nil (fun _ => rfl)) (fun _ => rfl)) rfl (fun _ => rfl) (fun _ => rfl) rfl (mcons_len (mcons_len mnil_len))) (da_cons (de_ix ix_D (de_name 13 rfl (vis_of rfl) rfl rfl) de_int (fun _ _ => rfl)) da_nil (fun _ => rfl)) (fun _ => rfl))) da_nil (fun _ => rfl)) (fun _ => rfl)) rfl (fun _ => rfl) (fun _ => rfl) rfl (mcons_len (mcons_len mnil_len))) da_nil (fun _ => rfl)) (fun _ => rfl))) (da_cons (de_lst (da_cons (de_name 14 rfl (vis_of rfl) rfl rfl) (da_cons (de_name 14 rfl (vis_of rfl) rfl rfl) da_nil (fun _ => rfl)) (fun _ => rfl))) da_nil (fun _ => rfl)) (fun _ => rfl)) rfl (fun _ => rfl) (fun _ => rfl) rfl (mcons_len (mcons_len mnil_len))) (fun _ _ => rfl))) (dss_one (ds_ret de_bl)) dss_nil)
    (dss_cons (ds_if (dt_w (dw_or (dt_not (dt_val (de_call (ok_is_met Y) (by decide) rfl Y.g_is_met Y.F_is_met.kp Y.b_is_met (da_cons (de_name 14 rfl (vis_of rfl) rfl rfl) (da_cons (de_call (ok_added Y) (by decide) rfl Y.g_added Y.F_added.kp Y.b_added (da_cons (de_name 3 rfl (vis_of rfl) rfl rfl) (da_cons (de_lst (da_cons (de_name 7 rfl (vis_of rfl) rfl rfl) (da_cons (de_name 7 rfl (vis_of rfl) rfl rfl) (da_cons (de_name 5 rfl (vis_of rfl) rfl rfl) da_nil (fun _ => rfl)) (fun _ => rfl)) (fun _ => rfl))) da_nil (fun _ => rfl)) (fun _ => rfl)) rfl (fun _ => rfl) (fun _ => rfl) rfl (mcons_len (mcons_len mnil_len))) da_nil (fun _ => rfl)) (fun _ => rfl)) rfl (fun _ => rfl) (fun _ => rfl) rfl (mcons_len (mcons_len mnil_len))) (fun _ _ => rfl))) (dw_one (dt_cmp op_neD' (de_lc (di_seqC (de_call (ok_joins_of Y) (by decide) rfl Y.g_joins_of Y.F_joins_of.kp Y.b_joins_of (da_cons (de_name 13 rfl (vis_of rfl) rfl rfl) da_nil (fun _ => rfl)) rfl (fun _ => rfl) (fun _ => rfl) rfl (mcons_len mnil_len))) (blkOk_by (own := [("_law_some_here", 17)]) (by decide +kernel)) (dg_name (sto_of rfl rfl)) (dts_one (dt_not (dt_val (de_call (ok_is_above Y) (by decide) rfl Y.g_is_above Y.F_is_above.kp Y.b_is_above (da_cons (de_ix ix_D (de_call (ok_sums_of Y) (by decide) rfl Y.g_sums_of Y.F_sums_of.kp Y.b_sums_of (da_cons (de_name 3 rfl (vis_of rfl) rfl rfl) (da_cons (de_lst (da_cons (de_tup (da_cons (de_name 17 rfl (vis_of rfl) rfl rfl) da_nil (fun _ => rfl))) da_nil (fun _ => rfl))) da_nil (fun _ => rfl)) (fun _ => rfl)) rfl (fun _ => rfl) (fun _ => rfl) rfl (mcons_len (mcons_len mnil_len))) de_int (fun _ _ => rfl)) (da_cons (de_name 17 rfl (vis_of rfl) rfl rfl) da_nil (fun _ => rfl)) (fun _ => rfl)) rfl (fun _ => rfl) (fun _ => rfl) rfl (mcons_len (mcons_len mnil_len))) (fun _ _ => rfl)))) de_int (by decide) (gnm_stay 17) (fun _ _ => rfl)) (de_lst da_nil) rfl)))) (dss_one (ds_ret de_bl)) dss_nil)
    (dss_one (ds_if (dt_cmp op_neD' (de_lc (di_seqC (de_name 14 rfl (vis_of rfl) rfl rfl)) (blkOk_by (own := [("_law_some_here", 17)]) (by decide +kernel)) (dg_name (sto_of rfl rfl)) (dts_one (dt_cmp op_neD' (de_lc (di_seqC (de_name 13 rfl (vis_of rfl) rfl rfl)) (blkOk_by (own := [("_law_lot", 20)]) (by decide +kernel)) (dg_name (sto_of rfl rfl)) (dts_one (dt_not (dt_val (de_call (ok_is_met Y) (by decide) rfl Y.g_is_met Y.F_is_met.kp Y.b_is_met (da_cons (de_name 20 rfl (vis_of rfl) rfl rfl) (da_cons (de_name 17 rfl (vis_of rfl) rfl rfl) da_nil (fun _ => rfl)) (fun _ => rfl)) rfl (fun _ => rfl) (fun _ => rfl) rfl (mcons_len (mcons_len mnil_len))) (fun _ _ => rfl)))) de_int (by decide) (gnm_stay 20) (fun _ _ => rfl)) (de_lst da_nil) rfl)) de_int (by decide) (gnm_stay 17) (fun _ _ => rfl)) (de_lst da_nil) rfl) (dss_one (ds_ret de_bl)) dss_nil)))))))))))))))) (fun _ _ => rfl))
    (dss_one (ds_ret de_bl))))
theorem ok_law {G : GC} (Y : Fx G) : FnG G 6 Y.f_law Y.d_law ["_law_script"] (spM G.K 1 p_law) := fn_m Y.F_law sc_law (dss_law Y)
theorem all_mk {l : PySem.W.OpenLaw} {w : World} {K : PySem.W.Frag} {h : Heap} {mg : Str → Option Value} {fa : Addr} (X : K.In h) (G : h.Ns mainGlobals mg) (hfa : mg "law" = some (.ref fa))
    {f0 : Addr} {od0 an0 : Option Addr} {sl0 : Array (Option Value)} {oc0 kV0 dc0 pm0 cd0 ct0 : Value}
    (a0 : PySem.W.nsIn K mainGlobals "_law_alike" = some (some (.ref f0))) (l0 : K.lookup f0 = some ⟨oc0, od0, .func (PySem.W.fnOf "_law_alike" "_law_alike" (defArgs s__law_alike) (defBody s__law_alike) (defScope s__law_alike) .none kV0 dc0 pm0 an0 cd0 ct0), sl0⟩) (c0 : PySem.W.codeIn K cd0 "_law_alike" = true) (k0 : PySem.W.keepIn K (.ref f0) = true)
    {f1 : Addr} {od1 an1 : Option Addr} {sl1 : Array (Option Value)} {oc1 kV1 dc1 pm1 cd1 ct1 : Value}
    (a1 : PySem.W.nsIn K mainGlobals "_law_bag" = some (some (.ref f1))) (l1 : K.lookup f1 = some ⟨oc1, od1, .func (PySem.W.fnOf "_law_bag" "_law_bag" (defArgs s__law_bag) (defBody s__law_bag) (defScope s__law_bag) .none kV1 dc1 pm1 an1 cd1 ct1), sl1⟩) (c1 : PySem.W.codeIn K cd1 "_law_bag" = true) (k1 : PySem.W.keepIn K (.ref f1) = true)
    {f2 : Addr} {od2 an2 : Option Addr} {sl2 : Array (Option Value)} {oc2 kV2 dc2 pm2 cd2 ct2 : Value}
    (a2 : PySem.W.nsIn K mainGlobals "_law_kinds" = some (some (.ref f2))) (l2 : K.lookup f2 = some ⟨oc2, od2, .func (PySem.W.fnOf "_law_kinds" "_law_kinds" (defArgs s__law_kinds) (defBody s__law_kinds) (defScope s__law_kinds) .none kV2 dc2 pm2 an2 cd2 ct2), sl2⟩) (c2 : PySem.W.codeIn K cd2 "_law_kinds" = true) (k2 : PySem.W.keepIn K (.ref f2) = true)
    {f3 : Addr} {od3 an3 : Option Addr} {sl3 : Array (Option Value)} {oc3 kV3 dc3 pm3 cd3 ct3 : Value}
    (a3 : PySem.W.nsIn K mainGlobals "_law_declared_kinds" = some (some (.ref f3))) (l3 : K.lookup f3 = some ⟨oc3, od3, .func (PySem.W.fnOf "_law_declared_kinds" "_law_declared_kinds" (defArgs s__law_declared_kinds) (defBody s__law_declared_kinds) (defScope s__law_declared_kinds) .none kV3 dc3 pm3 an3 cd3 ct3), sl3⟩) (c3 : PySem.W.codeIn K cd3 "_law_declared_kinds" = true) (k3 : PySem.W.keepIn K (.ref f3) = true)
    {f4 : Addr} {od4 an4 : Option Addr} {sl4 : Array (Option Value)} {oc4 kV4 dc4 pm4 cd4 ct4 : Value}
    (a4 : PySem.W.nsIn K mainGlobals "_law_parts" = some (some (.ref f4))) (l4 : K.lookup f4 = some ⟨oc4, od4, .func (PySem.W.fnOf "_law_parts" "_law_parts" (defArgs s__law_parts) (defBody s__law_parts) (defScope s__law_parts) .none kV4 dc4 pm4 an4 cd4 ct4), sl4⟩) (c4 : PySem.W.codeIn K cd4 "_law_parts" = true) (k4 : PySem.W.keepIn K (.ref f4) = true)
    {f5 : Addr} {od5 an5 : Option Addr} {sl5 : Array (Option Value)} {oc5 kV5 dc5 pm5 cd5 ct5 : Value}
    (a5 : PySem.W.nsIn K mainGlobals "_law_once_table" = some (some (.ref f5))) (l5 : K.lookup f5 = some ⟨oc5, od5, .func (PySem.W.fnOf "_law_once_table" "_law_once_table" (defArgs s__law_once_table) (defBody s__law_once_table) (defScope s__law_once_table) .none kV5 dc5 pm5 an5 cd5 ct5), sl5⟩) (c5 : PySem.W.codeIn K cd5 "_law_once_table" = true) (k5 : PySem.W.keepIn K (.ref f5) = true)
    {f6 : Addr} {od6 an6 : Option Addr} {sl6 : Array (Option Value)} {oc6 kV6 dc6 pm6 cd6 ct6 : Value}
    (a6 : PySem.W.nsIn K mainGlobals "_law_is_once" = some (some (.ref f6))) (l6 : K.lookup f6 = some ⟨oc6, od6, .func (PySem.W.fnOf "_law_is_once" "_law_is_once" (defArgs s__law_is_once) (defBody s__law_is_once) (defScope s__law_is_once) .none kV6 dc6 pm6 an6 cd6 ct6), sl6⟩) (c6 : PySem.W.codeIn K cd6 "_law_is_once" = true) (k6 : PySem.W.keepIn K (.ref f6) = true)
    {f7 : Addr} {od7 an7 : Option Addr} {sl7 : Array (Option Value)} {oc7 kV7 dc7 pm7 cd7 ct7 : Value}
    (a7 : PySem.W.nsIn K mainGlobals "_law_take" = some (some (.ref f7))) (l7 : K.lookup f7 = some ⟨oc7, od7, .func (PySem.W.fnOf "_law_take" "_law_take" (defArgs s__law_take) (defBody s__law_take) (defScope s__law_take) .none kV7 dc7 pm7 an7 cd7 ct7), sl7⟩) (c7 : PySem.W.codeIn K cd7 "_law_take" = true) (k7 : PySem.W.keepIn K (.ref f7) = true)
    {f8 : Addr} {od8 an8 : Option Addr} {sl8 : Array (Option Value)} {oc8 kV8 dc8 pm8 cd8 ct8 : Value}
    (a8 : PySem.W.nsIn K mainGlobals "_law_some" = some (some (.ref f8))) (l8 : K.lookup f8 = some ⟨oc8, od8, .func (PySem.W.fnOf "_law_some" "_law_some" (defArgs s__law_some) (defBody s__law_some) (defScope s__law_some) .none kV8 dc8 pm8 an8 cd8 ct8), sl8⟩) (c8 : PySem.W.codeIn K cd8 "_law_some" = true) (k8 : PySem.W.keepIn K (.ref f8) = true)
    {f9 : Addr} {od9 an9 : Option Addr} {sl9 : Array (Option Value)} {oc9 kV9 dc9 pm9 cd9 ct9 : Value}
    (a9 : PySem.W.nsIn K mainGlobals "_law_stock" = some (some (.ref f9))) (l9 : K.lookup f9 = some ⟨oc9, od9, .func (PySem.W.fnOf "_law_stock" "_law_stock" (defArgs s__law_stock) (defBody s__law_stock) (defScope s__law_stock) .none kV9 dc9 pm9 an9 cd9 ct9), sl9⟩) (c9 : PySem.W.codeIn K cd9 "_law_stock" = true) (k9 : PySem.W.keepIn K (.ref f9) = true)
    {f10 : Addr} {od10 an10 : Option Addr} {sl10 : Array (Option Value)} {oc10 kV10 dc10 pm10 cd10 ct10 : Value}
    (a10 : PySem.W.nsIn K mainGlobals "_law_drawn_stock" = some (some (.ref f10))) (l10 : K.lookup f10 = some ⟨oc10, od10, .func (PySem.W.fnOf "_law_drawn_stock" "_law_drawn_stock" (defArgs s__law_drawn_stock) (defBody s__law_drawn_stock) (defScope s__law_drawn_stock) .none kV10 dc10 pm10 an10 cd10 ct10), sl10⟩) (c10 : PySem.W.codeIn K cd10 "_law_drawn_stock" = true) (k10 : PySem.W.keepIn K (.ref f10) = true)
    {f11 : Addr} {od11 an11 : Option Addr} {sl11 : Array (Option Value)} {oc11 kV11 dc11 pm11 cd11 ct11 : Value}
    (a11 : PySem.W.nsIn K mainGlobals "_law_declared" = some (some (.ref f11))) (l11 : K.lookup f11 = some ⟨oc11, od11, .func (PySem.W.fnOf "_law_declared" "_law_declared" (defArgs s__law_declared) (defBody s__law_declared) (defScope s__law_declared) .none kV11 dc11 pm11 an11 cd11 ct11), sl11⟩) (c11 : PySem.W.codeIn K cd11 "_law_declared" = true) (k11 : PySem.W.keepIn K (.ref f11) = true)
    {f12 : Addr} {od12 an12 : Option Addr} {sl12 : Array (Option Value)} {oc12 kV12 dc12 pm12 cd12 ct12 : Value}
    (a12 : PySem.W.nsIn K mainGlobals "_law_is_within" = some (some (.ref f12))) (l12 : K.lookup f12 = some ⟨oc12, od12, .func (PySem.W.fnOf "_law_is_within" "_law_is_within" (defArgs s__law_is_within) (defBody s__law_is_within) (defScope s__law_is_within) .none kV12 dc12 pm12 an12 cd12 ct12), sl12⟩) (c12 : PySem.W.codeIn K cd12 "_law_is_within" = true) (k12 : PySem.W.keepIn K (.ref f12) = true)
    {f13 : Addr} {od13 an13 : Option Addr} {sl13 : Array (Option Value)} {oc13 kV13 dc13 pm13 cd13 ct13 : Value}
    (a13 : PySem.W.nsIn K mainGlobals "_law_mixed" = some (some (.ref f13))) (l13 : K.lookup f13 = some ⟨oc13, od13, .func (PySem.W.fnOf "_law_mixed" "_law_mixed" (defArgs s__law_mixed) (defBody s__law_mixed) (defScope s__law_mixed) .none kV13 dc13 pm13 an13 cd13 ct13), sl13⟩) (c13 : PySem.W.codeIn K cd13 "_law_mixed" = true) (k13 : PySem.W.keepIn K (.ref f13) = true)
    {f14 : Addr} {od14 an14 : Option Addr} {sl14 : Array (Option Value)} {oc14 kV14 dc14 pm14 cd14 ct14 : Value}
    (a14 : PySem.W.nsIn K mainGlobals "_law_new_name" = some (some (.ref f14))) (l14 : K.lookup f14 = some ⟨oc14, od14, .func (PySem.W.fnOf "_law_new_name" "_law_new_name" (defArgs s__law_new_name) (defBody s__law_new_name) (defScope s__law_new_name) .none kV14 dc14 pm14 an14 cd14 ct14), sl14⟩) (c14 : PySem.W.codeIn K cd14 "_law_new_name" = true) (k14 : PySem.W.keepIn K (.ref f14) = true)
    {f15 : Addr} {od15 an15 : Option Addr} {sl15 : Array (Option Value)} {oc15 kV15 dc15 pm15 cd15 ct15 : Value}
    (a15 : PySem.W.nsIn K mainGlobals "_law_shaped" = some (some (.ref f15))) (l15 : K.lookup f15 = some ⟨oc15, od15, .func (PySem.W.fnOf "_law_shaped" "_law_shaped" (defArgs s__law_shaped) (defBody s__law_shaped) (defScope s__law_shaped) .none kV15 dc15 pm15 an15 cd15 ct15), sl15⟩) (c15 : PySem.W.codeIn K cd15 "_law_shaped" = true) (k15 : PySem.W.keepIn K (.ref f15) = true)
    {f16 : Addr} {od16 an16 : Option Addr} {sl16 : Array (Option Value)} {oc16 kV16 dc16 pm16 cd16 ct16 : Value}
    (a16 : PySem.W.nsIn K mainGlobals "_law_library" = some (some (.ref f16))) (l16 : K.lookup f16 = some ⟨oc16, od16, .func (PySem.W.fnOf "_law_library" "_law_library" (defArgs s__law_library) (defBody s__law_library) (defScope s__law_library) .none kV16 dc16 pm16 an16 cd16 ct16), sl16⟩) (c16 : PySem.W.codeIn K cd16 "_law_library" = true) (k16 : PySem.W.keepIn K (.ref f16) = true)
    {f17 : Addr} {od17 an17 : Option Addr} {sl17 : Array (Option Value)} {oc17 kV17 dc17 pm17 cd17 ct17 : Value}
    (a17 : PySem.W.nsIn K mainGlobals "stock_by" = some (some (.ref f17))) (l17 : K.lookup f17 = some ⟨oc17, od17, .func (PySem.W.fnOf "stock_by" "stock_by" (defArgs s_stock_by) (defBody s_stock_by) (defScope s_stock_by) .none kV17 dc17 pm17 an17 cd17 ct17), sl17⟩) (c17 : PySem.W.codeIn K cd17 "stock_by" = true) (k17 : PySem.W.keepIn K (.ref f17) = true)
    {f18 : Addr} {od18 an18 : Option Addr} {sl18 : Array (Option Value)} {oc18 kV18 dc18 pm18 cd18 ct18 : Value}
    (a18 : PySem.W.nsIn K mainGlobals "added_by" = some (some (.ref f18))) (l18 : K.lookup f18 = some ⟨oc18, od18, .func (PySem.W.fnOf "added_by" "added_by" (defArgs s_added_by) (defBody s_added_by) (defScope s_added_by) .none kV18 dc18 pm18 an18 cd18 ct18), sl18⟩) (c18 : PySem.W.codeIn K cd18 "added_by" = true) (k18 : PySem.W.keepIn K (.ref f18) = true)
    {f19 : Addr} {od19 an19 : Option Addr} {sl19 : Array (Option Value)} {oc19 kV19 dc19 pm19 cd19 ct19 : Value}
    (a19 : PySem.W.nsIn K mainGlobals "once_table" = some (some (.ref f19))) (l19 : K.lookup f19 = some ⟨oc19, od19, .func (PySem.W.fnOf "once_table" "once_table" (defArgs s_once_table) (defBody s_once_table) (defScope s_once_table) .none kV19 dc19 pm19 an19 cd19 ct19), sl19⟩) (c19 : PySem.W.codeIn K cd19 "once_table" = true) (k19 : PySem.W.keepIn K (.ref f19) = true)
    {f20 : Addr} {od20 an20 : Option Addr} {sl20 : Array (Option Value)} {oc20 kV20 dc20 pm20 cd20 ct20 : Value}
    (a20 : PySem.W.nsIn K mainGlobals "once_kinds" = some (some (.ref f20))) (l20 : K.lookup f20 = some ⟨oc20, od20, .func (PySem.W.fnOf "once_kinds" "once_kinds" (defArgs s_once_kinds) (defBody s_once_kinds) (defScope s_once_kinds) .none kV20 dc20 pm20 an20 cd20 ct20), sl20⟩) (c20 : PySem.W.codeIn K cd20 "once_kinds" = true) (k20 : PySem.W.keepIn K (.ref f20) = true)
    {f21 : Addr} {od21 an21 : Option Addr} {sl21 : Array (Option Value)} {oc21 kV21 dc21 pm21 cd21 ct21 : Value}
    (a21 : PySem.W.nsIn K mainGlobals "added" = some (some (.ref f21))) (l21 : K.lookup f21 = some ⟨oc21, od21, .func (PySem.W.fnOf "added" "added" (defArgs s_added) (defBody s_added) (defScope s_added) .none kV21 dc21 pm21 an21 cd21 ct21), sl21⟩) (c21 : PySem.W.codeIn K cd21 "added" = true) (k21 : PySem.W.keepIn K (.ref f21) = true)
    {f22 : Addr} {od22 an22 : Option Addr} {sl22 : Array (Option Value)} {oc22 kV22 dc22 pm22 cd22 ct22 : Value}
    (a22 : PySem.W.nsIn K mainGlobals "is_above" = some (some (.ref f22))) (l22 : K.lookup f22 = some ⟨oc22, od22, .func (PySem.W.fnOf "is_above" "is_above" (defArgs s_is_above) (defBody s_is_above) (defScope s_is_above) .none kV22 dc22 pm22 an22 cd22 ct22), sl22⟩) (c22 : PySem.W.codeIn K cd22 "is_above" = true) (k22 : PySem.W.keepIn K (.ref f22) = true)
    {f23 : Addr} {od23 an23 : Option Addr} {sl23 : Array (Option Value)} {oc23 kV23 dc23 pm23 cd23 ct23 : Value}
    (a23 : PySem.W.nsIn K mainGlobals "is_met" = some (some (.ref f23))) (l23 : K.lookup f23 = some ⟨oc23, od23, .func (PySem.W.fnOf "is_met" "is_met" (defArgs s_is_met) (defBody s_is_met) (defScope s_is_met) .none kV23 dc23 pm23 an23 cd23 ct23), sl23⟩) (c23 : PySem.W.codeIn K cd23 "is_met" = true) (k23 : PySem.W.keepIn K (.ref f23) = true)
    {f24 : Addr} {od24 an24 : Option Addr} {sl24 : Array (Option Value)} {oc24 kV24 dc24 pm24 cd24 ct24 : Value}
    (a24 : PySem.W.nsIn K mainGlobals "joined" = some (some (.ref f24))) (l24 : K.lookup f24 = some ⟨oc24, od24, .func (PySem.W.fnOf "joined" "joined" (defArgs s_joined) (defBody s_joined) (defScope s_joined) .none kV24 dc24 pm24 an24 cd24 ct24), sl24⟩) (c24 : PySem.W.codeIn K cd24 "joined" = true) (k24 : PySem.W.keepIn K (.ref f24) = true)
    {f25 : Addr} {od25 an25 : Option Addr} {sl25 : Array (Option Value)} {oc25 kV25 dc25 pm25 cd25 ct25 : Value}
    (a25 : PySem.W.nsIn K mainGlobals "least_of" = some (some (.ref f25))) (l25 : K.lookup f25 = some ⟨oc25, od25, .func (PySem.W.fnOf "least_of" "least_of" (defArgs s_least_of) (defBody s_least_of) (defScope s_least_of) .none kV25 dc25 pm25 an25 cd25 ct25), sl25⟩) (c25 : PySem.W.codeIn K cd25 "least_of" = true) (k25 : PySem.W.keepIn K (.ref f25) = true)
    {f26 : Addr} {od26 an26 : Option Addr} {sl26 : Array (Option Value)} {oc26 kV26 dc26 pm26 cd26 ct26 : Value}
    (a26 : PySem.W.nsIn K mainGlobals "joins_of" = some (some (.ref f26))) (l26 : K.lookup f26 = some ⟨oc26, od26, .func (PySem.W.fnOf "joins_of" "joins_of" (defArgs s_joins_of) (defBody s_joins_of) (defScope s_joins_of) .none kV26 dc26 pm26 an26 cd26 ct26), sl26⟩) (c26 : PySem.W.codeIn K cd26 "joins_of" = true) (k26 : PySem.W.keepIn K (.ref f26) = true)
    {f27 : Addr} {od27 an27 : Option Addr} {sl27 : Array (Option Value)} {oc27 kV27 dc27 pm27 cd27 ct27 : Value}
    (a27 : PySem.W.nsIn K mainGlobals "sums_of" = some (some (.ref f27))) (l27 : K.lookup f27 = some ⟨oc27, od27, .func (PySem.W.fnOf "sums_of" "sums_of" (defArgs s_sums_of) (defBody s_sums_of) (defScope s_sums_of) .none kV27 dc27 pm27 an27 cd27 ct27), sl27⟩) (c27 : PySem.W.codeIn K cd27 "sums_of" = true) (k27 : PySem.W.keepIn K (.ref f27) = true)
    {f28 : Addr} {od28 an28 : Option Addr} {sl28 : Array (Option Value)} {oc28 kV28 dc28 pm28 cd28 ct28 : Value}
    (a28 : PySem.W.nsIn K mainGlobals "taken" = some (some (.ref f28))) (l28 : K.lookup f28 = some ⟨oc28, od28, .func (PySem.W.fnOf "taken" "taken" (defArgs s_taken) (defBody s_taken) (defScope s_taken) .none kV28 dc28 pm28 an28 cd28 ct28), sl28⟩) (c28 : PySem.W.codeIn K cd28 "taken" = true) (k28 : PySem.W.keepIn K (.ref f28) = true)
    {f29 : Addr} {od29 an29 : Option Addr} {sl29 : Array (Option Value)} {oc29 kV29 dc29 pm29 cd29 ct29 : Value}
    (a29 : PySem.W.nsIn K mainGlobals "without_by" = some (some (.ref f29))) (l29 : K.lookup f29 = some ⟨oc29, od29, .func (PySem.W.fnOf "without_by" "without_by" (defArgs s_without_by) (defBody s_without_by) (defScope s_without_by) .none kV29 dc29 pm29 an29 cd29 ct29), sl29⟩) (c29 : PySem.W.codeIn K cd29 "without_by" = true) (k29 : PySem.W.keepIn K (.ref f29) = true)
    {f30 : Addr} {od30 an30 : Option Addr} {sl30 : Array (Option Value)} {oc30 kV30 dc30 pm30 cd30 ct30 : Value}
    (a30 : PySem.W.nsIn K mainGlobals "without" = some (some (.ref f30))) (l30 : K.lookup f30 = some ⟨oc30, od30, .func (PySem.W.fnOf "without" "without" (defArgs s_without) (defBody s_without) (defScope s_without) .none kV30 dc30 pm30 an30 cd30 ct30), sl30⟩) (c30 : PySem.W.codeIn K cd30 "without" = true) (k30 : PySem.W.keepIn K (.ref f30) = true)
    {f31 : Addr} {od31 an31 : Option Addr} {sl31 : Array (Option Value)} {oc31 kV31 dc31 pm31 cd31 ct31 : Value}
    (a31 : PySem.W.nsIn K mainGlobals "law" = some (some (.ref f31))) (l31 : K.lookup f31 = some ⟨oc31, od31, .func (PySem.W.fnOf "law" "law" (defArgs s_law) (defBody s_law) (defScope s_law) .none kV31 dc31 pm31 an31 cd31 ct31), sl31⟩) (c31 : PySem.W.codeIn K cd31 "law" = true) (k31 : PySem.W.keepIn K (.ref f31) = true)
    (z_abs : PySem.W.nsIn K mainGlobals "abs" = some none)
    (z_all : PySem.W.nsIn K mainGlobals "all" = some none)
    (z_any : PySem.W.nsIn K mainGlobals "any" = some none)
    (z_dict : PySem.W.nsIn K mainGlobals "dict" = some none)
    (z_int : PySem.W.nsIn K mainGlobals "int" = some none)
    (z_len : PySem.W.nsIn K mainGlobals "len" = some none)
    (z_list : PySem.W.nsIn K mainGlobals "list" = some none)
    (z_max : PySem.W.nsIn K mainGlobals "max" = some none)
    (z_min : PySem.W.nsIn K mainGlobals "min" = some none)
    (z_range : PySem.W.nsIn K mainGlobals "range" = some none)
    (z_repr : PySem.W.nsIn K mainGlobals "repr" = some none)
    (z_sorted : PySem.W.nsIn K mainGlobals "sorted" = some none)
    (z_str : PySem.W.nsIn K mainGlobals "str" = some none)
    (z_tuple : PySem.W.nsIn K mainGlobals "tuple" = some none)
    : ∃ fd : FuncData, (∀ (s : Shared) (u : Value), BindsTo s fd ⟨[u], []⟩ [("_law_script", u)]) ∧ ∀ base : Heap, K.In base → base.Ns mainGlobals mg → FnG ⟨l.prog, w, K, mg, base⟩ 6 fa fd ["_law_script"] (spM K 1 p_law) := by
  have e := hfa.symm.trans (PySem.W.mg_of X G a31)
  cases e
  refine ⟨_, fun s v => .of_eq (fd := PySem.W.fnOf "law" "law" (defArgs s_law) (defBody s_law) (defScope s_law) .none kV31 dc31 pm31 an31 cd31 ct31) rfl, fun base _ _ => ?_⟩
  have F0 := fun_mk (st := s__law_alike) l0 c0 k0
  have b0 := F0.binds (ps := ["_law_found", "_law_due"]) fun _ _ _ _ _ _ us hl => match us, hl with | [_, _], _ => rfl
  have F1 := fun_mk (st := s__law_bag) l1 c1 k1
  have b1 := F1.binds (ps := ["_law_script"]) fun _ _ _ _ _ _ us hl => match us, hl with | [_], _ => rfl
  have F2 := fun_mk (st := s__law_kinds) l2 c2 k2
  have b2 := F2.binds (ps := ["_law_decls"]) fun _ _ _ _ _ _ us hl => match us, hl with | [_], _ => rfl
  have F3 := fun_mk (st := s__law_declared_kinds) l3 c3 k3
  have b3 := F3.binds (ps := ["_law_decls"]) fun _ _ _ _ _ _ us hl => match us, hl with | [_], _ => rfl
  have F4 := fun_mk (st := s__law_parts) l4 c4 k4
  have b4 := F4.binds (ps := ["_law_decl"]) fun _ _ _ _ _ _ us hl => match us, hl with | [_], _ => rfl
  have F5 := fun_mk (st := s__law_once_table) l5 c5 k5
  have b5 := F5.binds (ps := ["_law_decls"]) fun _ _ _ _ _ _ us hl => match us, hl with | [_], _ => rfl
  have F6 := fun_mk (st := s__law_is_once) l6 c6 k6
  have b6 := F6.binds (ps := ["_law_decls", "_law_kind"]) fun _ _ _ _ _ _ us hl => match us, hl with | [_, _], _ => rfl
  have F7 := fun_mk (st := s__law_take) l7 c7 k7
  have b7 := F7.binds (ps := ["_law_bag_here", "_law_many"]) fun _ _ _ _ _ _ us hl => match us, hl with | [_, _], _ => rfl
  have F8 := fun_mk (st := s__law_some) l8 c8 k8
  have b8 := F8.binds (ps := ["_law_bag_here", "_law_things"]) fun _ _ _ _ _ _ us hl => match us, hl with | [_, _], _ => rfl
  have F9 := fun_mk (st := s__law_stock) l9 c9 k9
  have b9 := F9.binds (ps := ["_law_counts"]) fun _ _ _ _ _ _ us hl => match us, hl with | [_], _ => rfl
  have F10 := fun_mk (st := s__law_drawn_stock) l10 c10 k10
  have b10 := F10.binds (ps := ["_law_bag_here", "_law_decls"]) fun _ _ _ _ _ _ us hl => match us, hl with | [_, _], _ => rfl
  have F11 := fun_mk (st := s__law_declared) l11 c11 k11
  have b11 := F11.binds (ps := ["_law_decls"]) fun _ _ _ _ _ _ us hl => match us, hl with | [_], _ => rfl
  have F12 := fun_mk (st := s__law_is_within) l12 c12 k12
  have b12 := F12.binds (ps := ["_law_decls"]) fun _ _ _ _ _ _ us hl => match us, hl with | [_], _ => rfl
  have F13 := fun_mk (st := s__law_mixed) l13 c13 k13
  have b13 := F13.binds (ps := ["_law_bag_here", "_law_things"]) fun _ _ _ _ _ _ us hl => match us, hl with | [_, _], _ => rfl
  have F14 := fun_mk (st := s__law_new_name) l14 c14 k14
  have b14 := F14.binds (ps := ["_law_bag_here", "_law_had"]) fun _ _ _ _ _ _ us hl => match us, hl with | [_, _], _ => rfl
  have F15 := fun_mk (st := s__law_shaped) l15 c15 k15
  have b15 := F15.binds (ps := ["_law_bag_here", "_law_decls", "_law_word"]) fun _ _ _ _ _ _ us hl => match us, hl with | [_, _, _], _ => rfl
  have F16 := fun_mk (st := s__law_library) l16 c16 k16
  have b16 := F16.binds (ps := ["_law_bag_here", "_law_most"]) fun _ _ _ _ _ _ us hl => match us, hl with | [_, _], _ => rfl
  have F17 := fun_mk (st := s_stock_by) l17 c17 k17
  have b17 := F17.binds (ps := ["counts"]) fun _ _ _ _ _ _ us hl => match us, hl with | [_], _ => rfl
  have F18 := fun_mk (st := s_added_by) l18 c18 k18
  have b18 := F18.binds (ps := ["once", "stocks"]) fun _ _ _ _ _ _ us hl => match us, hl with | [_, _], _ => rfl
  have F19 := fun_mk (st := s_once_table) l19 c19 k19
  have b19 := F19.binds (ps := ["declarations"]) fun _ _ _ _ _ _ us hl => match us, hl with | [_], _ => rfl
  have F20 := fun_mk (st := s_once_kinds) l20 c20 k20
  have b20 := F20.binds (ps := ["declarations"]) fun _ _ _ _ _ _ us hl => match us, hl with | [_], _ => rfl
  have F21 := fun_mk (st := s_added) l21 c21 k21
  have b21 := F21.binds (ps := ["declarations", "stocks"]) fun _ _ _ _ _ _ us hl => match us, hl with | [_, _], _ => rfl
  have F22 := fun_mk (st := s_is_above) l22 c22 k22
  have b22 := F22.binds (ps := ["one", "other"]) fun _ _ _ _ _ _ us hl => match us, hl with | [_, _], _ => rfl
  have F23 := fun_mk (st := s_is_met) l23 c23 k23
  have b23 := F23.binds (ps := ["lot", "stock"]) fun _ _ _ _ _ _ us hl => match us, hl with | [_, _], _ => rfl
  have F24 := fun_mk (st := s_joined) l24 c24 k24
  have b24 := F24.binds (ps := ["stocks"]) fun _ _ _ _ _ _ us hl => match us, hl with | [_], _ => rfl
  have F25 := fun_mk (st := s_least_of) l25 c25 k25
  have b25 := F25.binds (ps := ["stocks"]) fun _ _ _ _ _ _ us hl => match us, hl with | [_], _ => rfl
  have F26 := fun_mk (st := s_joins_of) l26 c26 k26
  have b26 := F26.binds (ps := ["lots"]) fun _ _ _ _ _ _ us hl => match us, hl with | [_], _ => rfl
  have F27 := fun_mk (st := s_sums_of) l27 c27 k27
  have b27 := F27.binds (ps := ["declarations", "lots"]) fun _ _ _ _ _ _ us hl => match us, hl with | [_, _], _ => rfl
  have F28 := fun_mk (st := s_taken) l28 c28 k28
  have b28 := F28.binds (ps := ["declarations", "one", "other"]) fun _ _ _ _ _ _ us hl => match us, hl with | [_, _, _], _ => rfl
  have F29 := fun_mk (st := s_without_by) l29 c29 k29
  have b29 := F29.binds (ps := ["once", "one", "other"]) fun _ _ _ _ _ _ us hl => match us, hl with | [_, _, _], _ => rfl
  have F30 := fun_mk (st := s_without) l30 c30 k30
  have b30 := F30.binds (ps := ["declarations", "one", "other"]) fun _ _ _ _ _ _ us hl => match us, hl with | [_, _, _], _ => rfl
  have F31 := fun_mk (st := s_law) l31 c31 k31
  have b31 := F31.binds (ps := ["_law_script"]) fun _ _ _ _ _ _ us hl => match us, hl with | [_], _ => rfl
  exact ok_law (G := ⟨l.prog, w, K, mg, base⟩) {
    f__law_alike := _, d__law_alike := _, F__law_alike := F0, g__law_alike := PySem.W.mg_of X G a0, b__law_alike := b0,
    f__law_bag := _, d__law_bag := _, F__law_bag := F1, g__law_bag := PySem.W.mg_of X G a1, b__law_bag := b1,
    f__law_kinds := _, d__law_kinds := _, F__law_kinds := F2, g__law_kinds := PySem.W.mg_of X G a2, b__law_kinds := b2,
    f__law_declared_kinds := _, d__law_declared_kinds := _, F__law_declared_kinds := F3, g__law_declared_kinds := PySem.W.mg_of X G a3, b__law_declared_kinds := b3,
    f__law_parts := _, d__law_parts := _, F__law_parts := F4, g__law_parts := PySem.W.mg_of X G a4, b__law_parts := b4,
    f__law_once_table := _, d__law_once_table := _, F__law_once_table := F5, g__law_once_table := PySem.W.mg_of X G a5, b__law_once_table := b5,
    f__law_is_once := _, d__law_is_once := _, F__law_is_once := F6, g__law_is_once := PySem.W.mg_of X G a6, b__law_is_once := b6,
    f__law_take := _, d__law_take := _, F__law_take := F7, g__law_take := PySem.W.mg_of X G a7, b__law_take := b7,
    f__law_some := _, d__law_some := _, F__law_some := F8, g__law_some := PySem.W.mg_of X G a8, b__law_some := b8,
    f__law_stock := _, d__law_stock := _, F__law_stock := F9, g__law_stock := PySem.W.mg_of X G a9, b__law_stock := b9,
    f__law_drawn_stock := _, d__law_drawn_stock := _, F__law_drawn_stock := F10, g__law_drawn_stock := PySem.W.mg_of X G a10, b__law_drawn_stock := b10,
    f__law_declared := _, d__law_declared := _, F__law_declared := F11, g__law_declared := PySem.W.mg_of X G a11, b__law_declared := b11,
    f__law_is_within := _, d__law_is_within := _, F__law_is_within := F12, g__law_is_within := PySem.W.mg_of X G a12, b__law_is_within := b12,
    f__law_mixed := _, d__law_mixed := _, F__law_mixed := F13, g__law_mixed := PySem.W.mg_of X G a13, b__law_mixed := b13,
    f__law_new_name := _, d__law_new_name := _, F__law_new_name := F14, g__law_new_name := PySem.W.mg_of X G a14, b__law_new_name := b14,
    f__law_shaped := _, d__law_shaped := _, F__law_shaped := F15, g__law_shaped := PySem.W.mg_of X G a15, b__law_shaped := b15,
    f__law_library := _, d__law_library := _, F__law_library := F16, g__law_library := PySem.W.mg_of X G a16, b__law_library := b16,
    f_stock_by := _, d_stock_by := _, F_stock_by := F17, g_stock_by := PySem.W.mg_of X G a17, b_stock_by := b17,
    f_added_by := _, d_added_by := _, F_added_by := F18, g_added_by := PySem.W.mg_of X G a18, b_added_by := b18,
    f_once_table := _, d_once_table := _, F_once_table := F19, g_once_table := PySem.W.mg_of X G a19, b_once_table := b19,
    f_once_kinds := _, d_once_kinds := _, F_once_kinds := F20, g_once_kinds := PySem.W.mg_of X G a20, b_once_kinds := b20,
    f_added := _, d_added := _, F_added := F21, g_added := PySem.W.mg_of X G a21, b_added := b21,
    f_is_above := _, d_is_above := _, F_is_above := F22, g_is_above := PySem.W.mg_of X G a22, b_is_above := b22,
    f_is_met := _, d_is_met := _, F_is_met := F23, g_is_met := PySem.W.mg_of X G a23, b_is_met := b23,
    f_joined := _, d_joined := _, F_joined := F24, g_joined := PySem.W.mg_of X G a24, b_joined := b24,
    f_least_of := _, d_least_of := _, F_least_of := F25, g_least_of := PySem.W.mg_of X G a25, b_least_of := b25,
    f_joins_of := _, d_joins_of := _, F_joins_of := F26, g_joins_of := PySem.W.mg_of X G a26, b_joins_of := b26,
    f_sums_of := _, d_sums_of := _, F_sums_of := F27, g_sums_of := PySem.W.mg_of X G a27, b_sums_of := b27,
    f_taken := _, d_taken := _, F_taken := F28, g_taken := PySem.W.mg_of X G a28, b_taken := b28,
    f_without_by := _, d_without_by := _, F_without_by := F29, g_without_by := PySem.W.mg_of X G a29, b_without_by := b29,
    f_without := _, d_without := _, F_without := F30, g_without := PySem.W.mg_of X G a30, b_without := b30,
    f_law := _, d_law := _, F_law := F31, g_law := PySem.W.mg_of X G a31, b_law := b31,
    z_abs := PySem.W.mg_none_of X G z_abs,
    z_all := PySem.W.mg_none_of X G z_all,
    z_any := PySem.W.mg_none_of X G z_any,
    z_dict := PySem.W.mg_none_of X G z_dict,
    z_int := PySem.W.mg_none_of X G z_int,
    z_len := PySem.W.mg_none_of X G z_len,
    z_list := PySem.W.mg_none_of X G z_list,
    z_max := PySem.W.mg_none_of X G z_max,
    z_min := PySem.W.mg_none_of X G z_min,
    z_range := PySem.W.mg_none_of X G z_range,
    z_repr := PySem.W.mg_none_of X G z_repr,
    z_sorted := PySem.W.mg_none_of X G z_sorted,
    z_str := PySem.W.mg_none_of X G z_str,
    z_tuple := PySem.W.mg_none_of X G z_tuple }
end K21

open PySem PySem.W PyProof.Rows
set_option maxHeartbeats 0 in
theorem PySem.Challenge.cw_endsahead_k21_whole_an_order_and_what_ke_holds : PySem.Challenge.rw_endsahead_k21_whole_an_order_and_what_ke.Holds := by
  w_on; o_law; k_head; (case hw => w_witness2)
  k_fill
  refine L3.walk_G (l := PySem.Challenge.rw_endsahead_k21_whole_an_order_and_what_ke) (n := 63) (k := 6) (x := "_law_script") (m := K21.p_law) rfl (by decide) rfl ⟨rfl, by decide, by decide⟩ (fun w h Y => PySem.W.kIn_of Y) ?F K21.law_true
  case F =>
    intro w mg fa h KX G hmg
    refine' K21.all_mk KX G hmg ?a0 ?l0 ?c0 ?k0 ?a1 ?l1 ?c1 ?k1 ?a2 ?l2 ?c2 ?k2 ?a3 ?l3 ?c3 ?k3 ?a4 ?l4 ?c4 ?k4 ?a5 ?l5 ?c5 ?k5 ?a6 ?l6 ?c6 ?k6 ?a7 ?l7 ?c7 ?k7 ?a8 ?l8 ?c8 ?k8 ?a9 ?l9 ?c9 ?k9 ?a10 ?l10 ?c10 ?k10 ?a11 ?l11 ?c11 ?k11 ?a12 ?l12 ?c12 ?k12 ?a13 ?l13 ?c13 ?k13 ?a14 ?l14 ?c14 ?k14 ?a15 ?l15 ?c15 ?k15 ?a16 ?l16 ?c16 ?k16 ?a17 ?l17 ?c17 ?k17 ?a18 ?l18 ?c18 ?k18 ?a19 ?l19 ?c19 ?k19 ?a20 ?l20 ?c20 ?k20 ?a21 ?l21 ?c21 ?k21 ?a22 ?l22 ?c22 ?k22 ?a23 ?l23 ?c23 ?k23 ?a24 ?l24 ?c24 ?k24 ?a25 ?l25 ?c25 ?k25 ?a26 ?l26 ?c26 ?k26 ?a27 ?l27 ?c27 ?k27 ?a28 ?l28 ?c28 ?k28 ?a29 ?l29 ?c29 ?k29 ?a30 ?l30 ?c30 ?k30 ?a31 ?l31 ?c31 ?k31 ?z_abs ?z_all ?z_any ?z_dict ?z_int ?z_len ?z_list ?z_max ?z_min ?z_range ?z_repr ?z_sorted ?z_str ?z_tuple
    (case a0 => k_is); (case l0 => k_is); (case c0 => k_is); (case k0 => k_is); (case a1 => k_is); (case l1 => k_is); (case c1 => k_is); (case k1 => k_is); (case a2 => k_is); (case l2 => k_is); (case c2 => k_is); (case k2 => k_is); (case a3 => k_is); (case l3 => k_is); (case c3 => k_is); (case k3 => k_is); (case a4 => k_is); (case l4 => k_is); (case c4 => k_is); (case k4 => k_is); (case a5 => k_is); (case l5 => k_is); (case c5 => k_is); (case k5 => k_is); (case a6 => k_is); (case l6 => k_is); (case c6 => k_is); (case k6 => k_is); (case a7 => k_is); (case l7 => k_is); (case c7 => k_is); (case k7 => k_is); (case a8 => k_is); (case l8 => k_is); (case c8 => k_is); (case k8 => k_is); (case a9 => k_is); (case l9 => k_is); (case c9 => k_is); (case k9 => k_is); (case a10 => k_is); (case l10 => k_is); (case c10 => k_is); (case k10 => k_is); (case a11 => k_is); (case l11 => k_is); (case c11 => k_is); (case k11 => k_is); (case a12 => k_is); (case l12 => k_is); (case c12 => k_is); (case k12 => k_is); (case a13 => k_is); (case l13 => k_is); (case c13 => k_is); (case k13 => k_is); (case a14 => k_is); (case l14 => k_is); (case c14 => k_is); (case k14 => k_is); (case a15 => k_is); (case l15 => k_is); (case c15 => k_is); (case k15 => k_is); (case a16 => k_is); (case l16 => k_is); (case c16 => k_is); (case k16 => k_is); (case a17 => k_is); (case l17 => k_is); (case c17 => k_is); (case k17 => k_is); (case a18 => k_is); (case l18 => k_is); (case c18 => k_is); (case k18 => k_is); (case a19 => k_is); (case l19 => k_is); (case c19 => k_is); (case k19 => k_is); (case a20 => k_is); (case l20 => k_is); (case c20 => k_is); (case k20 => k_is); (case a21 => k_is); (case l21 => k_is); (case c21 => k_is); (case k21 => k_is); (case a22 => k_is); (case l22 => k_is); (case c22 => k_is); (case k22 => k_is); (case a23 => k_is); (case l23 => k_is); (case c23 => k_is); (case k23 => k_is); (case a24 => k_is); (case l24 => k_is); (case c24 => k_is); (case k24 => k_is); (case a25 => k_is); (case l25 => k_is); (case c25 => k_is); (case k25 => k_is); (case a26 => k_is); (case l26 => k_is); (case c26 => k_is); (case k26 => k_is); (case a27 => k_is); (case l27 => k_is); (case c27 => k_is); (case k27 => k_is); (case a28 => k_is); (case l28 => k_is); (case c28 => k_is); (case k28 => k_is); (case a29 => k_is); (case l29 => k_is); (case c29 => k_is); (case k29 => k_is); (case a30 => k_is); (case l30 => k_is); (case c30 => k_is); (case k30 => k_is); (case a31 => k_is); (case l31 => k_is); (case c31 => k_is); (case k31 => k_is); (case z_abs => k_is); (case z_all => k_is); (case z_any => k_is); (case z_dict => k_is); (case z_int => k_is); (case z_len => k_is); (case z_list => k_is); (case z_max => k_is); (case z_min => k_is); (case z_range => k_is); (case z_repr => k_is); (case z_sorted => k_is); (case z_str => k_is); (case z_tuple => k_is)
