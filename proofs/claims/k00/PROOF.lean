import PyProof.Rows.All
import Wide.All
import OpenK.AllK
import Wide.FinOn
import HandS.ForMost
import HandS.Deep
import HandS.TupAny
import HandS.TupMul
import HandS.IsInst
import HandS.SetFor
import HandS.Style
import KE.SortData
import HandS.NoneIn
import KE.KDictPairs
import KE.KDictList
import HandS.DictComp
import KE.KeyNested
import KE.KDictKeyed
import KE.SortKeyHeap
import KE.KDictSum
import KE.KDictCopyH
import HandS.SortOrd
import PyProof.StrOps2
import HandS.Flow
import PyProof.RowDictHeap
import HandS.TupSets
import KE.KExcIs
import HandS.Iter
import KE.GoesEnum
import KE.GoesZip
import KE.GoesMore
import KE.KDictZip
import HandS.MapObj
import HandS.Star
import HandS.DictTup
import HandS.ListItems
import HandS.Keys
import PyProof.ListStr
import PyProof.EqKinds
import KE.KEqDict
import PyProof.ReprRoads
import KE.KExcSuper
import KE.KSuper
import HandS.ExcOwn
import HandS.ExcInit
import HandS.ExcSuper
import HandS.ExcField
import KE.KExcLine
import KE.RegKSuper
import KE.KEqNest
import KE.KIntText
import PyProof.StrLawsRepr
import PyProof.FitsInt
import PyProof.StrLawsIn
import PySem.Challenge.RW_endsahead_k00_errors_and_words_of_any_va
set_option Elab.async false
set_option linter.all false
set_option maxRecDepth 100000
set_option maxHeartbeats 8000000
set_option autoImplicit false
namespace L3
open PySem PySem.Spec PyProof.Rows L2
abbrev D := PyData
def kD : Key → D
  | .inl i => .int i
  | .inr x => .str x
inductive Bx where
  | lst (xs : List D)
  | dic (kvs : List (Key × D))
def dkv (kvs : List (Key × D)) : List (D × D) := kvs.map fun p => (kD p.1, p.2)
def Bx.dat : Bx → D
  | .lst xs => .list xs
  | .dic kvs => .dict (dkv kvs)
inductive A where
  | dat (d : D)
  | box (own : Bool) (b : Bx)
def A.vw : A → D
  | .dat d => d
  | .box _ b => b.dat
abbrev En := List (Option A)
def isBx' : A → Bool
  | .box _ _ => true
  | .dat _ => false
inductive R where
  | dat (d : D)
  | new (b : Bx)
  | ref (i : Nat)
def R.fz : R → R
  | .new b => .dat b.dat
  | r => r
def R.vw (ρ : En) : R → Option D
  | .dat d => some d
  | .new b => some b.dat
  | .ref i => (ρ[i]?.join).map A.vw
section rep
variable (K : PySem.W.Frag) (N : Addr → Prop) (H : Hp)
def isFnD : List (D × D) → Bool
  | [(.none, _)] => true
  | _ => false
@[simp] theorem isFnD_nil : isFnD [] = false := rfl
@[simp] theorem isFnD_str (x : Str) (d : D) (r : List (D × D)) : isFnD ((.str x, d) :: r) = false := by cases r <;> rfl
@[simp] theorem isFnD_int (x : Int) (d : D) (r : List (D × D)) : isFnD ((.int x, d) :: r) = false := by cases r <;> rfl
@[simp] theorem isFnD_dkv (kvs : List (Key × D)) : isFnD (dkv kvs) = false := by
  cases kvs with
  | nil => rfl
  | cons p r => obtain ⟨k, d⟩ := p; cases k <;> cases r <;> rfl
def KSq (T : String) (a : Addr) (xs : List V) : Prop :=
  ∃ (o : Obj) (its : Array Value) (n : Nat), K.lookup a = some o ∧ o.cls = .type T ∧ o.dict = none ∧ o.data = .seq its n ∧ its.size ≤ sizeLine ∧ Vals xs its.toList
def KLs (a : Addr) (xs : List V) : Prop := ∃ (its : List Value) (n : Nat), K.lookup a = some { cls := .type "list", data := .seq its.toArray n } ∧ its.length ≤ sizeLine ∧ Vals xs its
def SqLN (a : Addr) (xs : List V) : Prop := (Rd H a (.lst xs) ∧ ¬ N a) ∨ KLs K a xs
/-- a tuple that is known to the object -/
def FTup (a : Addr) (xs : List V) : Prop := ∃ o : Obj, H a = some (.frz o (.tup xs)) ∧ o.dict = none
def SqTN (a : Addr) (xs : List V) : Prop := (FTup H a xs ∧ ¬ N a) ∨ KSq K "tuple" a xs
/-- what the written part says of an exception's class at C -/
structure XcT (K : PySem.W.Frag) (C : Addr) : Prop where
  hcl : (PySem.W.clsIn K C).isSome = true
  ga : PySem.W.findIn K (.ref C) "__getattribute__" = some (some (.builtin "BaseException.__getattribute__"))
  gt : PySem.W.findIn K (.ref C) "__getattr__" = some none
  cl : PySem.W.findIn K (.ref C) "__class__" = some (some (.builtin "object.__class__"))
  hn : PySem.W.specialIn K (.builtin "object.__class__") "__get__" = some (some (.builtin "getset_descriptor.__get__"))
  htk : PySem.W.takesIn K (.builtin "object.__class__") = some true
  hd : PySem.W.hasDictIn K C = true
  mro : ∀ T : String, PySem.W.subIn K (.ref C) (.type T) = some (["ValueError", "Exception", "BaseException", "object"].contains T)
/-- an exception's object, of the class that the module calls x, not raised; its dict, its arguments -/
def XnO (a : Addr) (x : Str) (dx : Option Addr) (xs : List V) : Prop := ∃ (C t : Addr) (o : Obj), H a = some (.frz o (.own a)) ∧ ¬ N a ∧ PySem.W.nsIn K mainGlobals x = some (some (.ref C)) ∧ XcT K C ∧ o.cls = .ref C ∧ o.dict = dx ∧
  o.data = .fields #[.ref t, .none, .none, .none, .bool false, .none] ∧ FTup H t xs ∧ ¬ N t
mutual
inductive Rep : V → D → Prop
  | non : Rep .non .none
  | bl (b : Bool) : Rep (.bl b) (.bool b)
  | int (i : Int) : Rep (.int i) (.int i)
  | str (x : Str) : Rep (.str x) (.str x)
  | lst {a : Addr} {xs : List V} {ds : List D} : SqLN K N H a xs → RepL xs ds → Rep (.ref a) (.list ds)
  | tup {a : Addr} {xs : List V} {ds : List D} : SqTN K N H a xs → RepL xs ds → Rep (.ref a) (.tuple ds)
  | dic {a : Addr} {kvs : List (Key × V)} {ds : List (D × D)} : H a = some (.dK kvs) → ¬ N a → RepK kvs ds → Rep (.ref a) (.dict ds)
  | fn {a : Addr} {x : Str} : PySem.W.nsIn K mainGlobals x = some (some (.ref a)) → Rep (.ref a) (.dict [(.none, .str x)])
  | xn0 {a : Addr} {x : Str} : XnO K N H a x none [] → Rep (.ref a) (.dict [(.none, .tuple [.str x])])
  | xn1 {a dx : Addr} {x f : Str} {od : Obj} {v : V} {d : D} : XnO K N H a x (some dx) [v] → (∃ C, PySem.W.nsIn K mainGlobals x = some (some (.ref C)) ∧ PySem.W.findIn K (.ref C) f = some none) → H dx = some (.frz od (.xd [(f, v)])) → ¬ N dx → Rep v d → Rep (.ref a) (.dict [(.none, .tuple [.str x, .str f, d])])
inductive RepL : List V → List D → Prop
  | nil : RepL [] []
  | cons {v : V} {d : D} {vs : List V} {ds : List D} : Rep v d → RepL vs ds → RepL (v :: vs) (d :: ds)
inductive RepK : List (Key × V) → List (D × D) → Prop
  | nil : RepK [] []
  | cons {k : Key} {v : V} {d : D} {kvs : List (Key × V)} {ds : List (D × D)} : Rep v d → RepK kvs ds → RepK ((k, v) :: kvs) ((kD k, d) :: ds)
end
end rep
structure Evo (N : Addr → Prop) (H : Hp) (N1 : Addr → Prop) (H1 : Hp) : Prop where
  keep : ∀ a o, H a = some o → ¬ N a → H1 a = some o
  av : ∀ a, N1 a → N a ∨ H a = none
theorem Evo.refl {N : Addr → Prop} {H : Hp} : Evo N H N H := ⟨fun _ _ h _ => h, fun _ h => .inl h⟩
theorem Evo.rd {N N1 : Addr → Prop} {H H1 : Hp} (e : Evo N H N1 H1) {a : Addr} {u : HO} (r : Rd H a u) (n : ¬ N a) : Rd H1 a u ∧ ¬ N1 a := by
  rcases r with r | ⟨o, r⟩
  · exact ⟨.inl (e.keep _ _ r n), fun z => (e.av a z).elim n fun q => by rw [q] at r; cases r⟩
  · exact ⟨.inr ⟨o, e.keep _ _ r n⟩, fun z => (e.av a z).elim n fun q => by rw [q] at r; cases r⟩
section
variable {K : PySem.W.Frag} {N N1 : Addr → Prop} {H H1 : Hp}
theorem SqLN.evo (e : Evo N H N1 H1) {a : Addr} {xs : List V} (h : SqLN K N H a xs) : SqLN K N1 H1 a xs := by
  rcases h with ⟨h, n⟩ | h
  · exact .inl (e.rd h n)
  · exact .inr h
theorem SqTN.evo (e : Evo N H N1 H1) {a : Addr} {xs : List V} (h : SqTN K N H a xs) : SqTN K N1 H1 a xs := by
  rcases h with ⟨⟨o, h, d⟩, n⟩ | h
  · exact .inl ⟨⟨o, e.keep _ _ h n, d⟩, fun z => (e.av a z).elim n fun q => by rw [q] at h; cases h⟩
  · exact .inr h
theorem FTup.evo (e : Evo N H N1 H1) {a : Addr} {xs : List V} (h : FTup H a xs) (n : ¬ N a) : FTup H1 a xs ∧ ¬ N1 a := by
  obtain ⟨o, h, d⟩ := h
  exact ⟨⟨o, e.keep _ _ h n, d⟩, fun z => (e.av a z).elim n fun q => by rw [q] at h; cases h⟩
theorem XnO.evo (e : Evo N H N1 H1) {a : Addr} {x : Str} {dx : Option Addr} {xs : List V} (h : XnO K N H a x dx xs) : XnO K N1 H1 a x dx xs := by
  obtain ⟨C, t, o, h1, h2, h3, h3', h4, h5, h6, h7, h8⟩ := h
  exact ⟨C, t, o, e.keep _ _ h1 h2, fun z => (e.av a z).elim h2 (fun q => by rw [q] at h1; cases h1), h3, h3', h4, h5, h6, (h7.evo e h8).1, (h7.evo e h8).2⟩
mutual
theorem Rep.evo (e : Evo N H N1 H1) : ∀ (d : D) (v : V), Rep K N H v d → Rep K N1 H1 v d
  | .none, _, h => by cases h; exact .non
  | .bool b, _, h => by cases h; exact .bl b
  | .int i, _, h => by cases h; exact .int i
  | .str x, _, h => by cases h; exact .str x
  | .list ds, _, h => by cases h with | lst h1 h2 => exact .lst (h1.evo e) (RepL.evo e ds _ h2)
  | .tuple ds, _, h => by cases h with | tup h1 h2 => exact .tup (h1.evo e) (RepL.evo e ds _ h2)
  | .dict ds, _, h => by
    cases h with
    | dic h1 h2 h3 => exact .dic (e.keep _ _ h1 h2) (e.rd (.inl h1) h2).2 (RepK.evo e ds _ h3)
    | fn h1 => exact .fn h1
    | xn0 h1 => exact .xn0 (h1.evo e)
    | xn1 h1 h0 h2 h3 h4 => exact .xn1 (h1.evo e) h0 (e.keep _ _ h2 h3) (fun z => (e.av _ z).elim h3 (fun q => by rw [q] at h2; cases h2)) (Rep.evo e _ _ h4)
theorem RepL.evo (e : Evo N H N1 H1) : ∀ (ds : List D) (vs : List V), RepL K N H vs ds → RepL K N1 H1 vs ds
  | [], _, h => by cases h; exact .nil
  | d :: ds, _, h => by cases h with | cons h1 h2 => exact .cons (Rep.evo e d _ h1) (RepL.evo e ds _ h2)
theorem RepK.evo (e : Evo N H N1 H1) : ∀ (ds : List (D × D)) (vs : List (Key × V)), RepK K N H vs ds → RepK K N1 H1 vs ds
  | [], _, h => by cases h; exact .nil
  | (_, d) :: ds, _, h => by cases h with | cons h1 h2 => exact .cons (Rep.evo e d _ h1) (RepK.evo e ds _ h2)
end
theorem RepL.length : ∀ {vs : List V} {ds : List D}, RepL K N H vs ds → vs.length = ds.length
  | _, _, .nil => rfl
  | _, _, .cons _ t => by simp [RepL.length t]
theorem RepL.get : ∀ {vs : List V} {ds : List D} {i : Nat} {d : D}, RepL K N H vs ds → ds[i]? = some d → ∃ v, vs[i]? = some v ∧ Rep K N H v d
  | _, _, _, _, .nil, h => by simp at h
  | _, _, 0, _, .cons r _, h => by simp at h; subst h; exact ⟨_, rfl, r⟩
  | _, _, i + 1, _, .cons _ t, h => by
    obtain ⟨v, h1, h2⟩ := RepL.get (i := i) t (by simpa using h)
    exact ⟨v, by simpa using h1, h2⟩
theorem RepL.append : ∀ {vs ws : List V} {ds es : List D}, RepL K N H vs ds → RepL K N H ws es → RepL K N H (vs ++ ws) (ds ++ es)
  | _, _, _, _, .nil, h => h
  | _, _, _, _, .cons r t, h => .cons r (RepL.append t h)
theorem RepL.take : ∀ {vs : List V} {ds : List D} (n : Nat), RepL K N H vs ds → RepL K N H (vs.take n) (ds.take n)
  | _, _, 0, _ => .nil
  | _, _, _ + 1, .nil => .nil
  | _, _, n + 1, .cons r t => .cons r (RepL.take n t)
theorem RepL.drop : ∀ {vs : List V} {ds : List D} (n : Nat), RepL K N H vs ds → RepL K N H (vs.drop n) (ds.drop n)
  | _, _, 0, r => r
  | _, _, _ + 1, .nil => .nil
  | _, _, n + 1, .cons _ t => RepL.drop n t
theorem RepL.snoc {vs : List V} {ds : List D} {v : V} {d : D} (h : RepL K N H vs ds) (r : Rep K N H v d) : RepL K N H (vs ++ [v]) (ds ++ [d]) := h.append (.cons r .nil)
/-- content of a box at q -/
def BoxOk (K : PySem.W.Frag) (N : Addr → Prop) (H : Hp) (q : Addr) : Bx → Prop
  | .lst ds => ∃ xs, H q = some (.lst xs) ∧ RepL K N H xs ds
  | .dic kvs => ∃ ks, H q = some (.dK ks) ∧ RepK K N H ks (dkv kvs)
theorem BoxOk.there {q : Addr} {b : Bx} (h : BoxOk K N H q b) : ∃ o, H q = some o := by
  cases b with
  | lst ds => obtain ⟨xs, e, _⟩ := h; exact ⟨_, e⟩
  | dic kvs => obtain ⟨xs, e, _⟩ := h; exact ⟨_, e⟩
theorem BoxOk.evo (e : Evo N H N1 H1) {q : Addr} {b : Bx} (h : BoxOk K N H q b) (hq : ∀ o, H q = some o → H1 q = some o) : BoxOk K N1 H1 q b := by
  cases b with
  | lst ds => obtain ⟨xs, e1, r⟩ := h; exact ⟨xs, hq _ e1, RepL.evo e _ _ r⟩
  | dic kvs => obtain ⟨xs, e1, r⟩ := h; exact ⟨xs, hq _ e1, RepK.evo e _ _ r⟩
/-- a box, frozen -/
theorem BoxOk.fz {q : Addr} {b : Bx} (h : BoxOk K N H q b) (n : ¬ N q) : Rep K N H (.ref q) b.dat := by
  cases b with
  | lst ds => obtain ⟨xs, e1, r⟩ := h; exact .lst (.inl ⟨.inl e1, n⟩) r
  | dic kvs => obtain ⟨xs, e1, r⟩ := h; exact .dic e1 n r
/-- read as: data, or a box -/
def SRep (K : PySem.W.Frag) (N : Addr → Prop) (H : Hp) (v : V) (d : D) : Prop := Rep K N H v d ∨ ∃ q b, v = .ref q ∧ d = b.dat ∧ BoxOk K N H q b
end
structure Wd where
  P : Addr → Prop
  B : Nat → Option Addr
  H0 : Hp
def Wd.PB (W : Wd) (a : Addr) : Prop := ∃ i, W.B i = some a
def BoxAt (ρ : En) (σ : L2.St) (q : Addr) : Prop := ∃ (i : Nat) (o : Bool) (b : Bx), ρ[i]? = some (some (A.box o b)) ∧ σ[i]? = some (some (V.ref q))
def Av (P : Addr → Prop) (ρ : En) (σ : L2.St) (q : Addr) : Prop := P q ∨ BoxAt ρ σ q
def RelA (K : PySem.W.Frag) (W : Wd) (N : Addr → Prop) (H : Hp) (i : Nat) : A → V → Prop
  | .dat d, v => Rep K N H v d
  | .box true b, v => ∃ q, v = .ref q ∧ BoxOk K N H q b ∧ W.H0 q = none
  | .box false b, v => ∃ q, v = .ref q ∧ BoxOk K N H q b ∧ W.B i = some q
structure DRel (K : PySem.W.Frag) (W : Wd) (ρ : En) (σ : L2.St) (H : Hp) : Prop where
  len : ρ.length = σ.length
  sl : ∀ (i : Nat) (a : A), ρ[i]? = some (some a) → ∃ v, σ[i]? = some (some v) ∧ RelA K W (Av W.P ρ σ) H i a v
  dis : ∀ (i j : Nat) (o : Bool) (b : Bx) (o' : Bool) (b' : Bx) (q : Addr), ρ[i]? = some (some (A.box o b)) → ρ[j]? = some (some (A.box o' b')) → σ[i]? = some (some (V.ref q)) → σ[j]? = some (some (V.ref q)) → i = j
  prot : ∀ q, W.P q → ∃ o, H q = some o
  pdis : ∀ q, W.P q → ¬ BoxAt ρ σ q
  keep : ∀ a o, W.H0 a = some o → ¬ W.PB a → H a = some o
  there : ∀ a o, W.H0 a = some o → ∃ o', H a = some o'
section
variable {K : PySem.W.Frag} {W : Wd} {ρ ρ' ρ'' : En} {σ σ' σ'' : L2.St} {H H' H'' : Hp}
theorem DRel.boxOk (h : DRel K W ρ σ H) {i : Nat} {o : Bool} {b : Bx} (e : ρ[i]? = some (some (A.box o b))) : ∃ q, σ[i]? = some (some (.ref q)) ∧ BoxOk K (Av W.P ρ σ) H q b ∧ BoxAt ρ σ q ∧ (o = true → W.H0 q = none) ∧ (o = false → W.B i = some q) := by
  obtain ⟨v, hv, r⟩ := h.sl i _ e
  cases o with
  | true => obtain ⟨q, rfl, bo, z⟩ := r; exact ⟨q, hv, bo, ⟨i, _, b, e, hv⟩, fun _ => z, fun q => nomatch q⟩
  | false => obtain ⟨q, rfl, bo, z⟩ := r; exact ⟨q, hv, bo, ⟨i, _, b, e, hv⟩, (fun q => nomatch q), fun _ => z⟩
theorem DRel.boxThere (h : DRel K W ρ σ H) {q : Addr} (b : BoxAt ρ σ q) : ∃ o, H q = some o := by
  obtain ⟨i, o, b, e, hs⟩ := b
  obtain ⟨q', hs', bo, _⟩ := h.boxOk e
  rw [hs] at hs'; cases hs'
  exact bo.there
theorem DRel.avThere (h : DRel K W ρ σ H) {q : Addr} (b : Av W.P ρ σ q) : ∃ o, H q = some o := b.elim (h.prot q) h.boxThere
theorem DRel.pb (h : DRel K W ρ σ H) {q : Addr} (b : BoxAt ρ σ q) : W.H0 q = none ∨ W.PB q := by
  obtain ⟨i, o, b, e, hs⟩ := b
  obtain ⟨q', hs', bo, _, h1, h2⟩ := h.boxOk e
  rw [hs] at hs'; cases hs'
  cases o with
  | true => exact .inl (h1 rfl)
  | false => exact .inr ⟨i, h2 rfl⟩
/-- the slot's value as it is read -/
theorem DRel.look (h : DRel K W ρ σ H) {i : Nat} {v : V} {d : D} (hv : σ[i]? = some (some v)) (e : R.vw ρ (.ref i) = some d) : SRep K (Av W.P ρ σ) H v d := by
  have e' : (ρ[i]?.join).map A.vw = some d := e
  obtain ⟨a, e1, rfl⟩ := Option.map_eq_some_iff.mp e'
  have e2 : ρ[i]? = some (some a) := Option.join_eq_some_iff.mp e1
  cases a with
  | dat d' =>
    obtain ⟨v', hv', r⟩ := h.sl i _ e2
    rw [hv] at hv'; cases hv'
    exact .inl r
  | box o b =>
    obtain ⟨q, hq, bo, _⟩ := h.boxOk e2
    rw [hv] at hq; cases hq
    exact .inr ⟨q, b, rfl, rfl, bo⟩
/-- what an expression may have done -/
structure PostC (K : PySem.W.Frag) (W : Wd) (ρ : En) (σ : L2.St) (H : Hp) (ρ' : En) (σ' : L2.St) (H' : Hp) : Prop where
  rel : DRel K W ρ' σ' H'
  ext : ∀ a o, H a = some o → ¬ BoxAt ρ σ a → H' a = some o
  thr : ∀ a o, H a = some o → ∃ o', H' a = some o'
  new : ∀ q, BoxAt ρ' σ' q → BoxAt ρ σ q ∨ H q = none
structure PostX (K : PySem.W.Frag) (W : Wd) (ρ : En) (σ : L2.St) (H : Hp) (ρ' : En) (H' : Hp) : Prop extends PostC K W ρ σ H ρ' σ H' where
  stay : ∀ (i : Nat) (a : A), ρ[i]? = some (some a) → ∃ a', ρ'[i]? = some (some a')
  sub : ∀ q, BoxAt ρ' σ q → BoxAt ρ σ q
theorem PostC.refl (h : DRel K W ρ σ H) : PostC K W ρ σ H ρ σ H := ⟨h, fun _ _ e _ => e, fun _ o e => ⟨o, e⟩, fun _ b => .inl b⟩
theorem PostC.trans (a : PostC K W ρ σ H ρ' σ' H') (b : PostC K W ρ' σ' H' ρ'' σ'' H'') : PostC K W ρ σ H ρ'' σ'' H'' where
  rel := b.rel
  ext := fun c o e n => b.ext c o (a.ext c o e n) fun z => (a.new c z).elim n fun q => by rw [q] at e; cases e
  thr := fun c o e => by
    obtain ⟨o1, e1⟩ := a.thr c o e
    exact b.thr c o1 e1
  new := fun q z => by
    rcases b.new q z with z | z
    · exact a.new q z
    · refine .inr ?_
      cases e : H q with
      | none => rfl
      | some o => obtain ⟨o1, e1⟩ := a.thr q o e; rw [e1] at z; cases z
theorem PostX.refl (h : DRel K W ρ σ H) : PostX K W ρ σ H ρ H := ⟨PostC.refl h, fun i a e => ⟨a, e⟩, fun _ z => z⟩
theorem PostX.trans (a : PostX K W ρ σ H ρ' H') (b : PostX K W ρ' σ H' ρ'' H'') : PostX K W ρ σ H ρ'' H'' where
  toPostC := a.toPostC.trans b.toPostC
  stay := fun i x e => by
    obtain ⟨a1, e1⟩ := a.stay i x e
    exact b.stay i a1 e1
  sub := fun q z => a.sub q (b.sub q z)
theorem PostC.evo (a : PostC K W ρ σ H ρ' σ' H') (h : DRel K W ρ σ H) : Evo (Av W.P ρ σ) H (Av W.P ρ' σ') H' where
  keep := fun b o e n => a.ext b o e fun z => n (.inr z)
  av := fun b z => by
    rcases z with z | z
    · exact .inl (.inl z)
    · exact (a.new b z).imp .inr id
theorem PostC.free (a : PostC K W ρ σ H ρ' σ' H') {q : Addr} (z : H' q = none) : H q = none := by
  cases e : H q with
  | none => rfl
  | some o => obtain ⟨o1, e1⟩ := a.thr q o e; rw [e1] at z; cases z
/-- how a result lies -/
def RRel (K : PySem.W.Frag) (N : Addr → Prop) (H : Hp) (ρ' : En) (σ : L2.St) (H' : Hp) : R → V → Prop
  | .dat d, v => Rep K N H' v d
  | .new b, v => ∃ q, v = .ref q ∧ H q = none ∧ BoxOk K (fun a => N a ∨ a = q) H' q b
  | .ref i, v => σ[i]? = some (some v) ∧ ∃ a, ρ'[i]? = some (some a)
/-- a result that is no new box: it stays what it is -/
def FRel (K : PySem.W.Frag) (N : Addr → Prop) (ρ' : En) (σ : L2.St) (H' : Hp) : R → V → Prop
  | .dat d, v => Rep K N H' v d
  | .new _, _ => False
  | .ref i, v => σ[i]? = some (some v) ∧ ∃ a, ρ'[i]? = some (some a)
theorem mono_av {N N1 : Addr → Prop} {H : Hp} (h : ∀ a, N1 a → N a) : Evo N H N1 H := ⟨fun _ _ e _ => e, fun a z => .inl (h a z)⟩
theorem RRel.fz {r : R} {v : V} (p : PostX K W ρ σ H ρ' H') (h : DRel K W ρ σ H) (q : RRel K (Av W.P ρ' σ) H ρ' σ H' r v) : FRel K (Av W.P ρ' σ) ρ' σ H' r.fz v := by
  cases r with
  | dat d => exact q
  | new b =>
    obtain ⟨a, rfl, e, bo⟩ := q
    have na : ¬ Av W.P ρ' σ a := fun z => by
      rcases z with z | z
      · obtain ⟨o, e1⟩ := h.prot a z; rw [e] at e1; cases e1
      · obtain ⟨o, e1⟩ := h.boxThere (p.sub a z); rw [e] at e1; cases e1
    exact (bo.evo (mono_av fun a z => .inl z) fun _ e => e).fz na
  | ref i => exact q
end
def Wd.pl (W : Wd) (e : Addr → Prop) : Wd := { W with P := fun a => W.P a ∨ e a }
/-- the address of a new box -/
def exR : R → V → Addr → Prop
  | .new _, v, a => v = .ref a
  | _, _, _ => False
section
variable {K : PySem.W.Frag} {W : Wd} {ρ ρ' : En} {σ : L2.St} {H H' : Hp}
theorem RelA.evo {N N1 : Addr → Prop} (e : Evo N H N1 H') {i : Nat} {a : A} {v : V} (r : RelA K W N H i a v) (hq : ∀ q, v = .ref q → isBx' a = true → ∀ o, H q = some o → H' q = some o) : RelA K W N1 H' i a v := by
  cases a with
  | dat d => exact Rep.evo e _ _ r
  | box o b => cases o with
    | true => obtain ⟨q, h1, h2, h3⟩ := r; exact ⟨q, h1, h2.evo e (hq q h1 rfl), h3⟩
    | false => obtain ⟨q, h1, h2, h3⟩ := r; exact ⟨q, h1, h2.evo e (hq q h1 rfl), h3⟩
/-- fewer are protected -/
theorem DRel.lessP {W' : Wd} (h : DRel K W ρ σ H) (hP : ∀ a, W'.P a → W.P a) (hB : W'.B = W.B) (h0 : W'.H0 = W.H0) : DRel K W' ρ σ H := by
  have e : Evo (Av W.P ρ σ) H (Av W'.P ρ σ) H := mono_av fun a z => z.imp (hP a) id
  refine ⟨h.len, fun i a e1 => ?_, h.dis, fun q z => h.prot q (hP q z), fun q z => h.pdis q (hP q z), fun a o z n => ?_, fun a o z => ?_⟩
  · obtain ⟨v, hv, r⟩ := h.sl i a e1
    refine ⟨v, hv, ?_⟩
    have r' := r.evo e fun _ _ _ _ z => z
    cases a with
    | dat d => exact r'
    | box o b => cases o with
      | true => obtain ⟨q, h1, h2, h3⟩ := r'; exact ⟨q, h1, h2, by rw [h0]; exact h3⟩
      | false => obtain ⟨q, h1, h2, h3⟩ := r'; exact ⟨q, h1, h2, by rw [hB]; exact h3⟩
  · rw [h0] at z
    exact h.keep a o z fun y => n (by obtain ⟨i, y⟩ := y; exact ⟨i, by rw [hB]; exact y⟩)
  · rw [h0] at z
    exact h.there a o z
theorem DRel.pl0 (h : DRel K W ρ σ H) {e : Addr → Prop} (he : ∀ a, ¬ e a) : DRel K (W.pl e) ρ σ H := h.lessP (fun a z => z.elim id fun z => (he a z).elim) rfl rfl
theorem DRel.unpl {e : Addr → Prop} (h : DRel K (W.pl e) ρ σ H) : DRel K W ρ σ H := h.lessP (W := W.pl e) (fun a z => .inl z) rfl rfl
/-- new protected things, fresh until now -/
theorem DRel.grow (h : DRel K W ρ σ H) {e : Addr → Prop} (s : ∀ a o, H a = some o → H' a = some o) (hf : ∀ a, e a → H a = none) (ht : ∀ a, e a → ∃ o, H' a = some o) : DRel K (W.pl e) ρ σ H' := by
  have ev : Evo (Av W.P ρ σ) H (Av (W.pl e).P ρ σ) H' := ⟨fun a o h _ => s a o h, fun a z => by
    rcases z with (z | z) | z
    · exact .inl (.inl z)
    · exact .inr (hf a z)
    · exact .inl (.inr z)⟩
  refine ⟨h.len, fun i a e1 => ?_, h.dis, fun q z => ?_, fun q z y => ?_, fun a o z n => s _ _ (h.keep a o z n), fun a o z => ?_⟩
  · obtain ⟨v, hv, r⟩ := h.sl i a e1
    refine ⟨v, hv, ?_⟩
    have r' := r.evo ev fun q _ _ o => s q o
    cases a with
    | dat d => exact r'
    | box o b => cases o <;> exact r'
  · rcases z with z | z
    · obtain ⟨o, z⟩ := h.prot q z; exact ⟨o, s _ _ z⟩
    · exact ht q z
  · rcases z with z | z
    · exact h.pdis q z y
    · obtain ⟨o, y⟩ := h.boxThere y
      rw [hf q z] at y; cases y
  · obtain ⟨o', z⟩ := h.there a o z; exact ⟨o', s _ _ z⟩
end
end L3
namespace L3
open PySem PySem.Spec PyProof.Rows L2
structure GC where
  prog : Program
  w : World
  K : PySem.W.Frag
  mg : Str → Option Value
  base : Heap
structure SC where
  N : List Str
  sc : Scope
  fn : Str → Bool
  k : Nat
structure CxOk (G : GC) (S : SC) (X : Cx) : Prop where
  prog : X.prog = G.prog
  w : X.w = G.w
  K : X.K = G.K
  mg : X.mg = G.mg
  base : X.base = G.base
  N : X.N = S.N
  sc : X.env.scope = S.sc
  fn : X.fn = S.fn
  calm : X.calm = true
  room : Room S.k X.A
  gd : X.A.guards = some []
  nd : X.N.Nodup
  xe : X.xe = fun _ _ => False
abbrev ME := En → Option (R × En)
abbrev MT := En → Option (Bool × En)
abbrev MA := En → Option (List R × En)
theorem PE.weak {X : Cx} {e : Expr} {t t' : TE} (h : PE X e t) (w : ∀ σ H Q, t' σ H Q → t σ H Q) : PE X e t' := ⟨fun p s σ H Q I q => h.run p s σ H Q I (w _ _ _ q)⟩
theorem PT.weak {X : Cx} {e : Expr} {t t' : TT} (h : PT X e t) (w : ∀ σ H Q, t' σ H Q → t σ H Q) : PT X e t' := ⟨fun p s σ H Q I q => h.run p s σ H Q I (w _ _ _ q)⟩
theorem PW.weak {X : Cx} {e : Expr} {t t' : TT} (h : PW X e t) (w : ∀ σ H Q, t' σ H Q → t σ H Q) : PW X e t' := ⟨fun wh p s σ H Q I q => h.run wh p s σ H Q I (w _ _ _ q)⟩
theorem PA.weak {X : Cx} {e : List Expr} {t t' : TA} (h : PA X e t) (w : ∀ σ H Q, t' σ H Q → t σ H Q) : PA X e t' := ⟨fun ps p s σ H Q I q => h.run ps p s σ H Q I (w _ _ _ q)⟩
/-- an expression's result behind it -/
structure PostE (K : PySem.W.Frag) (W : Wd) (ρ : En) (σ : L2.St) (H : Hp) (r : R) (ρ' : En) (v : V) (H' : Hp) : Prop extends PostX K W ρ σ H ρ' H' where
  res : RRel K (Av W.P ρ' σ) H ρ' σ H' r v
  relE : DRel K (W.pl (exR r v)) ρ' σ H'
def rd (K : PySem.W.Frag) (m : ME) : TE := fun σ H Q => ∃ W ρ r ρ', DRel K W ρ σ H ∧ m ρ = some (r, ρ') ∧ ∀ v H', PostE K W ρ σ H r ρ' v H' → Q v H'
def rdT (K : PySem.W.Frag) (m : MT) : TT := fun σ H Q => ∃ W ρ r ρ', DRel K W ρ σ H ∧ m ρ = some (r, ρ') ∧ ∀ H', PostX K W ρ σ H ρ' H' → Q r H'
abbrev FRels (K : PySem.W.Frag) (N : Addr → Prop) (ρ' : En) (σ : L2.St) (H' : Hp) : List R → List V → Prop := Paired fun r v => FRel K N ρ' σ H' r v
def rdA (K : PySem.W.Frag) (m : MA) : TA := fun σ H Q => ∃ W ρ rs ρ', DRel K W ρ σ H ∧ m ρ = some (rs, ρ') ∧ ∀ vs H', PostX K W ρ σ H ρ' H' → FRels K (Av W.P ρ' σ) ρ' σ H' rs vs → Q vs H'
section
variable (G : GC) (S : SC)
def DE (e : Expr) (m : ME) : Prop := ∀ X, CxOk G S X → PE X e (rd G.K m)
def DT (e : Expr) (m : MT) : Prop := ∀ X, CxOk G S X → PT X e (rdT G.K m)
def DW (e : Expr) (m : MT) : Prop := ∀ X, CxOk G S X → PW X e (rdT G.K m)
def DA (es : List Expr) (m : MA) : Prop := ∀ X, CxOk G S X → PA X es (rdA G.K m)
end
section
variable {K : PySem.W.Frag} {W : Wd} {ρ ρ' ρ'' : En} {σ : L2.St} {H H' H'' : Hp}
/-- nothing tracked is changed -/
theorem PostX.same (p : PostX K W ρ σ H ρ' H') (s : ∀ a o, H' a = some o → H'' a = some o) : PostX K W ρ σ H ρ' H'' := by
  have e : Evo (Av W.P ρ' σ) H' (Av W.P ρ' σ) H'' := ⟨fun a o h _ => s a o h, fun a z => .inl z⟩
  refine ⟨⟨⟨p.rel.len, fun i a h => ?_, p.rel.dis, fun q z => ?_, p.rel.pdis, fun a o h n => s _ _ (p.rel.keep a o h n), fun a o h => ?_⟩, fun a o h n => s _ _ (p.ext a o h n), fun a o h => ?_, p.new⟩, p.stay, p.sub⟩
  · obtain ⟨v, hv, r⟩ := p.rel.sl i a h
    refine ⟨v, hv, ?_⟩
    cases a with
    | dat d => exact Rep.evo e _ _ r
    | box o b => cases o with
      | true => obtain ⟨q, h1, h2, h3⟩ := r; exact ⟨q, h1, h2.evo e fun o => s q o, h3⟩
      | false => obtain ⟨q, h1, h2, h3⟩ := r; exact ⟨q, h1, h2.evo e fun o => s q o, h3⟩
  · obtain ⟨o, h⟩ := p.rel.prot q z; exact ⟨o, s _ _ h⟩
  · obtain ⟨o', h'⟩ := p.rel.there a o h; exact ⟨o', s _ _ h'⟩
  · obtain ⟨o', h'⟩ := p.thr a o h; exact ⟨o', s _ _ h'⟩
/-- an argument, over what comes behind it -/
theorem FRel.over {r : R} {v : V} (h : FRel K (Av W.P ρ σ) ρ σ H r v) (rel : DRel K W ρ σ H) (p : PostX K W ρ σ H ρ' H') : FRel K (Av W.P ρ' σ) ρ' σ H' r v := by
  cases r with
  | dat d => exact Rep.evo (p.evo rel) _ _ h
  | new b => exact h
  | ref i =>
    obtain ⟨h1, a, h2⟩ := h
    exact ⟨h1, p.stay i a h2⟩
theorem FRels.over {rs : List R} {vs : List V} (h : FRels K (Av W.P ρ σ) ρ σ H rs vs) (rel : DRel K W ρ σ H) (p : PostX K W ρ σ H ρ' H') : FRels K (Av W.P ρ' σ) ρ' σ H' rs vs := by
  induction h with
  | nil => exact .nil
  | cons r t ih => exact .cons (FRel.over r rel p) ih
/-- .. read -/
theorem FRel.read {r : R} {v : V} {d : D} (h : FRel K (Av W.P ρ σ) ρ σ H r v) (rel : DRel K W ρ σ H) (e : r.vw ρ = some d) : SRep K (Av W.P ρ σ) H v d := by
  cases r with
  | dat d' => cases e; exact .inl h
  | new b => exact h.elim
  | ref i => exact rel.look h.1 e
def vws (ρ : En) : List R → Option (List D)
  | [] => some []
  | r :: rs => (r.vw ρ).bind fun d => (vws ρ rs).bind fun ds => some (d :: ds)
abbrev SReps (K : PySem.W.Frag) (N : Addr → Prop) (H : Hp) : List V → List D → Prop := Paired fun v d => SRep K N H v d
theorem FRels.read {rs : List R} {vs : List V} (h : FRels K (Av W.P ρ σ) ρ σ H rs vs) (rel : DRel K W ρ σ H) : ∀ {ds : List D}, vws ρ rs = some ds → SReps K (Av W.P ρ σ) H vs ds := by
  induction h with
  | nil => intro ds e; cases e; exact .nil
  | cons r t ih =>
    intro ds e
    unfold vws at e
    obtain ⟨d, e1, e⟩ := Option.bind_eq_some_iff.mp e
    obtain ⟨ds', e2, e⟩ := Option.bind_eq_some_iff.mp e
    cases e
    exact .cons (r.read rel e1) (ih e2)
end
def VRes (K : PySem.W.Frag) (N : Addr → Prop) (H H' : Hp) (v : V) : R → Prop
  | .dat d => Rep K N H' v d
  | .new b => ∃ q, v = .ref q ∧ H q = none ∧ BoxOk K (fun a => N a ∨ a = q) H' q b
  | .ref _ => False
structure VPost (K : PySem.W.Frag) (N : Addr → Prop) (H : Hp) (r : R) (v : V) (H' : Hp) : Prop where
  same : ∀ a o, H a = some o → H' a = some o
  res : VRes K N H H' v r
def Trk (N : Addr → Prop) (H : Hp) : Prop := ∀ q, N q → ∃ o, H q = some o
def rD2 (K : PySem.W.Frag) (g : D → D → Option R) : R2 := fun x y H Q => ∃ N d e r, Trk N H ∧ SRep K N H x d ∧ SRep K N H y e ∧ g d e = some r ∧ ∀ v H', VPost K N H r v H' → Q v H'
def rD1 (K : PySem.W.Frag) (g : D → Option R) : V → Hp → VK → Prop := fun x H Q => ∃ N d r, Trk N H ∧ SRep K N H x d ∧ g d = some r ∧ ∀ v H', VPost K N H r v H' → Q v H'
def rDn (K : PySem.W.Frag) (g : List D → Option R) : List V → Hp → VK → Prop := fun xs H Q => ∃ N ds r, Trk N H ∧ SReps K N H xs ds ∧ g ds = some r ∧ ∀ v H', VPost K N H r v H' → Q v H'
def rDm (K : PySem.W.Frag) (g : D → List D → Option R) : V → List V → Hp → VK → Prop := fun x xs H Q => ∃ N d ds r, Trk N H ∧ SRep K N H x d ∧ SReps K N H xs ds ∧ g d ds = some r ∧ ∀ v H', VPost K N H r v H' → Q v H'
def rDs (K : PySem.W.Frag) (g : D → Option Int → Option Int → Option R) : V → Option Int → Option Int → Hp → VK → Prop := fun x lo hi H Q => ∃ N d r, Trk N H ∧ SRep K N H x d ∧ g d lo hi = some r ∧ ∀ v H', VPost K N H r v H' → Q v H'
theorem DRel.trk {K : PySem.W.Frag} {W : Wd} {ρ : En} {σ : L2.St} {H : Hp} (h : DRel K W ρ σ H) : Trk (Av W.P ρ σ) H := fun _ z => h.avThere z
theorem PostX.fin {K : PySem.W.Frag} {W : Wd} {ρ ρ' : En} {σ : L2.St} {H H' H'' : Hp} {r : R} {v : V} (p : PostX K W ρ σ H ρ' H') (q : VPost K (Av W.P ρ' σ) H' r v H'') : PostE K W ρ σ H r ρ' v H'' := by
  have z := q.res
  cases r with
  | dat d => exact ⟨p.same q.same, z, (p.same q.same).rel.pl0 fun _ z => z⟩
  | new b =>
    obtain ⟨a, h1, h2, h3⟩ := z
    refine ⟨p.same q.same, ⟨a, h1, p.free h2, h3⟩, p.rel.grow q.same (fun c z => ?_) fun c z => ?_⟩
    · cases h1; cases z; exact h2
    · cases h1; cases z; exact h3.there
  | ref i => exact z.elim
def mvar (i : Nat) : ME := fun ρ => (ρ[i]?.join).bind fun a => match a with
  | .dat d => some (.dat d, ρ)
  | .box _ _ => some (.ref i, ρ)
def mcon (d : D) : ME := fun ρ => some (.dat d, ρ)
def m1 (g : D → Option R) (ma : ME) : ME := fun ρ => (ma ρ).bind fun x => (x.1.fz.vw x.2).bind fun d => (g d).bind fun r => some (r, x.2)
def m2 (g : D → D → Option R) (ma mb : ME) : ME := fun ρ => (ma ρ).bind fun x => (mb x.2).bind fun y => (x.1.fz.vw y.2).bind fun d => (y.1.fz.vw y.2).bind fun e => (g d e).bind fun r => some (r, y.2)
def mnil : MA := fun ρ => some ([], ρ)
def mcons (ma : ME) (ms : MA) : MA := fun ρ => (ma ρ).bind fun x => (ms x.2).bind fun y => some (x.1.fz :: y.1, y.2)
def mn (g : List D → Option R) (ms : MA) : ME := fun ρ => (ms ρ).bind fun x => (vws x.2 x.1).bind fun ds => (g ds).bind fun r => some (r, x.2)
def tyD (T : String) : D → Bool
  | .str _ => T == "str"
  | .list _ => T == "list"
  | .dict ds => T == "dict" && !isFnD ds
  | _ => false
def guardO (b : Bool) : Option Unit := if b = true then some () else none
def mm (T : String) (g : D → List D → Option R) (ma : ME) (ms : MA) : ME := fun ρ => (ma ρ).bind fun x => (x.1.fz.vw x.2).bind fun d0 => (guardO (tyD T d0)).bind fun _ => (ms x.2).bind fun y => (x.1.fz.vw y.2).bind fun d => (vws y.2 y.1).bind fun ds => (g d ds).bind fun r => some (r, y.2)
def mif (mt : MT) (ma mb : ME) : ME := fun ρ => (mt ρ).bind fun x => if x.1 = true then ma x.2 else mb x.2
section
variable {G : GC} {S : SC} {e a b c : Expr} {es rest : List Expr} {pos p2 : Pos} {m ma mb mc : ME} {mt mu : MT} {ms : MA}
theorem de_name (i : Nat) {x : Str} (hN : S.N[i]? = some x) (hv : Vis S.sc x) (hd : (x == ("__debug__" : Str)) = false) (hcd : (x == ("__classdict__" : Str)) = false) : DE G S (.Name x pos) (mvar i) := by
  intro X c
  refine PE.weak (pe_var (i := i) (by rw [c.N]; exact hN) (by rw [c.sc]; exact hv) hd hcd) ?_
  rintro σ H Q ⟨W, ρ, r, ρ', rel, em, q⟩
  unfold mvar at em
  obtain ⟨y, e1, em⟩ := Option.bind_eq_some_iff.mp em
  have e2 : ρ[i]? = some (some y) := Option.join_eq_some_iff.mp e1
  obtain ⟨v, hv, rr⟩ := rel.sl i y e2
  refine ⟨v, hv, ?_⟩
  cases y with
  | dat d =>
    cases em
    exact q v H ⟨PostX.refl rel, rr, rel.pl0 fun _ z => z⟩
  | box o b =>
    cases em
    exact q v H ⟨PostX.refl rel, ⟨hv, _, e2⟩, rel.pl0 fun _ z => z⟩
theorem de_con {e : Expr} {d : D} {v : V} (h : ∀ X, PE X e (tC v)) (hr : ∀ K N H, Rep K N H v d) : DE G S e (mcon d) := by
  intro X c
  refine PE.weak (h X) ?_
  rintro σ H Q ⟨W, ρ, r, ρ', rel, em, q⟩
  cases em
  exact q v H ⟨PostX.refl rel, hr _ _ _, rel.pl0 fun _ z => z⟩
theorem de_int {i j} : DE G S (.Constant (.int i) j pos) (mcon (.int i)) := de_con (fun _ => pe_int) fun _ _ _ => .int i
theorem de_bl {b j} : DE G S (.Constant (.bool b) j pos) (mcon (.bool b)) := de_con (fun _ => pe_bl) fun _ _ _ => .bl b
theorem de_non {j} : DE G S (.Constant .none j pos) (mcon .none) := de_con (fun _ => pe_non) fun _ _ _ => .non
theorem de_str {x j} : DE G S (.Constant (.str x) j pos) (mcon (.str x)) := de_con (fun _ => pe_str) fun _ _ _ => .str x
/-- two parts, then an operation by values -/
theorem rd2 {K : PySem.W.Frag} {g : D → D → Option R} {σ : L2.St} {H : Hp} {Q : VK} (h : rd K (m2 g ma mb) σ H Q) : rd K ma σ H fun x H1 => rd K mb σ H1 fun y H2 => rD2 K g x y H2 Q := by
  obtain ⟨W, ρ, r, ρ', rel, em, q⟩ := h
  unfold m2 at em
  obtain ⟨⟨ra, ρ1⟩, e1, em⟩ := Option.bind_eq_some_iff.mp em
  obtain ⟨⟨rb, ρ2⟩, e2, em⟩ := Option.bind_eq_some_iff.mp em
  obtain ⟨d, e3, em⟩ := Option.bind_eq_some_iff.mp em
  obtain ⟨e, e4, em⟩ := Option.bind_eq_some_iff.mp em
  obtain ⟨r', e5, em⟩ := Option.bind_eq_some_iff.mp em
  cases em
  refine ⟨W, ρ, ra, ρ1, rel, e1, fun x H1 p1 => ⟨W, ρ1, rb, ρ2, p1.rel, e2, fun y H2 p2 => ⟨Av W.P ρ2 σ, d, e, r, p2.rel.trk, ?_, ?_, e5, fun v H' vp => q v H' ((p1.toPostX.trans p2.toPostX).fin vp)⟩⟩⟩
  · exact (((p1.res.fz p1.toPostX rel).over p1.rel p2.toPostX).read p2.rel e3)
  · exact (p2.res.fz p2.toPostX p1.rel).read p2.rel e4
theorem rd1 {K : PySem.W.Frag} {g : D → Option R} {σ : L2.St} {H : Hp} {Q : VK} (h : rd K (m1 g ma) σ H Q) : rd K ma σ H fun x H1 => rD1 K g x H1 Q := by
  obtain ⟨W, ρ, r, ρ', rel, em, q⟩ := h
  unfold m1 at em
  obtain ⟨⟨ra, ρ1⟩, e1, em⟩ := Option.bind_eq_some_iff.mp em
  obtain ⟨d, e3, em⟩ := Option.bind_eq_some_iff.mp em
  obtain ⟨r', e5, em⟩ := Option.bind_eq_some_iff.mp em
  cases em
  exact ⟨W, ρ, ra, ρ1, rel, e1, fun x H1 p1 => ⟨Av W.P ρ1 σ, d, r, p1.rel.trk, (p1.res.fz p1.toPostX rel).read p1.rel e3, e5, fun v H' vp => q v H' (p1.toPostX.fin vp)⟩⟩
theorem rdn {K : PySem.W.Frag} {g : List D → Option R} {σ : L2.St} {H : Hp} {Q : VK} (h : rd K (mn g ms) σ H Q) : rdA K ms σ H fun xs H1 => rDn K g xs H1 Q := by
  obtain ⟨W, ρ, r, ρ', rel, em, q⟩ := h
  unfold mn at em
  obtain ⟨⟨rs, ρ1⟩, e1, em⟩ := Option.bind_eq_some_iff.mp em
  obtain ⟨ds, e3, em⟩ := Option.bind_eq_some_iff.mp em
  obtain ⟨r', e5, em⟩ := Option.bind_eq_some_iff.mp em
  cases em
  exact ⟨W, ρ, rs, ρ1, rel, e1, fun xs H1 p1 f1 => ⟨Av W.P ρ1 σ, ds, r, p1.rel.trk, f1.read p1.rel e3, e5, fun v H' vp => q v H' (p1.fin vp)⟩⟩
theorem guardO_some {b : Bool} {u : Unit} (h : guardO b = some u) : b = true := by
  unfold guardO at h
  split at h
  · assumption
  · cases h
theorem KLs.L {K : PySem.W.Frag} {a : Addr} {xs : List V} {H : Hp} (h : KLs K a xs) : SqL K H a xs := by
  obtain ⟨its, n, h1, h2, h3⟩ := h
  exact .inr ⟨_, its.toArray, n, h1, rfl, rfl, rfl, by simpa using h2, by simpa using h3⟩
theorem KSq.T {K : PySem.W.Frag} {a : Addr} {xs : List V} {H : Hp} (h : KSq K "tuple" a xs) : SqT K H a xs := by
  obtain ⟨o, its, n, h1, h2, h3, h4, h5, h6⟩ := h
  exact .inr ⟨o, its, n, h1, h2, h4, h5, h6⟩
theorem SqLN.sq {K : PySem.W.Frag} {N : Addr → Prop} {a : Addr} {xs : List V} {H : Hp} (h : SqLN K N H a xs) : SqL K H a xs := h.elim (fun q => .inl q.1) KLs.L
theorem SqTN.sq {K : PySem.W.Frag} {N : Addr → Prop} {a : Addr} {xs : List V} {H : Hp} (h : SqTN K N H a xs) : SqT K H a xs := h.elim (fun ⟨⟨o, q, _⟩, _⟩ => .inl (.inr ⟨o, q⟩)) KSq.T
section
variable {K : PySem.W.Frag} {N : Addr → Prop} {H : Hp} {v : V}
theorem SRep.list {ds : List D} (h : SRep K N H v (.list ds)) : ∃ a xs, v = .ref a ∧ SqL K H a xs ∧ RepL K N H xs ds := by
  rcases h with h | ⟨q, b, rfl, e, bo⟩
  · cases h with | lst h1 h2 => exact ⟨_, _, rfl, h1.sq, h2⟩
  · cases b with
    | lst xs => cases e; obtain ⟨xs, e, r⟩ := bo; exact ⟨q, xs, rfl, .inl (.inl e), r⟩
    | dic kvs => cases e
theorem SRep.tuple {ds : List D} (h : SRep K N H v (.tuple ds)) : ∃ a xs, v = .ref a ∧ SqTN K N H a xs ∧ RepL K N H xs ds := by
  rcases h with h | ⟨q, b, rfl, e, bo⟩
  · cases h with | tup h1 h2 => exact ⟨_, _, rfl, h1, h2⟩
  · cases b <;> cases e
theorem SRep.dict {ds : List (D × D)} (h : SRep K N H v (.dict ds)) (hf : isFnD ds = false) : ∃ a kvs, v = .ref a ∧ H a = some (.dK kvs) ∧ RepK K N H kvs ds := by
  rcases h with h | ⟨q, b, rfl, e, bo⟩
  · cases h with
    | dic h1 h2 h3 => exact ⟨_, _, rfl, h1, h3⟩
    | fn h1 => cases hf
    | xn0 h1 => cases hf
    | xn1 h1 => cases hf
  · cases b with
    | lst xs => cases e
    | dic kvs => cases e; obtain ⟨xs, e, r⟩ := bo; exact ⟨q, xs, rfl, e, r⟩
theorem SRep.dictRef {ds : List (D × D)} (h : SRep K N H v (.dict ds)) : ∃ a, v = .ref a := by
  rcases h with h | ⟨q, b, rfl, e, bo⟩
  · cases h with
    | dic h1 h2 h3 => exact ⟨_, rfl⟩
    | fn h1 => exact ⟨_, rfl⟩
    | xn0 h1 => exact ⟨_, rfl⟩
    | xn1 h1 => exact ⟨_, rfl⟩
  · exact ⟨q, rfl⟩
theorem SRep.int {i : Int} (h : SRep K N H v (.int i)) : v = .int i := by
  rcases h with h | ⟨q, b, rfl, e, bo⟩
  · cases h; rfl
  · cases b <;> cases e
theorem SRep.str {x : Str} (h : SRep K N H v (.str x)) : v = .str x := by
  rcases h with h | ⟨q, b, rfl, e, bo⟩
  · cases h; rfl
  · cases b <;> cases e
theorem SRep.bool {x : Bool} (h : SRep K N H v (.bool x)) : v = .bl x := by
  rcases h with h | ⟨q, b, rfl, e, bo⟩
  · cases h; rfl
  · cases b <;> cases e
theorem SRep.none (h : SRep K N H v .none) : v = .non := by
  rcases h with h | ⟨q, b, rfl, e, bo⟩
  · cases h; rfl
  · cases b <;> cases e
theorem SRep.ty {T : String} {d : D} (h : SRep K N H v d) (e : tyD T d = true) : tyV K T v H := by
  cases d with
  | str x => rw [h.str]; exact beq_iff_eq.mp e
  | list xs => obtain ⟨a, ys, rfl, h1, _⟩ := h.list; exact .inl ⟨beq_iff_eq.mp e, ys, h1⟩
  | dict xs =>
    unfold tyD at e
    rw [Bool.and_eq_true, Bool.not_eq_true'] at e
    obtain ⟨a, ys, rfl, h1, _⟩ := h.dict e.2
    exact .inr (.inr (.inl ⟨beq_iff_eq.mp e.1, .inl ⟨ys, h1⟩⟩))
  | none => cases e
  | bool b => cases e
  | int i => cases e
  | tuple xs => cases e
end
theorem rdm {K : PySem.W.Frag} {T : String} {g : D → List D → Option R} {σ : L2.St} {H : Hp} {Q : VK} (h : rd K (mm T g ma ms) σ H Q) :
    rd K ma σ H fun x H1 => tyV K T x H1 ∧ rdA K ms σ H1 fun xs H2 => rDm K g x xs H2 Q := by
  obtain ⟨W, ρ, r, ρ', rel, em, q⟩ := h
  unfold mm at em
  obtain ⟨⟨ra, ρ1⟩, e1, em⟩ := Option.bind_eq_some_iff.mp em
  obtain ⟨d0, e6, em⟩ := Option.bind_eq_some_iff.mp em
  obtain ⟨u, e7, em⟩ := Option.bind_eq_some_iff.mp em
  obtain ⟨⟨rs, ρ2⟩, e2, em⟩ := Option.bind_eq_some_iff.mp em
  obtain ⟨d, e3, em⟩ := Option.bind_eq_some_iff.mp em
  obtain ⟨ds, e4, em⟩ := Option.bind_eq_some_iff.mp em
  obtain ⟨r', e5, em⟩ := Option.bind_eq_some_iff.mp em
  cases em
  refine ⟨W, ρ, ra, ρ1, rel, e1, fun x H1 p1 => ⟨?_, W, ρ1, rs, ρ2, p1.rel, e2, fun xs H2 p2 f2 => ⟨Av W.P ρ2 σ, d, ds, r, p2.rel.trk, ?_, f2.read p2.rel e4, e5, fun v H' vp => q v H' ((p1.toPostX.trans p2).fin vp)⟩⟩⟩
  · exact ((p1.res.fz p1.toPostX rel).read p1.rel e6).ty (guardO_some e7)
  · exact (((p1.res.fz p1.toPostX rel).over p1.rel p2).read p2.rel e3)
theorem de_op {op : Operator} {g : D → D → Option R} (h : ∀ X, CxOk G S X → OpR X (binaryOp op) (rD2 G.K g)) (ha : DE G S a ma) (hb : DE G S b mb) : DE G S (.BinOp a op b pos) (m2 g ma mb) :=
  fun X c => PE.weak (pe_op (h X c) (ha X c) (hb X c)) fun _ _ _ q => rd2 q
theorem de_cmp {op : CmpOp} {g : D → D → Option R} (h : ∀ X, CxOk G S X → OpR X (compareOp op) (rD2 G.K g)) (ha : DE G S a ma) (hb : DE G S b mb) (hm : behindInMarks op b = false) : DE G S (.Compare a [op] [b] pos) (m2 g ma mb) :=
  fun X c => PE.weak (pe_cmpR (h X c) (ha X c) (hb X c) hm) fun _ _ _ q => rd2 q
theorem de_un {op : UnaryOp} {g : D → Option R} (h : ∀ X, CxOk G S X → UnR X (unaryOp op) (rD1 G.K g)) (ha : DE G S a ma) : DE G S (.UnaryOp op a pos) (m1 g ma) :=
  fun X c => PE.weak (pe_un (h X c) (ha X c)) fun _ _ _ q => rd1 q
theorem da_nil : DA G S [] mnil := fun X c => PA.weak pa_nil fun σ H Q ⟨W, ρ, rs, ρ', rel, em, q⟩ => by
  cases em
  exact q [] H (PostX.refl rel) .nil
theorem rdcons {K : PySem.W.Frag} {σ : L2.St} {H : Hp} {Q : List V → Hp → Prop} (h : rdA K (mcons ma ms) σ H Q) : rd K ma σ H fun x H1 => rdA K ms σ H1 fun xs H2 => Q (x :: xs) H2 := by
  obtain ⟨W, ρ, r, ρ', rel, em, q⟩ := h
  unfold mcons at em
  obtain ⟨⟨ra, ρ1⟩, e1, em⟩ := Option.bind_eq_some_iff.mp em
  obtain ⟨⟨rs, ρ2⟩, e2, em⟩ := Option.bind_eq_some_iff.mp em
  cases em
  exact ⟨W, ρ, ra, ρ1, rel, e1, fun x H1 p1 => ⟨W, ρ1, rs, ρ2, p1.rel, e2, fun xs H2 p2 f2 => q _ H2 (p1.toPostX.trans p2) (.cons ((p1.res.fz p1.toPostX rel).over p1.rel p2) f2)⟩⟩
theorem da_cons (ha : DE G S e ma) (hr : DA G S es ms) (hs : ∀ env : PySem.Env, starEach (e :: es) env = (false, eval e env) :: starEach es env) : DA G S (e :: es) (mcons ma ms) :=
  fun X c => PA.weak (pa_cons (ha X c) (hr X c) (hs _)) fun _ _ _ q => rdcons q
theorem de_callB {x : Str} {id : String} {g : List D → Option R} (h : ∀ X, CxOk G S X → CallR X (.builtin id) (rDn G.K g)) (hg : S.sc.names.lookup x = some .globalImplicit) (hm : G.mg x = none) (hv : bootBuiltins x = some (.builtin id)) (ha : DA G S (e :: es) ms)
    (hn : x ≠ "__name__") (hdb : (x == ("__debug__" : Str)) = false) (he : ∀ env : PySem.Env, starEach (e :: es) env = (false, eval e env) :: starEach es env) (hpl : ∀ env : PySem.Env, (backTo pos (starEach es env)).any (·.1) = false) :
    DE G S (.Call (.Name x p2) (e :: es) [] pos) (mn g ms) :=
  fun X c => PE.weak (pe_callB (h X c) (by show X.env.scope.names.lookup x = _; rw [c.sc]; exact hg) (by rw [c.mg]; exact hm) hv (ha X c) hn hdb (he _) (hpl _)) fun _ _ _ q => rdn q
theorem de_callTy {x : Str} {T : String} {g : List D → Option R} (h : ∀ X, CxOk G S X → CallR X (.type T) (rDn G.K g)) (hg : S.sc.names.lookup x = some .globalImplicit) (hm : G.mg x = none) (hv : bootBuiltins x = some (.type T)) (ha : DA G S (e :: es) ms)
    (hn : x ≠ "__name__") (hdb : (x == ("__debug__" : Str)) = false) (he : ∀ env : PySem.Env, starEach (e :: es) env = (false, eval e env) :: starEach es env) (hpl : ∀ env : PySem.Env, (backTo pos (starEach es env)).any (·.1) = false) :
    DE G S (.Call (.Name x p2) (e :: es) [] pos) (mn g ms) :=
  fun X c => PE.weak (pe_callTy (h X c) (by show X.env.scope.names.lookup x = _; rw [c.sc]; exact hg) (by rw [c.mg]; exact hm) hv (ha X c) hn hdb (he _) (hpl _)) fun _ _ _ q => rdn q
end
end L3
namespace L3
open PySem PySem.Spec PyProof.Rows L2
def fzs (ρ : En) : List R → Option (List D × En)
  | [] => some ([], ρ)
  | .dat d :: rs => (fzs ρ rs).map fun x => (d :: x.1, x.2)
  | .new _ :: _ => none
  | .ref i :: rs => (ρ[i]?.join).bind fun a => match a with
    | .dat d => (fzs ρ rs).map fun x => (d :: x.1, x.2)
    | .box true b => (fzs (ρ.set i (some (.dat b.dat))) rs).map fun x => (b.dat :: x.1, x.2)
    | .box false _ => none
section
variable {K : PySem.W.Frag} {W : Wd} {ρ ρ' : En} {σ : L2.St} {H H' : Hp}
theorem set_get {i j : Nat} {x : A} {a : A} (h : (ρ.set i (some x))[j]? = some (some a)) : (j = i ∧ a = x) ∨ (j ≠ i ∧ ρ[j]? = some (some a)) := by
  by_cases e : j = i
  · subst e
    by_cases hl : j < ρ.length
    · rw [List.getElem?_set_self hl] at h; cases h; exact .inl ⟨rfl, rfl⟩
    · rw [List.getElem?_eq_none (by simpa using hl)] at h; cases h
  · rw [List.getElem?_set_ne (Ne.symm e)] at h; exact .inr ⟨e, h⟩
/-- an own box is frozen -/
theorem DRel.freeze (h : DRel K W ρ σ H) {i : Nat} {b : Bx} (e : ρ[i]? = some (some (.box true b))) :
    PostX K W ρ σ H (ρ.set i (some (.dat b.dat))) H ∧ ∃ v, σ[i]? = some (some v) ∧ Rep K (Av W.P (ρ.set i (some (.dat b.dat))) σ) H v b.dat := by
  obtain ⟨q, hq, bo, at_, h0, _⟩ := h.boxOk e
  have sub : ∀ a, BoxAt (ρ.set i (some (.dat b.dat))) σ a → BoxAt ρ σ a ∧ a ≠ q := fun a ⟨j, o, b', e1, e2⟩ => by
    rcases set_get e1 with ⟨rfl, z⟩ | ⟨n, z⟩
    · cases z
    · exact ⟨⟨j, o, b', z, e2⟩, fun e3 => n (h.dis j i _ _ _ _ q z e (by rw [e2, e3]) hq)⟩
  have ev : Evo (Av W.P ρ σ) H (Av W.P (ρ.set i (some (.dat b.dat))) σ) H := mono_av fun a z => z.imp id fun z => (sub a z).1
  have nq : ¬ Av W.P (ρ.set i (some (.dat b.dat))) σ q := fun z => by
    rcases z with z | z
    · exact h.pdis q z at_
    · exact (sub q z).2 rfl
  have rq : Rep K (Av W.P (ρ.set i (some (.dat b.dat))) σ) H (.ref q) b.dat := (bo.evo ev fun _ e => e).fz nq
  refine ⟨⟨⟨⟨by simpa using h.len, fun j a e1 => ?_, fun j k o b1 o' b2 q' e1 e2 => ?_, h.prot, fun a z y => h.pdis a z (sub a y).1, h.keep, h.there⟩, fun _ _ e _ => e, fun _ o e => ⟨o, e⟩, fun a z => .inl (sub a z).1⟩, fun j a e1 => ?_, fun a z => (sub a z).1⟩, _, hq, rq⟩
  · rcases set_get e1 with ⟨rfl, rfl⟩ | ⟨n, z⟩
    · exact ⟨_, hq, rq⟩
    · obtain ⟨v, hv, r⟩ := h.sl j a z
      refine ⟨v, hv, ?_⟩
      cases a with
      | dat d => exact Rep.evo ev _ _ r
      | box o b => cases o with
        | true => obtain ⟨q, h1, h2, h3⟩ := r; exact ⟨q, h1, h2.evo ev fun _ e => e, h3⟩
        | false => obtain ⟨q, h1, h2, h3⟩ := r; exact ⟨q, h1, h2.evo ev fun _ e => e, h3⟩
  · rcases set_get e1 with ⟨_, z⟩ | ⟨_, z⟩
    · cases z
    · rcases set_get e2 with ⟨_, z2⟩ | ⟨_, z2⟩
      · cases z2
      · exact h.dis j k _ _ _ _ q' z z2
  · by_cases ej : j = i
    · subst ej
      exact ⟨_, List.getElem?_set_self (List.getElem?_eq_some_iff.mp e1).1⟩
    · exact ⟨a, by rw [List.getElem?_set_ne (Ne.symm ej)]; exact e1⟩
theorem fzs_ok : ∀ {rs : List R} {vs : List V} {ρ ρ' : En} {ds : List D}, DRel K W ρ σ H → FRels K (Av W.P ρ σ) ρ σ H rs vs → fzs ρ rs = some (ds, ρ') → PostX K W ρ σ H ρ' H ∧ RepL K (Av W.P ρ' σ) H vs ds
  | [], _, _, _, _, rel, .nil, e => by cases e; exact ⟨PostX.refl rel, .nil⟩
  | .dat d :: rs, _, _, _, _, rel, .cons r t, e => by
    unfold fzs at e
    obtain ⟨⟨ds, ρ1⟩, e1, e2⟩ := Option.map_eq_some_iff.mp e
    cases e2
    obtain ⟨p, q⟩ := fzs_ok rel t e1
    exact ⟨p, .cons (Rep.evo (p.evo rel) _ _ r) q⟩
  | .new _ :: _, _, _, _, _, _, .cons r _, _ => r.elim
  | .ref i :: rs, _, ρ, _, _, rel, .cons r t, e => by
    unfold fzs at e
    obtain ⟨a, e1, e⟩ := Option.bind_eq_some_iff.mp e
    have e2 : ρ[i]? = some (some a) := Option.join_eq_some_iff.mp e1
    obtain ⟨hv, _⟩ := r
    cases a with
    | dat d =>
      obtain ⟨⟨ds, ρ1⟩, e3, e4⟩ := Option.map_eq_some_iff.mp e
      cases e4
      obtain ⟨p, q⟩ := fzs_ok rel t e3
      obtain ⟨v', hv', rr⟩ := rel.sl i _ e2
      rw [hv] at hv'; cases hv'
      exact ⟨p, .cons (Rep.evo (p.evo rel) _ _ rr) q⟩
    | box o b => cases o with
      | false => cases e
      | true =>
        obtain ⟨⟨ds, ρ1⟩, e3, e4⟩ := Option.map_eq_some_iff.mp e
        cases e4
        obtain ⟨p0, v', hv', rr⟩ := rel.freeze e2
        rw [hv] at hv'; cases hv'
        obtain ⟨p, q⟩ := fzs_ok p0.rel (FRels.over t rel p0) e3
        exact ⟨p0.trans p, .cons (Rep.evo (p.evo p0.rel) _ _ rr) q⟩
end
def mtup (ms : MA) : ME := fun ρ => (ms ρ).bind fun x => (fzs x.2 x.1).bind fun y => (guardO (decide (y.1.length ≤ sizeLine))).bind fun _ => some (.dat (.tuple y.1), y.2)
def mlst (ms : MA) : ME := fun ρ => (ms ρ).bind fun x => (fzs x.2 x.1).bind fun y => (guardO (decide (y.1.length ≤ sizeLine))).bind fun _ => some (.new (.lst y.1), y.2)
theorem fresh_upd {H : Hp} {p : Addr} {o : HO} (h : H p = none) : ∀ a u, H a = some u → upd H p o a = some u := fun a u e => by
  rw [upd_ne (ne_of_none e h)]; exact e
theorem fresh_evo {N : Addr → Prop} {H : Hp} {p : Addr} {o : HO} (h : H p = none) : Evo N H (fun a => N a ∨ a = p) (upd H p o) :=
  ⟨fun a u e _ => fresh_upd h a u e, fun a z => z.imp id fun z => by rw [z]; exact h⟩
theorem fresh_evo' {N : Addr → Prop} {H : Hp} {p : Addr} {o : HO} (h : H p = none) : Evo N H N (upd H p o) :=
  ⟨fun a u e _ => fresh_upd h a u e, fun a z => .inl z⟩
theorem ftup_new {X : Cx} {pins : List (Addr × Obj)} {σ : L2.St} {H : Hp} {s : Shared} {ys : List V} {its : List Value} {t' : Nat} (I : Inv X pins σ H s) (r : Vals ys its) (hz : ys.length ≤ sizeLine) :
    Inv X pins σ (upd H s.heap.objs.size (.frz { cls := .type "tuple", data := .seq its.toArray } (.tup ys))) { s with heap := s.heap.push { cls := .type "tuple", data := .seq its.toArray }, toks := t' } :=
  I.laid (fun _ _ q => Heap.get?_push_of_some _ q) (Nat.le_refl _) ⟨Heap.get?_push_size _ rfl, hz, its, r, IsTup.new _ _⟩
def tTupF (t : TA) : TE := fun σ H Q => t σ H fun xs H1 => xs.length ≤ sizeLine ∧ ∀ (p : Addr) (o : Obj), H1 p = none → o.dict = none → Q (.ref p) (upd H1 p (.frz o (.tup xs)))
theorem pe_tupF {X : Cx} {es : List Expr} {t : TA} {pos : Pos} {x1} (h : PA X es t) : PE X (.Tuple es x1 pos) (tTupF t) := by
  refine ⟨fun pins s σ H Q I hq => ?_⟩
  refine wpAny_Tuple_spliced (thn (h.run pos pins s σ H _ I hq) fun us s1 ⟨xs, H1, I1, r, z, q⟩ => ⟨by rw [← r.length]; exact z, ?_⟩)
  exact ⟨.ref s1.heap.objs.size, _, ftup_new (t' := s1.toks) I1 r z, rfl, q _ _ (I1.hok.fresh (Nat.le_refl _)) rfl⟩
theorem guardO_dec {p : Prop} [Decidable p] {u : Unit} (h : guardO (decide p) = some u) : p := of_decide_eq_true (guardO_some h)
section
variable {G : GC} {S : SC} {e a b c : Expr} {es rest : List Expr} {pos p2 : Pos} {m ma mb mc : ME} {mt mu : MT} {ms : MA}
theorem de_tup {x1} (h : DA G S es ms) : DE G S (.Tuple es x1 pos) (mtup ms) := by
  intro X c
  refine PE.weak (pe_tupF (h X c)) ?_
  rintro σ H Q ⟨W, ρ, r, ρ', rel, em, q⟩
  unfold mtup at em
  obtain ⟨⟨rs, ρ1⟩, e1, em⟩ := Option.bind_eq_some_iff.mp em
  obtain ⟨⟨ds, ρ2⟩, e2, em⟩ := Option.bind_eq_some_iff.mp em
  obtain ⟨u, e3, em⟩ := Option.bind_eq_some_iff.mp em
  cases em
  refine ⟨W, ρ, rs, ρ1, rel, e1, fun vs H1 p1 f1 => ?_⟩
  obtain ⟨p2, rl⟩ := fzs_ok p1.rel f1 e2
  refine ⟨by rw [rl.length]; exact guardO_dec e3, fun p o hp ho => q _ _ ((p1.trans p2).fin ⟨fresh_upd hp, ?_⟩)⟩
  exact .tup (.inl ⟨⟨o, upd_same, ho⟩, fun z => by obtain ⟨o, e⟩ := p2.rel.avThere z; rw [hp] at e; cases e⟩) (RepL.evo (fresh_evo' hp) _ _ rl)
theorem de_lst (h : DA G S es ms) : DE G S (.List es pos) (mlst ms) := by
  intro X c
  refine PE.weak (pe_lst (h X c)) ?_
  rintro σ H Q ⟨W, ρ, r, ρ', rel, em, q⟩
  unfold mlst at em
  obtain ⟨⟨rs, ρ1⟩, e1, em⟩ := Option.bind_eq_some_iff.mp em
  obtain ⟨⟨ds, ρ2⟩, e2, em⟩ := Option.bind_eq_some_iff.mp em
  obtain ⟨u, e3, em⟩ := Option.bind_eq_some_iff.mp em
  cases em
  refine ⟨W, ρ, rs, ρ1, rel, e1, fun vs H1 p1 f1 => ?_⟩
  obtain ⟨p2, rl⟩ := fzs_ok p1.rel f1 e2
  refine ⟨by rw [rl.length]; exact guardO_dec e3, fun p hp => q _ _ ((p1.trans p2).fin ⟨fresh_upd hp, ?_⟩)⟩
  exact ⟨p, rfl, hp, vs, upd_same, RepL.evo (fresh_evo hp) _ _ rl⟩
def mdnew : ME := fun ρ => some (.new (.dic []), ρ)
theorem de_dnew : DE G S (.Dict [] [] pos) mdnew := by
  intro X c
  refine PE.weak pe_dnewK ?_
  rintro σ H Q ⟨W, ρ, r, ρ', rel, em, q⟩
  cases em
  exact fun p hp => q _ _ ((PostX.refl rel).fin ⟨fresh_upd hp, ⟨p, rfl, hp, [], upd_same, .nil⟩⟩)
theorem de_bm {o : Expr} {name : Str} {T id : String} {apos cpos : Pos} {g : D → List D → Option R} {mo : ME} (pa : PlainAttrs T) (slot : Slot T name id) (hty : typeOf (.builtin id) = pure (.type "method_descriptor")) (hm : ∀ X, CxOk G S X → MtR X id (rDm G.K g))
    (ho : DE G S o mo) (ha : DA G S (e :: es) ms)
    (hbase : ∀ env : PySem.Env, attributeBase o name env (eval o env) = eval o env)
    (hfew : ∀ env : PySem.Env, ((backTo cpos (starEach (e :: es) env)).all (fun x => !x.1) && (backToKw cpos (keywordEach [] env)).all (fun x => x.1.isSome)
      && decide ((e :: es).length + ([] : List Keyword).length + (if ([] : List Keyword).isEmpty then 0 else 1) < 30)) = true)
    (hline : (apos.endLine == cpos.line) = true) (hs : ∀ env : PySem.Env, starEach (e :: es) env = (false, eval e env) :: starEach es env) (hplain : ∀ env : PySem.Env, (backTo cpos (starEach es env)).any (·.1) = false) :
    DE G S (.Call (.Attribute o name apos) (e :: es) [] cpos) (mm T g mo ms) :=
  fun X c => PE.weak (pe_bm pa slot hty (hm X c) (ho X c) (ha X c) (hbase _) (hfew _) hline (hs _) (hplain _)) fun σ H Q q => by
    have z := rdm q
    rw [← c.K] at z ⊢
    exact z
theorem de_ix {g : D → D → Option R} (h : ∀ X, CxOk G S X → IxR X (rD2 G.K g)) (ha : DE G S a ma) (hb : DE G S b mb) (hs : PlainIx b) : DE G S (.Subscript a b pos) (m2 g ma mb) :=
  fun X c => PE.weak (pe_ix (h X c) (ha X c) (hb X c) hs) fun _ _ _ q => rd2 q
abbrev MO := En → Option (Option Int × En)
def rdO (K : PySem.W.Frag) (m : MO) : TO := fun σ H Q => ∃ W ρ r ρ', DRel K W ρ σ H ∧ m ρ = some (r, ρ') ∧ ∀ H', PostX K W ρ σ H ρ' H' → Q r H'
def DO (G : GC) (S : SC) (e : Option Expr) (m : MO) : Prop := ∀ X, CxOk G S X → PO X e (rdO G.K m)
theorem PO.weak {X : Cx} {e : Option Expr} {t t' : TO} (h : PO X e t) (w : ∀ σ H Q, t' σ H Q → t σ H Q) : PO X e t' := ⟨fun p s σ H Q I q => h.run p s σ H Q I (w _ _ _ q)⟩
def monone : MO := fun ρ => some (none, ρ)
def mosome (m : ME) : MO := fun ρ => (m ρ).bind fun x => (x.1.fz.vw x.2).bind fun d => match d with
  | .int i => some (some i, x.2)
  | _ => none
theorem do_none : DO G S none monone := fun X c => PO.weak po_none fun σ H Q ⟨W, ρ, r, ρ', rel, em, q⟩ => by
  cases em
  exact q H (PostX.refl rel)
theorem do_some (h : DE G S e m) : DO G S (some e) (mosome m) := fun X c => PO.weak (po_some (h X c)) fun σ H Q ⟨W, ρ, r, ρ', rel, em, q⟩ => by
  unfold mosome at em
  obtain ⟨⟨ra, ρ1⟩, e1, em⟩ := Option.bind_eq_some_iff.mp em
  obtain ⟨d, e2, em⟩ := Option.bind_eq_some_iff.mp em
  split at em
  · rename_i i
    cases em
    refine ⟨W, ρ, ra, ρ1, rel, e1, fun x H1 p1 => ⟨i, ?_, q H1 p1.toPostX⟩⟩
    exact ((p1.res.fz p1.toPostX rel).read p1.rel e2).int
  · cases em
def msl (g : D → Option Int → Option Int → Option R) (ma : ME) (ml mh : MO) : ME := fun ρ => (ma ρ).bind fun x => (ml x.2).bind fun l => (mh l.2).bind fun h => (x.1.fz.vw h.2).bind fun d => (g d l.1 h.1).bind fun r => some (r, h.2)
theorem de_slice {lo hi : Option Expr} {ml mh : MO} {g : D → Option Int → Option Int → Option R} (h : ∀ X, CxOk G S X → SlR X (rDs G.K g)) (he : DE G S e m) (hl : DO G S lo ml) (hu : DO G S hi mh) : DE G S (.Subscript e (.Slice lo hi none p2) pos) (msl g m ml mh) :=
  fun X c => PE.weak (pe_slice (h X c) (he X c) (hl X c) (hu X c)) fun σ H Q ⟨W, ρ, r, ρ', rel, em, q⟩ => by
    unfold msl at em
    obtain ⟨⟨ra, ρ1⟩, e1, em⟩ := Option.bind_eq_some_iff.mp em
    obtain ⟨⟨l, ρ2⟩, e2, em⟩ := Option.bind_eq_some_iff.mp em
    obtain ⟨⟨u, ρ3⟩, e3, em⟩ := Option.bind_eq_some_iff.mp em
    obtain ⟨d, e4, em⟩ := Option.bind_eq_some_iff.mp em
    obtain ⟨r', e5, em⟩ := Option.bind_eq_some_iff.mp em
    cases em
    refine ⟨W, ρ, ra, ρ1, rel, e1, fun x H1 p1 => ⟨W, ρ1, l, ρ2, p1.rel, e2, fun H2 p2 => ⟨W, ρ2, u, _, p2.rel, e3, fun H3 p3 => ?_⟩⟩⟩
    refine ⟨_, d, r, p3.rel.trk, ?_, e5, fun v H' vp => q v H' (((p1.toPostX.trans p2).trans p3).fin vp)⟩
    exact ((((p1.res.fz p1.toPostX rel).over p1.rel p2).over p2.rel p3).read p3.rel e4)
def truD : D → Option Bool
  | .none => some false
  | .bool b => some b
  | .int i => some (i != 0)
  | .str x => if x.length ≤ sizeLine then some ((x.length : Int) != 0) else none
  | .list xs => some (!xs.isEmpty)
  | .tuple xs => some (!xs.isEmpty)
  | .dict kvs => if isFnD kvs = true then none else some (!kvs.isEmpty)
theorem RepL.empty {K : PySem.W.Frag} {N : Addr → Prop} {H : Hp} {vs : List V} {ds : List D} (h : RepL K N H vs ds) : ds.isEmpty = vs.isEmpty := by cases h <;> rfl
theorem RepK.empty {K : PySem.W.Frag} {N : Addr → Prop} {H : Hp} {vs : List (Key × V)} {ds : List (D × D)} (h : RepK K N H vs ds) : ds.isEmpty = vs.isEmpty := by cases h <;> rfl
theorem SRep.tru {K : PySem.W.Frag} {N : Addr → Prop} {H : Hp} {v : V} {d : D} {k : Bool} (h : SRep K N H v d) (e : truD d = some k) : TruV K v H k := by
  cases d with
  | none => cases e; rw [h.none]; rfl
  | bool b => cases e; rw [h.bool]; rfl
  | int i => cases e; rw [h.int]; rfl
  | str x =>
    have e' : (if x.length ≤ sizeLine then some ((x.length : Int) != 0) else Option.none) = some k := e
    split at e'
    · cases e'; rw [h.str]; exact ⟨by assumption, rfl⟩
    · cases e'
  | list xs => cases e; obtain ⟨a, ys, rfl, h1, h2⟩ := h.list; exact .inl ⟨ys, h1, by rw [h2.empty]⟩
  | tuple xs => cases e; obtain ⟨a, ys, rfl, h1, h2⟩ := h.tuple; exact .inr (.inl ⟨ys, h1.sq, by rw [h2.empty]⟩)
  | dict xs =>
    have e' : (if isFnD xs = true then Option.none else some (!xs.isEmpty)) = some k := e
    split at e'
    · cases e'
    · rename_i hf
      cases e'; obtain ⟨a, ys, rfl, h1, h2⟩ := h.dict (by simpa using hf); exact .inr (.inr ⟨ys, h1, by rw [h2.empty]⟩)
def mtru (m : ME) : MT := fun ρ => (m ρ).bind fun x => (x.1.fz.vw x.2).bind fun d => (truD d).bind fun b => some (b, x.2)
theorem dt_val (h : DE G S e m) (he : ∀ (env : PySem.Env) whole, isTrue e env whole = (do let v ← whole; standAt e.pos; holding [v] (truthy v))) : DT G S e (mtru m) :=
  fun X c => PT.weak (pt_truth (h X c) (he _)) fun σ H Q ⟨W, ρ, r, ρ', rel, em, q⟩ => by
    unfold mtru at em
    obtain ⟨⟨ra, ρ1⟩, e1, em⟩ := Option.bind_eq_some_iff.mp em
    obtain ⟨d, e2, em⟩ := Option.bind_eq_some_iff.mp em
    obtain ⟨b, e3, em⟩ := Option.bind_eq_some_iff.mp em
    cases em
    refine ⟨W, ρ, ra, ρ1, rel, e1, fun x H1 p1 => ⟨r, ?_, q H1 p1.toPostX⟩⟩
    rw [c.K]
    exact ((p1.res.fz p1.toPostX rel).read p1.rel e2).tru e3
def boolR : R → Option Bool
  | .dat (.bool b) => some b
  | _ => none
def mtst (m : ME) : MT := fun ρ => (m ρ).bind fun x => (boolR x.1).bind fun b => some (b, x.2)
theorem boolR_some {r : R} {b : Bool} (h : boolR r = some b) : r = .dat (.bool b) := by
  unfold boolR at h
  split at h
  · cases h; rfl
  · cases h
theorem PostE.boolv {K : PySem.W.Frag} {W : Wd} {ρ ρ' : En} {σ : L2.St} {H H' : Hp} {r : R} {v : V} {b : Bool} (p : PostE K W ρ σ H r ρ' v H') (e : boolR r = some b) : v = .bl b := by
  have z := p.res
  rw [boolR_some e] at z
  cases (show Rep _ _ _ _ _ from z)
  rfl
theorem rdtst {K : PySem.W.Frag} {σ : L2.St} {H : Hp} {Q : Bool → Hp → Prop} (h : rdT K (mtst m) σ H Q) : rd K m σ H fun x H' => ∃ k, x = .bl k ∧ Q k H' := by
  obtain ⟨W, ρ, r, ρ', rel, em, q⟩ := h
  unfold mtst at em
  obtain ⟨⟨ra, ρ1⟩, e1, em⟩ := Option.bind_eq_some_iff.mp em
  obtain ⟨b, e2, em⟩ := Option.bind_eq_some_iff.mp em
  cases em
  refine ⟨W, ρ, ra, ρ1, rel, e1, fun x H1 p1 => ⟨r, ?_, q H1 p1.toPostX⟩⟩
  exact p1.boolv e2
theorem dt_cmp {op : CmpOp} {g : D → D → Option R} (h : ∀ X, CxOk G S X → OpR X (compareOp op) (rD2 G.K g)) (ha : DE G S a ma) (hb : DE G S b mb) (hm : behindInMarks op b = false) : DT G S (.Compare a [op] [b] pos) (mtst (m2 g ma mb)) :=
  fun X c => PT.weak (pt_cmpR (h X c) (ha X c) (hb X c) hm) fun σ H Q q => by
    obtain ⟨W, ρ, r, ρ1, rel, e1, f⟩ := rd2 (Q := fun x H' => ∃ k, x = .bl k ∧ Q k H') (rdtst q)
    exact ⟨W, ρ, r, ρ1, rel, e1, f⟩
def mnot (m : MT) : MT := fun ρ => (m ρ).bind fun x => some (!x.1, x.2)
def mandT (ma mb : MT) : MT := fun ρ => (ma ρ).bind fun x => if x.1 = true then mb x.2 else some (false, x.2)
def morT (ma mb : MT) : MT := fun ρ => (ma ρ).bind fun x => if x.1 = true then some (true, x.2) else mb x.2
theorem dt_not (h : DT G S a mt) : DT G S (.UnaryOp .Not a pos) (mnot mt) := fun X c => PT.weak (pt_not (h X c)) fun σ H Q ⟨W, ρ, r, ρ', rel, em, q⟩ => by
  unfold mnot at em
  obtain ⟨⟨b, ρ1⟩, e1, em⟩ := Option.bind_eq_some_iff.mp em
  cases em
  exact ⟨W, ρ, b, ρ1, rel, e1, fun H1 p1 => q H1 p1⟩
theorem dw_one {op : BoolOp} (h : DT G S a mt) : DW G S (.BoolOp op [a] pos) mt := fun X c => by
  cases op with
  | And => exact PW.weak (pw_and1 (h X c)) fun _ _ _ q => q
  | Or => exact PW.weak (pw_or1 (h X c)) fun _ _ _ q => q
theorem dw_and (ha : DT G S a mt) (hb : DW G S (.BoolOp .And (b :: rest) pos) mu) : DW G S (.BoolOp .And (a :: b :: rest) pos) (mandT mt mu) := fun X c => PW.weak (pw_and (ha X c) (hb X c)) fun σ H Q ⟨W, ρ, r, ρ', rel, em, q⟩ => by
  unfold mandT at em
  obtain ⟨⟨b, ρ1⟩, e1, em⟩ := Option.bind_eq_some_iff.mp em
  refine ⟨W, ρ, b, ρ1, rel, e1, fun H1 p1 => ?_⟩
  cases b with
  | true => rw [if_pos rfl] at em ⊢; exact ⟨W, ρ1, r, ρ', p1.rel, em, fun H2 p2 => q H2 (p1.trans p2)⟩
  | false => rw [if_neg Bool.false_ne_true] at em ⊢; cases em; exact q H1 p1
theorem dw_or (ha : DT G S a mt) (hb : DW G S (.BoolOp .Or (b :: rest) pos) mu) : DW G S (.BoolOp .Or (a :: b :: rest) pos) (morT mt mu) := fun X c => PW.weak (pw_or (ha X c) (hb X c)) fun σ H Q ⟨W, ρ, r, ρ', rel, em, q⟩ => by
  unfold morT at em
  obtain ⟨⟨b, ρ1⟩, e1, em⟩ := Option.bind_eq_some_iff.mp em
  refine ⟨W, ρ, b, ρ1, rel, e1, fun H1 p1 => ?_⟩
  cases b with
  | true => rw [if_pos rfl] at em ⊢; cases em; exact q H1 p1
  | false => rw [if_neg Bool.false_ne_true] at em ⊢; exact ⟨W, ρ1, r, ρ', p1.rel, em, fun H2 p2 => q H2 (p1.trans p2)⟩
theorem dt_w (h : DW G S a mt) : DT G S a mt := fun X c => (h X c).pt
def mandV (ma mb : ME) : ME := fun ρ => (ma ρ).bind fun x => (boolR x.1).bind fun b => if b = true then mb x.2 else some (.dat (.bool false), x.2)
def morV (ma mb : ME) : ME := fun ρ => (ma ρ).bind fun x => (boolR x.1).bind fun b => if b = true then some (.dat (.bool true), x.2) else mb x.2
theorem de_one {op : BoolOp} (h : DE G S a ma) : DE G S (.BoolOp op [a] pos) ma := fun X c => pe_one (h X c)
theorem PostE.over {K : PySem.W.Frag} {W : Wd} {ρ ρ1 ρ2 : En} {σ : L2.St} {H H1 H2 : Hp} {r : R} {v : V} (p : PostX K W ρ σ H ρ1 H1) (q : PostE K W ρ1 σ H1 r ρ2 v H2) : PostE K W ρ σ H r ρ2 v H2 := by
  refine ⟨p.trans q.toPostX, ?_, q.relE⟩
  have z := q.res
  cases r with
  | dat d => exact z
  | new b => obtain ⟨a, h1, h2, h3⟩ := z; exact ⟨a, h1, p.free h2, h3⟩
  | ref i => exact z
theorem de_and (ha : DE G S a ma) (hb : DE G S (.BoolOp .And (b :: rest) pos) mb) : DE G S (.BoolOp .And (a :: b :: rest) pos) (mandV ma mb) := fun X c => PE.weak (pe_and (ha X c) (hb X c)) fun σ H Q ⟨W, ρ, r, ρ', rel, em, q⟩ => by
  unfold mandV at em
  obtain ⟨⟨ra, ρ1⟩, e1, em⟩ := Option.bind_eq_some_iff.mp em
  obtain ⟨b, e2, em⟩ := Option.bind_eq_some_iff.mp em
  refine ⟨W, ρ, ra, ρ1, rel, e1, fun x H1 p1 => ⟨b, ?_, ?_⟩⟩
  · exact p1.boolv e2
  · cases b with
    | true => rw [if_pos rfl] at em ⊢; exact ⟨W, ρ1, r, ρ', p1.rel, em, fun v H2 p2 => q v H2 (PostE.over p1.toPostX p2)⟩
    | false => rw [if_neg Bool.false_ne_true] at em ⊢; cases em; exact q _ H1 ⟨p1.toPostX, .bl false, p1.rel.pl0 fun _ z => z⟩
theorem de_or (ha : DE G S a ma) (hb : DE G S (.BoolOp .Or (b :: rest) pos) mb) : DE G S (.BoolOp .Or (a :: b :: rest) pos) (morV ma mb) := fun X c => PE.weak (pe_or (ha X c) (hb X c)) fun σ H Q ⟨W, ρ, r, ρ', rel, em, q⟩ => by
  unfold morV at em
  obtain ⟨⟨ra, ρ1⟩, e1, em⟩ := Option.bind_eq_some_iff.mp em
  obtain ⟨b, e2, em⟩ := Option.bind_eq_some_iff.mp em
  refine ⟨W, ρ, ra, ρ1, rel, e1, fun x H1 p1 => ⟨b, ?_, ?_⟩⟩
  · exact p1.boolv e2
  · cases b with
    | true => rw [if_pos rfl] at em ⊢; cases em; exact q _ H1 ⟨p1.toPostX, .bl true, p1.rel.pl0 fun _ z => z⟩
    | false => rw [if_neg Bool.false_ne_true] at em ⊢; exact ⟨W, ρ1, r, ρ', p1.rel, em, fun v H2 p2 => q v H2 (PostE.over p1.toPostX p2)⟩
theorem de_if (hc : DT G S c mt) (ha : DE G S a ma) (hb : DE G S b mb) : DE G S (.IfExp c a b pos) (mif mt ma mb) := fun X cx => PE.weak (pe_ifExp (hc X cx) (ha X cx) (hb X cx)) fun σ H Q ⟨W, ρ, r, ρ', rel, em, q⟩ => by
  unfold mif at em
  obtain ⟨⟨b, ρ1⟩, e1, em⟩ := Option.bind_eq_some_iff.mp em
  refine ⟨W, ρ, b, ρ1, rel, e1, fun H1 p1 => ?_⟩
  cases b with
  | true => rw [if_pos rfl] at em ⊢; exact ⟨W, ρ1, r, ρ', p1.rel, em, fun v H2 p2 => q v H2 (PostE.over p1 p2)⟩
  | false => rw [if_neg Bool.false_ne_true] at em ⊢; exact ⟨W, ρ1, r, ρ', p1.rel, em, fun v H2 p2 => q v H2 (PostE.over p1 p2)⟩
end
end L3
namespace L3
open PySem PySem.Spec PyProof.Rows L2
structure FnG (G : GC) (k : Nat) (f : Addr) (fd : FuncData) (ps : List Str) (sp : Sp) : Prop where
  len : ∀ vs H Q E, sp vs H Q E → vs.length = ps.length
  run : ∀ (A : Around) (outer : List PySem.Env) (s : Shared) (H : Hp) (args : Args) (us : List Value) (vs : List V) (Q : VK) (E : XK), Room k A → A.guards = some [] → Env0 G.prog G.w G.K G.mg G.base A outer s H → BindsTo s fd args (ps.zip us) → Vals vs us → sp vs H Q E →
    codeAny (model G.prog G.w) A (.call (.ref f) args) (CR CX0 outer G.prog G.w H s Q E) s
theorem FnG.mono {G : GC} {j k : Nat} {f : Addr} {fd : FuncData} {ps : List Str} {sp : Sp} (F : FnG G j f fd ps sp) (h : j ≤ k) : FnG G k f fd ps sp :=
  ⟨F.len, fun A outer s H args us vs Q E hr => F.run A outer s H args us vs Q E (hr.mono h)⟩
section
variable {X : Cx} {G : GC} {k : Nat} {f : Addr} {fd : FuncData} {ps : List Str} {sp : Sp} {x : Str} {p pos : Pos} {e : Expr} {es : List Expr} {t : TA}
theorem run_fnG {pins : List (Addr × Obj)} {σ : L2.St} {H : Hp} {s : Shared} {Q : VK} {us : List Value} {vs : List V} (F : FnG ⟨X.prog, X.w, X.K, X.mg, X.base⟩ k f fd ps sp) (hr : Room k X.A) (hgd : X.A.guards = some []) (hb : Binds X.K fd ps [])
    (I : Inv X pins σ H s) (r : Vals vs us) (h : sp vs H Q E0) : wpAny (model X.prog X.w) X.A (call (.ref f) us) (EP X pins σ Q) X.xe s := by
  have hl : (us ++ []).length = ps.length := by rw [List.append_nil, ← r.length]; exact F.len _ _ _ _ h
  have hb' : BindsTo s fd ⟨us, []⟩ (ps.zip us) := by
    have := hb s us I.kIn hl
    rw [List.append_nil] at this
    exact this
  refine wpAny_call (codeAny_mono (F.run X.A X.stack s H ⟨us, []⟩ us vs Q E0 hr hgd I.env0 hb' r h) fun r s' hq => ?_)
  cases r with
  | error e => exact False.elim hq
  | ok fl =>
    cases fl with
    | ret u => exact I.after hq
    | next => exact False.elim hq
    | brk => exact False.elim hq
    | cont => exact False.elim hq
theorem pe_callG (F : FnG ⟨X.prog, X.w, X.K, X.mg, X.base⟩ k f fd ps sp) (hr : Room k X.A) (hgd : X.A.guards = some []) (hg : Gl X x) (hm : X.mg x = some (.ref f)) (hk : PySem.W.keepIn X.K (.ref f) = true) (hb : Binds X.K fd ps [])
    (ha : PA X (e :: es) t) (hdb : (x == ("__debug__" : Str)) = false) (he : starEach (e :: es) X.env = (false, eval e X.env) :: starEach es X.env) (hpl : (backTo pos (starEach es X.env)).any (·.1) = false) :
    PE X (.Call (.Name x p) (e :: es) [] pos) (tCB (fun vs H Q => sp vs H Q E0) t) := by
  refine ⟨fun pins s σ H Q I h => ?_⟩
  refine wpAny_Call_Name_kw (ld_glob I hg hm ?_ hdb)
  refine PySem.W.callWith_K (h₀ := X.base) I.ok.mod.kin hk (thn (ha.run pos pins s σ H _ I h) fun us s1 ⟨vs, H1, I1, r, q⟩ => ⟨I1.kIn, ?_⟩) he hpl
  exact run_fnG F hr hgd hb I1 r q
end
abbrev MF := List A → Option (R × List A)
structure PostF (K : PySem.W.Frag) (W : Wd) (outs : List A) (vs : List V) (H : Hp) (r : R) (v : V) (H' : Hp) : Prop where
  rel : DRel K (W.pl (exR r v)) (outs.map some) (vs.map some) H'
  res : VRes K (Av W.P (outs.map some) (vs.map some)) H H' v r
def isBx : A → Bool
  | .box _ _ => true
  | .dat _ => false
def spM (K : PySem.W.Frag) (n : Nat) (m : MF) : Sp := fun vs H Q _ => ∃ W as r outs, as.length = n ∧ DRel K W (as.map some) (vs.map some) H ∧ W.H0 = H ∧ (∀ (i : Nat) b, as[i]? ≠ some (A.box true b)) ∧ (∀ a, W.PB a → BoxAt (as.map some) (vs.map some) a) ∧ m as = some (r, outs) ∧
  as.map isBx = outs.map isBx ∧ ∀ v H', PostF K W outs vs H r v H' → Q v H'
def argA (ρ : En) : R → Option A
  | .dat d => some (.dat d)
  | .new _ => none
  | .ref i => (ρ[i]?.join).map fun a => match a with
    | .dat d => .dat d
    | .box _ b => .box false b
def argAs (ρ : En) : List R → Option (List A)
  | [] => some []
  | r :: rs => (argA ρ r).bind fun a => (argAs ρ rs).map fun as => a :: as
/-- the slots of the boxes that are handed over -/
def bxIx (ρ : En) : List R → List Nat
  | [] => []
  | .ref i :: rs => match ρ[i]?.join with
    | some (.box _ _) => i :: bxIx ρ rs
    | _ => bxIx ρ rs
  | _ :: rs => bxIx ρ rs
def newC : List R → List A → Nat → Option Bx
  | .ref j :: rs, .box _ b :: as, i => if j = i then some b else newC rs as i
  | _ :: rs, _ :: as, i => newC rs as i
  | _, _, _ => none
def backA (c : Option Bx) : Option A → Option A
  | some (.box o b) => some (.box o (c.getD b))
  | a => a
def back (ρ : En) (rs : List R) (outs : List A) : En := ρ.mapIdx fun i a => backA (newC rs outs i) a
def mcall (m : MF) (ms : MA) : ME := fun ρ => (ms ρ).bind fun x => (argAs x.2 x.1).bind fun as => (guardO (decide (bxIx x.2 x.1).Nodup)).bind fun _ => (m as).bind fun y =>
  (guardO (decide (as.map isBx = y.2.map isBx))).bind fun _ => some (y.1, back x.2 x.1 y.2)
theorem argAs_get {ρ : En} : ∀ {rs : List R} {as : List A}, argAs ρ rs = some as → rs.length = as.length ∧ ∀ (j : Nat) a, as[j]? = some a → ∃ r, rs[j]? = some r ∧ argA ρ r = some a
  | [], _, h => by cases h; exact ⟨rfl, fun j a e => by simp at e⟩
  | r :: rs, _, h => by
    unfold argAs at h
    obtain ⟨a, e1, h⟩ := Option.bind_eq_some_iff.mp h
    obtain ⟨as, e2, h⟩ := Option.map_eq_some_iff.mp h
    cases h
    obtain ⟨h1, h2⟩ := argAs_get e2
    refine ⟨by simp [h1], fun j x e => ?_⟩
    cases j with
    | zero => simp at e; subst e; exact ⟨r, rfl, e1⟩
    | succ j => exact h2 j x (by simpa using e)
theorem argA_box {ρ : En} {r : R} {o : Bool} {b : Bx} (h : argA ρ r = some (.box o b)) : ∃ i o', r = .ref i ∧ ρ[i]? = some (some (.box o' b)) ∧ o = false := by
  cases r with
  | dat d => cases h
  | new d => cases h
  | ref i =>
    obtain ⟨a, e1, e2⟩ := Option.map_eq_some_iff.mp (show (ρ[i]?.join).map _ = _ from h)
    have e3 : ρ[i]? = some (some a) := Option.join_eq_some_iff.mp e1
    cases a with
    | dat d => cases e2
    | box o' b' => cases e2; exact ⟨i, o', rfl, e3, rfl⟩
theorem argA_dat {ρ : En} {r : R} {d : D} (h : argA ρ r = some (.dat d)) : r = .dat d ∨ ∃ i, r = .ref i ∧ ρ[i]? = some (some (.dat d)) := by
  cases r with
  | dat d => cases h; exact .inl rfl
  | new d => cases h
  | ref i =>
    obtain ⟨a, e1, e2⟩ := Option.map_eq_some_iff.mp (show (ρ[i]?.join).map _ = _ from h)
    have e3 : ρ[i]? = some (some a) := Option.join_eq_some_iff.mp e1
    cases a with
    | dat d' => cases e2; exact .inr ⟨i, rfl, e3⟩
    | box o' b' => cases e2
theorem mem_bxIx {ρ : En} {i : Nat} {o : Bool} {b : Bx} (h : ρ[i]? = some (some (.box o b))) : ∀ {rs : List R}, R.ref i ∈ rs → i ∈ bxIx ρ rs
  | r :: rs, hm => by
    rcases List.mem_cons.mp hm with e | hm
    · subst e
      unfold bxIx
      rw [show ρ[i]?.join = some (A.box o b) by rw [h]; rfl]
      exact List.mem_cons_self
    · have ih := mem_bxIx (rs := rs) h hm
      cases r with
      | dat d => exact ih
      | new d => exact ih
      | ref j =>
        unfold bxIx
        split
        · exact List.mem_cons_of_mem _ ih
        · exact ih
theorem bxIx_inj {ρ : En} {i : Nat} {o : Bool} {b : Bx} (h : ρ[i]? = some (some (.box o b))) : ∀ {rs : List R}, (bxIx ρ rs).Nodup → ∀ {j k : Nat}, rs[j]? = some (R.ref i) → rs[k]? = some (R.ref i) → j = k
  | [], _, j, _, e, _ => by simp at e
  | r :: rs, nd, j, k, e1, e2 => by
    have nd' : (bxIx ρ rs).Nodup := by
      cases r with
      | dat d => exact nd
      | new d => exact nd
      | ref j =>
        unfold bxIx at nd
        split at nd
        · exact (List.nodup_cons.mp nd).2
        · exact nd
    have hd : r = .ref i → i ∉ bxIx ρ rs := fun e => by
      subst e
      unfold bxIx at nd
      rw [show ρ[i]?.join = some (A.box o b) by rw [h]; rfl] at nd
      exact (List.nodup_cons.mp nd).1
    cases j with
    | zero =>
      cases k with
      | zero => rfl
      | succ k =>
        simp at e1 e2
        exact absurd (mem_bxIx h (List.mem_of_getElem? e2)) (hd e1)
    | succ j =>
      cases k with
      | zero =>
        simp at e1 e2
        exact absurd (mem_bxIx h (List.mem_of_getElem? e1)) (hd e2)
      | succ k => rw [bxIx_inj h nd' (j := j) (k := k) (by simpa using e1) (by simpa using e2)]
theorem newC_some : ∀ {rs : List R} {outs : List A} {i : Nat} {b : Bx}, newC rs outs i = some b → ∃ (j : Nat) (o : Bool), rs[j]? = some (R.ref i) ∧ outs[j]? = some (A.box o b)
  | [], _, _, _, h => by simp [newC] at h
  | _ :: _, [], _, _, h => by simp [newC] at h
  | r :: rs, a :: as, i, b, h => by
    have step : newC rs as i = some b → ∃ (j : Nat) (o : Bool), (r :: rs)[j]? = some (R.ref i) ∧ (a :: as)[j]? = some (A.box o b) := fun q => by
      obtain ⟨j, o, h1, h2⟩ := newC_some q
      exact ⟨j + 1, o, by simpa using h1, by simpa using h2⟩
    cases r with
    | dat d => exact step (by simpa [newC] using h)
    | new d => exact step (by simpa [newC] using h)
    | ref j =>
      cases a with
      | dat d => exact step (by simpa [newC] using h)
      | box o b' =>
        unfold newC at h
        split at h
        · rename_i e; subst e; cases h; exact ⟨0, o, rfl, rfl⟩
        · exact step h
theorem newC_none : ∀ {rs : List R} {outs : List A} {i : Nat}, newC rs outs i = none → ∀ (j : Nat) (o : Bool) (b : Bx), rs[j]? = some (R.ref i) → outs[j]? ≠ some (A.box o b)
  | [], _, _, _, j, _, _, e => by simp at e
  | _ :: _, [], _, _, j, _, _, _ => by simp
  | r :: rs, a :: as, i, h, j, o, b, e => by
    have hn : newC rs as i = none ∧ ¬ (r = .ref i ∧ ∃ o b, a = .box o b) := by
      cases r with
      | dat d => exact ⟨by simpa [newC] using h, fun z => by cases z.1⟩
      | new d => exact ⟨by simpa [newC] using h, fun z => by cases z.1⟩
      | ref k =>
        cases a with
        | dat d => exact ⟨by simpa [newC] using h, fun z => by obtain ⟨_, _, _, z⟩ := z; cases z⟩
        | box o b' =>
          unfold newC at h
          split at h
          · cases h
          · rename_i ne; exact ⟨h, fun z => ne (by cases z.1; rfl)⟩
    cases j with
    | zero =>
      simp at e ⊢
      intro q
      exact hn.2 ⟨e, o, b, q⟩
    | succ j =>
      have := newC_none hn.1 j o b (by simpa using e)
      simpa using this
theorem back_get {ρ : En} {rs : List R} {outs : List A} {i : Nat} : (back ρ rs outs)[i]? = (ρ[i]?).map (backA (newC rs outs i)) := by
  unfold back
  rw [List.getElem?_mapIdx]
theorem isBx_at {as outs : List A} (h : as.map isBx = outs.map isBx) {j : Nat} {a : A} (e : as[j]? = some a) : ∃ b, outs[j]? = some b ∧ isBx b = isBx a := by
  have q := congrArg (·[j]?) h
  simp only [List.getElem?_map, e, Option.map_some] at q
  obtain ⟨b, h1, h2⟩ := Option.map_eq_some_iff.mp q.symm
  exact ⟨b, h1, h2⟩
theorem isBx_box {a : A} (h : isBx a = true) : ∃ o b, a = .box o b := by
  cases a with
  | dat d => cases h
  | box o b => exact ⟨o, b, rfl⟩
theorem Paired.get? {α β : Type} {F : α → β → Prop} : ∀ {l : List α} {m : List β}, Paired F l m → ∀ {i : Nat} {x : α}, l[i]? = some x → ∃ y, m[i]? = some y ∧ F x y
  | _, _, .nil, _, _, e => by simp at e
  | _, _, .cons r _, 0, _, e => by simp at e; subst e; exact ⟨_, rfl, r⟩
  | _, _, .cons _ t, i + 1, _, e => by
    obtain ⟨y, h1, h2⟩ := Paired.get? t (i := i) (by simpa using e)
    exact ⟨y, by simpa using h1, h2⟩
theorem map_some_get {α : Type} {l : List α} {i : Nat} {x : α} (h : (l.map some)[i]? = some (some x)) : l[i]? = some x := by
  rw [List.getElem?_map] at h
  obtain ⟨y, h1, h2⟩ := Option.map_eq_some_iff.mp h
  cases h2; exact h1
theorem map_some_get' {α : Type} {l : List α} {i : Nat} {x : α} (h : l[i]? = some x) : (l.map some)[i]? = some (some x) := by
  rw [List.getElem?_map, h]; rfl
section
variable {K : PySem.W.Frag} {W : Wd} {ρ : En} {σ : L2.St} {H : Hp} {rs : List R} {vs : List V} {as outs : List A}
/-- the callee's world -/
def calW (W : Wd) (ρ : En) (σ : L2.St) (H : Hp) (as : List A) (vs : List V) : Wd where
  P := fun a => Av W.P ρ σ a ∧ ¬ ∃ (j : Nat) (o : Bool) (b : Bx), as[j]? = some (.box o b) ∧ vs[j]? = some (.ref a)
  B := fun j => match as[j]?, vs[j]? with
    | some (.box _ _), some (.ref q) => some q
    | _, _ => none
  H0 := H
theorem cal_slot (f : FRels K (Av W.P ρ σ) ρ σ H rs vs) (e : argAs ρ rs = some as) {j : Nat} {o : Bool} {b : Bx} (h : as[j]? = some (.box o b)) : ∃ i o' v, rs[j]? = some (.ref i) ∧ ρ[i]? = some (some (.box o' b)) ∧ vs[j]? = some v ∧ σ[i]? = some (some v) ∧ o = false := by
  obtain ⟨r, h1, h2⟩ := (argAs_get e).2 j _ h
  obtain ⟨i, o', rfl, h3, h4⟩ := argA_box h2
  obtain ⟨v, h5, h6⟩ := Paired.get? f h1
  exact ⟨i, o', v, h1, h3, h5, h6.1, h4⟩
theorem call_in (rel : DRel K W ρ σ H) (f : FRels K (Av W.P ρ σ) ρ σ H rs vs) (e : argAs ρ rs = some as) (nd : (bxIx ρ rs).Nodup) : DRel K (calW W ρ σ H as vs) (as.map some) (vs.map some) H := by
  have hl : as.length = vs.length := by rw [← (argAs_get e).1]; exact Paired.length f
  have avs : ∀ a, Av (calW W ρ σ H as vs).P (as.map some) (vs.map some) a → Av W.P ρ σ a := fun a z => by
    rcases z with z | ⟨j, o, b, e1, e2⟩
    · exact z.1
    · obtain ⟨i, o', v, h1, h2, h3, h4, _⟩ := cal_slot f e (map_some_get e1)
      have := map_some_get e2
      rw [h3] at this; cases this
      exact .inr ⟨i, o', b, h2, h4⟩
  have ev : Evo (Av W.P ρ σ) H (Av (calW W ρ σ H as vs).P (as.map some) (vs.map some)) H := mono_av avs
  refine ⟨by simp [hl], fun j a e1 => ?_, fun j k o b o' b' q e1 e2 e3 e4 => ?_, fun q z => rel.avThere z.1, fun q z ⟨j, o, b, e1, e2⟩ => z.2 ⟨j, o, b, map_some_get e1, map_some_get e2⟩, fun _ _ h _ => h, fun _ o h => ⟨o, h⟩⟩
  · have e1 := map_some_get e1
    cases a with
    | dat d =>
      obtain ⟨r, h1, h2⟩ := (argAs_get e).2 j _ e1
      obtain ⟨v, h5, h6⟩ := Paired.get? f h1
      refine ⟨v, map_some_get' h5, ?_⟩
      rcases argA_dat h2 with rfl | ⟨i, rfl, h3⟩
      · exact Rep.evo ev _ _ h6
      · obtain ⟨v', hv', rr⟩ := rel.sl i _ h3
        rw [h6.1] at hv'; cases hv'
        exact Rep.evo ev _ _ rr
    | box o b =>
      obtain ⟨i, o', v, h1, h2, h3, h4, ho⟩ := cal_slot f e e1
      subst ho
      obtain ⟨q, hq, bo, _⟩ := rel.boxOk h2
      rw [h4] at hq; cases hq
      refine ⟨_, map_some_get' h3, q, rfl, bo.evo ev fun _ z => z, ?_⟩
      show (match as[j]?, vs[j]? with | some (A.box _ _), some (V.ref q) => some q | _, _ => none) = some q
      rw [e1, h3]
  · have e1 := map_some_get e1
    have e2 := map_some_get e2
    have e3 := map_some_get e3
    have e4 := map_some_get e4
    obtain ⟨i, o1, v, h1, h2, h3, h4, _⟩ := cal_slot f e e1
    obtain ⟨i', o1', v', h1', h2', h3', h4', _⟩ := cal_slot f e e2
    rw [e3] at h3; cases h3
    rw [e4] at h3'; cases h3'
    have := rel.dis i i' _ _ _ _ q h2 h2' h4 h4'
    subst this
    exact bxIx_inj h2 nd h1 h1'
theorem call_out {H' : Hp} {r : R} {v : V} (rel : DRel K W ρ σ H) (f : FRels K (Av W.P ρ σ) ρ σ H rs vs) (e : argAs ρ rs = some as) (nd : (bxIx ρ rs).Nodup) (hs : as.map isBx = outs.map isBx)
    (p : PostF K (calW W ρ σ H as vs) outs vs H r v H') : PostE K W ρ σ H r (back ρ rs outs) v H' := by
  have hl : as.length = vs.length := by rw [← (argAs_get e).1]; exact Paired.length f
  -- the boxes are where they were
  have bget : ∀ (i : Nat) (o : Bool) (b : Bx), (back ρ rs outs)[i]? = some (some (.box o b)) → ∃ b0, ρ[i]? = some (some (.box o b0)) ∧ b = (newC rs outs i).getD b0 := fun i o b z => by
    rw [back_get] at z
    obtain ⟨a, h1, h2⟩ := Option.map_eq_some_iff.mp z
    cases a with
    | none => cases h2
    | some a => cases a with
      | dat d => cases h2
      | box o' b' => cases h2; exact ⟨b', h1, rfl⟩
  have dget : ∀ (i : Nat) (d : D), (back ρ rs outs)[i]? = some (some (.dat d)) → ρ[i]? = some (some (.dat d)) := fun i d z => by
    rw [back_get] at z
    obtain ⟨a, h1, h2⟩ := Option.map_eq_some_iff.mp z
    cases a with
    | none => cases h2
    | some a => cases a with
      | dat d' => cases h2; exact h1
      | box o' b' => cases h2
  have sub : ∀ q, BoxAt (back ρ rs outs) σ q → BoxAt ρ σ q := fun q ⟨i, o, b, e1, e2⟩ => by
    obtain ⟨b0, h1, _⟩ := bget i o b e1
    exact ⟨i, o, b0, h1, e2⟩
  -- what is handed over, by address
  have pbBox : ∀ a, (calW W ρ σ H as vs).PB a → BoxAt ρ σ a := fun a ⟨j, z⟩ => by
    have z' : (match as[j]?, vs[j]? with | some (A.box _ _), some (V.ref q) => some q | _, _ => none) = some a := z
    split at z'
    · rename_i o b q h1 h2
      cases z'
      obtain ⟨i, o', v, h3, h4, h5, h6, _⟩ := cal_slot f e h1
      rw [h2] at h5; cases h5
      exact ⟨i, o', b, h4, h6⟩
    · cases z'
  have exf : ∀ a, exR r v a → H a = none ∧ ∃ o, H' a = some o := fun a z => by
    have y := p.res
    cases r with
    | dat d => exact z.elim
    | new b => obtain ⟨q, h1, h2, h3⟩ := y; cases h1; cases z; exact ⟨h2, h3.there⟩
    | ref i => exact z.elim
  have avs : ∀ a, Av W.P (back ρ rs outs) σ a → Av (calW W ρ σ H as vs).P (outs.map some) (vs.map some) a := fun a z => by
    have z0 : Av W.P ρ σ a := z.imp id (sub a)
    by_cases hp : ∃ (j : Nat) (o : Bool) (b : Bx), as[j]? = some (.box o b) ∧ vs[j]? = some (.ref a)
    · obtain ⟨j, o, b, h1, h2⟩ := hp
      obtain ⟨c, h3, h4⟩ := isBx_at hs h1
      obtain ⟨o', b', rfl⟩ := isBx_box h4
      exact .inr ⟨j, o', b', map_some_get' h3, map_some_get' h2⟩
    · exact .inl ⟨z0, hp⟩
  have keep : ∀ a o, H a = some o → ¬ Av W.P ρ σ a → H' a = some o := fun a o h n => p.rel.keep a o h fun z => n (.inr (pbBox a z))
  have avs2 : ∀ a, Av (W.pl (exR r v)).P (back ρ rs outs) σ a → Av ((calW W ρ σ H as vs).pl (exR r v)).P (outs.map some) (vs.map some) a := fun a z => by
    rcases z with (z | z) | z
    · exact (avs a (.inl z)).imp .inl id
    · exact .inl (.inr z)
    · exact (avs a (.inr z)).imp .inl id
  have ev : Evo (Av W.P ρ σ) H (Av (W.pl (exR r v)).P (back ρ rs outs) σ) H' := ⟨keep, fun a z => by
    rcases z with (z | z) | z
    · exact .inl (.inl z)
    · exact .inr (exf a z).1
    · exact .inl (.inr (sub a z))⟩
  have ev2 : Evo (Av ((calW W ρ σ H as vs).pl (exR r v)).P (outs.map some) (vs.map some)) H' (Av (W.pl (exR r v)).P (back ρ rs outs) σ) H' := mono_av avs2
  have lenb : (back ρ rs outs).length = ρ.length := by unfold back; simp
  -- a box that is not handed over
  have stays : ∀ {i : Nat} {o : Bool} {b0 : Bx} {q : Addr}, ρ[i]? = some (some (.box o b0)) → σ[i]? = some (some (.ref q)) → newC rs outs i = none → ∀ o', H q = some o' → H' q = some o' := fun {i o b0 q} h1 h2 h3 o' h4 => by
    refine p.rel.keep q o' h4 fun z => ?_
    obtain ⟨j, z⟩ := z
    have z' : (match as[j]?, vs[j]? with | some (A.box _ _), some (V.ref q) => some q | _, _ => none) = some q := z
    split at z'
    · rename_i ow b1 q1 h5 h6
      cases z'
      obtain ⟨i', o1, v, h7, h8, h9, h10, _⟩ := cal_slot f e h5
      rw [h6] at h9; cases h9
      have : i' = i := rel.dis i' i _ _ _ _ q h8 h1 h10 h2
      subst this
      obtain ⟨c, h11, h12⟩ := isBx_at hs h5
      obtain ⟨o2, b2, rfl⟩ := isBx_box h12
      exact newC_none h3 j o2 b2 h7 h11
    · cases z'
  have content : ∀ {i : Nat} {o : Bool} {b0 : Bx} {q : Addr}, ρ[i]? = some (some (.box o b0)) → σ[i]? = some (some (.ref q)) → BoxOk K (Av W.P ρ σ) H q b0 → BoxOk K (Av (W.pl (exR r v)).P (back ρ rs outs) σ) H' q ((newC rs outs i).getD b0) := fun {i o b0 q} h1 h2 bo => by
    cases hc : newC rs outs i with
    | none => exact bo.evo ev (stays h1 h2 hc)
    | some b =>
      obtain ⟨j, o', h3, h4⟩ := newC_some hc
      obtain ⟨vj, h5, h6⟩ := p.rel.sl j _ (map_some_get' h4)
      have h5 := map_some_get h5
      obtain ⟨v2, h7, h8⟩ := Paired.get? f h3
      rw [h5] at h7; cases h7
      have h9 : σ[i]? = some (some vj) := h8.1
      rw [h2] at h9; cases h9
      cases o' with
      | true => obtain ⟨q', h10, h11, _⟩ := h6; cases h10; exact h11.evo ev2 fun _ z => z
      | false => obtain ⟨q', h10, h11, _⟩ := h6; cases h10; exact h11.evo ev2 fun _ z => z
  have x : DRel K (W.pl (exR r v)) (back ρ rs outs) σ H' := by
    refine ⟨by rw [lenb]; exact rel.len, fun i a e1 => ?_, fun i j o b o' b' q e1 e2 => ?_, fun q z => ?_, fun q z y => ?_, fun a o h n => ?_, fun a o h => ?_⟩
    · cases a with
      | dat d =>
        obtain ⟨v, hv, r⟩ := rel.sl i _ (dget i d e1)
        exact ⟨v, hv, Rep.evo ev _ _ r⟩
      | box o b =>
        obtain ⟨b0, h1, rfl⟩ := bget i o b e1
        obtain ⟨q, hq, bo, _, z1, z2⟩ := rel.boxOk h1
        refine ⟨_, hq, ?_⟩
        cases o with
        | true => exact ⟨q, rfl, content h1 hq bo, z1 rfl⟩
        | false => exact ⟨q, rfl, content h1 hq bo, z2 rfl⟩
    · obtain ⟨b0, h1, _⟩ := bget i o b e1
      obtain ⟨b1, h2, _⟩ := bget j o' b' e2
      exact rel.dis i j _ _ _ _ q h1 h2
    · rcases z with z | z
      · obtain ⟨o, h⟩ := rel.prot q z
        exact p.rel.there q o h
      · exact (exf q z).2
    · rcases z with z | z
      · exact rel.pdis q z (sub q y)
      · obtain ⟨o, h⟩ := rel.boxThere (sub q y)
        rw [(exf q z).1] at h; cases h
    · refine p.rel.keep a o (rel.keep a o h n) fun z => ?_
      rcases rel.pb (pbBox a z) with z | z
      · have h' : W.H0 a = some o := h
        rw [z] at h'; cases h'
      · exact n z
    · obtain ⟨o', h'⟩ := rel.there a o h
      exact p.rel.there a o' h'
  refine ⟨⟨⟨x.unpl, fun a o h n => p.rel.keep a o h fun z => n (pbBox a z), fun a o h => p.rel.there a o h, fun q z => .inl (sub q z)⟩, fun i a h => ?_, sub⟩, ?_, x⟩
  · rw [back_get, h]
    cases a with
    | dat d => exact ⟨_, rfl⟩
    | box o b => exact ⟨_, rfl⟩
  have z := p.res
  cases r with
  | dat d => exact Rep.evo (mono_av avs) _ _ z
  | new b =>
    obtain ⟨q, h1, h2, h3⟩ := z
    exact ⟨q, h1, h2, h3.evo (mono_av fun a z => z.imp (avs a) id) fun _ z => z⟩
  | ref i => exact z.elim
end
theorem calPB {W : Wd} {ρ : En} {σ : L2.St} {H : Hp} {as : List A} {vs : List V} {a : Addr} (h : (calW W ρ σ H as vs).PB a) : BoxAt (as.map some) (vs.map some) a := by
  obtain ⟨j, z⟩ := h
  have z' : (match as[j]?, vs[j]? with | some (A.box _ _), some (V.ref q) => some q | _, _ => none) = some a := z
  split at z'
  · rename_i o b q h1 h2
    cases z'
    exact ⟨j, o, b, map_some_get' h1, map_some_get' h2⟩
  · cases z'
theorem de_call {G : GC} {S : SC} {f : Addr} {fd : FuncData} {ps : List Str} {m : MF} {x : Str} {p pos : Pos} {e : Expr} {es : List Expr} {ms : MA} {k : Nat} (F : FnG G k f fd ps (spM G.K ps.length m)) (hk : k ≤ S.k)
    (hg : S.sc.names.lookup x = some .globalImplicit) (hm : G.mg x = some (.ref f)) (hkp : PySem.W.keepIn G.K (.ref f) = true) (hb : Binds G.K fd ps [])
    (ha : DA G S (e :: es) ms) (hdb : (x == ("__debug__" : Str)) = false) (he : ∀ env : PySem.Env, starEach (e :: es) env = (false, eval e env) :: starEach es env) (hpl : ∀ env : PySem.Env, (backTo pos (starEach es env)).any (·.1) = false)
    (hn : (e :: es).length = ps.length) (hms : ∀ ρ x, ms ρ = some x → x.1.length = (e :: es).length) :
    DE G S (.Call (.Name x p) (e :: es) [] pos) (mcall m ms) := by
  intro X c
  have eG : (⟨X.prog, X.w, X.K, X.mg, X.base⟩ : GC) = G := by
    obtain ⟨gp, gw, gK, gmg, gb⟩ := G
    have h1 := c.prog; have h2 := c.w; have h3 := c.K; have h4 := c.mg; have h5 := c.base
    simp only at h1 h2 h3 h4 h5
    rw [h1, h2, h3, h4, h5]
  refine PE.weak (pe_callG (sp := spM G.K ps.length m) (by rw [eG]; exact F.mono hk) c.room c.gd (by show X.env.scope.names.lookup x = _; rw [c.sc]; exact hg) (by rw [c.mg]; exact hm) (by rw [c.K]; exact hkp) (by rw [c.K]; exact hb) (ha X c) hdb (he _) (hpl _)) ?_
  rintro σ H Q ⟨W, ρ, r, ρ', rel, em, q⟩
  unfold mcall at em
  obtain ⟨⟨rs, ρ1⟩, e1, em⟩ := Option.bind_eq_some_iff.mp em
  obtain ⟨as, e2, em⟩ := Option.bind_eq_some_iff.mp em
  obtain ⟨u, e3, em⟩ := Option.bind_eq_some_iff.mp em
  obtain ⟨⟨r1, outs⟩, e4, em⟩ := Option.bind_eq_some_iff.mp em
  obtain ⟨u2, e5, em⟩ := Option.bind_eq_some_iff.mp em
  cases em
  refine ⟨W, ρ, rs, ρ1, rel, e1, fun vs H1 p1 f1 => ?_⟩
  have hs := guardO_dec e5
  refine ⟨calW W ρ1 σ H1 as vs, as, r1, outs, ?_, call_in p1.rel f1 e2 (guardO_dec e3), rfl, fun i b z => ?_, fun a z => calPB z, e4, hs, fun v H' pf => q v H' (PostE.over p1 (call_out p1.rel f1 e2 (guardO_dec e3) hs pf))⟩
  · rw [← (argAs_get e2).1, hms _ _ e1, hn]
  · obtain ⟨_, _, _, _, _, _, _, z⟩ := cal_slot f1 e2 z
    cases z
theorem mcons_len {ma : ME} {ms : MA} {n : Nat} (h : ∀ ρ x, ms ρ = some x → x.1.length = n) : ∀ ρ x, mcons ma ms ρ = some x → x.1.length = n + 1 := fun ρ x e => by
  unfold mcons at e
  obtain ⟨a, e1, e⟩ := Option.bind_eq_some_iff.mp e
  obtain ⟨b, e2, e⟩ := Option.bind_eq_some_iff.mp e
  cases e
  show b.1.length + 1 = n + 1
  rw [h _ _ e2]
theorem mnil_len : ∀ (ρ : En) x, mnil ρ = some x → x.1.length = 0 := fun ρ x e => by cases e; rfl
end L3
namespace L3
open PySem PySem.Spec PyProof.Rows L2
inductive O where
  | nx | bk | ct
  | rt (r : R)
abbrev MS := En → Option (O × En)
def BorAt (ρ : En) (σ : L2.St) (q : Addr) : Prop := ∃ (i : Nat) (b : Bx), ρ[i]? = some (some (A.box false b)) ∧ σ[i]? = some (some (V.ref q))
theorem BorAt.box {ρ : En} {σ : L2.St} {q : Addr} (h : BorAt ρ σ q) : BoxAt ρ σ q := let ⟨i, b, h1, h2⟩ := h; ⟨i, false, b, h1, h2⟩
/-- a value handed back -/
def RtRel (K : PySem.W.Frag) (W : Wd) (ρ' : En) (σ' : L2.St) (H' : Hp) : R → V → Prop
  | .dat d, v => Rep K (Av W.P ρ' σ') H' v d
  | .new b, v => ∃ q, v = .ref q ∧ W.H0 q = none ∧ BoxOk K (fun a => (W.P a ∨ BorAt ρ' σ' a) ∨ a = q) H' q b ∧ ¬ W.P q ∧
      (∀ (i : Nat) (b' : Bx), ρ'[i]? = some (some (.box false b')) → ∃ q', σ'[i]? = some (some (.ref q')) ∧ q' ≠ q ∧ BoxOk K (fun a => (W.P a ∨ BorAt ρ' σ' a) ∨ a = q) H' q' b')
  | .ref _, _ => False
def rdS (K : PySem.W.Frag) (m : MS) : TS := fun D σ H => ∃ W ρ o ρ', DRel K W ρ σ H ∧ m ρ = some (o, ρ') ∧ match o with
  | .nx => ∀ σ' H', PostC K W ρ σ H ρ' σ' H' → D.nx σ' H'
  | .bk => ∀ σ' H', PostC K W ρ σ H ρ' σ' H' → D.bk σ' H'
  | .ct => ∀ σ' H', PostC K W ρ σ H ρ' σ' H' → D.ct σ' H'
  | .rt r => ∀ v σ' H', PostC K W ρ σ H ρ' σ' H' → RtRel K W ρ' σ' H' r v → D.rt v H'
theorem PS.weak {X : Cx} {st : Stmt} {t t' : TS} (h : PS X st t) (w : ∀ D σ H, t' D σ H → t D σ H) : PS X st t' := ⟨fun p s σ H D I q => h.run p s σ H D I (w _ _ _ q)⟩
theorem PSs.weak {X : Cx} {st : List Stmt} {t t' : TS} (h : PSs X st t) (w : ∀ D σ H, t' D σ H → t D σ H) : PSs X st t' := ⟨fun p s σ H D I q => h.run p s σ H D I (w _ _ _ q)⟩
section
variable (G : GC) (S : SC)
def DS (st : Stmt) (m : MS) : Prop := ∀ X, CxOk G S X → PS X st (rdS G.K m)
def DSs (st : List Stmt) (m : MS) : Prop := ∀ X, CxOk G S X → PSs X st (rdS G.K m)
end
def notBor (ρ : En) (i : Nat) : Bool := decide (i < ρ.length) && (match ρ[i]?.join with
  | some (.box false _) => false
  | _ => true)
/-- store a result -/
def stoR (ρ : En) (i : Nat) : R → Option En
  | .dat d => some (ρ.set i (some (.dat d)))
  | .new b => some (ρ.set i (some (.box true b)))
  | .ref j => (fzs ρ [.ref j]).bind fun x => match x.1 with
    | [d] => some (x.2.set i (some (.dat d)))
    | _ => none
def masg (i : Nat) (m : ME) : MS := fun ρ => (m ρ).bind fun x => (guardO (notBor x.2 i)).bind fun _ => (stoR x.2 i x.1).map fun ρ' => (.nx, ρ')
def mdrop (m : ME) : MS := fun ρ => (m ρ).bind fun x => some (.nx, x.2)
def mpass : MS := fun ρ => some (.nx, ρ)
def mret (m : ME) : MS := fun ρ => (m ρ).bind fun x => match x.1 with
  | .dat d => some (.rt (.dat d), x.2)
  | .new b => some (.rt (.new b), x.2)
  | .ref i => match x.2[i]?.join with
    | some (.dat d) => some (.rt (.dat d), x.2)
    | some (.box true b) => some (.rt (.new b), x.2)
    | _ => none
def mseq (a b : MS) : MS := fun ρ => (a ρ).bind fun x => match x.1 with
  | .nx => b x.2
  | o => some (o, x.2)
def mifS (c : MT) (a b : MS) : MS := fun ρ => (c ρ).bind fun x => if x.1 = true then a x.2 else b x.2
section
variable {K : PySem.W.Frag} {W : Wd} {ρ ρ' : En} {σ σ' : L2.St} {H H' : Hp}
theorem notBor_lt {i : Nat} (h : notBor ρ i = true) : i < ρ.length := by
  unfold notBor at h
  rw [Bool.and_eq_true] at h
  exact of_decide_eq_true h.1
theorem setσ_ne {i j : Nat} {v : V} (h : j ≠ i) : (σ.set i (some v))[j]? = σ[j]? := List.getElem?_set_ne (Ne.symm h)
/-- .. data -/
theorem DRel.setDat (h : DRel K W ρ σ H) {i : Nat} {v : V} {d : D} (hi : i < ρ.length) (r : Rep K (Av W.P ρ σ) H v d) : PostC K W ρ σ H (ρ.set i (some (.dat d))) (σ.set i (some v)) H := by
  have hs : i < σ.length := by rw [← h.len]; exact hi
  have sub : ∀ a, BoxAt (ρ.set i (some (.dat d))) (σ.set i (some v)) a → BoxAt ρ σ a := fun a ⟨j, o, b, e1, e2⟩ => by
    rcases set_get e1 with ⟨_, z⟩ | ⟨n, z⟩
    · cases z
    · rw [setσ_ne n] at e2; exact ⟨j, o, b, z, e2⟩
  have ev : Evo (Av W.P ρ σ) H (Av W.P (ρ.set i (some (.dat d))) (σ.set i (some v))) H := mono_av fun a z => z.imp id (sub a)
  refine ⟨⟨by simpa using h.len, fun j a e1 => ?_, fun j k o b o' b' q e1 e2 e3 e4 => ?_, h.prot, fun q z y => h.pdis q z (sub q y), h.keep, h.there⟩, fun _ _ e _ => e, fun _ o e => ⟨o, e⟩, fun q z => .inl (sub q z)⟩
  · rcases set_get e1 with ⟨rfl, rfl⟩ | ⟨n, z⟩
    · exact ⟨v, List.getElem?_set_self hs, Rep.evo ev _ _ r⟩
    · obtain ⟨v', hv, rr⟩ := h.sl j a z
      exact ⟨v', by rw [setσ_ne n]; exact hv, rr.evo ev fun _ _ _ _ z => z⟩
  · rcases set_get e1 with ⟨_, z⟩ | ⟨n, z⟩
    · cases z
    · rcases set_get e2 with ⟨_, z2⟩ | ⟨n2, z2⟩
      · cases z2
      · rw [setσ_ne n] at e3; rw [setσ_ne n2] at e4
        exact h.dis j k _ _ _ _ q z z2 e3 e4
/-- .. a new box -/
theorem DRel.setNew {q : Addr} {b : Bx} (h : DRel K (W.pl fun a => V.ref q = V.ref a) ρ σ H) {i : Nat} (hi : i < ρ.length) (bo : BoxOk K (fun a => Av W.P ρ σ a ∨ a = q) H q b) (h0 : W.H0 q = none) (hnP : ¬ W.P q) :
    DRel K W (ρ.set i (some (.box true b))) (σ.set i (some (.ref q))) H ∧ ∀ a, BoxAt (ρ.set i (some (.box true b))) (σ.set i (some (.ref q))) a → BoxAt ρ σ a ∨ a = q := by
  have hs : i < σ.length := by rw [← h.len]; exact hi
  have hq : (W.pl fun a => V.ref q = V.ref a).P q := .inr rfl
  have sub : ∀ a, BoxAt (ρ.set i (some (.box true b))) (σ.set i (some (.ref q))) a → BoxAt ρ σ a ∨ a = q := fun a ⟨j, o, b', e1, e2⟩ => by
    rcases set_get e1 with ⟨rfl, z⟩ | ⟨n, z⟩
    · rw [List.getElem?_set_self hs] at e2; cases e2; exact .inr rfl
    · rw [setσ_ne n] at e2; exact .inl ⟨j, o, b', z, e2⟩
  have ev : Evo (Av (W.pl fun a => V.ref q = V.ref a).P ρ σ) H (Av W.P (ρ.set i (some (.box true b))) (σ.set i (some (.ref q)))) H := mono_av fun a z => by
    rcases z with z | z
    · exact .inl (.inl z)
    · rcases sub a z with z | z
      · exact .inr z
      · exact .inl (.inr (by rw [z]))
  have ev2 : Evo (fun a => Av W.P ρ σ a ∨ a = q) H (Av W.P (ρ.set i (some (.box true b))) (σ.set i (some (.ref q)))) H := mono_av fun a z => by
    rcases z with z | z
    · exact .inl (.inl z)
    · exact (sub a z).imp .inr id
  refine ⟨⟨by simpa using h.len, fun j a e1 => ?_, fun j k o b1 o' b' q' e1 e2 e3 e4 => ?_, fun a z => h.prot a (.inl z), fun a z y => ?_, h.keep, h.there⟩, sub⟩
  · rcases set_get e1 with ⟨rfl, rfl⟩ | ⟨n, z⟩
    · exact ⟨_, List.getElem?_set_self hs, q, rfl, bo.evo ev2 fun _ z => z, h0⟩
    · obtain ⟨v', hv, rr⟩ := h.sl j a z
      refine ⟨v', by rw [setσ_ne n]; exact hv, ?_⟩
      have r' := rr.evo ev fun _ _ _ _ z => z
      cases a with
      | dat d => exact r'
      | box o b => cases o <;> exact r'
  · rcases set_get e1 with ⟨rfl, z⟩ | ⟨n, z⟩
    · rcases set_get e2 with ⟨rfl, z2⟩ | ⟨n2, z2⟩
      · rfl
      · rw [List.getElem?_set_self hs] at e3; cases e3
        rw [setσ_ne n2] at e4
        exact (h.pdis q hq ⟨k, _, _, z2, e4⟩).elim
    · rcases set_get e2 with ⟨rfl, z2⟩ | ⟨n2, z2⟩
      · rw [List.getElem?_set_self hs] at e4; cases e4
        rw [setσ_ne n] at e3
        exact (h.pdis q hq ⟨j, _, _, z, e3⟩).elim
      · rw [setσ_ne n] at e3; rw [setσ_ne n2] at e4
        exact h.dis j k _ _ _ _ q' z z2 e3 e4
  · rcases sub a y with y | y
    · exact h.pdis a (.inl z) y
    · subst y
      exact hnP z
/-- a result is stored -/
theorem sto_ok {r : R} {ρ1 ρ2 : En} {H1 : Hp} {v : V} {i : Nat} (rel : DRel K W ρ σ H) (p : PostE K W ρ σ H r ρ1 v H1) (nb : notBor ρ1 i = true) (e : stoR ρ1 i r = some ρ2) : PostC K W ρ σ H ρ2 (σ.set i (some v)) H1 := by
  have hi := notBor_lt nb
  cases r with
  | dat d =>
    cases e
    exact p.toPostC.trans (p.rel.setDat hi p.res)
  | new b =>
    cases e
    obtain ⟨q, rfl, hq, bo⟩ := p.res
    have h0 : W.H0 q = none := by
      cases z : W.H0 q with
      | none => rfl
      | some o => obtain ⟨o', z'⟩ := rel.there q o z; rw [hq] at z'; cases z'
    have hnP : ¬ W.P q := fun z => by obtain ⟨o, z'⟩ := rel.prot q z; rw [hq] at z'; cases z'
    obtain ⟨h1, h2⟩ := DRel.setNew (W := W) (q := q) (b := b) p.relE hi bo h0 hnP
    refine ⟨h1, p.ext, p.thr, fun a z => ?_⟩
    rcases h2 a z with z | z
    · exact p.new a z
    · exact .inr (by rw [z]; exact hq)
  | ref j =>
    unfold stoR at e
    obtain ⟨⟨ds, ρ3⟩, e1, e2⟩ := Option.bind_eq_some_iff.mp e
    obtain ⟨hv, a, ha⟩ := p.res
    have f : FRels K (Av W.P ρ1 σ) ρ1 σ H1 [R.ref j] [v] := .cons ⟨hv, a, ha⟩ .nil
    obtain ⟨p2, rl⟩ := fzs_ok p.rel f e1
    cases rl with
    | cons r0 t =>
      cases t
      cases e2
      have hi3 : i < ρ3.length := by rw [p2.rel.len, ← p.rel.len]; exact hi
      exact p.toPostC.trans (p2.toPostC.trans (p2.rel.setDat hi3 r0))
end
section
variable {G : GC} {S : SC} {st : Stmt} {sts rest : List Stmt} {e : Expr} {pos pos' : Pos} {m ma mb : ME} {mt : MT} {mx my : MS}
/-- the name may be stored -/
def StoOk (S : SC) (i : Nat) (x : Str) : Prop := S.N[i]? = some x ∧ Loc S.sc x ∧ (S.fn x = true ∨ S.sc.names.lookup x = some .local)
theorem ds_asg {i : Nat} {x : Str} (h : StoOk S i x) (he : DE G S e m) (hs : ∀ env : PySem.Env, swapsWith e (some (.Name x pos')) pos.line env = pure false) : DS G S (.Assign [.Name x pos'] e pos) (masg i m) := by
  intro X c
  refine PS.weak (ps_set (i := i) c.nd (by rw [c.N]; exact h.1) (by rw [c.sc]; exact h.2.1) (he X c) (hs _) (by rw [c.sc, c.fn]; exact h.2.2)) ?_
  rintro D σ H ⟨W, ρ, o, ρ', rel, em, q⟩
  unfold masg at em
  obtain ⟨⟨r, ρ1⟩, e1, em⟩ := Option.bind_eq_some_iff.mp em
  obtain ⟨u, e2, em⟩ := Option.bind_eq_some_iff.mp em
  obtain ⟨ρ2, e3, em⟩ := Option.map_eq_some_iff.mp em
  cases em
  exact ⟨W, ρ, r, ρ1, rel, e1, fun v H1 p1 => q _ H1 (sto_ok rel p1 (guardO_some e2) e3)⟩
theorem ds_expr (he : DE G S e m) (hs : ∀ env : PySem.Env, swapsWith e none pos.line env = pure false) : DS G S (.Expr e pos) (mdrop m) := by
  intro X c
  refine PS.weak (ps_expr (he X c) (hs _)) ?_
  rintro D σ H ⟨W, ρ, o, ρ', rel, em, q⟩
  unfold mdrop at em
  obtain ⟨⟨r, ρ1⟩, e1, em⟩ := Option.bind_eq_some_iff.mp em
  cases em
  exact ⟨W, ρ, r, ρ1, rel, e1, fun v H1 p1 => q _ H1 p1.toPostC⟩
theorem ds_ret (he : DE G S e m) : DS G S (.Return (some e) pos) (mret m) := by
  intro X c
  refine PS.weak (ps_ret (he X c)) ?_
  rintro D σ H ⟨W, ρ, o, ρ', rel, em, q⟩
  unfold mret at em
  obtain ⟨⟨r, ρ1⟩, e1, em⟩ := Option.bind_eq_some_iff.mp em
  refine ⟨W, ρ, r, ρ1, rel, e1, fun v H1 p1 => ?_⟩
  cases r with
  | dat d => cases em; exact q v σ H1 p1.toPostC p1.res
  | new b =>
    cases em
    refine q v σ H1 p1.toPostC ?_
    obtain ⟨a, rfl, hq, bo⟩ := p1.res
    have h0 : W.H0 a = none := by
      cases z : W.H0 a with
      | none => rfl
      | some o => obtain ⟨o', z'⟩ := rel.there a o z; rw [hq] at z'; cases z'
    have hnP : ¬ W.P a := fun z => by obtain ⟨o, z'⟩ := rel.prot a z; rw [hq] at z'; cases z'
    refine ⟨a, rfl, h0, bo.evo (mono_av fun c z => ?_) fun _ z => z, hnP, fun i b' e2 => ?_⟩
    · rcases z with (z | z) | z
      · exact .inl (.inl z)
      · exact .inl (.inr z.box)
      · exact .inr z
    · obtain ⟨q', h1, h2, h3, _⟩ := p1.relE.boxOk e2
      refine ⟨q', h1, fun z => ?_, h2.evo (mono_av fun c z => ?_) fun _ z => z⟩
      · subst z
        exact p1.relE.pdis _ (.inr rfl) h3
      · rcases z with (z | z) | z
        · exact .inl (.inl z)
        · exact .inr z.box
        · exact .inl (.inr (by rw [z]; rfl))
  | ref i =>
    obtain ⟨hv, a0, ha0⟩ := p1.res
    have em' : (match ρ1[i]?.join with
      | some (.dat d) => some (O.rt (.dat d), ρ1)
      | some (.box true b) => some (O.rt (.new b), ρ1)
      | _ => none) = some (o, ρ') := em
    split at em'
    · rename_i d e2
      cases em'
      refine q v σ H1 p1.toPostC ?_
      obtain ⟨v', hv', rr⟩ := p1.rel.sl i _ (Option.join_eq_some_iff.mp e2)
      rw [hv] at hv'; cases hv'
      exact rr
    · rename_i b e2
      cases em'
      refine q v σ H1 p1.toPostC ?_
      obtain ⟨a, h1, h2, h3, h4, _⟩ := p1.rel.boxOk (Option.join_eq_some_iff.mp e2)
      rw [hv] at h1; cases h1
      refine ⟨a, rfl, h4 rfl, h2.evo (mono_av fun c z => ?_) fun _ z => z, fun z => p1.rel.pdis _ z h3, fun j b' e3 => ?_⟩
      · rcases z with (z | z) | z
        · exact .inl z
        · exact .inr z.box
        · rw [z]; exact .inr h3
      · obtain ⟨q', g1, g2, g3, _⟩ := p1.rel.boxOk e3
        refine ⟨q', g1, fun z => ?_, g2.evo (mono_av fun c z => ?_) fun _ z => z⟩
        · subst z
          have := p1.rel.dis j i _ _ _ _ _ e3 (Option.join_eq_some_iff.mp e2) g1 hv
          subst this
          rw [Option.join_eq_some_iff.mp e2] at e3; cases e3
        · rcases z with (z | z) | z
          · exact .inl z
          · exact .inr z.box
          · rw [z]; exact .inr h3
    · cases em'
theorem dss_nil : DSs G S [] mpass := fun X c => PSs.weak pss_nil fun D σ H ⟨W, ρ, o, ρ', rel, em, q⟩ => by
  cases em
  exact q σ H (PostC.refl rel)
theorem RtRel.over {K : PySem.W.Frag} {W : Wd} {ρ : En} {σ : L2.St} {H : Hp} {r : R} {v : V} (h : RtRel K W ρ σ H r v) : RtRel K W ρ σ H r v := h
theorem rdseq {K : PySem.W.Frag} {D : Ends} {σ : L2.St} {H : Hp} (h : rdS K (mseq mx my) D σ H) : rdS K mx { D with nx := fun σ H => rdS K my D σ H } σ H := by
  obtain ⟨W, ρ, o, ρ', rel, em, q⟩ := h
  unfold mseq at em
  obtain ⟨⟨o1, ρ1⟩, e1, em⟩ := Option.bind_eq_some_iff.mp em
  refine ⟨W, ρ, o1, ρ1, rel, e1, ?_⟩
  cases o1 with
  | nx =>
    intro σ1 H1 p1
    refine ⟨W, ρ1, o, ρ', p1.rel, em, ?_⟩
    cases o with
    | nx => exact fun σ2 H2 p2 => q σ2 H2 (p1.trans p2)
    | bk => exact fun σ2 H2 p2 => q σ2 H2 (p1.trans p2)
    | ct => exact fun σ2 H2 p2 => q σ2 H2 (p1.trans p2)
    | rt r => exact fun v σ2 H2 p2 r2 => q v σ2 H2 (p1.trans p2) r2
  | bk => cases em; exact q
  | ct => cases em; exact q
  | rt r => cases em; exact q
theorem dss_cons (h1 : DS G S st mx) (h2 : DSs G S rest my) : DSs G S (st :: rest) (mseq mx my) := fun X c => PSs.weak (pss_cons (h1 X c) (h2 X c)) fun D σ H q => rdseq q
theorem dss_one (h1 : DS G S st mx) : DSs G S [st] mx := fun X c => pss_one (h1 X c)
theorem ds_if {c : Expr} {a b : List Stmt} (hc : DT G S c mt) (ha : DSs G S a mx) (hb : DSs G S b my) : DS G S (.If c a b pos) (mifS mt mx my) := fun X cx => PS.weak (ps_if (hc X cx) (ha X cx) (hb X cx)) fun D σ H ⟨W, ρ, o, ρ', rel, em, q⟩ => by
  unfold mifS at em
  obtain ⟨⟨b, ρ1⟩, e1, em⟩ := Option.bind_eq_some_iff.mp em
  refine ⟨W, ρ, b, ρ1, rel, e1, fun H1 p1 => ?_⟩
  have fin : ∀ m : MS, m ρ1 = some (o, ρ') → rdS G.K m D σ H1 := fun m em => by
    refine ⟨W, ρ1, o, ρ', p1.rel, em, ?_⟩
    cases o with
    | nx => exact fun σ2 H2 p2 => q σ2 H2 (p1.toPostC.trans p2)
    | bk => exact fun σ2 H2 p2 => q σ2 H2 (p1.toPostC.trans p2)
    | ct => exact fun σ2 H2 p2 => q σ2 H2 (p1.toPostC.trans p2)
    | rt r => exact fun v σ2 H2 p2 r2 => q v σ2 H2 (p1.toPostC.trans p2) r2
  cases b with
  | true => rw [if_pos rfl] at em; exact iteT (fin _ em)
  | false => rw [if_neg Bool.false_ne_true] at em; exact iteF (fin _ em)
end
end L3
namespace L3
open PySem PySem.Spec PyProof.Rows L2
inductive It3 where
  | items (ds : List D)
  | slot (i : Nat) (ds : List D)
abbrev MI := En → Option (It3 × En)
def ItOk (K : PySem.W.Frag) (W : Wd) (ρ : En) (σ : L2.St) (H : Hp) (J : It) : It3 → Prop
  | .items ds => ∀ N1 H1, Evo (Av W.P ρ σ) H N1 H1 → Trk N1 H1 → (∀ (n : Nat) d, ds[n]? = some d → J.go n H1 ∧ ∀ x H2, J.yld n H1 x H2 → (∀ a o, H1 a = some o → H2 a = some o) ∧ Rep K N1 H2 x d) ∧ ∀ n, ds.length ≤ n → J.stop n H1
  | .slot i _ => ∃ q o b, σ[i]? = some (some (.ref q)) ∧ ρ[i]? = some (some (.box o b)) ∧ J = Itl K q ∧ (o = false → W.B i = some q)
def rdI (K : PySem.W.Frag) (m : MI) : TI := fun σ H R => ∃ W ρ it ρ', DRel K W ρ σ H ∧ m ρ = some (it, ρ') ∧ ∀ J H', PostX K W ρ σ H ρ' H' → ItOk K W ρ' σ H' J it → R J H'
def DI (G : GC) (S : SC) (tg iter : Expr) (m : MI) : Prop := ∀ X, CxOk G S X → PI X tg iter (rdI G.K m)
theorem PI.weak {X : Cx} {tg e : Expr} {t t' : TI} (h : PI X tg e t) (w : ∀ σ H R, t' σ H R → t σ H R) : PI X tg e t' := ⟨fun p s σ H R I q => h.run p s σ H R I (w _ _ _ q)⟩
section
variable {X : Cx} {tg : Expr}
def iSeq (K : PySem.W.Frag) (tl : TE) : TI := fun σ H R => tl σ H fun x H1 => (∃ a, x = .ref a ∧ (((∃ xs, SqL K H1 a xs) ∧ R (Itl K a) H1) ∨ ((∃ xs, SqT K H1 a xs) ∧ R (Itt K a) H1))) ∨ ∃ z, x = .str z ∧ R (Its z) H1
theorem pi_seq {l : Expr} {tl : TE} (hl : PE X l tl) : PI X tg l (iSeq X.K tl) := by
  refine ⟨fun pins s σ H R I h => ?_⟩
  refine thn (hl.run pins s σ H _ I h) fun v s1 ⟨x, H1, I1, r1, q1⟩ => ?_
  rcases q1 with ⟨a, e, q⟩ | ⟨z, e, q⟩
  · subst e
    cases r1
    rcases q with ⟨⟨xs, hq⟩, q⟩ | ⟨⟨xs, hq⟩, q⟩
    · obtain ⟨its, rv, p, hz⟩ := I1.list hq
      refine wpAny_pyIter_list p.isList ?_
      refine ⟨s1.heap.objs.size, [s1.heap.objs.size], _, _, H1, rfl, I1.kept (t' := s1.toks) fun b o e => Heap.get?_push_of_some _ e, turn_list a _, ⟨_, Heap.get?_push_size _ rfl, rfl, rfl⟩, fun b hb => ?_, q⟩
      have e : b = s1.heap.objs.size := by simpa using hb
      subst e
      exact I1.fpOk (Nat.le_refl _) (I1.hok.fresh (Nat.le_refl _))
    · obtain ⟨its, rv, p, hz⟩ := I1.tuple hq
      refine wpAny_pyIter_tuple (show s1.heap.IsTuple a its.toArray from p) ?_
      refine ⟨s1.heap.objs.size, [s1.heap.objs.size], _, _, H1, rfl, I1.kept (t' := s1.toks) fun b o e => Heap.get?_push_of_some _ e, turn_tuple a _, ⟨_, Heap.get?_push_size _ rfl, rfl, rfl⟩, fun b hb => ?_, q⟩
      have e : b = s1.heap.objs.size := by simpa using hb
      subst e
      exact I1.fpOk (Nat.le_refl _) (I1.hok.fresh (Nat.le_refl _))
  · subst e
    obtain ⟨t, rfl⟩ := r1
    cases ha : z.cps.all (· < 128)
    · exact wpAny_pyIter_wide ha (pi_one (tk := s1.toks) I1 _ (turn_str _ z t "str_iterator" (.inr rfl)) ⟨_, Heap.get?_push_size _ rfl, rfl, rfl⟩ q)
    · exact wpAny_pyIter_ascii ha (pi_one (tk := s1.toks) I1 _ (turn_str _ z t "str_ascii_iterator" (.inl rfl)) ⟨_, Heap.get?_push_size _ rfl, rfl, rfl⟩ q)
end
/-- the items of data -/
def seqD : D → Option (List D)
  | .list ds => some ds
  | .tuple ds => some ds
  | .str z => some (z.cps.toList.map fun c => .str ⟨#[c]⟩)
  | _ => none
/-- in a statement's head: an own list is frozen -/
def miseq (m : ME) : MI := fun ρ => (m ρ).bind fun x => match x.1 with
  | .dat d => (seqD d).map fun ds => (.items ds, x.2)
  | .new b => (seqD b.dat).map fun ds => (.items ds, x.2)
  | .ref i => match x.2[i]?.join with
    | some (.dat d) => (seqD d).map fun ds => (.items ds, x.2)
    | some (.box true b) => (seqD b.dat).map fun ds => (.items ds, x.2.set i (some (.dat b.dat)))
    | some (.box false (.lst ds)) => some (.slot i ds, x.2)
    | _ => none
/-- in a comprehension's head -/
def miseqC (m : ME) : MI := fun ρ => (m ρ).bind fun x => match x.1 with
  | .dat d => (seqD d).map fun ds => (.items ds, x.2)
  | .new b => (seqD b.dat).map fun ds => (.items ds, x.2)
  | .ref i => match x.2[i]?.join with
    | some (.dat d) => (seqD d).map fun ds => (.items ds, x.2)
    | some (.box _ (.lst ds)) => some (.slot i ds, x.2)
    | _ => none
section
variable {K : PySem.W.Frag} {W : Wd} {ρ ρ' : En} {σ : L2.St} {H : Hp}
/-- data that is walked -/
theorem walk_dat {v : V} {d : D} {ds : List D} {Q : It → Hp → Prop} (h : Rep K (Av W.P ρ σ) H v d) (e : seqD d = some ds) (q : ∀ J, ItOk K W ρ σ H J (.items ds) → Q J H) :
    (∃ a, v = .ref a ∧ (((∃ xs, SqL K H a xs) ∧ Q (Itl K a) H) ∨ ((∃ xs, SqT K H a xs) ∧ Q (Itt K a) H))) ∨ ∃ z, v = .str z ∧ Q (Its z) H := by
  cases h with
  | lst h1 h2 =>
    cases e
    refine .inl ⟨_, rfl, .inl ⟨⟨_, h1.sq⟩, q _ fun N1 H1 ev tk => ⟨fun n d hd => ?_, fun n hn => ?_⟩⟩⟩
    · have h1' := h1.evo ev
      obtain ⟨x, hx, rx⟩ := (RepL.evo ev _ _ h2).get hd
      refine ⟨⟨_, x, h1'.sq, hx⟩, fun y H2 hy => ?_⟩
      obtain ⟨e1, e2⟩ := hy
      subst e1
      have := e2 _ h1'.sq
      rw [hx] at this; cases this
      exact ⟨fun _ _ z => z, rx⟩
    · exact ⟨_, (h1.evo ev).sq, by rw [h2.length]; exact hn⟩
  | tup h1 h2 =>
    cases e
    refine .inl ⟨_, rfl, .inr ⟨⟨_, h1.sq⟩, q _ fun N1 H1 ev tk => ⟨fun n d hd => ?_, fun n hn => ?_⟩⟩⟩
    · have h1' := h1.evo ev
      obtain ⟨x, hx, rx⟩ := (RepL.evo ev _ _ h2).get hd
      refine ⟨⟨_, x, h1'.sq, hx⟩, fun y H2 hy => ?_⟩
      obtain ⟨e1, e2⟩ := hy
      subst e1
      have := e2 _ h1'.sq
      rw [hx] at this; cases this
      exact ⟨fun _ _ z => z, rx⟩
    · exact ⟨_, (h1.evo ev).sq, by rw [h2.length]; exact hn⟩
  | str z =>
    cases e
    refine .inr ⟨z, rfl, q _ fun N1 H1 ev tk => ⟨fun n d hd => ?_, fun n hn => ?_⟩⟩
    · rw [List.getElem?_map] at hd
      obtain ⟨c, hc, rfl⟩ := Option.map_eq_some_iff.mp hd
      have hc' : z.cps[n]? = some c := by simpa using hc
      refine ⟨(Array.getElem?_eq_some_iff.mp hc').1, fun y H2 hy => ?_⟩
      obtain ⟨e1, c', e2, e3⟩ := hy
      subst e1
      rw [hc'] at e2; cases e2
      rw [e3]
      exact ⟨fun _ _ z => z, .str _⟩
    · show z.cps.size ≤ n
      simpa using hn
  | non => cases e
  | bl b => cases e
  | int i => cases e
  | dic _ _ _ => cases e
  | fn _ => cases e
  | xn0 _ => cases e
  | xn1 _ => cases e
end
section
variable {G : GC} {S : SC} {tg e : Expr} {m : ME}
theorem walk_new {K : PySem.W.Frag} {W : Wd} {ρ ρ1 : En} {σ : L2.St} {H H1 : Hp} {b : Bx} {v : V} (p : PostE K W ρ σ H (.new b) ρ1 v H1) (rel : DRel K W ρ σ H) : Rep K (Av W.P ρ1 σ) H1 v b.dat := (p.res.fz p.toPostX rel)
theorem di_seq (he : DE G S e m) : DI G S tg e (miseq m) := by
  intro X c
  have hK := c.K
  refine PI.weak (pi_seq (he X c)) ?_
  rw [hK]
  rintro σ H R ⟨W, ρ, it, ρ', rel, em, q⟩
  unfold miseq at em
  obtain ⟨⟨r, ρ1⟩, e1, em⟩ := Option.bind_eq_some_iff.mp em
  refine ⟨W, ρ, r, ρ1, rel, e1, fun v H1 p1 => ?_⟩
  cases r with
  | dat d =>
    obtain ⟨ds, e2, e3⟩ := Option.map_eq_some_iff.mp em
    cases e3
    exact walk_dat (W := W) (σ := σ) p1.res e2 fun J j => q J H1 p1.toPostX j
  | new b =>
    obtain ⟨ds, e2, e3⟩ := Option.map_eq_some_iff.mp em
    cases e3
    exact walk_dat (W := W) (σ := σ) (walk_new p1 rel) e2 fun J j => q J H1 p1.toPostX j
  | ref i =>
    obtain ⟨hv, _⟩ := p1.res
    have em' : (match ρ1[i]?.join with
      | some (.dat d) => (seqD d).map fun ds => (It3.items ds, ρ1)
      | some (.box true b) => (seqD b.dat).map fun ds => (It3.items ds, ρ1.set i (some (.dat b.dat)))
      | some (.box false (.lst ds)) => some (It3.slot i ds, ρ1)
      | _ => none) = some (it, ρ') := em
    split at em'
    · rename_i d e4
      obtain ⟨ds, e2, e3⟩ := Option.map_eq_some_iff.mp em'
      cases e3
      obtain ⟨v', hv', rr⟩ := p1.rel.sl i _ (Option.join_eq_some_iff.mp e4)
      rw [hv] at hv'; cases hv'
      exact walk_dat (W := W) (σ := σ) rr e2 fun J j => q J H1 p1.toPostX j
    · rename_i b e4
      obtain ⟨ds, e2, e3⟩ := Option.map_eq_some_iff.mp em'
      cases e3
      obtain ⟨p2, v', hv', rr⟩ := p1.rel.freeze (Option.join_eq_some_iff.mp e4)
      rw [hv] at hv'; cases hv'
      exact walk_dat (W := W) (ρ := ρ1.set i (some (.dat b.dat))) (σ := σ) rr e2 fun J j => q J H1 (p1.toPostX.trans p2) j
    · rename_i ds e4
      cases em'
      obtain ⟨a, h1, h2, _, _, hB⟩ := p1.rel.boxOk (Option.join_eq_some_iff.mp e4)
      rw [hv] at h1; cases h1
      obtain ⟨xs, h3, h4⟩ := h2
      exact .inl ⟨a, rfl, .inl ⟨⟨xs, .inl (.inl h3)⟩, q (Itl _ a) H1 p1.toPostX ⟨a, _, _, hv, Option.join_eq_some_iff.mp e4, rfl, hB⟩⟩⟩
    · cases em'
theorem di_seqC (he : DE G S e m) : DI G S tg e (miseqC m) := by
  intro X c
  have hK := c.K
  refine PI.weak (pi_seq (he X c)) ?_
  rw [hK]
  rintro σ H R ⟨W, ρ, it, ρ', rel, em, q⟩
  unfold miseqC at em
  obtain ⟨⟨r, ρ1⟩, e1, em⟩ := Option.bind_eq_some_iff.mp em
  refine ⟨W, ρ, r, ρ1, rel, e1, fun v H1 p1 => ?_⟩
  cases r with
  | dat d =>
    obtain ⟨ds, e2, e3⟩ := Option.map_eq_some_iff.mp em
    cases e3
    exact walk_dat (W := W) (σ := σ) p1.res e2 fun J j => q J H1 p1.toPostX j
  | new b =>
    obtain ⟨ds, e2, e3⟩ := Option.map_eq_some_iff.mp em
    cases e3
    exact walk_dat (W := W) (σ := σ) (walk_new p1 rel) e2 fun J j => q J H1 p1.toPostX j
  | ref i =>
    obtain ⟨hv, _⟩ := p1.res
    have em' : (match ρ1[i]?.join with
      | some (.dat d) => (seqD d).map fun ds => (It3.items ds, ρ1)
      | some (.box _ (.lst ds)) => some (It3.slot i ds, ρ1)
      | _ => none) = some (it, ρ') := em
    split at em'
    · rename_i d e4
      obtain ⟨ds, e2, e3⟩ := Option.map_eq_some_iff.mp em'
      cases e3
      obtain ⟨v', hv', rr⟩ := p1.rel.sl i _ (Option.join_eq_some_iff.mp e4)
      rw [hv] at hv'; cases hv'
      exact walk_dat (W := W) (σ := σ) rr e2 fun J j => q J H1 p1.toPostX j
    · rename_i ds e4
      cases em'
      obtain ⟨a, h1, h2, _, _, hB⟩ := p1.rel.boxOk (Option.join_eq_some_iff.mp e4)
      rw [hv] at h1; cases h1
      obtain ⟨xs, h3, h4⟩ := h2
      exact .inl ⟨a, rfl, .inl ⟨⟨xs, .inl (.inl h3)⟩, q (Itl _ a) H1 p1.toPostX ⟨a, _, _, hv, Option.join_eq_some_iff.mp e4, rfl, hB⟩⟩⟩
    · cases em'
/-- range(a, b) -/
def rngD (lo hi : Int) : List D := (List.range (hi - lo).toNat).map fun n => .int (lo + (n : Nat))
def intR (ρ : En) (r : R) : Option Int := (r.vw ρ).bind fun d => match d with
  | .int i => some i
  | _ => none
theorem intR_some {ρ : En} {r : R} {i : Int} (h : intR ρ r = some i) : r.vw ρ = some (.int i) := by
  unfold intR at h
  obtain ⟨d, e1, e2⟩ := Option.bind_eq_some_iff.mp h
  split at e2
  · cases e2; exact e1
  · cases e2
def mirng1 (ms : MA) : MI := fun ρ => (ms ρ).bind fun x => match x.1 with
  | [r] => (intR x.2 r).bind fun j => (guardO (decide (-(2 ^ 62) ≤ j ∧ j < 2 ^ 62))).bind fun _ => some (.items (rngD 0 j), x.2)
  | _ => none
theorem rng_ok {K : PySem.W.Frag} {W : Wd} {ρ : En} {σ : L2.St} {H : Hp} (lo hi : Int) : ItOk K W ρ σ H (Itr lo (hi - lo).toNat) (.items (rngD lo hi)) := fun N1 H1 ev tk => by
  refine ⟨fun n d hd => ?_, fun n hn => ?_⟩
  · unfold rngD at hd
    rw [List.getElem?_map] at hd
    obtain ⟨k, hk, rfl⟩ := Option.map_eq_some_iff.mp hd
    obtain ⟨h1, h2⟩ := List.getElem?_eq_some_iff.mp hk
    rw [List.length_range] at h1
    rw [List.getElem_range] at h2
    subst h2
    refine ⟨h1, fun x H2 hy => ?_⟩
    obtain ⟨e1, e2⟩ := hy
    subst e1
    rw [e2]
    exact ⟨fun _ _ z => z, .int _⟩
  · unfold rngD at hn
    rw [List.length_map, List.length_range] at hn
    exact hn
theorem di_range1 {a : Expr} {p pos : Pos} {ms : MA} (hg : S.sc.names.lookup (Str.ofString "range") = some NameKind.globalImplicit) (hm : G.mg (Str.ofString "range") = none) (ha : DA G S [a] ms) (hs : ∀ env : PySem.Env, starEach [a] env = (false, eval a env) :: starEach [] env) :
    DI G S tg (.Call (.Name "range" p) [a] [] pos) (mirng1 ms) := by
  intro X c
  refine PI.weak (pi_range1 (by show X.env.scope.names.lookup _ = _; rw [c.sc]; exact hg) (by rw [c.mg]; exact hm) (ha X c) (hs _)) ?_
  rintro σ H R ⟨W, ρ, it, ρ', rel, em, q⟩
  unfold mirng1 at em
  obtain ⟨⟨rs, ρ1⟩, e1, em⟩ := Option.bind_eq_some_iff.mp em
  refine ⟨W, ρ, rs, ρ1, rel, e1, fun vs H1 p1 f1 => ?_⟩
  cases rs with
  | nil => cases em
  | cons r rs => cases rs with
    | cons _ _ => cases em
    | nil =>
      obtain ⟨j, e2, em⟩ := Option.bind_eq_some_iff.mp em
      obtain ⟨u, e3, em⟩ := Option.bind_eq_some_iff.mp em
      cases em
      cases f1 with
      | cons r1 t =>
        cases t
        obtain ⟨g1, g2⟩ := guardO_dec e3
        have := (FRel.read r1 p1.rel (intR_some e2)).int
        subst this
        refine ⟨j, rfl, g1, g2, ?_⟩
        have z := q (Itr 0 (j - 0).toNat) H1 p1 (rng_ok 0 j)
        rw [Int.sub_zero] at z
        exact z
end
abbrev MG := D → En → Option En
def rdG (K : PySem.W.Frag) (is : List Nat) (m : MG) : TG := fun v σ H Q => ∃ W ρ d ρ', DRel K W ρ σ H ∧ Rep K (Av W.P ρ σ) H v d ∧ m d ρ = some ρ' ∧ ∀ σ', PostC K W ρ σ H ρ' σ' H → (σ'.length = σ.length ∧ ∀ j, j ∉ is → σ'[j]? = σ[j]?) → Q σ' H
def DG (G : GC) (S : SC) (tg : Expr) (is : List Nat) (m : MG) : Prop := ∀ X, CxOk G S X → PG X tg (rdG G.K is m)
theorem PG.weak {X : Cx} {tg : Expr} {t t' : TG} (h : PG X tg t) (w : ∀ v σ H Q, t' v σ H Q → t v σ H Q) : PG X tg t' := ⟨fun p s σ H v u Q I r q => h.run p s σ H v u Q I r (w _ _ _ _ q)⟩
def gnm (i : Nat) : MG := fun d ρ => (guardO (notBor ρ i)).map fun _ => ρ.set i (some (.dat d))
def gset : List Nat → List D → En → Option En
  | [], [], ρ => some ρ
  | i :: is, d :: ds, ρ => (guardO (notBor ρ i)).bind fun _ => gset is ds (ρ.set i (some (.dat d)))
  | _, _, _ => none
def gtup (is : List Nat) : MG := fun d ρ => match d with
  | .tuple ds => gset is ds ρ
  | _ => none
def gsN : List Nat → TGs
  | [] => gNil
  | i :: is => gCons (gName i) (gsN is)
section
variable {K : PySem.W.Frag} {W : Wd} {G : GC} {S : SC}
theorem gset_len : ∀ {is : List Nat} {ds : List D} {ρ ρ' : En}, gset is ds ρ = some ρ' → ds.length = is.length
  | [], [], _, _, _ => rfl
  | i :: is, d :: ds, _, _, h => by
    obtain ⟨u, _, h2⟩ := Option.bind_eq_some_iff.mp (show (guardO (notBor _ i)).bind _ = _ from h)
    rw [List.length_cons, List.length_cons, gset_len h2]
  | [], _ :: _, _, _, h => by simp [gset] at h
  | _ :: _, [], _, _, h => by simp [gset] at h
theorem gset_ok {H : Hp} {Q : L2.St → Hp → Prop} : ∀ {is : List Nat} {ds : List D} {xs : List V} {ρ ρ' : En} {σ : L2.St}, DRel K W ρ σ H → RepL K (Av W.P ρ σ) H xs ds → gset is ds ρ = some ρ' → (∀ σ', PostC K W ρ σ H ρ' σ' H → (σ'.length = σ.length ∧ ∀ j, j ∉ is → σ'[j]? = σ[j]?) → Q σ' H) → gsN is xs σ H Q
  | [], [], _, _, _, σ, rel, .nil, h, q => by cases h; exact ⟨rfl, q _ (PostC.refl rel) ⟨rfl, fun _ _ => rfl⟩⟩
  | i :: is, d :: ds, _, ρ, _, σ, rel, .cons r t, h, q => by
    obtain ⟨u, h1, h2⟩ := Option.bind_eq_some_iff.mp (show (guardO (notBor _ i)).bind _ = _ from h)
    have p := rel.setDat (notBor_lt (guardO_some h1)) r
    exact ⟨_, _, rfl, gset_ok p.rel (RepL.evo (p.evo rel) _ _ t) h2 fun σ' p2 c => q σ' (p.trans p2) ⟨by rw [c.1, List.length_set], fun j hj => by
      rw [c.2 j fun z => hj (List.mem_cons_of_mem _ z), List.getElem?_set_ne fun z => hj (by rw [z]; exact List.mem_cons_self)]⟩⟩
  | [], _ :: _, _, _, _, _, _, _, h, _ => by simp [gset] at h
  | _ :: _, [], _, _, _, _, _, _, h, _ => by simp [gset] at h
theorem dg_name {i : Nat} {x : Str} {pos : Pos} (h : StoOk S i x) : DG G S (.Name x pos) [i] (gnm i) := by
  intro X c
  refine PG.weak (pg_name (i := i) c.nd (by rw [c.N]; exact h.1) (by rw [c.sc]; exact h.2.1) (by rw [c.sc, c.fn]; exact h.2.2)) ?_
  rintro v σ H Q ⟨W, ρ, d, ρ', rel, r, em, q⟩
  obtain ⟨u, h1, h2⟩ := Option.map_eq_some_iff.mp (show (guardO (notBor ρ i)).map _ = _ from em)
  subst h2
  exact q _ (rel.setDat (notBor_lt (guardO_some h1)) r) ⟨List.length_set, fun j hj => List.getElem?_set_ne fun z => hj (by rw [z]; exact List.mem_singleton_self _)⟩
theorem dg_tup {es : List Expr} {k : Nat} {pos : Pos} {is : List Nat} (h : ∀ X, CxOk G S X → PGs X es (gsN is)) (hn : ∀ env : PySem.Env, (assignEach es env).length = is.length) (hst : ∀ env : PySem.Env, (assignEach es env).findIdx? (·.1) = none) : DG G S (.Tuple es k pos) is (gtup is) := by
  intro X c
  refine PG.weak (pg_tup (n := is.length) c.calm (h X c) (hn _) (hst _)) ?_
  rw [c.K]
  rintro v σ H Q ⟨W, ρ, d, ρ', rel, r, em, q⟩
  unfold gtup at em
  split at em
  · rename_i ds
    cases r with
    | tup h1 h2 => exact ⟨_, _, rfl, h1.sq, by rw [h2.length, gset_len em], gset_ok rel h2 em q⟩
  · cases em
theorem pgsN_nil {X : Cx} : PGs X [] (gsN []) := pgs_nil
theorem pgsN_cons {X : Cx} {i : Nat} {x : Str} {p : Pos} {es : List Expr} {is : List Nat} (c : CxOk G S X) (h : StoOk S i x) (t : PGs X es (gsN is)) (hs : (assignEach (.Name x p :: es) X.env).map (·.2) = assign (.Name x p) X.env :: (assignEach es X.env).map (·.2)) : PGs X (.Name x p :: es) (gsN (i :: is)) :=
  pgs_cons (pg_name (i := i) c.nd (by rw [c.N]; exact h.1) (by rw [c.sc]; exact h.2.1) (by rw [c.sc, c.fn]; exact h.2.2)) t hs
end
def lstAt (ρ : En) (i : Nat) : Option (List D) := match ρ[i]?.join with
  | some (.box _ (.lst ds)) => some ds
  | _ => none
def mforI (g : MG) (b : MS) : List D → MS
  | [], ρ => some (.nx, ρ)
  | d :: ds, ρ => (g d ρ).bind fun ρ1 => (b ρ1).bind fun x => match x.1 with
    | .nx => mforI g b ds x.2
    | .ct => mforI g b ds x.2
    | .bk => some (.nx, x.2)
    | .rt r => some (.rt r, x.2)
/-- .. of a borrowed one -/
def lstB (ρ : En) (i : Nat) : Option (List D) := match ρ[i]?.join with
  | some (.box false (.lst ds)) => some ds
  | _ => none
def mforS (i : Nat) (g : MG) (b : MS) : List D → Nat → MS
  | [], n, ρ => (lstB ρ i).bind fun xs => (guardO (decide (xs.length ≤ n))).bind fun _ => some (.nx, ρ)
  | _ :: ds, n, ρ => (lstB ρ i).bind fun xs => (xs[n]?).bind fun d => (g d ρ).bind fun ρ1 => (b ρ1).bind fun x => match x.1 with
    | .nx => mforS i g b ds (n + 1) x.2
    | .ct => mforS i g b ds (n + 1) x.2
    | .bk => some (.nx, x.2)
    | .rt r => some (.rt r, x.2)
def mfor (mi : MI) (g : MG) (b : MS) : MS := fun ρ => (mi ρ).bind fun x => match x.1 with
  | .items ds => mforI g b ds x.2
  | .slot i ds => mforS i g b ds 0 x.2
/-- what follows a statement -/
def After (K : PySem.W.Frag) (W : Wd) (D : Ends) (o : O) (ρ' : En) (ρ : En) (σ : L2.St) (H : Hp) : Prop := match o with
  | .nx => ∀ σ' H', PostC K W ρ σ H ρ' σ' H' → D.nx σ' H'
  | .bk => ∀ σ' H', PostC K W ρ σ H ρ' σ' H' → D.bk σ' H'
  | .ct => ∀ σ' H', PostC K W ρ σ H ρ' σ' H' → D.ct σ' H'
  | .rt r => ∀ v σ' H', PostC K W ρ σ H ρ' σ' H' → RtRel K W ρ' σ' H' r v → D.rt v H'
theorem After.over {K : PySem.W.Frag} {W : Wd} {D : Ends} {o : O} {ρ' ρ ρ1 : En} {σ σ1 : L2.St} {H H1 : Hp} (a : After K W D o ρ' ρ σ H) (p : PostC K W ρ σ H ρ1 σ1 H1) : After K W D o ρ' ρ1 σ1 H1 := by
  cases o with
  | nx => exact fun σ2 H2 p2 => a σ2 H2 (p.trans p2)
  | bk => exact fun σ2 H2 p2 => a σ2 H2 (p.trans p2)
  | ct => exact fun σ2 H2 p2 => a σ2 H2 (p.trans p2)
  | rt r => exact fun v σ2 H2 p2 r2 => a v σ2 H2 (p.trans p2) r2
theorem lstAt_some {ρ : En} {i : Nat} {xs : List D} (h : lstAt ρ i = some xs) : ∃ o, ρ[i]? = some (some (.box o (.lst xs))) := by
  unfold lstAt at h
  split at h
  · rename_i o ds e
    cases h
    exact ⟨o, Option.join_eq_some_iff.mp e⟩
  · cases h
theorem lstB_some {ρ : En} {i : Nat} {xs : List D} (h : lstB ρ i = some xs) : ρ[i]? = some (some (.box false (.lst xs))) := by
  unfold lstB at h
  split at h
  · rename_i ds e
    cases h
    exact Option.join_eq_some_iff.mp e
  · cases h
theorem DRel.same {K : PySem.W.Frag} {W : Wd} {ρ : En} {σ : L2.St} {H H' : Hp} (h : DRel K W ρ σ H) (s : ∀ a o, H a = some o → H' a = some o) : PostC K W ρ σ H ρ σ H' := ((PostX.refl h).same s).toPostC
theorem ds_for {G : GC} {S : SC} {tg iter : Expr} {body : List Stmt} {mi : MI} {g : MG} {is : List Nat} {b : MS} {pos : Pos} (hi : DI G S tg iter mi) (hg : DG G S tg is g) (hb : DSs G S body b) (hs : ∀ (env : PySem.Env) x, foldedSetIterable iter env x = pure x) :
    DS G S (.For tg iter body [] pos) (mfor mi g b) := by
  intro X c
  refine PS.weak (ps_for (by rw [c.xe]; exact PassesOwn.never) c.calm (hi X c) (hg X c) (hb X c) (hs _)) ?_
  rintro D σ H ⟨W, ρ, o, ρ', rel, em, q⟩
  unfold mfor at em
  obtain ⟨⟨it, ρ1⟩, e1, em⟩ := Option.bind_eq_some_iff.mp em
  refine ⟨W, ρ, it, ρ1, rel, e1, fun J H1 p1 jt => ?_⟩
  have aft : After G.K W D o ρ' ρ σ H := q
  have aft1 := aft.over p1.toPostC
  cases it with
  | items ds =>
    have em : mforI g b ds ρ1 = some (o, ρ') := em
    refine ⟨fun i m σ2 H2 => ∃ ρ2, PostC G.K W ρ1 σ H1 ρ2 σ2 H2 ∧ m = (ds.drop i).length ∧ i ≤ ds.length ∧ mforI g b (ds.drop i) ρ2 = some (o, ρ'), ⟨ds.length, ρ1, PostC.refl p1.rel, rfl, Nat.zero_le _, em⟩, ?_⟩
    rintro i m σ2 H2 ⟨ρ2, p2, rfl, hi, e2⟩
    obtain ⟨j1, j2⟩ := jt _ _ (p2.evo p1.rel) p2.rel.trk
    cases hd : ds.drop i with
    | nil =>
      rw [hd] at e2
      cases e2
      refine .inl ⟨j2 i ?_, aft1 σ2 H2 p2⟩
      exact List.drop_eq_nil_iff.mp hd
    | cons d rest =>
      rw [hd] at e2
      have hi' : ds[i]? = some d := by
        have := congrArg List.head? hd
        rwa [List.head?_drop] at this
      have hrest : ds.drop (i + 1) = rest := by
        rw [show i + 1 = i + 1 from rfl, ← List.drop_drop (i := 1) (j := i), hd]; rfl
      have hlt : i < ds.length := (List.getElem?_eq_some_iff.mp hi').1
      obtain ⟨go, yl⟩ := j1 i d hi'
      refine .inr ⟨go, ?_⟩
      obtain ⟨ρ3, e3, e2⟩ := Option.bind_eq_some_iff.mp (show (g d ρ2).bind _ = _ from e2)
      obtain ⟨⟨o4, ρ4⟩, e4, e2⟩ := Option.bind_eq_some_iff.mp e2
      refine ⟨fun σ' H' => ∃ ρ5, PostC G.K W ρ1 σ H1 ρ5 σ' H' ∧ (o4 = .nx ∨ o4 = .ct) ∧ ρ5 = ρ4, fun σ' H' ⟨ρ5, p5, h5, e5⟩ => ⟨(ds.drop (i + 1)).length, by rw [hrest]; exact Nat.lt_succ_self _, ρ5, p5, rfl, hlt, ?_⟩, fun x H3 hy => ?_⟩
      · rw [hrest, e5]
        rcases h5 with h5 | h5
        · subst h5; exact e2
        · subst h5; exact e2
      · obtain ⟨s3, r3⟩ := yl x H3 hy
        have p3 := p2.rel.same s3
        refine ⟨W, ρ2, d, ρ3, p3.rel, r3, e3, fun σ3 p4 _ => ?_⟩
        have p34 := p2.trans (p3.trans p4)
        refine ⟨W, ρ3, o4, ρ4, p4.rel, e4, ?_⟩
        cases o4 with
        | nx => exact fun σ4 H4 p5 => ⟨ρ4, p34.trans p5, .inl rfl, rfl⟩
        | ct => exact fun σ4 H4 p5 => ⟨ρ4, p34.trans p5, .inr rfl, rfl⟩
        | bk => cases e2; exact fun σ4 H4 p5 => aft1 σ4 H4 (p34.trans p5)
        | rt r => cases e2; exact fun v σ4 H4 p5 r5 => aft1 v σ4 H4 (p34.trans p5) r5
  | slot i ds0 =>
    have em : mforS i g b ds0 0 ρ1 = some (o, ρ') := em
    obtain ⟨q0, ow, bx, hq, hb0, rfl, hB⟩ := jt
    -- the list at a turn
    have cur : ∀ {ρ2 : En} {σ2 : L2.St} {H2 : Hp} {xs : List PyData}, DRel G.K W ρ2 σ2 H2 → lstB ρ2 i = some xs → ow = false → ∃ ys, H2 q0 = some (.lst ys) ∧ RepL G.K (Av W.P ρ2 σ2) H2 ys xs := fun {ρ2 σ2 H2 xs} r2 hx ho => by
      have hx' : ρ2[i]? = some (some (.box false (.lst xs))) := lstB_some hx
      obtain ⟨q1, h1, h2, _, _, h3⟩ := r2.boxOk hx'
      have : q1 = q0 := by
        have e1 := h3 rfl
        rw [hB ho] at e1; cases e1; rfl
      subst this
      exact h2
    have hw : ow = false := by
      have hx : ∃ xs, lstB ρ1 i = some xs := by
        cases ds0 with
        | nil => obtain ⟨xs, h, _⟩ := Option.bind_eq_some_iff.mp (show (lstB ρ1 i).bind _ = _ from em); exact ⟨xs, h⟩
        | cons d ds => obtain ⟨xs, h, _⟩ := Option.bind_eq_some_iff.mp (show (lstB ρ1 i).bind _ = _ from em); exact ⟨xs, h⟩
      obtain ⟨xs, hx⟩ := hx
      rw [lstB_some hx] at hb0; cases hb0; rfl
    refine ⟨fun n m σ2 H2 => ∃ ρ2 ds, PostC G.K W ρ1 σ H1 ρ2 σ2 H2 ∧ m = ds.length ∧ mforS i g b ds n ρ2 = some (o, ρ'), ⟨ds0.length, ρ1, ds0, PostC.refl p1.rel, rfl, em⟩, ?_⟩
    rintro n m σ2 H2 ⟨ρ2, ds, p2, rfl, e2⟩
    cases ds with
    | nil =>
      obtain ⟨xs, hx, e2⟩ := Option.bind_eq_some_iff.mp (show (lstB ρ2 i).bind _ = _ from e2)
      obtain ⟨u, hl, e2⟩ := Option.bind_eq_some_iff.mp e2
      cases e2
      obtain ⟨ys, h1, h2⟩ := cur p2.rel hx hw
      exact .inl ⟨⟨ys, .inl (.inl h1), by rw [h2.length]; exact guardO_dec hl⟩, aft1 σ2 H2 p2⟩
    | cons d0 ds =>
      obtain ⟨xs, hx, e2⟩ := Option.bind_eq_some_iff.mp (show (lstB ρ2 i).bind _ = _ from e2)
      obtain ⟨d, hd, e2⟩ := Option.bind_eq_some_iff.mp e2
      obtain ⟨ρ3, e3, e2⟩ := Option.bind_eq_some_iff.mp e2
      obtain ⟨⟨o4, ρ4⟩, e4, e2⟩ := Option.bind_eq_some_iff.mp e2
      obtain ⟨ys, h1, h2⟩ := cur p2.rel hx hw
      obtain ⟨y, hy1, hy2⟩ := h2.get hd
      refine .inr ⟨⟨ys, y, .inl (.inl h1), hy1⟩, fun σ' H' => ∃ ρ5, PostC G.K W ρ1 σ H1 ρ5 σ' H' ∧ (o4 = .nx ∨ o4 = .ct) ∧ ρ5 = ρ4, fun σ' H' ⟨ρ5, p5, h5, e5⟩ => ⟨ds.length, Nat.lt_succ_self _, ρ5, ds, p5, rfl, ?_⟩, fun x H3 hy => ?_⟩
      · rw [e5]
        rcases h5 with h5 | h5
        · subst h5; exact e2
        · subst h5; exact e2
      · obtain ⟨e5, e6⟩ := hy
        subst e5
        have := e6 ys (.inl (.inl h1))
        rw [hy1] at this; cases this
        refine ⟨W, ρ2, d, ρ3, p2.rel, hy2, e3, fun σ3 p4 _ => ?_⟩
        have p34 := p2.trans p4
        refine ⟨W, ρ3, o4, ρ4, p4.rel, e4, ?_⟩
        cases o4 with
        | nx => exact fun σ4 H4 p5 => ⟨ρ4, p34.trans p5, .inl rfl, rfl⟩
        | ct => exact fun σ4 H4 p5 => ⟨ρ4, p34.trans p5, .inr rfl, rfl⟩
        | bk => cases e2; exact fun σ4 H4 p5 => aft1 σ4 H4 (p34.trans p5)
        | rt r => cases e2; exact fun v σ4 H4 p5 r5 => aft1 v σ4 H4 (p34.trans p5) r5
end L3
namespace L3
open PySem PySem.Spec PyProof.Rows L2
def wipeE (ρ : En) : List Nat → En
  | [] => ρ
  | v :: vs => (wipeE ρ vs).set v none
def restE (ρ0 ρ : En) (vs : List Nat) : En := ρ.mapIdx fun i a => if i ∈ vs then ρ0[i]?.join else a
def noBx (ρ : En) (vs : List Nat) : Bool := vs.all fun v => match ρ[v]?.join with
  | some (.box _ _) => false
  | _ => true
/-- one turn, the target's value known -/
def mturn (g : MG) (t : MT) (m : ME) (vs : List Nat) (d : D) (acc : List D) (ρ : En) : Option (List D × En) :=
  (g d (wipeE ρ vs)).bind fun ρ1 => (t ρ1).bind fun x => if x.1 = true then (m x.2).bind fun y => (fzs y.2 [y.1.fz]).bind fun z => match z.1 with
    | [d'] => (guardO (decide (acc.length < sizeLine))).bind fun _ => some (acc ++ [d'], z.2)
    | _ => none
  else some (acc, x.2)
def mlcI (g : MG) (t : MT) (m : ME) (vs : List Nat) : List D → List D → En → Option (List D × En)
  | [], acc, ρ => some (acc, ρ)
  | d :: ds, acc, ρ => (mturn g t m vs d acc ρ).bind fun x => mlcI g t m vs ds x.1 x.2
def mlcS (i : Nat) (g : MG) (t : MT) (m : ME) (vs : List Nat) : List D → Nat → List D → En → Option (List D × En)
  | [], n, acc, ρ => (lstAt ρ i).bind fun xs => (guardO (decide (xs.length ≤ n))).bind fun _ => some (acc, ρ)
  | _ :: ds, n, acc, ρ => (lstAt ρ i).bind fun xs => (xs[n]?).bind fun d => (mturn g t m vs d acc ρ).bind fun x => mlcS i g t m vs ds (n + 1) x.1 x.2
def mlc (mi : MI) (g : MG) (t : MT) (m : ME) (vs : List Nat) : ME := fun ρ => (mi ρ).bind fun x => (guardO (noBx x.2 vs)).bind fun _ => match x.1 with
  | .items ds => (mlcI g t m vs ds [] (wipeE x.2 vs)).bind fun y => some (.new (.lst y.1), restE x.2 y.2 vs)
  | .slot i ds => (guardO (decide (i ∉ vs))).bind fun _ => (mlcS i g t m vs ds 0 [] (wipeE x.2 vs)).bind fun y => some (.new (.lst y.1), restE x.2 y.2 vs)
theorem wipeE_get {ρ : En} : ∀ {vs : List Nat} {j : Nat}, (wipeE ρ vs)[j]? = if j ∈ vs then (ρ[j]?).map (fun _ => none) else ρ[j]?
  | [], j => by simp [wipeE]
  | v :: vs, j => by
    unfold wipeE
    rw [List.getElem?_set]
    have hl : (wipeE ρ vs).length = ρ.length := by
      clear j
      induction vs with
      | nil => rfl
      | cons w ws ih => unfold wipeE; rw [List.length_set, ih]
    by_cases e : v = j
    · subst e
      rw [if_pos rfl, hl]
      by_cases h : v < ρ.length
      · simp [h]
      · simp [h]
    · rw [if_neg e, wipeE_get (vs := vs)]
      have e' : ¬ j = v := fun z => e z.symm
      simp [e']
theorem wipe_get {σ : L2.St} : ∀ {vs : List Nat} {j : Nat}, (wipe σ vs)[j]? = if j ∈ vs then (σ[j]?).map (fun _ => none) else σ[j]?
  | [], j => by simp [wipe]
  | v :: vs, j => by
    unfold wipe
    rw [List.getElem?_set, wipe_length]
    by_cases e : v = j
    · subst e
      rw [if_pos rfl]
      by_cases h : v < σ.length
      · simp [h]
      · simp [h]
    · rw [if_neg e, wipe_get (vs := vs)]
      have e' : ¬ j = v := fun z => e z.symm
      simp [e']
theorem wipeE_len {ρ : En} {vs : List Nat} : (wipeE ρ vs).length = ρ.length := by
  induction vs with
  | nil => rfl
  | cons w ws ih => unfold wipeE; rw [List.length_set, ih]
theorem wipe_same {σ σ' : L2.St} {vs is : List Nat} (hs : ∀ i ∈ is, i ∈ vs) (hl : σ'.length = (wipe σ vs).length) (h : ∀ j, j ∉ is → σ'[j]? = (wipe σ vs)[j]?) : wipe σ' vs = wipe σ vs := by
  refine List.ext_getElem? fun j => ?_
  rw [wipe_get]
  by_cases hj : j ∈ vs
  · rw [if_pos hj]
    by_cases hlt : j < σ'.length
    · have h2 : j < (wipe σ vs).length := by omega
      have h3 : j < σ.length := by rwa [wipe_length] at h2
      rw [wipe_get, if_pos hj]
      simp [hlt, h3]
    · have h3 : ¬ j < σ.length := by rw [hl, wipe_length] at hlt; exact hlt
      rw [wipe_get, if_pos hj]
      simp [hlt, h3]
  · rw [if_neg hj]
    exact h j fun z => hj (hs j z)
section
variable {K : PySem.W.Frag} {W : Wd} {ρ ρ' : En} {σ : L2.St} {H H' : Hp} {vs : List Nat}
theorem wipeE_some {j : Nat} {a : A} (h : (wipeE ρ vs)[j]? = some (some a)) : j ∉ vs ∧ ρ[j]? = some (some a) := by
  rw [wipeE_get] at h
  split at h
  · obtain ⟨x, _, h2⟩ := Option.map_eq_some_iff.mp h
    cases h2
  · rename_i n; exact ⟨n, h⟩
/-- slots are forgotten -/
theorem DRel.wipe (h : DRel K W ρ σ H) (vs : List Nat) : DRel K W (wipeE ρ vs) (L2.wipe σ vs) H ∧ ∀ a, BoxAt (wipeE ρ vs) (L2.wipe σ vs) a → BoxAt ρ σ a := by
  have ws : ∀ j, j ∉ vs → (L2.wipe σ vs)[j]? = σ[j]? := fun j hj => by rw [wipe_get, if_neg hj]
  have sub : ∀ a, BoxAt (wipeE ρ vs) (L2.wipe σ vs) a → BoxAt ρ σ a := fun a ⟨j, o, b, e1, e2⟩ => by
    obtain ⟨n, e1⟩ := wipeE_some e1
    rw [ws j n] at e2
    exact ⟨j, o, b, e1, e2⟩
  have ev : Evo (Av W.P ρ σ) H (Av W.P (wipeE ρ vs) (L2.wipe σ vs)) H := mono_av fun a z => z.imp id (sub a)
  refine ⟨⟨by rw [wipeE_len, wipe_length]; exact h.len, fun j a e1 => ?_, fun j k o b o' b' q e1 e2 e3 e4 => ?_, h.prot, fun q z y => h.pdis q z (sub q y), h.keep, h.there⟩, sub⟩
  · obtain ⟨n, e1⟩ := wipeE_some e1
    obtain ⟨v, hv, r⟩ := h.sl j a e1
    exact ⟨v, by rw [ws j n]; exact hv, r.evo ev fun _ _ _ _ z => z⟩
  · obtain ⟨n, e1⟩ := wipeE_some e1
    obtain ⟨n2, e2⟩ := wipeE_some e2
    rw [ws j n] at e3; rw [ws k n2] at e4
    exact h.dis j k _ _ _ _ q e1 e2 e3 e4
/-- a protected object is written -/
theorem DRel.wr (h : DRel K W ρ σ H) {q : Addr} {o : HO} (hp : W.P q) (h0 : W.H0 q = none) : DRel K W ρ σ (upd H q o) := by
  have ev : Evo (Av W.P ρ σ) H (Av W.P ρ σ) (upd H q o) := ⟨fun a u e n => by rw [upd_ne (fun z => n (.inl (by rw [z]; exact hp)))]; exact e, fun a z => .inl z⟩
  refine ⟨h.len, fun j a e1 => ?_, h.dis, fun a z => ?_, h.pdis, fun a u z n => ?_, fun a u z => ?_⟩
  · obtain ⟨v, hv, r⟩ := h.sl j a e1
    refine ⟨v, hv, r.evo ev fun q' e2 e3 u e4 => ?_⟩
    have nq : q' ≠ q := fun z => by
      subst z; subst e2
      cases a with
      | dat d => cases e3
      | box ow b => exact h.pdis _ hp ⟨j, ow, b, e1, hv⟩
    rw [upd_ne nq]; exact e4
  · by_cases e : a = q
    · subst e; exact ⟨_, upd_same⟩
    · obtain ⟨u, z⟩ := h.prot a z; exact ⟨u, by rw [upd_ne e]; exact z⟩
  · have e : a ≠ q := fun z' => by subst z'; rw [h0] at z; cases z
    rw [upd_ne e]; exact h.keep a u z n
  · have e : a ≠ q := fun z' => by subst z'; rw [h0] at z; cases z
    obtain ⟨u', z⟩ := h.there a u z
    exact ⟨u', by rw [upd_ne e]; exact z⟩
end
abbrev Wd.D (W : Wd) (q : Addr) : Wd := W.pl fun a => V.ref q = V.ref a
/-- the state of a comprehension's block between two turns; D: the new list -/
structure Chn (K : PySem.W.Frag) (W : Wd) (q : Addr) (σ : L2.St) (ρ : En) (H : Hp) (ρ' : En) (H' : Hp) (acc : List D) : Prop where
  rel : DRel K (W.D q) ρ' σ H'
  ext : ∀ a o, H a = some o → ¬ BoxAt ρ σ a → a ≠ q → H' a = some o
  thr : ∀ a o, H a = some o → ∃ o', H' a = some o'
  sub : ∀ a, BoxAt ρ' σ a → BoxAt ρ σ a
  stay : ∀ (i : Nat) (a : A), ρ[i]? = some (some a) → ∃ a', ρ'[i]? = some (some a')
  lst : ∃ xs, H' q = some (.lst xs) ∧ RepL K (Av (W.D q).P ρ' σ) H' xs acc
section
variable {G : GC} {S : SC}
def SC.blk (S : SC) (scope : Scope) : SC := ⟨S.N, relS scope S.sc, fun x => scope.names.lookup x == some .cell, S.k⟩
theorem CxOk.blk {X : Cx} (c : CxOk G S X) (scope : Scope) (s : Shared) (H : Hp) (C : Addr) (cl : List (Str × Addr)) (fp : List Addr) : CxOk G (S.blk scope) (X.blk s H scope (compEnvC scope cl C X.env) fp) where
  prog := c.prog
  w := c.w
  K := c.K
  mg := c.mg
  base := c.base
  N := c.N
  sc := by rw [show (S.blk scope).sc = relS scope S.sc from rfl, ← c.sc]; rfl
  fn := rfl
  calm := c.calm
  room := c.room
  gd := c.gd
  nd := c.nd
  xe := rfl
def DTs (G : GC) (S : SC) (es : List Expr) (m : MT) : Prop := ∀ X, CxOk G S X → PTs X es (rdT G.K m)
theorem PTs.weak {X : Cx} {e : List Expr} {t t' : TT} (h : PTs X e t) (w : ∀ σ H Q, t' σ H Q → t σ H Q) : PTs X e t' := ⟨fun p s σ H Q I q => h.run p s σ H Q I (w _ _ _ q)⟩
def myes : MT := fun ρ => some (true, ρ)
theorem dts_nil : DTs G S [] myes := fun X c => PTs.weak pts_nil fun σ H Q ⟨W, ρ, r, ρ', rel, em, q⟩ => by
  cases em
  exact q H (PostX.refl rel)
theorem dts_one {c : Expr} {m : MT} (h : DT G S c m) : DTs G S [c] m := fun X cx => pts_one (h X cx)
/-- a turn -/
theorem turn_ok {K : PySem.W.Frag} {W : Wd} {q : Addr} {σ : L2.St} {ρ0 ρb ρc : En} {H0 Hb : Hp} {acc acc' : List D} {is vs : List Nat} {g : MG} {t : MT} {m : ME} {d : D} {x : V} {Nx : Hp → Prop} (hs : ∀ i ∈ is, i ∈ vs) (stay1 : ∀ {ρ1 : En}, g d (wipeE ρb vs) = some ρ1 → ∀ (i : Nat) (a : A), i ∉ is → (wipeE ρb vs)[i]? = some (some a) → ∃ a', ρ1[i]? = some (some a')) (h0 : W.H0 q = none)
    (c : Chn K W q (wipe σ vs) (wipeE ρ0 vs) H0 (wipeE ρb vs) Hb acc) (rx : Rep K (Av (W.D q).P (wipeE ρb vs) (wipe σ vs)) Hb x d) (e : mturn g t m vs d acc ρb = some (acc', ρc))
    (nx : ∀ H', Chn K W q (wipe σ vs) (wipeE ρ0 vs) H0 (wipeE ρc vs) H' acc' → Nx H') :
    rdG K is g x (wipe σ vs) Hb fun σ2 H2 => wipe σ2 vs = wipe σ vs ∧ rdT K t σ2 H2 fun b H3 => if b = true then rd K m σ2 H3 fun y H4 => ∃ acc, H4 q = some (.lst acc) ∧ acc.length < sizeLine ∧ Nx (upd H4 q (.lst (acc ++ [y]))) else Nx H3 := by
  unfold mturn at e
  obtain ⟨ρ1, e1, e⟩ := Option.bind_eq_some_iff.mp e
  obtain ⟨⟨b, ρ2⟩, e2, e⟩ := Option.bind_eq_some_iff.mp e
  refine ⟨W.D q, wipeE ρb vs, d, ρ1, c.rel, rx, e1, fun σ2 p1 ch => ?_⟩
  have hw : wipe σ2 vs = wipe σ vs := wipe_same hs ch.1 ch.2
  -- slots outside of vs are the same in σ2
  have hout : ∀ j, j ∉ vs → σ2[j]? = (wipe σ vs)[j]? := fun j hj => ch.2 j fun z => hj (hs j z)
  refine ⟨hw, W.D q, ρ1, b, ρ2, p1.rel, e2, fun H3 p2 => ?_⟩
  have sb1 : ∀ a, BoxAt ρ1 σ2 a → BoxAt (wipeE ρb vs) (wipe σ vs) a := fun a z => by
    rcases p1.new a z with y | y
    · exact y
    · obtain ⟨o, y'⟩ := p1.rel.boxThere z
      rw [y] at y'; cases y'
  have st1 : ∀ (i : Nat) (a : A), i ∉ vs → (wipeE ρb vs)[i]? = some (some a) → ∃ a', ρ1[i]? = some (some a') := fun i a n e => stay1 e1 i a (fun z => n (hs i z)) e
  -- a step of the block, wiped
  have fin : ∀ {ρ3 : En} {H4 : Hp} {accn : List PyData}, PostX K (W.D q) ρ1 σ2 Hb ρ3 H4 → Chn K W q (wipe σ vs) (wipeE ρ0 vs) H0 (wipeE ρ3 vs) H4 acc ∧ Evo (Av (W.D q).P ρ3 σ2) H4 (Av (W.D q).P (wipeE ρ3 vs) (wipe σ vs)) H4 := fun {ρ3 H4 accn} p => by
    obtain ⟨r1, s1⟩ := p.rel.wipe vs
    rw [hw] at r1 s1
    have ev : Evo (Av (W.D q).P (wipeE ρb vs) (wipe σ vs)) Hb (Av (W.D q).P (wipeE ρ3 vs) (wipe σ vs)) H4 := ⟨fun a o h n => p.ext a o h fun z => n (.inr (sb1 a z)), fun a z => .inl (z.imp id fun z => sb1 a (p.sub a (s1 a z)))⟩
    refine ⟨⟨r1, fun a o h n nq => p.ext a o (c.ext a o h n nq) fun z => n (c.sub a (sb1 a z)), fun a o h => ?_, fun a z => c.sub a (sb1 a (p.sub a (s1 a z))), fun i a h => ?_, ?_⟩, mono_av fun a z => z.imp id (s1 a)⟩
    · obtain ⟨o', h'⟩ := c.thr a o h
      exact p.thr a o' h'
    · obtain ⟨a1, h1⟩ := c.stay i a h
      obtain ⟨n, _⟩ := wipeE_some h
      obtain ⟨a2, h2⟩ := st1 i a1 n h1
      obtain ⟨a3, h3⟩ := p.stay i a2 h2
      exact ⟨a3, by rw [wipeE_get, if_neg n]; exact h3⟩
    · obtain ⟨xs, l1, l2⟩ := c.lst
      exact ⟨xs, p.ext q _ l1 fun z => c.rel.pdis q (.inr rfl) (sb1 q z), RepL.evo ev _ _ l2⟩
  cases b with
  | false =>
    rw [if_neg Bool.false_ne_true] at e
    cases e
    exact iteF (nx H3 (fin (accn := []) p2).1)
  | true =>
    rw [if_pos rfl] at e
    refine iteT ?_
    obtain ⟨⟨r, ρ3⟩, e3, e⟩ := Option.bind_eq_some_iff.mp e
    obtain ⟨⟨ds, ρ4⟩, e4, e⟩ := Option.bind_eq_some_iff.mp e
    refine ⟨W.D q, ρ2, r, ρ3, p2.rel, e3, fun y H4 p3 => ?_⟩
    have f3 : FRels K (Av (W.D q).P ρ3 σ2) ρ3 σ2 H4 [r.fz] [y] := .cons (p3.res.fz p3.toPostX p2.rel) .nil
    obtain ⟨p4, rl⟩ := fzs_ok p3.rel f3 e4
    cases rl with
    | cons r0 tl =>
      cases tl
      obtain ⟨u, e5, e⟩ := Option.bind_eq_some_iff.mp e
      cases e
      obtain ⟨cn, evw⟩ := fin (accn := []) (p2.trans (p3.toPostX.trans p4))
      obtain ⟨xs, l1, l2⟩ := cn.lst
      refine ⟨xs, l1, by rw [l2.length]; exact guardO_dec e5, nx _ ?_⟩
      have hq0 : (W.D q).H0 q = none := h0
      have evq : Evo (Av (W.D q).P (wipeE ρ4 vs) (wipe σ vs)) H4 (Av (W.D q).P (wipeE ρ4 vs) (wipe σ vs)) (upd H4 q (.lst (xs ++ [y]))) := ⟨fun a u h n => by rw [upd_ne (fun z => n (.inl (.inr (by rw [z]))))]; exact h, fun a z => .inl z⟩
      refine ⟨cn.rel.wr (.inr rfl) hq0, fun a o h n nq => by rw [upd_ne nq]; exact cn.ext a o h n nq, fun a o h => ?_, cn.sub, cn.stay, xs ++ [y], upd_same, RepL.evo evq _ _ (l2.snoc (Rep.evo evw _ _ r0))⟩
      by_cases ea : a = q
      · subst ea; exact ⟨_, upd_same⟩
      · obtain ⟨o', h'⟩ := cn.thr a o h
        exact ⟨o', by rw [upd_ne ea]; exact h'⟩
def GStay (g : MG) (is : List Nat) : Prop := ∀ (d : PyData) (ρ ρ1 : En), g d ρ = some ρ1 → ∀ (i : Nat) (a : A), i ∉ is → ρ[i]? = some (some a) → ∃ a', ρ1[i]? = some (some a')
theorem gnm_stay (i : Nat) : GStay (gnm i) [i] := fun d ρ ρ1 h j a n e => by
  obtain ⟨u, _, h2⟩ := Option.map_eq_some_iff.mp (show (guardO (notBor ρ i)).map _ = _ from h)
  subst h2
  exact ⟨a, by rw [List.getElem?_set_ne fun z => n (by rw [z]; exact List.mem_singleton_self _)]; exact e⟩
theorem gset_stay : ∀ {is : List Nat} {ds : List PyData} {ρ ρ1 : En}, gset is ds ρ = some ρ1 → ∀ (i : Nat) (a : A), i ∉ is → ρ[i]? = some (some a) → ∃ a', ρ1[i]? = some (some a')
  | [], [], _, _, h, i, a, _, e => by cases h; exact ⟨a, e⟩
  | j :: is, d :: ds, ρ, _, h, i, a, n, e => by
    obtain ⟨u, h1, h2⟩ := Option.bind_eq_some_iff.mp (show (guardO (notBor _ j)).bind _ = _ from h)
    exact gset_stay h2 i a (fun z => n (List.mem_cons_of_mem _ z)) (by rw [List.getElem?_set_ne fun z => n (by rw [z]; exact List.mem_cons_self)]; exact e)
  | [], _ :: _, _, _, h, _, _, _, _ => by simp [gset] at h
  | _ :: _, [], _, _, h, _, _, _, _ => by simp [gset] at h
theorem gtup_stay (is : List Nat) : GStay (gtup is) is := fun d ρ ρ1 h => by
  unfold gtup at h
  split at h
  · exact gset_stay h
  · cases h
theorem wipeE_idem {ρ : En} {vs : List Nat} : wipeE (wipeE ρ vs) vs = wipeE ρ vs := by
  refine List.ext_getElem? fun j => ?_
  rw [wipeE_get]
  by_cases hj : j ∈ vs
  · rw [if_pos hj, wipeE_get, if_pos hj]
    cases ρ[j]? <;> rfl
  · rw [if_neg hj]
theorem restE_get {ρ0 ρ : En} {vs : List Nat} {j : Nat} : (restE ρ0 ρ vs)[j]? = (ρ[j]?).map fun a => if j ∈ vs then ρ0[j]?.join else a := by
  unfold restE
  rw [List.getElem?_mapIdx]
theorem noBx_not {ρ : En} {vs : List Nat} (h : noBx ρ vs = true) {j : Nat} (hj : j ∈ vs) (o : Bool) (b : Bx) : ρ[j]? ≠ some (some (.box o b)) := fun e => by
  have := List.all_eq_true.mp h j hj
  rw [show ρ[j]?.join = some (A.box o b) by rw [e]; rfl] at this
  cases this
/-- the block's end -/
theorem chn_end {K : PySem.W.Frag} {W : Wd} {ρ ρ1 ρf : En} {σ : L2.St} {H H1 Hf : Hp} {vs : List Nat} {q : Addr} {acc : List D} (p1 : PostX K W ρ σ H ρ1 H1) (hD : H1 q = none) (nb : noBx ρ1 vs = true)
    (c : Chn K W q (wipe σ vs) (wipeE ρ1 vs) H1 (wipeE ρf vs) Hf acc) : PostE K W ρ σ H (.new (.lst acc)) (restE ρ1 ρf vs) (.ref q) Hf := by
  have hln : ρf.length = ρ1.length := by
    have h1 := c.rel.len
    rw [wipeE_len, wipe_length] at h1
    rw [h1, p1.rel.len]
  have rget : ∀ {j : Nat} {a : A}, (restE ρ1 ρf vs)[j]? = some (some a) → (j ∈ vs ∧ ρ1[j]? = some (some a)) ∨ (j ∉ vs ∧ (wipeE ρf vs)[j]? = some (some a)) := fun {j a} e => by
    rw [restE_get] at e
    obtain ⟨x, e1, e2⟩ := Option.map_eq_some_iff.mp e
    by_cases hj : j ∈ vs
    · rw [if_pos hj] at e2
      exact .inl ⟨hj, Option.join_eq_some_iff.mp e2⟩
    · rw [if_neg hj] at e2
      subst e2
      exact .inr ⟨hj, by rw [wipeE_get, if_neg hj]; exact e1⟩
  have wσ : ∀ {j : Nat}, j ∉ vs → (wipe σ vs)[j]? = σ[j]? := fun {j} hj => by rw [wipe_get, if_neg hj]
  have sub0 : ∀ a, BoxAt (wipeE ρ1 vs) (wipe σ vs) a → BoxAt ρ1 σ a := (p1.rel.wipe vs).2
  have subr : ∀ a, BoxAt (restE ρ1 ρf vs) σ a → BoxAt (wipeE ρf vs) (wipe σ vs) a := fun a ⟨j, o, b, e1, e2⟩ => by
    rcases rget e1 with ⟨hj, z⟩ | ⟨hj, z⟩
    · exact (noBx_not nb hj o b z).elim
    · exact ⟨j, o, b, z, by rw [wσ hj]; exact e2⟩
  have sub : ∀ a, BoxAt (restE ρ1 ρf vs) σ a → BoxAt ρ1 σ a := fun a z => sub0 a (c.sub a (subr a z))
  have ext : ∀ a o, H1 a = some o → ¬ BoxAt ρ1 σ a → Hf a = some o := fun a o h n => c.ext a o h (fun z => n (sub0 a z)) fun z => by rw [z, hD] at h; cases h
  have ev1 : Evo (Av W.P ρ1 σ) H1 (Av (W.D q).P (restE ρ1 ρf vs) σ) Hf := ⟨fun a o h n => ext a o h fun z => n (.inr z), fun a z => by
    rcases z with (z | z) | z
    · exact .inl (.inl z)
    · refine .inr ?_
      cases z; exact hD
    · exact .inl (.inr (sub a z))⟩
  have ev2 : Evo (Av (W.D q).P (wipeE ρf vs) (wipe σ vs)) Hf (Av (W.D q).P (restE ρ1 ρf vs) σ) Hf := mono_av fun a z => z.imp id (subr a)
  have r : DRel K (W.D q) (restE ρ1 ρf vs) σ Hf := by
    refine ⟨by unfold restE; rw [List.length_mapIdx, hln]; exact p1.rel.len, fun j a e1 => ?_, fun j k o b o' b' q' e1 e2 e3 e4 => ?_, c.rel.prot, fun a z y => c.rel.pdis a z (subr a y), c.rel.keep, c.rel.there⟩
    · rcases rget e1 with ⟨hj, z⟩ | ⟨hj, z⟩
      · cases a with
        | box o b => exact (noBx_not nb hj o b z).elim
        | dat d =>
          obtain ⟨v, hv, rr⟩ := p1.rel.sl j _ z
          exact ⟨v, hv, Rep.evo ev1 _ _ rr⟩
      · obtain ⟨v, hv, rr⟩ := c.rel.sl j _ z
        rw [wσ hj] at hv
        exact ⟨v, hv, rr.evo ev2 fun _ _ _ _ z => z⟩
    · rcases rget e1 with ⟨hj, z⟩ | ⟨hj, z⟩
      · exact (noBx_not nb hj o b z).elim
      · rcases rget e2 with ⟨hk, z2⟩ | ⟨hk, z2⟩
        · exact (noBx_not nb hk o' b' z2).elim
        · exact c.rel.dis j k _ _ _ _ q' z z2 (by rw [wσ hj]; exact e3) (by rw [wσ hk]; exact e4)
  have px : PostX K W ρ1 σ H1 (restE ρ1 ρf vs) Hf := by
    refine ⟨⟨r.unpl, ext, c.thr, fun a z => .inl (sub a z)⟩, fun i a h => ?_, sub⟩
    have hi : i < ρf.length := by rw [hln]; exact (List.getElem?_eq_some_iff.mp h).1
    rw [restE_get]
    by_cases hj : i ∈ vs
    · refine ⟨a, ?_⟩
      rw [List.getElem?_eq_getElem hi, Option.map_some, if_pos hj, h]
      rfl
    · obtain ⟨a', h'⟩ := c.stay i a (by rw [wipeE_get, if_neg hj]; exact h)
      rw [wipeE_get, if_neg hj] at h'
      exact ⟨a', by rw [h', Option.map_some, if_neg hj]⟩
  refine ⟨p1.trans px, ⟨q, rfl, p1.free hD, ?_⟩, r⟩
  obtain ⟨xs, l1, l2⟩ := c.lst
  refine ⟨xs, l1, RepL.evo (mono_av fun a z => ?_) _ _ l2⟩
  rcases z with z | z
  · exact z.elim (fun z => .inl (.inl z)) fun z => .inr (subr a z)
  · exact .inl (.inr (by rw [z]))
theorem chn_start {K : PySem.W.Frag} {W : Wd} {ρ ρ1 : En} {σ : L2.St} {H H1 : Hp} {vs : List Nat} {q : Addr} (p1 : PostX K W ρ σ H ρ1 H1) (hD : H1 q = none) :
    Chn K W q (wipe σ vs) (wipeE ρ1 vs) H1 (wipeE (wipeE ρ1 vs) vs) (upd H1 q (.lst [])) [] := by
  rw [wipeE_idem]
  refine ⟨((p1.rel.wipe vs).1).grow (fresh_upd hD) (fun a z => by cases z; exact hD) (fun a z => by cases z; exact ⟨_, upd_same⟩), fun a o h n nq => fresh_upd hD a o h, fun a o h => ⟨o, fresh_upd hD a o h⟩, fun a z => z, fun i a h => ⟨a, h⟩, [], upd_same, .nil⟩
theorem lcrd {K : PySem.W.Frag} {mi : MI} {g : MG} {is vs : List Nat} {t : MT} {m : ME} (hsub : ∀ i ∈ is, i ∈ vs) (st : GStay g is) (σ : L2.St) (H : Hp) (Q : VK) (h : rd K (mlc mi g t m vs) σ H Q) : tLc (rdI K mi) (rdG K is g) (rdT K t) (rd K m) vs σ H Q := by
  obtain ⟨W, ρ, r, ρ', rel, em, q⟩ := h
  unfold mlc at em
  obtain ⟨⟨it, ρ1⟩, e1, em⟩ := Option.bind_eq_some_iff.mp em
  obtain ⟨u, e2, em⟩ := Option.bind_eq_some_iff.mp em
  refine ⟨W, ρ, it, ρ1, rel, e1, fun J H1 p1 jt q0 hD => ?_⟩
  have h0 : W.H0 q0 = none := by
    cases z : W.H0 q0 with
    | none => rfl
    | some o => obtain ⟨o', z'⟩ := p1.rel.there q0 o z; rw [hD] at z'; cases z'
  have sub0 : ∀ a, BoxAt (wipeE ρ1 vs) (wipe σ vs) a → BoxAt ρ1 σ a := (p1.rel.wipe vs).2
  cases it with
  | items ds =>
    obtain ⟨⟨acc, ρf⟩, e3, em⟩ := Option.bind_eq_some_iff.mp em
    cases em
    refine ⟨fun i mm Hc => ∃ ρb acc', Chn K W q0 (wipe σ vs) (wipeE ρ1 vs) H1 (wipeE ρb vs) Hc acc' ∧ mm = (ds.drop i).length ∧ i ≤ ds.length ∧ mlcI g t m vs (ds.drop i) acc' ρb = some (acc, ρf), ⟨ds.length, wipeE ρ1 vs, [], chn_start p1 hD, rfl, Nat.zero_le _, e3⟩, ?_⟩
    rintro i mm Hc ⟨ρb, acc', c, rfl, hle, e4⟩
    have ev : Evo (Av W.P ρ1 σ) H1 (Av (W.D q0).P (wipeE ρb vs) (wipe σ vs)) Hc := ⟨fun a o h n => c.ext a o h (fun z => n (.inr (sub0 a z))) (fun z => by rw [z, hD] at h; cases h), fun a z => by
      rcases z with (z | z) | z
      · exact .inl (.inl z)
      · refine .inr ?_
        cases z; exact hD
      · exact .inl (.inr (sub0 a (c.sub a z)))⟩
    obtain ⟨j1, j2⟩ := jt _ _ ev c.rel.trk
    cases hd : ds.drop i with
    | nil =>
      rw [hd] at e4
      cases e4
      exact .inl ⟨j2 i (List.drop_eq_nil_iff.mp hd), q _ Hc (chn_end p1 hD (guardO_some e2) c)⟩
    | cons d rest =>
      rw [hd] at e4
      have hi' : ds[i]? = some d := by
        have := congrArg List.head? hd
        rwa [List.head?_drop] at this
      have hrest : ds.drop (i + 1) = rest := by
        rw [← List.drop_drop (i := 1) (j := i), hd]; rfl
      have hlt : i < ds.length := (List.getElem?_eq_some_iff.mp hi').1
      obtain ⟨go, yl⟩ := j1 i d hi'
      obtain ⟨⟨acc2, ρ2⟩, e5, e4⟩ := Option.bind_eq_some_iff.mp (show (mturn g t m vs d acc' ρb).bind _ = _ from e4)
      refine .inr ⟨go, fun H' => Chn K W q0 (wipe σ vs) (wipeE ρ1 vs) H1 (wipeE ρ2 vs) H' acc2, fun H' c' => ⟨(ds.drop (i + 1)).length, by rw [hrest]; exact Nat.lt_succ_self _, ρ2, acc2, c', rfl, hlt, by rw [hrest]; exact e4⟩, fun x H3 hy => ?_⟩
      obtain ⟨s3, r3⟩ := yl x H3 hy
      have c3 : Chn K W q0 (wipe σ vs) (wipeE ρ1 vs) H1 (wipeE ρb vs) H3 acc' := by
        have p := c.rel.same s3
        refine ⟨p.rel, fun a o h n nq => s3 _ _ (c.ext a o h n nq), fun a o h => ?_, c.sub, c.stay, ?_⟩
        · obtain ⟨o', h'⟩ := c.thr a o h; exact ⟨o', s3 _ _ h'⟩
        · obtain ⟨xs, l1, l2⟩ := c.lst
          exact ⟨xs, s3 _ _ l1, RepL.evo (p.evo c.rel) _ _ l2⟩
      exact turn_ok hsub (fun hh => st _ _ _ hh) h0 c3 r3 e5 fun H' c' => c'
  | slot i0 ds0 =>
    obtain ⟨u2, e6, em⟩ := Option.bind_eq_some_iff.mp em
    obtain ⟨⟨acc, ρf⟩, e3, em⟩ := Option.bind_eq_some_iff.mp em
    cases em
    obtain ⟨qs, ow, bx, hq, hb0, rfl, hB⟩ := jt
    have hi0 : i0 ∉ vs := guardO_dec e6
    have cur : ∀ {ρb : En} {Hc : Hp} {acc' xs : List PyData}, Chn K W q0 (wipe σ vs) (wipeE ρ1 vs) H1 (wipeE ρb vs) Hc acc' → lstAt ρb i0 = some xs → ∃ ys, Hc qs = some (.lst ys) ∧ RepL K (Av (W.D q0).P (wipeE ρb vs) (wipe σ vs)) Hc ys xs := fun {ρb Hc acc' xs} c hx => by
      obtain ⟨o, hx'⟩ := lstAt_some hx
      obtain ⟨q1, h1, h2, _⟩ := c.rel.boxOk (i := i0) (by rw [wipeE_get, if_neg hi0]; exact hx')
      rw [wipe_get, if_neg hi0, hq] at h1
      cases h1
      exact h2
    refine ⟨fun i mm Hc => ∃ ρb acc' ds, Chn K W q0 (wipe σ vs) (wipeE ρ1 vs) H1 (wipeE ρb vs) Hc acc' ∧ mm = ds.length ∧ mlcS i0 g t m vs ds i acc' ρb = some (acc, ρf), ⟨ds0.length, wipeE ρ1 vs, [], ds0, chn_start p1 hD, rfl, e3⟩, ?_⟩
    rintro i mm Hc ⟨ρb, acc', ds, c, rfl, e4⟩
    cases ds with
    | nil =>
      obtain ⟨xs, hx, e4⟩ := Option.bind_eq_some_iff.mp (show (lstAt ρb i0).bind _ = _ from e4)
      obtain ⟨u3, hl, e4⟩ := Option.bind_eq_some_iff.mp e4
      cases e4
      obtain ⟨ys, h1, h2⟩ := cur c hx
      exact .inl ⟨⟨ys, .inl (.inl h1), by rw [h2.length]; exact guardO_dec hl⟩, q _ Hc (chn_end p1 hD (guardO_some e2) c)⟩
    | cons d0 ds =>
      obtain ⟨xs, hx, e4⟩ := Option.bind_eq_some_iff.mp (show (lstAt ρb i0).bind _ = _ from e4)
      obtain ⟨d, hd, e4⟩ := Option.bind_eq_some_iff.mp e4
      obtain ⟨⟨acc2, ρ2⟩, e5, e4⟩ := Option.bind_eq_some_iff.mp e4
      obtain ⟨ys, h1, h2⟩ := cur c hx
      obtain ⟨y, hy1, hy2⟩ := h2.get hd
      refine .inr ⟨⟨ys, y, .inl (.inl h1), hy1⟩, fun H' => Chn K W q0 (wipe σ vs) (wipeE ρ1 vs) H1 (wipeE ρ2 vs) H' acc2, fun H' c' => ⟨ds.length, Nat.lt_succ_self _, ρ2, acc2, ds, c', rfl, e4⟩, fun x H3 hy => ?_⟩
      obtain ⟨e7, e8⟩ := hy
      subst e7
      have := e8 ys (.inl (.inl h1))
      rw [hy1] at this; cases this
      exact turn_ok hsub (fun hh => st _ _ _ hh) h0 c hy2 e5 fun H' c' => c'
theorem de_lc {elt tg iter : Expr} {ifs : List Expr} {scope : Scope} {own : List (Str × Nat)} {pos : Pos} {mi : MI} {g : MG} {is : List Nat} {t : MT} {m : ME} (hi : DI G S tg iter mi) (ok : BlkOk S.N S.sc scope own)
    (hg : DG G (S.blk scope) tg is g) (ht : DTs G (S.blk scope) ifs t) (he : DE G (S.blk scope) elt m) (hsub : ∀ i ∈ is, i ∈ own.map (·.2)) (st : GStay g is) (hs : ∀ (env : PySem.Env) x, foldedSetIterable iter env x = pure x) :
    DE G S (.ListComp elt [⟨tg, iter, ifs, 0⟩] scope pos) (mlc mi g t m (own.map (·.2))) := by
  intro X c
  refine PE.weak (pe_lc c.calm c.nd (hi X c) (by rw [c.N, c.sc]; exact ok) (fun s H C cl fp => hg _ (c.blk scope s H C cl fp)) (fun s H C cl fp => ht _ (c.blk scope s H C cl fp)) (fun s H C cl fp => he _ (c.blk scope s H C cl fp)) (hs _)) ?_
  exact lcrd hsub st
end
end L3
namespace L3
open PySem PySem.Spec PyProof.Rows L2
def valKD (kvs : List (Key × D)) (k : Key) : Option D := (kvs.find? fun kv => decide (kv.1 = k)).map (·.2)
def putKD (kvs : List (Key × D)) (k : Key) (v : D) : List (Key × D) :=
  if (kvs.any fun kv => decide (kv.1 = k)) = true then kvs.map (fun kv => if kv.1 = k then (kv.1, v) else kv) else kvs ++ [(k, v)]
def keyD : D → Option Key
  | .int i => some (.inl i)
  | .str x => some (.inr x)
  | _ => none
theorem kD_inj {a b : Key} (h : kD a = kD b) : a = b := by
  cases a <;> cases b <;> cases h <;> rfl
theorem keyD_some {d : D} {k : Key} (h : keyD d = some k) : d = kD k := by
  cases d <;> first | (cases h; rfl) | cases h
theorem keyD_kD (k : Key) : keyD (kD k) = some k := by cases k <;> rfl
section
variable {K : PySem.W.Frag} {N : Addr → Prop} {H : Hp}
theorem RepK.put {ks : List (Key × V)} {kvs : List (Key × D)} {v : V} {d : D} (k : Key) (h : RepK K N H ks (dkv kvs)) (r : Rep K N H v d) : RepK K N H (putK ks k v) (dkv (putKD kvs k d)) := by
  have ha : ∀ {ks : List (Key × V)} {kvs : List (Key × D)}, RepK K N H ks (dkv kvs) → (ks.any fun kv => decide (kv.1 = k)) = (kvs.any fun kv => decide (kv.1 = k)) := by
    intro ks kvs
    induction kvs generalizing ks with
    | nil => intro h; cases h; rfl
    | cons p r ih =>
      intro h
      obtain ⟨pk, pd⟩ := p
      generalize he : dkv ((pk, pd) :: r) = ds at h
      cases h with
      | nil => cases he
      | cons r1 t =>
        have he' : (kD pk, pd) :: dkv r = _ := he
        injection he' with h1 h2
        injection h1 with h3 h4
        have := kD_inj h3
        subst this
        subst h2
        simp only [List.any_cons, ih t]
  have hm : ∀ {ks : List (Key × V)} {kvs : List (Key × D)}, RepK K N H ks (dkv kvs) → RepK K N H (ks.map fun kv => if kv.1 = k then (kv.1, v) else kv) (dkv (kvs.map fun kv => if kv.1 = k then (kv.1, d) else kv)) := by
    intro ks kvs
    induction kvs generalizing ks with
    | nil => intro h; cases h; exact .nil
    | cons p r' ih =>
      intro h
      obtain ⟨pk, pd⟩ := p
      generalize he : dkv ((pk, pd) :: r') = ds at h
      cases h with
      | nil => cases he
      | cons r1 t =>
        have he' : (kD pk, pd) :: dkv r' = _ := he
        injection he' with h1 h2
        injection h1 with h3 h4
        have := kD_inj h3
        subst this
        subst h2
        subst h4
        by_cases e : pk = k
        · simp only [List.map_cons, if_pos e]
          exact .cons r (ih t)
        · simp only [List.map_cons, if_neg e]
          exact .cons r1 (ih t)
  have hs : ∀ {ks : List (Key × V)} {kvs : List (Key × D)}, RepK K N H ks (dkv kvs) → RepK K N H (ks ++ [(k, v)]) (dkv (kvs ++ [(k, d)])) := by
    intro ks kvs
    induction kvs generalizing ks with
    | nil => intro h; cases h; exact .cons r .nil
    | cons p r' ih =>
      intro h
      obtain ⟨pk, pd⟩ := p
      generalize he : dkv ((pk, pd) :: r') = ds at h
      cases h with
      | nil => cases he
      | cons r1 t =>
        have he' : (kD pk, pd) :: dkv r' = _ := he
        injection he' with h1 h2
        injection h1 with h3 h4
        have := kD_inj h3
        subst this
        subst h2
        subst h4
        exact .cons r1 (ih t)
  unfold putK putKD
  rw [ha h]
  split
  · exact hm h
  · exact hs h
theorem RepK.val {ks : List (Key × V)} {kvs : List (Key × D)} {k : Key} (h : RepK K N H ks (dkv kvs)) : (∀ d, valKD kvs k = some d → ∃ v, valV ks k = some v ∧ Rep K N H v d) ∧ (valKD kvs k = none → valV ks k = none) := by
  induction kvs generalizing ks with
  | nil => cases h; exact ⟨fun d e => (by cases e), fun _ => rfl⟩
  | cons p r ih =>
    obtain ⟨pk, pd⟩ := p
    generalize he : dkv ((pk, pd) :: r) = ds at h
    cases h with
    | nil => cases he
    | @cons k' v' d' ks' ds' r1 t =>
      have he' : (kD pk, pd) :: dkv r = _ := he
      injection he' with h1 h2
      injection h1 with h3 h4
      have := kD_inj h3
      subst this
      subst h2
      subst h4
      by_cases e : pk = k
      · rw [valV_pos (p := (pk, v')) e]
        have e2 : valKD ((pk, pd) :: r) k = some pd := by simp [valKD, List.find?_cons, e]
        rw [e2]
        exact ⟨fun d z => (by cases z; exact ⟨_, rfl, r1⟩), fun z => (by cases z)⟩
      · rw [valV_neg (p := (pk, v')) e]
        have e2 : valKD ((pk, pd) :: r) k = valKD r k := by simp [valKD, List.find?_cons, e]
        rw [e2]
        exact ih t
theorem RepK.length : ∀ {ks : List (Key × V)} {ds : List (D × D)}, RepK K N H ks ds → ks.length = ds.length
  | _, _, .nil => rfl
  | _, _, .cons _ t => by simp [RepK.length t]
theorem Rep.key {v : V} {d : D} {k : Key} (h : Rep K N H v d) (e : keyD d = some k) : v = kV k := by
  have := keyD_some e
  subst this
  cases k <;> cases h <;> rfl
theorem SRep.key {v : V} {d : D} {k : Key} (h : SRep K N H v d) (e : keyD d = some k) : v = kV k := by
  rcases h with h | ⟨q, b, rfl, e2, bo⟩
  · exact h.key e
  · subst e2; cases b <;> cases e
end
def bxAt (ρ : En) (i : Nat) : Option (Bool × Bx) := match ρ[i]?.join with
  | some (.box o b) => some (o, b)
  | _ => none
theorem bxAt_some {ρ : En} {i : Nat} {o : Bool} {b : Bx} (h : bxAt ρ i = some (o, b)) : ρ[i]? = some (some (.box o b)) := by
  unfold bxAt at h
  split at h
  · rename_i o' b' e
    cases h
    exact Option.join_eq_some_iff.mp e
  · cases h
section
variable {K : PySem.W.Frag} {W : Wd} {ρ ρ' : En} {σ : L2.St} {H H' : Hp}
theorem DRel.chBox (h : DRel K W ρ σ H) {i : Nat} {o : Bool} {b b' : Bx} {q : Addr} (e : ρ[i]? = some (some (.box o b))) (hq : σ[i]? = some (some (.ref q))) (bo : BoxOk K (Av W.P ρ σ) H' q b')
    (s : ∀ a u, a ≠ q → H a = some u → H' a = some u) : PostX K W ρ σ H (ρ.set i (some (.box o b'))) H' := by
  have hi : i < ρ.length := (List.getElem?_eq_some_iff.mp e).1
  have bat : BoxAt ρ σ q := ⟨i, o, b, e, hq⟩
  have sub : ∀ a, BoxAt (ρ.set i (some (.box o b'))) σ a → BoxAt ρ σ a := fun a ⟨j, o2, b2, e1, e2⟩ => by
    rcases set_get e1 with ⟨rfl, z⟩ | ⟨n, z⟩
    · rw [hq] at e2; cases e2; exact bat
    · exact ⟨j, o2, b2, z, e2⟩
  have back : ∀ a, BoxAt ρ σ a → BoxAt (ρ.set i (some (.box o b'))) σ a := fun a ⟨j, o2, b2, e1, e2⟩ => by
    by_cases ej : j = i
    · subst ej; exact ⟨j, o, b', List.getElem?_set_self hi, e2⟩
    · exact ⟨j, o2, b2, by rw [List.getElem?_set_ne (Ne.symm ej)]; exact e1, e2⟩
  have ev : Evo (Av W.P ρ σ) H (Av W.P (ρ.set i (some (.box o b'))) σ) H' := ⟨fun a u h1 n => s a u (fun z => n (.inr (by rw [z]; exact bat))) h1, fun a z => .inl (z.imp id (sub a))⟩
  have ev2 : Evo (Av W.P ρ σ) H' (Av W.P (ρ.set i (some (.box o b'))) σ) H' := mono_av fun a z => z.imp id (sub a)
  have tr : ∀ a u, H a = some u → ∃ u', H' a = some u' := fun a u h1 => by
    by_cases ea : a = q
    · subst ea; exact bo.there
    · exact ⟨u, s a u ea h1⟩
  refine ⟨⟨⟨by simpa using h.len, fun j a e1 => ?_, fun j k o1 b1 o2 b2 q' e1 e2 e3 e4 => ?_, fun a z => ?_, fun a z y => h.pdis a z (sub a y), fun a u z n => ?_, fun a u z => ?_⟩, fun a u h1 n => s a u (fun z => n (by rw [z]; exact bat)) h1, tr, fun a z => .inl (sub a z)⟩, fun j a e1 => ?_, sub⟩
  · rcases set_get e1 with ⟨rfl, rfl⟩ | ⟨n, z⟩
    · obtain ⟨v, hv, r⟩ := h.sl j _ e
      rw [hq] at hv; cases hv
      refine ⟨_, hq, ?_⟩
      cases o with
      | true => obtain ⟨q', h1, h2, h3⟩ := r; cases h1; exact ⟨q, rfl, bo.evo ev2 fun _ z => z, h3⟩
      | false => obtain ⟨q', h1, h2, h3⟩ := r; cases h1; exact ⟨q, rfl, bo.evo ev2 fun _ z => z, h3⟩
    · obtain ⟨v, hv, r⟩ := h.sl j a z
      refine ⟨v, hv, r.evo ev fun q' e2 e3 u e4 => ?_⟩
      refine s q' u (fun z' => ?_) e4
      subst z'
      subst e2
      cases a with
      | dat d => cases e3
      | box o1 b1 => exact n (h.dis j i _ _ _ _ q' z e hv hq)
  · have g : ∀ {j : Nat} {o1 : Bool} {b1 : Bx}, (ρ.set i (some (.box o b')))[j]? = some (some (.box o1 b1)) → ∃ o2 b2, ρ[j]? = some (some (.box o2 b2)) := fun {j o1 b1} e1 => by
      rcases set_get e1 with ⟨rfl, z⟩ | ⟨n, z⟩
      · exact ⟨o, b, e⟩
      · exact ⟨o1, b1, z⟩
    obtain ⟨_, _, g1⟩ := g e1
    obtain ⟨_, _, g2⟩ := g e2
    exact h.dis j k _ _ _ _ q' g1 g2 e3 e4
  · obtain ⟨u, z⟩ := h.prot a z; exact tr a u z
  · have z1 := h.keep a u z n
    refine s a u (fun z2 => ?_) z1
    subst z2
    rcases h.pb bat with y | y
    · rw [y] at z; cases z
    · exact n y
  · obtain ⟨u', z1⟩ := h.there a u z; exact tr a u' z1
  · by_cases ej : j = i
    · subst ej; exact ⟨_, List.getElem?_set_self hi⟩
    · exact ⟨a, by rw [List.getElem?_set_ne (Ne.symm ej)]; exact e1⟩
end
/-- a method that changes its list -/
def rMut (K : PySem.W.Frag) (g : Bx → List D → Option (D × Bx)) : V → List V → Hp → VK → Prop := fun x xs H Q => ∃ N q b ds d b', x = .ref q ∧ Trk N H ∧ N q ∧ BoxOk K N H q b ∧ RepL K N H xs ds ∧ g b ds = some (d, b') ∧
  ∀ v H', BoxOk K N H' q b' → (∀ a u, a ≠ q → H a = some u → H' a = some u) → Rep K N H' v d → Q v H'
def mmut (T : String) (i : Nat) (g : Bx → List D → Option (D × Bx)) (ms : MA) : ME := fun ρ => (bxAt ρ i).bind fun b0 => (guardO (tyD T b0.2.dat)).bind fun _ => (ms ρ).bind fun x => (fzs x.2 x.1).bind fun y => (bxAt y.2 i).bind fun b => (g b.2 y.1).bind fun z =>
  some (.dat z.1, y.2.set i (some (.box b.1 z.2)))
section
variable {G : GC} {S : SC} {e : Expr} {es : List Expr} {ms : MA}
theorem rdmut {K : PySem.W.Frag} {T : String} {i : Nat} {g : Bx → List D → Option (D × Bx)} {σ : L2.St} {H : Hp} {Q : VK} (h : rd K (mmut T i g ms) σ H Q) : tVar i σ H fun x H1 => tyV K T x H1 ∧ rdA K ms σ H1 fun xs H2 => rMut K g x xs H2 Q := by
  obtain ⟨W, ρ, r, ρ', rel, em, q⟩ := h
  unfold mmut at em
  obtain ⟨⟨o0, b0⟩, e1, em⟩ := Option.bind_eq_some_iff.mp em
  obtain ⟨u, e2, em⟩ := Option.bind_eq_some_iff.mp em
  obtain ⟨⟨rs, ρ1⟩, e3, em⟩ := Option.bind_eq_some_iff.mp em
  obtain ⟨⟨ds, ρ2⟩, e4, em⟩ := Option.bind_eq_some_iff.mp em
  obtain ⟨⟨o, b⟩, e5, em⟩ := Option.bind_eq_some_iff.mp em
  obtain ⟨⟨d, b'⟩, e6, em⟩ := Option.bind_eq_some_iff.mp em
  cases em
  obtain ⟨a, hq, bo, _⟩ := rel.boxOk (bxAt_some e1)
  refine ⟨_, hq, SRep.ty (.inr ⟨a, b0, rfl, rfl, bo⟩) (guardO_some e2), W, ρ, rs, ρ1, rel, e3, fun xs H1 p1 f1 => ?_⟩
  obtain ⟨p2, rl⟩ := fzs_ok p1.rel f1 e4
  obtain ⟨a2, hq2, bo2, at2, _⟩ := p2.rel.boxOk (bxAt_some e5)
  rw [hq] at hq2; cases hq2
  refine ⟨Av W.P ρ2 σ, a, b, ds, d, b', rfl, p2.rel.trk, .inr at2, bo2, rl, e6, fun v H' h1 h2 h3 => ?_⟩
  have p3 := p2.rel.chBox (bxAt_some e5) hq h1 h2
  have p := (p1.trans p2).trans p3
  exact q v H' ⟨p, Rep.evo (mono_av fun c z => z.imp id (p3.sub c)) _ _ h3, p.rel.pl0 fun _ z => z⟩
theorem de_mut {x name : Str} {T id : String} {opos apos cpos : Pos} {i : Nat} {g : Bx → List D → Option (D × Bx)} (pa : PlainAttrs T) (slot : Slot T name id) (hty : typeOf (.builtin id) = pure (.type "method_descriptor")) (hm : ∀ X, CxOk G S X → MtR X id (rMut G.K g))
    (hN : S.N[i]? = some x) (hv : Vis S.sc x) (hd : (x == ("__debug__" : Str)) = false) (hcd : (x == ("__classdict__" : Str)) = false) (ha : DA G S (e :: es) ms)
    (hbase : ∀ env : PySem.Env, attributeBase (.Name x opos) name env (eval (.Name x opos) env) = eval (.Name x opos) env)
    (hfew : ∀ env : PySem.Env, ((backTo cpos (starEach (e :: es) env)).all (fun x => !x.1) && (backToKw cpos (keywordEach [] env)).all (fun x => x.1.isSome)
      && decide ((e :: es).length + ([] : List Keyword).length + (if ([] : List Keyword).isEmpty then 0 else 1) < 30)) = true)
    (hline : (apos.endLine == cpos.line) = true) (hs : ∀ env : PySem.Env, starEach (e :: es) env = (false, eval e env) :: starEach es env) (hplain : ∀ env : PySem.Env, (backTo cpos (starEach es env)).any (·.1) = false) :
    DE G S (.Call (.Attribute (.Name x opos) name apos) (e :: es) [] cpos) (mmut T i g ms) :=
  fun X c => PE.weak (pe_bm pa slot hty (hm X c) (pe_var (i := i) (by rw [c.N]; exact hN) (by rw [c.sc]; exact hv) hd hcd) (ha X c) (hbase _) (hfew _) hline (hs _) (hplain _)) fun σ H Q q => by
    have z := rdmut q
    rw [← c.K] at z ⊢
    exact z
end
section
variable {G : GC} {S : SC} {st : Stmt} {sts rest : List Stmt} {e a b : Expr} {pos pos' : Pos} {m ma mb : ME} {mt : MT} {mx my : MS}
theorem rdasg {K : PySem.W.Frag} {i : Nat} {D : Ends} {σ : L2.St} {H : Hp} (h : rdS K (masg i m) D σ H) : rd K m σ H fun v H1 => D.nx (σ.set i (some v)) H1 := by
  obtain ⟨W, ρ, o, ρ', rel, em, q⟩ := h
  unfold masg at em
  obtain ⟨⟨r, ρ1⟩, e1, em⟩ := Option.bind_eq_some_iff.mp em
  obtain ⟨u, e2, em⟩ := Option.bind_eq_some_iff.mp em
  obtain ⟨ρ2, e3, em⟩ := Option.map_eq_some_iff.mp em
  cases em
  exact ⟨W, ρ, r, ρ1, rel, e1, fun v H1 p1 => q _ H1 (sto_ok rel p1 (guardO_some e2) e3)⟩
/-- name = [..] on one line, the name a local -/
theorem ds_setLc {i : Nat} {y : Str} {py : Pos} {elt tg iter : Expr} {ifs : List Expr} {scope : Scope} {own : List (Str × Nat)} {spos : Pos} {mi : MI} {g : MG} {is : List Nat} {t : MT} (hy : S.N[i]? = some y) (hyl : S.sc.names.lookup y = some .local) (hk : S.sc.kind = .function)
    (hl : (py.line == pos.line) = true) (hn : (scope.names.any fun (n, k) => n == y && (k == .local || k == .cell)) = false)
    (hi : DI G S tg iter mi) (ok : BlkOk S.N S.sc scope own)
    (hg : DG G (S.blk scope) tg is g) (ht : DTs G (S.blk scope) ifs t) (he : DE G (S.blk scope) elt m) (hsub : ∀ i ∈ is, i ∈ own.map (·.2)) (st : GStay g is) (hs : ∀ (env : PySem.Env) x, foldedSetIterable iter env x = pure x) :
    DS G S (.Assign [.Name y py] (.ListComp elt [⟨tg, iter, ifs, 0⟩] scope pos) spos) (masg i (mlc mi g t m (own.map (·.2)))) := by
  intro X c
  refine PS.weak (ps_setLc (i := i) c.calm c.nd (by rw [c.N]; exact hy) (by rw [c.sc]; exact hyl) (sw_true (by rw [c.sc]; exact hk) (by rw [c.sc]; exact hyl) hl hn) (hi X c) (by rw [c.N, c.sc]; exact ok) (fun s H C cl fp => hg _ (c.blk scope s H C cl fp)) (fun s H C cl fp => ht _ (c.blk scope s H C cl fp)) (fun s H C cl fp => he _ (c.blk scope s H C cl fp)) (hs _)) ?_
  exact fun D σ H q => lcrd hsub st σ H _ (rdasg q)
/-- a, b = x, y -/
def mpar (i j : Nat) (ma mb : ME) : MS := fun ρ => (ma ρ).bind fun x => (mb x.2).bind fun y => (guardO (notBor y.2 i && notBor y.2 j)).bind fun _ => match x.1, y.1 with
  | .ref _, _ => none
  | _, .ref _ => none
  | r, r' => (stoR y.2 i r).bind fun ρ1 => (stoR ρ1 j r').map fun ρ2 => (.nx, ρ2)
theorem stoP {K : PySem.W.Frag} {W : Wd} {ρ ρ2 : En} {σ : L2.St} {H : Hp} {r : R} {v : V} {i : Nat} (hi : i < ρ.length) (h : DRel K (W.pl (exR r v)) ρ σ H)
    (hd : ∀ d, r = .dat d → Rep K (Av W.P ρ σ) H v d) (hn : ∀ b, r = .new b → ∃ q, v = .ref q ∧ W.H0 q = none ∧ ¬ W.P q ∧ BoxOk K (fun a => Av W.P ρ σ a ∨ a = q) H q b) (hr : ∀ j, r ≠ .ref j) (e : stoR ρ i r = some ρ2) :
    DRel K W ρ2 (σ.set i (some v)) H ∧ (∀ a, BoxAt ρ2 (σ.set i (some v)) a → BoxAt ρ σ a ∨ exR r v a) ∧ ρ2.length = ρ.length := by
  cases r with
  | dat d =>
    cases e
    have p := DRel.setDat (W := W) h.unpl hi (hd d rfl)
    refine ⟨p.rel, fun a z => ?_, by simp⟩
    rcases p.new a z with y | y
    · exact .inl y
    · obtain ⟨o, y'⟩ := p.rel.boxThere z; rw [y] at y'; cases y'
  | new b =>
    cases e
    obtain ⟨q, rfl, h0, hp, bo⟩ := hn b rfl
    obtain ⟨h1, h2⟩ := DRel.setNew (W := W) (q := q) (b := b) h hi bo h0 hp
    exact ⟨h1, fun a z => (h2 a z).imp id fun z => by rw [z]; rfl, by simp⟩
  | ref j => exact (hr j rfl).elim
theorem par_core {K : PySem.W.Frag} {W : Wd} {ρ ρ1 ρ2 ρ3 ρ4 : En} {σ : L2.St} {H H1 H2 : Hp} {ra rb : R} {xv yv : V} {i j : Nat} (rel : DRel K W ρ σ H) (p1 : PostE K W ρ σ H ra ρ1 xv H1) (p2 : PostE K (W.pl (exR ra xv)) ρ1 σ H1 rb ρ2 yv H2)
    (nb : notBor ρ2 i = true ∧ notBor ρ2 j = true) (hra : ∀ j, ra ≠ .ref j) (hrb : ∀ j, rb ≠ .ref j) (e4 : stoR ρ2 i ra = some ρ3) (e5 : stoR ρ3 j rb = some ρ4) : PostC K W ρ σ H ρ4 ((σ.set i (some xv)).set j (some yv)) H2 := by
  have fr1 : ∀ a, exR ra xv a → H a = none := fun a z => by
    have y := p1.res
    cases ra with
    | dat d => exact z.elim
    | new b => obtain ⟨q, h1, h2, h3⟩ := y; cases h1; cases z; exact h2
    | ref i => exact z.elim
  have th1 : ∀ a, exR ra xv a → ∃ o, H1 a = some o := fun a z => by
    have y := p1.res
    cases ra with
    | dat d => exact z.elim
    | new b => obtain ⟨q, h1, h2, h3⟩ := y; cases h1; cases z; exact h3.there
    | ref i => exact z.elim
  have fr2 : ∀ a, exR rb yv a → H1 a = none := fun a z => by
    have y := p2.res
    cases rb with
    | dat d => exact z.elim
    | new b => obtain ⟨q, h1, h2, h3⟩ := y; cases h1; cases z; exact h2
    | ref i => exact z.elim
  have h0 : ∀ a, H a = none → W.H0 a = none ∧ ¬ W.P a := fun a z => by
    refine ⟨?_, fun y => ?_⟩
    · cases h : W.H0 a with
      | none => rfl
      | some o => obtain ⟨o', h'⟩ := rel.there a o h; rw [z] at h'; cases h'
    · obtain ⟨o, h'⟩ := rel.prot a y; rw [z] at h'; cases h'
  have ev1 : Evo (Av (W.pl (exR ra xv)).P ρ1 σ) H1 (Av ((W.pl (exR ra xv)).pl (exR rb yv)).P ρ2 σ) H2 := ⟨fun a o h n => p2.ext a o h fun z => n (.inr z), fun a z => by
    rcases z with (z | z) | z
    · exact .inl (.inl z)
    · exact .inr (fr2 a z)
    · exact .inl (.inr (p2.sub a z))⟩
  have rsw : DRel K ((W.pl (exR rb yv)).pl (exR ra xv)) ρ2 σ H2 := p2.relE.lessP (fun a z => by
    rcases z with (z | z) | z
    · exact .inl (.inl z)
    · exact .inr z
    · exact .inl (.inr z)) rfl rfl
  obtain ⟨r3, s3, l3⟩ := stoP (W := W.pl (exR rb yv)) (i := i) (notBor_lt nb.1) rsw (fun d e => by
      subst e
      exact Rep.evo (mono_av fun a z => z.elim (fun z => z.elim (fun z => .inl (.inl (.inl z))) fun z => .inl (.inr z)) .inr) _ _ (Rep.evo (N := Av W.P ρ1 σ) (H := H1) (N1 := Av ((W.pl (exR (.dat d) xv)).pl (exR rb yv)).P ρ2 σ) ⟨fun a o h n => p2.ext a o h fun z => n (.inr z), fun a z => by
        rcases z with (z | z) | z
        · exact .inl (z.elim .inl fun z => z.elim)
        · exact .inr (fr2 a z)
        · exact .inl (.inr (p2.sub a z))⟩ _ _ p1.res)) (fun b e => by
      subst e
      obtain ⟨q1, rfl, g1, g2⟩ := p1.res
      have n1 : ¬ BoxAt ρ1 σ q1 := p1.relE.pdis q1 (.inr rfl)
      refine ⟨q1, rfl, (h0 q1 g1).1, fun z => ?_, g2.evo (N1 := fun a => Av (W.pl (exR rb yv)).P ρ2 σ a ∨ a = q1) ⟨fun a o h n => p2.ext a o h fun z => n (.inl (.inr z)), fun a z => ?_⟩ fun o h => p2.ext q1 o h n1⟩
      · rcases z with z | z
        · exact (h0 q1 g1).2 z
        · obtain ⟨o, y⟩ := th1 q1 rfl
          rw [fr2 q1 z] at y; cases y
      · rcases z with ((z | z) | z) | z
        · exact .inl (.inl (.inl z))
        · exact .inr (fr2 a z)
        · exact .inl (.inl (.inr (p2.sub a z)))
        · exact .inl (.inr z)) hra e4
  obtain ⟨r4, s4, l4⟩ := stoP (W := W) (i := j) (by rw [l3]; exact notBor_lt nb.2) r3 (fun d e => by
      subst e
      refine Rep.evo (mono_av fun a z => ?_) _ _ p2.res
      rcases z with z | z
      · exact .inl (.inl z)
      · rcases s3 a z with z | z
        · exact .inr z
        · exact .inl (.inr z)) (fun b e => by
      subst e
      obtain ⟨q2, rfl, g1, g2⟩ := p2.res
      have hq : H q2 = none := p1.free g1
      refine ⟨q2, rfl, (h0 q2 hq).1, (h0 q2 hq).2, g2.evo (mono_av fun a z => ?_) fun _ z => z⟩
      rcases z with (z | z) | z
      · exact .inl (.inl (.inl z))
      · rcases s3 a z with z | z
        · exact .inl (.inr z)
        · exact .inl (.inl (.inr z))
      · exact .inr z) hrb e5
  refine ⟨r4, fun a o h n => p2.ext a o (p1.ext a o h n) fun z => n (p1.sub a z), fun a o h => ?_, fun a z => ?_⟩
  · obtain ⟨o', h'⟩ := p1.thr a o h
    exact p2.thr a o' h'
  · rcases s4 a z with z | z
    · rcases s3 a z with z | z
      · exact .inl (p1.sub a (p2.sub a z))
      · exact .inr (fr1 a z)
    · exact .inr (p1.free (fr2 a z))
theorem ds_par {i j : Nat} {x y : Str} {px py pt : Pos} {kt k2 pt2} (hi : S.N[i]? = some x) (hj : S.N[j]? = some y) (hij : i ≠ j) (hx : S.sc.names.lookup x = some .local) (hy : S.sc.names.lookup y = some .local)
    (ha : DE G S a ma) (hb : DE G S b mb) (hsa : ∀ env : PySem.Env, starEach [a, b] env = (false, eval a env) :: starEach [b] env) (hsb : ∀ env : PySem.Env, starEach [b] env = (false, eval b env) :: starEach [] env)
    (hw : ∀ env : PySem.Env, env.scope = S.sc → swappedStores [.Tuple [.Name x px, .Name y py] kt pt] (.Tuple [a, b] k2 pt2) env = pure (some [x, y]))
    (hs : ∀ env : PySem.Env, env.scope = S.sc → swapsWithSole [.Tuple [.Name x px, .Name y py] kt pt] (.Tuple [a, b] k2 pt2) pos.line env = pure false) :
    DS G S (.Assign [.Tuple [.Name x px, .Name y py] kt pt] (.Tuple [a, b] k2 pt2) pos) (mpar i j ma mb) := by
  intro X c
  refine PS.weak (ps_par (i := i) (j := j) c.calm c.nd (by rw [c.N]; exact hi) (by rw [c.N]; exact hj) hij (by rw [c.sc]; exact hx) (by rw [c.sc]; exact hy) (pa_cons (ha X c) (pa_cons (hb X c) pa_nil (hsb _)) (hsa _)) (hw _ c.sc) (hs _ c.sc)) ?_
  rintro D σ H ⟨W, ρ, o, ρ', rel, em, q⟩
  unfold mpar at em
  obtain ⟨⟨ra, ρ1⟩, e1, em⟩ := Option.bind_eq_some_iff.mp em
  obtain ⟨⟨rb, ρ2⟩, e2, em⟩ := Option.bind_eq_some_iff.mp em
  obtain ⟨u, e3, em⟩ := Option.bind_eq_some_iff.mp em
  have nb := guardO_some e3
  rw [Bool.and_eq_true] at nb
  have hra : (∀ j, ra ≠ .ref j) ∧ (∀ j, rb ≠ .ref j) ∧ ∃ ρ3 ρ4, stoR ρ2 i ra = some ρ3 ∧ stoR ρ3 j rb = some ρ4 ∧ (O.nx, ρ4) = (o, ρ') := by
    cases ra with
    | ref _ => cases em
    | dat d =>
      cases rb with
      | ref _ => cases em
      | dat d' =>
        obtain ⟨ρ3, e4, em⟩ := Option.bind_eq_some_iff.mp em
        obtain ⟨ρ4, e5, em⟩ := Option.map_eq_some_iff.mp em
        exact ⟨nofun, nofun, ρ3, ρ4, e4, e5, em⟩
      | new d' =>
        obtain ⟨ρ3, e4, em⟩ := Option.bind_eq_some_iff.mp em
        obtain ⟨ρ4, e5, em⟩ := Option.map_eq_some_iff.mp em
        exact ⟨nofun, nofun, ρ3, ρ4, e4, e5, em⟩
    | new d =>
      cases rb with
      | ref _ => cases em
      | dat d' =>
        obtain ⟨ρ3, e4, em⟩ := Option.bind_eq_some_iff.mp em
        obtain ⟨ρ4, e5, em⟩ := Option.map_eq_some_iff.mp em
        exact ⟨nofun, nofun, ρ3, ρ4, e4, e5, em⟩
      | new d' =>
        obtain ⟨ρ3, e4, em⟩ := Option.bind_eq_some_iff.mp em
        obtain ⟨ρ4, e5, em⟩ := Option.map_eq_some_iff.mp em
        exact ⟨nofun, nofun, ρ3, ρ4, e4, e5, em⟩
  obtain ⟨hra, hrb, ρ3, ρ4, e4, e5, em⟩ := hra
  cases em
  refine ⟨W, ρ, ra, ρ1, rel, e1, fun xv H1 p1 => ⟨W.pl (exR ra xv), ρ1, rb, ρ2, p1.relE, e2, fun yv H2 p2 => ⟨xv, yv, rfl, ?_⟩⟩⟩
  exact q _ H2 (par_core rel p1 p2 nb hra hrb e4 e5)
theorem PostC.same {K : PySem.W.Frag} {W : Wd} {ρ ρ' : En} {σ σ' : L2.St} {H H' H'' : Hp} (p : PostC K W ρ σ H ρ' σ' H') (s : ∀ a o, H' a = some o → H'' a = some o) : PostC K W ρ σ H ρ' σ' H'' :=
  ⟨(p.rel.grow (e := fun _ => False) s (fun _ z => z.elim) (fun _ z => z.elim)).lessP (fun _ z => .inl z) rfl rfl, fun a o h n => s a o (p.ext a o h n), fun a o h => by
    obtain ⟨o', h'⟩ := p.thr a o h
    exact ⟨o', s a o' h'⟩, p.new⟩
/-- x, y = (a, b) where no stores are swapped: by a tuple -/
theorem ds_parC {i j : Nat} {x y : Str} {px py pt : Pos} {kt k2 pt2} (hi : StoOk S i x) (hj : StoOk S j y)
    (ha : DE G S a ma) (hb : DE G S b mb) (hsa : ∀ env : PySem.Env, starEach [a, b] env = (false, eval a env) :: starEach [b] env) (hsb : ∀ env : PySem.Env, starEach [b] env = (false, eval b env) :: starEach [] env)
    (hw : ∀ env : PySem.Env, env.scope = S.sc → swappedStores [.Tuple [.Name x px, .Name y py] kt pt] (.Tuple [a, b] k2 pt2) env = pure none)
    (hs : ∀ env : PySem.Env, env.scope = S.sc → swapsWithSole [.Tuple [.Name x px, .Name y py] kt pt] (.Tuple [a, b] k2 pt2) pos.line env = pure false)
    (h1 : ∀ env : PySem.Env, (assignEach [.Tuple [.Name x px, .Name y py] kt pt] env).map (·.2) = [assign (.Tuple [.Name x px, .Name y py] kt pt) env])
    (hn : ∀ env : PySem.Env, (assignEach [.Name x px, .Name y py] env).length = 2) (hst : ∀ env : PySem.Env, (assignEach [.Name x px, .Name y py] env).findIdx? (·.1) = none)
    (h2 : ∀ env : PySem.Env, (assignEach [.Name x px, .Name y py] env).map (·.2) = assign (.Name x px) env :: (assignEach [.Name y py] env).map (·.2)) (h3 : ∀ env : PySem.Env, (assignEach [.Name y py] env).map (·.2) = assign (.Name y py) env :: (assignEach [] env).map (·.2)) :
    DS G S (.Assign [.Tuple [.Name x px, .Name y py] kt pt] (.Tuple [a, b] k2 pt2) pos) (mpar i j ma mb) := by
  intro X c
  refine PS.weak (ps_asg (pe_tupF (pa_cons (ha X c) (pa_cons (hb X c) pa_nil (hsb _)) (hsa _))) (pg_tup (n := 2) c.calm (pgsN_cons c hi (pgsN_cons c hj pgsN_nil (h3 _)) (h2 _)) (hn _) (hst _)) (hs _ c.sc) (hw _ c.sc) (h1 _)) ?_
  rintro D σ H ⟨W, ρ, o, ρ', rel, em, q⟩
  unfold mpar at em
  obtain ⟨⟨ra, ρ1⟩, e1, em⟩ := Option.bind_eq_some_iff.mp em
  obtain ⟨⟨rb, ρ2⟩, e2, em⟩ := Option.bind_eq_some_iff.mp em
  obtain ⟨u, e3, em⟩ := Option.bind_eq_some_iff.mp em
  have nb := guardO_some e3
  rw [Bool.and_eq_true] at nb
  have hra : (∀ j, ra ≠ .ref j) ∧ (∀ j, rb ≠ .ref j) ∧ ∃ ρ3 ρ4, stoR ρ2 i ra = some ρ3 ∧ stoR ρ3 j rb = some ρ4 ∧ (O.nx, ρ4) = (o, ρ') := by
    cases ra with
    | ref _ => cases em
    | dat d =>
      cases rb with
      | ref _ => cases em
      | dat d' =>
        obtain ⟨ρ3, e4, em⟩ := Option.bind_eq_some_iff.mp em
        obtain ⟨ρ4, e5, em⟩ := Option.map_eq_some_iff.mp em
        exact ⟨nofun, nofun, ρ3, ρ4, e4, e5, em⟩
      | new d' =>
        obtain ⟨ρ3, e4, em⟩ := Option.bind_eq_some_iff.mp em
        obtain ⟨ρ4, e5, em⟩ := Option.map_eq_some_iff.mp em
        exact ⟨nofun, nofun, ρ3, ρ4, e4, e5, em⟩
    | new d =>
      cases rb with
      | ref _ => cases em
      | dat d' =>
        obtain ⟨ρ3, e4, em⟩ := Option.bind_eq_some_iff.mp em
        obtain ⟨ρ4, e5, em⟩ := Option.map_eq_some_iff.mp em
        exact ⟨nofun, nofun, ρ3, ρ4, e4, e5, em⟩
      | new d' =>
        obtain ⟨ρ3, e4, em⟩ := Option.bind_eq_some_iff.mp em
        obtain ⟨ρ4, e5, em⟩ := Option.map_eq_some_iff.mp em
        exact ⟨nofun, nofun, ρ3, ρ4, e4, e5, em⟩
  obtain ⟨hra, hrb, ρ3, ρ4, e4, e5, em⟩ := hra
  cases em
  refine ⟨W, ρ, ra, ρ1, rel, e1, fun xv H1 p1 => ⟨W.pl (exR ra xv), ρ1, rb, ρ2, p1.relE, e2, fun yv H2 p2 => ⟨(by decide : 2 ≤ sizeLine), fun p o hp ho => ?_⟩⟩⟩
  refine ⟨p, [xv, yv], rfl, .inl (.inr ⟨o, upd_same⟩), rfl, xv, [yv], rfl, yv, [], rfl, rfl, ?_⟩
  exact q _ _ ((par_core rel p1 p2 nb hra hrb e4 e5).same (fresh_upd hp))
/-- target = e, the value taken as data -/
def masgG (g : MG) (m : ME) : MS := fun ρ => (m ρ).bind fun x => (fzs x.2 [x.1.fz]).bind fun y => match y.1 with
  | [d] => (g d y.2).map fun ρ' => (.nx, ρ')
  | _ => none
end
end L3
namespace L3
open PySem PySem.Spec PyProof.Rows L2
def dicOf : Bx → Option (List (Key × D))
  | .dic kvs => some kvs
  | .lst _ => none
def lstOf : Bx → Option (List D)
  | .lst xs => some xs
  | .dic _ => none
def oneOf : List D → Option D
  | [d] => some d
  | _ => none
theorem dicOf_some {b : Bx} {kvs : List (Key × D)} (h : dicOf b = some kvs) : b = .dic kvs := by cases b <;> cases h <;> rfl
theorem lstOf_some {b : Bx} {xs : List D} (h : lstOf b = some xs) : b = .lst xs := by cases b <;> cases h <;> rfl
theorem oneOf_some {ds : List D} {d : D} (h : oneOf ds = some d) : ds = [d] := by
  cases ds with
  | nil => cases h
  | cons a r => cases r with
    | nil => cases h; rfl
    | cons _ _ => cases h
def mputD (s : Nat) (mk mv : ME) : MS := fun ρ => (mv ρ).bind fun x => (fzs x.2 [x.1.fz]).bind fun y => (oneOf y.1).bind fun d => (bxAt y.2 s).bind fun _ => (mk y.2).bind fun z => (z.1.fz.vw z.2).bind fun dk => (keyD dk).bind fun k =>
  (bxAt z.2 s).bind fun b => (dicOf b.2).bind fun kvs => (guardO (decide (kvs.length < sizeLine))).bind fun _ => some (.nx, z.2.set s (some (.box b.1 (.dic (putKD kvs k d)))))
def mputL (s : Nat) (mk mv : ME) : MS := fun ρ => (mv ρ).bind fun x => (fzs x.2 [x.1.fz]).bind fun y => (oneOf y.1).bind fun d => (bxAt y.2 s).bind fun _ => (mk y.2).bind fun z => (intR z.2 z.1.fz).bind fun k =>
  (bxAt z.2 s).bind fun b => (lstOf b.2).bind fun xs => (ixN xs.length k).bind fun j => some (.nx, z.2.set s (some (.box b.1 (.lst (xs.set j d)))))
def isDic : Bx → Bool
  | .dic _ => true
  | .lst _ => false
def mput (s : Nat) (mk mv : ME) : MS := fun ρ => (bxAt ρ s).bind fun b => if isDic b.2 = true then mputD s mk mv ρ else mputL s mk mv ρ
theorem PS.or {X : Cx} {st : Stmt} {t u : TS} (h : PS X st t) (h' : PS X st u) : PS X st (fun D σ H => t D σ H ∨ u D σ H) := ⟨fun p s σ H D I q => q.elim (h.run p s σ H D I) (h'.run p s σ H D I)⟩
section
variable {G : GC} {S : SC} {e k v : Expr} {pos opos pos' : Pos} {m mk mv : ME} {mt : MT}
theorem RepL.set {K : PySem.W.Frag} {N : Addr → Prop} {H : Hp} : ∀ {vs : List V} {ds : List D} {v : V} {d : D} (i : Nat), RepL K N H vs ds → Rep K N H v d → RepL K N H (vs.set i v) (ds.set i d)
  | _, _, _, _, _, .nil, _ => .nil
  | _, _, _, _, 0, .cons _ t, r => .cons r t
  | _, _, _, _, i + 1, .cons q t, r => .cons q (RepL.set i t r)
theorem one_rep {K : PySem.W.Frag} {N : Addr → Prop} {H : Hp} {v : V} {ds : List D} {d : D} (h : RepL K N H [v] ds) (e : oneOf ds = some d) : Rep K N H v d := by
  have := oneOf_some e
  subst this
  cases h with
  | cons r _ => exact r
theorem rdputD {K : PySem.W.Frag} {s : Nat} {D : Ends} {σ : L2.St} {H : Hp} (h : rdS K (mputD s mk mv) D σ H) : sDPut (tVar s) (rd K mk) (rd K mv) D σ H := by
  obtain ⟨W, ρ, o, ρ', rel, em, q⟩ := h
  unfold mputD at em
  obtain ⟨⟨r, ρ1⟩, e1, em⟩ := Option.bind_eq_some_iff.mp em
  obtain ⟨⟨ds, ρ2⟩, e2, em⟩ := Option.bind_eq_some_iff.mp em
  obtain ⟨d, e3, em⟩ := Option.bind_eq_some_iff.mp em
  obtain ⟨⟨o0, b0⟩, e4, em⟩ := Option.bind_eq_some_iff.mp em
  obtain ⟨⟨rk, ρ3⟩, e5, em⟩ := Option.bind_eq_some_iff.mp em
  obtain ⟨dk, e6, em⟩ := Option.bind_eq_some_iff.mp em
  obtain ⟨kk, e7, em⟩ := Option.bind_eq_some_iff.mp em
  obtain ⟨⟨ow, b⟩, e8, em⟩ := Option.bind_eq_some_iff.mp em
  obtain ⟨kvs, e9, em⟩ := Option.bind_eq_some_iff.mp em
  obtain ⟨u, e10, em⟩ := Option.bind_eq_some_iff.mp em
  cases em
  have := dicOf_some e9
  simp only at this
  subst this
  refine ⟨W, ρ, r, ρ1, rel, e1, fun v H1 p1 => ?_⟩
  have f1 : FRels K (Av W.P ρ1 σ) ρ1 σ H1 [r.fz] [v] := .cons (p1.res.fz p1.toPostX rel) .nil
  obtain ⟨p2, rl⟩ := fzs_ok p1.rel f1 e2
  have r0 := one_rep rl e3
  obtain ⟨a, hq, _⟩ := p2.rel.boxOk (bxAt_some e4)
  refine ⟨_, hq, W, ρ2, rk, ρ3, p2.rel, e5, fun y H3 p3 => ?_⟩
  obtain ⟨a2, hq2, bo, at2, _⟩ := p3.rel.boxOk (bxAt_some e8)
  rw [hq] at hq2; cases hq2
  obtain ⟨ks, l1, l2⟩ := bo
  have ky : y = kV kk := ((p3.res.fz p3.toPostX p2.rel).read p3.rel e6).key e7
  subst ky
  have r1 := Rep.evo (p3.evo p2.rel) _ _ r0
  have hlen : ks.length < sizeLine := by
    have := l2.length
    unfold dkv at this
    rw [List.length_map] at this
    rw [this]; exact guardO_dec e10
  refine ⟨a, _, rfl, DPut.k l1 hlen, q _ _ ?_⟩
  have ev : Evo (Av W.P ρ3 σ) H3 (Av W.P ρ3 σ) (upd H3 a (.dK (putK ks kk v))) := ⟨fun c o h n => by rw [upd_ne (fun z => n (.inr (by rw [z]; exact at2)))]; exact h, fun c z => .inl z⟩
  have p4 := p3.rel.chBox (H' := upd H3 a (.dK (putK ks kk v))) (b' := .dic (putKD kvs kk d)) (bxAt_some e8) hq ⟨_, upd_same, RepK.evo ev _ _ (RepK.put kk l2 r1)⟩ fun c o n h => by rw [upd_ne n]; exact h
  exact ((p1.toPostX.trans p2).trans (p3.toPostX.trans p4)).toPostC
theorem rdputL {K : PySem.W.Frag} {s : Nat} {D : Ends} {σ : L2.St} {H : Hp} (h : rdS K (mputL s mk mv) D σ H) : tAsg (rd K mv) (gSub (tVar s) (rd K mk) rSetL) D σ H := by
  obtain ⟨W, ρ, o, ρ', rel, em, q⟩ := h
  unfold mputL at em
  obtain ⟨⟨r, ρ1⟩, e1, em⟩ := Option.bind_eq_some_iff.mp em
  obtain ⟨⟨ds, ρ2⟩, e2, em⟩ := Option.bind_eq_some_iff.mp em
  obtain ⟨d, e3, em⟩ := Option.bind_eq_some_iff.mp em
  obtain ⟨⟨o0, b0⟩, e4, em⟩ := Option.bind_eq_some_iff.mp em
  obtain ⟨⟨rk, ρ3⟩, e5, em⟩ := Option.bind_eq_some_iff.mp em
  obtain ⟨kk, e6, em⟩ := Option.bind_eq_some_iff.mp em
  obtain ⟨⟨ow, b⟩, e8, em⟩ := Option.bind_eq_some_iff.mp em
  obtain ⟨xs, e9, em⟩ := Option.bind_eq_some_iff.mp em
  obtain ⟨j, e10, em⟩ := Option.bind_eq_some_iff.mp em
  cases em
  have := lstOf_some e9
  simp only at this
  subst this
  refine ⟨W, ρ, r, ρ1, rel, e1, fun v H1 p1 => ?_⟩
  have f1 : FRels K (Av W.P ρ1 σ) ρ1 σ H1 [r.fz] [v] := .cons (p1.res.fz p1.toPostX rel) .nil
  obtain ⟨p2, rl⟩ := fzs_ok p1.rel f1 e2
  have r0 := one_rep rl e3
  obtain ⟨a, hq, _⟩ := p2.rel.boxOk (bxAt_some e4)
  refine ⟨_, hq, W, ρ2, rk, ρ3, p2.rel, e5, fun y H3 p3 => ?_⟩
  obtain ⟨a2, hq2, bo, at2, _⟩ := p3.rel.boxOk (bxAt_some e8)
  rw [hq] at hq2; cases hq2
  obtain ⟨ks, l1, l2⟩ := bo
  have ky : y = .int kk := ((p3.res.fz p3.toPostX p2.rel).read p3.rel (intR_some e6)).int
  subst ky
  have r1 := Rep.evo (p3.evo p2.rel) _ _ r0
  refine ⟨a, ks, kk, j, rfl, rfl, l1, by rw [l2.length]; exact e10, q _ _ ?_⟩
  have ev : Evo (Av W.P ρ3 σ) H3 (Av W.P ρ3 σ) (upd H3 a (.lst (ks.set j v))) := ⟨fun c o h n => by rw [upd_ne (fun z => n (.inr (by rw [z]; exact at2)))]; exact h, fun c z => .inl z⟩
  have p4 := p3.rel.chBox (H' := upd H3 a (.lst (ks.set j v))) (b' := .lst (xs.set j d)) (bxAt_some e8) hq ⟨_, upd_same, RepL.evo ev _ _ (l2.set j r1)⟩ fun c o n h => by rw [upd_ne n]; exact h
  exact ((p1.toPostX.trans p2).trans (p3.toPostX.trans p4)).toPostC
theorem ds_put {s : Nat} {x : Str} (hN : S.N[s]? = some x) (hv : Vis S.sc x) (hd : (x == ("__debug__" : Str)) = false) (hcd : (x == ("__classdict__" : Str)) = false) (hk : DE G S k mk) (hval : DE G S v mv)
    (hs : ∀ env : PySem.Env, swapsWith v (some (.Subscript (.Name x opos) k pos')) pos.line env = pure false)
    (hs2 : ∀ env : PySem.Env, swapsWithSole [.Subscript (.Name x opos) k pos'] v pos.line env = pure false) (hw : ∀ env : PySem.Env, swappedStores [.Subscript (.Name x opos) k pos'] v env = pure none)
    (h1 : ∀ env : PySem.Env, (assignEach [.Subscript (.Name x opos) k pos'] env).map (·.2) = [assign (.Subscript (.Name x opos) k pos') env])
    (ha : ∀ (env : PySem.Env) v, assign (.Subscript (.Name x opos) k pos') env v = (do
      let ov ← holding [v] (eval (.Name x opos) env)
      let iv ← holding [v, ov] (eval k env)
      standAt pos'
      holding [v, ov, iv] (setItem ov iv v)
      release [v, ov, iv] [])) : DS G S (.Assign [.Subscript (.Name x opos) k pos'] v pos) (mput s mk mv) := by
  intro X c
  have pvx : PE X (.Name x opos) (tVar s) := pe_var (by rw [c.N]; exact hN) (by rw [c.sc]; exact hv) hd hcd
  have hu : X.A.units + 1 < cLine := hu_of c.room
  refine PS.weak (PS.or (ps_dput hu pvx (hk X c) (hval X c) (hs _)) (ps_asg (hval X c) (pg_sub pvx (hk X c) set_list (ha _)) (hs2 _) (hw _) (h1 _))) ?_
  rintro D σ H ⟨W, ρ, o, ρ', rel, em, q⟩
  unfold mput at em
  obtain ⟨⟨ow, b⟩, e1, em⟩ := Option.bind_eq_some_iff.mp em
  cases b with
  | dic kvs => exact .inl (rdputD ⟨W, ρ, o, ρ', rel, em, q⟩)
  | lst xs => exact .inr (rdputL ⟨W, ρ, o, ρ', rel, em, q⟩)
def datOf : A → Option D
  | .dat d => some d
  | .box _ _ => none
def maug (i : Nat) (g : D → D → Option R) (m : ME) : MS := fun ρ => (ρ[i]?.join).bind fun a => (datOf a).bind fun d => (m ρ).bind fun y => (guardO (notBor y.2 i)).bind fun _ => (y.1.fz.vw y.2).bind fun e => (g d e).bind fun r => (stoR y.2 i r).map fun ρ' => (.nx, ρ')
/-- xs[i] op= e: the list's item, then e, then the store -/
def sLAug (td ty tv : TE) (rd : V → V → Hp → VK → Prop) : TS := fun D σ H => td σ H fun x H1 => ty σ H1 fun y H2 => ∃ p xs k v, x = .ref p ∧ y = .int k ∧ H2 p = some (.lst xs) ∧ 0 ≤ k ∧ k < 2 ^ 63 ∧ xs[k.toNat]? = some v ∧
  tv σ H2 fun y2 H3 => rd v y2 H3 fun z H4 => rSetL x y z H4 fun H5 => D.nx σ H5
theorem ps_laug {X : Cx} {o i value : Expr} {tpos : Pos} {td ty tv : TE} {op : Operator} {rd : V → V → Hp → VK → Prop} (ho : PE X o td) (hi : PE X i ty) (hv : PE X value tv) (hop : InOp X op rd)
    (ha : ∀ ov iv new, augStore i ov iv new = (do holding [new, ov, iv] (setItem ov iv new); release [new, ov, iv] []; pure .next)) : PS X (.AugAssign (.Subscript o i tpos) op value pos) (sLAug td ty tv rd) := by
  refine ⟨fun pins s σ H D I h => ?_⟩
  refine wpAny_AugAssign_SubscriptAny (thn (ho.run pins s σ H _ I h) fun u s1 ⟨x, H1, I1, rx, q1⟩ => thn (hi.run pins s1 σ H1 _ I1 q1) fun iv s2 ⟨y, H2, I2, ry, p, xs, k, v, ex, ey, hp, h0, h1, hx, q2⟩ => ?_) ha
  subst ex
  subst ey
  have rx0 := rx
  have ry0 := ry
  obtain rfl : u = Value.ref p := rx
  obtain ⟨t, rfl⟩ := ry
  obtain ⟨its, rv, pl, hz⟩ := I2.list (.inl (.inl hp))
  obtain ⟨w0, hw, rw0⟩ := rv.get hx
  refine wpAny_getItem_list pl.isList h0 h1 (x := w0) (by simpa using hw) ?_
  refine thn (hv.run pins s2 σ H2 _ I2 q2) fun w2 s4 ⟨y2, H3, I4, ry2, q3⟩ => thn (hop pins s4 σ H3 v y2 w0 w2 _ I4 rw0 ry2 q3) fun w3 s5 ⟨z, H4, I5, rz, q4⟩ => ?_
  exact thn (set_list pins s5 σ H4 _ _ z _ _ w3 _ I5 rx0 ry0 rz q4) fun _ s6 ⟨H5, I6, q5⟩ => ⟨σ, H5, I6, q5⟩
def maugL (s : Nat) (g : D → D → Option R) (mk mv : ME) : MS := fun ρ => (bxAt ρ s).bind fun _ => (mk ρ).bind fun z => (intR z.2 z.1.fz).bind fun k => (bxAt z.2 s).bind fun b => (lstOf b.2).bind fun xs => (guardO (decide (0 ≤ k ∧ k < 2 ^ 63))).bind fun _ => (xs[k.toNat]?).bind fun d =>
  (mv z.2).bind fun x => (x.1.fz.vw x.2).bind fun e => (g d e).bind fun r => (bxAt x.2 s).bind fun b2 => (lstOf b2.2).bind fun xs2 => (ixN xs2.length k).bind fun j => match r with
  | .dat d' => some (.nx, x.2.set s (some (.box b2.1 (.lst (xs2.set j d')))))
  | _ => none
theorem ds_augL {s : Nat} {x : Str} {op : Operator} {g : D → D → Option R} {tpos : Pos} (hN : S.N[s]? = some x) (hv : Vis S.sc x) (hd : (x == ("__debug__" : Str)) = false) (hcd : (x == ("__classdict__" : Str)) = false) (hk : DE G S k mk) (hval : DE G S v mv)
    (hop : ∀ X, CxOk G S X → OpR X (inplaceOp op) (rD2 G.K g)) (ha : ∀ ov iv new, augStore k ov iv new = (do holding [new, ov, iv] (setItem ov iv new); release [new, ov, iv] []; pure .next)) :
    DS G S (.AugAssign (.Subscript (.Name x opos) k tpos) op v pos) (maugL s g mk mv) := by
  intro X c
  have pvx : PE X (.Name x opos) (tVar s) := pe_var (by rw [c.N]; exact hN) (by rw [c.sc]; exact hv) hd hcd
  refine PS.weak (ps_laug pvx (hk X c) (hval X c) (rd := rD2 G.K g) (fun pins s σ H x y u v Q I r1 r2 q => hop X c pins s σ H x y u v Q I r1 r2 q) ha) ?_
  rintro D σ H ⟨W, ρ, o, ρ', rel, em, q⟩
  unfold maugL at em
  obtain ⟨⟨o0, b0⟩, e0, em⟩ := Option.bind_eq_some_iff.mp em
  obtain ⟨⟨rk, ρ1⟩, e1, em⟩ := Option.bind_eq_some_iff.mp em
  obtain ⟨kk, e2, em⟩ := Option.bind_eq_some_iff.mp em
  obtain ⟨⟨o1, b1⟩, e3, em⟩ := Option.bind_eq_some_iff.mp em
  obtain ⟨xs, e4, em⟩ := Option.bind_eq_some_iff.mp em
  obtain ⟨u, e5, em⟩ := Option.bind_eq_some_iff.mp em
  obtain ⟨d, e6, em⟩ := Option.bind_eq_some_iff.mp em
  obtain ⟨⟨rv, ρ2⟩, e7, em⟩ := Option.bind_eq_some_iff.mp em
  obtain ⟨de, e8, em⟩ := Option.bind_eq_some_iff.mp em
  obtain ⟨rr, e9, em⟩ := Option.bind_eq_some_iff.mp em
  obtain ⟨⟨o2, b2⟩, e10, em⟩ := Option.bind_eq_some_iff.mp em
  obtain ⟨xs2, e11, em⟩ := Option.bind_eq_some_iff.mp em
  obtain ⟨j, e12, em⟩ := Option.bind_eq_some_iff.mp em
  have t1 := lstOf_some e4
  have t2 := lstOf_some e11
  simp only at t1 t2
  subst t1
  subst t2
  cases rr with
  | new _ => cases em
  | ref _ => cases em
  | dat d' =>
    cases em
    obtain ⟨a, hq, _⟩ := rel.boxOk (bxAt_some e0)
    refine ⟨_, hq, W, ρ, rk, ρ1, rel, e1, fun y H2 p1 => ?_⟩
    obtain ⟨a1, hq1, bo1, at1, _⟩ := p1.rel.boxOk (bxAt_some e3)
    rw [hq] at hq1; cases hq1
    obtain ⟨ys, l1, l2⟩ := bo1
    have ky : y = .int kk := ((p1.res.fz p1.toPostX rel).read p1.rel (intR_some e2)).int
    subst ky
    obtain ⟨v0, hv0, r0⟩ := l2.get e6
    obtain ⟨g0, g1⟩ := guardO_dec e5
    refine ⟨a, ys, kk, v0, rfl, rfl, l1, g0, g1, hv0, W, ρ1, rv, ρ2, p1.rel, e7, fun y2 H3 p2 => ?_⟩
    refine ⟨Av W.P ρ2 σ, d, de, .dat d', p2.rel.trk, .inl (Rep.evo (p2.evo p1.rel) _ _ r0), (p2.res.fz p2.toPostX p1.rel).read p2.rel e8, e9, fun z H4 vp => ?_⟩
    have p3 := (p1.toPostX.trans p2.toPostX).fin vp
    obtain ⟨a2, hq2, bo2, at2, _⟩ := p3.rel.boxOk (bxAt_some e10)
    rw [hq] at hq2; cases hq2
    obtain ⟨zs, l3, l4⟩ := bo2
    refine ⟨a, zs, kk, j, rfl, rfl, l3, by rw [l4.length]; exact e12, q _ _ ?_⟩
    have ev : Evo (Av W.P ρ2 σ) H4 (Av W.P ρ2 σ) (upd H4 a (.lst (zs.set j z))) := ⟨fun c o h n => by rw [upd_ne (fun z => n (.inr (by rw [z]; exact at2)))]; exact h, fun c z => .inl z⟩
    have p4 := p3.rel.chBox (H' := upd H4 a (.lst (zs.set j z))) (b' := .lst (xs2.set j d')) (bxAt_some e10) hq ⟨_, upd_same, RepL.evo ev _ _ (l4.set j vp.res)⟩ fun c o n h => by rw [upd_ne n]; exact h
    exact (p3.toPostX.trans p4).toPostC
end
/-- what the parameters' boxes hold at the end -/
def outA : A → Option (Option A) → Option A
  | .dat d, _ => some (.dat d)
  | .box _ _, some (some (.box false b)) => some (.box false b)
  | .box _ _, _ => none
def outAs (ρ : En) : List A → Nat → Option (List A)
  | [], _ => some []
  | a :: as, i => (outA a ρ[i]?).bind fun x => (outAs ρ as (i + 1)).map fun xs => x :: xs
def startE (n : Nat) (as : List A) : En := as.map some ++ List.replicate (n - as.length) none
def mdef (n : Nat) (b : MS) : MF := fun as => (b (startE n as)).bind fun x => match x.1 with
  | .rt r => (outAs x.2 as 0).map fun o => (r, o)
  | .nx => (outAs x.2 as 0).map fun o => (.dat .none, o)
  | _ => none
theorem outA_box {o : Bool} {b : Bx} {x : Option (Option A)} {y : A} (h : outA (.box o b) x = some y) : ∃ b', x = some (some (.box false b')) ∧ y = .box false b' := by
  cases x with
  | none => cases h
  | some x => cases x with
    | none => cases h
    | some a => cases a with
      | dat d => cases h
      | box o' b' => cases o' with
        | true => cases h
        | false => cases h; exact ⟨b', rfl, rfl⟩
theorem outAs_get {ρ : En} : ∀ {as : List A} {i : Nat} {xs : List A}, outAs ρ as i = some xs → xs.length = as.length ∧ ∀ (j : Nat) a, as[j]? = some a → ∃ x, xs[j]? = some x ∧ outA a ρ[i + j]? = some x
  | [], _, _, h => by cases h; exact ⟨rfl, fun j a e => by simp at e⟩
  | a :: as, i, _, h => by
    obtain ⟨x, e1, h⟩ := Option.bind_eq_some_iff.mp (show (outA a ρ[i]?).bind _ = _ from h)
    obtain ⟨xs, e2, h⟩ := Option.map_eq_some_iff.mp h
    cases h
    obtain ⟨h1, h2⟩ := outAs_get e2
    refine ⟨by simp [h1], fun j b e => ?_⟩
    cases j with
    | zero => simp at e; subst e; exact ⟨x, rfl, e1⟩
    | succ j =>
      obtain ⟨y, h3, h4⟩ := h2 j b (by simpa using e)
      exact ⟨y, by simpa using h3, by rw [show i + (j + 1) = i + 1 + j by omega]; exact h4⟩
theorem startE_get {n : Nat} {as : List A} {i : Nat} {a : A} (h : (startE n as)[i]? = some (some a)) : as[i]? = some a := by
  unfold startE at h
  by_cases hi : i < as.length
  · rw [List.getElem?_append_left (by simpa using hi)] at h
    exact map_some_get h
  · rw [List.getElem?_append_right (by simpa using hi), List.getElem?_replicate] at h
    split at h <;> cases h
theorem start_get {N : List Str} {vs : List V} {i : Nat} {v : V} (h : vs[i]? = some v) : (L2.start N vs)[i]? = some (some v) := by
  unfold L2.start
  rw [List.getElem?_append_left (by simpa using (List.getElem?_eq_some_iff.mp h).1)]
  exact map_some_get' h
theorem start_get' {N : List Str} {vs : List V} {i : Nat} {v : V} (h : (L2.start N vs)[i]? = some (some v)) : vs[i]? = some v := by
  unfold L2.start at h
  by_cases hi : i < vs.length
  · rw [List.getElem?_append_left (by simpa using hi)] at h
    exact map_some_get h
  · rw [List.getElem?_append_right (by simpa using hi), List.getElem?_replicate] at h
    split at h <;> cases h
theorem startE_rel {K : PySem.W.Frag} {W : Wd} {as : List A} {vs : List V} {H : Hp} {N : List Str} (h : DRel K W (as.map some) (vs.map some) H) (hn : as.length ≤ N.length) : DRel K W (startE N.length as) (L2.start N vs) H := by
  have hl : as.length = vs.length := by simpa using h.len
  have sub : ∀ a, BoxAt (startE N.length as) (L2.start N vs) a → BoxAt (as.map some) (vs.map some) a := fun a ⟨i, o, b, e1, e2⟩ => ⟨i, o, b, map_some_get' (startE_get e1), map_some_get' (start_get' e2)⟩
  have ev : Evo (Av W.P (as.map some) (vs.map some)) H (Av W.P (startE N.length as) (L2.start N vs)) H := mono_av fun a z => z.imp id (sub a)
  refine ⟨?_, fun i a e => ?_, fun i j o b o' b' q e1 e2 e3 e4 => h.dis i j o b o' b' q (map_some_get' (startE_get e1)) (map_some_get' (startE_get e2)) (map_some_get' (start_get' e3)) (map_some_get' (start_get' e4)), h.prot, fun q z y => h.pdis q z (sub q y), h.keep, h.there⟩
  · unfold startE L2.start
    simp [hl]
  · obtain ⟨v, hv, r⟩ := h.sl i a (map_some_get' (startE_get e))
    exact ⟨v, start_get (map_some_get hv), r.evo ev fun _ _ _ _ z => z⟩
/-- the parameters at the def's end -/
theorem fn_end {K : PySem.W.Frag} {W : Wd} {as outs : List A} {vs : List V} {H0 H' : Hp} {ρ' : En} {σ' : L2.St} {r : R} {v : V} (h0 : DRel K W (as.map some) (vs.map some) H0) (hW : W.H0 = H0) (hb : ∀ (i : Nat) b, as[i]? ≠ some (A.box true b)) (hpb : ∀ a, W.PB a → BoxAt (as.map some) (vs.map some) a)
    (p : DRel K W ρ' σ' H') (ho : outAs ρ' as 0 = some outs) (rt : RtRel K W ρ' σ' H' r v) : PostF K W outs vs H0 r v H' ∧ as.map isBx = outs.map isBx := by
  have hl : as.length = vs.length := by simpa using h0.len
  obtain ⟨hlo, hg⟩ := outAs_get ho
  -- a box among the ends
  have oget : ∀ {j : Nat} {o : Bool} {b : Bx}, outs[j]? = some (.box o b) → o = false ∧ ρ'[j]? = some (some (.box false b)) ∧ ∃ b0, as[j]? = some (.box false b0) := fun {j o b} e => by
    have hj : j < as.length := by rw [← hlo]; exact (List.getElem?_eq_some_iff.mp e).1
    obtain ⟨x, h1, h2⟩ := hg j as[j] (List.getElem?_eq_getElem hj)
    rw [e] at h1; cases h1
    rw [Nat.zero_add] at h2
    have ha : as[j]? = some as[j] := List.getElem?_eq_getElem hj
    generalize as[j] = a at h2 ha
    cases a with
    | dat d => cases h2
    | box o' b' =>
      have ho' : o' = false := by cases o' with
        | false => rfl
        | true => exact (hb j b' ha).elim
      subst ho'
      obtain ⟨b1, e1, e2⟩ := outA_box h2
      cases e2
      exact ⟨rfl, e1, b', ha⟩
  have dget : ∀ {j : Nat} {d : PyData}, outs[j]? = some (.dat d) → as[j]? = some (.dat d) := fun {j d} e => by
    have hj : j < as.length := by rw [← hlo]; exact (List.getElem?_eq_some_iff.mp e).1
    obtain ⟨x, h1, h2⟩ := hg j as[j] (List.getElem?_eq_getElem hj)
    rw [e] at h1; cases h1
    rw [List.getElem?_eq_getElem hj]
    generalize as[j] = a at h2
    cases a with
    | dat d' => cases h2; rfl
    | box o' b' => obtain ⟨b1, e1, e2⟩ := outA_box h2; cases e2
  -- .. is where it was
  have addr : ∀ {j : Nat} {b : Bx}, ρ'[j]? = some (some (.box false b)) → ∀ {b0 : Bx}, as[j]? = some (.box false b0) → ∃ q, vs[j]? = some (.ref q) ∧ σ'[j]? = some (some (.ref q)) ∧ W.B j = some q := fun {j b} e {b0} ea => by
    obtain ⟨q, h1, _, _, _, h2⟩ := p.boxOk e
    obtain ⟨q2, h3, _, _, _, h4⟩ := h0.boxOk (map_some_get' ea)
    have e1 := h2 rfl
    rw [h4 rfl] at e1; cases e1
    exact ⟨_, map_some_get h3, h1, h4 rfl⟩
  have bat : ∀ a, BoxAt (outs.map some) (vs.map some) a → BorAt ρ' σ' a := fun a ⟨j, o, b, e1, e2⟩ => by
    obtain ⟨_, h1, b0, h2⟩ := oget (map_some_get e1)
    obtain ⟨q, h3, h4, _⟩ := addr h1 h2
    have := map_some_get e2
    rw [h3] at this; cases this
    exact ⟨j, b, h1, h4⟩
  have hs : as.map isBx = outs.map isBx := by
    refine List.ext_getElem? fun j => ?_
    rw [List.getElem?_map, List.getElem?_map]
    cases e : as[j]? with
    | none =>
      have : outs[j]? = none := by
        rw [List.getElem?_eq_none_iff] at e ⊢
        omega
      rw [this]
    | some a =>
      obtain ⟨x, h1, h2⟩ := hg j a e
      rw [h1]
      simp only [Option.map_some]
      cases a with
      | dat d => cases h2; rfl
      | box o b => obtain ⟨b1, e1, e2⟩ := outA_box h2; cases e2; rfl
  have exf : ∀ a, exR r v a → W.H0 a = none ∧ ¬ W.P a ∧ (∃ o, H' a = some o) ∧ ¬ BorAt ρ' σ' a := fun a z => by
    cases r with
    | dat d => exact z.elim
    | ref i => exact z.elim
    | new b =>
      obtain ⟨q, h1, h2, h3, h4, h5⟩ := rt
      cases h1
      cases z
      refine ⟨h2, h4, h3.there, fun ⟨i, b', e1, e2⟩ => ?_⟩
      obtain ⟨q', g1, g2, _⟩ := h5 i b' e1
      rw [e2] at g1; cases g1
      exact g2 rfl
  have ev : Evo (Av W.P (as.map some) (vs.map some)) H0 (Av (W.pl (exR r v)).P (outs.map some) (vs.map some)) H' := ⟨fun a o h n => p.keep a o (by rw [hW]; exact h) fun z => n (.inr (hpb a z)), fun a z => by
    rcases z with (z | z) | z
    · exact .inl (.inl z)
    · exact .inr (by rw [← hW]; exact (exf a z).1)
    · obtain ⟨j, o, b, e1, e2⟩ := z
      obtain ⟨_, h1, b0, h2⟩ := oget (map_some_get e1)
      exact .inl (.inr ⟨j, _, _, map_some_get' h2, e2⟩)⟩
  refine ⟨⟨⟨by simp [hlo, hl], fun j a e => ?_, fun j k o b o' b' q e1 e2 e3 e4 => ?_, fun a z => ?_, fun a z y => ?_, p.keep, p.there⟩, ?_⟩, hs⟩
  · have e := map_some_get e
    cases a with
    | dat d =>
      obtain ⟨v', hv, rr⟩ := h0.sl j _ (map_some_get' (dget e))
      exact ⟨v', hv, Rep.evo ev _ _ rr⟩
    | box o b =>
      obtain ⟨rfl, h1, b0, h2⟩ := oget e
      obtain ⟨q, h3, h4, h5⟩ := addr h1 h2
      refine ⟨_, map_some_get' h3, q, rfl, ?_, h5⟩
      cases r with
      | new bn =>
        obtain ⟨qn, g1, g2, g3, g4, g5⟩ := rt
        subst g1
        obtain ⟨q', k1, k2, k3⟩ := g5 j b h1
        rw [h4] at k1; cases k1
        refine k3.evo (mono_av fun a z => ?_) fun _ z => z
        rcases z with (z | z) | z
        · exact .inl (.inl z)
        · cases z; exact .inr rfl
        · exact .inl (.inr (bat a z))
      | dat d =>
        obtain ⟨q', k1, k2, _⟩ := p.boxOk h1
        rw [h4] at k1; cases k1
        refine k2.evo (mono_av fun a z => ?_) fun _ z => z
        rcases z with (z | z) | z
        · exact .inl z
        · exact z.elim
        · exact .inr (bat a z).box
      | ref i => exact rt.elim
  · obtain ⟨_, h1, b0, h2⟩ := oget (map_some_get e1)
    obtain ⟨_, h3, b1, h4⟩ := oget (map_some_get e2)
    exact h0.dis j k _ _ _ _ q (map_some_get' h2) (map_some_get' h4) e3 e4
  · rcases z with z | z
    · exact p.prot a z
    · exact (exf a z).2.2.1
  · rcases z with z | z
    · exact p.pdis a z (bat a y).box
    · exact (exf a z).2.2.2 (bat a y)
  · cases r with
    | dat d => exact Rep.evo (mono_av fun a z => z.imp id fun z => (bat a z).box) _ _ rt
    | new b =>
      obtain ⟨q, h1, h2, h3, h4, h5⟩ := rt
      exact ⟨q, h1, by rw [← hW]; exact h2, h3.evo (mono_av fun a z => z.imp (fun z => z.imp id (bat a)) id) fun _ z => z⟩
    | ref i => exact rt.elim
/-- the context of a def's body -/
theorem cxOf_ok {G : GC} {N : List Str} {qual : Str} {scope : Scope} {f : Addr} {cd : Value} {A : Around} {outer : List PySem.Env} {s : Shared} {H : Hp} {E : XK} {k : Nat} (hr : Room k (A.deeper (envOfC qual scope s.heap.objs.size f cd))) (hg : A.guards = some []) (nd : N.Nodup) :
    CxOk G ⟨N, scope, fun _ => true, k⟩ (cxOf CX0 G.prog G.w G.K G.mg G.base N qual scope f cd A outer s H E).nox where
  prog := rfl
  w := rfl
  K := rfl
  mg := rfl
  base := rfl
  N := rfl
  sc := rfl
  fn := rfl
  calm := rfl
  room := hr
  gd := by
    show (A.deeper (envOfC qual scope s.heap.objs.size f cd)).guards = some []
    rw [← hg]; rfl
  nd := nd
  xe := rfl
theorem fn_m {G : GC} {k : Nat} {f : Addr} {fd : FuncData} {x qual : Str} {st : Stmt} {N ps : List Str} {b : MS} (F : Fun G.K x qual st f fd) (S : FnScope N ps (defScope st)) (h : DSs G ⟨N, defScope st, fun _ => true, k⟩ (defBody st) b) :
    FnG G (k + 1) f fd ps (spM G.K ps.length (mdef N.length b)) := by
  obtain ⟨oc, od, kV, doc, pm, an, cdv, ct, osl, rfl, lk, hcd⟩ := F.ex
  have hpl : ps.length ≤ N.length := by have := congrArg List.length S.pre; rw [List.length_take] at this; omega
  have len : ∀ vs H Q E, spM G.K ps.length (mdef N.length b) vs H Q E → vs.length = ps.length := by
    rintro vs H Q E ⟨W, as, r, outs, h1, h2, _⟩
    have := h2.len
    simp only [List.length_map] at this
    rw [← this]; exact h1
  refine ⟨len, fun A outer s H args us vs Q E hr hgd e0 hb r hsp => ?_⟩
  have hl := len _ _ _ _ hsp
  have KX : G.K.In s.heap := e0.mod.kin.keeps fun b o e => (e0.bs b o e).1
  have lim : s.heap.NoLimit := e0.mod.nolimit.keeps fun b o e => (e0.bs b o e).1
  have hkind : ∀ y ∈ ps.zip us, (defScope st).names.lookup y.1 = some .local ∨ ((defScope st).names.lookup y.1 = some .cell ∧ ((cellsFrom (s.heap.objs.size + 1) (defScope st).names []).lookup y.1).isSome = true) := fun ⟨n, v⟩ hy => by
    rcases S.par n (List.of_mem_zip hy).1 with q | q
    · exact .inl q
    · exact .inr ⟨q, PySem.W.cellsFrom_some _ _ _ (.inl q)⟩
  refine codeAny_call_function hr.depth (KX _ _ lk) rfl S.co S.gen rfl (PySem.W.codeRec_of KX hcd) (hb _ _ _ _ ?_)
  refine wpAny_newFunctionEnv_cells S.kind hkind fun env he s1 x => ?_
  subst he
  refine ⟨lim.keeps x.toInCall.keep, codeAny_func ?_⟩
  have I : Inv (cxOf CX0 G.prog G.w G.K G.mg G.base N qual (defScope st) f cdv A outer s H E) [] (L2.start N vs) H s1 := inv_start S hr.hd e0 hl r x
  have c := cxOf_ok (G := G) (N := N) (qual := qual) (scope := defScope st) (f := f) (cd := cdv) (A := A) (outer := outer) (s := s) (H := H) (E := E) (hr.deeper _) hgd S.nd
  have hp := (h _ c).nox
  obtain ⟨W, as, rr, outs, h1, h2, h3, h4, h5, h6, h7, hq⟩ := hsp
  unfold mdef at h6
  obtain ⟨⟨o, ρ'⟩, e1, h6⟩ := Option.bind_eq_some_iff.mp h6
  have rel := startE_rel (N := N) h2 (by omega)
  have key : rdS G.K b { nx := fun _ H' => Q .non H', rt := Q } (L2.start N vs) H := by
    refine ⟨W, startE N.length as, o, ρ', rel, e1, ?_⟩
    cases o with
    | nx =>
      obtain ⟨outs', e2, e3⟩ := Option.map_eq_some_iff.mp (show (outAs ρ' as 0).map _ = _ from h6)
      cases e3
      exact fun σ' H' p => hq _ _ (fn_end h2 h3 h4 h5 p.rel e2 (r := .dat .none) (v := V.non) Rep.non).1
    | rt r1 =>
      obtain ⟨outs', e2, e3⟩ := Option.map_eq_some_iff.mp (show (outAs ρ' as 0).map _ = _ from h6)
      cases e3
      exact fun v σ' H' p rt => hq _ _ (fn_end h2 h3 h4 h5 p.rel e2 rt).1
    | bk => cases h6
    | ct => cases h6
  refine wpAny_mono (hp.run [] s1 (L2.start N vs) H _ I key) (fun fl s' hs => ?_) fun e s' hs => hs
  have fin : ∀ {σ' : L2.St} {H' : Hp} {v : V} {u : Value}, Inv (cxOf CX0 G.prog G.w G.K G.mg G.base N qual (defScope st) f cdv A outer s H E) [] σ' H' s' → RelV v u → Q v H' → CE outer G.prog G.w H s Q u s' :=
    fun {σ' H' v u} J rv q => ⟨v, H', J.os, J.bare, J.base, J.hok, rv, q⟩
  cases fl with
  | ret u =>
    obtain ⟨v, σ', H', J, rv, q⟩ := hs
    exact fin J rv q
  | next =>
    obtain ⟨σ', H', J, q⟩ := hs
    exact fin (v := V.non) (u := Value.none) J rfl q
  | brk =>
    obtain ⟨_, _, _, q⟩ := hs
    exact False.elim q
  | cont =>
    obtain ⟨_, _, _, q⟩ := hs
    exact False.elim q
/-- only the script is tracked -/
def scriptH (K : PySem.W.Frag) (a : Addr) (o : Obj) (xs : List V) : Hp := fun b => if b = a ∧ K.lookup a = none then some (.frz o (.lst xs)) else none
theorem scriptH_some {K : PySem.W.Frag} {a b : Addr} {o : Obj} {xs : List V} {u : HO} (h : scriptH K a o xs b = some u) : b = a ∧ K.lookup a = none ∧ u = .frz o (.lst xs) := by
  unfold scriptH at h
  split at h
  · rename_i c
    cases h
    exact ⟨c.1, c.2, rfl⟩
  · cases h
theorem rep_ints {K : PySem.W.Frag} {N : Addr → Prop} {H : Hp} : ∀ ns : List Int, RepL K N H (ns.map V.int) (ns.map PyData.int)
  | [] => .nil
  | n :: r => .cons (.int n) (rep_ints r)
theorem end_call {P : Program} {w : World} {K : PySem.W.Frag} {mg mb : Str → Option Value} {k : Nat} {fa a : Addr} {fd : FuncData} {x : Str} {m : MF} {s₁ : Shared} {vs : List Value} {ns : List Int} (KX : K.In s₁.heap) (hns : s₁.heap.Ns mainGlobals mg)
    (hb : s₁.heap.Ns builtinsNs mb) (hbb : ∀ x : Str, x ≠ "__name__" → mb x = bootBuiltins x) (hlim : s₁.heap.NoLimit) (hg : s₁.gens = #[]) (ha : s₁.heap.get? a = some { cls := .type "list", data := .seq vs.toArray }) (hi : IntsAre vs ns) (hl : ns.length ≤ 63)
    (hr : Room k callerA) (F : ∀ base : Heap, K.In base → base.Ns mainGlobals mg → FnG ⟨P, w, K, mg, base⟩ k fa fd [x] (spM K 1 m)) (hbind : ∀ (s : Shared) (u : Value), BindsTo s fd ⟨[u], []⟩ [(x, u)])
    (hm : ∃ outs, m [.dat (.list (ns.map PyData.int))] = some (.dat (.bool true), outs) ∧ outs.map isBx = [false]) :
    codeAny (model P w) callerA (.call (.ref fa) ⟨[.ref a], []⟩) (fun r s' => r = .ok (.ret (.bool true)) ∧ OldK s₁.heap s'.heap ∧ s'.os = s₁.os ∧ AllBare s'.gens) s₁ := by
  have hsz : ns.length ≤ sizeLine := by rw [sizeLine_eq]; omega
  let ob : Obj := { cls := .type "list", data := .seq vs.toArray }
  let H : Hp := scriptH K a ob (ns.map V.int)
  have hH : ∀ {b : Addr} {u : HO}, H b = some u → b = a ∧ K.lookup a = none ∧ u = .frz ob (.lst (ns.map V.int)) := fun e => scriptH_some e
  have untr : ∀ b, b ≠ a ∨ K.lookup a ≠ none → H b = none := fun b hb => by
    cases q : H b with
    | none => rfl
    | some u =>
      obtain ⟨h1, h2, _⟩ := hH q
      rcases hb with z | z
      · exact (z h1).elim
      · exact (z h2).elim
  have hok : HOk P w H s₁.heap := fun b u e => by
    obtain ⟨rfl, _, rfl⟩ := hH e
    exact ⟨ha, by rw [List.length_map]; exact hsz, vs, _, vals_ints hi, ha⟩
  -- the base: all that is not tracked
  have nsB : ∀ {b : Addr} {mm : Str → Option Value}, s₁.heap.Ns b mm → (hidT s₁.heap H).Ns b mm := fun {b mm} ⟨o, es, ep, e, d, r⟩ => by
    refine ⟨o, es, ep, hidT_get e (untr b (.inl fun z => ?_)), d, r⟩
    rw [z, ha] at e
    cases e
    have d' : Data.seq vs.toArray _ = Data.dict es ep := d
    cases d'
  have kB : K.In (hidT s₁.heap H) := fun b o e => hidT_get (KX b o e) (by
    by_cases z : b = a
    · subst z; exact untr b (.inr (by rw [e]; exact Option.some_ne_none o))
    · exact untr b (.inl z))
  have md : Mod K mg (hidT s₁.heap H) := ⟨kB, nsB hns, ⟨mb, nsB hb, hbb⟩, let ⟨mc, h1, h2⟩ := hlim; ⟨mc, nsB h1, h2⟩⟩
  have e0 : Env0 P w K mg (hidT s₁.heap H) callerA [] s₁ H := ⟨rfl, md, fun b o e => of_hidT e, Nat.le_of_eq (hidT_size _ _), trivial, fun b z => (by cases z), hok, AllBare.of_eq hg⟩
  obtain ⟨outs, em, ho⟩ := hm
  have noBox : ∀ (σ : L2.St) q, ¬ BoxAt (([A.dat (.list (ns.map PyData.int))] : List A).map some) σ q := fun σ q ⟨i, o, b, e1, _⟩ => by
    cases i with
    | zero => cases e1
    | succ i => cases e1
  have rl : DRel K ⟨fun _ => False, fun _ => none, H⟩ (([A.dat (.list (ns.map PyData.int))] : List A).map some) (([V.ref a] : List V).map some) H := by
    refine ⟨rfl, fun i z e => ?_, fun i j o b o' b' q e1 _ _ _ => ?_, fun q z => z.elim, fun q z => z.elim, fun _ _ h _ => h, fun _ o h => ⟨o, h⟩⟩
    · cases i with
      | succ i => cases e
      | zero =>
        cases e
        refine ⟨.ref a, rfl, .lst ?_ (rep_ints ns)⟩
        cases hk : K.lookup a with
        | none => exact .inl ⟨.inr ⟨ob, if_pos ⟨rfl, hk⟩⟩, fun z => z.elim id (noBox _ a)⟩
        | some o =>
          have e := KX a o hk
          rw [ha] at e
          cases e
          exact .inr ⟨vs, _, hk, by rw [hi.length]; exact hsz, vals_ints hi⟩
    · cases i with
      | zero => cases e1
      | succ i => cases e1
  have sp : spM K 1 m [.ref a] H (fun v _ => v = .bl true) fun _ _ _ => False :=
    ⟨_, _, _, outs, rfl, rl, rfl, fun i b e => (by cases i <;> cases e), fun a ⟨i, z⟩ => (by cases z), em, ho.symm, fun v H' p => by
      have z := p.res
      cases (show Rep _ _ _ _ _ from z)
      rfl⟩
  refine codeAny_mono ((F _ kB (nsB hns)).run callerA [] s₁ H ⟨[.ref a], []⟩ [.ref a] [.ref a] _ _ hr rfl e0 (hbind s₁ (.ref a)) (.cons rfl .nil) sp) fun r s' h => ?_
  cases r with
  | error e => exact h.elim
  | ok fl => cases fl with
    | ret u =>
      obtain ⟨v, H', os, bare, un, hok', rv, rfl⟩ := h
      cases rv
      refine ⟨rfl, OldK.of_keep fun b o e => ?_, os, bare⟩
      cases q : H b with
      | none => exact un.keep b o e q (fun z => by cases z) (by simp)
      | some u =>
        obtain ⟨rfl, _, rfl⟩ := hH q
        have k2 := hok' _ _ (un.frzs _ _ _ q)
        rw [ha] at e
        cases e
        exact k2.1
    | next => exact False.elim h
    | brk => exact False.elim h
    | cont => exact False.elim h
theorem walk_G {l : PySem.W.OpenLaw} {n k : Nat} {q : Program} {loose : List Str} {XP : (Str → Option Value) → Heap → Prop} {YP : World → Heap → Prop} {d : DefRec} {K : Params → PySem.W.Frag} {x : Str} {m : MF} (hn : l.most = some n) (hn63 : n ≤ 63)
    (hdf : d.params.defaults = []) (hr : Room k callerA) (hY : ∀ (w : World) (h : Heap), YP w h → (K w.params).In h)
    (F : ∀ (w : World) (mg : Str → Option Value) (fa : Addr) (h : Heap), (K w.params).In h → h.Ns mainGlobals mg → mg d.name = some (.ref fa) → ∃ fd : FuncData, (∀ (s : Shared) (u : Value), BindsTo s fd ⟨[u], []⟩ [(x, u)]) ∧
      ∀ base : Heap, (K w.params).In base → base.Ns mainGlobals mg → FnG ⟨l.prog, w, K w.params, mg, base⟩ k fa fd [x] (spM (K w.params) 1 m))
    (hm : ∀ ns : List Int, ns.length ≤ 63 → ∃ outs, m [.dat (.list (ns.map PyData.int))] = some (.dat (.bool true), outs) ∧ outs.map isBx = [false]) :
    PySem.W.WalkO q loose XP YP l.row.toRowW d [] (fun f vs => PySem.call f vs) := by
  refine Att.attach_call hn hdf fun w s₀ s₁ mg mb fa o pm cd doc a vs ns G Y ho hd hcd hmg hobj hints hlen hg => ?_
  obtain ⟨fd, hb, hF⟩ := F w mg fa _ (hY w _ Y) G.T.g hmg
  exact end_call (hY w _ Y) G.T.g G.T.b G.T.builtins G.T.nolimit hg hobj hints (Nat.le_trans hlen hn63) hr hF hb (hm ns (Nat.le_trans hlen hn63))
end L3
namespace L3
open PySem PySem.Spec PyProof.Rows L2
section
variable {K : PySem.W.Frag} {N : Addr → Prop} {H : Hp} {v : V}
theorem VPost.dat {d : D} (r : Rep K N H v d) : VPost K N H (.dat d) v H := ⟨fun _ _ z => z, r⟩
/-- a new list -/
theorem VPost.lst {p : Addr} {xs : List V} {ds : List D} (tk : Trk N H) (hp : H p = none) (r : RepL K N H xs ds) : VPost K N H (.new (.lst ds)) (.ref p) (upd H p (.lst xs)) :=
  ⟨fresh_upd hp, p, rfl, hp, xs, upd_same, RepL.evo (fresh_evo hp) _ _ r⟩
theorem VPost.tup {p : Addr} {xs : List V} {ds : List D} {o : Obj} (tk : Trk N H) (hp : H p = none) (ho : o.dict = none) (r : RepL K N H xs ds) : VPost K N H (.dat (.tuple ds)) (.ref p) (upd H p (.frz o (.tup xs))) :=
  ⟨fresh_upd hp, .tup (.inl ⟨⟨o, upd_same, ho⟩, fun z => by obtain ⟨o, e⟩ := tk _ z; rw [hp] at e; cases e⟩) (RepL.evo (fresh_evo' hp) _ _ r)⟩
theorem VPost.dic {p : Addr} {ks : List (Key × V)} {kvs : List (Key × D)} (tk : Trk N H) (hp : H p = none) (r : RepK K N H ks (dkv kvs)) : VPost K N H (.new (.dic kvs)) (.ref p) (upd H p (.dK ks)) :=
  ⟨fresh_upd hp, p, rfl, hp, ks, upd_same, RepK.evo (fresh_evo hp) _ _ r⟩
mutual
theorem Rep.dp : ∀ (d : D) (v : V), Rep K N H v d → d.canLay0 = true → Dp K H v d
  | .none, _, h, _ => by cases h; exact .non
  | .bool b, _, h, _ => by cases h; exact .bl b
  | .int i, _, h, _ => by cases h; exact .int i
  | .str x, _, h, _ => by cases h; exact .str x
  | .list ds, _, h, e => by cases h with | lst h1 h2 => exact .lst h1.sq (RepL.dp ds _ h2 (by simpa [PyData.canLay0] using e))
  | .tuple ds, _, h, e => by cases h with | tup h1 h2 => exact .tup h1.sq (RepL.dp ds _ h2 (by simpa [PyData.canLay0] using e))
  | .dict _, _, _, e => by simp [PyData.canLay0] at e
theorem RepL.dp : ∀ (ds : List D) (vs : List V), RepL K N H vs ds → PyData.canLayAll0 ds = true → DpAll K H vs ds
  | [], _, h, _ => by cases h; exact .nil
  | d :: ds, _, h, e => by
    have e' : d.canLay0 = true ∧ PyData.canLayAll0 ds = true := by simpa [PyData.canLayAll0] using e
    cases h with | cons h1 h2 => exact .cons (Rep.dp d _ h1 e'.1) (RepL.dp ds _ h2 e'.2)
end
theorem SRep.dp {d : D} (h : SRep K N H v d) (e : d.canLay0 = true) : Dp K H v d := by
  cases d with
  | list ds => obtain ⟨a, xs, rfl, h1, h2⟩ := h.list; exact .lst h1 (RepL.dp ds _ h2 (by simpa [PyData.canLay0] using e))
  | tuple ds => obtain ⟨a, xs, rfl, h1, h2⟩ := h.tuple; exact .tup h1.sq (RepL.dp ds _ h2 (by simpa [PyData.canLay0] using e))
  | dict ds => simp [PyData.canLay0] at e
  | none => rw [h.none]; exact .non
  | bool b => rw [h.bool]; exact .bl b
  | int i => rw [h.int]; exact .int i
  | str x => rw [h.str]; exact .str x
theorem SReps.one {vs : List V} {d : D} (h : SReps K N H vs [d]) : ∃ v, vs = [v] ∧ SRep K N H v d := by
  cases h with
  | cons r t => cases t; exact ⟨_, rfl, r⟩
theorem SReps.two {vs : List V} {d e : D} (h : SReps K N H vs [d, e]) : ∃ v w, vs = [v, w] ∧ SRep K N H v d ∧ SRep K N H w e := by
  cases h with
  | cons r t => cases t with
    | cons r2 t => cases t; exact ⟨_, _, rfl, r, r2⟩
theorem SReps.nil {vs : List V} (h : SReps K N H vs []) : vs = [] := by cases h; rfl
/-- a list as it stands -/
theorem SRep.listM {X : Cx} {pins : List (Addr × Obj)} {σ : L2.St} {s : Shared} {ds : List D} (I : Inv X pins σ H s) (h : SRep X.K N H v (.list ds)) :
    ∃ a xs its n, v = .ref a ∧ RepL X.K N H xs ds ∧ Vals xs its ∧ xs.length ≤ sizeLine ∧ s.heap.get? a = some { cls := .type "list", data := .seq its.toArray n } := by
  have fin : ∀ {a : Addr} {xs : List V}, ObjOk X.prog X.w H s.heap a (.lst xs) → ∃ its n, Vals xs its ∧ xs.length ≤ sizeLine ∧ s.heap.get? a = some { cls := .type "list", data := .seq its.toArray n } := fun {a xs} h => by
    obtain ⟨z, its, n, r, e⟩ := h
    exact ⟨its, n, r, z, e⟩
  rcases h with h | ⟨q, b, rfl, e, bo⟩
  · cases h with
    | lst h1 h2 =>
      rename_i a xs
      rcases h1 with ⟨h1, _⟩ | ⟨its, n, k1, k2, k3⟩
      · obtain ⟨its, n, g1, g2, g3⟩ := fin (h1.ok I.hok)
        exact ⟨a, xs, its, n, rfl, h2, g1, g2, g3⟩
      · exact ⟨a, xs, its, n, rfl, h2, k3, by rw [k3.length]; exact k2, I.kIn a _ k1⟩
  · cases b with
    | dic kvs => cases e
    | lst xs =>
      cases e
      obtain ⟨ys, e, r⟩ := bo
      obtain ⟨its, n, g1, g2, g3⟩ := fin (I.hok q _ e)
      exact ⟨q, ys, its, n, rfl, r, g1, g2, g3⟩
end
def addD : D → D → Option R
  | .int i, .int j => some (.dat (.int (i + j)))
  | .str x, .str y => if x.length + y.length ≤ sizeLine then some (.dat (.str (x ++ y))) else none
  | .list xs, .list ys => if xs.length + ys.length ≤ sizeLine then some (.new (.lst (xs ++ ys))) else none
  | .tuple xs, .tuple ys => if xs.length + ys.length ≤ sizeLine then some (.dat (.tuple (xs ++ ys))) else none
  | _, _ => none
def subD : D → D → Option R
  | .int i, .int j => some (.dat (.int (i - j)))
  | _, _ => none
def mulD : D → D → Option R
  | .int i, .int j => if (-(2 ^ 64) < i ∧ i < 2 ^ 64) ∨ (-(2 ^ 64) < j ∧ j < 2 ^ 64) then some (.dat (.int (i * j))) else none
  | .list xs, .int k => if -(2 ^ 63) ≤ k ∧ k < 2 ^ 63 ∧ xs.length * k.toNat ≤ sizeLine then some (.new (.lst (List.replicate k.toNat xs).flatten)) else none
  | _, _ => none
def fdivD : D → D → Option R
  | .int i, .int j => if 0 < j ∧ j < 1073741824 then some (.dat (.int (i / j))) else none
  | _, _ => none
def modD : D → D → Option R
  | .int i, .int j => if 0 < j then some (.dat (.int (i % j))) else none
  | _, _ => none
def powD : D → D → Option R
  | .int i, .int j => if 0 ≤ j ∧ j ≤ 1000000 ∧ i.natAbs < 2 ^ 64 then some (.dat (.int (i ^ j.toNat))) else none
  | _, _ => none
section
variable {G : GC} {S : SC}
theorem RepL.rep {K : PySem.W.Frag} {N : Addr → Prop} {H : Hp} {vs : List V} {ds : List D} (h : RepL K N H vs ds) : ∀ k : Nat, RepL K N H (List.replicate k vs).flatten (List.replicate k ds).flatten
  | 0 => .nil
  | k + 1 => by
    rw [List.replicate_succ, List.replicate_succ, List.flatten_cons, List.flatten_cons]
    exact h.append (RepL.rep h k)
theorem op_addD (X : Cx) (c : CxOk G S X) : OpR X (binaryOp .Add) (rD2 G.K addD) := by
  intro pins s σ H x y v u Q I rx ry ⟨N, d, e, r, tk, hx, hy, eg, q⟩
  rw [← c.K] at hx hy q
  unfold addD at eg
  split at eg
  · cases eg
    have e1 := hx.int; have e2 := hy.int
    subst e1; subst e2
    exact op_add pins s σ H _ _ v u Q I rx ry ⟨_, _, rfl, rfl, q _ H (.dat (.int _))⟩
  · split at eg
    · cases eg
      have e1 := hx.str
      have e2 := hy.str
      subst e1
      subst e2
      exact op_add_str pins s σ H _ _ v u Q I rx ry ⟨_, _, rfl, rfl, by assumption, q _ H (.dat (.str _))⟩
    · cases eg
  · split at eg
    · cases eg
      rename_i hz
      obtain ⟨a, xs, its, n, rfl, l1, r1, z1, g1⟩ := hx.listM I
      obtain ⟨b, ys, its2, n2, rfl, l2, r2, z2, g2⟩ := hy.listM I
      cases rx
      cases ry
      have h1 := r1.length
      have h2 := r2.length
      refine PySem.P.add_list g1 g2 ?_ (by rw [List.size_toArray, List.size_toArray, ← h1, ← h2, l1.length, l2.length]; omega)
      rw [show its.toArray ++ its2.toArray = (its ++ its2).toArray by simp]
      exact ⟨.ref _, _, I.lnew (t' := s.toks) (r1.append r2) (by rw [List.length_append, l1.length, l2.length]; exact hz), rfl, q _ _ (.lst tk I.fresh (l1.append l2))⟩
    · cases eg
  · split at eg
    · cases eg
      rename_i xs ys hz
      obtain ⟨a, vs, rfl, h1, l1⟩ := hx.tuple
      obtain ⟨b, ws, rfl, h2, l2⟩ := hy.tuple
      cases rx
      cases ry
      obtain ⟨its, r1, p1, _⟩ := I.tuple h1.sq
      obtain ⟨its2, r2, p2, _⟩ := I.tuple h2.sq
      by_cases hx : vs = []
      · subst hx
        cases r1
        cases l1
        exact cat_tup0 p1 p2 ⟨.ref b, H, I, rfl, q _ H (.dat (.tup h2 l2))⟩
      · refine HT.cat_tup p1 p2 (fun z => hx (r1.nil_iff.mp z)) (fun z => ⟨.ref a, H, I, rfl, ?_⟩) (fun z => ?_) (by rw [← r1.length, ← r2.length, l1.length, l2.length]; exact hz)
        · have z2 := r2.nil_iff.mp z
          subst z2
          cases l2
          rw [List.append_nil] at q
          exact q _ H (.dat (.tup h1 l1))
        · exact ⟨.ref s.heap.objs.size, _, ftup_new (t' := s.toks) I (r1.append r2) (by rw [List.length_append, l1.length, l2.length]; exact hz), rfl, q _ _ (.tup tk I.fresh rfl (l1.append l2))⟩
    · cases eg
  · cases eg
theorem op_int2 {op : Operator} {g : D → D → Option R} {C : Int → Int → Prop} {f : Int → Int → Int} (X : Cx) (c : CxOk G S X) (ho : OpR X (binaryOp op) (rI C fun i j => .int (f i j))) (hg : ∀ d e r, g d e = some r → ∃ i j, d = .int i ∧ e = .int j ∧ C i j ∧ r = .dat (.int (f i j))) : OpR X (binaryOp op) (rD2 G.K g) := by
  intro pins s σ H x y v u Q I rx ry ⟨N, d, e, r, tk, hx, hy, eg, q⟩
  obtain ⟨i, j, rfl, rfl, hc, rfl⟩ := hg d e r eg
  have e1 := hx.int
  have e2 := hy.int
  subst e1
  subst e2
  exact ho pins s σ H _ _ v u Q I rx ry ⟨i, j, rfl, rfl, hc, q _ H (.dat (.int _))⟩
theorem iop_int2 {op : Operator} {g : D → D → Option R} {f : Int → Int → Int} (X : Cx) (c : CxOk G S X) (ho : OpR X (inplaceOp op) (rI0 fun i j => .int (f i j))) (hg : ∀ d e r, g d e = some r → ∃ i j, d = .int i ∧ e = .int j ∧ r = .dat (.int (f i j))) : OpR X (inplaceOp op) (rD2 G.K g) := by
  intro pins s σ H x y v u Q I rx ry ⟨N, d, e, r, tk, hx, hy, eg, q⟩
  obtain ⟨i, j, rfl, rfl, rfl⟩ := hg d e r eg
  have e1 := hx.int
  have e2 := hy.int
  subst e1
  subst e2
  exact ho pins s σ H _ _ v u Q I rx ry ⟨i, j, rfl, rfl, q _ H (.dat (.int _))⟩
def addI : D → D → Option R
  | .int i, .int j => some (.dat (.int (i + j)))
  | _, _ => none
theorem iop_addI (X : Cx) (c : CxOk G S X) : OpR X (inplaceOp .Add) (rD2 G.K addI) := iop_int2 X c iop_add fun d e r h => by
  cases d <;> cases e <;> first | (cases h; exact ⟨_, _, rfl, rfl, rfl⟩) | cases h
theorem op_subD (X : Cx) (c : CxOk G S X) : OpR X (binaryOp .Sub) (rD2 G.K subD) := by
  intro pins s σ H x y v u Q I rx ry ⟨N, d, e, r, tk, hx, hy, eg, q⟩
  unfold subD at eg
  split at eg
  · cases eg
    have e1 := hx.int
    have e2 := hy.int
    subst e1
    subst e2
    exact op_sub pins s σ H _ _ v u Q I rx ry ⟨_, _, rfl, rfl, q _ H (.dat (.int _))⟩
  · cases eg
theorem op_fdivD (X : Cx) (c : CxOk G S X) : OpR X (binaryOp .FloorDiv) (rD2 G.K fdivD) := op_int2 X c op_fdiv fun d e r h => by
  unfold fdivD at h
  split at h
  · split at h
    · cases h; exact ⟨_, _, rfl, rfl, by assumption, rfl⟩
    · cases h
  · cases h
theorem op_modD (X : Cx) (c : CxOk G S X) : OpR X (binaryOp .Mod) (rD2 G.K modD) := op_int2 X c op_mod fun d e r h => by
  unfold modD at h
  split at h
  · split at h
    · cases h; exact ⟨_, _, rfl, rfl, by assumption, rfl⟩
    · cases h
  · cases h
theorem op_powD (X : Cx) (c : CxOk G S X) : OpR X (binaryOp .Pow) (rD2 G.K powD) := op_int2 X c op_pow fun d e r h => by
  unfold powD at h
  split at h
  · split at h
    · cases h; exact ⟨_, _, rfl, rfl, by assumption, rfl⟩
    · cases h
  · cases h
theorem op_mulD (X : Cx) (c : CxOk G S X) : OpR X (binaryOp .Mult) (rD2 G.K mulD) := by
  intro pins s σ H x y v u Q I rx ry ⟨N, d, e, r, tk, hx, hy, eg, q⟩
  rw [← c.K] at hx hy q
  unfold mulD at eg
  split at eg
  · split at eg
    · cases eg
      have e1 := hx.int
      have e2 := hy.int
      subst e1
      subst e2
      exact op_mul pins s σ H _ _ v u Q I rx ry ⟨_, _, rfl, rfl, by assumption, q _ H (.dat (.int _))⟩
    · cases eg
  · split at eg
    · cases eg
      rename_i ds k hk
      obtain ⟨h1, h2, hz⟩ := hk
      have e2 := hy.int
      subst e2
      obtain ⟨l, xs, its, n, rfl, l1, r1, z1, g1⟩ := hx.listM I
      cases rx
      obtain ⟨t, rfl⟩ := ry
      have hl := r1.length
      have hlen : its.toArray.size * k.toNat ≤ sizeLine := by rw [List.size_toArray, ← hl, l1.length]; exact hz
      have hcap : ¬ its.toArray.size * k.toNat > (2 ^ 63 - 1) / 8 := by
        have : (sizeLine : Nat) ≤ (2 ^ 63 - 1) / 8 := by decide
        omega
      have hfit : ¬ (!Builtin.List.listFitsIndex k) = true := by rw [fitsIndex_both h1 h2]; exact Bool.false_ne_true
      have hlong : ¬ Builtin.List.listTooLong (its.toArray.size * k.toNat) = true := by rw [notLongL hlen]; exact Bool.false_ne_true
      have f0 : ∀ m : Nat, List.foldl (fun x1 x2 => x1 ++ x2) #[] (List.replicate m its.toArray) = (List.replicate m its).flatten.toArray := fun m => by
        have := foldl_rep its m []
        rw [List.nil_append] at this
        exact this
      have hnew : List.foldl (fun x1 x2 => x1 ++ x2) #[] (List.replicate (if its.toArray.isEmpty = true then 0 else k.toNat) its.toArray) = (List.replicate k.toNat its).flatten.toArray := by
        rw [f0]
        cases its with
        | nil => simp
        | cons a r' => rw [if_neg (by simp)]
      refine wpAny_binaryOp_repeat_ref (T := "list") (U := "int") (by decide) ⟨_, g1, rfl⟩ (fun s' => typeIs_int s' k t) noFill_list_mul F.fills_int_mul F.slot_int_rmul repeat_list F.slot_int_index.lookup
        (call_meets F.slot_int_rmul (typeIs_int s k t) F.entry_int_rmul (F.args_int_rmul_2 _ _) (int___rmul___int_list k t l its.toArray n)
          ⟨g1, rfl, ⟨_, g1, rfl⟩, call_meets F.slot_list_mul ⟨_, g1, rfl⟩ F.entry_list_mul (F.args_list_mul_2 _ _) (AutoListH.list___mul___list_int_3 l its.toArray n k t hfit hcap hlong) ⟨g1, ?_⟩⟩)
      rw [hnew]
      exact ⟨.ref _, _, I.lnew (t' := s.toks) (r1.rep k.toNat) (by rw [PyProof.Rows.lm_len_rep_flat, Nat.mul_comm, l1.length]; exact hz), rfl, q _ _ (.lst tk I.fresh (l1.rep k.toNat))⟩
    · cases eg
  · cases eg
def scalD : D → D → Bool
  | .int _, .int _ => true
  | .str _, .str _ => true
  | .bool _, .bool _ => true
  | .none, .none => true
  | _, _ => false
/-- a list beside [], a tuple beside () -/
def nilOk (d e : D) : Bool := match d, e with
  | .tuple _, .tuple [] => true
  | .list _, .list [] => true
  | _, _ => false
/-- what == may be asked of -/
def eqOk (d e : D) : Bool := (nilOk d e || scalD d e) || (SeqAt.shaped d && SeqAt.shaped e)
def eqD (d e : D) : Option R := if eqOk d e = true then some (.dat (.bool (PyData.eqv d e))) else none
def neD (d e : D) : Option R := if eqOk d e = true then some (.dat (.bool (!PyData.eqv d e))) else none
theorem scal_rep {K : PySem.W.Frag} {N : Addr → Prop} {H : Hp} {v w : V} {d e : D} (hx : SRep K N H v d) (hy : SRep K N H w e) (h : scalD d e = true) : scal v w = true ∧ decide (v = w) = PyData.eqv d e := by
  cases d <;> cases e <;> first
    | exact absurd (show false = true from h) Bool.false_ne_true
    | (rw [hx.none, hy.none]; exact ⟨rfl, rfl⟩)
    | (rw [hx.bool, hy.bool]; exact ⟨rfl, by rw [dec_bl]; simp [PyData.eqv]⟩)
    | (rw [hx.int, hy.int]; exact ⟨rfl, by rw [dec_int]; simp [PyData.eqv]⟩)
    | (rw [hx.str, hy.str]; exact ⟨rfl, by rw [Bool.eq_iff_iff]; simp [PyData.eqv]⟩)
/-- .., what stands there, and whether it is empty -/
theorem nil_sides {X : Cx} {pins : List (Addr × Obj)} {σ : L2.St} {N : Addr → Prop} {H : Hp} {s : Shared} {x y : V} {d e : D} (I : Inv X pins σ H s) (hx : SRep X.K N H x d) (hy : SRep X.K N H y e) (h : nilOk d e = true) :
    ∃ (a b : Addr) (its : List Value), x = .ref a ∧ y = .ref b ∧ (PyData.eqv d e = decide (its.length = 0)) ∧ ((s.heap.IsTuple a its.toArray ∧ s.heap.IsTuple b #[]) ∨ (s.heap.IsList a its.toArray ∧ s.heap.IsList b #[])) := by
  unfold nilOk at h
  split at h
  · rename_i ds
    obtain ⟨a, xs, rfl, h1, r1⟩ := hx.tuple
    obtain ⟨b, ys, rfl, h2, r2⟩ := hy.tuple
    cases r2
    obtain ⟨its, rv, p, _⟩ := I.tuple h1.sq
    obtain ⟨its2, rv2, p2, _⟩ := I.tuple h2.sq
    cases rv2
    refine ⟨a, b, its, rfl, rfl, ?_, .inl ⟨p, p2⟩⟩
    have e1 := r1.length
    have e2 := rv.length
    rw [← e2, e1]
    cases ds <;> simp [PyData.eqv, PyData.eqvAll]
  · rename_i ds
    obtain ⟨a, xs, rfl, h1, r1⟩ := hx.list
    obtain ⟨b, ys, rfl, h2, r2⟩ := hy.list
    cases r2
    obtain ⟨its, rv, p, _⟩ := I.list h1
    obtain ⟨its2, rv2, p2, _⟩ := I.list h2
    cases rv2
    refine ⟨a, b, its, rfl, rfl, ?_, .inr ⟨p.isList, p2.isList⟩⟩
    have e1 := r1.length
    have e2 := rv.length
    rw [← e2, e1]
    cases ds <;> simp [PyData.eqv, PyData.eqvAll]
  · cases h
theorem eq_nilW {prog : Program} {w : World} {A : Around} {E : Value → Shared → Prop} {s : Shared} {a b : Addr} {its : List Value} {Q : Value → Shared → Prop} (hu : A.units < cLine) (h : (s.heap.IsTuple a its.toArray ∧ s.heap.IsTuple b #[]) ∨ (s.heap.IsList a its.toArray ∧ s.heap.IsList b #[])) (q : Q (.bool (decide (its.length = 0))) s) :
    wpAny (model prog w) A (compareOp .Eq (.ref a) (.ref b)) Q E s := by
  rcases h with ⟨h1, h2⟩ | ⟨h1, h2⟩
  · refine SeqAt.eq_tupleAt (e := fun _ => true) h1 h2 hu (fun j _ hj => absurd hj (Nat.not_lt_zero j)) ?_
    have e : ((List.range (min its.toArray.size (#[] : Array Value).size)).all (fun _ => true) && its.toArray.size == (#[] : Array Value).size) = decide (its.length = 0) := by
      cases its <;> simp
    rw [e]
    exact q
  · cases its with
    | nil => exact SeqAt.eq_listAt (e := fun _ => true) h1 h2 rfl hu (fun j _ hj => absurd hj (Nat.not_lt_zero j)) q
    | cons v r => exact SeqAt.eq_list_lengthsAt h1 h2 (by simp) hu (by simpa using q)
theorem ne_nilW {prog : Program} {w : World} {A : Around} {E : Value → Shared → Prop} {s : Shared} {a b : Addr} {its : List Value} {Q : Value → Shared → Prop} (hu : A.units < cLine) (h : (s.heap.IsTuple a its.toArray ∧ s.heap.IsTuple b #[]) ∨ (s.heap.IsList a its.toArray ∧ s.heap.IsList b #[])) (q : Q (.bool (!decide (its.length = 0))) s) :
    wpAny (model prog w) A (compareOp .NotEq (.ref a) (.ref b)) Q E s := by
  rcases h with ⟨h1, h2⟩ | ⟨h1, h2⟩
  · refine SeqAt.RcNeAt.tuples (e := fun _ => true) h1 h2 hu (fun j _ hj => absurd hj (Nat.not_lt_zero j)) prog w E Q ?_
    cases its <;> simpa using q
  · cases its with
    | nil => exact SeqAt.RcNeAt.lists (e := fun _ => true) h1 h2 rfl hu (fun j _ hj => absurd hj (Nat.not_lt_zero j)) prog w E Q (by simpa using q)
    | cons v r => exact SeqAt.RcNeAt.lists_lengths h1 h2 (by simp) hu prog w E Q (by simpa using q)
theorem op_eqD' (X : Cx) (c : CxOk G S X) : OpR X (compareOp .Eq) (rD2 G.K eqD) := by
  intro pins s σ H x y v u Q I rx ry ⟨N, d, e, r, tk, hx, hy, eg, q⟩
  rw [← c.K] at hx hy q
  unfold eqD at eg
  split at eg
  · cases eg
    rename_i h
    unfold eqOk at h
    rcases Bool.or_eq_true_iff.mp h with h | h
    · rcases Bool.or_eq_true_iff.mp h with h | h
      · obtain ⟨a, b, its, rfl, rfl, h1, h2⟩ := nil_sides I hx hy h
        obtain rfl : v = .ref a := rx
        obtain rfl : u = .ref b := ry
        refine eq_nilW (Nat.lt_of_le_of_lt (Nat.le_add_right _ 64) c.room.units) h2 ?_
        rw [← h1]
        exact ⟨.bl _, H, I, rfl, q _ H (.dat (.bl _))⟩
      obtain ⟨h1, h2⟩ := scal_rep hx hy h
      exact op_eq pins s σ H x y v u Q I rx ry ⟨h1, by rw [h2]; exact q _ H (.dat (.bl _))⟩
    · obtain ⟨h1, h2⟩ := Bool.and_eq_true_iff.mp h
      exact op_eqD c.room.units pins s σ H x y v u Q I rx ry ⟨d, e, hx.dp (SeqAt.canLay_of_shaped h1), hy.dp (SeqAt.canLay_of_shaped h2), h1, h2, q _ H (.dat (.bl _))⟩
  · cases eg
theorem op_neD' (X : Cx) (c : CxOk G S X) : OpR X (compareOp .NotEq) (rD2 G.K neD) := by
  intro pins s σ H x y v u Q I rx ry ⟨N, d, e, r, tk, hx, hy, eg, q⟩
  rw [← c.K] at hx hy q
  unfold neD at eg
  split at eg
  · cases eg
    rename_i h
    unfold eqOk at h
    rcases Bool.or_eq_true_iff.mp h with h | h
    · rcases Bool.or_eq_true_iff.mp h with h | h
      · obtain ⟨a, b, its, rfl, rfl, h1, h2⟩ := nil_sides I hx hy h
        obtain rfl : v = .ref a := rx
        obtain rfl : u = .ref b := ry
        refine ne_nilW (Nat.lt_of_le_of_lt (Nat.le_add_right _ 64) c.room.units) h2 ?_
        rw [← h1]
        exact ⟨.bl _, H, I, rfl, q _ H (.dat (.bl _))⟩
      obtain ⟨h1, h2⟩ := scal_rep hx hy h
      exact op_ne pins s σ H x y v u Q I rx ry ⟨h1, by rw [h2]; exact q _ H (.dat (.bl _))⟩
    · obtain ⟨h1, h2⟩ := Bool.and_eq_true_iff.mp h
      exact op_neD c.room.units pins s σ H x y v u Q I rx ry ⟨d, e, hx.dp (SeqAt.canLay_of_shaped h1), hy.dp (SeqAt.canLay_of_shaped h2), h1, h2, q _ H (.dat (.bl _))⟩
  · cases eg
def ltD : D → D → Option R
  | .int i, .int j => some (.dat (.bool (decide (i < j))))
  | .str x, .str y => some (.dat (.bool (decide (x.cps.toList < y.cps.toList))))
  | _, _ => none
def leD : D → D → Option R
  | .int i, .int j => some (.dat (.bool (decide (i ≤ j))))
  | .str x, .str y => some (.dat (.bool (!decide (y.cps.toList < x.cps.toList))))
  | _, _ => none
def gtD (d e : D) : Option R := ltD e d
def geD (d e : D) : Option R := match d, e with
  | .int i, .int j => some (.dat (.bool (decide (j ≤ i))))
  | .str x, .str y => some (.dat (.bool (!decide (x.cps.toList < y.cps.toList))))
  | _, _ => none
theorem op_ltD (X : Cx) (c : CxOk G S X) : OpR X (compareOp .Lt) (rD2 G.K ltD) := by
  intro pins s σ H x y v u Q I rx ry ⟨N, d, e, r, tk, hx, hy, eg, q⟩
  unfold ltD at eg
  split at eg
  · cases eg
    have e1 := hx.int; have e2 := hy.int
    subst e1; subst e2
    exact op_lt pins s σ H _ _ v u Q I rx ry ⟨_, _, rfl, rfl, q _ H (.dat (.bl _))⟩
  · cases eg
    have e1 := hx.str; have e2 := hy.str
    subst e1; subst e2
    exact op_lt_str pins s σ H _ _ v u Q I rx ry ⟨_, _, rfl, rfl, q _ H (.dat (.bl _))⟩
  · cases eg
theorem op_leD (X : Cx) (c : CxOk G S X) : OpR X (compareOp .LtE) (rD2 G.K leD) := by
  intro pins s σ H x y v u Q I rx ry ⟨N, d, e, r, tk, hx, hy, eg, q⟩
  unfold leD at eg
  split at eg
  · cases eg
    have e1 := hx.int; have e2 := hy.int
    subst e1; subst e2
    exact op_le pins s σ H _ _ v u Q I rx ry ⟨_, _, rfl, rfl, q _ H (.dat (.bl _))⟩
  · cases eg
    have e1 := hx.str; have e2 := hy.str
    subst e1; subst e2
    exact op_le_str pins s σ H _ _ v u Q I rx ry ⟨_, _, rfl, rfl, q _ H (.dat (.bl _))⟩
  · cases eg
theorem op_gtD (X : Cx) (c : CxOk G S X) : OpR X (compareOp .Gt) (rD2 G.K gtD) := by
  intro pins s σ H x y v u Q I rx ry ⟨N, d, e, r, tk, hx, hy, eg, q⟩
  unfold gtD ltD at eg
  split at eg
  · cases eg
    have e1 := hx.int; have e2 := hy.int
    subst e1; subst e2
    exact op_gt pins s σ H _ _ v u Q I rx ry ⟨_, _, rfl, rfl, q _ H (.dat (.bl _))⟩
  · cases eg
    have e1 := hx.str; have e2 := hy.str
    subst e1; subst e2
    exact op_gt_str pins s σ H _ _ v u Q I rx ry ⟨_, _, rfl, rfl, q _ H (.dat (.bl _))⟩
  · cases eg
theorem op_geD (X : Cx) (c : CxOk G S X) : OpR X (compareOp .GtE) (rD2 G.K geD) := by
  intro pins s σ H x y v u Q I rx ry ⟨N, d, e, r, tk, hx, hy, eg, q⟩
  unfold geD at eg
  split at eg
  · cases eg
    have e1 := hx.int; have e2 := hy.int
    subst e1; subst e2
    exact op_ge pins s σ H _ _ v u Q I rx ry ⟨_, _, rfl, rfl, q _ H (.dat (.bl _))⟩
  · cases eg
    have e1 := hx.str; have e2 := hy.str
    subst e1; subst e2
    exact op_ge_str pins s σ H _ _ v u Q I rx ry ⟨_, _, rfl, rfl, q _ H (.dat (.bl _))⟩
  · cases eg
end
end L3
namespace L3
open PySem PySem.Spec PyProof.Rows L2
def flatD : D → Bool
  | .none => true
  | .bool _ => true
  | .int _ => true
  | .str _ => true
  | _ => false
section
variable {K : PySem.W.Frag} {N : Addr → Prop} {H : Hp} {v w : V} {d e : D}
theorem SRep.flat (h : SRep K N H v d) (f : flatD d = true) : flatV v = true := by
  cases d with
  | none => rw [h.none]; rfl
  | bool _ => rw [h.bool]; rfl
  | int _ => rw [h.int]; rfl
  | str _ => rw [h.str]; rfl
  | list _ => cases f
  | tuple _ => cases f
  | dict _ => cases f
theorem SRep.eqv (hx : SRep K N H v d) (hy : SRep K N H w e) (f : flatD d = true) (g : flatD e = true) : eqV v w = PyData.eqv d e := by
  have key : ∀ (d : D) (v : V), SRep K N H v d → flatD d = true → (d = .none ∧ v = .non) ∨ (∃ b, d = .bool b ∧ v = .bl b) ∨ (∃ i, d = .int i ∧ v = .int i) ∨ ∃ x, d = .str x ∧ v = .str x := by
    intro d v h f
    cases d with
    | none => exact .inl ⟨rfl, h.none⟩
    | bool b => exact .inr (.inl ⟨b, rfl, h.bool⟩)
    | int i => exact .inr (.inr (.inl ⟨i, rfl, h.int⟩))
    | str x => exact .inr (.inr (.inr ⟨x, rfl, h.str⟩))
    | list _ => cases f
    | tuple _ => cases f
    | dict _ => cases f
  rcases key d v hx f with ⟨rfl, rfl⟩ | ⟨b, rfl, rfl⟩ | ⟨i, rfl, rfl⟩ | ⟨x, rfl, rfl⟩ <;> rcases key e w hy g with ⟨rfl, rfl⟩ | ⟨b, rfl, rfl⟩ | ⟨i, rfl, rfl⟩ | ⟨x, rfl, rfl⟩ <;> simp [eqV, PyData.eqv]
theorem RepL.flat : ∀ {vs : List V} {ds : List D}, RepL K N H vs ds → ds.all flatD = true → vs.all flatV = true
  | _, _, .nil, _ => rfl
  | _, _, .cons r t, f => by
    rw [List.all_cons, Bool.and_eq_true] at f ⊢
    exact ⟨SRep.flat (.inl r) f.1, RepL.flat t f.2⟩
theorem RepL.inVs (hx : SRep K N H w e) (g : flatD e = true) : ∀ {vs : List V} {ds : List D}, RepL K N H vs ds → ds.all flatD = true → L2.inV w vs = ds.any fun z => PyData.eqv z e
  | _, _, .nil, _ => rfl
  | _, _, .cons r t, f => by
    rw [List.all_cons, Bool.and_eq_true] at f
    show (eqV _ w || L2.inV w _) = _
    rw [List.any_cons, RepL.inVs hx g t f.2, SRep.eqv (.inl r) hx f.1 g]
def seq2D : D → Option (List D)
  | .list ds => some ds
  | .tuple ds => some ds
  | _ => none
theorem SRep.seq {ds : List D} (h : SRep K N H v d) (e : seq2D d = some ds) : ∃ a xs, v = .ref a ∧ (SqL K H a xs ∨ SqT K H a xs) ∧ RepL K N H xs ds := by
  cases d with
  | list _ => cases e; obtain ⟨a, xs, rfl, h1, h2⟩ := h.list; exact ⟨a, xs, rfl, .inl h1, h2⟩
  | tuple _ => cases e; obtain ⟨a, xs, rfl, h1, h2⟩ := h.tuple; exact ⟨a, xs, rfl, .inr h1.sq, h2⟩
  | none => cases e
  | bool _ => cases e
  | int _ => cases e
  | str _ => cases e
  | dict _ => cases e
end
theorem hu65 {A : Around} {k : Nat} (r : Room k A) : A.units + 65 < cLine := by have := r.un; omega
def inOkS (x : D) (ds : List D) : Bool := (flatD x && ds.all flatD) || (SeqAt.shaped x && PyData.canLayAll0 ds)
/-- of a dict as data: the value at a key -/
def valD : List (D × D) → Key → Option D
  | [], _ => none
  | (a, d) :: r, k => if keyD a = some k then some d else valD r k
def inB (x y : D) : Option Bool := match y with
  | .list ds => if inOkS x ds = true then some (ds.any fun z => PyData.eqv z x) else none
  | .tuple ds => if inOkS x ds = true then some (ds.any fun z => PyData.eqv z x) else none
  | .dict kvs => if isFnD kvs = true then none else match x with
    | .none => some false
    | _ => (keyD x).bind fun k => some (valD kvs k).isSome
  | .str z => match x with
    | .str y => some (!(Builtin.Str.occurrences z y 0 z.length 1).isEmpty)
    | _ => none
  | _ => none
def inD (x y : D) : Option R := (inB x y).bind fun b => some (.dat (.bool b))
def notInD (x y : D) : Option R := (inB x y).bind fun b => some (.dat (.bool (!b)))
theorem notFn_val {kvs : List (D × D)} {k : Key} {d : D} (h : valD kvs k = some d) : isFnD kvs = false := by
  match kvs with
  | [] => rfl
  | [(.none, _)] => unfold valD valD at h; rw [if_neg (by simp [keyD])] at h; cases h
  | (.none, _) :: _ :: _ => rfl
  | (.bool _, _) :: r => cases r <;> rfl
  | (.int _, _) :: r => cases r <;> rfl
  | (.str _, _) :: r => cases r <;> rfl
  | (.list _, _) :: r => cases r <;> rfl
  | (.tuple _, _) :: r => cases r <;> rfl
  | (.dict _, _) :: r => cases r <;> rfl
theorem RepK.valD {K : PySem.W.Frag} {N : Addr → Prop} {H : Hp} {k : Key} : ∀ {ks : List (Key × V)} {kvs : List (D × D)}, RepK K N H ks kvs → (∀ d, valD kvs k = some d → ∃ v, valV ks k = some v ∧ Rep K N H v d) ∧ (valD kvs k = none → valV ks k = none)
  | _, _, .nil => ⟨fun d e => (by cases e), fun _ => rfl⟩
  | _, _, .cons (k := k') (v := v') r t => by
    have ih := RepK.valD (k := k) t
    by_cases e : k' = k
    · rw [valV_pos (p := (k', v')) e]
      have e2 : keyD (kD k') = some k := by rw [keyD_kD, e]
      constructor
      · intro d z
        unfold L3.valD at z
        rw [if_pos e2] at z
        cases z
        exact ⟨_, rfl, r⟩
      · intro z
        unfold L3.valD at z
        rw [if_pos e2] at z
        cases z
    · rw [valV_neg (p := (k', v')) e]
      have e2 : keyD (kD k') ≠ some k := by rw [keyD_kD]; exact fun z => e (Option.some.inj z)
      unfold L3.valD
      rw [if_neg e2]
      exact ih
section
variable {G : GC} {S : SC}
theorem RepK.isSome {K : PySem.W.Frag} {N : Addr → Prop} {H : Hp} {k : Key} {ks : List (Key × V)} {kvs : List (D × D)} (h : RepK K N H ks kvs) : (valV ks k).isSome = (L3.valD kvs k).isSome := by
  obtain ⟨h1, h2⟩ := h.valD (k := k)
  cases e : L3.valD kvs k with
  | none => rw [h2 e]; rfl
  | some d => obtain ⟨v, e2, _⟩ := h1 d e; rw [e2]; rfl
theorem op_inD' (X : Cx) (c : CxOk G S X) : OpR X (compareOp .In) (rD2 G.K inD) := by
  intro pins s σ H x y v u Q I rx ry ⟨N, d, e, r, tk, hx, hy, eg, q⟩
  rw [← c.K] at hx hy q
  unfold inD at eg
  obtain ⟨b, eb, eg⟩ := Option.bind_eq_some_iff.mp eg
  cases eg
  have q' := q _ H (.dat (.bl b))
  clear q
  cases e with
  | list ds =>
    unfold inB at eb
    simp only at eb
    split at eb
    · cases eb
      rename_i h
      unfold inOkS at h
      rcases Bool.or_eq_true_iff.mp h with h | h
      · obtain ⟨h1, h2⟩ := Bool.and_eq_true_iff.mp h
        obtain ⟨a, xs, rfl, s1, r1⟩ := hy.list
        exact op_in_seq pins s σ H x _ v u Q I rx ry ⟨a, xs, rfl, .inl s1, hx.flat h1, r1.flat h2, by rw [if_neg Bool.false_ne_true, RepL.inVs hx h1 r1 h2]; exact q'⟩
      · obtain ⟨h1, h2⟩ := Bool.and_eq_true_iff.mp h
        obtain ⟨as, r1⟩ := Dp.reads I d x v (hx.dp (SeqAt.canLay_of_shaped h1)) rx
        obtain ⟨bs, r2⟩ := Dp.reads I (.list ds) y u (hy.dp h2) ry
        exact SeqAt.in_list_reads r2 r1 h2 (SeqAt.canLay_of_shaped h1) (room_in_shaped h1 (hu65 c.room)) ⟨.bl _, H, I, rfl, q'⟩
    · cases eb
  | tuple ds =>
    unfold inB at eb
    simp only at eb
    split at eb
    · cases eb
      rename_i h
      unfold inOkS at h
      rcases Bool.or_eq_true_iff.mp h with h | h
      · obtain ⟨h1, h2⟩ := Bool.and_eq_true_iff.mp h
        obtain ⟨a, xs, rfl, s1, r1⟩ := hy.tuple
        exact op_in_seq pins s σ H x _ v u Q I rx ry ⟨a, xs, rfl, .inr s1.sq, hx.flat h1, r1.flat h2, by rw [if_neg Bool.false_ne_true, RepL.inVs hx h1 r1 h2]; exact q'⟩
      · obtain ⟨h1, h2⟩ := Bool.and_eq_true_iff.mp h
        obtain ⟨as, r1⟩ := Dp.reads I d x v (hx.dp (SeqAt.canLay_of_shaped h1)) rx
        obtain ⟨bs, r2⟩ := Dp.reads I (.tuple ds) y u (hy.dp h2) ry
        exact SeqAt.in_tuple_reads r2 r1 h2 (SeqAt.canLay_of_shaped h1) (room_in_shaped h1 (hu65 c.room)) ⟨.bl _, H, I, rfl, q'⟩
    · cases eb
  | dict kvs =>
    have hf : isFnD kvs = false := by
      cases e : isFnD kvs with
      | false => rfl
      | true =>
        unfold inB at eb
        simp only [e, if_true] at eb
        cases eb
    unfold inB at eb
    simp only [hf, Bool.false_eq_true, if_false] at eb
    obtain ⟨a, ks, rfl, h1, r1⟩ := hy.dict hf
    cases ry
    by_cases hn : d = .none
    · subst hn
      cases eb
      have ex := hx.none
      subst ex
      cases rx
      exact d_inNone I (.inl h1) fun s' I' => ⟨.bl _, H, I', rfl, q'⟩
    · have eb' : ((keyD d).bind fun k => some (L3.valD kvs k).isSome) = some b := by
        cases d <;> first | exact eb | exact absurd rfl hn
      obtain ⟨k, ek, eb'⟩ := Option.bind_eq_some_iff.mp eb'
      cases eb'
      have ex := hx.key ek
      subst ex
      exact d_in (hu_of c.room) I (DGet.k (k := k) h1) rx fun s' I' => ⟨.bl _, H, I', rfl, by rw [r1.isSome]; exact q'⟩
  | str z =>
    cases d <;> first
      | (cases eb
         have e1 := hx.str; have e2 := hy.str
         subst e1; subst e2
         exact op_in_str pins s σ H _ _ v u Q I rx ry ⟨_, _, rfl, rfl, q'⟩)
      | cases eb
  | none => cases eb
  | bool _ => cases eb
  | int _ => cases eb
theorem op_notInD' (X : Cx) (c : CxOk G S X) : OpR X (compareOp .NotIn) (rD2 G.K notInD) := by
  intro pins s σ H x y v u Q I rx ry ⟨N, d, e, r, tk, hx, hy, eg, q⟩
  rw [← c.K] at hx hy q
  unfold notInD at eg
  obtain ⟨b, eb, eg⟩ := Option.bind_eq_some_iff.mp eg
  cases eg
  have q' := q _ H (.dat (.bl (!b)))
  clear q
  cases e with
  | list ds =>
    unfold inB at eb
    simp only at eb
    split at eb
    · cases eb
      rename_i h
      unfold inOkS at h
      rcases Bool.or_eq_true_iff.mp h with h | h
      · obtain ⟨h1, h2⟩ := Bool.and_eq_true_iff.mp h
        obtain ⟨a, xs, rfl, s1, r1⟩ := hy.list
        exact op_notIn_seq pins s σ H x _ v u Q I rx ry ⟨a, xs, rfl, .inl s1, hx.flat h1, r1.flat h2, by rw [if_pos rfl, RepL.inVs hx h1 r1 h2]; exact q'⟩
      · obtain ⟨h1, h2⟩ := Bool.and_eq_true_iff.mp h
        obtain ⟨as, r1⟩ := Dp.reads I d x v (hx.dp (SeqAt.canLay_of_shaped h1)) rx
        obtain ⟨bs, r2⟩ := Dp.reads I (.list ds) y u (hy.dp h2) ry
        exact SeqAt.notIn_list_reads r2 r1 h2 (SeqAt.canLay_of_shaped h1) (room_in_shaped h1 (hu65 c.room)) ⟨.bl _, H, I, rfl, q'⟩
    · cases eb
  | tuple ds =>
    unfold inB at eb
    simp only at eb
    split at eb
    · cases eb
      rename_i h
      unfold inOkS at h
      rcases Bool.or_eq_true_iff.mp h with h | h
      · obtain ⟨h1, h2⟩ := Bool.and_eq_true_iff.mp h
        obtain ⟨a, xs, rfl, s1, r1⟩ := hy.tuple
        exact op_notIn_seq pins s σ H x _ v u Q I rx ry ⟨a, xs, rfl, .inr s1.sq, hx.flat h1, r1.flat h2, by rw [if_pos rfl, RepL.inVs hx h1 r1 h2]; exact q'⟩
      · obtain ⟨h1, h2⟩ := Bool.and_eq_true_iff.mp h
        obtain ⟨as, r1⟩ := Dp.reads I d x v (hx.dp (SeqAt.canLay_of_shaped h1)) rx
        obtain ⟨bs, r2⟩ := Dp.reads I (.tuple ds) y u (hy.dp h2) ry
        exact SeqAt.notIn_tuple_reads r2 r1 h2 (SeqAt.canLay_of_shaped h1) (room_in_shaped h1 (hu65 c.room)) ⟨.bl _, H, I, rfl, q'⟩
    · cases eb
  | dict kvs =>
    have hf : isFnD kvs = false := by
      cases e : isFnD kvs with
      | false => rfl
      | true =>
        unfold inB at eb
        simp only [e, if_true] at eb
        cases eb
    unfold inB at eb
    simp only [hf, Bool.false_eq_true, if_false] at eb
    obtain ⟨a, ks, rfl, h1, r1⟩ := hy.dict hf
    cases ry
    by_cases hn : d = .none
    · subst hn
      cases eb
      have ex := hx.none
      subst ex
      cases rx
      exact d_notInNone I (.inl h1) fun s' I' => ⟨.bl _, H, I', rfl, q'⟩
    · have eb' : ((keyD d).bind fun k => some (L3.valD kvs k).isSome) = some b := by
        cases d <;> first | exact eb | exact absurd rfl hn
      obtain ⟨k, ek, eb'⟩ := Option.bind_eq_some_iff.mp eb'
      cases eb'
      have ex := hx.key ek
      subst ex
      exact d_notIn (hu_of c.room) I (DGet.k (k := k) h1) rx fun s' I' => ⟨.bl _, H, I', rfl, by rw [r1.isSome]; exact q'⟩
  | str z =>
    cases d <;> first
      | (cases eb
         have e1 := hx.str; have e2 := hy.str
         subst e1; subst e2
         exact op_notIn_str pins s σ H _ _ v u Q I rx ry ⟨_, _, rfl, rfl, q'⟩)
      | cases eb
  | none => cases eb
  | bool _ => cases eb
  | int _ => cases eb
def isNoD (d : D) : Bool := match d with
  | .none => true
  | _ => false
def isD (d e : D) : Option R := match e with
  | .none => some (.dat (.bool (isNoD d)))
  | _ => none
def isNotD (d e : D) : Option R := match e with
  | .none => some (.dat (.bool (!isNoD d)))
  | _ => none
theorem SRep.isNo {K : PySem.W.Frag} {N : Addr → Prop} {H : Hp} {v : V} {d : D} (h : SRep K N H v d) : decide (v = .non) = isNoD d := by
  cases d with
  | none => rw [h.none]; rfl
  | bool _ => rw [h.bool]; rfl
  | int _ => rw [h.int]; rfl
  | str _ => rw [h.str]; rfl
  | list _ => obtain ⟨a, xs, rfl, _⟩ := h.list; rfl
  | tuple _ => obtain ⟨a, xs, rfl, _⟩ := h.tuple; rfl
  | dict _ => obtain ⟨a, rfl⟩ := h.dictRef; rfl
theorem op_isNotD (X : Cx) (c : CxOk G S X) : OpR X (compareOp .IsNot) (rD2 G.K isNotD) := by
  intro pins s σ H x y v u Q I rx ry ⟨N, d, e, r, tk, hx, hy, eg, q⟩
  cases e <;> first | cases eg | skip
  have e2 := hy.none
  subst e2
  exact op_notN pins s σ H _ _ v u Q I rx ry ⟨rfl, by rw [hx.isNo]; exact q _ H (.dat (.bl _))⟩
def ixD (d i : D) : Option R := match d with
  | .list ds => match i with
    | .int i => (atI ds i).bind fun d => some (.dat d)
    | _ => none
  | .tuple ds => match i with
    | .int i => (atI ds i).bind fun d => some (.dat d)
    | _ => none
  | .str z => match i with
    | .int i => if z.length ≤ sizeLine then (atI z.cps.toList i).bind fun c => some (.dat (.str ⟨#[c]⟩)) else none
    | _ => none
  | .dict kvs => (keyD i).bind fun k => (valD kvs k).bind fun d => some (.dat d)
  | _ => none
theorem RepL.atI {K : PySem.W.Frag} {N : Addr → Prop} {H : Hp} {vs : List V} {ds : List D} {i : Int} {d : D} (h : RepL K N H vs ds) (e : atI ds i = some d) : ∃ v, atI vs i = some v ∧ Rep K N H v d := by
  unfold L2.atI at e ⊢
  obtain ⟨j, e1, e2⟩ := Option.bind_eq_some_iff.mp e
  obtain ⟨v, e3, r⟩ := h.get e2
  rw [h.length, e1]
  exact ⟨v, e3, r⟩
theorem ix_D (X : Cx) (c : CxOk G S X) : IxR X (rD2 G.K ixD) := by
  intro value slice pins s σ H x y v u Q I rx ry ⟨N, d, e, r, tk, hx, hy, eg, q⟩ hs
  rw [← c.K] at hx hy q
  cases d with
  | list ds =>
    unfold ixD at eg
    simp only at eg
    split at eg
    · obtain ⟨z, ez, eg⟩ := Option.bind_eq_some_iff.mp eg
      cases eg
      have e2 := hy.int
      subst e2
      obtain ⟨a, xs, rfl, h1, r1⟩ := hx.list
      obtain ⟨w, ew, rw1⟩ := r1.atI ez
      exact ix_list value slice pins s σ H _ _ v u Q I rx ry ⟨a, xs, _, w, rfl, rfl, h1, ew, q _ H (.dat rw1)⟩ hs
    · cases eg
  | tuple ds =>
    unfold ixD at eg
    simp only at eg
    split at eg
    · obtain ⟨z, ez, eg⟩ := Option.bind_eq_some_iff.mp eg
      cases eg
      have e2 := hy.int
      subst e2
      obtain ⟨a, xs, rfl, h1, r1⟩ := hx.tuple
      obtain ⟨w, ew, rw1⟩ := r1.atI ez
      exact ix_tup value slice pins s σ H _ _ v u Q I rx ry ⟨a, xs, _, w, rfl, rfl, h1.sq, ew, q _ H (.dat rw1)⟩ hs
    · cases eg
  | str z =>
    unfold ixD at eg
    simp only at eg
    split at eg
    · split at eg
      · obtain ⟨k, ez, eg⟩ := Option.bind_eq_some_iff.mp eg
        cases eg
        have e1 := hx.str
        have e2 := hy.int
        subst e1
        subst e2
        exact ix_str value slice pins s σ H _ _ v u Q I rx ry ⟨_, _, k, rfl, rfl, by assumption, ez, q _ H (.dat (.str _))⟩ hs
      · cases eg
    · cases eg
  | dict kvs =>
    obtain ⟨k, ek, eg⟩ := Option.bind_eq_some_iff.mp eg
    obtain ⟨z, ez, eg⟩ := Option.bind_eq_some_iff.mp eg
    cases eg
    have e2 := hy.key ek
    subst e2
    obtain ⟨a, ks, rfl, h1, r1⟩ := hx.dict (notFn_val ez)
    obtain ⟨w, ew, rw1⟩ := (r1.valD (k := k)).1 z ez
    cases rx
    have g : DGet H a (kV k) (some w) := by rw [← ew]; exact DGet.k h1
    exact tail_any (dict_typeIs I g) PySem.F.slot_dict_getitem.lookup (d_getItem (hu_of c.room) I g ry fun w' s3 I3 rw' => ⟨w, H, I3, rw', q _ H (.dat rw1)⟩) hs
  | none => cases eg
  | bool _ => cases eg
  | int _ => cases eg
def cutL {α : Type} (xs : List α) (lo hi : Option Int) : List α := (xs.drop (HT.sIx xs.length 0 lo)).take (HT.sIx xs.length xs.length hi - HT.sIx xs.length 0 lo)
def slD (d : D) (lo hi : Option Int) : Option R := match d with
  | .list ds => some (.new (.lst (cutL ds lo hi)))
  | .tuple ds => some (.dat (.tuple (cutL ds lo hi)))
  | .str z => if z.length ≤ sizeLine then some (.dat (.str (cutS z lo hi))) else none
  | _ => none
theorem RepL.cut {K : PySem.W.Frag} {N : Addr → Prop} {H : Hp} {vs : List V} {ds : List D} (h : RepL K N H vs ds) (lo hi : Option Int) : RepL K N H (cutV vs lo hi) (cutL ds lo hi) := by
  unfold cutV cutL
  rw [h.length]
  exact (h.drop _).take _
theorem sl_D (X : Cx) (c : CxOk G S X) : SlR X (rDs G.K slD) := by
  intro pins s σ H x v vl vu lo hi sl Q I rx hs pl pu ⟨N, d, r, tk, hx, eg, q⟩
  rw [← c.K] at hx q
  cases d with
  | list ds =>
    cases eg
    obtain ⟨a, xs, rfl, h1, r1⟩ := hx.list
    exact sl_list pins s σ H _ v vl vu lo hi sl Q I rx hs pl pu ⟨a, xs, rfl, h1, fun p hp => q _ _ (.lst tk hp (r1.cut lo hi))⟩
  | tuple ds =>
    cases eg
    obtain ⟨a, xs, rfl, h1, r1⟩ := hx.tuple
    cases rx
    obtain ⟨its, rr, ht, hz⟩ := I.tuple h1.sq
    have hlen : its.toArray.size = xs.length := by rw [List.size_toArray]; exact rr.length.symm
    by_cases hw : HT.sIx xs.length 0 lo = 0 ∧ HT.sIx xs.length xs.length hi = xs.length
    · refine ⟨"tuple", _, PyProof.Rows.slot_tuple_getitem.lookup, ht.typeIs, ?_⟩
      have e : cutL ds lo hi = ds := by
        unfold cutL
        rw [r1.length] at hw
        rw [hw.1, hw.2, List.drop_zero, Nat.sub_zero, List.take_length]
      rw [e] at q
      exact getItem_tuple_whole ht hs pl pu (by rw [hlen]; exact hw) ⟨.ref a, H, I, rfl, q _ H (.dat (.tup h1 r1))⟩
    · refine ⟨"tuple", _, PyProof.Rows.slot_tuple_getitem.lookup, ht.typeIs, ?_⟩
      refine HT.getItem_tuple_cut ht hs pl pu (by rw [hlen]; exact hw) ?_ (by rw [hlen]; exact hz)
      rw [hlen]
      exact ⟨.ref s.heap.objs.size, _, ftup_new (t' := s.toks) I ((rr.drop (HT.sIx xs.length 0 lo)).take (HT.sIx xs.length xs.length hi - HT.sIx xs.length 0 lo)) (Nat.le_trans (cutV_length xs lo hi) hz), rfl, q _ _ (.tup tk I.fresh rfl (r1.cut lo hi))⟩
  | str z =>
    unfold slD at eg
    simp only at eg
    split at eg
    · cases eg
      have e1 := hx.str
      subst e1
      exact sl_str pins s σ H _ v vl vu lo hi sl Q I rx hs pl pu ⟨_, rfl, by assumption, q _ H (.dat (.str _))⟩
    · cases eg
  | none => cases eg
  | bool _ => cases eg
  | int _ => cases eg
  | dict _ => cases eg
end
end L3
namespace L3
open PySem PySem.Spec PyProof.Rows L2
section
variable {G : GC} {S : SC}
def lenD : List D → Option R
  | [.list ds] => some (.dat (.int ds.length))
  | [.tuple ds] => some (.dat (.int ds.length))
  | [.dict kvs] => if isFnD kvs = true then none else some (.dat (.int kvs.length))
  | [.str x] => if x.length ≤ sizeLine then some (.dat (.int x.length)) else none
  | _ => none
theorem call_lenD' (X : Cx) (c : CxOk G S X) : CallR X (.builtin "len") (rDn G.K lenD) := by
  intro pins s σ H xs us Q I rxs ⟨N, ds, r, tk, hs, eg, q⟩
  rw [← c.K] at hs q
  unfold lenD at eg
  split at eg
  · cases eg
    obtain ⟨v, rfl, h⟩ := hs.one
    obtain ⟨a, ys, rfl, h1, r1⟩ := h.list
    exact call_len_seq pins s σ H _ us Q I rxs ⟨a, ys, rfl, .inl h1, by rw [r1.length]; exact q _ H (.dat (.int _))⟩
  · cases eg
    obtain ⟨v, rfl, h⟩ := hs.one
    obtain ⟨a, ys, rfl, h1, r1⟩ := h.tuple
    exact call_len_seq pins s σ H _ us Q I rxs ⟨a, ys, rfl, .inr h1.sq, by rw [r1.length]; exact q _ H (.dat (.int _))⟩
  · split at eg
    · cases eg
    rename_i hf
    cases eg
    obtain ⟨v, rfl, h⟩ := hs.one
    obtain ⟨a, ys, rfl, h1, r1⟩ := h.dict (by simpa using hf)
    exact call_lenD pins s σ H _ us Q I rxs ⟨a, ys, rfl, h1, by rw [r1.length]; exact q _ H (.dat (.int _))⟩
  · split at eg
    · cases eg
      obtain ⟨v, rfl, h⟩ := hs.one
      have e := h.str
      subst e
      exact call_len_str pins s σ H _ us Q I rxs ⟨_, rfl, by assumption, q _ H (.dat (.int _))⟩
    · cases eg
  · cases eg
def boolsD : List D → Option (List Bool)
  | [] => some []
  | .bool b :: ds => (boolsD ds).map (b :: ·)
  | _ :: _ => none
theorem RepL.bools {K : PySem.W.Frag} {N : Addr → Prop} {H : Hp} : ∀ {vs : List V} {ds : List D} {bs : List Bool}, RepL K N H vs ds → boolsD ds = some bs → vs = bs.map V.bl
  | _, _, _, .nil, e => by cases e; rfl
  | _, d :: ds, bs, .cons r t, e => by
    cases d <;> first
      | (obtain ⟨cs, e1, e2⟩ := Option.map_eq_some_iff.mp e
         cases e2
         cases r
         rw [RepL.bools t e1]
         rfl)
      | cases e
def allD : List D → Option R
  | [.list ds] => (boolsD ds).map fun bs => .dat (.bool (bs.all id))
  | _ => none
theorem call_allD (X : Cx) (c : CxOk G S X) : CallR X (.builtin "all") (rDn G.K allD) := by
  intro pins s σ H xs us Q I rxs ⟨N, ds, r, tk, hs, eg, q⟩
  rw [← c.K] at hs q
  unfold allD at eg
  split at eg
  · obtain ⟨bs, eb, e⟩ := Option.map_eq_some_iff.mp eg
    cases e
    obtain ⟨v, rfl, h⟩ := hs.one
    obtain ⟨a, ys, rfl, h1, r1⟩ := h.list
    have e := r1.bools eb
    subst e
    exact cr_all c.calm pins s σ H _ us Q I rxs ⟨a, bs, rfl, h1, q _ H (.dat (.bl _))⟩
  · cases eg
def tupleD : List D → Option R
  | [.list ds] => some (.dat (.tuple ds))
  | [.tuple ds] => some (.dat (.tuple ds))
  | _ => none
theorem call_tupleD (X : Cx) (c : CxOk G S X) : CallR X (.type "tuple") (rDn G.K tupleD) := by
  intro pins s σ H xs us Q I rxs ⟨N, ds, r, tk, hs, eg, q⟩
  rw [← c.K] at hs q
  unfold tupleD at eg
  split at eg
  · cases eg
    obtain ⟨v, rfl, h⟩ := hs.one
    obtain ⟨a, ys, rfl, h1, r1⟩ := h.list
    obtain ⟨u, rfl, rx⟩ := vals1 rxs
    cases rx
    obtain ⟨its, r', pl, hz⟩ := I.list h1
    refine call_tuple_list pl.isList (fun h' kp => ?_) (by have := r'.length; simp only [List.size_toArray] <;> omega)
    have I1 : Inv X pins σ H { s with heap := h' } := I.kept (t' := s.toks) kp
    exact ⟨.ref h'.objs.size, _, ftup_new (t' := s.toks) I1 r' hz, rfl, q _ _ (.tup tk (I1.hok.fresh (Nat.le_refl _)) rfl r1)⟩
  · cases eg
    obtain ⟨v, rfl, h⟩ := hs.one
    obtain ⟨a, ys, rfl, h1, r1⟩ := h.tuple
    exact call_tuple_of pins s σ H _ us Q I rxs ⟨a, ys, rfl, .inr ⟨h1.sq, q _ H (.dat (.tup h1 r1))⟩⟩
  · cases eg
theorem RepK.keys {K : PySem.W.Frag} {N : Addr → Prop} {H : Hp} : ∀ {ks : List (Key × V)} {kvs : List (D × D)}, RepK K N H ks kvs → RepL K N H (ks.map fun kv => kV kv.1) (kvs.map (·.1))
  | _, _, .nil => .nil
  | _, _, .cons (k := k) r t => .cons (by cases k with
    | inl i => exact .int i
    | inr x => exact .str x) (RepK.keys t)
def listD : List D → Option R
  | [.list ds] => some (.new (.lst ds))
  | [.tuple ds] => some (.new (.lst ds))
  | [.dict kvs] => if isFnD kvs = true then none else some (.new (.lst (kvs.map (·.1))))
  | _ => none
theorem call_listD' (X : Cx) (c : CxOk G S X) : CallR X (.type "list") (rDn G.K listD) := by
  intro pins s σ H xs us Q I rxs ⟨N, ds, r, tk, hs, eg, q⟩
  rw [← c.K] at hs q
  unfold listD at eg
  split at eg
  · cases eg
    obtain ⟨v, rfl, h⟩ := hs.one
    obtain ⟨a, ys, rfl, h1, r1⟩ := h.list
    exact call_list_of pins s σ H _ us Q I rxs ⟨a, ys, rfl, .inl h1, fun l hl => q _ _ (.lst tk hl r1)⟩
  · cases eg
    obtain ⟨v, rfl, h⟩ := hs.one
    obtain ⟨a, ys, rfl, h1, r1⟩ := h.tuple
    exact call_list_of pins s σ H _ us Q I rxs ⟨a, ys, rfl, .inr h1.sq, fun l hl => q _ _ (.lst tk hl r1)⟩
  · split at eg
    · cases eg
    rename_i hf
    cases eg
    obtain ⟨v, rfl, h⟩ := hs.one
    obtain ⟨a, ks, rfl, h1, r1⟩ := h.dict (by simpa using hf)
    exact call_listD c.calm pins s σ H _ us Q I rxs ⟨a, ks, rfl, .inl h1, fun l hl => q _ _ (.lst tk hl r1.keys)⟩
  · cases eg
def intD : List D → Option R
  | [.int i] => some (.dat (.int i))
  | [.bool b] => some (.dat (.int (if b then 1 else 0)))
  | _ => none
theorem call_intD (X : Cx) (c : CxOk G S X) : CallR X (.type "int") (rDn G.K intD) := by
  intro pins s σ H xs us Q I rxs ⟨N, ds, r, tk, hs, eg, q⟩
  unfold intD at eg
  split at eg
  · cases eg
    obtain ⟨v, rfl, h⟩ := hs.one
    have e := h.int
    subst e
    exact call_int1 pins s σ H _ us Q I rxs (.inl ⟨_, rfl, q _ H (.dat (.int _))⟩)
  · cases eg
    obtain ⟨v, rfl, h⟩ := hs.one
    have e := h.bool
    subst e
    exact call_int1 pins s σ H _ us Q I rxs (.inr ⟨_, rfl, q _ H (.dat (.int _))⟩)
  · cases eg
def absD : List D → Option R
  | [.int i] => some (.dat (.int (if i < 0 then -i else i)))
  | _ => none
theorem call_absD (X : Cx) (c : CxOk G S X) : CallR X (.builtin "abs") (rDn G.K absD) := by
  intro pins s σ H xs us Q I rxs ⟨N, ds, r, tk, hs, eg, q⟩
  unfold absD at eg
  split at eg
  · cases eg
    obtain ⟨v, rfl, h⟩ := hs.one
    have e := h.int
    subst e
    exact call_abs pins s σ H _ us Q I rxs ⟨_, rfl, q _ H (.dat (.int _))⟩
  · cases eg
def max2D : List D → Option R
  | [.int i, .int j] => some (.dat (.int (if j > i then j else i)))
  | _ => none
def min2D : List D → Option R
  | [.int i, .int j] => some (.dat (.int (if j < i then j else i)))
  | _ => none
def strD : List D → Option R
  | [.int i] => if i.natAbs.log2 < 1920 then some (.dat (.str (toString i))) else none
  | [.str x] => some (.dat (.str x))
  | _ => none
theorem call_strD (X : Cx) (c : CxOk G S X) : CallR X (.type "str") (rDn G.K strD) := by
  intro pins s σ H xs us Q I rxs ⟨N, ds, r, tk, hs, eg, q⟩
  unfold strD at eg
  split at eg
  · split at eg
    · cases eg
      obtain ⟨v, rfl, h⟩ := hs.one
      have e := h.int
      subst e
      exact call_str_int pins s σ H _ us Q I rxs ⟨_, rfl, by assumption, q _ H (.dat (.str _))⟩
    · cases eg
  · cases eg
    obtain ⟨v, rfl, h⟩ := hs.one
    have e := h.str
    subst e
    obtain ⟨u, rfl, t, rfl⟩ := vals1 rxs
    exact PySem.P.str_of_str ⟨.str _, H, I, ⟨_, rfl⟩, q _ H (.dat (.str _))⟩
  · cases eg
def mergeKD (acc : List (Key × D)) : List (Key × D) → List (Key × D)
  | [] => acc
  | p :: r => mergeKD (putKD acc p.1 p.2) r
theorem RepK.merge {K : PySem.W.Frag} {N : Addr → Prop} {H : Hp} : ∀ {ps : List (Key × V)} {pds : List (Key × D)} {acc : List (Key × V)} {ad : List (Key × D)}, RepK K N H ps (dkv pds) → RepK K N H acc (dkv ad) → RepK K N H (mergeK acc ps) (dkv (mergeKD ad pds)) := by
  intro ps pds acc ad h ha
  induction pds generalizing ps acc ad with
  | nil => cases h; exact ha
  | cons p r ih =>
    obtain ⟨pk, pd⟩ := p
    generalize he : dkv ((pk, pd) :: r) = ds at h
    cases h with
    | nil => cases he
    | cons r1 t =>
      have he' : (kD pk, pd) :: dkv r = _ := he
      injection he' with h1 h2
      injection h1 with h3 h4
      have := kD_inj h3
      subst this
      subst h2
      subst h4
      have z := ih t (ha.put pk r1)
      exact z
theorem SqTN.plain {X : Cx} {pins : List (Addr × Obj)} {σ : L2.St} {N : Addr → Prop} {H : Hp} {s : Shared} {a : Addr} {xs : List V} (I : Inv X pins σ H s) (h : SqTN X.K N H a xs) : ∃ its : List Value, Vals xs its ∧ PlainSeq "tuple" s.heap a its.toArray ∧ xs.length ≤ sizeLine := by
  rcases h with ⟨⟨o, h, hd⟩, _⟩ | ⟨o, its, n, h1, h2, h3, h4, h5, h6⟩
  · obtain ⟨e, z, its, r, o2, e2, hc, n, hdat⟩ := (show ObjOk X.prog X.w H s.heap a (.frz o (.tup xs)) from I.hok a _ h)
    rw [e] at e2; cases e2
    exact ⟨its, r, ⟨o, n, e, hc, hd, hdat⟩, z⟩
  · exact ⟨its.toList, h6, ⟨o, n, I.kIn a o h1, h2, h3, by simpa using h4⟩, by rw [h6.length, Array.length_toList]; exact h5⟩
def sortD (ds : List D) : List D := ds.mergeSort (PySem.W.dataLe false id)
end
end L3
namespace L3
open PySem PySem.Spec PyProof.Rows L2
section
variable {G : GC} {S : SC}
def appendD : Bx → List D → Option (D × Bx)
  | .lst xs, [d] => if xs.length < sizeLine then some (.none, .lst (xs ++ [d])) else none
  | _, _ => none
theorem mut_evo {N : Addr → Prop} {H : Hp} {q : Addr} {o : HO} (nq : N q) : Evo N H N (upd H q o) := ⟨fun a u e n => by rw [upd_ne (by intro z; subst z; exact n nq)]; exact e, fun a z => .inl z⟩
theorem mt_appendD (X : Cx) (c : CxOk G S X) : MtR X "list.append" (rMut G.K appendD) := by
  intro pins s σ H x xs v us Q I rx rxs ⟨N, q, b, ds, d, b', ex, tk, nq, bo, rl, eg, k⟩
  subst ex
  unfold appendD at eg
  split at eg
  · split at eg
    · cases eg
      obtain ⟨ys, e, r⟩ := bo
      cases rl with
      | cons r1 t =>
        cases t
        exact mt_append pins s σ H _ _ v us Q I rx rxs ⟨q, ys, _, rfl, rfl, e, by rw [r.length]; assumption, k _ _ ⟨_, upd_same, RepL.evo (mut_evo nq) _ _ (r.snoc r1)⟩ (fun a u n z => by rw [upd_ne n]; exact z) .non⟩
    · cases eg
  · cases eg
def noBoxD : D → Bool
  | .list _ => false
  | .dict _ => false
  | _ => true
theorem SRep.rep {K : PySem.W.Frag} {N : Addr → Prop} {H : Hp} {v : V} {d : D} (h : SRep K N H v d) (e : noBoxD d = true) : Rep K N H v d := by
  rcases h with h | ⟨q, b, rfl, e2, bo⟩
  · exact h
  · subst e2; cases b <;> cases e
def getV (kvs : List (D × D)) (k : D) : Option (Option D) := match k with
  | .none => some none
  | _ => (keyD k).map fun k => valD kvs k
def getD : D → List D → Option R
  | .dict kvs, [k, x] => if noBoxD x = true ∧ isFnD kvs = false then (getV kvs k).map fun o => .dat (o.getD x) else none
  | .dict kvs, [k] => if isFnD kvs = false then (getV kvs k).map fun o => .dat (o.getD .none) else none
  | _, _ => none
end
end L3
namespace L3
open PySem PySem.Spec PyProof.Rows L2
section
variable {G : GC} {S : SC}
def vF : D → V
  | .bool b => .bl b
  | .int i => .int i
  | .str x => .str x
  | _ => .non
theorem vF_rep {K : PySem.W.Frag} {N : Addr → Prop} {H : Hp} {d : D} (h : flatD d = true) : Rep K N H (vF d) d := by
  cases d with
  | none => exact .non
  | bool b => exact .bl b
  | int i => exact .int i
  | str x => exact .str x
  | list _ => cases h
  | tuple _ => cases h
  | dict _ => cases h
def mdic (kvs : List (Key × D)) : ME := fun ρ => some (.new (.dic (mergeKD [] kvs)), ρ)
def trC (kvs : List (Key × D)) : List (TE × TE) := kvs.map fun p => (tC (kV p.1), tC (vF p.2))
theorem tPairs_C {σ : L2.St} {H : Hp} : ∀ {kvs : List (Key × D)} {Q : List (V × V) → Hp → Prop}, Q (kvs.map fun p => (kV p.1, vF p.2)) H → tPairs (trC kvs) σ H Q
  | [], _, h => h
  | p :: r, Q, h => tPairs_C (kvs := r) (Q := fun ps H3 => Q ((kV p.1, vF p.2) :: ps) H3) h
theorem de_dicC {pos : Pos} {keys : List (Option Expr)} {values : List Expr} {kvs : List (Key × D)} (h : ∀ X : Cx, PPs X pos keys values (trC kvs)) (hall : keys.all (·.isSome) = true) (hl : keys.length = values.length) (h0 : keys ≠ [])
    (h15 : keys.length ≤ 15) (hk : kvs.length ≤ 15) (hf : kvs.all (fun p => flatD p.2) = true) : DE G S (.Dict keys values pos) (mdic kvs) := by
  intro X c
  refine PE.weak (pe_disp (h X) hall hl h0 h15) ?_
  rintro σ H Q ⟨W, ρ, r, ρ', rel, em, q⟩
  cases em
  intro p hp
  refine tPairs_C ⟨upd_same, kvs.map (fun p => (p.1, vF p.2)), by rw [List.map_map]; rfl, by rw [List.length_map]; exact hk, ?_⟩
  rw [upd_upd]
  have hr : ∀ {kvs : List (Key × D)}, kvs.all (fun p => flatD p.2) = true → RepK G.K (Av W.P ρ σ) H (kvs.map fun p => (p.1, vF p.2)) (dkv kvs) := by
    intro kvs
    induction kvs with
    | nil => exact fun _ => .nil
    | cons p r ih =>
      intro h
      rw [List.all_cons, Bool.and_eq_true] at h
      exact .cons (vF_rep h.1) (ih h.2)
  exact q _ _ ((PostX.refl rel).fin (.dic rel.trk hp ((hr hf).merge .nil)))
end
end L3
namespace L3
open PySem PySem.Spec PyProof.Rows L2
section
variable {G : GC} {S : SC}
def negD : D → Option R
  | .int i => some (.dat (.int (-i)))
  | _ => none
theorem un_negD (X : Cx) (c : CxOk G S X) : UnR X (unaryOp .USub) (rD1 G.K negD) := by
  intro pins s σ H x v Q I rx ⟨N, d, r, tk, hx, eg, q⟩
  unfold negD at eg
  split at eg
  · cases eg
    have e1 := hx.int
    subst e1
    exact un_neg pins s σ H _ v Q I rx ⟨_, rfl, q _ H (.dat (.int _))⟩
  · cases eg
end
/-- a name that is seen -/
def visB (sc : Scope) (x : Str) : Bool := match sc.names.lookup x with
  | some .local => true
  | some .cell => true
  | some .free => true
  | _ => false
theorem vis_of {sc : Scope} {x : Str} (h : visB sc x = true) : Vis sc x := by
  unfold visB at h
  split at h <;> first | exact .inl (by assumption) | exact .inr (.inl (by assumption)) | exact .inr (.inr (by assumption)) | cases h
/-- a name that may be written -/
def stoB (S : SC) (x : Str) : Bool := match S.sc.names.lookup x with
  | some .local => true
  | some .cell => S.fn x
  | _ => false
theorem sto_of {S : SC} {i : Nat} {x : Str} (h : S.N[i]? = some x) (e : stoB S x = true) : StoOk S i x := by
  unfold stoB at e
  split at e
  · rename_i q; exact ⟨h, .inl q, .inr q⟩
  · rename_i q; exact ⟨h, .inr q, .inl e⟩
  · cases e
end L3
namespace L3
open PySem PySem.Spec PyProof.Rows L2
abbrev TurnF := D → List D → En → Option (List D × En)
def lcIT (tn : TurnF) : List D → List D → En → Option (List D × En)
  | [], acc, ρ => some (acc, ρ)
  | d :: ds, acc, ρ => (tn d acc ρ).bind fun x => lcIT tn ds x.1 x.2
def lcST (i : Nat) (tn : TurnF) : List D → Nat → List D → En → Option (List D × En)
  | [], n, acc, ρ => (lstAt ρ i).bind fun xs => (guardO (decide (xs.length ≤ n))).bind fun _ => some (acc, ρ)
  | _ :: ds, n, acc, ρ => (lstAt ρ i).bind fun xs => (xs[n]?).bind fun d => (tn d acc ρ).bind fun x => lcST i tn ds (n + 1) x.1 x.2
def lcRun (tn : TurnF) (vs : List Nat) (acc : List D) : It3 → En → Option (List D × En)
  | .items ds, ρ => lcIT tn ds acc (wipeE ρ vs)
  | .slot i ds, ρ => (guardO (decide (i ∉ vs))).bind fun _ => lcST i tn ds 0 acc (wipeE ρ vs)
def turn2 (g : MG) (t : MT) (vs : List Nat) (mi1 : MI) (g1 : MG) (t1 : MT) (m : ME) (vs1 : List Nat) : TurnF := fun d acc ρ =>
  (g d (wipeE ρ vs)).bind fun ρ1 => (t ρ1).bind fun x => if x.1 = true then (mi1 x.2).bind fun y => lcRun (fun d acc ρ => mturn g1 t1 m vs1 d acc ρ) vs1 acc y.1 y.2 else some (acc, x.2)
section
variable {G : GC} {S : SC}
end
end L3
namespace L3
open PySem PySem.Spec PyProof.Rows L2
variable {G : GC} {S : SC}
end L3
namespace L3
open PySem PySem.Spec PyProof.Rows L2
abbrev NX := NestedKey × Addr × Value
def lenN : NestedKey → Nat
  | .tup ks => ks.length
  | _ => 0
section
variable {X : Cx}
end
end L3
namespace L3
open PySem PySem.Spec PyProof.Rows L2
def byLen (a b : NX) : Bool := decide ((lenN a.1 : Int) ≤ lenN b.1)
end L3
namespace L3
open PySem PySem.Spec PyProof.Rows L2
def ndOk : Nat → D → Bool
  | _, .none => true
  | _, .int _ => true
  | _, .str _ => true
  | n + 1, .tuple ds => ds.all (ndOk n)
  | _, _ => false
def ndK : Nat → D → NestedKey
  | _, .int i => .num i
  | _, .str x => .text x
  | n + 1, .tuple ds => .tup (ds.map (ndK n))
  | _, _ => .none
theorem ndK_injL {n : Nat} (h : ∀ d e, ndOk n d = true → ndOk n e = true → ndK n d = ndK n e → d = e) : ∀ ds es : List D, ds.all (ndOk n) = true → es.all (ndOk n) = true → ds.map (ndK n) = es.map (ndK n) → ds = es
  | [], [], _, _, _ => rfl
  | [], _ :: _, _, _, e => by simp at e
  | _ :: _, [], _, _, e => by simp at e
  | d :: ds, e :: es, h1, h2, e0 => by
    rw [List.all_cons, Bool.and_eq_true] at h1 h2
    rw [List.map_cons, List.map_cons] at e0
    have e1 := List.cons_eq_cons.mp e0
    rw [h d e h1.1 h2.1 e1.1, ndK_injL h ds es h1.2 h2.2 e1.2]
theorem ndK_inj : ∀ (n : Nat) (d e : D), ndOk n d = true → ndOk n e = true → ndK n d = ndK n e → d = e
  | 0, d, e, h1, h2, h => by
    cases d <;> cases e <;> simp_all [ndOk, ndK]
  | n + 1, d, e, h1, h2, h => by
    cases d <;> cases e <;> first
      | (rename_i ds es
         have h' : NestedKey.tup (ds.map (ndK n)) = NestedKey.tup (es.map (ndK n)) := h
         rw [ndK_injL (ndK_inj n) ds es h1 h2 (NestedKey.tup.inj h')])
      | simp_all [ndOk, ndK]
def tupK : D → Bool
  | .tuple ds => ndOk 8 (.tuple ds)
  | _ => false
noncomputable def addNew (acc : List D) (d : D) : List D := open Classical in if d ∈ acc then acc else acc ++ [d]
def lenT : D → Nat
  | .tuple ds => ds.length
  | _ => 0
def leLen (a b : D) : Bool := decide ((lenT a : Int) ≤ lenT b)
theorem tupK_ok {d : D} (h : tupK d = true) : ndOk 8 d = true := by
  unfold tupK at h
  split at h
  · exact h
  · cases h
/-- the entries stand for the data -/
structure Ent (K : PySem.W.Frag) (N : Addr → Prop) (H : Hp) (ys : List NX) (acc : List D) : Prop where
  rep : RepL K N H (ys.map fun y => V.ref y.2.1) acc
  key : ys.map (·.1) = acc.map (ndK 8)
  tru : ∀ y ∈ ys, y.2.2 = .bool true
  ok : ∀ d ∈ acc, tupK d = true
section
variable {K : PySem.W.Frag} {N : Addr → Prop} {H : Hp} {ys : List NX} {acc : List D}
theorem Ent.len (e : Ent K N H ys acc) : ys.length = acc.length := by
  have := congrArg List.length e.key
  rwa [List.length_map, List.length_map] at this
theorem Ent.zip (e : Ent K N H ys acc) : ∀ z ∈ ys.zip acc, Rep K N H (.ref z.1.2.1) z.2 ∧ z.1.1 = ndK 8 z.2 ∧ tupK z.2 = true := by
  obtain ⟨r, k, z0, o⟩ := e
  clear z0
  induction ys generalizing acc with
  | nil => intro z hz; cases hz
  | cons y ys ih =>
    cases acc with
    | nil => intro z hz; cases hz
    | cons d acc =>
      rw [List.map_cons] at r
      cases r with
      | cons r1 r2 =>
        rw [List.map_cons, List.map_cons] at k
        have k' := List.cons_eq_cons.mp k
        intro z hz
        rw [List.zip_cons_cons] at hz
        rcases List.mem_cons.mp hz with rfl | hz
        · exact ⟨r1, k'.1, o _ List.mem_cons_self⟩
        · exact ih r2 k'.2 (fun d m => o d (List.mem_cons_of_mem _ m)) z hz
theorem Ent.mem (e : Ent K N H ys acc) {y : NX} (m : y ∈ ys) : ∃ d ∈ acc, Rep K N H (.ref y.2.1) d ∧ y.1 = ndK 8 d ∧ tupK d = true := by
  obtain ⟨i, hi, rfl⟩ := List.mem_iff_getElem.mp m
  have hj : i < acc.length := by rw [← e.len]; exact hi
  have hz : (ys[i], acc[i]) ∈ ys.zip acc := List.mem_of_getElem? (i := i) (by rw [List.getElem?_zip_eq_some]; exact ⟨List.getElem?_eq_getElem hi, List.getElem?_eq_getElem hj⟩)
  exact ⟨acc[i], List.getElem_mem hj, e.zip _ hz⟩
theorem Ent.evo {N1 : Addr → Prop} {H1 : Hp} (ev : Evo N H N1 H1) (e : Ent K N H ys acc) : Ent K N1 H1 ys acc := ⟨RepL.evo ev _ _ e.rep, e.key, e.tru, e.ok⟩
theorem putAt_same {k : NestedKey} {ys : List NX} (h : ∀ y ∈ ys, y.2.2 = .bool true) : ys.map (putAt k (.bool true)) = ys := by
  induction ys with
  | nil => rfl
  | cons y ys ih =>
    rw [List.map_cons, ih fun z m => h z (List.mem_cons_of_mem _ m)]
    have e := h y List.mem_cons_self
    obtain ⟨a, b, c⟩ := y
    cases e
    unfold putAt
    split <;> rfl
theorem Ent.put (e : Ent K N H ys acc) {a : Addr} {d : D} (r : Rep K N H (.ref a) d) (o : tupK d = true) : Ent K N H (storedH ys (ndK 8 d) a (.bool true)) (addNew acc d) ∧ (storedH ys (ndK 8 d) a (.bool true)).length ≤ ys.length + 1 := by
  by_cases hm : d ∈ acc
  · have hk : ndK 8 d ∈ ys.map (·.1) := by rw [e.key]; exact List.mem_map_of_mem hm
    obtain ⟨p, hp⟩ : ∃ p, atKey ys (ndK 8 d) = some p := by
      cases hf : atKey ys (ndK 8 d) with
      | some p => exact ⟨p, rfl⟩
      | none =>
        exfalso
        obtain ⟨y, my, ey⟩ := List.mem_map.mp hk
        unfold atKey at hf
        rw [Option.map_eq_none_iff, List.find?_eq_none] at hf
        exact hf y my (decide_eq_true ey)
    rw [storedH_old hp, putAt_same e.tru]
    have : addNew acc d = acc := if_pos hm
    rw [this]
    exact ⟨e, Nat.le_succ _⟩
  · have hp : atKey ys (ndK 8 d) = none := by
      unfold atKey
      rw [Option.map_eq_none_iff, List.find?_eq_none]
      intro y my hy
      obtain ⟨d', md, _, k', o'⟩ := e.mem my
      have hy' : y.1 = ndK 8 d := of_decide_eq_true hy
      have := ndK_inj 8 d' d (tupK_ok o') (tupK_ok o) (by rw [← k', hy'])
      exact hm (by rw [← this]; exact md)
    rw [storedH_new hp]
    have : addNew acc d = acc ++ [d] := if_neg hm
    rw [this]
    refine ⟨⟨?_, ?_, fun y m => ?_, fun z m => ?_⟩, by rw [List.length_append, List.length_singleton]; exact Nat.le_refl _⟩
    · rw [List.map_append]
      exact e.rep.snoc r
    · rw [List.map_append, List.map_append, e.key]
      rfl
    · rcases List.mem_append.mp m with m | m
      · exact e.tru y m
      · rw [List.mem_singleton.mp m]
    · rcases List.mem_append.mp m with m | m
      · exact e.ok z m
      · rw [List.mem_singleton.mp m]; exact o
theorem lenN_T {d : D} (o : tupK d = true) : lenN (ndK 8 d) = lenT d := by
  unfold tupK at o
  split at o
  · show (List.map _ _).length = _
    rw [List.length_map]; rfl
  · cases o
theorem repL_zip {zs : List (NX × D)} (h : ∀ z ∈ zs, Rep K N H (.ref z.1.2.1) z.2) : RepL K N H (zs.map fun z => V.ref z.1.2.1) (zs.map (·.2)) := by
  induction zs with
  | nil => exact .nil
  | cons z zs ih => exact .cons (h z List.mem_cons_self) (ih fun y m => h y (List.mem_cons_of_mem _ m))
theorem Ent.sort (e : Ent K N H ys acc) : RepL K N H ((ys.mergeSort byLen).map fun y => .ref y.2.1) (acc.mergeSort leLen) := by
  have z := e.zip
  have h1 : ys = (ys.zip acc).map (·.1) := by rw [List.map_fst_zip]; exact Nat.le_of_eq e.len
  have h2 : acc = (ys.zip acc).map (·.2) := by rw [List.map_snd_zip]; exact Nat.le_of_eq e.len.symm
  have s1 : ys.mergeSort byLen = ((ys.zip acc).mergeSort fun a b => byLen a.1 b.1).map (·.1) := by
    rw [List.map_mergeSort (s := byLen) fun a _ b _ => rfl, ← h1]
  have s2 : acc.mergeSort leLen = ((ys.zip acc).mergeSort fun a b => byLen a.1 b.1).map (·.2) := by
    rw [List.map_mergeSort (s := leLen) fun a ma b mb => ?_, ← h2]
    unfold byLen leLen
    rw [(z a ma).2.1, (z b mb).2.1, lenN_T (z a ma).2.2, lenN_T (z b mb).2.2]
  rw [s1, s2, List.map_map]
  exact repL_zip fun q m => (z q ((List.mergeSort_perm _ _).mem_iff.mp m)).1
end
section
variable {G : GC} {S : SC}
end
end L3
namespace L3
open PySem PySem.Spec PyProof.Rows L2
section
variable {G : GC} {S : SC}
end
end L3
namespace L3
open PySem PySem.Spec PyProof.Rows L2
variable {G : GC} {S : SC}
end L3
namespace L3
open PySem PySem.Spec PyProof.Rows L2
variable {G : GC} {S : SC}
end L3
namespace L3
open PySem PySem.Spec PyProof.Rows L2
section
variable {prog : Program} {w : World} {A : Around} {E : Value → Shared → Prop} {s : Shared}
end
end L3
namespace L3
open PySem PySem.Spec PyProof.Rows L2
variable {G : GC} {S : SC}
def revTD : D → Option R
  | .tuple ds => some (.dat (.tuple ds.reverse))
  | _ => none
def mrevT (m : ME) : ME := fun ρ => (m ρ).bind fun x => (x.1.fz.vw x.2).bind fun d => (revTD d).bind fun r => some (r, x.2)
end L3
namespace L3
open PySem PySem.Spec PyProof.Rows L2
section
variable {G : GC} {S : SC} {e : Expr} {m : ME} {pos : Pos}
def mnotV (m : ME) : ME := fun ρ => (m ρ).bind fun x => (x.1.fz.vw x.2).bind fun d => (truD d).bind fun b => some (.dat (.bool (!b)), x.2)
theorem de_notV (h : DE G S e m) : DE G S (.UnaryOp .Not e pos) (mnotV m) :=
  fun X c => PE.weak (pe_notT (h X c)) fun σ H Q ⟨W, ρ, r, ρ', rel, em, q⟩ => by
    unfold mnotV at em
    obtain ⟨⟨ra, ρ1⟩, e1, em⟩ := Option.bind_eq_some_iff.mp em
    obtain ⟨d, e2, em⟩ := Option.bind_eq_some_iff.mp em
    obtain ⟨b, e3, em⟩ := Option.bind_eq_some_iff.mp em
    cases em
    refine ⟨W, ρ, ra, ρ1, rel, e1, fun x H1 p1 => ⟨b, ?_, q _ H1 (p1.toPostX.fin (.dat (.bl _)))⟩⟩
    rw [c.K]
    exact ((p1.res.fz p1.toPostX rel).read p1.rel e2).tru e3
def repS (x : Str) (n : Nat) : Str := ⟨(List.replicate n x.cps).foldl (· ++ ·) #[]⟩
def mulSD : D → D → Option R
  | .str x, .int n => if 1 < n ∧ n < 1000 ∧ 0 < x.length ∧ x.length < 1000 ∧ (repS x n.toNat).length ≤ sizeLine then some (.dat (.str (repS x n.toNat))) else none
  | _, _ => none
theorem op_mulSD (X : Cx) (c : CxOk G S X) : OpR X (binaryOp .Mult) (rD2 G.K mulSD) := by
  intro pins s σ H x y v u Q I rx ry ⟨N, d, e, r, tk, hx, hy, eg, q⟩
  rw [← c.K] at hx hy q
  unfold mulSD at eg
  split at eg
  · split at eg
    · cases eg
      rename_i x n hk
      obtain ⟨h1, h2, h3, h4, h5⟩ := hk
      have e1 := hx.str
      have e2 := hy.int
      subst e1
      subst e2
      obtain ⟨t, rfl⟩ := rx
      obtain ⟨t', rfl⟩ := ry
      refine PySem.P.mul_str ?_ ?_ ?_ ?_
      · rw [decide_eq_false (by omega), decide_eq_false (by omega)]; rfl
      · intro _ _
        have h6 : (1000 : Int) ≤ (2 ^ 63 - 1) / n := by
          rw [Int.le_ediv_iff_mul_le (by omega)]
          omega
        omega
      · intro _ _
        show decide (_ > sizeLine) = false
        refine decide_eq_false ?_
        have h7 : x.length * n.toNat ≤ 1000 * 1000 := Nat.mul_le_mul (by omega) (by omega)
        have h8 : 1000 * 1000 ≤ sizeLine := by decide
        omega
      · rw [if_neg (by omega), if_neg (by
          intro q
          rcases Bool.or_eq_true_iff.mp q with q | q
          · have := eq_of_beq q; omega
          · have := eq_of_beq q; omega)]
        exact ⟨h5, .str (repS x n.toNat), H, I.tok _, ⟨_, rfl⟩, q _ H (.dat (.str _))⟩
    · cases eg
  · cases eg
end
/-- a def's promise of nothing -/
theorem fnG_none {G : GC} {k : Nat} {f : Addr} {fd : FuncData} {ps : List Str} {n : Nat} : FnG G k f fd ps (spM G.K n fun _ => none) :=
  ⟨fun vs H Q E ⟨W, as, r, outs, _, _, _, _, _, h, _⟩ => (nomatch h), fun A outer s H args us vs Q E _ _ _ _ _ ⟨W, as, r, outs, _, _, _, _, _, h, _⟩ => (nomatch h)⟩
end L3
namespace L3
open PySem PySem.Spec PyProof.Rows L2
mutual
def noLs : D → Bool
  | .list _ => false
  | .tuple xs => noLsA xs
  | .dict kvs => !isFnD kvs && noLsK kvs
  | _ => true
def noLsA : List D → Bool
  | [] => true
  | d :: ds => noLs d && noLsA ds
def noLsK : List (D × D) → Bool
  | [] => true
  | (_, d) :: ds => noLs d && noLsK ds
end
section
variable {X : Cx} {pins : List (Addr × Obj)} {σ : L2.St} {H : Hp} {s : Shared} {N : Addr → Prop}
theorem key_reads {h : Heap} (k : Key) (key : Value) (e : (mixKind X.prog X.w).is k key = true) : Reads h key (kD k) [] := by
  rcases keyIs_shape (show keyIs k key = true from e) with ⟨i, t, rfl, rfl⟩ | ⟨x, t, rfl, rfl⟩
  · exact .int _ _
  · exact .str _ _
mutual
theorem Rep.readsX (I : Inv X pins σ H s) : ∀ (d : D) (v : V) (u : Value), Rep X.K N H v d → RelV v u → (d.hasDict = false ∨ noLs d = true) → ∃ as, Reads s.heap u d as ∧ (noLs d = true → sysModules ∉ as)
  | .none, _, _, h, r, hh => by
    cases h
    cases r
    exact ⟨_, Reads.none, fun _ => by simp⟩
  | .bool b, _, _, h, r, hh => by
    cases h
    cases r
    exact ⟨_, Reads.bool b, fun _ => by simp⟩
  | .int i, _, _, h, r, hh => by
    cases h
    obtain ⟨t, rfl⟩ := r
    exact ⟨_, Reads.int i t, fun _ => by simp⟩
  | .str x, _, _, h, r, hh => by
    cases h
    obtain ⟨t, rfl⟩ := r
    exact ⟨_, Reads.str x t, fun _ => by simp⟩
  | .list ds, _, _, h, r, hh => by
    cases h with
    | lst hs ha =>
      cases r
      obtain ⟨its, rv, ⟨o, n, ho, hc, _, hd⟩, _⟩ := I.list hs.sq
      obtain ⟨as, hr, _⟩ := RepL.readsX I ds _ its ha rv (hh.elim (fun z => .inl (by rw [PyData.hasDict] at z; exact z)) fun z => by rw [noLs] at z; cases z)
      exact ⟨_, Reads.list ho hc hd hr, fun z => by rw [noLs] at z; cases z⟩
  | .tuple ds, _, _, h, r, hh => by
    cases h with
    | tup hs ha =>
      cases r
      obtain ⟨its, rv, ⟨o, ho, hc, n, hd⟩, _⟩ := I.tuple hs.sq
      obtain ⟨as, hr, q⟩ := RepL.readsX I ds _ its ha rv (hh.imp (fun z => by rw [PyData.hasDict] at z; exact z) fun z => by rw [noLs] at z; exact z)
      exact ⟨_, Reads.tuple ho hc hd hr, fun z => q (by rw [noLs] at z; exact z)⟩
  | .dict ds, _, _, h, r, hh => by
    cases h with
    | dic h1 h2 h3 =>
      cases r
      obtain ⟨z, hsm, vs, hkv, hd⟩ := dk_of I.hok h1
      have hl : noLsK ds = true := by
        rcases hh with z | z
        · rw [PyData.hasDict] at z; cases z
        · rw [noLs, Bool.and_eq_true] at z; exact z.2
      obtain ⟨as, hr, q⟩ := RepK.readsX I ds _ vs h3 hkv hl
      refine ⟨_, PyProof.V.reads_dictOf (enc := kD) key_reads hd hr, fun z => ?_⟩
      rw [noLs, Bool.and_eq_true] at z
      have z := z.2
      intro m
      rcases List.mem_cons.mp m with m | m
      · rw [m] at hsm; exact absurd hsm (by simp)
      · exact q z m
    | fn _ =>
      rcases hh with z | z
      · rw [PyData.hasDict] at z; cases z
      · rw [noLs] at z; cases z
    | xn0 _ =>
      rcases hh with z | z
      · rw [PyData.hasDict] at z; cases z
      · rw [noLs] at z; cases z
    | xn1 _ =>
      rcases hh with z | z
      · rw [PyData.hasDict] at z; cases z
      · rw [noLs] at z; cases z
theorem RepL.readsX (I : Inv X pins σ H s) : ∀ (ds : List D) (vs : List V) (us : List Value), RepL X.K N H vs ds → Vals vs us → (PyData.hasDictAll ds = false ∨ noLsA ds = true) → ∃ as, ReadsAll s.heap us ds as ∧ (noLsA ds = true → sysModules ∉ as)
  | [], _, _, h, r, hh => by
    cases h
    cases r
    exact ⟨_, ReadsAll.nil, fun _ => by simp⟩
  | d :: ds, _, _, h, r, hh => by
    cases h with
    | cons h1 h2 =>
      cases r with
      | cons r1 r2 =>
        have ha : (d.hasDict = false ∧ PyData.hasDictAll ds = false) ∨ (noLs d = true ∧ noLsA ds = true) := hh.imp (fun z => by rw [PyData.hasDictAll, Bool.or_eq_false_iff] at z; exact z) fun z => by rw [noLsA, Bool.and_eq_true] at z; exact z
        obtain ⟨as, q1, z1⟩ := Rep.readsX I d _ _ h1 r1 (ha.imp (·.1) (·.1))
        obtain ⟨bs, q2, z2⟩ := RepL.readsX I ds _ _ h2 r2 (ha.imp (·.2) (·.2))
        refine ⟨_, ReadsAll.cons q1 q2, fun z => ?_⟩
        rw [noLsA, Bool.and_eq_true] at z
        exact fun m => (List.mem_append.mp m).elim (z1 z.1) (z2 z.2)
theorem RepK.readsX (I : Inv X pins σ H s) : ∀ (ds : List (D × D)) (vs : List (Key × V)) (us : List (Key × Value)), RepK X.K N H vs ds → KV vs us → noLsK ds = true → ∃ as, PyProof.V.PairsRead s.heap kD us ds as ∧ (noLsK ds = true → sysModules ∉ as)
  | [], _, _, h, r, hh => by
    cases h
    cases r
    exact ⟨_, .nil, fun _ => by simp⟩
  | (k, d) :: ds, _, _, h, r, hh => by
    cases h with
    | cons h1 h2 =>
      cases r with
      | cons r1 r2 =>
        rename_i q us'
        obtain ⟨k', u'⟩ := q
        obtain ⟨e1, e2⟩ := r1
        simp only at e1 e2
        subst e1
        rw [noLsK, Bool.and_eq_true] at hh
        obtain ⟨as, q1, z1⟩ := Rep.readsX I d _ _ h1 e2 (.inr hh.1)
        obtain ⟨bs, q2, z2⟩ := RepK.readsX I ds _ _ h2 r2 hh.2
        refine ⟨_, .cons q1 q2, fun z => ?_⟩
        rw [noLsK, Bool.and_eq_true] at z
        exact fun m => (List.mem_append.mp m).elim (z1 z.1) (z2 z.2)
end
/-- the same of what may be a box -/
theorem SRep.readsX (I : Inv X pins σ H s) {d : D} {v : V} {u : Value} (h : SRep X.K N H v d) (r : RelV v u) (hh : d.hasDict = false ∨ noLs d = true) : ∃ as, Reads s.heap u d as ∧ (noLs d = true → sysModules ∉ as) := by
  cases d with
  | list ds =>
    obtain ⟨a, xs, rfl, h1, h2⟩ := h.list
    cases r
    obtain ⟨its, rv, ⟨o, n, ho, hc, _, hd⟩, _⟩ := I.list h1
    obtain ⟨as, hr, _⟩ := RepL.readsX I ds _ its h2 rv (hh.elim (fun z => .inl (by rw [PyData.hasDict] at z; exact z)) fun z => by rw [noLs] at z; cases z)
    exact ⟨_, Reads.list ho hc hd hr, fun z => by rw [noLs] at z; cases z⟩
  | dict ds =>
    have hl : isFnD ds = false ∧ noLsK ds = true := by
      rcases hh with z | z
      · rw [PyData.hasDict] at z; cases z
      · rw [noLs, Bool.and_eq_true] at z; exact ⟨by simpa using z.1, z.2⟩
    obtain ⟨a, kvs, rfl, h1, h3⟩ := h.dict hl.1
    cases r
    obtain ⟨z, hsm, vs, hkv, hd⟩ := dk_of I.hok h1
    obtain ⟨as, hr, q⟩ := RepK.readsX I ds _ vs h3 hkv hl.2
    refine ⟨_, PyProof.V.reads_dictOf (enc := kD) key_reads hd hr, fun z => ?_⟩
    rw [noLs, Bool.and_eq_true] at z
    have z := z.2
    intro m
    rcases List.mem_cons.mp m with m | m
    · rw [m] at hsm; exact absurd hsm (by simp)
    · exact q z m
  | tuple ds =>
    rcases h with h | ⟨q, b, rfl, e, bo⟩
    · exact Rep.readsX I _ _ _ h r hh
    · cases b <;> cases e
  | none => rw [h.none] at r; cases r; exact ⟨_, Reads.none, fun _ => by simp⟩
  | bool b => rw [h.bool] at r; cases r; exact ⟨_, Reads.bool b, fun _ => by simp⟩
  | int i => rw [h.int] at r; obtain ⟨t, rfl⟩ := r; exact ⟨_, Reads.int i t, fun _ => by simp⟩
  | str x => rw [h.str] at r; obtain ⟨t, rfl⟩ := r; exact ⟨_, Reads.str x t, fun _ => by simp⟩
end
def reprOk (d : D) : Bool := (!d.hasDict || noLs d) && d.showable && decide (d.depth ≤ 64) && decide (d.shown.length ≤ sizeLine)
def reprE : List D → Option R
  | [d] => if reprOk d = true then some (.dat (.str d.shown)) else none
  | _ => none
section
variable {G : GC} {S : SC}
theorem call_reprE (X : Cx) (c : CxOk G S X) : CallR X (.builtin "repr") (rDn G.K reprE) := by
  intro pins s σ H xs us Q I rxs ⟨N, ds, r, tk, hs, eg, q⟩
  rw [← c.K] at hs q
  unfold reprE at eg
  split at eg
  · split at eg
    · cases eg
      rename_i d h
      unfold reprOk at h
      rw [Bool.and_eq_true, Bool.and_eq_true, Bool.and_eq_true] at h
      obtain ⟨⟨⟨h0, h1⟩, h2⟩, h3⟩ := h
      have h2 := of_decide_eq_true h2
      have h3 := of_decide_eq_true h3
      obtain ⟨v, rfl, hv⟩ := hs.one
      obtain ⟨u, rfl, ru⟩ := vals1 rxs
      obtain ⟨as, rr, hsm⟩ := hv.readsX I ru (by
        rcases Bool.or_eq_true_iff.mp h0 with q | q
        · exact .inl (by simpa using q)
        · exact .inr q)
      have hu := hu65 c.room
      have hsm' : d.hasDict = true → sysModules ∉ as := fun z => hsm (by
        rcases Bool.or_eq_true_iff.mp h0 with q | q
        · rw [z] at q; cases q
        · exact q)
      have ref : ∀ a, u = .ref a → wpAny (model X.prog X.w) X.A (call (.builtin "repr") [u]) (EP X pins σ Q) X.xe s := fun a e => by
        subst e
        exact repr_of_reads' rr h1 hsm' c.gd (by omega) (fun _ _ e => e)
          (fun h' u tk hk => ⟨.str _, H, I.kept (t' := tk) hk, ⟨_, rfl⟩, q _ H (.dat (.str _))⟩) h3
      cases rr with
      | list _ _ _ _ => exact ref _ rfl
      | tuple _ _ _ _ => exact ref _ rfl
      | dict _ _ _ _ _ => exact ref _ rfl
      | none => exact PySem.P.repr_of_none ⟨.str _, H, I.tok _, ⟨_, rfl⟩, q _ H (.dat (.str _))⟩
      | bool b => exact PySem.P.repr_of_bool ⟨.str _, H, I.tok _, ⟨_, rfl⟩, q _ H (.dat (.str _))⟩
      | int i t => exact PySem.P.repr_of_int (of_decide_eq_true (by simpa [PyData.showable] using h1)) ⟨.str _, H, I.tok _, ⟨_, rfl⟩, q _ H (.dat (.str _))⟩
      | str x t => exact PySem.P.repr_of_str ⟨.str _, H, I.tok _, ⟨_, rfl⟩, q _ H (.dat (.str _))⟩ (by simpa [PyData.shown] using h3)
    · cases eg
  · cases eg
end
end L3
namespace L3
open PySem PySem.Spec PyProof.Rows L2
variable {G : GC} {S : SC} {e : Expr} {m : ME}
/-- a value that is handed over to stay -/
def mfz (m : ME) : ME := fun ρ => (m ρ).bind fun x => (fzs x.2 [x.1.fz]).bind fun y => (oneOf y.1).bind fun d => some (.dat d, y.2)
theorem de_fz (h : DE G S e m) : DE G S e (mfz m) := fun X c => PE.weak (h X c) fun σ H Q ⟨W, ρ, r, ρ', rel, em, q⟩ => by
  unfold mfz at em
  obtain ⟨⟨r0, ρ1⟩, e1, em⟩ := Option.bind_eq_some_iff.mp em
  obtain ⟨⟨ds, ρ2⟩, e2, em⟩ := Option.bind_eq_some_iff.mp em
  obtain ⟨d, e3, em⟩ := Option.bind_eq_some_iff.mp em
  cases em
  refine ⟨W, ρ, r0, ρ1, rel, e1, fun v H1 p1 => ?_⟩
  have f1 : FRels G.K (Av W.P ρ1 σ) ρ1 σ H1 [r0.fz] [v] := .cons (p1.res.fz p1.toPostX rel) .nil
  obtain ⟨p2, rl⟩ := fzs_ok p1.rel f1 e2
  exact q _ _ ((p1.toPostX.trans p2).fin (.dat (one_rep rl e3)))
end L3
namespace L3
open PySem PySem.Spec PyProof.Rows L2
variable {G : GC} {S : SC} {a b c : Expr} {pos : Pos} {ma mb mc : ME} {g g' : D → D → Option R}
def mchain (g g' : D → D → Option R) (ma mb mc : ME) : ME := fun ρ => (ma ρ).bind fun x => (mb x.2).bind fun y => (x.1.fz.vw y.2).bind fun d => (y.1.fz.vw y.2).bind fun e => (g d e).bind fun r => (boolR r).bind fun k =>
  if k = true then (mc y.2).bind fun z => (y.1.fz.vw z.2).bind fun e' => (z.1.fz.vw z.2).bind fun f => (g' e' f).bind fun r' => some (r', z.2) else some (.dat (.bool false), y.2)
theorem rdchain {K : PySem.W.Frag} {σ : L2.St} {H : Hp} {Q : VK} (h : rd K (mchain g g' ma mb mc) σ H Q) : tChain (rD2 K g) (rD2 K g') (rd K ma) (rd K mb) (rd K mc) σ H Q := by
  obtain ⟨W, ρ, r, ρ', rel, em, q⟩ := h
  unfold mchain at em
  obtain ⟨⟨ra, ρ1⟩, e1, em⟩ := Option.bind_eq_some_iff.mp em
  obtain ⟨⟨rb, ρ2⟩, e2, em⟩ := Option.bind_eq_some_iff.mp em
  obtain ⟨d, e3, em⟩ := Option.bind_eq_some_iff.mp em
  obtain ⟨e, e4, em⟩ := Option.bind_eq_some_iff.mp em
  obtain ⟨r0, e5, em⟩ := Option.bind_eq_some_iff.mp em
  obtain ⟨k, e6, em⟩ := Option.bind_eq_some_iff.mp em
  refine ⟨W, ρ, ra, ρ1, rel, e1, fun x H1 p1 => ⟨W, ρ1, rb, ρ2, p1.rel, e2, fun y H2 p2 => ?_⟩⟩
  have fy := p2.res.fz p2.toPostX p1.rel
  refine ⟨Av W.P ρ2 σ, d, e, r0, p2.rel.trk, (((p1.res.fz p1.toPostX rel).over p1.rel p2.toPostX).read p2.rel e3), fy.read p2.rel e4, e5, fun v H' vp => ?_⟩
  have p3 := p2.toPostX.fin vp
  have s := (PostX.refl p2.rel).same vp.same
  refine ⟨k, p3.boolv e6, ?_⟩
  cases k with
  | false =>
    rw [if_neg Bool.false_ne_true] at em ⊢
    cases em
    exact q _ _ ((p1.toPostX.trans p3.toPostX).fin (.dat (.bl _)))
  | true =>
    rw [if_pos rfl] at em ⊢
    obtain ⟨⟨rc, ρ3⟩, e7, em⟩ := Option.bind_eq_some_iff.mp em
    obtain ⟨e', e8, em⟩ := Option.bind_eq_some_iff.mp em
    obtain ⟨f, e9, em⟩ := Option.bind_eq_some_iff.mp em
    obtain ⟨r', e10, em⟩ := Option.bind_eq_some_iff.mp em
    cases em
    refine ⟨W, ρ2, rc, ρ3, s.rel, e7, fun w H4 p4 => ?_⟩
    refine ⟨Av W.P ρ3 σ, e', f, r, p4.rel.trk, ((fy.over p2.rel s).over s.rel p4.toPostX).read p4.rel e8, (p4.res.fz p4.toPostX s.rel).read p4.rel e9, e10, fun v' H5 vp' => ?_⟩
    exact q _ _ (((p1.toPostX.trans p3.toPostX).trans p4.toPostX).fin vp')
theorem de_chain {op op' : CmpOp} (h : ∀ X, CxOk G S X → OpR X (compareOp op) (rD2 G.K g)) (h' : ∀ X, CxOk G S X → OpR X (compareOp op') (rD2 G.K g')) (ha : DE G S a ma) (hb : DE G S b mb) (hc : DE G S c mc) (hm : lastMarks [op, op'] [b, c] = false) :
    DE G S (.Compare a [op, op'] [b, c] pos) (mchain g g' ma mb mc) :=
  fun X cx => PE.weak (pe_chain (h X cx) (h' X cx) (ha X cx) (hb X cx) (hc X cx) hm) fun _ _ _ q => rdchain q
theorem dt_chain {op op' : CmpOp} (h : ∀ X, CxOk G S X → OpR X (compareOp op) (rD2 G.K g)) (h' : ∀ X, CxOk G S X → OpR X (compareOp op') (rD2 G.K g')) (ha : DE G S a ma) (hb : DE G S b mb) (hc : DE G S c mc) (hm : lastMarks [op, op'] [b, c] = false) :
    DT G S (.Compare a [op, op'] [b, c] pos) (mtst (mchain g g' ma mb mc)) :=
  fun X cx => PT.weak (pt_chain (h X cx) (h' X cx) (ha X cx) (hb X cx) (hc X cx) hm) fun σ H Q q => rdchain (Q := fun x H' => ∃ k, x = .bl k ∧ Q k H') (rdtst q)
def strsD : List D → Option (List Str)
  | [] => some []
  | .str x :: ds => (strsD ds).map (x :: ·)
  | _ => none
theorem RepL.strs {K : PySem.W.Frag} {N : Addr → Prop} {H : Hp} : ∀ {vs : List V} {ds : List D} {ss : List Str}, RepL K N H vs ds → strsD ds = some ss → vs = ss.map V.str
  | _, _, _, .nil, h => by cases h; rfl
  | _, _, _, .cons (d := d) r t, h => by
    cases d with
    | str x =>
      obtain ⟨ss, h1, rfl⟩ := Option.map_eq_some_iff.mp (show (strsD _).map _ = some _ from h)
      cases r
      rw [RepL.strs t h1]
      rfl
    | none => cases h
    | bool _ => cases h
    | int _ => cases h
    | list _ => cases h
    | tuple _ => cases h
    | dict _ => cases h
def seq2S : D → Option (List Str)
  | .list ds => strsD ds
  | .tuple ds => strsD ds
  | _ => none
def joinD : D → List D → Option R
  | .str a, [d] => (seq2S d).bind fun ys => if (ys.map (·.length)).sum + ys.length * a.length ≤ 16777216 then some (.dat (.str (Txt.join a ys))) else none
  | _, _ => none
theorem mt_joinD (X : Cx) (c : CxOk G S X) : MtR X "str.join" (rDm G.K joinD) := by
  intro pins s σ H x xs v us Q I rx rxs ⟨N, d, ds, r, tk, hx, hs, eg, q⟩
  rw [← c.K] at hx hs q
  unfold joinD at eg
  split at eg
  · rename_i a d
    obtain ⟨ys, e1, e2⟩ := Option.bind_eq_some_iff.mp eg
    split at e2
    · rename_i hz
      cases e2
      obtain ⟨y, rfl, hy⟩ := hs.one
      have := hx.str
      subst this
      have key : ∃ p, y = .ref p ∧ (SqL X.K H p (ys.map V.str) ∨ SqT X.K H p (ys.map V.str)) := by
        cases d with
        | list ds =>
          obtain ⟨p, zs, rfl, h1, h2⟩ := hy.list
          rw [RepL.strs h2 e1] at h1
          exact ⟨p, rfl, .inl h1⟩
        | tuple ds =>
          obtain ⟨p, zs, rfl, h1, h2⟩ := hy.tuple
          rw [RepL.strs h2 e1] at h1
          exact ⟨p, rfl, .inr h1.sq⟩
        | none => cases e1
        | bool _ => cases e1
        | int _ => cases e1
        | str _ => cases e1
        | dict _ => cases e1
      obtain ⟨p, rfl, hp⟩ := key
      exact mt_join pins s σ H _ _ v us Q I rx rxs ⟨a, p, ys, rfl, rfl, hp, hz, q _ H (.dat (.str _))⟩
    · cases e2
  · cases eg
def splitD : D → List D → Option R
  | .str a, [.str b] => if (b.length == 0) = false ∧ a.length + 2 ≤ sizeLine then some (.new (.lst ((Txt.split a b).map PyData.str))) else none
  | _, _ => none
theorem RepL.ofStrs {K : PySem.W.Frag} {N : Addr → Prop} {H : Hp} : ∀ ss : List Str, RepL K N H (ss.map V.str) (ss.map PyData.str)
  | [] => .nil
  | _ :: r => .cons (.str _) (RepL.ofStrs r)
theorem mt_splitD (X : Cx) (c : CxOk G S X) : MtR X "str.split" (rDm G.K splitD) := by
  intro pins s σ H x xs v us Q I rx rxs ⟨N, d, ds, r, tk, hx, hs, eg, q⟩
  rw [← c.K] at hx hs q
  unfold splitD at eg
  split at eg
  · rename_i a b
    split at eg
    · rename_i hz
      cases eg
      obtain ⟨y, rfl, hy⟩ := hs.one
      have := hx.str
      subst this
      have := hy.str
      subst this
      refine mt_split pins s σ H _ _ v us Q I rx rxs ⟨a, b, rfl, rfl, hz.1, hz.2, ?_⟩
      exact fun p hp => q _ _ (.lst tk hp (RepL.ofStrs _))
    · cases eg
  · cases eg
end L3
namespace L3S
open PySem PySem.Spec PyProof.Rows L2
section
variable {P : Program} {w : World}
/-- a key at its address -/
abbrev IsN (P : Program) (w : World) (h : Heap) (k : NestedKey) (b : Addr) : Prop := (nestedKind P w).is h k b
end
end L3S
namespace L3S
open PySem PySem.Spec PyProof.Rows L2
abbrev NK := NestedKey
section
variable {P : Program} {w : World} {A : Around} {E : Value → Shared → Prop} {s : Shared}
abbrev hk (w : World) (k : NK) : Int := k.hash w
def rowN (w : World) (L : List (Addr × NK)) : List (Int × Value) := L.map fun p => (hk w p.2, Value.ref p.1)
structure SetN (P : Program) (w : World) (h : Heap) (a : Addr) (L : List (Addr × NK)) (es : Array (Int × Value)) (ep : Nat) (t : SetTable) : Prop where
  ob : ∃ o, h.get? a = some o ∧ o.ExactSet ∧ o.data = .set es ep t
  rows : es.toList = rowN w L
  tab : TabOk t (L.map fun p => hk w p.2)
  nd : (L.map (·.2)).Nodup
  keys : ∀ p ∈ L, IsN P w h p.2 p.1
  room : L.length * 5 < t.mask * 3
  few : L.length < 64
variable {a : Addr} {L : List (Addr × NK)} {es : Array (Int × Value)} {ep : Nat} {t : SetTable}
theorem SetN.gw (R : SetN P w s.heap a L es ep t) : ¬ t.gaveWay = true := by
  unfold SetTable.gaveWay
  rw [mask_odd R.tab.mok]
  decide
/-- the way's state behind c steps -/
abbrev stand (m : Nat) (h : Int) (c : Nat) : SetTable.Probe := nth m (runAt m (SetTable.bits h % (m + 1)) (SetTable.bits h)) c
end
end L3S
namespace L3S
open PySem PySem.Spec PyProof.Rows L2
section
variable {P : Program} {w : World} {A : Around} {E : Value → Shared → Prop} {s : Shared}
variable {a : Addr} {L : List (Addr × NK)} {es : Array (Int × Value)} {ep : Nat} {t : SetTable}
end
end L3S
namespace L3
open PySem PySem.Spec PyProof.Rows L2
end L3
namespace L3S
open PySem PySem.Spec PyProof.Rows L2
/-- what the set has got from the first i items -/
structure GotN (ks : List (Addr × NK)) (i : Nat) (L : List (Addr × NK)) : Prop where
  sub : ∀ p ∈ L, p ∈ ks.take i
  all : ∀ p ∈ ks.take i, p.2 ∈ L.map (·.2)
  len : L.length ≤ i
theorem GotN.zero (ks : List (Addr × NK)) : GotN ks 0 [] := ⟨fun p h => (by cases h), fun p h => (by simp at h), Nat.le_refl _⟩
theorem GotN.step {ks L L' : List (Addr × NK)} {i : Nat} {x : Addr × NK} (g : GotN ks i L) (h : ks[i]? = some x) (c1 : x.2 ∈ L.map (·.2) → L' = L) (c2 : x.2 ∉ L.map (·.2) → L'.Perm (x :: L)) : GotN ks (i + 1) L' := by
  by_cases hm : x.2 ∈ L.map (·.2)
  · rw [c1 hm]
    refine ⟨fun p hp => ?_, fun p hp => ?_, Nat.le_succ_of_le g.len⟩
    · rw [take_next h]; exact List.mem_append_left _ (g.sub p hp)
    · rw [take_next h] at hp
      rcases List.mem_append.mp hp with z | z
      · exact g.all p z
      · rw [List.mem_singleton.mp z]; exact hm
  · have pm := c2 hm
    refine ⟨fun p hp => ?_, fun p hp => ?_, by rw [pm.length_eq, List.length_cons]; exact Nat.succ_le_succ g.len⟩
    · rw [take_next h]
      rcases List.mem_cons.mp (pm.mem_iff.mp hp) with e | z
      · rw [e]; exact List.mem_append_right _ (List.mem_singleton.mpr rfl)
      · exact List.mem_append_left _ (g.sub p z)
    · rw [(pm.map (·.2)).mem_iff, List.map_cons]
      rw [take_next h] at hp
      rcases List.mem_append.mp hp with z | z
      · exact List.mem_cons_of_mem _ (g.all p z)
      · rw [List.mem_singleton.mp z]; exact List.mem_cons_self
section
variable {P : Program} {w : World} {A : Around} {E : Value → Shared → Prop} {s : Shared}
theorem SetN.keep {h h' : Heap} {a : Addr} {L : List (Addr × NK)} {es : Array (Int × Value)} {ep : Nat} {t : SetTable} (R : SetN P w h a L es ep t) (ha : ∀ o, h.get? a = some o → h'.get? a = some o) (ht : ∀ p ∈ L, IsN P w h' p.2 p.1) : SetN P w h' a L es ep t := by
  obtain ⟨o, ho, r⟩ := R.ob
  exact ⟨⟨o, ha o ho, r⟩, R.rows, R.tab, R.nd, ht, R.room, R.few⟩
end
end L3S
namespace L3S
open PySem PySem.Spec PyProof.Rows L2
section
variable {P : Program} {w : World} {A : Around} {E : Value → Shared → Prop} {s : Shared}
end
end L3S
namespace L3S
open PySem PySem.Spec PyProof.Rows L2
end L3S
namespace L3
open PySem PySem.Spec PyProof.Rows L2 L3S
section
variable {X : Cx} {pins : List (Addr × Obj)} {σ : L2.St} {H : Hp} {s : Shared} {N : Addr → Prop}
end
variable {G : GC} {S : SC}
end L3
namespace L3
open PySem PySem.Spec PyProof.Rows L2
section
variable {G : GC} {S : SC}
end
end L3
namespace L3
open PySem PySem.Spec PyProof.Rows L2
def notRef : R → Bool
  | .ref _ => false
  | _ => true
def mevs : List ME → En → Option (List R × En)
  | [], ρ => some ([], ρ)
  | m :: ms, ρ => (m ρ).bind fun x => (mevs ms x.2).map fun y => (x.1 :: y.1, y.2)
def stoL : En → List Nat → List R → Option En
  | ρ, [], [] => some ρ
  | ρ, i :: is, r :: rs => (stoR ρ i r).bind fun ρ1 => stoL ρ1 is rs
  | _, _, _ => none
def mparN (is : List Nat) (ms : List ME) : MS := fun ρ => (mevs ms ρ).bind fun x => (guardO (is.all (notBor x.2) && x.1.all notRef)).bind fun _ => (stoL x.2 is x.1).map fun ρ2 => (.nx, ρ2)
section
variable {K : PySem.W.Frag} {W : Wd} {ρ ρ1 ρ' : En} {σ : L2.St} {H H1 H' : Hp}
end
section
variable {G : GC} {S : SC}
end
end L3
namespace L3S
open PySem PySem.Spec PyProof.Rows L2
def s5 : Nat → Nat
  | 0 => 0
  | n + 1 => s5 n * 5 + 1
/-- a mask by which all slots are met -/
def FullM (m : Nat) : Prop := m % 2 = 1 ∧ ∀ i j, i ≤ m → j ≤ m → ∃ k, k ≤ m ∧ lcgI m i k = j
theorem run_at {m : Nat} (F : FullM m) (h : Int) {j : Nat} (hj : j ≤ m) : ∃ n, n ≤ m + 12 ∧ runI m (SetTable.bits h) n = j := by
  obtain ⟨k, hk, rfl⟩ := F.2 _ _ (runI_le m (SetTable.bits h) 12) hj
  exact ⟨12 + k, by omega, runI_tail (bits_lt h) k⟩
theorem way_at {m : Nat} (F : FullM m) (h : Int) {j : Nat} (hj : j ≤ m) : ∃ k, k < 10 * SetTable.turns m ∧ way m h k = j := by
  obtain ⟨n, hn, rfl⟩ := run_at F h hj
  obtain ⟨k, hk, e⟩ := run_nth m (SetTable.bits h) n
  exact ⟨k, Nat.lt_of_le_of_lt hk (by show 10 * n < 10 * (m + 15); omega), congrArg SetTable.Probe.j e⟩
theorem way_in (m : Nat) (h : Int) (k : Nat) : way m h k ≤ m := by
  show (nth m (runAt m _ _) k).j ≤ m
  have h1 : SetTable.bits h % (m + 1) ≤ m := Nat.lt_succ_iff.mp (Nat.mod_lt _ m.succ_pos)
  generalize SetTable.bits h % (m + 1) = i at h1 ⊢
  obtain ⟨h2, h3, _⟩ := runEnd_bd h1
  refine Nat.le_trans (Nat.le_add_right _ _) (nth_in k (runAt m i _) ?_)
  show i + (SetTable.runEnd m i - i) ≤ m
  omega
/-- a slot that is met behind taken ones alone -/
def Rch (m : Nat) (P : List Nat) (h : Int) (j : Nat) : Prop := ∃ k, way m h k = j ∧ ∀ c, c < k → way m h c ∈ P
theorem Rch.up {m : Nat} {P P' : List Nat} {h : Int} {j : Nat} (r : Rch m P h j) (s : ∀ x ∈ P, x ∈ P') : Rch m P' h j :=
  let ⟨k, e, z⟩ := r
  ⟨k, e, fun c hc => s _ (z c hc)⟩
structure TabQ (t : SetTable) (hs : List Int) : Prop where
  ris : Ris t.place.toList
  dm : t.dummies = #[]
  sz : t.place.size = hs.length
  mok : FullM t.mask
  bd : ∀ x ∈ t.place.toList, x ≤ t.mask
  rch : ∀ z ∈ t.place.toList.zip hs, Rch t.mask t.place.toList z.2 z.1
theorem TabQ.first {t : SetTable} {hs : List Int} (T : TabQ t hs) (hl : hs.length ≤ t.mask) (h : Int) : ∃ K, K < 10 * SetTable.turns t.mask ∧ way t.mask h K ∉ t.place.toList ∧ ∀ c, c < K → way t.mask h c ∈ t.place.toList := by
  obtain ⟨j, hj, hn⟩ := st_missing t.place.toList (t.mask + 1) (by have := T.sz; rw [Array.length_toList]; omega)
  obtain ⟨k, hk, rfl⟩ := way_at T.mok h (j := j) (by omega)
  obtain ⟨K, a1, a2, a3⟩ := st_least (p := fun c => way t.mask h c ∉ t.place.toList) k hn
  exact ⟨K, by omega, a2, fun c hc => Classical.not_not.mp (a3 c hc)⟩
theorem zip_ins {α β : Type} {as : List α} {bs : List β} (a : α) (b : β) (p : Nat) (h : as.length = bs.length) : (as.take p ++ a :: as.drop p).zip (bs.take p ++ b :: bs.drop p) = (as.zip bs).take p ++ (a, b) :: (as.zip bs).drop p := by
  rw [List.zip_append (by rw [List.length_take, List.length_take, h]), List.zip_cons_cons]
  simp only [List.zip, List.take_zipWith, List.drop_zipWith]
theorem TabQ.put {t : SetTable} {hs : List Int} (T : TabQ t hs) {h : Int} {K : Nat} (hK : way t.mask h K ∉ t.place.toList) (hb : ∀ c, c < K → way t.mask h c ∈ t.place.toList) :
    ∃ p, t.put (way t.mask h K) = ((t.put (way t.mask h K)).1, p) ∧ p = SetTable.below t.place (way t.mask h K) ∧ p ≤ hs.length ∧ TabQ (t.put (way t.mask h K)).1 (hs.take p ++ h :: hs.drop p) ∧ (t.put (way t.mask h K)).1.mask = t.mask ∧ (t.put (way t.mask h K)).1.fill = hs.length + 1 ∧ (t.put (way t.mask h K)).1.led = t.led := by
  have hin := way_in t.mask h K
  have hr : Rch t.mask t.place.toList h (way t.mask h K) := ⟨K, rfl, hb⟩
  generalize way t.mask h K = j at *
  have hp : SetTable.below t.place j ≤ t.place.size := (below_cut T.ris j).1
  have hpl : SetTable.below t.place j ≤ t.place.toList.length := by rw [Array.length_toList]; exact hp
  have hl : t.place.toList.length = hs.length := by rw [Array.length_toList]; exact T.sz
  have e := put_place t j
  have d := put_dm T.dm j
  have hsize : (t.put j).1.place.size = hs.length + 1 := by
    rw [← Array.length_toList, e, len_ins _ hpl, hl]
  have sub : ∀ x ∈ t.place.toList, x ∈ (t.put j).1.place.toList := fun x hx => by rw [e]; exact mem_ins.2 (.inr hx)
  refine ⟨_, rfl, rfl, by rw [← T.sz]; exact hp, ⟨ris_insert T.ris fun z => hK (List.mem_of_getElem? (Array.getElem?_toList ▸ z)), d, by rw [len_ins _ (by rw [← T.sz]; exact hp)]; exact hsize, T.mok, fun x hx => ?_, fun z hz => ?_⟩, rfl, ?_, rfl⟩
  · rw [e] at hx
    exact (mem_ins.1 hx).elim (fun z => z ▸ hin) (T.bd x)
  · rw [e] at hz
    have hz' := (mem_ins.1 (by rw [zip_ins j h _ hl] at hz; exact hz))
    show Rch t.mask _ z.2 z.1
    rcases hz' with rfl | hz'
    · exact hr.up sub
    · exact (T.rch z hz').up sub
  · show (t.put j).1.place.size + (t.put j).1.dummies.size = _
    rw [hsize, d]
    rfl
end L3S
namespace L3S
open PySem PySem.Spec PyProof.Rows L2
end L3S
namespace L3B
open PySem PySem.Spec PyProof.Rows L2 L3S
/-- the masks that come -/
def MaskIn (m : Nat) : Prop := m = 7 ∨ m = 31 ∨ m = 127 ∨ m = 511 ∨ m = 2047 ∨ m = 8191
abbrev NK := NestedKey
section
variable {P : Program} {w : World} {A : Around} {E : Value → Shared → Prop} {s : Shared}
abbrev hk (w : World) (k : NK) : Int := k.hash w
def rowN (w : World) (L : List (Addr × NK)) : List (Int × Value) := L.map fun p => (hk w p.2, Value.ref p.1)
structure SetN (P : Program) (w : World) (h : Heap) (a : Addr) (L : List (Addr × NK)) (es : Array (Int × Value)) (ep : Nat) (t : SetTable) : Prop where
  ob : ∃ o, h.get? a = some o ∧ o.ExactSet ∧ o.data = .set es ep t
  rows : es.toList = rowN w L
  tab : TabQ t (L.map fun p => hk w p.2)
  nd : (L.map (·.2)).Nodup
  keys : ∀ p ∈ L, IsN P w h p.2 p.1
  room : L.length * 5 < t.mask * 3
  few : L.length < 4915
  msk : MaskIn t.mask
  led : w.params.followText "set-order" = true ∨ t.led = true
variable {a : Addr} {L : List (Addr × NK)} {es : Array (Int × Value)} {ep : Nat} {t : SetTable}
theorem SetN.gw (R : SetN P w s.heap a L es ep t) : ¬ t.gaveWay = true := by
  unfold SetTable.gaveWay
  rw [R.tab.mok.1]
  decide
/-- the way's state behind c steps -/
abbrev stand (m : Nat) (h : Int) (c : Nat) : SetTable.Probe := nth m (runAt m (SetTable.bits h % (m + 1)) (SetTable.bits h)) c
end
end L3B
namespace L3B
open PySem PySem.Spec PyProof.Rows L2 L3S
section
variable {P : Program} {w : World} {A : Around} {E : Value → Shared → Prop} {s : Shared}
variable {a : Addr} {L : List (Addr × NK)} {es : Array (Int × Value)} {ep : Nat} {t : SetTable}
end
end L3B
namespace L3B
open PySem PySem.Spec PyProof.Rows L2 L3S
/-- what the set has got from the first i items -/
structure GotN (ks : List (Addr × NK)) (i : Nat) (L : List (Addr × NK)) : Prop where
  sub : ∀ p ∈ L, p ∈ ks.take i
  all : ∀ p ∈ ks.take i, p.2 ∈ L.map (·.2)
  len : L.length ≤ i
theorem GotN.zero (ks : List (Addr × NK)) : GotN ks 0 [] := ⟨fun p h => (by cases h), fun p h => (by simp at h), Nat.le_refl _⟩
theorem GotN.step {ks L L' : List (Addr × NK)} {i : Nat} {x : Addr × NK} (g : GotN ks i L) (h : ks[i]? = some x) (c1 : x.2 ∈ L.map (·.2) → L' = L) (c2 : x.2 ∉ L.map (·.2) → L'.Perm (x :: L)) : GotN ks (i + 1) L' := by
  by_cases hm : x.2 ∈ L.map (·.2)
  · rw [c1 hm]
    refine ⟨fun p hp => ?_, fun p hp => ?_, Nat.le_succ_of_le g.len⟩
    · rw [take_next h]; exact List.mem_append_left _ (g.sub p hp)
    · rw [take_next h] at hp
      rcases List.mem_append.mp hp with z | z
      · exact g.all p z
      · rw [List.mem_singleton.mp z]; exact hm
  · have pm := c2 hm
    refine ⟨fun p hp => ?_, fun p hp => ?_, by rw [pm.length_eq, List.length_cons]; exact Nat.succ_le_succ g.len⟩
    · rw [take_next h]
      rcases List.mem_cons.mp (pm.mem_iff.mp hp) with e | z
      · rw [e]; exact List.mem_append_right _ (List.mem_singleton.mpr rfl)
      · exact List.mem_append_left _ (g.sub p z)
    · rw [(pm.map (·.2)).mem_iff, List.map_cons]
      rw [take_next h] at hp
      rcases List.mem_append.mp hp with z | z
      · exact List.mem_cons_of_mem _ (g.all p z)
      · rw [List.mem_singleton.mp z]; exact List.mem_cons_self
section
variable {P : Program} {w : World} {A : Around} {E : Value → Shared → Prop} {s : Shared}
theorem SetN.keep {h h' : Heap} {a : Addr} {L : List (Addr × NK)} {es : Array (Int × Value)} {ep : Nat} {t : SetTable} (R : SetN P w h a L es ep t) (ha : ∀ o, h.get? a = some o → h'.get? a = some o) (ht : ∀ p ∈ L, IsN P w h' p.2 p.1) : SetN P w h' a L es ep t := by
  obtain ⟨o, ho, r⟩ := R.ob
  exact ⟨⟨o, ha o ho, r⟩, R.rows, R.tab, R.nd, ht, R.room, R.few, R.msk, R.led⟩
end
end L3B
namespace L3B
open PySem PySem.Spec PyProof.Rows L2 L3S
section
variable {P : Program} {w : World} {A : Around} {E : Value → Shared → Prop} {s : Shared}
end
end L3B
namespace L3
open PySem
def seqO (b : MS) : O → MS
  | .nx, ρ => b ρ
  | .bk, ρ => some (.bk, ρ)
  | .ct, ρ => some (.ct, ρ)
  | .rt r, ρ => some (.rt r, ρ)
def iteS {α : Type} (a b : En → Option α) : Bool → En → Option α
  | true, ρ => a ρ
  | false, ρ => b ρ
def retA (i : Nat) (ρ : En) : Option A → Option (O × En)
  | some (.dat d) => some (.rt (.dat d), ρ)
  | some (.box true b) => some (.rt (.new b), ρ)
  | _ => none
def retR (ρ : En) : R → Option (O × En)
  | .dat d => some (.rt (.dat d), ρ)
  | .new b => some (.rt (.new b), ρ)
  | .ref i => retA i ρ ρ[i]?.join
def varA (i : Nat) (ρ : En) : Option A → Option (R × En)
  | some (.dat d) => some (.dat d, ρ)
  | some (.box _ _) => some (.ref i, ρ)
  | none => none
def partD (ρ : En) : D → Option (Option Int × En)
  | .int i => some (some i, ρ)
  | _ => none
def seqItems (ρ : En) : Option (List D) → Option (It3 × En)
  | some ds => some (.items ds, ρ)
  | none => none
def seqA (i : Nat) (ρ : En) : Option A → Option (It3 × En)
  | some (.dat d) => seqItems ρ (seqD d)
  | some (.box true b) => seqItems (ρ.set i (some (.dat b.dat))) (seqD b.dat)
  | some (.box false (.lst ds)) => some (.slot i ds, ρ)
  | _ => none
def seqR (ρ : En) : R → Option (It3 × En)
  | .dat d => seqItems ρ (seqD d)
  | .new b => seqItems ρ (seqD b.dat)
  | .ref i => seqA i ρ ρ[i]?.join
def seqAC (i : Nat) (ρ : En) : Option A → Option (It3 × En)
  | some (.dat d) => seqItems ρ (seqD d)
  | some (.box _ (.lst ds)) => some (.slot i ds, ρ)
  | _ => none
def seqRC (ρ : En) : R → Option (It3 × En)
  | .dat d => seqItems ρ (seqD d)
  | .new b => seqItems ρ (seqD b.dat)
  | .ref i => seqAC i ρ ρ[i]?.join
def forT (g : MG) (b : MS) : It3 → MS
  | .items ds, ρ => mforI g b ds ρ
  | .slot i ds, ρ => mforS i g b ds 0 ρ
def stoO : Option En → Option (O × En)
  | some ρ => some (.nx, ρ)
  | none => none
def parR (i j : Nat) (ρ : En) : R → R → Option (O × En)
  | .ref _, _ => none
  | _, .ref _ => none
  | r, r' => stoO ((stoR ρ i r).bind fun ρ1 => stoR ρ1 j r')
def lcE (ρ : En) (vs : List Nat) : Option (List D × En) → Option (R × En)
  | some y => some (.new (.lst y.1), restE ρ y.2 vs)
  | none => none
def lcT (g : MG) (t : MT) (m : ME) (vs : List Nat) : It3 → ME
  | .items ds, ρ => lcE ρ vs (mlcI g t m vs ds [] (wipeE ρ vs))
  | .slot i ds, ρ => lcE ρ vs ((guardO (decide (i ∉ vs))).bind fun _ => mlcS i g t m vs ds 0 [] (wipeE ρ vs))
def rng1 (ρ : En) : List R → Option (It3 × En)
  | [r] => (intR ρ r).bind fun j => (guardO (decide (-(2 ^ 62) ≤ j ∧ j < 2 ^ 62))).bind fun _ => some (.items (rngD 0 j), ρ)
  | _ => none
def augR (s : Nat) (ρ : En) (o : Bool) (xs : List D) (j : Nat) : R → Option (O × En)
  | .dat d => some (.nx, ρ.set s (some (.box o (.lst (xs.set j d)))))
  | _ => none
def asgG (g : MG) (ρ : En) : List D → Option (O × En)
  | [d] => stoO (g d ρ)
  | _ => none
def defE (as : List A) (ρ : En) : O → Option (R × List A)
  | .rt r => (outAs ρ as 0).map fun o => (r, o)
  | .nx => (outAs ρ as 0).map fun o => (.dat .none, o)
  | _ => none
@[simp] theorem ev_mvar (i : Nat) (ρ : En) : mvar i ρ = varA i ρ ρ[i]?.join := by
  unfold mvar varA
  cases ρ[i]?.join with
  | none => rfl
  | some a => cases a <;> rfl
@[simp] theorem ev_mcon (d : D) (ρ : En) : mcon d ρ = some (.dat d, ρ) := rfl
@[simp] theorem ev_mnil (ρ : En) : mnil ρ = some ([], ρ) := rfl
@[simp] theorem ev_mdnew (ρ : En) : mdnew ρ = some (.new (.dic []), ρ) := rfl
@[simp] theorem ev_mdic (kvs : List (L2.Key × D)) (ρ : En) : mdic kvs ρ = some (.new (.dic (mergeKD [] kvs)), ρ) := rfl
@[simp] theorem ev_monone (ρ : En) : monone ρ = some (none, ρ) := rfl
@[simp] theorem ev_mpass (ρ : En) : mpass ρ = some (.nx, ρ) := rfl
@[simp] theorem ev_myes (ρ : En) : myes ρ = some (true, ρ) := rfl
def k_m1_2 (ρ1 : En) : Option (R) → Option (R × En)
  | some r => some (r, ρ1)
  | none => none
@[simp] theorem kk_m1_2 (ρ1 : En) (r : R) : k_m1_2 ρ1 (some r) = (some (r, ρ1)) := rfl
def k_m1_1 (g : D → Option R) (ρ1 : En) : Option (D) → Option (R × En)
  | some d => k_m1_2 ρ1 (g d)
  | none => none
@[simp] theorem kk_m1_1 (g : D → Option R) (ρ1 : En) (d : D) : k_m1_1 g ρ1 (some d) = (k_m1_2 ρ1 (g d)) := rfl
def k_m1_0 (g : D → Option R) : Option (R × En) → Option (R × En)
  | some (x, ρ1) => k_m1_1 g ρ1 (x.fz.vw ρ1)
  | none => none
@[simp] theorem kk_m1_0 (g : D → Option R) (x : R) (ρ1 : En) : k_m1_0 g (some (x, ρ1)) = (k_m1_1 g ρ1 (x.fz.vw ρ1)) := rfl
@[simp] theorem ev_m1 (g : D → Option R) (ma : ME) (ρ : En) : m1 g ma ρ = k_m1_0 g (ma ρ) := by
  unfold m1
  cases h0 : ma ρ with
  | none => simp only [Option.bind, Option.map, h0, k_m1_0, k_m1_1, k_m1_2]
  | some p0 =>
    obtain ⟨x, ρ1⟩ := p0
    cases h1 : x.fz.vw ρ1 with
    | none => simp only [Option.bind, Option.map, h0, h1, k_m1_0, k_m1_1, k_m1_2]
    | some d =>
      cases h2 : g d with
      | none => simp only [Option.bind, Option.map, h0, h1, h2, k_m1_0, k_m1_1, k_m1_2]
      | some r =>
        simp only [Option.bind, Option.map, h0, h1, h2, k_m1_0, k_m1_1, k_m1_2]
def k_m2_4 (ρ2 : En) : Option (R) → Option (R × En)
  | some r => some (r, ρ2)
  | none => none
@[simp] theorem kk_m2_4 (ρ2 : En) (r : R) : k_m2_4 ρ2 (some r) = (some (r, ρ2)) := rfl
def k_m2_3 (g : D → D → Option R) (ρ2 : En) (d : D) : Option (D) → Option (R × En)
  | some e => k_m2_4 ρ2 (g d e)
  | none => none
@[simp] theorem kk_m2_3 (g : D → D → Option R) (ρ2 : En) (d : D) (e : D) : k_m2_3 g ρ2 d (some e) = (k_m2_4 ρ2 (g d e)) := rfl
def k_m2_2 (g : D → D → Option R) (y : R) (ρ2 : En) : Option (D) → Option (R × En)
  | some d => k_m2_3 g ρ2 d (y.fz.vw ρ2)
  | none => none
@[simp] theorem kk_m2_2 (g : D → D → Option R) (y : R) (ρ2 : En) (d : D) : k_m2_2 g y ρ2 (some d) = (k_m2_3 g ρ2 d (y.fz.vw ρ2)) := rfl
def k_m2_1 (g : D → D → Option R) (x : R) : Option (R × En) → Option (R × En)
  | some (y, ρ2) => k_m2_2 g y ρ2 (x.fz.vw ρ2)
  | none => none
@[simp] theorem kk_m2_1 (g : D → D → Option R) (x : R) (y : R) (ρ2 : En) : k_m2_1 g x (some (y, ρ2)) = (k_m2_2 g y ρ2 (x.fz.vw ρ2)) := rfl
def k_m2_0 (g : D → D → Option R) (mb : ME) : Option (R × En) → Option (R × En)
  | some (x, ρ1) => k_m2_1 g x (mb ρ1)
  | none => none
@[simp] theorem kk_m2_0 (g : D → D → Option R) (mb : ME) (x : R) (ρ1 : En) : k_m2_0 g mb (some (x, ρ1)) = (k_m2_1 g x (mb ρ1)) := rfl
@[simp] theorem ev_m2 (g : D → D → Option R) (ma : ME) (mb : ME) (ρ : En) : m2 g ma mb ρ = k_m2_0 g mb (ma ρ) := by
  unfold m2
  cases h0 : ma ρ with
  | none => simp only [Option.bind, Option.map, h0, k_m2_0, k_m2_1, k_m2_2, k_m2_3, k_m2_4]
  | some p0 =>
    obtain ⟨x, ρ1⟩ := p0
    cases h1 : mb ρ1 with
    | none => simp only [Option.bind, Option.map, h0, h1, k_m2_0, k_m2_1, k_m2_2, k_m2_3, k_m2_4]
    | some p1 =>
      obtain ⟨y, ρ2⟩ := p1
      cases h2 : x.fz.vw ρ2 with
      | none => simp only [Option.bind, Option.map, h0, h1, h2, k_m2_0, k_m2_1, k_m2_2, k_m2_3, k_m2_4]
      | some d =>
        cases h3 : y.fz.vw ρ2 with
        | none => simp only [Option.bind, Option.map, h0, h1, h2, h3, k_m2_0, k_m2_1, k_m2_2, k_m2_3, k_m2_4]
        | some e =>
          cases h4 : g d e with
          | none => simp only [Option.bind, Option.map, h0, h1, h2, h3, h4, k_m2_0, k_m2_1, k_m2_2, k_m2_3, k_m2_4]
          | some r =>
            simp only [Option.bind, Option.map, h0, h1, h2, h3, h4, k_m2_0, k_m2_1, k_m2_2, k_m2_3, k_m2_4]
def k_mcons_1 (x : R) : Option (List R × En) → Option (List R × En)
  | some (rs, ρ2) => some (x.fz :: rs, ρ2)
  | none => none
@[simp] theorem kk_mcons_1 (x : R) (rs : List R) (ρ2 : En) : k_mcons_1 x (some (rs, ρ2)) = (some (x.fz :: rs, ρ2)) := rfl
def k_mcons_0 (ms : MA) : Option (R × En) → Option (List R × En)
  | some (x, ρ1) => k_mcons_1 x (ms ρ1)
  | none => none
@[simp] theorem kk_mcons_0 (ms : MA) (x : R) (ρ1 : En) : k_mcons_0 ms (some (x, ρ1)) = (k_mcons_1 x (ms ρ1)) := rfl
@[simp] theorem ev_mcons (ma : ME) (ms : MA) (ρ : En) : mcons ma ms ρ = k_mcons_0 ms (ma ρ) := by
  unfold mcons
  cases h0 : ma ρ with
  | none => simp only [Option.bind, Option.map, h0, k_mcons_0, k_mcons_1]
  | some p0 =>
    obtain ⟨x, ρ1⟩ := p0
    cases h1 : ms ρ1 with
    | none => simp only [Option.bind, Option.map, h0, h1, k_mcons_0, k_mcons_1]
    | some p1 =>
      obtain ⟨rs, ρ2⟩ := p1
      simp only [Option.bind, Option.map, h0, h1, k_mcons_0, k_mcons_1]
def k_mn_2 (ρ1 : En) : Option (R) → Option (R × En)
  | some r => some (r, ρ1)
  | none => none
@[simp] theorem kk_mn_2 (ρ1 : En) (r : R) : k_mn_2 ρ1 (some r) = (some (r, ρ1)) := rfl
def k_mn_1 (g : List D → Option R) (ρ1 : En) : Option (List D) → Option (R × En)
  | some ds => k_mn_2 ρ1 (g ds)
  | none => none
@[simp] theorem kk_mn_1 (g : List D → Option R) (ρ1 : En) (ds : List D) : k_mn_1 g ρ1 (some ds) = (k_mn_2 ρ1 (g ds)) := rfl
def k_mn_0 (g : List D → Option R) : Option (List R × En) → Option (R × En)
  | some (rs, ρ1) => k_mn_1 g ρ1 (vws ρ1 rs)
  | none => none
@[simp] theorem kk_mn_0 (g : List D → Option R) (rs : List R) (ρ1 : En) : k_mn_0 g (some (rs, ρ1)) = (k_mn_1 g ρ1 (vws ρ1 rs)) := rfl
@[simp] theorem ev_mn (g : List D → Option R) (ms : MA) (ρ : En) : mn g ms ρ = k_mn_0 g (ms ρ) := by
  unfold mn
  cases h0 : ms ρ with
  | none => simp only [Option.bind, Option.map, h0, k_mn_0, k_mn_1, k_mn_2]
  | some p0 =>
    obtain ⟨rs, ρ1⟩ := p0
    cases h1 : vws ρ1 rs with
    | none => simp only [Option.bind, Option.map, h0, h1, k_mn_0, k_mn_1, k_mn_2]
    | some ds =>
      cases h2 : g ds with
      | none => simp only [Option.bind, Option.map, h0, h1, h2, k_mn_0, k_mn_1, k_mn_2]
      | some r =>
        simp only [Option.bind, Option.map, h0, h1, h2, k_mn_0, k_mn_1, k_mn_2]
def k_mm_6 (ρ2 : En) : Option (R) → Option (R × En)
  | some r => some (r, ρ2)
  | none => none
@[simp] theorem kk_mm_6 (ρ2 : En) (r : R) : k_mm_6 ρ2 (some r) = (some (r, ρ2)) := rfl
def k_mm_5 (g : D → List D → Option R) (ρ2 : En) (d : D) : Option (List D) → Option (R × En)
  | some ds => k_mm_6 ρ2 (g d ds)
  | none => none
@[simp] theorem kk_mm_5 (g : D → List D → Option R) (ρ2 : En) (d : D) (ds : List D) : k_mm_5 g ρ2 d (some ds) = (k_mm_6 ρ2 (g d ds)) := rfl
def k_mm_4 (g : D → List D → Option R) (rs : List R) (ρ2 : En) : Option (D) → Option (R × En)
  | some d => k_mm_5 g ρ2 d (vws ρ2 rs)
  | none => none
@[simp] theorem kk_mm_4 (g : D → List D → Option R) (rs : List R) (ρ2 : En) (d : D) : k_mm_4 g rs ρ2 (some d) = (k_mm_5 g ρ2 d (vws ρ2 rs)) := rfl
def k_mm_3 (g : D → List D → Option R) (x : R) : Option (List R × En) → Option (R × En)
  | some (rs, ρ2) => k_mm_4 g rs ρ2 (x.fz.vw ρ2)
  | none => none
@[simp] theorem kk_mm_3 (g : D → List D → Option R) (x : R) (rs : List R) (ρ2 : En) : k_mm_3 g x (some (rs, ρ2)) = (k_mm_4 g rs ρ2 (x.fz.vw ρ2)) := rfl
def k_mm_2 (g : D → List D → Option R) (ms : MA) (x : R) (ρ1 : En) : Option (Unit) → Option (R × En)
  | some u => k_mm_3 g x (ms ρ1)
  | none => none
@[simp] theorem kk_mm_2 (g : D → List D → Option R) (ms : MA) (x : R) (ρ1 : En) (u : Unit) : k_mm_2 g ms x ρ1 (some u) = (k_mm_3 g x (ms ρ1)) := rfl
def k_mm_1 (T : String) (g : D → List D → Option R) (ms : MA) (x : R) (ρ1 : En) : Option (D) → Option (R × En)
  | some d0 => k_mm_2 g ms x ρ1 (guardO (tyD T d0))
  | none => none
@[simp] theorem kk_mm_1 (T : String) (g : D → List D → Option R) (ms : MA) (x : R) (ρ1 : En) (d0 : D) : k_mm_1 T g ms x ρ1 (some d0) = (k_mm_2 g ms x ρ1 (guardO (tyD T d0))) := rfl
def k_mm_0 (T : String) (g : D → List D → Option R) (ms : MA) : Option (R × En) → Option (R × En)
  | some (x, ρ1) => k_mm_1 T g ms x ρ1 (x.fz.vw ρ1)
  | none => none
@[simp] theorem kk_mm_0 (T : String) (g : D → List D → Option R) (ms : MA) (x : R) (ρ1 : En) : k_mm_0 T g ms (some (x, ρ1)) = (k_mm_1 T g ms x ρ1 (x.fz.vw ρ1)) := rfl
@[simp] theorem ev_mm (T : String) (g : D → List D → Option R) (ma : ME) (ms : MA) (ρ : En) : mm T g ma ms ρ = k_mm_0 T g ms (ma ρ) := by
  unfold mm
  cases h0 : ma ρ with
  | none => simp only [Option.bind, Option.map, h0, k_mm_0, k_mm_1, k_mm_2, k_mm_3, k_mm_4, k_mm_5, k_mm_6]
  | some p0 =>
    obtain ⟨x, ρ1⟩ := p0
    cases h1 : x.fz.vw ρ1 with
    | none => simp only [Option.bind, Option.map, h0, h1, k_mm_0, k_mm_1, k_mm_2, k_mm_3, k_mm_4, k_mm_5, k_mm_6]
    | some d0 =>
      cases h2 : guardO (tyD T d0) with
      | none => simp only [Option.bind, Option.map, h0, h1, h2, k_mm_0, k_mm_1, k_mm_2, k_mm_3, k_mm_4, k_mm_5, k_mm_6]
      | some u =>
        cases h3 : ms ρ1 with
        | none => simp only [Option.bind, Option.map, h0, h1, h2, h3, k_mm_0, k_mm_1, k_mm_2, k_mm_3, k_mm_4, k_mm_5, k_mm_6]
        | some p3 =>
          obtain ⟨rs, ρ2⟩ := p3
          cases h4 : x.fz.vw ρ2 with
          | none => simp only [Option.bind, Option.map, h0, h1, h2, h3, h4, k_mm_0, k_mm_1, k_mm_2, k_mm_3, k_mm_4, k_mm_5, k_mm_6]
          | some d =>
            cases h5 : vws ρ2 rs with
            | none => simp only [Option.bind, Option.map, h0, h1, h2, h3, h4, h5, k_mm_0, k_mm_1, k_mm_2, k_mm_3, k_mm_4, k_mm_5, k_mm_6]
            | some ds =>
              cases h6 : g d ds with
              | none => simp only [Option.bind, Option.map, h0, h1, h2, h3, h4, h5, h6, k_mm_0, k_mm_1, k_mm_2, k_mm_3, k_mm_4, k_mm_5, k_mm_6]
              | some r =>
                simp only [Option.bind, Option.map, h0, h1, h2, h3, h4, h5, h6, k_mm_0, k_mm_1, k_mm_2, k_mm_3, k_mm_4, k_mm_5, k_mm_6]
def k_mif_0 (ma : ME) (mb : ME) : Option (Bool × En) → Option (R × En)
  | some (c, ρ1) => iteS ma mb c ρ1
  | none => none
@[simp] theorem kk_mif_0 (ma : ME) (mb : ME) (c : Bool) (ρ1 : En) : k_mif_0 ma mb (some (c, ρ1)) = (iteS ma mb c ρ1) := rfl
@[simp] theorem ev_mif (mt : MT) (ma : ME) (mb : ME) (ρ : En) : mif mt ma mb ρ = k_mif_0 ma mb (mt ρ) := by
  unfold mif
  cases h0 : mt ρ with
  | none => simp only [Option.bind, Option.map, h0, k_mif_0]
  | some p0 =>
    obtain ⟨c, ρ1⟩ := p0
    simp only [Option.bind, Option.map, h0, k_mif_0]
    cases c <;> simp [iteS]
def k_mtup_2 (ds : List D) (ρ2 : En) : Option (Unit) → Option (R × En)
  | some u => some (.dat (.tuple ds), ρ2)
  | none => none
@[simp] theorem kk_mtup_2 (ds : List D) (ρ2 : En) (u : Unit) : k_mtup_2 ds ρ2 (some u) = (some (.dat (.tuple ds), ρ2)) := rfl
def k_mtup_1  : Option (List D × En) → Option (R × En)
  | some (ds, ρ2) => k_mtup_2 ds ρ2 (guardO (decide (ds.length ≤ sizeLine)))
  | none => none
@[simp] theorem kk_mtup_1 (ds : List D) (ρ2 : En) : k_mtup_1  (some (ds, ρ2)) = (k_mtup_2 ds ρ2 (guardO (decide (ds.length ≤ sizeLine)))) := rfl
def k_mtup_0  : Option (List R × En) → Option (R × En)
  | some (rs, ρ1) => k_mtup_1  (fzs ρ1 rs)
  | none => none
@[simp] theorem kk_mtup_0 (rs : List R) (ρ1 : En) : k_mtup_0  (some (rs, ρ1)) = (k_mtup_1  (fzs ρ1 rs)) := rfl
@[simp] theorem ev_mtup (ms : MA) (ρ : En) : mtup ms ρ = k_mtup_0  (ms ρ) := by
  unfold mtup
  cases h0 : ms ρ with
  | none => simp only [Option.bind, Option.map, h0, k_mtup_0, k_mtup_1, k_mtup_2]
  | some p0 =>
    obtain ⟨rs, ρ1⟩ := p0
    cases h1 : fzs ρ1 rs with
    | none => simp only [Option.bind, Option.map, h0, h1, k_mtup_0, k_mtup_1, k_mtup_2]
    | some p1 =>
      obtain ⟨ds, ρ2⟩ := p1
      cases h2 : guardO (decide (ds.length ≤ sizeLine)) with
      | none => simp only [Option.bind, Option.map, h0, h1, h2, k_mtup_0, k_mtup_1, k_mtup_2]
      | some u =>
        simp only [Option.bind, Option.map, h0, h1, h2, k_mtup_0, k_mtup_1, k_mtup_2]
def k_mlst_2 (ds : List D) (ρ2 : En) : Option (Unit) → Option (R × En)
  | some u => some (.new (.lst ds), ρ2)
  | none => none
@[simp] theorem kk_mlst_2 (ds : List D) (ρ2 : En) (u : Unit) : k_mlst_2 ds ρ2 (some u) = (some (.new (.lst ds), ρ2)) := rfl
def k_mlst_1  : Option (List D × En) → Option (R × En)
  | some (ds, ρ2) => k_mlst_2 ds ρ2 (guardO (decide (ds.length ≤ sizeLine)))
  | none => none
@[simp] theorem kk_mlst_1 (ds : List D) (ρ2 : En) : k_mlst_1  (some (ds, ρ2)) = (k_mlst_2 ds ρ2 (guardO (decide (ds.length ≤ sizeLine)))) := rfl
def k_mlst_0  : Option (List R × En) → Option (R × En)
  | some (rs, ρ1) => k_mlst_1  (fzs ρ1 rs)
  | none => none
@[simp] theorem kk_mlst_0 (rs : List R) (ρ1 : En) : k_mlst_0  (some (rs, ρ1)) = (k_mlst_1  (fzs ρ1 rs)) := rfl
@[simp] theorem ev_mlst (ms : MA) (ρ : En) : mlst ms ρ = k_mlst_0  (ms ρ) := by
  unfold mlst
  cases h0 : ms ρ with
  | none => simp only [Option.bind, Option.map, h0, k_mlst_0, k_mlst_1, k_mlst_2]
  | some p0 =>
    obtain ⟨rs, ρ1⟩ := p0
    cases h1 : fzs ρ1 rs with
    | none => simp only [Option.bind, Option.map, h0, h1, k_mlst_0, k_mlst_1, k_mlst_2]
    | some p1 =>
      obtain ⟨ds, ρ2⟩ := p1
      cases h2 : guardO (decide (ds.length ≤ sizeLine)) with
      | none => simp only [Option.bind, Option.map, h0, h1, h2, k_mlst_0, k_mlst_1, k_mlst_2]
      | some u =>
        simp only [Option.bind, Option.map, h0, h1, h2, k_mlst_0, k_mlst_1, k_mlst_2]
def k_mosome_1 (ρ1 : En) : Option (D) → Option (Option Int × En)
  | some d => partD ρ1 d
  | none => none
@[simp] theorem kk_mosome_1 (ρ1 : En) (d : D) : k_mosome_1 ρ1 (some d) = (partD ρ1 d) := rfl
def k_mosome_0  : Option (R × En) → Option (Option Int × En)
  | some (x, ρ1) => k_mosome_1 ρ1 (x.fz.vw ρ1)
  | none => none
@[simp] theorem kk_mosome_0 (x : R) (ρ1 : En) : k_mosome_0  (some (x, ρ1)) = (k_mosome_1 ρ1 (x.fz.vw ρ1)) := rfl
@[simp] theorem ev_mosome (m : ME) (ρ : En) : mosome m ρ = k_mosome_0  (m ρ) := by
  unfold mosome
  cases h0 : m ρ with
  | none => simp only [Option.bind, Option.map, h0, k_mosome_0, k_mosome_1]
  | some p0 =>
    obtain ⟨x, ρ1⟩ := p0
    cases h1 : x.fz.vw ρ1 with
    | none => simp only [Option.bind, Option.map, h0, h1, k_mosome_0, k_mosome_1]
    | some d =>
      simp only [Option.bind, Option.map, h0, h1, k_mosome_0, k_mosome_1]
      cases d <;> simp [partD]
def k_msl_4 (ρ3 : En) : Option (R) → Option (R × En)
  | some r => some (r, ρ3)
  | none => none
@[simp] theorem kk_msl_4 (ρ3 : En) (r : R) : k_msl_4 ρ3 (some r) = (some (r, ρ3)) := rfl
def k_msl_3 (g : D → Option Int → Option Int → Option R) (l : Option Int) (h : Option Int) (ρ3 : En) : Option (D) → Option (R × En)
  | some d => k_msl_4 ρ3 (g d l h)
  | none => none
@[simp] theorem kk_msl_3 (g : D → Option Int → Option Int → Option R) (l : Option Int) (h : Option Int) (ρ3 : En) (d : D) : k_msl_3 g l h ρ3 (some d) = (k_msl_4 ρ3 (g d l h)) := rfl
def k_msl_2 (g : D → Option Int → Option Int → Option R) (x : R) (l : Option Int) : Option (Option Int × En) → Option (R × En)
  | some (h, ρ3) => k_msl_3 g l h ρ3 (x.fz.vw ρ3)
  | none => none
@[simp] theorem kk_msl_2 (g : D → Option Int → Option Int → Option R) (x : R) (l : Option Int) (h : Option Int) (ρ3 : En) : k_msl_2 g x l (some (h, ρ3)) = (k_msl_3 g l h ρ3 (x.fz.vw ρ3)) := rfl
def k_msl_1 (g : D → Option Int → Option Int → Option R) (mh : MO) (x : R) : Option (Option Int × En) → Option (R × En)
  | some (l, ρ2) => k_msl_2 g x l (mh ρ2)
  | none => none
@[simp] theorem kk_msl_1 (g : D → Option Int → Option Int → Option R) (mh : MO) (x : R) (l : Option Int) (ρ2 : En) : k_msl_1 g mh x (some (l, ρ2)) = (k_msl_2 g x l (mh ρ2)) := rfl
def k_msl_0 (g : D → Option Int → Option Int → Option R) (ml : MO) (mh : MO) : Option (R × En) → Option (R × En)
  | some (x, ρ1) => k_msl_1 g mh x (ml ρ1)
  | none => none
@[simp] theorem kk_msl_0 (g : D → Option Int → Option Int → Option R) (ml : MO) (mh : MO) (x : R) (ρ1 : En) : k_msl_0 g ml mh (some (x, ρ1)) = (k_msl_1 g mh x (ml ρ1)) := rfl
@[simp] theorem ev_msl (g : D → Option Int → Option Int → Option R) (ma : ME) (ml : MO) (mh : MO) (ρ : En) : msl g ma ml mh ρ = k_msl_0 g ml mh (ma ρ) := by
  unfold msl
  cases h0 : ma ρ with
  | none => simp only [Option.bind, Option.map, h0, k_msl_0, k_msl_1, k_msl_2, k_msl_3, k_msl_4]
  | some p0 =>
    obtain ⟨x, ρ1⟩ := p0
    cases h1 : ml ρ1 with
    | none => simp only [Option.bind, Option.map, h0, h1, k_msl_0, k_msl_1, k_msl_2, k_msl_3, k_msl_4]
    | some p1 =>
      obtain ⟨l, ρ2⟩ := p1
      cases h2 : mh ρ2 with
      | none => simp only [Option.bind, Option.map, h0, h1, h2, k_msl_0, k_msl_1, k_msl_2, k_msl_3, k_msl_4]
      | some p2 =>
        obtain ⟨h, ρ3⟩ := p2
        cases h3 : x.fz.vw ρ3 with
        | none => simp only [Option.bind, Option.map, h0, h1, h2, h3, k_msl_0, k_msl_1, k_msl_2, k_msl_3, k_msl_4]
        | some d =>
          cases h4 : g d l h with
          | none => simp only [Option.bind, Option.map, h0, h1, h2, h3, h4, k_msl_0, k_msl_1, k_msl_2, k_msl_3, k_msl_4]
          | some r =>
            simp only [Option.bind, Option.map, h0, h1, h2, h3, h4, k_msl_0, k_msl_1, k_msl_2, k_msl_3, k_msl_4]
def k_mtru_2 (ρ1 : En) : Option (Bool) → Option (Bool × En)
  | some c => some (c, ρ1)
  | none => none
@[simp] theorem kk_mtru_2 (ρ1 : En) (c : Bool) : k_mtru_2 ρ1 (some c) = (some (c, ρ1)) := rfl
def k_mtru_1 (ρ1 : En) : Option (D) → Option (Bool × En)
  | some d => k_mtru_2 ρ1 (truD d)
  | none => none
@[simp] theorem kk_mtru_1 (ρ1 : En) (d : D) : k_mtru_1 ρ1 (some d) = (k_mtru_2 ρ1 (truD d)) := rfl
def k_mtru_0  : Option (R × En) → Option (Bool × En)
  | some (x, ρ1) => k_mtru_1 ρ1 (x.fz.vw ρ1)
  | none => none
@[simp] theorem kk_mtru_0 (x : R) (ρ1 : En) : k_mtru_0  (some (x, ρ1)) = (k_mtru_1 ρ1 (x.fz.vw ρ1)) := rfl
@[simp] theorem ev_mtru (m : ME) (ρ : En) : mtru m ρ = k_mtru_0  (m ρ) := by
  unfold mtru
  cases h0 : m ρ with
  | none => simp only [Option.bind, Option.map, h0, k_mtru_0, k_mtru_1, k_mtru_2]
  | some p0 =>
    obtain ⟨x, ρ1⟩ := p0
    cases h1 : x.fz.vw ρ1 with
    | none => simp only [Option.bind, Option.map, h0, h1, k_mtru_0, k_mtru_1, k_mtru_2]
    | some d =>
      cases h2 : truD d with
      | none => simp only [Option.bind, Option.map, h0, h1, h2, k_mtru_0, k_mtru_1, k_mtru_2]
      | some c =>
        simp only [Option.bind, Option.map, h0, h1, h2, k_mtru_0, k_mtru_1, k_mtru_2]
def k_mtst_1 (ρ1 : En) : Option (Bool) → Option (Bool × En)
  | some c => some (c, ρ1)
  | none => none
@[simp] theorem kk_mtst_1 (ρ1 : En) (c : Bool) : k_mtst_1 ρ1 (some c) = (some (c, ρ1)) := rfl
def k_mtst_0  : Option (R × En) → Option (Bool × En)
  | some (x, ρ1) => k_mtst_1 ρ1 (boolR x)
  | none => none
@[simp] theorem kk_mtst_0 (x : R) (ρ1 : En) : k_mtst_0  (some (x, ρ1)) = (k_mtst_1 ρ1 (boolR x)) := rfl
@[simp] theorem ev_mtst (m : ME) (ρ : En) : mtst m ρ = k_mtst_0  (m ρ) := by
  unfold mtst
  cases h0 : m ρ with
  | none => simp only [Option.bind, Option.map, h0, k_mtst_0, k_mtst_1]
  | some p0 =>
    obtain ⟨x, ρ1⟩ := p0
    cases h1 : boolR x with
    | none => simp only [Option.bind, Option.map, h0, h1, k_mtst_0, k_mtst_1]
    | some c =>
      simp only [Option.bind, Option.map, h0, h1, k_mtst_0, k_mtst_1]
def k_mnot_0  : Option (Bool × En) → Option (Bool × En)
  | some (c, ρ1) => some (!c, ρ1)
  | none => none
@[simp] theorem kk_mnot_0 (c : Bool) (ρ1 : En) : k_mnot_0  (some (c, ρ1)) = (some (!c, ρ1)) := rfl
@[simp] theorem ev_mnot (m : MT) (ρ : En) : mnot m ρ = k_mnot_0  (m ρ) := by
  unfold mnot
  cases h0 : m ρ with
  | none => simp only [Option.bind, Option.map, h0, k_mnot_0]
  | some p0 =>
    obtain ⟨c, ρ1⟩ := p0
    simp only [Option.bind, Option.map, h0, k_mnot_0]
def k_mandT_0 (md : MT) (ρ : En) : Option (Bool × En) → Option (Bool × En)
  | some (c, ρ1) => iteS md (fun ρ => some (false, ρ)) c ρ1
  | none => none
@[simp] theorem kk_mandT_0 (md : MT) (ρ : En) (c : Bool) (ρ1 : En) : k_mandT_0 md ρ (some (c, ρ1)) = (iteS md (fun ρ => some (false, ρ)) c ρ1) := rfl
@[simp] theorem ev_mandT (mc : MT) (md : MT) (ρ : En) : mandT mc md ρ = k_mandT_0 md ρ (mc ρ) := by
  unfold mandT
  cases h0 : mc ρ with
  | none => simp only [Option.bind, Option.map, h0, k_mandT_0]
  | some p0 =>
    obtain ⟨c, ρ1⟩ := p0
    simp only [Option.bind, Option.map, h0, k_mandT_0]
    cases c <;> simp [iteS]
def k_morT_0 (md : MT) (ρ : En) : Option (Bool × En) → Option (Bool × En)
  | some (c, ρ1) => iteS (fun ρ => some (true, ρ)) md c ρ1
  | none => none
@[simp] theorem kk_morT_0 (md : MT) (ρ : En) (c : Bool) (ρ1 : En) : k_morT_0 md ρ (some (c, ρ1)) = (iteS (fun ρ => some (true, ρ)) md c ρ1) := rfl
@[simp] theorem ev_morT (mc : MT) (md : MT) (ρ : En) : morT mc md ρ = k_morT_0 md ρ (mc ρ) := by
  unfold morT
  cases h0 : mc ρ with
  | none => simp only [Option.bind, Option.map, h0, k_morT_0]
  | some p0 =>
    obtain ⟨c, ρ1⟩ := p0
    simp only [Option.bind, Option.map, h0, k_morT_0]
    cases c <;> simp [iteS]
def k_mandV_1 (mb : ME) (ρ : En) (ρ1 : En) : Option (Bool) → Option (R × En)
  | some c => iteS mb (fun ρ => some (.dat (.bool false), ρ)) c ρ1
  | none => none
@[simp] theorem kk_mandV_1 (mb : ME) (ρ : En) (ρ1 : En) (c : Bool) : k_mandV_1 mb ρ ρ1 (some c) = (iteS mb (fun ρ => some (.dat (.bool false), ρ)) c ρ1) := rfl
def k_mandV_0 (mb : ME) (ρ : En) : Option (R × En) → Option (R × En)
  | some (x, ρ1) => k_mandV_1 mb ρ ρ1 (boolR x)
  | none => none
@[simp] theorem kk_mandV_0 (mb : ME) (ρ : En) (x : R) (ρ1 : En) : k_mandV_0 mb ρ (some (x, ρ1)) = (k_mandV_1 mb ρ ρ1 (boolR x)) := rfl
@[simp] theorem ev_mandV (ma : ME) (mb : ME) (ρ : En) : mandV ma mb ρ = k_mandV_0 mb ρ (ma ρ) := by
  unfold mandV
  cases h0 : ma ρ with
  | none => simp only [Option.bind, Option.map, h0, k_mandV_0, k_mandV_1]
  | some p0 =>
    obtain ⟨x, ρ1⟩ := p0
    cases h1 : boolR x with
    | none => simp only [Option.bind, Option.map, h0, h1, k_mandV_0, k_mandV_1]
    | some c =>
      simp only [Option.bind, Option.map, h0, h1, k_mandV_0, k_mandV_1]
      cases c <;> simp [iteS]
def k_morV_1 (mb : ME) (ρ : En) (ρ1 : En) : Option (Bool) → Option (R × En)
  | some c => iteS (fun ρ => some (.dat (.bool true), ρ)) mb c ρ1
  | none => none
@[simp] theorem kk_morV_1 (mb : ME) (ρ : En) (ρ1 : En) (c : Bool) : k_morV_1 mb ρ ρ1 (some c) = (iteS (fun ρ => some (.dat (.bool true), ρ)) mb c ρ1) := rfl
def k_morV_0 (mb : ME) (ρ : En) : Option (R × En) → Option (R × En)
  | some (x, ρ1) => k_morV_1 mb ρ ρ1 (boolR x)
  | none => none
@[simp] theorem kk_morV_0 (mb : ME) (ρ : En) (x : R) (ρ1 : En) : k_morV_0 mb ρ (some (x, ρ1)) = (k_morV_1 mb ρ ρ1 (boolR x)) := rfl
@[simp] theorem ev_morV (ma : ME) (mb : ME) (ρ : En) : morV ma mb ρ = k_morV_0 mb ρ (ma ρ) := by
  unfold morV
  cases h0 : ma ρ with
  | none => simp only [Option.bind, Option.map, h0, k_morV_0, k_morV_1]
  | some p0 =>
    obtain ⟨x, ρ1⟩ := p0
    cases h1 : boolR x with
    | none => simp only [Option.bind, Option.map, h0, h1, k_morV_0, k_morV_1]
    | some c =>
      simp only [Option.bind, Option.map, h0, h1, k_morV_0, k_morV_1]
      cases c <;> simp [iteS]
def k_mcall_4 (rs : List R) (ρ1 : En) (r : R) (outs : List A) : Option (Unit) → Option (R × En)
  | some u2 => some (r, back ρ1 rs outs)
  | none => none
@[simp] theorem kk_mcall_4 (rs : List R) (ρ1 : En) (r : R) (outs : List A) (u2 : Unit) : k_mcall_4 rs ρ1 r outs (some u2) = (some (r, back ρ1 rs outs)) := rfl
def k_mcall_3 (rs : List R) (ρ1 : En) (as : List A) : Option (R × List A) → Option (R × En)
  | some (r, outs) => k_mcall_4 rs ρ1 r outs (guardO (decide (as.map isBx = outs.map isBx)))
  | none => none
@[simp] theorem kk_mcall_3 (rs : List R) (ρ1 : En) (as : List A) (r : R) (outs : List A) : k_mcall_3 rs ρ1 as (some (r, outs)) = (k_mcall_4 rs ρ1 r outs (guardO (decide (as.map isBx = outs.map isBx)))) := rfl
def k_mcall_2 (mf : MF) (rs : List R) (ρ1 : En) (as : List A) : Option (Unit) → Option (R × En)
  | some u => k_mcall_3 rs ρ1 as (mf as)
  | none => none
@[simp] theorem kk_mcall_2 (mf : MF) (rs : List R) (ρ1 : En) (as : List A) (u : Unit) : k_mcall_2 mf rs ρ1 as (some u) = (k_mcall_3 rs ρ1 as (mf as)) := rfl
def k_mcall_1 (mf : MF) (rs : List R) (ρ1 : En) : Option (List A) → Option (R × En)
  | some as => k_mcall_2 mf rs ρ1 as (guardO (decide (bxIx ρ1 rs).Nodup))
  | none => none
@[simp] theorem kk_mcall_1 (mf : MF) (rs : List R) (ρ1 : En) (as : List A) : k_mcall_1 mf rs ρ1 (some as) = (k_mcall_2 mf rs ρ1 as (guardO (decide (bxIx ρ1 rs).Nodup))) := rfl
def k_mcall_0 (mf : MF) : Option (List R × En) → Option (R × En)
  | some (rs, ρ1) => k_mcall_1 mf rs ρ1 (argAs ρ1 rs)
  | none => none
@[simp] theorem kk_mcall_0 (mf : MF) (rs : List R) (ρ1 : En) : k_mcall_0 mf (some (rs, ρ1)) = (k_mcall_1 mf rs ρ1 (argAs ρ1 rs)) := rfl
@[simp] theorem ev_mcall (mf : MF) (ms : MA) (ρ : En) : mcall mf ms ρ = k_mcall_0 mf (ms ρ) := by
  unfold mcall
  cases h0 : ms ρ with
  | none => simp only [Option.bind, Option.map, h0, k_mcall_0, k_mcall_1, k_mcall_2, k_mcall_3, k_mcall_4]
  | some p0 =>
    obtain ⟨rs, ρ1⟩ := p0
    cases h1 : argAs ρ1 rs with
    | none => simp only [Option.bind, Option.map, h0, h1, k_mcall_0, k_mcall_1, k_mcall_2, k_mcall_3, k_mcall_4]
    | some as =>
      cases h2 : guardO (decide (bxIx ρ1 rs).Nodup) with
      | none => simp only [Option.bind, Option.map, h0, h1, h2, k_mcall_0, k_mcall_1, k_mcall_2, k_mcall_3, k_mcall_4]
      | some u =>
        cases h3 : mf as with
        | none => simp only [Option.bind, Option.map, h0, h1, h2, h3, k_mcall_0, k_mcall_1, k_mcall_2, k_mcall_3, k_mcall_4]
        | some p3 =>
          obtain ⟨r, outs⟩ := p3
          cases h4 : guardO (decide (as.map isBx = outs.map isBx)) with
          | none => simp only [Option.bind, Option.map, h0, h1, h2, h3, h4, k_mcall_0, k_mcall_1, k_mcall_2, k_mcall_3, k_mcall_4]
          | some u2 =>
            simp only [Option.bind, Option.map, h0, h1, h2, h3, h4, k_mcall_0, k_mcall_1, k_mcall_2, k_mcall_3, k_mcall_4]
def k_masg_1 (i : Nat) (x : R) (ρ1 : En) : Option (Unit) → Option (O × En)
  | some u => stoO (stoR ρ1 i x)
  | none => none
@[simp] theorem kk_masg_1 (i : Nat) (x : R) (ρ1 : En) (u : Unit) : k_masg_1 i x ρ1 (some u) = (stoO (stoR ρ1 i x)) := rfl
def k_masg_0 (i : Nat) : Option (R × En) → Option (O × En)
  | some (x, ρ1) => k_masg_1 i x ρ1 (guardO (notBor ρ1 i))
  | none => none
@[simp] theorem kk_masg_0 (i : Nat) (x : R) (ρ1 : En) : k_masg_0 i (some (x, ρ1)) = (k_masg_1 i x ρ1 (guardO (notBor ρ1 i))) := rfl
@[simp] theorem ev_masg (i : Nat) (m : ME) (ρ : En) : masg i m ρ = k_masg_0 i (m ρ) := by
  unfold masg
  cases h0 : m ρ with
  | none => simp only [Option.bind, Option.map, h0, k_masg_0, k_masg_1]
  | some p0 =>
    obtain ⟨x, ρ1⟩ := p0
    cases h1 : guardO (notBor ρ1 i) with
    | none => simp only [Option.bind, Option.map, h0, h1, k_masg_0, k_masg_1]
    | some u =>
      simp only [Option.bind, Option.map, h0, h1, k_masg_0, k_masg_1]
      cases stoR ρ1 i x <;> simp [stoO]
def k_mdrop_0  : Option (R × En) → Option (O × En)
  | some (x, ρ1) => some (.nx, ρ1)
  | none => none
@[simp] theorem kk_mdrop_0 (x : R) (ρ1 : En) : k_mdrop_0  (some (x, ρ1)) = (some (.nx, ρ1)) := rfl
@[simp] theorem ev_mdrop (m : ME) (ρ : En) : mdrop m ρ = k_mdrop_0  (m ρ) := by
  unfold mdrop
  cases h0 : m ρ with
  | none => simp only [Option.bind, Option.map, h0, k_mdrop_0]
  | some p0 =>
    obtain ⟨x, ρ1⟩ := p0
    simp only [Option.bind, Option.map, h0, k_mdrop_0]
def k_mret_0  : Option (R × En) → Option (O × En)
  | some (x, ρ1) => retR ρ1 x
  | none => none
@[simp] theorem kk_mret_0 (x : R) (ρ1 : En) : k_mret_0  (some (x, ρ1)) = (retR ρ1 x) := rfl
@[simp] theorem ev_mret (m : ME) (ρ : En) : mret m ρ = k_mret_0  (m ρ) := by
  unfold mret
  cases h0 : m ρ with
  | none => simp only [Option.bind, Option.map, h0, k_mret_0]
  | some p0 =>
    obtain ⟨x, ρ1⟩ := p0
    simp only [Option.bind, Option.map, h0, k_mret_0]
    cases x with
    | dat d => rfl
    | new b => rfl
    | ref i =>
      dsimp only [retR]
      cases ρ1[i]?.join with
      | none => rfl
      | some a => cases a with
        | dat d => rfl
        | box o b => cases o <;> rfl
def k_mseq_0 (b : MS) : Option (O × En) → Option (O × En)
  | some (o, ρ1) => seqO b o ρ1
  | none => none
@[simp] theorem kk_mseq_0 (b : MS) (o : O) (ρ1 : En) : k_mseq_0 b (some (o, ρ1)) = (seqO b o ρ1) := rfl
@[simp] theorem ev_mseq (a : MS) (b : MS) (ρ : En) : mseq a b ρ = k_mseq_0 b (a ρ) := by
  unfold mseq
  cases h0 : a ρ with
  | none => simp only [Option.bind, Option.map, h0, k_mseq_0]
  | some p0 =>
    obtain ⟨o, ρ1⟩ := p0
    simp only [Option.bind, Option.map, h0, k_mseq_0]
    cases o <;> simp [seqO]
def k_mifS_0 (a : MS) (b : MS) : Option (Bool × En) → Option (O × En)
  | some (c, ρ1) => iteS a b c ρ1
  | none => none
@[simp] theorem kk_mifS_0 (a : MS) (b : MS) (c : Bool) (ρ1 : En) : k_mifS_0 a b (some (c, ρ1)) = (iteS a b c ρ1) := rfl
@[simp] theorem ev_mifS (mt : MT) (a : MS) (b : MS) (ρ : En) : mifS mt a b ρ = k_mifS_0 a b (mt ρ) := by
  unfold mifS
  cases h0 : mt ρ with
  | none => simp only [Option.bind, Option.map, h0, k_mifS_0]
  | some p0 =>
    obtain ⟨c, ρ1⟩ := p0
    simp only [Option.bind, Option.map, h0, k_mifS_0]
    cases c <;> simp [iteS]
def k_miseq_0  : Option (R × En) → Option (It3 × En)
  | some (x, ρ1) => seqR ρ1 x
  | none => none
@[simp] theorem kk_miseq_0 (x : R) (ρ1 : En) : k_miseq_0  (some (x, ρ1)) = (seqR ρ1 x) := rfl
@[simp] theorem ev_miseq (m : ME) (ρ : En) : miseq m ρ = k_miseq_0  (m ρ) := by
  unfold miseq
  cases h0 : m ρ with
  | none => simp only [Option.bind, Option.map, h0, k_miseq_0]
  | some p0 =>
    obtain ⟨x, ρ1⟩ := p0
    simp only [Option.bind, Option.map, h0, k_miseq_0]
    have hm : ∀ (ρ : En) (o : Option (List D)), o.map (fun ds => (It3.items ds, ρ)) = seqItems ρ o := fun ρ o => by cases o <;> rfl
    cases x with
    | dat d => exact hm _ _
    | new b => exact hm _ _
    | ref i =>
      dsimp only [seqR]
      cases ρ1[i]?.join with
      | none => rfl
      | some a => cases a with
        | dat d => exact hm _ _
        | box o b => cases o <;> cases b <;> first | rfl | exact hm _ _
def k_miseqC_0  : Option (R × En) → Option (It3 × En)
  | some (x, ρ1) => seqRC ρ1 x
  | none => none
@[simp] theorem kk_miseqC_0 (x : R) (ρ1 : En) : k_miseqC_0  (some (x, ρ1)) = (seqRC ρ1 x) := rfl
@[simp] theorem ev_miseqC (m : ME) (ρ : En) : miseqC m ρ = k_miseqC_0  (m ρ) := by
  unfold miseqC
  cases h0 : m ρ with
  | none => simp only [Option.bind, Option.map, h0, k_miseqC_0]
  | some p0 =>
    obtain ⟨x, ρ1⟩ := p0
    simp only [Option.bind, Option.map, h0, k_miseqC_0]
    have hm : ∀ (ρ : En) (o : Option (List D)), o.map (fun ds => (It3.items ds, ρ)) = seqItems ρ o := fun ρ o => by cases o <;> rfl
    cases x with
    | dat d => exact hm _ _
    | new b => exact hm _ _
    | ref i =>
      dsimp only [seqRC]
      cases ρ1[i]?.join with
      | none => rfl
      | some a => cases a with
        | dat d => exact hm _ _
        | box o b => cases o <;> cases b <;> first | rfl | exact hm _ _
def k_mirng1_0  : Option (List R × En) → Option (It3 × En)
  | some (rs, ρ1) => rng1 ρ1 rs
  | none => none
@[simp] theorem kk_mirng1_0 (rs : List R) (ρ1 : En) : k_mirng1_0  (some (rs, ρ1)) = (rng1 ρ1 rs) := rfl
@[simp] theorem ev_mirng1 (ms : MA) (ρ : En) : mirng1 ms ρ = k_mirng1_0  (ms ρ) := by
  unfold mirng1
  cases h0 : ms ρ with
  | none => simp only [Option.bind, Option.map, h0, k_mirng1_0]
  | some p0 =>
    obtain ⟨rs, ρ1⟩ := p0
    simp only [Option.bind, Option.map, h0, k_mirng1_0]
    cases rs with
    | nil => rfl
    | cons r t => cases t <;> rfl
def k_mfor_0 (g : MG) (b : MS) : Option (It3 × En) → Option (O × En)
  | some (it, ρ1) => forT g b it ρ1
  | none => none
@[simp] theorem kk_mfor_0 (g : MG) (b : MS) (it : It3) (ρ1 : En) : k_mfor_0 g b (some (it, ρ1)) = (forT g b it ρ1) := rfl
@[simp] theorem ev_mfor (mi : MI) (g : MG) (b : MS) (ρ : En) : mfor mi g b ρ = k_mfor_0 g b (mi ρ) := by
  unfold mfor
  cases h0 : mi ρ with
  | none => simp only [Option.bind, Option.map, h0, k_mfor_0]
  | some p0 =>
    obtain ⟨it, ρ1⟩ := p0
    simp only [Option.bind, Option.map, h0, k_mfor_0]
    cases it <;> simp [forT]
def k_mlc_1 (g : MG) (t : MT) (m : ME) (vs : List Nat) (it : It3) (ρ1 : En) : Option (Unit) → Option (R × En)
  | some u => lcT g t m vs it ρ1
  | none => none
@[simp] theorem kk_mlc_1 (g : MG) (t : MT) (m : ME) (vs : List Nat) (it : It3) (ρ1 : En) (u : Unit) : k_mlc_1 g t m vs it ρ1 (some u) = (lcT g t m vs it ρ1) := rfl
def k_mlc_0 (g : MG) (t : MT) (m : ME) (vs : List Nat) : Option (It3 × En) → Option (R × En)
  | some (it, ρ1) => k_mlc_1 g t m vs it ρ1 (guardO (noBx ρ1 vs))
  | none => none
@[simp] theorem kk_mlc_0 (g : MG) (t : MT) (m : ME) (vs : List Nat) (it : It3) (ρ1 : En) : k_mlc_0 g t m vs (some (it, ρ1)) = (k_mlc_1 g t m vs it ρ1 (guardO (noBx ρ1 vs))) := rfl
@[simp] theorem ev_mlc (mi : MI) (g : MG) (t : MT) (m : ME) (vs : List Nat) (ρ : En) : mlc mi g t m vs ρ = k_mlc_0 g t m vs (mi ρ) := by
  unfold mlc
  cases h0 : mi ρ with
  | none => simp only [Option.bind, Option.map, h0, k_mlc_0, k_mlc_1]
  | some p0 =>
    obtain ⟨it, ρ1⟩ := p0
    cases h1 : guardO (noBx ρ1 vs) with
    | none => simp only [Option.bind, Option.map, h0, h1, k_mlc_0, k_mlc_1]
    | some u =>
      simp only [Option.bind, Option.map, h0, h1, k_mlc_0, k_mlc_1]
      cases it with
      | items ds => simp only [lcT]; cases mlcI g t m vs ds [] (wipeE ρ1 vs) <;> rfl
      | slot i ds => simp only [lcT]; cases guardO (decide (i ∉ vs)) with
        | none => rfl
        | some u => cases mlcS i g t m vs ds 0 [] (wipeE ρ1 vs) <;> rfl
def k_mmut_5 (i : Nat) (ρ2 : En) (o : Bool) : Option (D × Bx) → Option (R × En)
  | some (d, b2) => some (.dat d, ρ2.set i (some (.box o b2)))
  | none => none
@[simp] theorem kk_mmut_5 (i : Nat) (ρ2 : En) (o : Bool) (d : D) (b2 : Bx) : k_mmut_5 i ρ2 o (some (d, b2)) = (some (.dat d, ρ2.set i (some (.box o b2)))) := rfl
def k_mmut_4 (i : Nat) (gm : Bx → List D → Option (D × Bx)) (ds : List D) (ρ2 : En) : Option (Bool × Bx) → Option (R × En)
  | some (o, b1) => k_mmut_5 i ρ2 o (gm b1 ds)
  | none => none
@[simp] theorem kk_mmut_4 (i : Nat) (gm : Bx → List D → Option (D × Bx)) (ds : List D) (ρ2 : En) (o : Bool) (b1 : Bx) : k_mmut_4 i gm ds ρ2 (some (o, b1)) = (k_mmut_5 i ρ2 o (gm b1 ds)) := rfl
def k_mmut_3 (i : Nat) (gm : Bx → List D → Option (D × Bx)) : Option (List D × En) → Option (R × En)
  | some (ds, ρ2) => k_mmut_4 i gm ds ρ2 (bxAt ρ2 i)
  | none => none
@[simp] theorem kk_mmut_3 (i : Nat) (gm : Bx → List D → Option (D × Bx)) (ds : List D) (ρ2 : En) : k_mmut_3 i gm (some (ds, ρ2)) = (k_mmut_4 i gm ds ρ2 (bxAt ρ2 i)) := rfl
def k_mmut_2 (i : Nat) (gm : Bx → List D → Option (D × Bx)) : Option (List R × En) → Option (R × En)
  | some (rs, ρ1) => k_mmut_3 i gm (fzs ρ1 rs)
  | none => none
@[simp] theorem kk_mmut_2 (i : Nat) (gm : Bx → List D → Option (D × Bx)) (rs : List R) (ρ1 : En) : k_mmut_2 i gm (some (rs, ρ1)) = (k_mmut_3 i gm (fzs ρ1 rs)) := rfl
def k_mmut_1 (i : Nat) (gm : Bx → List D → Option (D × Bx)) (ms : MA) (ρ : En) : Option (Unit) → Option (R × En)
  | some u => k_mmut_2 i gm (ms ρ)
  | none => none
@[simp] theorem kk_mmut_1 (i : Nat) (gm : Bx → List D → Option (D × Bx)) (ms : MA) (ρ : En) (u : Unit) : k_mmut_1 i gm ms ρ (some u) = (k_mmut_2 i gm (ms ρ)) := rfl
def k_mmut_0 (T : String) (i : Nat) (gm : Bx → List D → Option (D × Bx)) (ms : MA) (ρ : En) : Option (Bool × Bx) → Option (R × En)
  | some (o0, b0) => k_mmut_1 i gm ms ρ (guardO (tyD T b0.dat))
  | none => none
@[simp] theorem kk_mmut_0 (T : String) (i : Nat) (gm : Bx → List D → Option (D × Bx)) (ms : MA) (ρ : En) (o0 : Bool) (b0 : Bx) : k_mmut_0 T i gm ms ρ (some (o0, b0)) = (k_mmut_1 i gm ms ρ (guardO (tyD T b0.dat))) := rfl
@[simp] theorem ev_mmut (T : String) (i : Nat) (gm : Bx → List D → Option (D × Bx)) (ms : MA) (ρ : En) : mmut T i gm ms ρ = k_mmut_0 T i gm ms ρ (bxAt ρ i) := by
  unfold mmut
  cases h0 : bxAt ρ i with
  | none => simp only [Option.bind, Option.map, h0, k_mmut_0, k_mmut_1, k_mmut_2, k_mmut_3, k_mmut_4, k_mmut_5]
  | some p0 =>
    obtain ⟨o0, b0⟩ := p0
    cases h1 : guardO (tyD T b0.dat) with
    | none => simp only [Option.bind, Option.map, h0, h1, k_mmut_0, k_mmut_1, k_mmut_2, k_mmut_3, k_mmut_4, k_mmut_5]
    | some u =>
      cases h2 : ms ρ with
      | none => simp only [Option.bind, Option.map, h0, h1, h2, k_mmut_0, k_mmut_1, k_mmut_2, k_mmut_3, k_mmut_4, k_mmut_5]
      | some p2 =>
        obtain ⟨rs, ρ1⟩ := p2
        cases h3 : fzs ρ1 rs with
        | none => simp only [Option.bind, Option.map, h0, h1, h2, h3, k_mmut_0, k_mmut_1, k_mmut_2, k_mmut_3, k_mmut_4, k_mmut_5]
        | some p3 =>
          obtain ⟨ds, ρ2⟩ := p3
          cases h4 : bxAt ρ2 i with
          | none => simp only [Option.bind, Option.map, h0, h1, h2, h3, h4, k_mmut_0, k_mmut_1, k_mmut_2, k_mmut_3, k_mmut_4, k_mmut_5]
          | some p4 =>
            obtain ⟨o, b1⟩ := p4
            cases h5 : gm b1 ds with
            | none => simp only [Option.bind, Option.map, h0, h1, h2, h3, h4, h5, k_mmut_0, k_mmut_1, k_mmut_2, k_mmut_3, k_mmut_4, k_mmut_5]
            | some p5 =>
              obtain ⟨d, b2⟩ := p5
              simp only [Option.bind, Option.map, h0, h1, h2, h3, h4, h5, k_mmut_0, k_mmut_1, k_mmut_2, k_mmut_3, k_mmut_4, k_mmut_5]
def k_mpar_2 (i : Nat) (j : Nat) (x : R) (y : R) (ρ2 : En) : Option (Unit) → Option (O × En)
  | some u => parR i j ρ2 x y
  | none => none
@[simp] theorem kk_mpar_2 (i : Nat) (j : Nat) (x : R) (y : R) (ρ2 : En) (u : Unit) : k_mpar_2 i j x y ρ2 (some u) = (parR i j ρ2 x y) := rfl
def k_mpar_1 (i : Nat) (j : Nat) (x : R) : Option (R × En) → Option (O × En)
  | some (y, ρ2) => k_mpar_2 i j x y ρ2 (guardO (notBor ρ2 i && notBor ρ2 j))
  | none => none
@[simp] theorem kk_mpar_1 (i : Nat) (j : Nat) (x : R) (y : R) (ρ2 : En) : k_mpar_1 i j x (some (y, ρ2)) = (k_mpar_2 i j x y ρ2 (guardO (notBor ρ2 i && notBor ρ2 j))) := rfl
def k_mpar_0 (i : Nat) (j : Nat) (mb : ME) : Option (R × En) → Option (O × En)
  | some (x, ρ1) => k_mpar_1 i j x (mb ρ1)
  | none => none
@[simp] theorem kk_mpar_0 (i : Nat) (j : Nat) (mb : ME) (x : R) (ρ1 : En) : k_mpar_0 i j mb (some (x, ρ1)) = (k_mpar_1 i j x (mb ρ1)) := rfl
@[simp] theorem ev_mpar (i : Nat) (j : Nat) (ma : ME) (mb : ME) (ρ : En) : mpar i j ma mb ρ = k_mpar_0 i j mb (ma ρ) := by
  unfold mpar
  cases h0 : ma ρ with
  | none => simp only [Option.bind, Option.map, h0, k_mpar_0, k_mpar_1, k_mpar_2]
  | some p0 =>
    obtain ⟨x, ρ1⟩ := p0
    cases h1 : mb ρ1 with
    | none => simp only [Option.bind, Option.map, h0, h1, k_mpar_0, k_mpar_1, k_mpar_2]
    | some p1 =>
      obtain ⟨y, ρ2⟩ := p1
      cases h2 : guardO (notBor ρ2 i && notBor ρ2 j) with
      | none => simp only [Option.bind, Option.map, h0, h1, h2, k_mpar_0, k_mpar_1, k_mpar_2]
      | some u =>
        simp only [Option.bind, Option.map, h0, h1, h2, k_mpar_0, k_mpar_1, k_mpar_2]
        have hm : ∀ (r r' : R), ((stoR ρ2 i r).bind fun ρ1 => (stoR ρ1 j r').map fun ρ2 => (O.nx, ρ2)) = stoO ((stoR ρ2 i r).bind fun ρ1 => stoR ρ1 j r') := fun r r' => by
          cases stoR ρ2 i r with
          | none => rfl
          | some ρ3 => show (stoR ρ3 j r').map _ = stoO (stoR ρ3 j r'); cases stoR ρ3 j r' <;> rfl
        cases x <;> cases y <;> first | rfl | exact hm _ _
def k_masgG_1 (g : MG) : Option (List D × En) → Option (O × En)
  | some (ds, ρ2) => asgG g ρ2 ds
  | none => none
@[simp] theorem kk_masgG_1 (g : MG) (ds : List D) (ρ2 : En) : k_masgG_1 g (some (ds, ρ2)) = (asgG g ρ2 ds) := rfl
def k_masgG_0 (g : MG) : Option (R × En) → Option (O × En)
  | some (x, ρ1) => k_masgG_1 g (fzs ρ1 [x.fz])
  | none => none
@[simp] theorem kk_masgG_0 (g : MG) (x : R) (ρ1 : En) : k_masgG_0 g (some (x, ρ1)) = (k_masgG_1 g (fzs ρ1 [x.fz])) := rfl
@[simp] theorem ev_masgG (g : MG) (m : ME) (ρ : En) : masgG g m ρ = k_masgG_0 g (m ρ) := by
  unfold masgG
  cases h0 : m ρ with
  | none => simp only [Option.bind, Option.map, h0, k_masgG_0, k_masgG_1]
  | some p0 =>
    obtain ⟨x, ρ1⟩ := p0
    cases h1 : fzs ρ1 [x.fz] with
    | none => simp only [Option.bind, Option.map, h0, h1, k_masgG_0, k_masgG_1]
    | some p1 =>
      obtain ⟨ds, ρ2⟩ := p1
      simp only [Option.bind, Option.map, h0, h1, k_masgG_0, k_masgG_1]
      cases ds with
      | nil => rfl
      | cons d t => cases t with
        | nil => show (g d ρ2).map _ = stoO (g d ρ2); cases g d ρ2 <;> rfl
        | cons _ _ => rfl
def k_mputD_9 (s : Nat) (d : D) (ρ3 : En) (k : L2.Key) (o : Bool) (kvs : List (L2.Key × D)) : Option (Unit) → Option (O × En)
  | some u => some (.nx, ρ3.set s (some (.box o (.dic (putKD kvs k d)))))
  | none => none
@[simp] theorem kk_mputD_9 (s : Nat) (d : D) (ρ3 : En) (k : L2.Key) (o : Bool) (kvs : List (L2.Key × D)) (u : Unit) : k_mputD_9 s d ρ3 k o kvs (some u) = (some (.nx, ρ3.set s (some (.box o (.dic (putKD kvs k d)))))) := rfl
def k_mputD_8 (s : Nat) (d : D) (ρ3 : En) (k : L2.Key) (o : Bool) : Option (List (L2.Key × D)) → Option (O × En)
  | some kvs => k_mputD_9 s d ρ3 k o kvs (guardO (decide (kvs.length < sizeLine)))
  | none => none
@[simp] theorem kk_mputD_8 (s : Nat) (d : D) (ρ3 : En) (k : L2.Key) (o : Bool) (kvs : List (L2.Key × D)) : k_mputD_8 s d ρ3 k o (some kvs) = (k_mputD_9 s d ρ3 k o kvs (guardO (decide (kvs.length < sizeLine)))) := rfl
def k_mputD_7 (s : Nat) (d : D) (ρ3 : En) (k : L2.Key) : Option (Bool × Bx) → Option (O × En)
  | some (o, b1) => k_mputD_8 s d ρ3 k o (dicOf b1)
  | none => none
@[simp] theorem kk_mputD_7 (s : Nat) (d : D) (ρ3 : En) (k : L2.Key) (o : Bool) (b1 : Bx) : k_mputD_7 s d ρ3 k (some (o, b1)) = (k_mputD_8 s d ρ3 k o (dicOf b1)) := rfl
def k_mputD_6 (s : Nat) (d : D) (ρ3 : En) : Option (L2.Key) → Option (O × En)
  | some k => k_mputD_7 s d ρ3 k (bxAt ρ3 s)
  | none => none
@[simp] theorem kk_mputD_6 (s : Nat) (d : D) (ρ3 : En) (k : L2.Key) : k_mputD_6 s d ρ3 (some k) = (k_mputD_7 s d ρ3 k (bxAt ρ3 s)) := rfl
def k_mputD_5 (s : Nat) (d : D) (ρ3 : En) : Option (D) → Option (O × En)
  | some dk => k_mputD_6 s d ρ3 (keyD dk)
  | none => none
@[simp] theorem kk_mputD_5 (s : Nat) (d : D) (ρ3 : En) (dk : D) : k_mputD_5 s d ρ3 (some dk) = (k_mputD_6 s d ρ3 (keyD dk)) := rfl
def k_mputD_4 (s : Nat) (d : D) : Option (R × En) → Option (O × En)
  | some (z, ρ3) => k_mputD_5 s d ρ3 (z.fz.vw ρ3)
  | none => none
@[simp] theorem kk_mputD_4 (s : Nat) (d : D) (z : R) (ρ3 : En) : k_mputD_4 s d (some (z, ρ3)) = (k_mputD_5 s d ρ3 (z.fz.vw ρ3)) := rfl
def k_mputD_3 (s : Nat) (mk : ME) (ρ2 : En) (d : D) : Option (Bool × Bx) → Option (O × En)
  | some (o0, b0) => k_mputD_4 s d (mk ρ2)
  | none => none
@[simp] theorem kk_mputD_3 (s : Nat) (mk : ME) (ρ2 : En) (d : D) (o0 : Bool) (b0 : Bx) : k_mputD_3 s mk ρ2 d (some (o0, b0)) = (k_mputD_4 s d (mk ρ2)) := rfl
def k_mputD_2 (s : Nat) (mk : ME) (ρ2 : En) : Option (D) → Option (O × En)
  | some d => k_mputD_3 s mk ρ2 d (bxAt ρ2 s)
  | none => none
@[simp] theorem kk_mputD_2 (s : Nat) (mk : ME) (ρ2 : En) (d : D) : k_mputD_2 s mk ρ2 (some d) = (k_mputD_3 s mk ρ2 d (bxAt ρ2 s)) := rfl
def k_mputD_1 (s : Nat) (mk : ME) : Option (List D × En) → Option (O × En)
  | some (ds, ρ2) => k_mputD_2 s mk ρ2 (oneOf ds)
  | none => none
@[simp] theorem kk_mputD_1 (s : Nat) (mk : ME) (ds : List D) (ρ2 : En) : k_mputD_1 s mk (some (ds, ρ2)) = (k_mputD_2 s mk ρ2 (oneOf ds)) := rfl
def k_mputD_0 (s : Nat) (mk : ME) : Option (R × En) → Option (O × En)
  | some (x, ρ1) => k_mputD_1 s mk (fzs ρ1 [x.fz])
  | none => none
@[simp] theorem kk_mputD_0 (s : Nat) (mk : ME) (x : R) (ρ1 : En) : k_mputD_0 s mk (some (x, ρ1)) = (k_mputD_1 s mk (fzs ρ1 [x.fz])) := rfl
@[simp] theorem ev_mputD (s : Nat) (mk : ME) (mv : ME) (ρ : En) : mputD s mk mv ρ = k_mputD_0 s mk (mv ρ) := by
  unfold mputD
  cases h0 : mv ρ with
  | none => simp only [Option.bind, Option.map, h0, k_mputD_0, k_mputD_1, k_mputD_2, k_mputD_3, k_mputD_4, k_mputD_5, k_mputD_6, k_mputD_7, k_mputD_8, k_mputD_9]
  | some p0 =>
    obtain ⟨x, ρ1⟩ := p0
    cases h1 : fzs ρ1 [x.fz] with
    | none => simp only [Option.bind, Option.map, h0, h1, k_mputD_0, k_mputD_1, k_mputD_2, k_mputD_3, k_mputD_4, k_mputD_5, k_mputD_6, k_mputD_7, k_mputD_8, k_mputD_9]
    | some p1 =>
      obtain ⟨ds, ρ2⟩ := p1
      cases h2 : oneOf ds with
      | none => simp only [Option.bind, Option.map, h0, h1, h2, k_mputD_0, k_mputD_1, k_mputD_2, k_mputD_3, k_mputD_4, k_mputD_5, k_mputD_6, k_mputD_7, k_mputD_8, k_mputD_9]
      | some d =>
        cases h3 : bxAt ρ2 s with
        | none => simp only [Option.bind, Option.map, h0, h1, h2, h3, k_mputD_0, k_mputD_1, k_mputD_2, k_mputD_3, k_mputD_4, k_mputD_5, k_mputD_6, k_mputD_7, k_mputD_8, k_mputD_9]
        | some p3 =>
          obtain ⟨o0, b0⟩ := p3
          cases h4 : mk ρ2 with
          | none => simp only [Option.bind, Option.map, h0, h1, h2, h3, h4, k_mputD_0, k_mputD_1, k_mputD_2, k_mputD_3, k_mputD_4, k_mputD_5, k_mputD_6, k_mputD_7, k_mputD_8, k_mputD_9]
          | some p4 =>
            obtain ⟨z, ρ3⟩ := p4
            cases h5 : z.fz.vw ρ3 with
            | none => simp only [Option.bind, Option.map, h0, h1, h2, h3, h4, h5, k_mputD_0, k_mputD_1, k_mputD_2, k_mputD_3, k_mputD_4, k_mputD_5, k_mputD_6, k_mputD_7, k_mputD_8, k_mputD_9]
            | some dk =>
              cases h6 : keyD dk with
              | none => simp only [Option.bind, Option.map, h0, h1, h2, h3, h4, h5, h6, k_mputD_0, k_mputD_1, k_mputD_2, k_mputD_3, k_mputD_4, k_mputD_5, k_mputD_6, k_mputD_7, k_mputD_8, k_mputD_9]
              | some k =>
                cases h7 : bxAt ρ3 s with
                | none => simp only [Option.bind, Option.map, h0, h1, h2, h3, h4, h5, h6, h7, k_mputD_0, k_mputD_1, k_mputD_2, k_mputD_3, k_mputD_4, k_mputD_5, k_mputD_6, k_mputD_7, k_mputD_8, k_mputD_9]
                | some p7 =>
                  obtain ⟨o, b1⟩ := p7
                  cases h8 : dicOf b1 with
                  | none => simp only [Option.bind, Option.map, h0, h1, h2, h3, h4, h5, h6, h7, h8, k_mputD_0, k_mputD_1, k_mputD_2, k_mputD_3, k_mputD_4, k_mputD_5, k_mputD_6, k_mputD_7, k_mputD_8, k_mputD_9]
                  | some kvs =>
                    cases h9 : guardO (decide (kvs.length < sizeLine)) with
                    | none => simp only [Option.bind, Option.map, h0, h1, h2, h3, h4, h5, h6, h7, h8, h9, k_mputD_0, k_mputD_1, k_mputD_2, k_mputD_3, k_mputD_4, k_mputD_5, k_mputD_6, k_mputD_7, k_mputD_8, k_mputD_9]
                    | some u =>
                      simp only [Option.bind, Option.map, h0, h1, h2, h3, h4, h5, h6, h7, h8, h9, k_mputD_0, k_mputD_1, k_mputD_2, k_mputD_3, k_mputD_4, k_mputD_5, k_mputD_6, k_mputD_7, k_mputD_8, k_mputD_9]
def k_mputL_8 (s : Nat) (d : D) (ρ3 : En) (o : Bool) (xs : List D) : Option (Nat) → Option (O × En)
  | some j => some (.nx, ρ3.set s (some (.box o (.lst (xs.set j d)))))
  | none => none
@[simp] theorem kk_mputL_8 (s : Nat) (d : D) (ρ3 : En) (o : Bool) (xs : List D) (j : Nat) : k_mputL_8 s d ρ3 o xs (some j) = (some (.nx, ρ3.set s (some (.box o (.lst (xs.set j d)))))) := rfl
def k_mputL_7 (s : Nat) (d : D) (ρ3 : En) (ki : Int) (o : Bool) : Option (List D) → Option (O × En)
  | some xs => k_mputL_8 s d ρ3 o xs (L2.ixN xs.length ki)
  | none => none
@[simp] theorem kk_mputL_7 (s : Nat) (d : D) (ρ3 : En) (ki : Int) (o : Bool) (xs : List D) : k_mputL_7 s d ρ3 ki o (some xs) = (k_mputL_8 s d ρ3 o xs (L2.ixN xs.length ki)) := rfl
def k_mputL_6 (s : Nat) (d : D) (ρ3 : En) (ki : Int) : Option (Bool × Bx) → Option (O × En)
  | some (o, b1) => k_mputL_7 s d ρ3 ki o (lstOf b1)
  | none => none
@[simp] theorem kk_mputL_6 (s : Nat) (d : D) (ρ3 : En) (ki : Int) (o : Bool) (b1 : Bx) : k_mputL_6 s d ρ3 ki (some (o, b1)) = (k_mputL_7 s d ρ3 ki o (lstOf b1)) := rfl
def k_mputL_5 (s : Nat) (d : D) (ρ3 : En) : Option (Int) → Option (O × En)
  | some ki => k_mputL_6 s d ρ3 ki (bxAt ρ3 s)
  | none => none
@[simp] theorem kk_mputL_5 (s : Nat) (d : D) (ρ3 : En) (ki : Int) : k_mputL_5 s d ρ3 (some ki) = (k_mputL_6 s d ρ3 ki (bxAt ρ3 s)) := rfl
def k_mputL_4 (s : Nat) (d : D) : Option (R × En) → Option (O × En)
  | some (z, ρ3) => k_mputL_5 s d ρ3 (intR ρ3 z.fz)
  | none => none
@[simp] theorem kk_mputL_4 (s : Nat) (d : D) (z : R) (ρ3 : En) : k_mputL_4 s d (some (z, ρ3)) = (k_mputL_5 s d ρ3 (intR ρ3 z.fz)) := rfl
def k_mputL_3 (s : Nat) (mk : ME) (ρ2 : En) (d : D) : Option (Bool × Bx) → Option (O × En)
  | some (o0, b0) => k_mputL_4 s d (mk ρ2)
  | none => none
@[simp] theorem kk_mputL_3 (s : Nat) (mk : ME) (ρ2 : En) (d : D) (o0 : Bool) (b0 : Bx) : k_mputL_3 s mk ρ2 d (some (o0, b0)) = (k_mputL_4 s d (mk ρ2)) := rfl
def k_mputL_2 (s : Nat) (mk : ME) (ρ2 : En) : Option (D) → Option (O × En)
  | some d => k_mputL_3 s mk ρ2 d (bxAt ρ2 s)
  | none => none
@[simp] theorem kk_mputL_2 (s : Nat) (mk : ME) (ρ2 : En) (d : D) : k_mputL_2 s mk ρ2 (some d) = (k_mputL_3 s mk ρ2 d (bxAt ρ2 s)) := rfl
def k_mputL_1 (s : Nat) (mk : ME) : Option (List D × En) → Option (O × En)
  | some (ds, ρ2) => k_mputL_2 s mk ρ2 (oneOf ds)
  | none => none
@[simp] theorem kk_mputL_1 (s : Nat) (mk : ME) (ds : List D) (ρ2 : En) : k_mputL_1 s mk (some (ds, ρ2)) = (k_mputL_2 s mk ρ2 (oneOf ds)) := rfl
def k_mputL_0 (s : Nat) (mk : ME) : Option (R × En) → Option (O × En)
  | some (x, ρ1) => k_mputL_1 s mk (fzs ρ1 [x.fz])
  | none => none
@[simp] theorem kk_mputL_0 (s : Nat) (mk : ME) (x : R) (ρ1 : En) : k_mputL_0 s mk (some (x, ρ1)) = (k_mputL_1 s mk (fzs ρ1 [x.fz])) := rfl
@[simp] theorem ev_mputL (s : Nat) (mk : ME) (mv : ME) (ρ : En) : mputL s mk mv ρ = k_mputL_0 s mk (mv ρ) := by
  unfold mputL
  cases h0 : mv ρ with
  | none => simp only [Option.bind, Option.map, h0, k_mputL_0, k_mputL_1, k_mputL_2, k_mputL_3, k_mputL_4, k_mputL_5, k_mputL_6, k_mputL_7, k_mputL_8]
  | some p0 =>
    obtain ⟨x, ρ1⟩ := p0
    cases h1 : fzs ρ1 [x.fz] with
    | none => simp only [Option.bind, Option.map, h0, h1, k_mputL_0, k_mputL_1, k_mputL_2, k_mputL_3, k_mputL_4, k_mputL_5, k_mputL_6, k_mputL_7, k_mputL_8]
    | some p1 =>
      obtain ⟨ds, ρ2⟩ := p1
      cases h2 : oneOf ds with
      | none => simp only [Option.bind, Option.map, h0, h1, h2, k_mputL_0, k_mputL_1, k_mputL_2, k_mputL_3, k_mputL_4, k_mputL_5, k_mputL_6, k_mputL_7, k_mputL_8]
      | some d =>
        cases h3 : bxAt ρ2 s with
        | none => simp only [Option.bind, Option.map, h0, h1, h2, h3, k_mputL_0, k_mputL_1, k_mputL_2, k_mputL_3, k_mputL_4, k_mputL_5, k_mputL_6, k_mputL_7, k_mputL_8]
        | some p3 =>
          obtain ⟨o0, b0⟩ := p3
          cases h4 : mk ρ2 with
          | none => simp only [Option.bind, Option.map, h0, h1, h2, h3, h4, k_mputL_0, k_mputL_1, k_mputL_2, k_mputL_3, k_mputL_4, k_mputL_5, k_mputL_6, k_mputL_7, k_mputL_8]
          | some p4 =>
            obtain ⟨z, ρ3⟩ := p4
            cases h5 : intR ρ3 z.fz with
            | none => simp only [Option.bind, Option.map, h0, h1, h2, h3, h4, h5, k_mputL_0, k_mputL_1, k_mputL_2, k_mputL_3, k_mputL_4, k_mputL_5, k_mputL_6, k_mputL_7, k_mputL_8]
            | some ki =>
              cases h6 : bxAt ρ3 s with
              | none => simp only [Option.bind, Option.map, h0, h1, h2, h3, h4, h5, h6, k_mputL_0, k_mputL_1, k_mputL_2, k_mputL_3, k_mputL_4, k_mputL_5, k_mputL_6, k_mputL_7, k_mputL_8]
              | some p6 =>
                obtain ⟨o, b1⟩ := p6
                cases h7 : lstOf b1 with
                | none => simp only [Option.bind, Option.map, h0, h1, h2, h3, h4, h5, h6, h7, k_mputL_0, k_mputL_1, k_mputL_2, k_mputL_3, k_mputL_4, k_mputL_5, k_mputL_6, k_mputL_7, k_mputL_8]
                | some xs =>
                  cases h8 : L2.ixN xs.length ki with
                  | none => simp only [Option.bind, Option.map, h0, h1, h2, h3, h4, h5, h6, h7, h8, k_mputL_0, k_mputL_1, k_mputL_2, k_mputL_3, k_mputL_4, k_mputL_5, k_mputL_6, k_mputL_7, k_mputL_8]
                  | some j =>
                    simp only [Option.bind, Option.map, h0, h1, h2, h3, h4, h5, h6, h7, h8, k_mputL_0, k_mputL_1, k_mputL_2, k_mputL_3, k_mputL_4, k_mputL_5, k_mputL_6, k_mputL_7, k_mputL_8]
def k_mput_0 (s : Nat) (mk : ME) (mv : ME) (ρ : En) : Option (Bool × Bx) → Option (O × En)
  | some (o, b) => iteS (mputD s mk mv) (mputL s mk mv) (isDic b) ρ
  | none => none
@[simp] theorem kk_mput_0 (s : Nat) (mk : ME) (mv : ME) (ρ : En) (o : Bool) (b : Bx) : k_mput_0 s mk mv ρ (some (o, b)) = (iteS (mputD s mk mv) (mputL s mk mv) (isDic b) ρ) := rfl
@[simp] theorem ev_mput (s : Nat) (mk : ME) (mv : ME) (ρ : En) : mput s mk mv ρ = k_mput_0 s mk mv ρ (bxAt ρ s) := by
  unfold mput
  cases h0 : bxAt ρ s with
  | none => simp only [Option.bind, Option.map, h0, k_mput_0]
  | some p0 =>
    obtain ⟨o, b⟩ := p0
    simp only [Option.bind, Option.map, h0, k_mput_0]
    cases isDic b <;> simp [iteS]
def k_maug_5 (i : Nat) (ρ1 : En) : Option (R) → Option (O × En)
  | some r => stoO (stoR ρ1 i r)
  | none => none
@[simp] theorem kk_maug_5 (i : Nat) (ρ1 : En) (r : R) : k_maug_5 i ρ1 (some r) = (stoO (stoR ρ1 i r)) := rfl
def k_maug_4 (i : Nat) (g : D → D → Option R) (d : D) (ρ1 : En) : Option (D) → Option (O × En)
  | some e => k_maug_5 i ρ1 (g d e)
  | none => none
@[simp] theorem kk_maug_4 (i : Nat) (g : D → D → Option R) (d : D) (ρ1 : En) (e : D) : k_maug_4 i g d ρ1 (some e) = (k_maug_5 i ρ1 (g d e)) := rfl
def k_maug_3 (i : Nat) (g : D → D → Option R) (d : D) (y : R) (ρ1 : En) : Option (Unit) → Option (O × En)
  | some u => k_maug_4 i g d ρ1 (y.fz.vw ρ1)
  | none => none
@[simp] theorem kk_maug_3 (i : Nat) (g : D → D → Option R) (d : D) (y : R) (ρ1 : En) (u : Unit) : k_maug_3 i g d y ρ1 (some u) = (k_maug_4 i g d ρ1 (y.fz.vw ρ1)) := rfl
def k_maug_2 (i : Nat) (g : D → D → Option R) (d : D) : Option (R × En) → Option (O × En)
  | some (y, ρ1) => k_maug_3 i g d y ρ1 (guardO (notBor ρ1 i))
  | none => none
@[simp] theorem kk_maug_2 (i : Nat) (g : D → D → Option R) (d : D) (y : R) (ρ1 : En) : k_maug_2 i g d (some (y, ρ1)) = (k_maug_3 i g d y ρ1 (guardO (notBor ρ1 i))) := rfl
def k_maug_1 (i : Nat) (g : D → D → Option R) (m : ME) (ρ : En) : Option (D) → Option (O × En)
  | some d => k_maug_2 i g d (m ρ)
  | none => none
@[simp] theorem kk_maug_1 (i : Nat) (g : D → D → Option R) (m : ME) (ρ : En) (d : D) : k_maug_1 i g m ρ (some d) = (k_maug_2 i g d (m ρ)) := rfl
def k_maug_0 (i : Nat) (g : D → D → Option R) (m : ME) (ρ : En) : Option (A) → Option (O × En)
  | some a => k_maug_1 i g m ρ (datOf a)
  | none => none
@[simp] theorem kk_maug_0 (i : Nat) (g : D → D → Option R) (m : ME) (ρ : En) (a : A) : k_maug_0 i g m ρ (some a) = (k_maug_1 i g m ρ (datOf a)) := rfl
@[simp] theorem ev_maug (i : Nat) (g : D → D → Option R) (m : ME) (ρ : En) : maug i g m ρ = k_maug_0 i g m ρ (ρ[i]?.join) := by
  unfold maug
  cases h0 : ρ[i]?.join with
  | none => simp only [Option.bind, Option.map, h0, k_maug_0, k_maug_1, k_maug_2, k_maug_3, k_maug_4, k_maug_5]
  | some a =>
    cases h1 : datOf a with
    | none => simp only [Option.bind, Option.map, h0, h1, k_maug_0, k_maug_1, k_maug_2, k_maug_3, k_maug_4, k_maug_5]
    | some d =>
      cases h2 : m ρ with
      | none => simp only [Option.bind, Option.map, h0, h1, h2, k_maug_0, k_maug_1, k_maug_2, k_maug_3, k_maug_4, k_maug_5]
      | some p2 =>
        obtain ⟨y, ρ1⟩ := p2
        cases h3 : guardO (notBor ρ1 i) with
        | none => simp only [Option.bind, Option.map, h0, h1, h2, h3, k_maug_0, k_maug_1, k_maug_2, k_maug_3, k_maug_4, k_maug_5]
        | some u =>
          cases h4 : y.fz.vw ρ1 with
          | none => simp only [Option.bind, Option.map, h0, h1, h2, h3, h4, k_maug_0, k_maug_1, k_maug_2, k_maug_3, k_maug_4, k_maug_5]
          | some e =>
            cases h5 : g d e with
            | none => simp only [Option.bind, Option.map, h0, h1, h2, h3, h4, h5, k_maug_0, k_maug_1, k_maug_2, k_maug_3, k_maug_4, k_maug_5]
            | some r =>
              simp only [Option.bind, Option.map, h0, h1, h2, h3, h4, h5, k_maug_0, k_maug_1, k_maug_2, k_maug_3, k_maug_4, k_maug_5]
              cases stoR ρ1 i r <;> simp [stoO]
def k_maugL_12 (s : Nat) (ρ2 : En) (r : R) (o2 : Bool) (xs2 : List D) : Option (Nat) → Option (O × En)
  | some j => augR s ρ2 o2 xs2 j r
  | none => none
@[simp] theorem kk_maugL_12 (s : Nat) (ρ2 : En) (r : R) (o2 : Bool) (xs2 : List D) (j : Nat) : k_maugL_12 s ρ2 r o2 xs2 (some j) = (augR s ρ2 o2 xs2 j r) := rfl
def k_maugL_11 (s : Nat) (ki : Int) (ρ2 : En) (r : R) (o2 : Bool) : Option (List D) → Option (O × En)
  | some xs2 => k_maugL_12 s ρ2 r o2 xs2 (L2.ixN xs2.length ki)
  | none => none
@[simp] theorem kk_maugL_11 (s : Nat) (ki : Int) (ρ2 : En) (r : R) (o2 : Bool) (xs2 : List D) : k_maugL_11 s ki ρ2 r o2 (some xs2) = (k_maugL_12 s ρ2 r o2 xs2 (L2.ixN xs2.length ki)) := rfl
def k_maugL_10 (s : Nat) (ki : Int) (ρ2 : En) (r : R) : Option (Bool × Bx) → Option (O × En)
  | some (o2, b2) => k_maugL_11 s ki ρ2 r o2 (lstOf b2)
  | none => none
@[simp] theorem kk_maugL_10 (s : Nat) (ki : Int) (ρ2 : En) (r : R) (o2 : Bool) (b2 : Bx) : k_maugL_10 s ki ρ2 r (some (o2, b2)) = (k_maugL_11 s ki ρ2 r o2 (lstOf b2)) := rfl
def k_maugL_9 (s : Nat) (ki : Int) (ρ2 : En) : Option (R) → Option (O × En)
  | some r => k_maugL_10 s ki ρ2 r (bxAt ρ2 s)
  | none => none
@[simp] theorem kk_maugL_9 (s : Nat) (ki : Int) (ρ2 : En) (r : R) : k_maugL_9 s ki ρ2 (some r) = (k_maugL_10 s ki ρ2 r (bxAt ρ2 s)) := rfl
def k_maugL_8 (s : Nat) (g : D → D → Option R) (ki : Int) (d : D) (ρ2 : En) : Option (D) → Option (O × En)
  | some e => k_maugL_9 s ki ρ2 (g d e)
  | none => none
@[simp] theorem kk_maugL_8 (s : Nat) (g : D → D → Option R) (ki : Int) (d : D) (ρ2 : En) (e : D) : k_maugL_8 s g ki d ρ2 (some e) = (k_maugL_9 s ki ρ2 (g d e)) := rfl
def k_maugL_7 (s : Nat) (g : D → D → Option R) (ki : Int) (d : D) : Option (R × En) → Option (O × En)
  | some (x, ρ2) => k_maugL_8 s g ki d ρ2 (x.fz.vw ρ2)
  | none => none
@[simp] theorem kk_maugL_7 (s : Nat) (g : D → D → Option R) (ki : Int) (d : D) (x : R) (ρ2 : En) : k_maugL_7 s g ki d (some (x, ρ2)) = (k_maugL_8 s g ki d ρ2 (x.fz.vw ρ2)) := rfl
def k_maugL_6 (s : Nat) (g : D → D → Option R) (mv : ME) (ρ1 : En) (ki : Int) : Option (D) → Option (O × En)
  | some d => k_maugL_7 s g ki d (mv ρ1)
  | none => none
@[simp] theorem kk_maugL_6 (s : Nat) (g : D → D → Option R) (mv : ME) (ρ1 : En) (ki : Int) (d : D) : k_maugL_6 s g mv ρ1 ki (some d) = (k_maugL_7 s g ki d (mv ρ1)) := rfl
def k_maugL_5 (s : Nat) (g : D → D → Option R) (mv : ME) (ρ1 : En) (ki : Int) (xs : List D) : Option (Unit) → Option (O × En)
  | some u => k_maugL_6 s g mv ρ1 ki (xs[ki.toNat]?)
  | none => none
@[simp] theorem kk_maugL_5 (s : Nat) (g : D → D → Option R) (mv : ME) (ρ1 : En) (ki : Int) (xs : List D) (u : Unit) : k_maugL_5 s g mv ρ1 ki xs (some u) = (k_maugL_6 s g mv ρ1 ki (xs[ki.toNat]?)) := rfl
def k_maugL_4 (s : Nat) (g : D → D → Option R) (mv : ME) (ρ1 : En) (ki : Int) : Option (List D) → Option (O × En)
  | some xs => k_maugL_5 s g mv ρ1 ki xs (guardO (decide (0 ≤ ki ∧ ki < 2 ^ 63)))
  | none => none
@[simp] theorem kk_maugL_4 (s : Nat) (g : D → D → Option R) (mv : ME) (ρ1 : En) (ki : Int) (xs : List D) : k_maugL_4 s g mv ρ1 ki (some xs) = (k_maugL_5 s g mv ρ1 ki xs (guardO (decide (0 ≤ ki ∧ ki < 2 ^ 63)))) := rfl
def k_maugL_3 (s : Nat) (g : D → D → Option R) (mv : ME) (ρ1 : En) (ki : Int) : Option (Bool × Bx) → Option (O × En)
  | some (o, b1) => k_maugL_4 s g mv ρ1 ki (lstOf b1)
  | none => none
@[simp] theorem kk_maugL_3 (s : Nat) (g : D → D → Option R) (mv : ME) (ρ1 : En) (ki : Int) (o : Bool) (b1 : Bx) : k_maugL_3 s g mv ρ1 ki (some (o, b1)) = (k_maugL_4 s g mv ρ1 ki (lstOf b1)) := rfl
def k_maugL_2 (s : Nat) (g : D → D → Option R) (mv : ME) (ρ1 : En) : Option (Int) → Option (O × En)
  | some ki => k_maugL_3 s g mv ρ1 ki (bxAt ρ1 s)
  | none => none
@[simp] theorem kk_maugL_2 (s : Nat) (g : D → D → Option R) (mv : ME) (ρ1 : En) (ki : Int) : k_maugL_2 s g mv ρ1 (some ki) = (k_maugL_3 s g mv ρ1 ki (bxAt ρ1 s)) := rfl
def k_maugL_1 (s : Nat) (g : D → D → Option R) (mv : ME) : Option (R × En) → Option (O × En)
  | some (z, ρ1) => k_maugL_2 s g mv ρ1 (intR ρ1 z.fz)
  | none => none
@[simp] theorem kk_maugL_1 (s : Nat) (g : D → D → Option R) (mv : ME) (z : R) (ρ1 : En) : k_maugL_1 s g mv (some (z, ρ1)) = (k_maugL_2 s g mv ρ1 (intR ρ1 z.fz)) := rfl
def k_maugL_0 (s : Nat) (g : D → D → Option R) (mk : ME) (mv : ME) (ρ : En) : Option (Bool × Bx) → Option (O × En)
  | some (o0, b0) => k_maugL_1 s g mv (mk ρ)
  | none => none
@[simp] theorem kk_maugL_0 (s : Nat) (g : D → D → Option R) (mk : ME) (mv : ME) (ρ : En) (o0 : Bool) (b0 : Bx) : k_maugL_0 s g mk mv ρ (some (o0, b0)) = (k_maugL_1 s g mv (mk ρ)) := rfl
@[simp] theorem ev_maugL (s : Nat) (g : D → D → Option R) (mk : ME) (mv : ME) (ρ : En) : maugL s g mk mv ρ = k_maugL_0 s g mk mv ρ (bxAt ρ s) := by
  unfold maugL
  cases h0 : bxAt ρ s with
  | none => simp only [Option.bind, Option.map, h0, k_maugL_0, k_maugL_1, k_maugL_2, k_maugL_3, k_maugL_4, k_maugL_5, k_maugL_6, k_maugL_7, k_maugL_8, k_maugL_9, k_maugL_10, k_maugL_11, k_maugL_12]
  | some p0 =>
    obtain ⟨o0, b0⟩ := p0
    cases h1 : mk ρ with
    | none => simp only [Option.bind, Option.map, h0, h1, k_maugL_0, k_maugL_1, k_maugL_2, k_maugL_3, k_maugL_4, k_maugL_5, k_maugL_6, k_maugL_7, k_maugL_8, k_maugL_9, k_maugL_10, k_maugL_11, k_maugL_12]
    | some p1 =>
      obtain ⟨z, ρ1⟩ := p1
      cases h2 : intR ρ1 z.fz with
      | none => simp only [Option.bind, Option.map, h0, h1, h2, k_maugL_0, k_maugL_1, k_maugL_2, k_maugL_3, k_maugL_4, k_maugL_5, k_maugL_6, k_maugL_7, k_maugL_8, k_maugL_9, k_maugL_10, k_maugL_11, k_maugL_12]
      | some ki =>
        cases h3 : bxAt ρ1 s with
        | none => simp only [Option.bind, Option.map, h0, h1, h2, h3, k_maugL_0, k_maugL_1, k_maugL_2, k_maugL_3, k_maugL_4, k_maugL_5, k_maugL_6, k_maugL_7, k_maugL_8, k_maugL_9, k_maugL_10, k_maugL_11, k_maugL_12]
        | some p3 =>
          obtain ⟨o, b1⟩ := p3
          cases h4 : lstOf b1 with
          | none => simp only [Option.bind, Option.map, h0, h1, h2, h3, h4, k_maugL_0, k_maugL_1, k_maugL_2, k_maugL_3, k_maugL_4, k_maugL_5, k_maugL_6, k_maugL_7, k_maugL_8, k_maugL_9, k_maugL_10, k_maugL_11, k_maugL_12]
          | some xs =>
            cases h5 : guardO (decide (0 ≤ ki ∧ ki < 2 ^ 63)) with
            | none => simp only [Option.bind, Option.map, h0, h1, h2, h3, h4, h5, k_maugL_0, k_maugL_1, k_maugL_2, k_maugL_3, k_maugL_4, k_maugL_5, k_maugL_6, k_maugL_7, k_maugL_8, k_maugL_9, k_maugL_10, k_maugL_11, k_maugL_12]
            | some u =>
              cases h6 : xs[ki.toNat]? with
              | none => simp only [Option.bind, Option.map, h0, h1, h2, h3, h4, h5, h6, k_maugL_0, k_maugL_1, k_maugL_2, k_maugL_3, k_maugL_4, k_maugL_5, k_maugL_6, k_maugL_7, k_maugL_8, k_maugL_9, k_maugL_10, k_maugL_11, k_maugL_12]
              | some d =>
                cases h7 : mv ρ1 with
                | none => simp only [Option.bind, Option.map, h0, h1, h2, h3, h4, h5, h6, h7, k_maugL_0, k_maugL_1, k_maugL_2, k_maugL_3, k_maugL_4, k_maugL_5, k_maugL_6, k_maugL_7, k_maugL_8, k_maugL_9, k_maugL_10, k_maugL_11, k_maugL_12]
                | some p7 =>
                  obtain ⟨x, ρ2⟩ := p7
                  cases h8 : x.fz.vw ρ2 with
                  | none => simp only [Option.bind, Option.map, h0, h1, h2, h3, h4, h5, h6, h7, h8, k_maugL_0, k_maugL_1, k_maugL_2, k_maugL_3, k_maugL_4, k_maugL_5, k_maugL_6, k_maugL_7, k_maugL_8, k_maugL_9, k_maugL_10, k_maugL_11, k_maugL_12]
                  | some e =>
                    cases h9 : g d e with
                    | none => simp only [Option.bind, Option.map, h0, h1, h2, h3, h4, h5, h6, h7, h8, h9, k_maugL_0, k_maugL_1, k_maugL_2, k_maugL_3, k_maugL_4, k_maugL_5, k_maugL_6, k_maugL_7, k_maugL_8, k_maugL_9, k_maugL_10, k_maugL_11, k_maugL_12]
                    | some r =>
                      cases h10 : bxAt ρ2 s with
                      | none => simp only [Option.bind, Option.map, h0, h1, h2, h3, h4, h5, h6, h7, h8, h9, h10, k_maugL_0, k_maugL_1, k_maugL_2, k_maugL_3, k_maugL_4, k_maugL_5, k_maugL_6, k_maugL_7, k_maugL_8, k_maugL_9, k_maugL_10, k_maugL_11, k_maugL_12]
                      | some p10 =>
                        obtain ⟨o2, b2⟩ := p10
                        cases h11 : lstOf b2 with
                        | none => simp only [Option.bind, Option.map, h0, h1, h2, h3, h4, h5, h6, h7, h8, h9, h10, h11, k_maugL_0, k_maugL_1, k_maugL_2, k_maugL_3, k_maugL_4, k_maugL_5, k_maugL_6, k_maugL_7, k_maugL_8, k_maugL_9, k_maugL_10, k_maugL_11, k_maugL_12]
                        | some xs2 =>
                          cases h12 : L2.ixN xs2.length ki with
                          | none => simp only [Option.bind, Option.map, h0, h1, h2, h3, h4, h5, h6, h7, h8, h9, h10, h11, h12, k_maugL_0, k_maugL_1, k_maugL_2, k_maugL_3, k_maugL_4, k_maugL_5, k_maugL_6, k_maugL_7, k_maugL_8, k_maugL_9, k_maugL_10, k_maugL_11, k_maugL_12]
                          | some j =>
                            simp only [Option.bind, Option.map, h0, h1, h2, h3, h4, h5, h6, h7, h8, h9, h10, h11, h12, k_maugL_0, k_maugL_1, k_maugL_2, k_maugL_3, k_maugL_4, k_maugL_5, k_maugL_6, k_maugL_7, k_maugL_8, k_maugL_9, k_maugL_10, k_maugL_11, k_maugL_12]
                            cases r <;> simp [augR]
def k_mdef_0 (as : List A) : Option (O × En) → Option (R × List A)
  | some (o, ρ1) => defE as ρ1 o
  | none => none
@[simp] theorem kk_mdef_0 (as : List A) (o : O) (ρ1 : En) : k_mdef_0 as (some (o, ρ1)) = (defE as ρ1 o) := rfl
@[simp] theorem ev_mdef (n : Nat) (b : MS) (as : List A) : mdef n b as = k_mdef_0 as (b (startE n as)) := by
  unfold mdef
  cases h0 : b (startE n as) with
  | none => simp only [Option.bind, Option.map, h0, k_mdef_0]
  | some p0 =>
    obtain ⟨o, ρ1⟩ := p0
    simp only [Option.bind, Option.map, h0, k_mdef_0]
    cases o <;> simp [defE, Option.map]
@[simp] theorem q_seqO_1 (b : MS) (ρ : En) : seqO b .nx ρ = b ρ := by first | rfl | (cases a with | none => rfl | some a => cases a <;> rfl) | (simp [stoO, stoR, parR, Option.bind]) | (unfold eqD eqOk; simp [scalD, PyData.eqv]) | (unfold neD eqOk; simp [scalD, PyData.eqv])
@[simp] theorem q_seqO_2 (b : MS) (ρ : En) : seqO b .bk ρ = some (.bk, ρ) := by first | rfl | (cases a with | none => rfl | some a => cases a <;> rfl) | (simp [stoO, stoR, parR, Option.bind]) | (unfold eqD eqOk; simp [scalD, PyData.eqv]) | (unfold neD eqOk; simp [scalD, PyData.eqv])
@[simp] theorem q_seqO_3 (b : MS) (ρ : En) : seqO b .ct ρ = some (.ct, ρ) := by first | rfl | (cases a with | none => rfl | some a => cases a <;> rfl) | (simp [stoO, stoR, parR, Option.bind]) | (unfold eqD eqOk; simp [scalD, PyData.eqv]) | (unfold neD eqOk; simp [scalD, PyData.eqv])
@[simp] theorem q_seqO_4 (b : MS) (r : R) (ρ : En) : seqO b (.rt r) ρ = some (.rt r, ρ) := by first | rfl | (cases a with | none => rfl | some a => cases a <;> rfl) | (simp [stoO, stoR, parR, Option.bind]) | (unfold eqD eqOk; simp [scalD, PyData.eqv]) | (unfold neD eqOk; simp [scalD, PyData.eqv])
@[simp] theorem q_iteS_1 {α : Type} (a b : En → Option α) (ρ : En) : iteS a b true ρ = a ρ := by first | rfl | (cases a with | none => rfl | some a => cases a <;> rfl) | (simp [stoO, stoR, parR, Option.bind]) | (unfold eqD eqOk; simp [scalD, PyData.eqv]) | (unfold neD eqOk; simp [scalD, PyData.eqv])
@[simp] theorem q_iteS_2 {α : Type} (a b : En → Option α) (ρ : En) : iteS a b false ρ = b ρ := by first | rfl | (cases a with | none => rfl | some a => cases a <;> rfl) | (simp [stoO, stoR, parR, Option.bind]) | (unfold eqD eqOk; simp [scalD, PyData.eqv]) | (unfold neD eqOk; simp [scalD, PyData.eqv])
@[simp] theorem q_retA_1 (i : Nat) (ρ : En) (d : D) : retA i ρ (some (.dat d)) = some (.rt (.dat d), ρ) := by first | rfl | (cases a with | none => rfl | some a => cases a <;> rfl) | (simp [stoO, stoR, parR, Option.bind]) | (unfold eqD eqOk; simp [scalD, PyData.eqv]) | (unfold neD eqOk; simp [scalD, PyData.eqv])
@[simp] theorem q_retA_2 (i : Nat) (ρ : En) (b : Bx) : retA i ρ (some (.box true b)) = some (.rt (.new b), ρ) := by first | rfl | (cases a with | none => rfl | some a => cases a <;> rfl) | (simp [stoO, stoR, parR, Option.bind]) | (unfold eqD eqOk; simp [scalD, PyData.eqv]) | (unfold neD eqOk; simp [scalD, PyData.eqv])
@[simp] theorem q_retR_1 (ρ : En) (d : D) : retR ρ (.dat d) = some (.rt (.dat d), ρ) := by first | rfl | (cases a with | none => rfl | some a => cases a <;> rfl) | (simp [stoO, stoR, parR, Option.bind]) | (unfold eqD eqOk; simp [scalD, PyData.eqv]) | (unfold neD eqOk; simp [scalD, PyData.eqv])
@[simp] theorem q_retR_2 (ρ : En) (b : Bx) : retR ρ (.new b) = some (.rt (.new b), ρ) := by first | rfl | (cases a with | none => rfl | some a => cases a <;> rfl) | (simp [stoO, stoR, parR, Option.bind]) | (unfold eqD eqOk; simp [scalD, PyData.eqv]) | (unfold neD eqOk; simp [scalD, PyData.eqv])
@[simp] theorem q_retR_3 (ρ : En) (i : Nat) : retR ρ (.ref i) = retA i ρ ρ[i]?.join := by first | rfl | (cases a with | none => rfl | some a => cases a <;> rfl) | (simp [stoO, stoR, parR, Option.bind]) | (unfold eqD eqOk; simp [scalD, PyData.eqv]) | (unfold neD eqOk; simp [scalD, PyData.eqv])
@[simp] theorem q_varA_1 (i : Nat) (ρ : En) (d : D) : varA i ρ (some (.dat d)) = some (.dat d, ρ) := by first | rfl | (cases a with | none => rfl | some a => cases a <;> rfl) | (simp [stoO, stoR, parR, Option.bind]) | (unfold eqD eqOk; simp [scalD, PyData.eqv]) | (unfold neD eqOk; simp [scalD, PyData.eqv])
@[simp] theorem q_varA_2 (i : Nat) (ρ : En) (o : Bool) (b : Bx) : varA i ρ (some (.box o b)) = some (.ref i, ρ) := by first | rfl | (cases a with | none => rfl | some a => cases a <;> rfl) | (simp [stoO, stoR, parR, Option.bind]) | (unfold eqD eqOk; simp [scalD, PyData.eqv]) | (unfold neD eqOk; simp [scalD, PyData.eqv])
@[simp] theorem q_partD_1 (ρ : En) (i : Int) : partD ρ (.int i) = some (some i, ρ) := by first | rfl | (cases a with | none => rfl | some a => cases a <;> rfl) | (simp [stoO, stoR, parR, Option.bind]) | (unfold eqD eqOk; simp [scalD, PyData.eqv]) | (unfold neD eqOk; simp [scalD, PyData.eqv])
@[simp] theorem q_seqItems_1 (ρ : En) (ds : List D) : seqItems ρ (some ds) = some (.items ds, ρ) := by first | rfl | (cases a with | none => rfl | some a => cases a <;> rfl) | (simp [stoO, stoR, parR, Option.bind]) | (unfold eqD eqOk; simp [scalD, PyData.eqv]) | (unfold neD eqOk; simp [scalD, PyData.eqv])
@[simp] theorem q_seqA_1 (i : Nat) (ρ : En) (d : D) : seqA i ρ (some (.dat d)) = seqItems ρ (seqD d) := by first | rfl | (cases a with | none => rfl | some a => cases a <;> rfl) | (simp [stoO, stoR, parR, Option.bind]) | (unfold eqD eqOk; simp [scalD, PyData.eqv]) | (unfold neD eqOk; simp [scalD, PyData.eqv])
@[simp] theorem q_seqA_2 (i : Nat) (ρ : En) (b : Bx) : seqA i ρ (some (.box true b)) = seqItems (ρ.set i (some (.dat b.dat))) (seqD b.dat) := by first | rfl | (cases a with | none => rfl | some a => cases a <;> rfl) | (simp [stoO, stoR, parR, Option.bind]) | (unfold eqD eqOk; simp [scalD, PyData.eqv]) | (unfold neD eqOk; simp [scalD, PyData.eqv])
@[simp] theorem q_seqA_3 (i : Nat) (ρ : En) (ds : List D) : seqA i ρ (some (.box false (.lst ds))) = some (.slot i ds, ρ) := by first | rfl | (cases a with | none => rfl | some a => cases a <;> rfl) | (simp [stoO, stoR, parR, Option.bind]) | (unfold eqD eqOk; simp [scalD, PyData.eqv]) | (unfold neD eqOk; simp [scalD, PyData.eqv])
@[simp] theorem q_seqR_1 (ρ : En) (d : D) : seqR ρ (.dat d) = seqItems ρ (seqD d) := by first | rfl | (cases a with | none => rfl | some a => cases a <;> rfl) | (simp [stoO, stoR, parR, Option.bind]) | (unfold eqD eqOk; simp [scalD, PyData.eqv]) | (unfold neD eqOk; simp [scalD, PyData.eqv])
@[simp] theorem q_seqR_2 (ρ : En) (b : Bx) : seqR ρ (.new b) = seqItems ρ (seqD b.dat) := by first | rfl | (cases a with | none => rfl | some a => cases a <;> rfl) | (simp [stoO, stoR, parR, Option.bind]) | (unfold eqD eqOk; simp [scalD, PyData.eqv]) | (unfold neD eqOk; simp [scalD, PyData.eqv])
@[simp] theorem q_seqR_3 (ρ : En) (i : Nat) : seqR ρ (.ref i) = seqA i ρ ρ[i]?.join := by first | rfl | (cases a with | none => rfl | some a => cases a <;> rfl) | (simp [stoO, stoR, parR, Option.bind]) | (unfold eqD eqOk; simp [scalD, PyData.eqv]) | (unfold neD eqOk; simp [scalD, PyData.eqv])
@[simp] theorem q_seqAC_1 (i : Nat) (ρ : En) (d : D) : seqAC i ρ (some (.dat d)) = seqItems ρ (seqD d) := by first | rfl | (cases a with | none => rfl | some a => cases a <;> rfl) | (simp [stoO, stoR, parR, Option.bind]) | (unfold eqD eqOk; simp [scalD, PyData.eqv]) | (unfold neD eqOk; simp [scalD, PyData.eqv])
@[simp] theorem q_seqAC_2 (i : Nat) (ρ : En) (o : Bool) (ds : List D) : seqAC i ρ (some (.box o (.lst ds))) = some (.slot i ds, ρ) := by first | rfl | (cases a with | none => rfl | some a => cases a <;> rfl) | (simp [stoO, stoR, parR, Option.bind]) | (unfold eqD eqOk; simp [scalD, PyData.eqv]) | (unfold neD eqOk; simp [scalD, PyData.eqv])
@[simp] theorem q_seqRC_1 (ρ : En) (d : D) : seqRC ρ (.dat d) = seqItems ρ (seqD d) := by first | rfl | (cases a with | none => rfl | some a => cases a <;> rfl) | (simp [stoO, stoR, parR, Option.bind]) | (unfold eqD eqOk; simp [scalD, PyData.eqv]) | (unfold neD eqOk; simp [scalD, PyData.eqv])
@[simp] theorem q_seqRC_2 (ρ : En) (b : Bx) : seqRC ρ (.new b) = seqItems ρ (seqD b.dat) := by first | rfl | (cases a with | none => rfl | some a => cases a <;> rfl) | (simp [stoO, stoR, parR, Option.bind]) | (unfold eqD eqOk; simp [scalD, PyData.eqv]) | (unfold neD eqOk; simp [scalD, PyData.eqv])
@[simp] theorem q_seqRC_3 (ρ : En) (i : Nat) : seqRC ρ (.ref i) = seqAC i ρ ρ[i]?.join := by first | rfl | (cases a with | none => rfl | some a => cases a <;> rfl) | (simp [stoO, stoR, parR, Option.bind]) | (unfold eqD eqOk; simp [scalD, PyData.eqv]) | (unfold neD eqOk; simp [scalD, PyData.eqv])
@[simp] theorem q_seqD_1 (ds : List D) : seqD (.list ds) = some ds := by first | rfl | (cases a with | none => rfl | some a => cases a <;> rfl) | (simp [stoO, stoR, parR, Option.bind]) | (unfold eqD eqOk; simp [scalD, PyData.eqv]) | (unfold neD eqOk; simp [scalD, PyData.eqv])
@[simp] theorem q_seqD_2 (ds : List D) : seqD (.tuple ds) = some ds := by first | rfl | (cases a with | none => rfl | some a => cases a <;> rfl) | (simp [stoO, stoR, parR, Option.bind]) | (unfold eqD eqOk; simp [scalD, PyData.eqv]) | (unfold neD eqOk; simp [scalD, PyData.eqv])
@[simp] theorem q_forT_1 (g : MG) (b : MS) (ds : List D) (ρ : En) : forT g b (.items ds) ρ = mforI g b ds ρ := by first | rfl | (cases a with | none => rfl | some a => cases a <;> rfl) | (simp [stoO, stoR, parR, Option.bind]) | (unfold eqD eqOk; simp [scalD, PyData.eqv]) | (unfold neD eqOk; simp [scalD, PyData.eqv])
@[simp] theorem q_forT_2 (g : MG) (b : MS) (i : Nat) (ds : List D) (ρ : En) : forT g b (.slot i ds) ρ = mforS i g b ds 0 ρ := by first | rfl | (cases a with | none => rfl | some a => cases a <;> rfl) | (simp [stoO, stoR, parR, Option.bind]) | (unfold eqD eqOk; simp [scalD, PyData.eqv]) | (unfold neD eqOk; simp [scalD, PyData.eqv])
@[simp] theorem q_stoO_1 (ρ : En) : stoO (some ρ) = some (.nx, ρ) := by first | rfl | (cases a with | none => rfl | some a => cases a <;> rfl) | (simp [stoO, stoR, parR, Option.bind]) | (unfold eqD eqOk; simp [scalD, PyData.eqv]) | (unfold neD eqOk; simp [scalD, PyData.eqv])
@[simp] theorem q_parR_1 (i j : Nat) (ρ : En) (d d' : D) : parR i j ρ (.dat d) (.dat d') = some (.nx, (ρ.set i (some (.dat d))).set j (some (.dat d'))) := by first | rfl | (cases a with | none => rfl | some a => cases a <;> rfl) | (simp [stoO, stoR, parR, Option.bind]) | (unfold eqD eqOk; simp [scalD, PyData.eqv]) | (unfold neD eqOk; simp [scalD, PyData.eqv])
@[simp] theorem q_parR_2 (i j : Nat) (ρ : En) (d : D) (b : Bx) : parR i j ρ (.dat d) (.new b) = some (.nx, (ρ.set i (some (.dat d))).set j (some (.box true b))) := by first | rfl | (cases a with | none => rfl | some a => cases a <;> rfl) | (simp [stoO, stoR, parR, Option.bind]) | (unfold eqD eqOk; simp [scalD, PyData.eqv]) | (unfold neD eqOk; simp [scalD, PyData.eqv])
@[simp] theorem q_parR_3 (i j : Nat) (ρ : En) (b : Bx) (d : D) : parR i j ρ (.new b) (.dat d) = some (.nx, (ρ.set i (some (.box true b))).set j (some (.dat d))) := by first | rfl | (cases a with | none => rfl | some a => cases a <;> rfl) | (simp [stoO, stoR, parR, Option.bind]) | (unfold eqD eqOk; simp [scalD, PyData.eqv]) | (unfold neD eqOk; simp [scalD, PyData.eqv])
@[simp] theorem q_parR_4 (i j : Nat) (ρ : En) (b b' : Bx) : parR i j ρ (.new b) (.new b') = some (.nx, (ρ.set i (some (.box true b))).set j (some (.box true b'))) := by first | rfl | (cases a with | none => rfl | some a => cases a <;> rfl) | (simp [stoO, stoR, parR, Option.bind]) | (unfold eqD eqOk; simp [scalD, PyData.eqv]) | (unfold neD eqOk; simp [scalD, PyData.eqv])
@[simp] theorem q_lcE_1 (ρ : En) (vs : List Nat) (xs : List D) (ρ1 : En) : lcE ρ vs (some (xs, ρ1)) = some (.new (.lst xs), restE ρ ρ1 vs) := by first | rfl | (cases a with | none => rfl | some a => cases a <;> rfl) | (simp [stoO, stoR, parR, Option.bind]) | (unfold eqD eqOk; simp [scalD, PyData.eqv]) | (unfold neD eqOk; simp [scalD, PyData.eqv])
@[simp] theorem q_rng1_1 (ρ : En) (r : R) : rng1 ρ [r] = ((intR ρ r).bind fun j => (guardO (decide (-(2 ^ 62) ≤ j ∧ j < 2 ^ 62))).bind fun _ => some (.items (rngD 0 j), ρ)) := by first | rfl | (cases a with | none => rfl | some a => cases a <;> rfl) | (simp [stoO, stoR, parR, Option.bind]) | (unfold eqD eqOk; simp [scalD, PyData.eqv]) | (unfold neD eqOk; simp [scalD, PyData.eqv])
@[simp] theorem q_augR_1 (s : Nat) (ρ : En) (o : Bool) (xs : List D) (j : Nat) (d : D) : augR s ρ o xs j (.dat d) = some (.nx, ρ.set s (some (.box o (.lst (xs.set j d))))) := by first | rfl | (cases a with | none => rfl | some a => cases a <;> rfl) | (simp [stoO, stoR, parR, Option.bind]) | (unfold eqD eqOk; simp [scalD, PyData.eqv]) | (unfold neD eqOk; simp [scalD, PyData.eqv])
@[simp] theorem q_asgG_1 (g : MG) (ρ : En) (d : D) : asgG g ρ [d] = stoO (g d ρ) := by first | rfl | (cases a with | none => rfl | some a => cases a <;> rfl) | (simp [stoO, stoR, parR, Option.bind]) | (unfold eqD eqOk; simp [scalD, PyData.eqv]) | (unfold neD eqOk; simp [scalD, PyData.eqv])
@[simp] theorem q_defE_1 (as : List A) (ρ : En) (r : R) : defE as ρ (.rt r) = ((outAs ρ as 0).map fun o => (r, o)) := by first | rfl | (cases a with | none => rfl | some a => cases a <;> rfl) | (simp [stoO, stoR, parR, Option.bind]) | (unfold eqD eqOk; simp [scalD, PyData.eqv]) | (unfold neD eqOk; simp [scalD, PyData.eqv])
@[simp] theorem q_defE_2 (as : List A) (ρ : En) : defE as ρ .nx = ((outAs ρ as 0).map fun o => (.dat .none, o)) := by first | rfl | (cases a with | none => rfl | some a => cases a <;> rfl) | (simp [stoO, stoR, parR, Option.bind]) | (unfold eqD eqOk; simp [scalD, PyData.eqv]) | (unfold neD eqOk; simp [scalD, PyData.eqv])
@[simp] theorem q_R_fz_1 (d : D) : (R.dat d).fz = .dat d := by first | rfl | (cases a with | none => rfl | some a => cases a <;> rfl) | (simp [stoO, stoR, parR, Option.bind]) | (unfold eqD eqOk; simp [scalD, PyData.eqv]) | (unfold neD eqOk; simp [scalD, PyData.eqv])
@[simp] theorem q_R_fz_2 (b : Bx) : (R.new b).fz = .dat b.dat := by first | rfl | (cases a with | none => rfl | some a => cases a <;> rfl) | (simp [stoO, stoR, parR, Option.bind]) | (unfold eqD eqOk; simp [scalD, PyData.eqv]) | (unfold neD eqOk; simp [scalD, PyData.eqv])
@[simp] theorem q_R_fz_3 (i : Nat) : (R.ref i).fz = .ref i := by first | rfl | (cases a with | none => rfl | some a => cases a <;> rfl) | (simp [stoO, stoR, parR, Option.bind]) | (unfold eqD eqOk; simp [scalD, PyData.eqv]) | (unfold neD eqOk; simp [scalD, PyData.eqv])
@[simp] theorem q_R_vw_1 (ρ : En) (d : D) : (R.dat d).vw ρ = some d := by first | rfl | (cases a with | none => rfl | some a => cases a <;> rfl) | (simp [stoO, stoR, parR, Option.bind]) | (unfold eqD eqOk; simp [scalD, PyData.eqv]) | (unfold neD eqOk; simp [scalD, PyData.eqv])
@[simp] theorem q_R_vw_2 (ρ : En) (i : Nat) : (R.ref i).vw ρ = (ρ[i]?.join).map A.vw := by first | rfl | (cases a with | none => rfl | some a => cases a <;> rfl) | (simp [stoO, stoR, parR, Option.bind]) | (unfold eqD eqOk; simp [scalD, PyData.eqv]) | (unfold neD eqOk; simp [scalD, PyData.eqv])
@[simp] theorem q_A_vw_1 (d : D) : (A.dat d).vw = d := by first | rfl | (cases a with | none => rfl | some a => cases a <;> rfl) | (simp [stoO, stoR, parR, Option.bind]) | (unfold eqD eqOk; simp [scalD, PyData.eqv]) | (unfold neD eqOk; simp [scalD, PyData.eqv])
@[simp] theorem q_A_vw_2 (o : Bool) (b : Bx) : (A.box o b).vw = b.dat := by first | rfl | (cases a with | none => rfl | some a => cases a <;> rfl) | (simp [stoO, stoR, parR, Option.bind]) | (unfold eqD eqOk; simp [scalD, PyData.eqv]) | (unfold neD eqOk; simp [scalD, PyData.eqv])
@[simp] theorem q_Bx_dat_1 (xs : List D) : (Bx.lst xs).dat = .list xs := by first | rfl | (cases a with | none => rfl | some a => cases a <;> rfl) | (simp [stoO, stoR, parR, Option.bind]) | (unfold eqD eqOk; simp [scalD, PyData.eqv]) | (unfold neD eqOk; simp [scalD, PyData.eqv])
@[simp] theorem q_Bx_dat_2 (xs : List (L2.Key × D)) : (Bx.dic xs).dat = .dict (dkv xs) := by first | rfl | (cases a with | none => rfl | some a => cases a <;> rfl) | (simp [stoO, stoR, parR, Option.bind]) | (unfold eqD eqOk; simp [scalD, PyData.eqv]) | (unfold neD eqOk; simp [scalD, PyData.eqv])
@[simp] theorem q_guardO_1 : guardO true = some () := by first | rfl | (cases a with | none => rfl | some a => cases a <;> rfl) | (simp [stoO, stoR, parR, Option.bind]) | (unfold eqD eqOk; simp [scalD, PyData.eqv]) | (unfold neD eqOk; simp [scalD, PyData.eqv])
@[simp] theorem q_boolR_1 (b : Bool) : boolR (.dat (.bool b)) = some b := by first | rfl | (cases a with | none => rfl | some a => cases a <;> rfl) | (simp [stoO, stoR, parR, Option.bind]) | (unfold eqD eqOk; simp [scalD, PyData.eqv]) | (unfold neD eqOk; simp [scalD, PyData.eqv])
@[simp] theorem q_truD_1 (b : Bool) : truD (.bool b) = some b := by first | rfl | (cases a with | none => rfl | some a => cases a <;> rfl) | (simp [stoO, stoR, parR, Option.bind]) | (unfold eqD eqOk; simp [scalD, PyData.eqv]) | (unfold neD eqOk; simp [scalD, PyData.eqv])
@[simp] theorem q_truD_2 (xs : List D) : truD (.list xs) = some (!xs.isEmpty) := by first | rfl | (cases a with | none => rfl | some a => cases a <;> rfl) | (simp [stoO, stoR, parR, Option.bind]) | (unfold eqD eqOk; simp [scalD, PyData.eqv]) | (unfold neD eqOk; simp [scalD, PyData.eqv])
@[simp] theorem q_truD_3 (xs : List D) : truD (.tuple xs) = some (!xs.isEmpty) := by first | rfl | (cases a with | none => rfl | some a => cases a <;> rfl) | (simp [stoO, stoR, parR, Option.bind]) | (unfold eqD eqOk; simp [scalD, PyData.eqv]) | (unfold neD eqOk; simp [scalD, PyData.eqv])
@[simp] theorem q_argAs_1 (ρ : En) : argAs ρ [] = some [] := by first | rfl | (cases a with | none => rfl | some a => cases a <;> rfl) | (simp [stoO, stoR, parR, Option.bind]) | (unfold eqD eqOk; simp [scalD, PyData.eqv]) | (unfold neD eqOk; simp [scalD, PyData.eqv])
@[simp] theorem q_argAs_2 (ρ : En) (r : R) (rs : List R) : argAs ρ (r :: rs) = ((argA ρ r).bind fun a => (argAs ρ rs).map fun as => a :: as) := by first | rfl | (cases a with | none => rfl | some a => cases a <;> rfl) | (simp [stoO, stoR, parR, Option.bind]) | (unfold eqD eqOk; simp [scalD, PyData.eqv]) | (unfold neD eqOk; simp [scalD, PyData.eqv])
@[simp] theorem q_argA_1 (ρ : En) (d : D) : argA ρ (.dat d) = some (.dat d) := by first | rfl | (cases a with | none => rfl | some a => cases a <;> rfl) | (simp [stoO, stoR, parR, Option.bind]) | (unfold eqD eqOk; simp [scalD, PyData.eqv]) | (unfold neD eqOk; simp [scalD, PyData.eqv])
@[simp] theorem q_stoR_1 (ρ : En) (i : Nat) (d : D) : stoR ρ i (.dat d) = some (ρ.set i (some (.dat d))) := by first | rfl | (cases a with | none => rfl | some a => cases a <;> rfl) | (simp [stoO, stoR, parR, Option.bind]) | (unfold eqD eqOk; simp [scalD, PyData.eqv]) | (unfold neD eqOk; simp [scalD, PyData.eqv])
@[simp] theorem q_stoR_2 (ρ : En) (i : Nat) (b : Bx) : stoR ρ i (.new b) = some (ρ.set i (some (.box true b))) := by first | rfl | (cases a with | none => rfl | some a => cases a <;> rfl) | (simp [stoO, stoR, parR, Option.bind]) | (unfold eqD eqOk; simp [scalD, PyData.eqv]) | (unfold neD eqOk; simp [scalD, PyData.eqv])
@[simp] theorem q_fzs_1 (ρ : En) : fzs ρ [] = some ([], ρ) := by first | rfl | (cases a with | none => rfl | some a => cases a <;> rfl) | (simp [stoO, stoR, parR, Option.bind]) | (unfold eqD eqOk; simp [scalD, PyData.eqv]) | (unfold neD eqOk; simp [scalD, PyData.eqv])
@[simp] theorem q_fzs_2 (ρ : En) (d : D) (rs : List R) : fzs ρ (.dat d :: rs) = ((fzs ρ rs).map fun x => (d :: x.1, x.2)) := by first | rfl | (cases a with | none => rfl | some a => cases a <;> rfl) | (simp [stoO, stoR, parR, Option.bind]) | (unfold eqD eqOk; simp [scalD, PyData.eqv]) | (unfold neD eqOk; simp [scalD, PyData.eqv])
@[simp] theorem q_vws_1 (ρ : En) : vws ρ [] = some [] := by first | rfl | (cases a with | none => rfl | some a => cases a <;> rfl) | (simp [stoO, stoR, parR, Option.bind]) | (unfold eqD eqOk; simp [scalD, PyData.eqv]) | (unfold neD eqOk; simp [scalD, PyData.eqv])
@[simp] theorem q_vws_2 (ρ : En) (r : R) (rs : List R) : vws ρ (r :: rs) = ((r.vw ρ).bind fun d => (vws ρ rs).bind fun ds => some (d :: ds)) := by first | rfl | (cases a with | none => rfl | some a => cases a <;> rfl) | (simp [stoO, stoR, parR, Option.bind]) | (unfold eqD eqOk; simp [scalD, PyData.eqv]) | (unfold neD eqOk; simp [scalD, PyData.eqv])
@[simp] theorem q_bxIx_1 (ρ : En) : bxIx ρ [] = [] := by first | rfl | (cases a with | none => rfl | some a => cases a <;> rfl) | (simp [stoO, stoR, parR, Option.bind]) | (unfold eqD eqOk; simp [scalD, PyData.eqv]) | (unfold neD eqOk; simp [scalD, PyData.eqv])
@[simp] theorem q_bxIx_2 (ρ : En) (d : D) (rs : List R) : bxIx ρ (.dat d :: rs) = bxIx ρ rs := by first | rfl | (cases a with | none => rfl | some a => cases a <;> rfl) | (simp [stoO, stoR, parR, Option.bind]) | (unfold eqD eqOk; simp [scalD, PyData.eqv]) | (unfold neD eqOk; simp [scalD, PyData.eqv])
@[simp] theorem q_gnm_1 (i : Nat) (d : D) (ρ : En) : gnm i d ρ = ((guardO (notBor ρ i)).map fun _ => ρ.set i (some (.dat d))) := by first | rfl | (cases a with | none => rfl | some a => cases a <;> rfl) | (simp [stoO, stoR, parR, Option.bind]) | (unfold eqD eqOk; simp [scalD, PyData.eqv]) | (unfold neD eqOk; simp [scalD, PyData.eqv])
@[simp] theorem q_gtup_1 (is : List Nat) (ds : List D) (ρ : En) : gtup is (.tuple ds) ρ = gset is ds ρ := by first | rfl | (cases a with | none => rfl | some a => cases a <;> rfl) | (simp [stoO, stoR, parR, Option.bind]) | (unfold eqD eqOk; simp [scalD, PyData.eqv]) | (unfold neD eqOk; simp [scalD, PyData.eqv])
@[simp] theorem q_gset_1 (ρ : En) : gset [] [] ρ = some ρ := by first | rfl | (cases a with | none => rfl | some a => cases a <;> rfl) | (simp [stoO, stoR, parR, Option.bind]) | (unfold eqD eqOk; simp [scalD, PyData.eqv]) | (unfold neD eqOk; simp [scalD, PyData.eqv])
@[simp] theorem q_gset_2 (i : Nat) (is : List Nat) (d : D) (ds : List D) (ρ : En) : gset (i :: is) (d :: ds) ρ = ((guardO (notBor ρ i)).bind fun _ => gset is ds (ρ.set i (some (.dat d)))) := by first | rfl | (cases a with | none => rfl | some a => cases a <;> rfl) | (simp [stoO, stoR, parR, Option.bind]) | (unfold eqD eqOk; simp [scalD, PyData.eqv]) | (unfold neD eqOk; simp [scalD, PyData.eqv])
@[simp] theorem q_dicOf_1 (kvs : List (L2.Key × D)) : dicOf (.dic kvs) = some kvs := by first | rfl | (cases a with | none => rfl | some a => cases a <;> rfl) | (simp [stoO, stoR, parR, Option.bind]) | (unfold eqD eqOk; simp [scalD, PyData.eqv]) | (unfold neD eqOk; simp [scalD, PyData.eqv])
@[simp] theorem q_lstOf_1 (xs : List D) : lstOf (.lst xs) = some xs := by first | rfl | (cases a with | none => rfl | some a => cases a <;> rfl) | (simp [stoO, stoR, parR, Option.bind]) | (unfold eqD eqOk; simp [scalD, PyData.eqv]) | (unfold neD eqOk; simp [scalD, PyData.eqv])
@[simp] theorem q_oneOf_1 (d : D) : oneOf [d] = some d := by first | rfl | (cases a with | none => rfl | some a => cases a <;> rfl) | (simp [stoO, stoR, parR, Option.bind]) | (unfold eqD eqOk; simp [scalD, PyData.eqv]) | (unfold neD eqOk; simp [scalD, PyData.eqv])
@[simp] theorem q_isDic_1 (kvs : List (L2.Key × D)) : isDic (.dic kvs) = true := by first | rfl | (cases a with | none => rfl | some a => cases a <;> rfl) | (simp [stoO, stoR, parR, Option.bind]) | (unfold eqD eqOk; simp [scalD, PyData.eqv]) | (unfold neD eqOk; simp [scalD, PyData.eqv])
@[simp] theorem q_isDic_2 (xs : List D) : isDic (.lst xs) = false := by first | rfl | (cases a with | none => rfl | some a => cases a <;> rfl) | (simp [stoO, stoR, parR, Option.bind]) | (unfold eqD eqOk; simp [scalD, PyData.eqv]) | (unfold neD eqOk; simp [scalD, PyData.eqv])
@[simp] theorem q_datOf_1 (d : D) : datOf (.dat d) = some d := by first | rfl | (cases a with | none => rfl | some a => cases a <;> rfl) | (simp [stoO, stoR, parR, Option.bind]) | (unfold eqD eqOk; simp [scalD, PyData.eqv]) | (unfold neD eqOk; simp [scalD, PyData.eqv])
@[simp] theorem q_isBx_1 (d : D) : isBx (.dat d) = false := by first | rfl | (cases a with | none => rfl | some a => cases a <;> rfl) | (simp [stoO, stoR, parR, Option.bind]) | (unfold eqD eqOk; simp [scalD, PyData.eqv]) | (unfold neD eqOk; simp [scalD, PyData.eqv])
@[simp] theorem q_isBx_2 (o : Bool) (b : Bx) : isBx (.box o b) = true := by first | rfl | (cases a with | none => rfl | some a => cases a <;> rfl) | (simp [stoO, stoR, parR, Option.bind]) | (unfold eqD eqOk; simp [scalD, PyData.eqv]) | (unfold neD eqOk; simp [scalD, PyData.eqv])
@[simp] theorem q_outAs_1 (ρ : En) (i : Nat) : outAs ρ [] i = some [] := by first | rfl | (cases a with | none => rfl | some a => cases a <;> rfl) | (simp [stoO, stoR, parR, Option.bind]) | (unfold eqD eqOk; simp [scalD, PyData.eqv]) | (unfold neD eqOk; simp [scalD, PyData.eqv])
@[simp] theorem q_outAs_2 (ρ : En) (a : A) (as : List A) (i : Nat) : outAs ρ (a :: as) i = ((outA a ρ[i]?).bind fun x => (outAs ρ as (i + 1)).map fun xs => x :: xs) := by first | rfl | (cases a with | none => rfl | some a => cases a <;> rfl) | (simp [stoO, stoR, parR, Option.bind]) | (unfold eqD eqOk; simp [scalD, PyData.eqv]) | (unfold neD eqOk; simp [scalD, PyData.eqv])
@[simp] theorem q_outA_1 (d : D) (x : Option (Option A)) : outA (.dat d) x = some (.dat d) := by first | rfl | (cases a with | none => rfl | some a => cases a <;> rfl) | (simp [stoO, stoR, parR, Option.bind]) | (unfold eqD eqOk; simp [scalD, PyData.eqv]) | (unfold neD eqOk; simp [scalD, PyData.eqv])
@[simp] theorem q_outA_2 (o : Bool) (b b' : Bx) : outA (.box o b) (some (some (.box false b'))) = some (.box false b') := by first | rfl | (cases a with | none => rfl | some a => cases a <;> rfl) | (simp [stoO, stoR, parR, Option.bind]) | (unfold eqD eqOk; simp [scalD, PyData.eqv]) | (unfold neD eqOk; simp [scalD, PyData.eqv])
@[simp] theorem q_intR_1 (ρ : En) (i : Int) : intR ρ (.dat (.int i)) = some i := by first | rfl | (cases a with | none => rfl | some a => cases a <;> rfl) | (simp [stoO, stoR, parR, Option.bind]) | (unfold eqD eqOk; simp [scalD, PyData.eqv]) | (unfold neD eqOk; simp [scalD, PyData.eqv])
@[simp] theorem q_tyD_1 (T : String) (xs : List D) : tyD T (.list xs) = (T == "list") := by first | rfl | (cases a with | none => rfl | some a => cases a <;> rfl) | (simp [stoO, stoR, parR, Option.bind]) | (unfold eqD eqOk; simp [scalD, PyData.eqv]) | (unfold neD eqOk; simp [scalD, PyData.eqv])
@[simp] theorem q_tyD_2 (T : String) (xs : List (D × D)) : tyD T (.dict xs) = (T == "dict" && !isFnD xs) := by first | rfl | (cases a with | none => rfl | some a => cases a <;> rfl) | (simp [stoO, stoR, parR, Option.bind]) | (unfold eqD eqOk; simp [scalD, PyData.eqv]) | (unfold neD eqOk; simp [scalD, PyData.eqv])
@[simp] theorem q_tyD_3 (T : String) (x : Str) : tyD T (.str x) = (T == "str") := by first | rfl | (cases a with | none => rfl | some a => cases a <;> rfl) | (simp [stoO, stoR, parR, Option.bind]) | (unfold eqD eqOk; simp [scalD, PyData.eqv]) | (unfold neD eqOk; simp [scalD, PyData.eqv])
@[simp] theorem q_wipeE_1 (ρ : En) : wipeE ρ [] = ρ := by first | rfl | (cases a with | none => rfl | some a => cases a <;> rfl) | (simp [stoO, stoR, parR, Option.bind]) | (unfold eqD eqOk; simp [scalD, PyData.eqv]) | (unfold neD eqOk; simp [scalD, PyData.eqv])
@[simp] theorem q_wipeE_2 (ρ : En) (v : Nat) (vs : List Nat) : wipeE ρ (v :: vs) = (wipeE ρ vs).set v none := by first | rfl | (cases a with | none => rfl | some a => cases a <;> rfl) | (simp [stoO, stoR, parR, Option.bind]) | (unfold eqD eqOk; simp [scalD, PyData.eqv]) | (unfold neD eqOk; simp [scalD, PyData.eqv])
@[simp] theorem q_keyD_1 (i : Int) : keyD (.int i) = some (.inl i) := by first | rfl | (cases a with | none => rfl | some a => cases a <;> rfl) | (simp [stoO, stoR, parR, Option.bind]) | (unfold eqD eqOk; simp [scalD, PyData.eqv]) | (unfold neD eqOk; simp [scalD, PyData.eqv])
@[simp] theorem q_keyD_2 (x : Str) : keyD (.str x) = some (.inr x) := by first | rfl | (cases a with | none => rfl | some a => cases a <;> rfl) | (simp [stoO, stoR, parR, Option.bind]) | (unfold eqD eqOk; simp [scalD, PyData.eqv]) | (unfold neD eqOk; simp [scalD, PyData.eqv])
@[simp] theorem q_ltD_1 (i j : Int) : ltD (.int i) (.int j) = some (.dat (.bool (decide (i < j)))) := by first | rfl | (cases a with | none => rfl | some a => cases a <;> rfl) | (simp [stoO, stoR, parR, Option.bind]) | (unfold eqD eqOk; simp [scalD, PyData.eqv]) | (unfold neD eqOk; simp [scalD, PyData.eqv])
@[simp] theorem q_leD_1 (i j : Int) : leD (.int i) (.int j) = some (.dat (.bool (decide (i ≤ j)))) := by first | rfl | (cases a with | none => rfl | some a => cases a <;> rfl) | (simp [stoO, stoR, parR, Option.bind]) | (unfold eqD eqOk; simp [scalD, PyData.eqv]) | (unfold neD eqOk; simp [scalD, PyData.eqv])
@[simp] theorem q_gtD_1 (i j : Int) : gtD (.int i) (.int j) = some (.dat (.bool (decide (j < i)))) := by first | rfl | (cases a with | none => rfl | some a => cases a <;> rfl) | (simp [stoO, stoR, parR, Option.bind]) | (unfold eqD eqOk; simp [scalD, PyData.eqv]) | (unfold neD eqOk; simp [scalD, PyData.eqv])
@[simp] theorem q_geD_1 (i j : Int) : geD (.int i) (.int j) = some (.dat (.bool (decide (j ≤ i)))) := by first | rfl | (cases a with | none => rfl | some a => cases a <;> rfl) | (simp [stoO, stoR, parR, Option.bind]) | (unfold eqD eqOk; simp [scalD, PyData.eqv]) | (unfold neD eqOk; simp [scalD, PyData.eqv])
@[simp] theorem q_addD_1 (i j : Int) : addD (.int i) (.int j) = some (.dat (.int (i + j))) := by first | rfl | (cases a with | none => rfl | some a => cases a <;> rfl) | (simp [stoO, stoR, parR, Option.bind]) | (unfold eqD eqOk; simp [scalD, PyData.eqv]) | (unfold neD eqOk; simp [scalD, PyData.eqv])
@[simp] theorem q_addI_1 (i j : Int) : addI (.int i) (.int j) = some (.dat (.int (i + j))) := by first | rfl | (cases a with | none => rfl | some a => cases a <;> rfl) | (simp [stoO, stoR, parR, Option.bind]) | (unfold eqD eqOk; simp [scalD, PyData.eqv]) | (unfold neD eqOk; simp [scalD, PyData.eqv])
@[simp] theorem q_subD_1 (i j : Int) : subD (.int i) (.int j) = some (.dat (.int (i - j))) := by first | rfl | (cases a with | none => rfl | some a => cases a <;> rfl) | (simp [stoO, stoR, parR, Option.bind]) | (unfold eqD eqOk; simp [scalD, PyData.eqv]) | (unfold neD eqOk; simp [scalD, PyData.eqv])
@[simp] theorem q_negD_1 (i : Int) : negD (.int i) = some (.dat (.int (-i))) := by first | rfl | (cases a with | none => rfl | some a => cases a <;> rfl) | (simp [stoO, stoR, parR, Option.bind]) | (unfold eqD eqOk; simp [scalD, PyData.eqv]) | (unfold neD eqOk; simp [scalD, PyData.eqv])
@[simp] theorem q_eqD_1 (i j : Int) : eqD (.int i) (.int j) = some (.dat (.bool (i == j))) := by first | rfl | (cases a with | none => rfl | some a => cases a <;> rfl) | (simp [stoO, stoR, parR, Option.bind]) | (unfold eqD eqOk; simp [scalD, PyData.eqv]) | (unfold neD eqOk; simp [scalD, PyData.eqv])
@[simp] theorem q_neD_1 (i j : Int) : neD (.int i) (.int j) = some (.dat (.bool (!(i == j)))) := by first | rfl | (cases a with | none => rfl | some a => cases a <;> rfl) | (simp [stoO, stoR, parR, Option.bind]) | (unfold eqD eqOk; simp [scalD, PyData.eqv]) | (unfold neD eqOk; simp [scalD, PyData.eqv])
@[simp] theorem q_eqD_2 (i j : Str) : eqD (.str i) (.str j) = some (.dat (.bool (i == j))) := by first | rfl | (cases a with | none => rfl | some a => cases a <;> rfl) | (simp [stoO, stoR, parR, Option.bind]) | (unfold eqD eqOk; simp [scalD, PyData.eqv]) | (unfold neD eqOk; simp [scalD, PyData.eqv])
@[simp] theorem q_neD_2 (i j : Str) : neD (.str i) (.str j) = some (.dat (.bool (!(i == j)))) := by first | rfl | (cases a with | none => rfl | some a => cases a <;> rfl) | (simp [stoO, stoR, parR, Option.bind]) | (unfold eqD eqOk; simp [scalD, PyData.eqv]) | (unfold neD eqOk; simp [scalD, PyData.eqv])
@[simp] theorem q_isD_1 (d : D) : isD d .none = some (.dat (.bool (isNoD d))) := by first | rfl | (cases a with | none => rfl | some a => cases a <;> rfl) | (simp [stoO, stoR, parR, Option.bind]) | (unfold eqD eqOk; simp [scalD, PyData.eqv]) | (unfold neD eqOk; simp [scalD, PyData.eqv])
@[simp] theorem q_isNotD_1 (d : D) : isNotD d .none = some (.dat (.bool (!isNoD d))) := by first | rfl | (cases a with | none => rfl | some a => cases a <;> rfl) | (simp [stoO, stoR, parR, Option.bind]) | (unfold eqD eqOk; simp [scalD, PyData.eqv]) | (unfold neD eqOk; simp [scalD, PyData.eqv])
@[simp] theorem q_ixD_1 (ds : List D) (i : Int) : ixD (.list ds) (.int i) = ((L2.atI ds i).bind fun d => some (.dat d)) := by first | rfl | (cases a with | none => rfl | some a => cases a <;> rfl) | (simp [stoO, stoR, parR, Option.bind]) | (unfold eqD eqOk; simp [scalD, PyData.eqv]) | (unfold neD eqOk; simp [scalD, PyData.eqv])
@[simp] theorem q_ixD_2 (ds : List D) (i : Int) : ixD (.tuple ds) (.int i) = ((L2.atI ds i).bind fun d => some (.dat d)) := by first | rfl | (cases a with | none => rfl | some a => cases a <;> rfl) | (simp [stoO, stoR, parR, Option.bind]) | (unfold eqD eqOk; simp [scalD, PyData.eqv]) | (unfold neD eqOk; simp [scalD, PyData.eqv])
@[simp] theorem q_ixD_3 (kvs : List (D × D)) (k : Str) : ixD (.dict kvs) (.str k) = ((valD kvs (.inr k)).bind fun d => some (.dat d)) := by first | rfl | (cases a with | none => rfl | some a => cases a <;> rfl) | (simp [stoO, stoR, parR, Option.bind]) | (unfold eqD eqOk; simp [scalD, PyData.eqv]) | (unfold neD eqOk; simp [scalD, PyData.eqv])
@[simp] theorem q_getD_1 (kvs : List (D × D)) (k : Str) (i : Int) (h : isFnD kvs = false) : getD (.dict kvs) [.str k, .int i] = some (.dat ((valD kvs (.inr k)).getD (.int i))) := by
  show (if _ ∧ isFnD kvs = false then _ else none) = _
  rw [if_pos ⟨rfl, h⟩]; rfl
@[simp] theorem q_getD_2 (kvs : List (D × D)) (k : Str) (i : Bool) (h : isFnD kvs = false) : getD (.dict kvs) [.str k, .bool i] = some (.dat ((valD kvs (.inr k)).getD (.bool i))) := by
  show (if _ ∧ isFnD kvs = false then _ else none) = _
  rw [if_pos ⟨rfl, h⟩]; rfl
@[simp] theorem q_getD_3 (kvs : List (D × D)) (i : Bool) (h : isFnD kvs = false) : getD (.dict kvs) [.none, .bool i] = some (.dat (.bool i)) := by
  show (if _ ∧ isFnD kvs = false then _ else none) = _
  rw [if_pos ⟨rfl, h⟩]; rfl
@[simp] theorem q_slD_1 (ds : List D) (lo hi : Option Int) : slD (.list ds) lo hi = some (.new (.lst (cutL ds lo hi))) := by first | rfl | (cases a with | none => rfl | some a => cases a <;> rfl) | (simp [stoO, stoR, parR, Option.bind]) | (unfold eqD eqOk; simp [scalD, PyData.eqv]) | (unfold neD eqOk; simp [scalD, PyData.eqv])
@[simp] theorem q_slD_2 (ds : List D) (lo hi : Option Int) : slD (.tuple ds) lo hi = some (.dat (.tuple (cutL ds lo hi))) := by first | rfl | (cases a with | none => rfl | some a => cases a <;> rfl) | (simp [stoO, stoR, parR, Option.bind]) | (unfold eqD eqOk; simp [scalD, PyData.eqv]) | (unfold neD eqOk; simp [scalD, PyData.eqv])
@[simp] theorem q_lenD_1 (ds : List D) : lenD [.list ds] = some (.dat (.int ds.length)) := by first | rfl | (cases a with | none => rfl | some a => cases a <;> rfl) | (simp [stoO, stoR, parR, Option.bind]) | (unfold eqD eqOk; simp [scalD, PyData.eqv]) | (unfold neD eqOk; simp [scalD, PyData.eqv])
@[simp] theorem q_lenD_2 (ds : List D) : lenD [.tuple ds] = some (.dat (.int ds.length)) := by first | rfl | (cases a with | none => rfl | some a => cases a <;> rfl) | (simp [stoO, stoR, parR, Option.bind]) | (unfold eqD eqOk; simp [scalD, PyData.eqv]) | (unfold neD eqOk; simp [scalD, PyData.eqv])
@[simp] theorem q_lenD_3 (ds : List (D × D)) (h : isFnD ds = false) : lenD [.dict ds] = some (.dat (.int ds.length)) := by
  show (if isFnD ds = true then none else _) = _
  rw [h]; rfl
@[simp] theorem q_tupleD_1 (ds : List D) : tupleD [.list ds] = some (.dat (.tuple ds)) := by first | rfl | (cases a with | none => rfl | some a => cases a <;> rfl) | (simp [stoO, stoR, parR, Option.bind]) | (unfold eqD eqOk; simp [scalD, PyData.eqv]) | (unfold neD eqOk; simp [scalD, PyData.eqv])
@[simp] theorem q_tupleD_2 (ds : List D) : tupleD [.tuple ds] = some (.dat (.tuple ds)) := by first | rfl | (cases a with | none => rfl | some a => cases a <;> rfl) | (simp [stoO, stoR, parR, Option.bind]) | (unfold eqD eqOk; simp [scalD, PyData.eqv]) | (unfold neD eqOk; simp [scalD, PyData.eqv])
@[simp] theorem q_listD_1 (ds : List D) : listD [.list ds] = some (.new (.lst ds)) := by first | rfl | (cases a with | none => rfl | some a => cases a <;> rfl) | (simp [stoO, stoR, parR, Option.bind]) | (unfold eqD eqOk; simp [scalD, PyData.eqv]) | (unfold neD eqOk; simp [scalD, PyData.eqv])
@[simp] theorem q_listD_2 (ds : List D) : listD [.tuple ds] = some (.new (.lst ds)) := by first | rfl | (cases a with | none => rfl | some a => cases a <;> rfl) | (simp [stoO, stoR, parR, Option.bind]) | (unfold eqD eqOk; simp [scalD, PyData.eqv]) | (unfold neD eqOk; simp [scalD, PyData.eqv])
@[simp] theorem q_listD_3 (kvs : List (D × D)) (h : isFnD kvs = false) : listD [.dict kvs] = some (.new (.lst (kvs.map (·.1)))) := by
  show (if isFnD kvs = true then none else _) = _
  rw [h]; rfl
@[simp] theorem q_intD_1 (i : Int) : intD [.int i] = some (.dat (.int i)) := by first | rfl | (cases a with | none => rfl | some a => cases a <;> rfl) | (simp [stoO, stoR, parR, Option.bind]) | (unfold eqD eqOk; simp [scalD, PyData.eqv]) | (unfold neD eqOk; simp [scalD, PyData.eqv])
@[simp] theorem q_absD_1 (i : Int) : absD [.int i] = some (.dat (.int (if i < 0 then -i else i))) := by first | rfl | (cases a with | none => rfl | some a => cases a <;> rfl) | (simp [stoO, stoR, parR, Option.bind]) | (unfold eqD eqOk; simp [scalD, PyData.eqv]) | (unfold neD eqOk; simp [scalD, PyData.eqv])
@[simp] theorem q_max2D_1 (i j : Int) : max2D [.int i, .int j] = some (.dat (.int (if j > i then j else i))) := by first | rfl | (cases a with | none => rfl | some a => cases a <;> rfl) | (simp [stoO, stoR, parR, Option.bind]) | (unfold eqD eqOk; simp [scalD, PyData.eqv]) | (unfold neD eqOk; simp [scalD, PyData.eqv])
@[simp] theorem q_backA_1 (a : Option A) : backA none a = a := by first | rfl | (cases a with | none => rfl | some a => cases a <;> rfl) | (simp [stoO, stoR, parR, Option.bind]) | (unfold eqD eqOk; simp [scalD, PyData.eqv]) | (unfold neD eqOk; simp [scalD, PyData.eqv])
@[simp] theorem q_backA_2 (o : Bool) (b c : Bx) : backA (some c) (some (.box o b)) = some (.box o c) := by first | rfl | (cases a with | none => rfl | some a => cases a <;> rfl) | (simp [stoO, stoR, parR, Option.bind]) | (unfold eqD eqOk; simp [scalD, PyData.eqv]) | (unfold neD eqOk; simp [scalD, PyData.eqv])
@[simp] theorem q_min2D_1 (i j : Int) : min2D [.int i, .int j] = some (.dat (.int (if j < i then j else i))) := by first | rfl | (cases a with | none => rfl | some a => cases a <;> rfl) | (simp [stoO, stoR, parR, Option.bind]) | (unfold eqD eqOk; simp [scalD, PyData.eqv]) | (unfold neD eqOk; simp [scalD, PyData.eqv])
end L3
namespace L3
open PySem
theorem forI_run {g : MG} {b : MS} {P : List D → En → Prop} (step : ∀ d r ρ, P (d :: r) ρ → ∃ ρ1 o ρ2, g d ρ = some ρ1 ∧ b ρ1 = some (o, ρ2) ∧ (o = .nx ∨ o = .ct) ∧ P r ρ2) :
    ∀ (ds : List D) (ρ : En), P ds ρ → ∃ ρ', mforI g b ds ρ = some (.nx, ρ') ∧ P [] ρ'
  | [], ρ, h => ⟨ρ, rfl, h⟩
  | d :: r, ρ, h => by
    obtain ⟨ρ1, o, ρ2, h1, h2, h3, h4⟩ := step d r ρ h
    obtain ⟨ρ', h5, h6⟩ := forI_run step r ρ2 h4
    refine ⟨ρ', ?_, h6⟩
    unfold mforI
    rw [h1, Option.bind_some, h2, Option.bind_some]
    rcases h3 with rfl | rfl <;> exact h5
/-- one turn -/
theorem turn_yes {g : MG} {t : MT} {m : ME} {vs : List Nat} {d d' : D} {acc : List D} {ρ ρ1 ρ2 ρ3 ρ4 : En} {y : R} (h1 : g d (wipeE ρ vs) = some ρ1) (h2 : t ρ1 = some (true, ρ2)) (h3 : m ρ2 = some (y, ρ3)) (h4 : fzs ρ3 [y.fz] = some ([d'], ρ4)) (h5 : acc.length < sizeLine) :
    mturn g t m vs d acc ρ = some (acc ++ [d'], ρ4) := by
  unfold mturn
  rw [h1, Option.bind_some, h2, Option.bind_some, if_pos rfl, h3, Option.bind_some, h4, Option.bind_some]
  show (guardO (decide (acc.length < sizeLine))).bind _ = _
  rw [show decide (acc.length < sizeLine) = true from decide_eq_true h5]
  rfl
theorem turn_no {g : MG} {t : MT} {m : ME} {vs : List Nat} {d : D} {acc : List D} {ρ ρ1 ρ2 : En} (h1 : g d (wipeE ρ vs) = some ρ1) (h2 : t ρ1 = some (false, ρ2)) : mturn g t m vs d acc ρ = some (acc, ρ2) := by
  unfold mturn
  rw [h1, Option.bind_some, h2, Option.bind_some, if_neg Bool.false_ne_true]
theorem lcI_run {g : MG} {t : MT} {m : ME} {vs : List Nat} {P : List D → List D → En → Prop} (step : ∀ d r acc ρ, P (d :: r) acc ρ → ∃ acc' ρ', mturn g t m vs d acc ρ = some (acc', ρ') ∧ P r acc' ρ') :
    ∀ (ds acc : List D) (ρ : En), P ds acc ρ → ∃ acc' ρ', mlcI g t m vs ds acc ρ = some (acc', ρ') ∧ P [] acc' ρ'
  | [], acc, ρ, h => ⟨acc, ρ, rfl, h⟩
  | d :: r, acc, ρ, h => by
    obtain ⟨acc1, ρ1, h1, h2⟩ := step d r acc ρ h
    obtain ⟨acc', ρ', h3, h4⟩ := lcI_run step r acc1 ρ1 h2
    refine ⟨acc', ρ', ?_, h4⟩
    unfold mlcI
    rw [h1, Option.bind_some]
    exact h3
/-- a turn that changes nothing but the target's slots, F what it gives -/
def PureTurn (g : MG) (t : MT) (m : ME) (vs : List Nat) (ρ : En) (d : D) (o : Option D) : Prop := ∃ ρ1 c, g d (wipeE ρ vs) = some ρ1 ∧ wipeE ρ1 vs = wipeE ρ vs ∧ t ρ1 = some (c, ρ1) ∧ match o with
  | some d' => c = true ∧ m ρ1 = some (.dat d', ρ1)
  | none => c = false
theorem pure_turn {g : MG} {t : MT} {m : ME} {vs : List Nat} {ρ ρ' : En} {d : D} {o : Option D} {acc : List D} (h : PureTurn g t m vs ρ d o) (hw : wipeE ρ' vs = wipeE ρ vs) (hz : acc.length < sizeLine) :
    ∃ ρ2, mturn g t m vs d acc ρ' = some (acc ++ o.toList, ρ2) ∧ wipeE ρ2 vs = wipeE ρ vs := by
  obtain ⟨ρ1, c, h1, h2, h3, h4⟩ := h
  rw [← hw] at h1
  cases o with
  | none =>
    subst h4
    exact ⟨ρ1, by rw [turn_no h1 h3]; simp, h2⟩
  | some d' =>
    obtain ⟨rfl, h4⟩ := h4
    exact ⟨ρ1, turn_yes h1 h3 h4 rfl hz, h2⟩
theorem wipe_wipe (ρ : En) (vs : List Nat) : wipeE (wipeE ρ vs) vs = wipeE ρ vs := by
  refine List.ext_getElem? fun j => ?_
  rw [wipeE_get, wipeE_get]
  split
  · cases ρ[j]? <;> rfl
  · rfl
theorem lcI_pure {α : Type} {g : MG} {t : MT} {m : ME} {vs : List Nat} {ρ : En} {enc : α → D} {F : α → Option D} {xs : List α} (h : ∀ x ∈ xs, PureTurn g t m vs ρ (enc x) (F x)) (hz : xs.length ≤ sizeLine) :
    ∃ ρ', mlcI g t m vs (xs.map enc) [] (wipeE ρ vs) = some (xs.filterMap F, ρ') ∧ wipeE ρ' vs = wipeE ρ vs := by
  have key : ∀ (ds' : List α) (acc : List D) (ρ' : En), (∀ d ∈ ds', d ∈ xs) → acc.length + ds'.length ≤ sizeLine → wipeE ρ' vs = wipeE ρ vs → ∃ ρ'', mlcI g t m vs (ds'.map enc) acc ρ' = some (acc ++ ds'.filterMap F, ρ'') ∧ wipeE ρ'' vs = wipeE ρ vs := by
    intro ds'
    induction ds' with
    | nil => intro acc ρ' _ _ e; exact ⟨ρ', by simp [mlcI], e⟩
    | cons d r ih =>
      intro acc ρ' hm hl e
      rw [List.length_cons] at hl
      obtain ⟨ρ2, e1, e2⟩ := pure_turn (acc := acc) (h d (hm d List.mem_cons_self)) e (by omega)
      obtain ⟨ρ3, e3, e4⟩ := ih (acc ++ (F d).toList) ρ2 (fun x hx => hm x (List.mem_cons_of_mem _ hx)) (by
        rw [List.length_append]
        have : (F d).toList.length ≤ 1 := by cases F d <;> simp
        omega) e2
      refine ⟨ρ3, ?_, e4⟩
      rw [List.map_cons]
      unfold mlcI
      rw [e1, Option.bind_some, e3]
      cases hF : F d with
      | none => simp [List.filterMap_cons, hF]
      | some y => simp [List.filterMap_cons, hF]
  obtain ⟨ρ', h1, h2⟩ := key xs [] (wipeE ρ vs) (fun _ h => h) (by simpa using hz) (wipe_wipe ρ vs)
  exact ⟨ρ', by simpa using h1, h2⟩
theorem restE_back {ρ ρ' : En} {vs : List Nat} (h : wipeE ρ' vs = wipeE ρ vs) : restE ρ ρ' vs = ρ := by
  have hl : ρ'.length = ρ.length := by
    have := congrArg List.length h
    rwa [wipeE_len, wipeE_len] at this
  refine List.ext_getElem? fun j => ?_
  unfold restE
  rw [List.getElem?_mapIdx]
  by_cases hj : j ∈ vs
  · by_cases hlt : j < ρ.length
    · have h1 : ρ'[j]? = some ρ'[j] := List.getElem?_eq_getElem (by omega)
      have h2 : ρ[j]? = some ρ[j] := List.getElem?_eq_getElem hlt
      rw [h1, h2]
      simp [hj]
    · rw [List.getElem?_eq_none (by omega), List.getElem?_eq_none (by omega)]
      rfl
  · have e := congrArg (·[j]?) h
    simp only [wipeE_get, if_neg hj] at e
    rw [e]
    cases ρ[j]? with
    | none => rfl
    | some a => simp [hj]
/-- a comprehension whose turns change nothing -/
theorem lc_pure {α : Type} {g : MG} {t : MT} {m : ME} {vs : List Nat} {ρ : En} (enc : α → D) (F : α → Option D) (xs : List α) (h : ∀ x ∈ xs, PureTurn g t m vs ρ (enc x) (F x)) (hz : xs.length ≤ sizeLine) : lcT g t m vs (.items (xs.map enc)) ρ = some (.new (.lst (xs.filterMap F)), ρ) := by
  obtain ⟨ρ', h1, h2⟩ := lcI_pure h hz
  show lcE ρ vs (mlcI g t m vs (xs.map enc) [] (wipeE ρ vs)) = _
  rw [h1]
  show some (R.new (.lst _), restE ρ ρ' vs) = _
  rw [restE_back h2]
/-- a slot that holds nothing or data -/
def sD (o : Option D) : Option A := o.map A.dat
end L3
namespace L3
open PySem
end L3
namespace L3
open PySem PySem.Spec PyProof.Rows L2 L3B
section
variable {X : Cx} {pins : List (Addr × Obj)} {σ : L2.St} {H : Hp} {s : Shared} {N : Addr → Prop}
end
variable {G : GC} {S : SC}
end L3
namespace L3
open PySem PySem.Spec PyProof.Rows L2
section
variable {G : GC} {S : SC}
end
end L3
namespace L3
open PySem PySem.Spec PyProof.Rows L2
/-- an exception as data -/
def isXcD : List (D × D) → Bool
  | [(.none, .tuple _)] => true
  | _ => false
theorem isXcD_no {ds : List (D × D)} (h : isFnD ds = false) : isXcD ds = false := by
  unfold isXcD; split
  · cases h
  · rfl
@[simp] theorem isXcD_dkv (kvs : List (Key × D)) : isXcD (dkv kvs) = false := isXcD_no (isFnD_dkv kvs)
def tyN : D → String
  | .none => "NoneType"
  | .bool _ => "bool"
  | .int _ => "int"
  | .str _ => "str"
  | .list _ => "list"
  | .tuple _ => "tuple"
  | .dict ds => if isXcD ds then "object" else "dict"
def isTy (T : String) (d : D) : Bool := tyN d == T || (T == "int" && tyN d == "bool")
@[simp] theorem tyN_dict {ds : List (D × D)} (h : isFnD ds = false) : tyN (.dict ds) = "dict" := by simp [tyN, isXcD_no h]
@[simp] theorem isTy_dict {ds : List (D × D)} (h : isFnD ds = false) : isTy "dict" (.dict ds) = true := by simp [isTy, tyN_dict h]
@[simp] theorem isTy_dict1 {ds : List (D × D)} : isTy "str" (.dict ds) = false := by cases h : isXcD ds <;> simp [isTy, tyN, h]
@[simp] theorem isTy_dict2 {ds : List (D × D)} : isTy "int" (.dict ds) = false := by cases h : isXcD ds <;> simp [isTy, tyN, h]
@[simp] theorem isTy_dict3 {ds : List (D × D)} : isTy "bool" (.dict ds) = false := by cases h : isXcD ds <;> simp [isTy, tyN, h]
@[simp] theorem isTy_dict4 {ds : List (D × D)} : isTy "list" (.dict ds) = false := by cases h : isXcD ds <;> simp [isTy, tyN, h]
@[simp] theorem isTy_dict5 {ds : List (D × D)} : isTy "tuple" (.dict ds) = false := by cases h : isXcD ds <;> simp [isTy, tyN, h]
def isMenu : List String := ["int", "bool", "str", "list", "tuple", "dict"]
theorem kit_menu : ∀ T ∈ isMenu, ∀ t ∈ ["NoneType", "bool", "int", "str", "list", "tuple", "dict", "object"], t ≠ "object" → L2.kitB t T = some (t == T || (T == "int" && t == "bool")) := by
  decide +kernel
theorem tyN_mem (d : D) : tyN d ∈ ["NoneType", "bool", "int", "str", "list", "tuple", "dict", "object"] := by
  cases d with
  | dict ds => cases h : isXcD ds <;> simp [tyN, h]
  | _ => simp [tyN]
def notFn : D → Bool
  | .dict ds => !isFnD ds || isXcD ds
  | _ => true
theorem notFn_dict {ds : List (D × D)} (h : isFnD ds = false) : notFn (.dict ds) = true := by simp [notFn, h]
/-- of an exception that is tracked -/
inductive TyY (K : PySem.W.Frag) (H : Hp) : V → Value → Prop where
  | base {x : V} {t : Value} (h : TyX K H x t) : TyY K H x t
  | xc0 {a C t : Addr} {o : Obj} (h : H a = some (.frz o (.own a))) (T : XcT K C) (c : o.cls = .ref C) (d : o.dict = none) (e : o.data = .fields #[.ref t, .none, .none, .none, .bool false, .none]) : TyY K H (.ref a) (.ref C)
  | xc1 {a C t dx : Addr} {o od : Obj} {u : HO} (h : H a = some (.frz o (.own a))) (T : XcT K C) (c : o.cls = .ref C) (d : o.dict = some dx) (e : o.data = .fields #[.ref t, .none, .none, .none, .bool false, .none]) (hd : H dx = some (.frz od u)) : TyY K H (.ref a) (.ref C)
section
variable {X : Cx} {pins : List (Addr × Obj)} {σ : L2.St} {H : Hp} {s : Shared}
theorem kit_ofY {x : V} {u t : Value} (I : Inv X pins σ H s) (rx : RelV x u) (ty : TyY X.K H x t) : ∃ P : Heap → Prop, PySem.W.KitX X.K u t P ∧ P s.heap ∧ u ≠ .builtin "__main__.__loader__#opaque" := by
  cases ty with
  | base h => exact kit_of I rx h
  | @xc0 a C t o h T c d e =>
    cases (show u = Value.ref a from rx)
    have ho := (show ObjOk X.prog X.w H s.heap a (.frz o (.own a)) from I.hok a _ h).1
    have J : PySem.W.InstAt s.heap a o C none := ⟨ho, c, by unfold PySem.W.notCls; rw [e] <;> rfl, by rw [d]; trivial⟩
    exact ⟨_, PySem.W.kitx_exc T.hcl T.ga T.gt (T.mro "BaseException") T.cl T.hn T.htk (show PySem.W.subIn X.K (.ref C) (.type "object") = some true from T.mro "object"), J, fun z => nomatch z⟩
  | @xc1 a C t dx o od uu h T c d e hd =>
    cases (show u = Value.ref a from rx)
    have ho := (show ObjOk X.prog X.w H s.heap a (.frz o (.own a)) from I.hok a _ h).1
    have hdx := (show ObjOk X.prog X.w H s.heap dx (.frz od uu) from I.hok dx _ hd).1
    have J : PySem.W.InstAt s.heap a o C (some od) := ⟨ho, c, by unfold PySem.W.notCls; rw [e] <;> rfl, by rw [d]; exact hdx⟩
    exact ⟨_, PySem.W.kitx_exc T.hcl T.ga T.gt (T.mro "BaseException") T.cl T.hn T.htk (show PySem.W.subIn X.K (.ref C) (.type "object") = some true from T.mro "object"), J, fun z => nomatch z⟩
def rIsiY (K : PySem.W.Frag) : List V → Hp → VK → Prop := fun xs H Q => ∃ (x c : V) (t u : Value) (b : Bool), xs = [x, c] ∧ ClsV c u ∧ TyY K H x t ∧ PySem.W.kitOne K t u = some b ∧ Q (.bl b) H
theorem call_isiY : CallR X (.builtin "isinstance") (rIsiY X.K) := by
  intro pins s σ H xs us Q I r h
  obtain ⟨x, c, t, u, b, rfl, k, ty, e, q⟩ := h
  obtain ⟨u1, u2, rfl, r1, r2⟩ := vals2 r
  have e2 := k.eq r2
  subst e2
  obtain ⟨P, Z, p, hx⟩ := kit_ofY I r1 ty
  exact PySem.W.kia_one Z I.kIn p e hx fun tk => ⟨.bl b, H, I.tok tk, rfl, q⟩
end
section
variable {K : PySem.W.Frag} {N : Addr → Prop} {H : Hp} {v : V}
theorem SRep.tyX {d : D} (h : SRep K N H v d) (hf : notFn d = true) (hx : tyN d ≠ "object") : TyX K H v (.type (tyN d)) := by
  cases d with
  | none => rw [h.none]; exact .base .non
  | bool b => rw [h.bool]; exact .base (.bl b)
  | int i => rw [h.int]; exact .base (.int i)
  | str x => rw [h.str]; exact .base (.str x)
  | list ds =>
    obtain ⟨a, xs, rfl, h1, _⟩ := h.list
    rcases h1 with (h1 | ⟨o, h1⟩) | ⟨o, its, n, h1, h2, _⟩
    · exact .base (.lst h1)
    · exact .base (.frz h1)
    · exact .kList h1 h2
  | tuple ds =>
    obtain ⟨a, xs, rfl, h1, _⟩ := h.tuple
    rcases h1.sq with (h1 | ⟨o, h1⟩) | ⟨o, its, n, h1, h2, _⟩
    · exact .base (.tup h1)
    · exact .fTuple h1
    · exact .kTuple h1 h2
  | dict ds =>
    have hx2 : isXcD ds = false := by
      cases e : isXcD ds with
      | false => rfl
      | true => exact absurd (by simp [tyN, e]) hx
    have hf2 : isFnD ds = false := by simpa [notFn, hx2] using hf
    obtain ⟨a, xs, rfl, h1, _⟩ := h.dict hf2
    rw [tyN_dict hf2]
    exact .base (.dK h1)
/-- the class of an exception's data -/
theorem SRep.tyXc {ds : List (D × D)} (h : SRep K N H v (.dict ds)) (hx : isXcD ds = true) : ∃ (x : Str) (r : List D) (C : Addr), ds = [(.none, .tuple (.str x :: r))] ∧ PySem.W.nsIn K mainGlobals x = some (some (.ref C)) ∧ XcT K C ∧ TyY K H v (.ref C) := by
  rcases h with h | ⟨q, b, rfl, e, bo⟩
  · cases h with
    | dic h1 h2 h3 =>
      cases h3 with
      | nil => cases hx
      | @cons k v d kvs ds r t => cases k <;> (simp only [kD, isXcD] at hx; cases hx)
    | fn h1 => cases hx
    | xn0 h1 =>
      obtain ⟨C, t, o, h1, h2, h3, h3', h4, h5, h6, h7, h8⟩ := h1
      exact ⟨_, _, C, rfl, h3, h3', .xc0 h1 h3' h4 h5 h6⟩
    | xn1 h1 h0 k2 =>
      obtain ⟨C, t, o, h1, h2, h3, h3', h4, h5, h6, h7, h8⟩ := h1
      exact ⟨_, _, C, rfl, h3, h3', .xc1 h1 h3' h4 h5 h6 k2⟩
  · cases b with
    | lst xs => cases e
    | dic kvs =>
      cases e
      rw [isXcD_dkv] at hx; cases hx
end
theorem kit_xc {K : PySem.W.Frag} {C : Addr} (T : XcT K C) {t : String} (hm : PySem.W.kitMeta t = true) : PySem.W.kitOne K (.ref C) (.type t) = some (["ValueError", "Exception", "BaseException", "object"].contains t) := by
  unfold PySem.W.kitOne
  rw [if_neg (by simp)]
  unfold PySem.W.kitCls
  simp only [hm, if_true]
  exact T.mro t
section
variable {G : GC} {S : SC}
def misi (T : String) (m : ME) : ME := fun ρ => (m ρ).bind fun x => (x.1.fz.vw x.2).bind fun d => (guardO (notFn d)).bind fun _ => some (.dat (.bool (isTy T d)), x.2)
theorem de_isi {T : String} {t : Str} {e : Expr} {m : ME} {p q pos : Pos} (hT : T ∈ isMenu) (ht : bootBuiltins t = some (.type T)) (he : DE G S e m) (hg : S.sc.names.lookup (Str.ofString "isinstance") = some NameKind.globalImplicit) (hm : G.mg (Str.ofString "isinstance") = none)
    (hg2 : S.sc.names.lookup t = some NameKind.globalImplicit) (hm2 : G.mg t = none) (hn : t ≠ Str.ofString "__name__") (hd : (t == ("__debug__" : Str)) = false) (hs : ∀ env : PySem.Env, starEach [e, .Name t q] env = (false, eval e env) :: starEach [.Name t q] env) :
    DE G S (.Call (.Name "isinstance" p) [e, .Name t q] [] pos) (misi T m) := by
  intro X c
  have g1 : Gl X (Str.ofString "isinstance") := by show X.env.scope.names.lookup _ = _; rw [c.sc]; exact hg
  have g2 : Gl X t := by show X.env.scope.names.lookup _ = _; rw [c.sc]; exact hg2
  have pn : PE X (.Name t q) (tC (.ty T)) := ⟨fun pins s σ H Q I h => ld_blt I g2 (by rw [c.mg]; exact hm2) ht ⟨.ty T, H, I, rfl, h⟩ hn hd⟩
  refine PE.weak (pe_callB call_isiY g1 (by rw [c.mg]; exact hm) rfl (pa_cons (he X c) (pa_cons pn pa_nil rfl) (hs _)) (by decide) (by decide) (hs _) rfl) ?_
  rintro σ H Q ⟨W, ρ, r, ρ', rel, em, q⟩
  unfold misi at em
  obtain ⟨⟨ra, ρ1⟩, e1, em⟩ := Option.bind_eq_some_iff.mp em
  obtain ⟨d, e4, em⟩ := Option.bind_eq_some_iff.mp em
  obtain ⟨u, e5, em⟩ := Option.bind_eq_some_iff.mp em
  have e5 := guardO_some e5
  cases em
  refine ⟨W, ρ, ra, ρ1, rel, e1, fun x H1 p1 => ?_⟩
  have hx := (p1.res.fz p1.toPostX rel).read p1.rel e4
  by_cases hob : tyN d = "object"
  · cases d with
    | dict ds =>
      have hxd : isXcD ds = true := by
        cases e : isXcD ds with
        | true => rfl
        | false => simp [tyN, e] at hob
      obtain ⟨y, r, C, _, _, T2, ty⟩ := hx.tyXc hxd
      refine ⟨x, .ty T, .ref C, .type T, isTy T (.dict ds), rfl, .ty T, by rw [c.K]; exact ty, ?_, q _ _ (p1.toPostX.fin (.dat (.bl _)))⟩
      rw [c.K, kit_xc T2 ((show ∀ T ∈ isMenu, PySem.W.kitMeta T = true by decide +kernel) T hT)]
      unfold isTy
      rw [hob]
      exact congrArg some ((show ∀ T ∈ isMenu, (["ValueError", "Exception", "BaseException", "object"].contains T) = ("object" == T || (T == "int" && "object" == "bool")) by decide) T hT)
    | none => exact absurd hob (by decide)
    | bool _ => exact absurd hob (by simp [tyN])
    | int _ => exact absurd hob (by simp [tyN])
    | str _ => exact absurd hob (by simp [tyN])
    | list _ => exact absurd hob (by simp [tyN])
    | tuple _ => exact absurd hob (by simp [tyN])
  · refine ⟨x, .ty T, .type (tyN d), .type T, isTy T d, rfl, .ty T, ?_, ?_, q _ _ (p1.toPostX.fin (.dat (.bl _)))⟩
    · rw [c.K]; exact .base (hx.tyX e5 hob)
    · exact L2.kit_ty (kit_menu T hT _ (tyN_mem d) hob)
end
end L3
namespace L3
open PySem PySem.Spec PyProof.Rows L2
/-- a list (l) or a tuple -/
def SqB (l : Bool) (K : PySem.W.Frag) (H : Hp) (a : Addr) (xs : List V) : Prop := match l with
  | true => SqL K H a xs
  | false => SqT K H a xs
def ItrAt (l : Bool) (h : Heap) (it a : Addr) (i : Nat) : Prop := match l with
  | true => h.IsListIter it a i
  | false => h.IsTupleIter it a i
def itrObj (l : Bool) (a : Addr) : Obj := match l with
  | true => { cls := .type "list_iterator", data := .fields #[.ref a, .int 0 0] }
  | false => { cls := .type "tuple_iterator", data := .fields #[.ref a, .int 0 0] }
theorem ItrAt.obj {l : Bool} {h : Heap} {it a : Addr} {i : Nat} (x : ItrAt l h it a i) : ∃ o vs, h.get? it = some o ∧ o.data = .fields vs := by
  cases l with
  | true => obtain ⟨o, h1, _, h2⟩ := x; exact ⟨o, _, h1, h2⟩
  | false => obtain ⟨o, h1, _, h2⟩ := x; exact ⟨o, _, h1, h2⟩
theorem ItrAt.move {l : Bool} {h h' : Heap} {it a : Addr} {i : Nat} (x : ItrAt l h it a i) (k : ∀ o, h.get? it = some o → h'.get? it = some o) : ItrAt l h' it a i := by
  cases l with
  | true => exact Heap.IsListIter.at x k
  | false => exact Heap.IsTupleIter.at x k
theorem SqB.fun {l : Bool} {X : Cx} {pins : List (Addr × Obj)} {σ : L2.St} {H : Hp} {s : Shared} (I : Inv X pins σ H s) {a : Addr} {xs ys : List V} (h : SqB l X.K H a xs) (h2 : SqB l X.K H a ys) : xs = ys := by
  cases l with
  | true => exact I.list_inj h h2
  | false => exact I.tuple_inj h h2
/-- what stands there, as an iterator reads it -/
theorem SqB.raw {l : Bool} {X : Cx} {pins : List (Addr × Obj)} {σ : L2.St} {H : Hp} {s : Shared} (I : Inv X pins σ H s) {a : Addr} {xs : List V} (h : SqB l X.K H a xs) :
    ∃ its : List Value, Vals xs its ∧ a < s.heap.objs.size ∧ (∃ o vs n, s.heap.get? a = some o ∧ o.data = .seq vs n) ∧
      (∀ (A : Around) (it : Addr), A.handled = none → a ≠ it → ∃ St : Nat → Heap → Prop, Draws X.prog X.w A it [it, a] its.toArray.size (fun i v => its.toArray[i]? = some v) St ∧ (∀ i, ItrAt l s.heap it a i → St i s.heap) ∧ ∀ i h, St i h → ItrAt l h it a i) ∧
      ∃ B : Heap → Prop, Begins (.ref a) (itrObj l a) B ∧ B s.heap := by
  cases l with
  | true =>
    obtain ⟨its, rv, p, hz⟩ := I.list h
    obtain ⟨o, e1, e2, n, e3⟩ := p.isList
    exact ⟨its, rv, Heap.lt_size e1, ⟨o, _, n, e1, e3⟩, fun A it hh hne => ⟨_, Draws.list hh it a hne its.toArray, fun i x => ⟨x, p.isList⟩, fun i h x => x.1⟩, _, begins_list a its.toArray, p.isList⟩
  | false =>
    obtain ⟨its, rv, p, hz⟩ := I.tuple h
    have p' := p
    obtain ⟨o, e1, e2, n, e3⟩ := p'
    exact ⟨its, rv, Heap.lt_size e1, ⟨o, _, n, e1, e3⟩, fun A it hh hne => ⟨_, Draws.tuple hh it a hne its.toArray, fun i x => ⟨x, p⟩, fun i h x => x.1⟩, _, begins_tuple a its.toArray, p⟩
def ItE (l : Bool) (K : PySem.W.Frag) (a : Addr) (n0 : Nat) : It := ⟨fun i H => ∃ xs x, SqB l K H a xs ∧ xs.length = n0 ∧ xs[i]? = some x,
  fun i H v H' => ∃ T o x, v = .ref T ∧ H T = none ∧ o.dict = none ∧ H' = upd H T (.frz o (.tup [.int (i : Nat), x])) ∧ ∀ xs, SqB l K H a xs → xs[i]? = some x, fun i H => ∃ xs, SqB l K H a xs ∧ xs.length = n0 ∧ n0 ≤ i⟩
theorem turn_E {P : Program} {w : World} {K : PySem.W.Frag} {elts : List Expr} {kk : Nat} {tpos : Pos} (l : Bool) (a e it : Addr) (n0 : Nat) :
    Turn P w K (.Tuple elts kk tpos) (ItE l K a n0) [e, it] e (fun i h => (∃ old, IsEnum h e it ((i : Nat) : Int) old) ∧ ItrAt l h it a i ∧ e ≠ it ∧ i ≤ n0) where
  mem := List.mem_cons_self
  obj := fun i h ⟨⟨old, he⟩, hi, _, _⟩ b hb => by
    rcases List.mem_cons.mp hb with rfl | hb
    · exact ⟨_, he, fun v q => nomatch q⟩
    · obtain ⟨o, vs, h1, h2⟩ := hi.obj
      rw [List.mem_singleton.mp hb]
      exact ⟨o, h1, fun v q => by rw [h2] at q; cases q⟩
  keep := fun i h h' ⟨⟨old, he⟩, hi, hne, hn⟩ k => ⟨⟨old, k e List.mem_cons_self _ he⟩, hi.move (k it (List.mem_cons_of_mem _ List.mem_cons_self)), hne, hn⟩
  item := by
    intro X hP hw hK hc i pins s σ H E I hf ⟨⟨old, he⟩, hi, hne, hn0⟩ ⟨xs, x, hq, hxl, hx⟩
    subst hP hw hK
    obtain ⟨its, rv, ha, ⟨oa, va, na, ga1, ga2⟩, dr, _⟩ := hq.raw I
    obtain ⟨oi, vi, gi1, gi2⟩ := hi.obj
    have hai : a ≠ it := fun z => by rw [z, gi1] at ga1; cases ga1; rw [gi2] at ga2; cases ga2
    have hae : a ≠ e := fun z => by rw [z] at ga1; rw [show s.heap.get? e = _ from he] at ga1; cases ga1; cases ga2
    obtain ⟨St, D, st1, st2⟩ := dr X.A.in1 it (I.ok.hd hc) hai
    obtain ⟨u, hu, ru⟩ := rv.get hx
    have hlt : i < its.toArray.size := by
      rw [List.size_toArray]
      exact (List.getElem?_eq_some_iff.mp hu).1
    have hef : e ∉ [it, a] := by simp [hne, Ne.symm hae]
    refine wpAny_pyNext_enum_itemC D he (st1 i hi) hlt hne hef fun y h' tk hy ho hst hT hsz hk => ?_
    have ey : y = u := by
      have h1 : its.toArray[i]? = some y := hy
      rw [List.getElem?_toArray, hu] at h1
      exact (Option.some.inj h1).symm
    subst ey
    have hel : e < s.heap.objs.size := Heap.lt_size he
    have hil : it < s.heap.objs.size := Heap.lt_size gi1
    refine ⟨_, rfl, wpAny_letOwnedTupleGo_enum (s := { s with heap := h', toks := tk + 1 }) ho fun h2 he2 sb => ?_⟩
    have gT : h2.get? s.heap.objs.size = some { cls := .type "tuple", data := .seq #[.int i tk, y] } := (sb.2 _ (Nat.ne_of_gt hel)).trans hT
    have nw : ObjOk X.prog X.w (upd H s.heap.objs.size (.frz { cls := .type "tuple", data := .seq #[.int i tk, y] } (.tup [.int (i : Nat), x]))) h2 s.heap.objs.size (.frz { cls := .type "tuple", data := .seq #[.int i tk, y] } (.tup [.int (i : Nat), x])) :=
      ⟨gT, by show 2 ≤ sizeLine; decide, [.int i tk, y], .cons ⟨_, rfl⟩ (.cons ru .nil), ⟨_, gT, rfl, _, rfl⟩⟩
    refine ⟨.ref s.heap.objs.size, _, I.turnedNew (t' := tk + 1) (ch := [e, it]) (fun b ob hb q => ?_) hf (Nat.le_refl _) nw, rfl, ⟨_, _, x, rfl, I.hok.fresh (Nat.le_refl _), rfl, rfl, fun ys hy => by rw [hy.fun I hq]; exact hx⟩, ⟨⟨y, ?_⟩, (st2 _ _ hst).move fun o q => (sb.2 it (Ne.symm hne)).trans q, hne, by have := (List.getElem?_eq_some_iff.mp hx).1; omega⟩, fun b hb => ?_⟩
    · have n1 : b ≠ e := fun z => hb (by rw [z]; exact List.mem_cons_self)
      have n2 : b ≠ it := fun z => hb (by rw [z]; exact List.mem_cons_of_mem _ List.mem_cons_self)
      exact (sb.2 b n1).trans (hk b ob n1 n2 q)
    · rw [show ((i + 1 : Nat) : Int) = (i : Int) + 1 by omega]
      exact he2
    · have hb' : b < s.heap.objs.size := by
        rcases List.mem_cons.mp hb with rfl | hb
        · exact hel
        · rw [List.mem_singleton.mp hb]; exact hil
      rw [upd_ne (Nat.ne_of_lt hb')]
      exact (hf b hb).1
  done := by
    intro X hP hw hK hc i pins s σ H E I hf ⟨⟨old, he⟩, hi, hne, hn0⟩ ⟨xs, hq, hxl, hx⟩
    subst hP hw hK
    obtain ⟨its, rv, ha, ⟨oa, va, na, ga1, ga2⟩, dr, _⟩ := hq.raw I
    obtain ⟨oi, vi, gi1, gi2⟩ := hi.obj
    have hai : a ≠ it := fun z => by rw [z, gi1] at ga1; cases ga1; rw [gi2] at ga2; cases ga2
    obtain ⟨St, D, st1, st2⟩ := dr X.A.in1 it (I.ok.hd hc) hai
    obtain ⟨f0, f1, f2, f3, f4, f5⟩ := hf it (List.mem_cons_of_mem _ List.mem_cons_self)
    have hn : i = its.toArray.size := by rw [List.size_toArray, ← rv.length]; omega
    subst hn
    exact wpAny_pyNext_enum_endD D he (st1 _ hi) fun h' eb => ⟨rfl, I.turned (t' := s.toks) (fun b o hb q => eb b o hb q) f0 f1 f3 f4 f5⟩
  self := fun A i s Q E ⟨⟨_, he⟩, _⟩ h => wpAny_pyIter_enum he h
def ItZ (l1 l2 : Bool) (K : PySem.W.Frag) (a b : Addr) (n0 : Nat) : It := ⟨fun i H => ∃ xs ys x y, SqB l1 K H a xs ∧ SqB l2 K H b ys ∧ min xs.length ys.length = n0 ∧ xs[i]? = some x ∧ ys[i]? = some y,
  fun i H v H' => ∃ T o x y, v = .ref T ∧ H T = none ∧ o.dict = none ∧ H' = upd H T (.frz o (.tup [x, y])) ∧ (∀ xs, SqB l1 K H a xs → xs[i]? = some x) ∧ ∀ ys, SqB l2 K H b ys → ys[i]? = some y,
  fun i H => ∃ xs ys, SqB l1 K H a xs ∧ SqB l2 K H b ys ∧ min xs.length ys.length = n0 ∧ n0 ≤ i⟩
theorem zsep {a b z TI TO i1 i2 : Addr} (nd : [z, TI, TO, i1, i2].Nodup) (na : a ∉ [z, TI, TO, i1, i2]) (nb : b ∉ [z, TI, TO, i1, i2]) : ZipSep2 z TI TO i1 i2 [i1, a] [i2, b] := by
  simp only [List.nodup_cons, List.mem_cons, List.not_mem_nil, or_false, not_or, List.nodup_nil, and_true, not_false_eq_true] at nd na nb
  obtain ⟨⟨a1, a2, a3, a4⟩, ⟨b1, b2, b3⟩, ⟨c1, c2⟩, d1⟩ := nd
  obtain ⟨na1, na2, na3, na4, na5⟩ := na
  obtain ⟨nb1, nb2, nb3, nb4, nb5⟩ := nb
  constructor <;> simp_all <;> (try constructor) <;> (try assumption) <;> (try exact Ne.symm ‹_›)
theorem turn_Z {P : Program} {w : World} {K : PySem.W.Frag} {elts : List Expr} {kk : Nat} {tpos : Pos} {l1 l2 : Bool} {a b z TI TO i1 i2 : Addr} (n0 : Nat) (nd : [z, TI, TO, i1, i2].Nodup) (na : a ∉ [z, TI, TO, i1, i2]) (nb : b ∉ [z, TI, TO, i1, i2]) :
    Turn P w K (.Tuple elts kk tpos) (ItZ l1 l2 K a b n0) [z, TI, TO, i1, i2] z (fun i h => IsZip h z TI TO .none ∧ IsTupOf2 h TI (.ref i1) (.ref i2) ∧ (∃ x y, IsTupOf2 h TO x y) ∧ ItrAt l1 h i1 a i ∧ ItrAt l2 h i2 b i ∧ i ≤ n0) where
  mem := List.mem_cons_self
  obj := fun i h ⟨hz, hTI, ⟨x, y, hTO⟩, h1, h2, _⟩ c hc => by
    obtain ⟨o1, v1, e1, d1⟩ := h1.obj
    obtain ⟨o2, v2, e2, d2⟩ := h2.obj
    simp only [List.mem_cons, List.not_mem_nil, or_false] at hc
    rcases hc with rfl | rfl | rfl | rfl | rfl
    · exact ⟨_, hz, fun v q => nomatch q⟩
    · exact ⟨_, hTI, fun v q => nomatch q⟩
    · exact ⟨_, hTO, fun v q => nomatch q⟩
    · exact ⟨o1, e1, fun v q => by rw [d1] at q; cases q⟩
    · exact ⟨o2, e2, fun v q => by rw [d2] at q; cases q⟩
  keep := fun i h h' ⟨hz, hTI, ⟨x, y, hTO⟩, h1, h2, hn⟩ k => ⟨k z (by simp) _ hz, k TI (by simp) _ hTI, ⟨x, y, k TO (by simp) _ hTO⟩, h1.move (k i1 (by simp)), h2.move (k i2 (by simp)), hn⟩
  item := by
    intro X hP hw hK hc i pins s σ H E I hf ⟨hz, hTI, ⟨x0, y0, hTO⟩, h1, h2, hn0⟩ ⟨xs, ys, x, y, hqx, hqy, hmin, hx, hy⟩
    subst hP hw hK
    obtain ⟨its, rv, ha, ⟨oa, va, ka, ga1, ga2⟩, dr, _⟩ := hqx.raw I
    obtain ⟨its2, rv2, hb, ⟨ob, vb, kb, gb1, gb2⟩, dr2, _⟩ := hqy.raw I
    have S := zsep nd na nb
    have hd1 := I.ok.hd hc
    obtain ⟨St1, D1, s11, s12⟩ := dr X.A.in1 i1 hd1 fun e => na (by rw [e]; simp)
    obtain ⟨St2, D2, s21, s22⟩ := dr2 X.A.in1 i2 hd1 fun e => nb (by rw [e]; simp)
    obtain ⟨u, hu, ru⟩ := rv.get hx
    obtain ⟨u2, hu2, ru2⟩ := rv2.get hy
    have lt1 : i < its.toArray.size := by rw [List.size_toArray]; exact (List.getElem?_eq_some_iff.mp hu).1
    have lt2 : i < its2.toArray.size := by rw [List.size_toArray]; exact (List.getElem?_eq_some_iff.mp hu2).1
    have inH : ∀ c ∈ [z, TI, TO, i1, i2], c < s.heap.objs.size := fun c hcm => by
      obtain ⟨o1, v1, e1, d1⟩ := h1.obj
      obtain ⟨o2, v2, e2, d2⟩ := h2.obj
      simp only [List.mem_cons, List.not_mem_nil, or_false] at hcm
      rcases hcm with rfl | rfl | rfl | rfl | rfl
      · exact Heap.lt_size hz
      · exact Heap.lt_size hTI
      · exact Heap.lt_size hTO
      · exact Heap.lt_size e1
      · exact Heap.lt_size e2
    refine wpAny_pyNext_zipD2_item S D1 D2 hz hTI hTO (s11 i h1) (s21 i h2) lt1 lt2 fun y1 y2 h' tk q1 q2 z1 T1 t1 t2 hT hsz hk => ?_
    have ey1 : y1 = u := by
      have h3 : its.toArray[i]? = some y1 := q1
      rw [List.getElem?_toArray, hu] at h3
      exact (Option.some.inj h3).symm
    have ey2 : y2 = u2 := by
      have h3 : its2.toArray[i]? = some y2 := q2
      rw [List.getElem?_toArray, hu2] at h3
      exact (Option.some.inj h3).symm
    subst ey1 ey2
    have hzl := inH z (by simp)
    refine ⟨_, rfl, wpAny_letOwnedTupleGo_zip (s := { s with heap := h', toks := tk }) z1 fun hh2 z2 sb => ?_⟩
    have gT : hh2.get? s.heap.objs.size = some { cls := .type "tuple", data := .seq #[y1, y2] } := (sb.2 _ (Nat.ne_of_gt hzl)).trans hT
    have nw : ObjOk X.prog X.w (upd H s.heap.objs.size (.frz { cls := .type "tuple", data := .seq #[y1, y2] } (.tup [x, y]))) hh2 s.heap.objs.size (.frz { cls := .type "tuple", data := .seq #[y1, y2] } (.tup [x, y])) :=
      ⟨gT, by show 2 ≤ sizeLine; decide, [y1, y2], .cons ru (.cons ru2 .nil), ⟨_, gT, rfl, _, rfl⟩⟩
    have nz : ∀ {c : Addr}, c ∈ [TI, TO, i1, i2] → c ≠ z := fun {c} hcm e => (List.nodup_cons.mp nd).1 (by rw [← e]; exact hcm)
    refine ⟨.ref s.heap.objs.size, _, I.turnedNew (t' := tk) (ch := [z, TI, TO, i1, i2]) (fun c o hcn q => ?_) hf (Nat.le_refl _) nw, rfl, ⟨_, _, x, y, rfl, I.hok.fresh (Nat.le_refl _), rfl, rfl, fun l hl => by rw [hl.fun I hqx]; exact hx, fun l hl => by rw [hl.fun I hqy]; exact hy⟩, ⟨z2, ?_, ⟨y1, y2, ?_⟩, ?_, ?_, by have := (List.getElem?_eq_some_iff.mp hx).1; have := (List.getElem?_eq_some_iff.mp hy).1; omega⟩, fun c hcm => ?_⟩
    · have e1 : c ≠ z := fun e => hcn (by rw [e]; simp)
      exact (sb.2 c e1).trans (hk c o e1 (fun e => hcn (by rw [e]; simp)) (fun e => hcn (by rw [e]; simp)) (fun e => hcn (by rw [e]; simp)) q)
    · exact (sb.2 _ S.TIz).trans (hk _ _ S.TIz S.TITO S.TIi1 S.TIi2 hTI)
    · exact (sb.2 _ S.TOz).trans T1
    · exact (s12 _ _ t1).move fun o q => (sb.2 i1 (nz (by simp))).trans q
    · exact (s22 _ _ t2).move fun o q => (sb.2 i2 (nz (by simp))).trans q
    · rw [upd_ne (Nat.ne_of_lt (inH c hcm))]
      exact (hf c hcm).1
  done := by
    intro X hP hw hK hc i pins s σ H E I hf ⟨hz, hTI, ⟨x0, y0, hTO⟩, h1, h2, hn0⟩ ⟨xs, ys, hqx, hqy, hm, hm2⟩
    subst hP hw hK
    obtain ⟨its, rv, ha, ⟨oa, va, ka, ga1, ga2⟩, dr, _⟩ := hqx.raw I
    obtain ⟨its2, rv2, hb, ⟨ob, vb, kb, gb1, gb2⟩, dr2, _⟩ := hqy.raw I
    have S := zsep nd na nb
    have hd1 := I.ok.hd hc
    obtain ⟨St1, D1, s11, s12⟩ := dr X.A.in1 i1 hd1 fun e => na (by rw [e]; simp)
    obtain ⟨St2, D2, s21, s22⟩ := dr2 X.A.in1 i2 hd1 fun e => nb (by rw [e]; simp)
    have e1 : its.toArray.size = xs.length := by rw [List.size_toArray, rv.length]
    have e2 : its2.toArray.size = ys.length := by rw [List.size_toArray, rv2.length]
    refine wpAny_pyNext_zipD2_end S D1 D2 hz hTI hTO (s11 i h1) (s21 i h2) (by omega) (by omega) (by omega) fun h' tk hk => ⟨rfl, ?_⟩
    refine I.turnedL (t' := tk) (ch := [z, TI, TO, i1, i2]) (fun c o hcn q => hk c o (fun e => hcn (by rw [e]; simp)) (fun e => hcn (by rw [e]; simp)) (fun e => hcn (by rw [e]; simp)) (fun e => hcn (by rw [e]; simp)) q) hf
  self := fun A i s Q E st h => wpAny_pyIter_zip st.1 h
theorem meets_enum1 {v : Value} {o : Obj} {H : Heap → Prop} (B : Begins v o H) :
    Meets (Builtin.«enumerate.__new__» ⟨[.type "enumerate", v], []⟩) (fun _ R s => H s.heap ∧ R (.ok (.ret (.ref (s.heap.push o).objs.size))) { s with heap := (s.heap.push o).push { cls := .type "enumerate", data := .fields #[.none, .bool false, .ref s.heap.objs.size, rawInt 0, .none, .none] } }) :=
  .of_wp fun prog w A R s ⟨h1, h⟩ => by
    obtain ⟨hp, g, d, tk, os⟩ := s
    have hsub := sub_enumerate
    have q1 : ∀ {A' : Around} {E : Value → Shared → Prop} {Q : Value → Shared → Prop}, Q (.ref hp.objs.size) ⟨hp.push o, g, d, tk, os⟩ → wpAny (model prog w) A' (pyIter v) Q E ⟨hp, g, d, tk, os⟩ := fun {A' E Q} q => B.iter prog w A' E ⟨hp, g, d, tk, os⟩ Q h1 q
    wp_walk using q1
    refine wpAny_stack_any fun st => wpAny_pure ?_
    split
    · rename_i c _ _ _ _ _
      cases (c == Value.type "enumerate") <;> (wp_walk using q1; exact ⟨_, rfl, h⟩)
    · wp_walk using q1; exact ⟨_, rfl, h⟩
theorem enum_call1 {prog : Program} {w : World} {A : Around} {E : Value → Shared → Prop} {s : Shared} {v : Value} {o : Obj} {H : Heap → Prop} {Q : Value → Shared → Prop} (B : Begins v o H) (h1 : H s.heap)
    (h : ∀ h', IsEnum h' (s.heap.objs.size + 1) s.heap.objs.size 0 .none → h'.get? s.heap.objs.size = some o → (∀ b o, s.heap.get? b = some o → h'.get? b = some o) → Q (.ref (s.heap.objs.size + 1)) { s with heap := h' }) :
    wpAny (model prog w) A (call (.type "enumerate") [v]) Q E s := by
  refine callType_new F.called_enumerate (by decide) (F.typeCall_enumerate_1 _) (F.newCall_enumerate_1 _) (fun obj => F.args_object_init_2 obj _) F.entry_enumerate_new (meets_enum1 B) ⟨h1, ?_⟩
  have hz : (s.heap.push o).objs.size = s.heap.objs.size + 1 := Heap.size_push ..
  show _ ∧ _
  rw [hz]
  have he : IsEnum ((s.heap.push o).push { cls := .type "enumerate", data := .fields #[.none, .bool false, .ref s.heap.objs.size, rawInt 0, .none, .none] }) (s.heap.objs.size + 1) s.heap.objs.size 0 .none := by
    have z := Heap.get?_push_size (s.heap.push o) (o := { cls := .type "enumerate", data := .fields #[.none, .bool false, .ref s.heap.objs.size, rawInt 0, .none, .none] }) rfl
    rwa [hz] at z
  exact ⟨⟨_, he, rfl⟩, h _ he (Heap.get?_push_of_some _ (Heap.get?_push_size _ B.free)) fun b o x => Heap.get?_push_of_some _ (Heap.get?_push_of_some _ x)⟩
theorem itr_start {l : Bool} {h : Heap} {it a : Addr} (e : h.get? it = some (itrObj l a)) : ItrAt l h it a 0 := by
  cases l with
  | true => exact ⟨_, e, rfl, rfl⟩
  | false => exact ⟨_, e, rfl, rfl⟩
section
variable {X : Cx} {elts : List Expr} {kk : Nat} {tpos p pos : Pos}
def iE (K : PySem.W.Frag) (ta : TA) : TI := fun σ H R => ta σ H fun vs H1 => ∃ l a xs, vs = [V.ref a] ∧ SqB l K H1 a xs ∧ R (ItE l K a xs.length) H1
theorem pi_E {e : Expr} {ta : TA} (hg : Gl X "enumerate") (hm : X.mg "enumerate" = none) (ha : PA X [e] ta) (hs : starEach [e] X.env = [(false, eval e X.env)]) :
    PI X (.Tuple elts kk tpos) (.Call (.Name "enumerate" p) [e] [] pos) (iE X.K ta) := by
  refine ⟨fun pins s σ H R I h => ?_⟩
  refine Call_ (ld_blt I hg hm boot_enumerate (PyProof.Rows.callWith_type1 (thn (ha.run pos pins s σ H _ I h) fun us s1 ⟨vs, H1, I1, r1, l, a, xs, ev, hq, q⟩ => ?_) hs rfl))
  subst ev
  obtain ⟨u, rfl, ru⟩ := vals1 r1
  obtain rfl : u = .ref a := ru
  obtain ⟨its, rv, hal, _, _, B, hB, hB1⟩ := hq.raw I1
  refine enum_call1 hB hB1 fun h' he hit hk => wpAny_pyIter_enum he ?_
  refine ⟨s1.heap.objs.size + 1, [s1.heap.objs.size + 1, s1.heap.objs.size], _, _, H1, rfl, I1.kept (t' := s1.toks) hk, turn_E l a (s1.heap.objs.size + 1) s1.heap.objs.size xs.length, ⟨⟨.none, he⟩, itr_start hit, Nat.succ_ne_self _, Nat.zero_le _⟩, fun b hb => ?_, q⟩
  have hle : s1.heap.objs.size ≤ b := by
    rcases List.mem_cons.mp hb with rfl | hb
    · exact Nat.le_succ _
    · rw [List.mem_singleton.mp hb]; exact Nat.le_refl _
  exact I1.fpOk hle (I1.hok.fresh hle)
def iZ (K : PySem.W.Frag) (ta : TA) : TI := fun σ H R => ta σ H fun vs H1 => ∃ l1 l2 a b xs ys, vs = [V.ref a, V.ref b] ∧ SqB l1 K H1 a xs ∧ SqB l2 K H1 b ys ∧ R (ItZ l1 l2 K a b (min xs.length ys.length)) H1
theorem pi_Z {e e2 : Expr} {ta : TA} (hg : Gl X "zip") (hm : X.mg "zip" = none) (ha : PA X [e, e2] ta) (hs : starEach [e, e2] X.env = (false, eval e X.env) :: starEach [e2] X.env) (hpl : (backTo pos (starEach [e2] X.env)).any (·.1) = false) :
    PI X (.Tuple elts kk tpos) (.Call (.Name "zip" p) [e, e2] [] pos) (iZ X.K ta) := by
  refine ⟨fun pins s σ H R I h => ?_⟩
  refine Call_ (ld_blt I hg hm boot_zip (PyProof.Rows.callWith_type1 (thn (ha.run pos pins s σ H _ I h) fun us s1 ⟨vs, H1, I1, r1, l1, l2, a, b, xs, ys, ev, hq1, hq2, q⟩ => ?_) hs hpl))
  subst ev
  obtain ⟨u, u2, rfl, ru, ru2⟩ := vals2 r1
  obtain rfl : u = .ref a := ru
  obtain rfl : u2 = .ref b := ru2
  obtain ⟨its, rv, hal, _, _, B, hB, hB1⟩ := hq1.raw I1
  obtain ⟨its2, rv2, hbl, _, _, B2, hB2, hB21⟩ := hq2.raw I1
  refine zip_begins2 hB hB2 hB1 hB21 fun h' hz hTI hTO g1 g2 hsz hk => wpAny_pyIter_zip hz ?_
  have out : ∀ {c : Addr}, c < s1.heap.objs.size → c ∉ [s1.heap.objs.size + 4, s1.heap.objs.size + 2, s1.heap.objs.size + 3, s1.heap.objs.size, s1.heap.objs.size + 1] := fun {c} hc hm => by
    simp only [List.mem_cons, List.not_mem_nil, or_false] at hm
    rcases hm with hm | hm | hm | hm | hm <;> first
      | exact absurd hm (Nat.ne_of_lt hc)
      | exact absurd hm (Nat.ne_of_lt (Nat.lt_of_lt_of_le hc (Nat.le_add_right _ _)))
  refine ⟨s1.heap.objs.size + 4, [s1.heap.objs.size + 4, s1.heap.objs.size + 2, s1.heap.objs.size + 3, s1.heap.objs.size, s1.heap.objs.size + 1], _, _, H1, rfl, I1.kept (t' := s1.toks) hk, turn_Z (l1 := l1) (l2 := l2) (a := a) (b := b) (min xs.length ys.length) ?_ (out hal) (out hbl), ⟨hz, hTI, ⟨_, _, hTO⟩, itr_start g1, itr_start g2, Nat.zero_le _⟩, fun c hc => ?_, q⟩
  · simp
  · have hle : s1.heap.objs.size ≤ c := by
      simp only [List.mem_cons, List.not_mem_nil, or_false] at hc
      rcases hc with rfl | rfl | rfl | rfl | rfl <;> first
        | exact Nat.le_refl _
        | exact Nat.le_add_right _ _
    exact I1.fpOk hle (I1.hok.fresh hle)
end
end L3
namespace L3
open PySem PySem.Spec PyProof.Rows L2
def enumD (ds : List D) : List D := ds.mapIdx fun i d => .tuple [.int (i : Nat), d]
def zipD (ds es : List D) : List D := List.zipWith (fun d e => .tuple [d, e]) ds es
def enumT (ρ : En) : List D → Option (It3 × En)
  | [d] => (seq2D d).map fun ds => (.items (enumD ds), ρ)
  | _ => none
def zipT (ρ : En) : List D → Option (It3 × En)
  | [d, e] => (seq2D d).bind fun ds => (seq2D e).map fun es => (.items (zipD ds es), ρ)
  | _ => none
def mienum (ms : MA) : MI := fun ρ => (ms ρ).bind fun x => (fzs x.2 x.1).bind fun y => enumT y.2 y.1
def mizip (ms : MA) : MI := fun ρ => (ms ρ).bind fun x => (fzs x.2 x.1).bind fun y => zipT y.2 y.1
section
variable {K : PySem.W.Frag} {N : Addr → Prop} {H : Hp} {v : V}
theorem Rep.sqB {d : D} {ds : List D} (h : Rep K N H v d) (e : seq2D d = some ds) : ∃ l a xs, v = .ref a ∧ SqB l K H a xs ∧ RepL K N H xs ds ∧ ∀ N1 H1, Evo N H N1 H1 → SqB l K H1 a xs := by
  unfold seq2D at e
  split at e
  · cases e
    cases h with
    | lst h1 h2 => exact ⟨true, _, _, rfl, h1.sq, h2, fun N1 H1 ev => (h1.evo ev).sq⟩
  · cases e
    cases h with
    | tup h1 h2 => exact ⟨false, _, _, rfl, h1.sq, h2, fun N1 H1 ev => (h1.evo ev).sq⟩
  · cases e
theorem pair_rep {N1 : Addr → Prop} {H2 : Hp} {T : Addr} {o : Obj} {x y : V} {d e : D} (tk : Trk N1 H2) (hT : H2 T = none) (ho : o.dict = none) (rx : Rep K N1 H2 x d) (ry : Rep K N1 H2 y e) : Rep K N1 (upd H2 T (.frz o (.tup [x, y]))) (.ref T) (.tuple [d, e]) := by
  have ev : Evo N1 H2 N1 (upd H2 T (.frz o (.tup [x, y]))) := ⟨fun a u q _ => fresh_upd hT a u q, fun a z => .inl z⟩
  refine .tup (.inl ⟨⟨o, upd_same, ho⟩, fun z => ?_⟩) (.cons (Rep.evo ev _ _ rx) (.cons (Rep.evo ev _ _ ry) .nil))
  obtain ⟨u, e⟩ := tk T z
  rw [hT] at e
  cases e
end
section
variable {G : GC} {S : SC}
theorem di_enum {e : Expr} {elts : List Expr} {kk : Nat} {tpos p pos : Pos} {ms : MA} (hg : S.sc.names.lookup (Str.ofString "enumerate") = some NameKind.globalImplicit) (hm : G.mg (Str.ofString "enumerate") = none) (ha : DA G S [e] ms) (hs : ∀ env : PySem.Env, starEach [e] env = [(false, eval e env)]) :
    DI G S (.Tuple elts kk tpos) (.Call (.Name "enumerate" p) [e] [] pos) (mienum ms) := by
  intro X c
  refine PI.weak (pi_E (by show X.env.scope.names.lookup _ = _; rw [c.sc]; exact hg) (by rw [c.mg]; exact hm) (ha X c) (hs _)) ?_
  rintro σ H R ⟨W, ρ, it, ρ', rel, em, q⟩
  unfold mienum at em
  obtain ⟨⟨rs, ρ1⟩, e1, em⟩ := Option.bind_eq_some_iff.mp em
  obtain ⟨⟨ds, ρ2⟩, e2, em⟩ := Option.bind_eq_some_iff.mp em
  unfold enumT at em
  simp only at em
  split at em
  · rename_i d
    obtain ⟨es, e3, em⟩ := Option.map_eq_some_iff.mp em
    cases em
    refine ⟨W, ρ, rs, ρ1, rel, e1, fun vs H1 p1 f1 => ?_⟩
    obtain ⟨p2, rl⟩ := fzs_ok p1.rel f1 e2
    cases rl with
    | cons r t =>
      cases t
      obtain ⟨l, a, xs, rfl, h1, h2, h3⟩ := r.sqB e3
      rw [c.K]
      refine ⟨l, a, xs, rfl, h1, q _ H1 (p1.trans p2) fun N1 H2 ev tk => ⟨fun n d hd => ?_, fun n hn => ⟨xs, h3 _ _ ev, rfl, ?_⟩⟩⟩
      · unfold enumD at hd
        rw [List.getElem?_mapIdx] at hd
        obtain ⟨d', hd', rfl⟩ := Option.map_eq_some_iff.mp hd
        obtain ⟨x, hx, rx⟩ := h2.get hd'
        refine ⟨⟨xs, x, h3 _ _ ev, rfl, hx⟩, ?_⟩
        rintro v H3 ⟨T, o, y, rfl, hT, ho, rfl, hy⟩
        have ey := hy xs (h3 _ _ ev)
        rw [hx] at ey
        cases ey
        exact ⟨fun b u e => fresh_upd hT b u e, pair_rep tk hT ho (.int _) (Rep.evo ev _ _ rx)⟩
      · unfold enumD at hn
        rw [List.length_mapIdx, ← h2.length] at hn
        exact hn
  · cases em
theorem di_zip {e e' : Expr} {elts : List Expr} {kk : Nat} {tpos p pos : Pos} {ms : MA} (hg : S.sc.names.lookup (Str.ofString "zip") = some NameKind.globalImplicit) (hm : G.mg (Str.ofString "zip") = none) (ha : DA G S [e, e'] ms) (hs : ∀ env : PySem.Env, starEach [e, e'] env = (false, eval e env) :: starEach [e'] env) (hpl : ∀ env : PySem.Env, (backTo pos (starEach [e'] env)).any (·.1) = false) :
    DI G S (.Tuple elts kk tpos) (.Call (.Name "zip" p) [e, e'] [] pos) (mizip ms) := by
  intro X c
  refine PI.weak (pi_Z (by show X.env.scope.names.lookup _ = _; rw [c.sc]; exact hg) (by rw [c.mg]; exact hm) (ha X c) (hs _) (hpl _)) ?_
  rintro σ H R ⟨W, ρ, it, ρ', rel, em, q⟩
  unfold mizip at em
  obtain ⟨⟨rs, ρ1⟩, e1, em⟩ := Option.bind_eq_some_iff.mp em
  obtain ⟨⟨ds, ρ2⟩, e2, em⟩ := Option.bind_eq_some_iff.mp em
  unfold zipT at em
  simp only at em
  split at em
  · rename_i d d2
    obtain ⟨ds1, e3, em⟩ := Option.bind_eq_some_iff.mp em
    obtain ⟨ds2, e4, em⟩ := Option.map_eq_some_iff.mp em
    cases em
    refine ⟨W, ρ, rs, ρ1, rel, e1, fun vs H1 p1 f1 => ?_⟩
    obtain ⟨p2, rl⟩ := fzs_ok p1.rel f1 e2
    cases rl with
    | cons r t =>
      cases t with
      | cons r' t =>
        cases t
        obtain ⟨l, a, xs, rfl, h1, h2, h3⟩ := r.sqB e3
        obtain ⟨l', a', xs', rfl, h1', h2', h3'⟩ := r'.sqB e4
        rw [c.K]
        refine ⟨l, l', a, a', xs, xs', rfl, h1, h1', q _ H1 (p1.trans p2) fun N1 H2 ev tk => ⟨fun n d hd => ?_, fun n hn => ⟨xs, xs', h3 _ _ ev, h3' _ _ ev, rfl, ?_⟩⟩⟩
        · unfold zipD at hd
          rw [List.getElem?_zipWith] at hd
          cases hd1 : ds1[n]? with
          | none => rw [hd1] at hd; simp at hd
          | some d1 =>
            cases hd2 : ds2[n]? with
            | none => rw [hd1, hd2] at hd; simp at hd
            | some d2 =>
              rw [hd1, hd2] at hd
              cases hd
              obtain ⟨x, hx, rx⟩ := h2.get hd1
              obtain ⟨x', hx', rx'⟩ := h2'.get hd2
              refine ⟨⟨xs, xs', x, x', h3 _ _ ev, h3' _ _ ev, rfl, hx, hx'⟩, ?_⟩
              rintro v H3 ⟨T, o, y, y', rfl, hT, ho, rfl, hy, hy'⟩
              have ey := hy xs (h3 _ _ ev)
              rw [hx] at ey
              cases ey
              have ey' := hy' xs' (h3' _ _ ev)
              rw [hx'] at ey'
              cases ey'
              exact ⟨fun b u e => fresh_upd hT b u e, pair_rep tk hT ho (Rep.evo ev _ _ rx) (Rep.evo ev _ _ rx')⟩
        · unfold zipD at hn
          rw [List.length_zipWith, ← h2.length, ← h2'.length] at hn
          exact hn
  · cases em
end
end L3
namespace L3
open PySem PySem.Spec PyProof.Rows L2
def gseq : List MG → List D → En → Option En
  | [], [], ρ => some ρ
  | g :: gs, d :: ds, ρ => (g d ρ).bind fun ρ1 => gseq gs ds ρ1
  | _, _, _ => none
def gtupG (gs : List MG) : MG := fun d ρ => match d with
  | .tuple ds => gseq gs ds ρ
  | _ => none
section
variable {G : GC} {S : SC}
theorem PGs.weak {X : Cx} {es : List Expr} {t t' : TGs} (h : PGs X es t) (w : ∀ v σ H Q, t' v σ H Q → t v σ H Q) : PGs X es t' := ⟨fun p s σ H v u Q I r q => h.run p s σ H v u Q I r (w _ _ _ _ q)⟩
end
end L3
namespace L3
open PySem PySem.Spec PyProof.Rows L2
/-- what a name of the module holds -/
def GlobD (G : GC) (x : Str) (d : D) : Prop := ∃ u v, G.mg x = some u ∧ RelV v u ∧ ∀ (N : Addr → Prop) (H : Hp), Rep G.K N H v d
section
variable {G : GC} {S : SC}
theorem de_glob {x : Str} {pos : Pos} {d : D} (hg : S.sc.names.lookup x = some .globalImplicit) (h : GlobD G x d) (hd : (x == ("__debug__" : Str)) = false) : DE G S (.Name x pos) (mcon d) := by
  intro X c
  obtain ⟨u, v, hm, r, rep⟩ := h
  refine PE.weak (pe_glob (v := v) (u := u) (by show X.env.scope.names.lookup x = _; rw [c.sc]; exact hg) (by rw [c.mg]; exact hm) r hd) ?_
  rintro σ H Q ⟨W, ρ, r, ρ', rel, em, q⟩
  cases em
  exact q v H ⟨PostX.refl rel, rep _ _, rel.pl0 fun _ z => z⟩
end
end L3
namespace L3
open PySem PySem.Spec PyProof.Rows L2
theorem RepK.notFn {K : PySem.W.Frag} {N : Addr → Prop} {H : Hp} {kvs : List (Key × V)} {ds : List (D × D)} (h : RepK K N H kvs ds) : isFnD ds = false := by
  cases h with
  | nil => rfl
  | cons r t =>
    rename_i k _ _ _ _
    cases k with
    | inl i => exact isFnD_int _ _ _
    | inr x => exact isFnD_str _ _ _
section
variable {G : GC} {S : SC}
def fnOf (tab : List (Str × MF)) : D → Option MF
  | .dict [(.none, .str z)] => (tab.find? fun p => p.1 == z).map (·.2)
  | _ => none
end
end L3
namespace L3
open PySem PySem.Spec PyProof.Rows L2
section
variable {G : GC} {S : SC}
end
end L3
namespace L3
open PySem PySem.Spec PyProof.Rows L2
section
variable {prog : Program} {w : World} {A : Around} {E : Value → Shared → Prop} {s : Shared} {z TI TO i1 i2 T : Addr} {fp1 fp2 : List Addr} {n1 n2 i : Nat} {P1 P2 : Nat → Value → Prop} {St1 St2 : Nat → Heap → Prop} {f : Bool} {oT : Obj}
end
section
variable {prog : Program} {w : World} {A : Around} {E : Value → Shared → Prop} {I S : Addr} {n : Nat} {St : Nat → Array Value → Shared → Prop} {Fn : Array Value → Shared → Prop}
end
end L3
namespace L3
open PySem PySem.Spec PyProof.Rows L2
section
variable {prog : Program} {w : World} {A : Around} {E : Value → Shared → Prop} {s : Shared} {I : Addr} {n : Nat} {St : Nat → Array Value → Shared → Prop} {Fn : Array Value → Shared → Prop}
end
end L3
namespace L3
open PySem PySem.Spec PyProof.Rows L2
end L3
namespace L3
open PySem PySem.Spec PyProof.Rows L2
theorem Rd.ext {H H1 : Hp} {a : Addr} {u : HO} (r : Rd H a u) (e : ∀ a u, H a = some u → H1 a = some u) : Rd H1 a u := r.imp (e _ _) fun ⟨o, h⟩ => ⟨o, e _ _ h⟩
theorem SqB.ext {l : Bool} {K : PySem.W.Frag} {H H1 : Hp} {a : Addr} {xs : List V} (h : SqB l K H a xs) (e : ∀ a u, H a = some u → H1 a = some u) : SqB l K H1 a xs := by
  cases l with
  | true => exact Or.imp (fun r => Rd.ext r e) id h
  | false => exact Or.imp (fun r => Rd.ext r e) id h
theorem SRep.sqB {K : PySem.W.Frag} {N : Addr → Prop} {H : Hp} {v : V} {d : D} {ds : List D} (h : SRep K N H v d) (e : seq2D d = some ds) : ∃ l a xs, v = .ref a ∧ SqB l K H a xs ∧ RepL K N H xs ds := by
  obtain ⟨a, xs, rfl, h1 | h1, r⟩ := h.seq e
  · exact ⟨true, a, xs, rfl, h1, r⟩
  · exact ⟨false, a, xs, rfl, h1, r⟩
theorem SqB.size {l : Bool} {X : Cx} {pins : List (Addr × Obj)} {σ : L2.St} {H : Hp} {s : Shared} (I : Inv X pins σ H s) {a : Addr} {xs : List V} (h : SqB l X.K H a xs) : xs.length ≤ sizeLine := by
  cases l with
  | true => exact (I.list h).choose_spec.2.2
  | false => exact (I.tuple h).choose_spec.2.2
section
variable {X : Cx} {p p2 pos pos2 : Pos}
end
section
variable {G : GC} {S : SC}
end
end L3
namespace L3
open PySem PySem.Spec PyProof.Rows L2
section
variable {X : Cx} {G : GC} {k : Nat} {f : Addr} {fd : FuncData} {ps : List Str} {sp : Sp} {x : Str} {p pos : Pos}
theorem pe_callG0 (F : FnG ⟨X.prog, X.w, X.K, X.mg, X.base⟩ k f fd ps sp) (hr : Room k X.A) (hgd : X.A.guards = some []) (hg : Gl X x) (hm : X.mg x = some (.ref f)) (hk : PySem.W.keepIn X.K (.ref f) = true) (hb : Binds X.K fd ps [])
    (hdb : (x == ("__debug__" : Str)) = false) :
    PE X (.Call (.Name x p) [] [] pos) (fun _ H Q => sp [] H Q E0) := by
  refine ⟨fun pins s σ H Q I h => ?_⟩
  refine wpAny_Call_Name_kw (ld_glob I hg hm ?_ hdb)
  exact PySem.W.callWith_K0 I.kIn hk (run_fnG F hr hgd hb I .nil h)
theorem de_call0 {S : SC} {m : MF} (F : FnG G k f fd [] (spM G.K 0 m)) (hk : k ≤ S.k)
    (hg : S.sc.names.lookup x = some .globalImplicit) (hm : G.mg x = some (.ref f)) (hkp : PySem.W.keepIn G.K (.ref f) = true) (hb : Binds G.K fd [] []) (hdb : (x == ("__debug__" : Str)) = false) :
    DE G S (.Call (.Name x p) [] [] pos) (mcall m mnil) := by
  intro X c
  have eG : (⟨X.prog, X.w, X.K, X.mg, X.base⟩ : GC) = G := by
    obtain ⟨gp, gw, gK, gmg, gb⟩ := G
    have h1 := c.prog; have h2 := c.w; have h3 := c.K; have h4 := c.mg; have h5 := c.base
    simp only at h1 h2 h3 h4 h5
    rw [h1, h2, h3, h4, h5]
  refine PE.weak (pe_callG0 (sp := spM G.K 0 m) (by rw [eG]; exact F.mono hk) c.room c.gd (by show X.env.scope.names.lookup x = _; rw [c.sc]; exact hg) (by rw [c.mg]; exact hm) (by rw [c.K]; exact hkp) (by rw [c.K]; exact hb) hdb) ?_
  rintro σ H Q ⟨W, ρ, r, ρ', rel, em, q⟩
  unfold mcall at em
  obtain ⟨⟨rs, ρ1⟩, e1, em⟩ := Option.bind_eq_some_iff.mp em
  cases e1
  obtain ⟨as, e2, em⟩ := Option.bind_eq_some_iff.mp em
  obtain ⟨u, e3, em⟩ := Option.bind_eq_some_iff.mp em
  obtain ⟨⟨r1, outs⟩, e4, em⟩ := Option.bind_eq_some_iff.mp em
  obtain ⟨u2, e5, em⟩ := Option.bind_eq_some_iff.mp em
  cases em
  have p1 : PostX G.K W ρ σ H ρ H := PostX.refl rel
  have hs := guardO_dec e5
  refine ⟨calW W ρ σ H as [], as, r1, outs, ?_, call_in p1.rel .nil e2 (guardO_dec e3), rfl, fun i b z => ?_, fun a z => calPB z, e4, hs, fun v H' pf => q v H' (PostE.over p1 (call_out p1.rel .nil e2 (guardO_dec e3) hs pf))⟩
  · rw [← (argAs_get e2).1]; rfl
  · cases e2; simp at z
end
end L3
namespace L3
open PySem PySem.Spec PyProof.Rows L2
section
variable {G : GC} {S : SC} {e : Expr} {p : Pos} {es : List Expr} {m : ME} {ms : MA}
end
end L3
namespace L3
open PySem PySem.Spec PyProof.Rows L2
section
variable {X : Cx} {pins : List (Addr × Obj)} {σ : L2.St}
end
section
variable {G : GC} {S : SC}
end
end L3
namespace L3
open PySem PySem.Spec PyProof.Rows L2
section
variable {G : GC} {S : SC}
end
end L3
namespace L3
open PySem PySem.Spec PyProof.Rows L2
section
variable {prog : Program} {w : World} {A : Around} {E : Value → Shared → Prop} {s : Shared} {I : Addr} {n : Nat} {St : Nat → Array Value → Shared → Prop} {Fn : Array Value → Shared → Prop}
end
section
variable {X : Cx} {p p2 pos pos2 : Pos}
end
section
variable {G : GC} {S : SC}
end
end L3
namespace L3
open PySem PySem.Spec PyProof.Rows L2
section
variable {G : GC} {S : SC}
end
end L3
namespace L3
open PySem PySem.Spec PyProof.Rows L2
section
variable {G : GC} {S : SC}
end
end L3
namespace L3
open PySem PySem.Spec PyProof.Rows L2
def mulTD : D → D → Option R
  | .tuple ds, .int k => if ds ≠ [] ∧ 2 ≤ k ∧ k ≤ 1000 ∧ ds.length ≤ 100 then some (.dat (.tuple (List.replicate k.toNat ds).flatten)) else none
  | _, _ => none
section
variable {G : GC} {S : SC}
theorem op_mulTD (X : Cx) (c : CxOk G S X) : OpR X (binaryOp .Mult) (rD2 G.K mulTD) := by
  intro pins s σ H x y v u Q I rx ry ⟨N, d, e, r, tk, hx, hy, eg, q⟩
  rw [← c.K] at hx hy q
  unfold mulTD at eg
  split at eg
  · rename_i ds k
    split at eg
    · rename_i hk
      obtain ⟨hne, h1, h2, hz⟩ := hk
      cases eg
      have e2 := hy.int
      subst e2
      obtain ⟨a, xs, rfl, hT, l1⟩ := hx.tuple
      cases rx
      obtain ⟨t, rfl⟩ := ry
      obtain ⟨its, r1, ⟨⟨cls, dd, data, sl⟩, ho, hc, n, hd⟩, hs⟩ := I.tuple hT.sq
      simp only at hc hd
      subst hc hd
      have hle : its.length = ds.length := by rw [← r1.length, l1.length]
      have hn : its ≠ [] := fun e => hne (List.eq_nil_of_length_eq_zero (by rw [← hle, e]; rfl))
      have hi : its.toArray.isEmpty = false := by
        cases its with
        | nil => exact absurd rfl hn
        | cons a b => rfl
      have hsz : its.toArray.size = ds.length := by rw [List.size_toArray, hle]
      have hm : ((its.toArray.size : Nat) : Int) * k ≤ 100 * 1000 := by
        rw [hsz]
        exact Int.le_trans (Int.mul_le_mul_of_nonneg_right (b := 100) (by omega) (by omega)) (by omega)
      have hfl : ∀ {α : Type} (l : List α), l.length = ds.length → (List.replicate k.toNat l).flatten.length ≤ sizeLine := fun l hl => by
        rw [PyProof.Rows.lm_len_rep_flat, hl, sizeLine_eq]
        have := Nat.mul_le_mul (show k.toNat ≤ 1000 by omega) hz
        omega
      refine wpAny_binaryOp_repeat_ref (T := "tuple") (U := "int") (by decide) ⟨_, ho, rfl⟩ (fun s' => typeIs_int s' k t) noFill_tuple_mul F.fills_int_mul F.slot_int_rmul repeat_tuple F.slot_int_index.lookup
        (call_meets F.slot_int_rmul (typeIs_int s k t) F.entry_int_rmul (F.args_int_rmul_2 _ _) (int_rmul_tuple k t a its.toArray n dd sl)
          ⟨ho, rfl, ⟨_, ho, rfl⟩, call_meets F.slot_tuple_mul ⟨_, ho, rfl⟩ F.entry_tuple_mul (F.args_tuple_mul_2 _ _) (tuple_mulW a its.toArray n dd sl k t
            (by rw [decide_eq_false (by omega), decide_eq_false (by omega)] <;> rfl) (by rw [hi, Bool.false_or]; exact beq_eq_false_iff_ne.mpr (by omega)) (by rw [hi, Bool.or_false]; exact decide_eq_false (by omega)) (by omega)
            (by unfold Builtin.Tuple.tupleTooMany; rw [sizeLine_eq]; exact decide_eq_false (by omega)) (by rw [size_rep, List.size_toArray]; exact hfl its hle)) ⟨ho, ?_⟩⟩)
      rw [size_rep]
      exact ⟨.ref s.heap.objs.size, _, ftup_new (t' := s.toks) I (r1.rep k.toNat) (hfl xs l1.length), rfl, q _ _ (.tup tk I.fresh rfl (l1.rep k.toNat))⟩
    · cases eg
  · cases eg
end
end L3
namespace L3
open PySem PySem.Spec PyProof.Rows L2
end L3
namespace PySem.SeqAt
open AutoSeq1 (wpAny_loadPart')
open MeetsSeq MeetsSeq2 MeetsSeq3 SeqRoads2
theorem str_eq_declines_dict (b : Str) (u : Tok) (l : Addr) (c : Value) (es : Array DictEntry) (n : Nat) (dd : Option Addr) (sl : Array (Option Value)) :
    Meets (Builtin.«str.__eq__» ⟨[.str b u, .ref l], []⟩) (fun _ R s => s.heap.get? l = some { cls := c, dict := dd, data := .dict es n, slots := sl } ∧ R (.ok (.ret .notImplemented)) s) :=
  .of_wp fun prog w A R s h => by obtain ⟨hp, g, d, tk, os⟩ := s; obtain ⟨hl, h⟩ := h; wp_walk using wpAny_loadPart' hl, wpAny_load hl; exact ⟨_, rfl, h⟩
theorem dict_eq_declines_str {prog : Program} {w : World} {A : Around} {E : Value → Shared → Prop} {s : Shared} {Q : Value → Shared → Prop} (b : Str) (u : Tok) {a : Addr} (ha : s.TypeIs (.ref a) "dict") (h : Q .notImplemented s) :
    wpAny (model prog w) A (call (.builtin "dict.__eq__") [.ref a, .str b u]) Q E s := by
  refine wpAny_call_entry PySem.F.slot_dict_eq ha PySem.F.entry_dict_eq ?_ (PySem.F.args_dict_eq_2 _ _)
  show wpAny _ _ (Builtin.Dict.dictSlotArgs "__eq__" ⟨[.ref a, .str b u], []⟩ >>= _) _ _ s
  refine wpAny_bind ?_
  unfold Builtin.Dict.dictSlotArgs
  refine wpAny_bind (wpAny_notOrdered_dict ha ?_)
  show wpAny _ _ (pure (Value.ref a, Value.str b u)) _ _ s
  refine wpAny_pure ?_
  refine wpAny_bind (wpAny_isInstance (T := "str") (typeIs_str s b u) PySem.F.sub_str_dict ?_)
  simp only [Bool.not_false, if_true]
  exact wpAny_bind (wpAny_rule (wpAny_pure ⟨_, rfl, h⟩))
theorem RcAt.str_dict {A : Around} {s : Shared} {a : Addr} {o : Obj} {es : Array DictEntry} {n : Nat} (b : Str) (u : Tok) (ho : s.heap.get? a = some o) (hc : o.cls = .type "dict") (hd : o.data = .dict es n) (hu : A.units < cLine) : RcAt A s (.str b u) (.ref a) false := fun prog w E Q h => by
  obtain ⟨cls, dd, data, sl⟩ := o
  simp only at hc hd
  subst hc hd
  exact rc_eq_decline_or (k := false) (typeIs_str s b u) ⟨_, ho, rfl⟩ (by decide) F.sub_dict_str F.slot_str_eq F.slot_dict_eq_refl
    (fun _ hq => call_meets F.slot_str_eq (typeIs_str s b u) F.entry_str_eq (F.args_str_eq_2 _ _) (str_eq_declines_dict b u a (.type "dict") es n dd sl) ⟨ho, hq⟩)
    (fun _ hq => dict_eq_declines_str b u ⟨_, ho, rfl⟩ hq)
    (fun _ hq => wpAny_of_eq (rfl : isSame (.str b u) (.ref a) = pure false) hq) (.inr hu) h
theorem EqAt.str_dict {A : Around} {s : Shared} {a : Addr} {o : Obj} {es : Array DictEntry} {n : Nat} (b : Str) (u : Tok) (ho : s.heap.get? a = some o) (hc : o.cls = .type "dict") (hd : o.data = .dict es n) (hu : A.units < cLine) : EqAt A s (.str b u) (.ref a) false := fun prog w E Q h => by
  unfold eqBool
  refine wpAny_holding ?_
  refine wpAny_ite_split (fun hab => absurd (eq_of_beq hab) nofun) (fun _ => ?_)
  exact wpAny_bind (RcAt.str_dict b u ho hc hd hu prog w E _ (wpAny_truthy_bool h))
end PySem.SeqAt
namespace L3
open PySem PySem.Spec PyProof.Rows L2
def notFnT : D → Bool
  | .dict kvs => !isFnD kvs
  | _ => true
def isStE : D → Bool
  | .str _ => true
  | _ => false
/-- a text beside any value, a row of texts beside a row of any values -/
def cmpE (d e : D) : Bool := match d with
  | .str _ => notFnT e
  | .tuple xs => match e with
    | .tuple ys => xs.all isStE && ys.all notFnT
    | _ => false
  | _ => false
def nilK : D → Bool
  | .dict [] => true
  | _ => false
def eqE (d e : D) : Option R := if cmpE d e = true then some (.dat (.bool (PyData.eqv d e))) else eqD d e
def neE (d e : D) : Option R := if (nilK d && nilK e) = true then some (.dat (.bool false)) else neD d e
section
variable {X : Cx} {pins : List (Addr × Obj)} {σ : L2.St} {H : Hp} {s : Shared} {N : Addr → Prop}
theorem str_anyAt (I : Inv X pins σ H s) {d : D} {v : V} {u : Value} (h : SRep X.K N H v d) (r : RelV v u) (hn : notFnT d = true) (x : Str) (t : Tok) {A : Around} (hu : A.units < cLine) : SeqAt.EqAt A s (.str x t) u (PyData.eqv (.str x) d) := by
  cases d with
  | none => rw [h.none] at r; cases r; exact SeqAt.EqAt.str_none x t
  | bool b => rw [h.bool] at r; cases r; exact SeqAt.EqAt.str_bool x t b
  | int i => rw [h.int] at r; obtain ⟨t', rfl⟩ := r; exact SeqAt.EqAt.str_int x t i t'
  | str y => rw [h.str] at r; obtain ⟨t', rfl⟩ := r; exact SeqAt.EqAt.str_str x t y t'
  | list ds =>
    obtain ⟨a, xs, rfl, h1, _⟩ := h.list
    cases r
    obtain ⟨its, rv, p, _⟩ := I.list h1
    exact SeqAt.EqAt.str_list x t p.isList hu
  | tuple ds =>
    obtain ⟨a, xs, rfl, h1, _⟩ := h.tuple
    cases r
    obtain ⟨its, rv, p, _⟩ := I.tuple h1.sq
    exact SeqAt.EqAt.str_tuple x t p hu
  | dict ds =>
    obtain ⟨a, kvs, rfl, h1, h3⟩ := h.dict (by simpa [notFnT] using hn)
    cases r
    obtain ⟨z, hsm, vs, hkv, o, es, ep, ho, hx, hd, _⟩ := dk_of I.hok h1
    exact SeqAt.EqAt.str_dict x t ho hx.1 hd hu
theorem strs_at (I : Inv X pins σ H s) {A : Around} (hu : A.units < cLine) : ∀ (xs : List D) (vs : List V) (us : List Value), RepL X.K N H vs xs → Vals vs us → xs.all isStE = true → ∀ (ds : List D) (ws : List V) (zs : List Value), RepL X.K N H ws ds → Vals ws zs →
    ds.all notFnT = true → ∀ j (h1 : j < us.length) (h2 : j < zs.length), SeqAt.EqAt A s us[j] zs[j] (SeqAt.pairEq xs ds j)
  | [], _, _, ha, va, _, _, _, _, _, _, _, j, h1, _ => by cases ha; cases va; exact absurd h1 (Nat.not_lt_zero _)
  | _ :: _, _, _, _, _, _, [], _, _, hb, vb, _, j, _, h2 => by cases hb; cases vb; exact absurd h2 (Nat.not_lt_zero _)
  | x :: xs, _, _, ha, va, hx, d :: ds, _, _, hb, vb, hd, j, h1, h2 => by
    rw [List.all_cons, Bool.and_eq_true] at hx hd
    cases ha with
    | cons a1 a2 =>
      cases va with
      | cons r1 r2 =>
        cases hb with
        | cons b1 b2 =>
          cases vb with
          | cons q1 q2 =>
            cases j with
            | zero =>
              cases x with
              | str y =>
                have := SRep.str (.inl a1); subst this
                obtain ⟨t, rfl⟩ := r1
                exact str_anyAt I (.inl b1) q1 hd.1 y t hu
              | none => cases hx.1
              | bool _ => cases hx.1
              | int _ => cases hx.1
              | list _ => cases hx.1
              | tuple _ => cases hx.1
              | dict _ => cases hx.1
            | succ j => exact strs_at I hu xs _ _ a2 r2 hx.2 ds _ _ b2 q2 hd.2 j (Nat.lt_of_succ_lt_succ h1) (Nat.lt_of_succ_lt_succ h2)
/-- the same of the operation itself -/
theorem cmpE_rc (I : Inv X pins σ H s) {A : Around} (hu : A.units + 2 < cLine) {d e : D} {v w : V} {u z : Value} (hx : SRep X.K N H v d) (hy : SRep X.K N H w e) (rx : RelV v u) (ry : RelV w z) (h : cmpE d e = true) : SeqAt.RcAt A s u z (PyData.eqv d e) := by
  cases d with
  | str x =>
    have q := hx.str; subst q
    obtain ⟨t, rfl⟩ := rx
    have hu' : A.units < cLine := by omega
    cases e with
    | none => rw [hy.none] at ry; cases ry; exact SeqAt.RcAt.str_none x t
    | bool b => rw [hy.bool] at ry; cases ry; exact SeqAt.RcAt.str_bool x t b
    | int i => rw [hy.int] at ry; obtain ⟨t', rfl⟩ := ry; exact SeqAt.RcAt.str_int x t i t'
    | str y => rw [hy.str] at ry; obtain ⟨t', rfl⟩ := ry; exact SeqAt.RcAt.str_str x t y t'
    | list ds =>
      obtain ⟨a, xs, rfl, h1, _⟩ := hy.list
      cases ry
      obtain ⟨its, rv, p, _⟩ := I.list h1
      exact SeqAt.RcAt.str_list x t p.isList hu'
    | tuple ds =>
      obtain ⟨a, xs, rfl, h1, _⟩ := hy.tuple
      cases ry
      obtain ⟨its, rv, p, _⟩ := I.tuple h1.sq
      exact SeqAt.RcAt.str_tuple x t p hu'
    | dict ds =>
      obtain ⟨a, kvs, rfl, h1, h3⟩ := hy.dict (by simpa [cmpE, notFnT] using h)
      cases ry
      obtain ⟨z, hsm, vs, hkv, o, es, ep, ho, hx, hd, _⟩ := dk_of I.hok h1
      exact SeqAt.RcAt.str_dict x t ho hx.1 hd hu'
  | tuple xs =>
    cases e with
    | tuple ys =>
      obtain ⟨h1, h2⟩ := Bool.and_eq_true_iff.mp h
      obtain ⟨a, vs, rfl, k1, l1⟩ := hx.tuple
      obtain ⟨b, ws, rfl, k2, l2⟩ := hy.tuple
      cases rx
      cases ry
      show SeqAt.RcAt A s (.ref a) (.ref b) (PyData.eqvAll xs ys)
      obtain ⟨its, r1, p1, _⟩ := I.tuple k1.sq
      obtain ⟨its2, r2, p2, _⟩ := I.tuple k2.sq
      have n1 : its.toArray.size = xs.length := by rw [List.size_toArray, ← r1.length, l1.length]
      have n2 : its2.toArray.size = ys.length := by rw [List.size_toArray, ← r2.length, l2.length]
      rw [← SeqAt.eqvAll_eq xs ys, ← n1, ← n2]
      refine SeqAt.RcAt.tuples p1 p2 (by omega) fun j j1 j2 => ?_
      have := strs_at I (A := A.in1) (by show A.units + 1 < cLine; omega) xs _ _ l1 r1 h1 ys _ _ l2 r2 h2 j (by simpa using j1) (by simpa using j2)
      simpa using this
    | none => cases h
    | bool _ => cases h
    | int _ => cases h
    | str _ => cases h
    | list _ => cases h
    | dict _ => cases h
  | none => cases h
  | bool _ => cases h
  | int _ => cases h
  | list _ => cases h
  | dict _ => cases h
end
section
variable {G : GC} {S : SC}
theorem op_eqE (X : Cx) (c : CxOk G S X) : OpR X (compareOp .Eq) (rD2 G.K eqE) := by
  intro pins s σ H x y v u Q I rx ry ⟨N, d, e, r, tk, hx, hy, eg, q⟩
  unfold eqE at eg
  split at eg
  · cases eg
    rename_i h
    rw [← c.K] at hx hy q
    have hu := hu65 c.room
    exact cmpE_rc I (by omega) hx hy rx ry h _ _ _ _ ⟨.bl _, H, I, rfl, q _ H (.dat (.bl _))⟩
  · exact op_eqD' X c pins s σ H x y v u Q I rx ry ⟨N, d, e, r, tk, hx, hy, eg, q⟩
end
end L3
namespace L3
open PySem PySem.Spec PyProof.Rows L2
section
variable {prog : Program} {w : World} {h₀ : Heap} {a : Addr}
end
section
variable {X : Cx} {pins : List (Addr × Obj)} {σ : L2.St} {H : Hp} {s : Shared} {N : Addr → Prop}
/-- what is told of the items -/
def RdA (X : Cx) (s : Shared) (us : List Value) (ds : List D) : Prop := (∃ as, ReadsAll s.heap us ds as) ∧ ∃ bs, ReadAtMost s.heap (PyData.depthAll ds) bs ∧ ReprAllK X.prog X.w bs s.heap (PyData.depthAll ds) us (PyData.shownAll ds)
theorem RdA.nil : RdA X s [] [] := ⟨⟨_, .nil⟩, [], (fun _ h => nomatch h), by simp only [PyData.shownAll]; exact .nil⟩
end
section
variable {G : GC} {S : SC}
end
end L3
namespace L3
open PySem PySem.Spec PyProof.Rows L2
@[simp] theorem q_eqE_1 (x y : Str) : eqE (.str x) (.str y) = some (.dat (.bool (x == y))) := by simp [eqE, cmpE, notFnT, PyData.eqv]
@[simp] theorem q_eqE_2 (i : Int) (e : D) : eqE (.int i) e = eqD (.int i) e := rfl
@[simp] theorem q_eqE_3 (x : Str) : eqE (.str x) .none = some (.dat (.bool false)) := by simp [eqE, cmpE, notFnT, PyData.eqv]
@[simp] theorem q_eqE_4 (e : D) : eqE .none e = eqD .none e := rfl
@[simp] theorem q_neE_1 (i : Int) (e : D) : neE (.int i) e = neD (.int i) e := rfl
@[simp] theorem q_neE_2 (x : Str) (e : D) : neE (.str x) e = neD (.str x) e := rfl
@[simp] theorem q_neE_3 (xs : List D) (e : D) : neE (.list xs) e = neD (.list xs) e := rfl
@[simp] theorem q_neE_4 (xs : List D) (e : D) : neE (.tuple xs) e = neD (.tuple xs) e := rfl
@[simp] theorem q_neE_5 (e : D) : neE .none e = neD .none e := rfl
@[simp] theorem q_neE_6 (b : Bool) (e : D) : neE (.bool b) e = neD (.bool b) e := rfl
@[simp] theorem q_neE_7 : neE (.dict []) (.dict []) = some (.dat (.bool false)) := rfl
end L3
namespace L3
open PySem PySem.W PySem.Calls PyProof.Rows L2 PySem.Spec
def initBody (pn f : Str) (p0 p1 p2 p3 p4 p5 p6 p7 p8 p9 : Pos) : List Stmt :=
  [.Expr (.Call (.Attribute (.Call (.Name "super" p0) [] [] p1) "__init__" p2) [.Name pn p3] [] p4) p5, .Assign [.Attribute (.Name "self" p6) f p7] (.Name pn p8) p9]
structure InitScope (scope : Scope) (pn : Str) : Prop where
  sup : scope.names.lookup ("super" : Str) = some .globalImplicit
  cl : scope.names.lookup ("__class__" : Str) = some .free
  self : scope.names.lookup ("self" : Str) = some .local
  par : scope.names.lookup pn = some .local
  kind : scope.kind = .function
  nocell : ∀ x ∈ scope.names, x.2 ≠ .cell
  co : scope.isCoroutine = false
  gen : scope.isGenerator = false
  ne : (pn == ("self" : Str)) = false
  nd : (pn == ("__debug__" : Str)) = false
theorem meth_eq {o e : Expr} {name : Str} {apos pos : Pos} {env : Env} (hp : (apos.endLine == pos.line) = true) (he : starEach [e] env = [(false, eval e env)] := by rfl) :
    eval (.Call (.Attribute o name apos) [e] [] pos) env = (do
      let ov ← attributeBase o name env (eval o env)
      standAt apos.atName
      let (f, first) ← holding [ov] (getMethod ov name (do return (← importBound o env).getD true))
      callWith pos f first (backTo pos (starEach [e] env)) []) := by
  show (do
    let ov ← attributeBase o name env (eval o env)
    standAt apos.atName
    methodCall o name apos pos env ov 1 (backTo pos (starEach [e] env)) []) = _
  congr 1; funext ov; congr 1; funext u
  unfold methodCall
  rw [he]
  show (holding [ov] (calleeOf true o env ov name) >>= fun x => methodCallPos true o env apos pos >>= fun q => callWith q x.1 x.2 (backTo pos [(false, eval e env)]) []) = _
  congr 1; funext x
  unfold methodCallPos
  rw [hp]
  rfl
/-- what the written part says of the class at C, its field f -/
structure XcK (K : Frag) (prog : Program) (C : Addr) (pn f : Str) : Prop where
  oex : OexC K C
  xt : XcT K C
  new : excInitIn K C [.type "ValueError", .type "Exception", .type "BaseException", .type "object"] "ValueError.__new__" = true
  nof : findIn K (.ref C) f = some none
  ini : ∃ (fI cc cda : Addr) (oc ccl cl dV kV doc pm ct : Value) (od an cdd cld : Option Addr) (osl ccs csl : Array (Option Value)) (vs : Array Value) (file : Str) (tf : Tok) (name qual : Str) (params : Arguments) (scope : Scope) (ar : Arg) (p0 p1 p2 p3 p4 p5 p6 p7 p8 p9 : Pos),
    findIn K (.ref C) "__init__" = some (some (.ref fI)) ∧ typeIn K (.ref fI) = some (.type "function") ∧
    K.lookup fI = some ⟨oc, od, .func (ksFn name qual params (initBody pn f p0 p1 p2 p3 p4 p5 p6 p7 p8 p9) scope dV kV doc pm an (.ref cda) ct cc), osl⟩ ∧ codeIn K (.ref cda) qual = true ∧
    (params.posonlyargs ++ params.args).head? = some ar ∧ ar.arg = "self" ∧
    (∀ (s : Shared) (e v : Value), BindsTo s (ksFn name qual params (initBody pn f p0 p1 p2 p3 p4 p5 p6 p7 p8 p9) scope dV kV doc pm an (.ref cda) ct cc) ⟨[e, v], []⟩ [("self", e), (pn, v)]) ∧
    K.lookup cda = some ⟨ccl, cdd, .fields vs, ccs⟩ ∧ vs[2]? = some (.str file tf) ∧ ((prog.main.file : Str) == file) = true ∧
    K.lookup cc = some ⟨cl, cld, .cell (some (.ref C)), csl⟩ ∧ InitScope scope pn ∧ (p2.endLine == p4.line) = true
  sub : mroIn K C (.ref C) = some true
  sup : nsIn K mainGlobals "super" = some none
  top : (prog.main.scope.names.lookup ("super" : Str)).isSome = false
  thp : nsIn K cStatics "thirdparty.any" = some none
  bas : ks_superIn K C C "__init__" = some (some (.builtin "ValueError.__init__"))
  ve : subIn K (.ref C) (.type "ValueError") = some true
section
variable {prog : Program} {w : World} {K : Frag} {C : Addr} {pn f : Str} {A : Around} {E : Value → Shared → Prop} {mg : Str → Option Value}
theorem exc_made {s : Shared} {v : Value} {Q : Value → Shared → Prop} {base : Heap} (T : XcK K prog C pn f) (M : L2.Mod K mg base) (bk : ∀ b o, base.get? b = some o → s.heap.get? b = some o) (hd : A.depth + 8 < recursionLimit)
    (hq : ∀ (h' : Heap) (t' : Nat) (x t dx : Addr), (∀ b o, s.heap.get? b = some o → h'.get? b = some o) → s.heap.objs.size ≤ x → s.heap.objs.size ≤ t → s.heap.objs.size ≤ dx → x ≠ t → x ≠ dx → t ≠ dx →
      h'.get? x = some (excObj C t (some dx) .none) → h'.get? t = some (excTup [v]) → h'.Ns1 dx (fun y => if y = f then some v else none) → Q (.ref x) { s with heap := h', toks := t' }) :
    wpAny (model prog w) A (call (.ref C) [v]) Q E s := by
  obtain ⟨nm, q, N, bs, bm, sn, sub, ab, col, dd, k0, k1, k2, k3, k5, hC, hbm⟩ := T.oex.cls
  obtain ⟨fI, cc, cda, oc, ccl, cl, dV, kV, doc, pm, ct, od, an, cdd, cld, osl, ccs, csl, vs, file, tf, name, qual, params, scope, ar, p0, p1, p2, p3, p4, p5, p6, p7, p8, p9, hi, tI, lI, cI, hp, har, hbind, lcd, hvs, hfile, lcc, sc, hpos⟩ := T.ini
  have X0 : K.In s.heap := M.kin.keeps bk
  obtain ⟨mb, hmb, hmb2⟩ := M.blt
  obtain ⟨hp0, g, d, tk, os⟩ := s
  have hcl : clsIn K C = some { name := nm, bases := bs, mro := .ref C :: bm, ns := N, qualname := q, hasDict := true, slotNames := sn, subclasses := sub, abstract := ab, collection := col, hasDel := false } := by unfold clsIn; rw [hC] <;> rfl
  refine wpAny_call (PySem.HandSPX.call_own F.excBase_ValueError (fun Y => PySem.HandSPX.refsVE_contains Y bm hbm) (X0 _ _ hC) (looks_findIn X0 hi) (fun self => bind_fn X0 self tI) (by show 1 ≤ sizeLine; rw [sizeLine_eq]; omega) ?_)
  have X2 : ∀ b o, hp0.get? b = some o → ((hp0.push (kdv_tup [v])).push (PySem.HandSPX.excO C hp0.objs.size)).get? b = some o := fun b o e => Heap.get?_push_of_some _ (Heap.get?_push_of_some _ e)
  have K2 : K.In ((hp0.push (kdv_tup [v])).push (PySem.HandSPX.excO C hp0.objs.size)) := X0.keeps X2
  have hsz : ((hp0.push (kdv_tup [v])).push (PySem.HandSPX.excO C hp0.objs.size)).objs.size = hp0.objs.size + 2 := by rw [Heap.size_push, Heap.size_push]
  have ge : ((hp0.push (kdv_tup [v])).push (PySem.HandSPX.excO C hp0.objs.size)).get? (hp0.objs.size + 1) = some (excObj C hp0.objs.size none .none) := by heap_get
  have gt : ((hp0.push (kdv_tup [v])).push (PySem.HandSPX.excO C hp0.objs.size)).get? hp0.objs.size = some (excTup [v]) := by heap_get
  have old : ∀ {a : Addr}, hp0.objs.size ≤ a → hp0.get? a = none := fun {a} z => by
    cases q : hp0.get? a with
    | none => rfl
    | some o => exact absurd (Heap.lt_size q) (Nat.not_lt.mpr z)
  refine ks_codeAny_call_defAt (o := ⟨oc, od, .func _, osl⟩) (by show A.depth + 1 < recursionLimit; omega) (K2 _ _ lI) rfl ((M.nolimit.keeps bk).keeps X2) (codeRec_of K2 cI) rfl (hbind _ _ _) sc.nocell ?_ (fun h₀ hns hk => ?_) sc.co sc.gen sc.kind
  · intro y hy
    rcases List.mem_cons.mp hy with rfl | hy
    · exact sc.self
    · rcases List.mem_cons.mp hy with rfl | hy
      · exact sc.par
      · cases hy
  rw [hsz] at hns
  rw [hsz]
  generalize hb : (fun x => List.lookup x (List.reverse [(("self" : Str), Value.ref (hp0.objs.size + 1)), (pn, v)])) = m at hns
  have ms : m "self" = some (.ref (hp0.objs.size + 1)) := by
    rw [← hb]
    have : (("self" : Str) == pn) = false := by
      have := sc.ne
      rw [← this]; exact Bool.beq_comm ..
    simp [List.lookup, this]
  have mp : m pn = some v := by rw [← hb]; simp [List.lookup]
  have F1 : Fr hp0 (hp0.objs.size + 2) h₀ m := ⟨hns, fun b o z => hk _ _ (X2 _ _ z), by omega⟩
  have N1 : News hp0 (hp0.objs.size + 2) h₀ [(hp0.objs.size + 1, excObj C hp0.objs.size none .none), (hp0.objs.size, excTup [v])] := by
    intro p hp
    rcases List.mem_cons.mp hp with rfl | hp
    · exact ⟨hk _ _ ge, Nat.ne_of_lt (Nat.lt_succ_self _), old (Nat.le_succ _)⟩
    · rcases List.mem_cons.mp hp with rfl | hp
      · exact ⟨hk _ _ gt, Nat.ne_of_lt (Nat.lt_add_of_pos_right (by decide)), old (Nat.le_refl _)⟩
      · cases hp
  have K3 : K.In h₀ := K2.keeps hk
  refine ks_wpAt_execs_cons (ks_wpAt_Expr_any (ks_wpAt_MethodCall (Q := _) (ks_wpAt_super_base (env := ksEnv qual scope (hp0.objs.size + 2) fI (.ref cda) cc) sc.sup sc.cl (by decide) rfl (K3 _ _ lI) rfl hp rfl (K3 _ _ lcd) rfl hvs hfile T.top ?_) (meth_eq hpos)) (by show (scope.kind == .module && _) = false; rw [sc.kind]; rfl) rfl)
  have hbo : ∀ b o, base.get? b = some o → h₀.get? b = some o := fun b o z => hk _ _ (X2 _ _ (bk b o z))
  refine ks_loadName_global sc.kind sc.sup (loadGlobal_builtin (env := ksEnv qual scope (hp0.objs.size + 2) fI (.ref cda) cc) (M.glob.keeps hbo) (mg_none_of M.kin M.glob T.sup) (hmb.keeps hbo) ((hmb2 _ (by decide)).trans (by kernel_rfl)) ⟨rfl, ?_⟩)
  refine wpAny_loadName_free sc.kind sc.cl rfl ⟨_, K3 _ _ lcc, rfl⟩ ?_
  rw [har]
  refine wpAny_loadName_local sc.kind sc.self F1.ns ms ?_
  refine ks_wpAny_isType_cls (K3 _ _ hC) rfl ⟨rfl, ?_⟩
  refine ks_wpAny_call_super (K3 _ _ hC) rfl (hk _ _ ge) rfl (fun c e => by cases e) (looks_mroIn K3 T.sub) (fun h1 e1 k1 => ?_)
  obtain ⟨F2, N2, l2⟩ := ks_newsPush (s := ⟨h₀, g, d, tk + 2, os⟩) F1 N1 rfl e1 k1
  have lt0 : ∀ p ∈ [(hp0.objs.size + 1, excObj C hp0.objs.size none .none), (hp0.objs.size, excTup [v])], p.1 < h₀.objs.size := l2
  have I2 : InstAt h1 (hp0.objs.size + 1) (excObj C hp0.objs.size none .none) C none := ⟨k1 _ _ (hk _ _ ge), rfl, rfl, trivial⟩
  refine kxs_method (s := ⟨h1, g, d, _, os⟩) kxs_ValueError F2 X0 N2 (List.mem_cons_self ..) I2 T.thp T.bas T.ve (by decide) (fun u h2 F3 N3 l3 => ?_)
  refine kxs_callWith1 N3 (List.mem_cons_self ..) ?_
  refine Calls.spliced_cons (ESX.ldL F3.ns mp ?_ sc.kind sc.par sc.nd)
  refine Calls.spliced_nil ⟨kxs_at N3 (List.mem_cons_self ..), ?_⟩
  have ltu : ∀ p ∈ (h₀.objs.size, ks_superObj C (hp0.objs.size + 1) C) :: [(hp0.objs.size + 1, excObj C hp0.objs.size none .none), (hp0.objs.size, excTup [v])], p.1 < u := l3
  have e_u : (u : Nat) ≠ hp0.objs.size + 1 := Nat.ne_of_gt (ltu (_, _) (List.mem_cons_of_mem _ (List.mem_cons_self ..)))
  have e_s : (h₀.objs.size : Nat) ≠ hp0.objs.size + 1 := Nat.ne_of_gt (lt0 (_, _) (List.mem_cons_self ..))
  refine kxs_call (t := hp0.objs.size) (dv := none) (c2 := .none) F3 X0 N3 F.excBase_ValueError T.new (List.mem_cons_self ..)
    (UpdF.tail e_u (.tail e_s (.head fun p hp => by rcases List.mem_cons.mp hp with rfl | hp; exact Nat.ne_of_lt (Nat.lt_succ_self _); cases hp))) (by show 1 ≤ sizeLine; rw [sizeLine_eq]; omega) (fun t1 h3 F4 N4 l4 => ?_)
  have K4 : K.In h3 := X0.keeps F4.keep
  have gx : h3.get? (hp0.objs.size + 1) = some (excObj C t1 none .none) := (N4 (hp0.objs.size + 1, excObj C t1 none .none) (by simp)).1
  have gt1 : h3.get? t1 = some (excTup [v]) := (N4 (t1, excTup [v]) (List.mem_cons_self ..)).1
  have ltx : hp0.objs.size + 1 < t1 := l4 (hp0.objs.size + 1, excObj C hp0.objs.size none .none) (by simp)
  have k4 : ∀ b o, hp0.get? b = some o → h3.get? b = some o := F4.keep
  refine ks_wpAt_execs_cons (ks_wpAt_Assign_Attr (wpAt_of_wpAny (ESX.ldL F4.ns mp (ESX.ldL F4.ns ms ?_ sc.kind sc.self (by decide)) sc.kind sc.par sc.nd)))
  refine set_plain (s := ⟨h3, g, d, _, os⟩) K4 (ox := excObj C t1 none .none) (od := none) ⟨gx, rfl, rfl, trivial⟩ T.oex.sa ?_
  refine PySem.HandSPX.exc_osa K4 gx hcl (show PySem.HandSPX.refsVE (.ref C :: bm) = true from hbm) rfl T.nof (fun h4 tk4 dx k5 dn dne hx hn => ?_)
  have st : h3.objs.size ≤ dx := dn
  have t_lt : t1 < h3.objs.size := Heap.lt_size gt1
  have s_lt : hp0.objs.size ≤ h3.objs.size := Nat.le_of_lt (Nat.lt_of_le_of_lt (Nat.le_trans (Nat.le_succ _) (Nat.le_of_lt ltx)) t_lt)
  have kk : ∀ b o, hp0.get? b = some o → h4.get? b = some o := fun b o z => k5 b o (fun q => by rw [q, old (Nat.le_succ _)] at z; cases z) (k4 b o z)
  show PySem.wpAt _ _ _ (pure Flow.next) _ _ _
  refine wpAt_of_wpAny (wpAny_pure ?_)
  refine ⟨rfl, ?_⟩
  exact hq h4 tk4 (hp0.objs.size + 1) t1 dx kk (Nat.le_succ _) (Nat.le_trans (Nat.le_succ _) (Nat.le_of_lt ltx)) (Nat.le_trans s_lt st) (Nat.ne_of_lt ltx) (Ne.symm dne) (Nat.ne_of_lt (Nat.lt_of_lt_of_le t_lt st)) hx
    (k5 _ _ (Nat.ne_of_gt ltx) gt1) hn
end
end L3
namespace L3
open PySem PySem.Spec PyProof.Rows L2
section
variable {X : Cx} {pins : List (Addr × Obj)} {σ : L2.St} {H H' : Hp} {s : Shared}
theorem _root_.L2.Inv.laidX {h' : Heap} {t' : Nat} (I : Inv X pins σ H s) (k : ∀ b u, s.heap.get? b = some u → h'.get? b = some u) (e : ∀ b u, s.heap.get? b = some u → H b = none → H' b = none) (hn : ∀ b o, H b = some o → H' b = some o)
    (new : ∀ b o, H' b = some o → H b = some o ∨ ObjOk X.prog X.w H' h' b o) : Inv X pins σ H' { s with heap := h', toks := t' } := by
  refine I.un ⟨fun b u q _ _ _ => k b u q, fun b u q _ _ _ => ⟨u.slots, k b u q⟩, fun b u q n _ => e b u q n, fun b u q _ => ⟨u, k b u q⟩, fun b xs q => hn _ _ q, fun b u xs q => hn _ _ q, fun b ps q => ⟨#[], by rw [hn _ _ q]; simp⟩⟩ ?_
  intro b o q
  rcases new b o q with q | q
  · exact (I.hok b o q).stay (fun c v _ z => k c v z) (fun c z => hn _ _ z) fun c xs z => hn _ _ z
  · exact q
end
/-- the object of an exception -/
def XoF (o : Obj) (C t : Addr) (dx : Option Addr) : Prop := o.cls = .ref C ∧ o.dict = dx ∧ o.data = .fields #[.ref t, .none, .none, .none, .bool false, .none]
def tXc1 (C : Addr) (f : Str) (t : TA) : TE := fun σ H Q => t σ H fun xs H1 => ∃ v, xs = [v] ∧ ∀ (a t dx : Addr) (o ot od : Obj), H1 a = none → H1 t = none → H1 dx = none → a ≠ t → a ≠ dx → t ≠ dx → XoF o C t (some dx) → ot.dict = none →
  Q (.ref a) (upd (upd (upd H1 t (.frz ot (.tup [v]))) dx (.frz od (.xd [(f, v)]))) a (.frz o (.own a)))
def tXc0 (C : Addr) : TE := fun σ H Q => ∀ (a t : Addr) (o ot : Obj), H a = none → H t = none → a ≠ t → XoF o C t none → ot.dict = none → Q (.ref a) (upd (upd H t (.frz ot (.tup []))) a (.frz o (.own a)))
section
variable {X : Cx} {C : Addr} {x pn f : Str} {e : Expr} {ta : TA} {p pos : Pos}
theorem pe_xc1 {k : Nat} (T : XcK X.K X.prog C pn f) (hr : Room (k + 2) X.A) (gC : X.mg x = some (.ref C)) (hg : Gl X x) (ha : PA X [e] ta) (hdb : (x == ("__debug__" : Str)) = false) (hs : starEach [e] X.env = [(false, eval e X.env)]) :
    PE X (.Call (.Name x p) [e] [] pos) (tXc1 C f ta) := by
  refine ⟨fun pins s σ H Q I h => ?_⟩
  refine wpAny_Call_Name_kw (ld_glob I hg gC ?_ hdb)
  refine PySem.W.callWith_K (h₀ := X.base) I.ok.mod.kin T.oex.kC (thn (ha.run pos pins s σ H _ I h) fun us s1 ⟨vs, H1, I1, r1, v, ev, q1⟩ => ⟨I1.kIn, ?_⟩) hs (by rfl)
  subst ev
  cases r1 with
  | @cons _ u _ ur ru rn =>
    cases rn
    show wpAny _ _ (call (.ref C) [u]) _ _ _
    refine exc_made T I1.mod I1.bk (by have := hr.dp; omega) (fun h' t' a t dx k ax tx dd h1 h2 h3 ga gt gd => ?_)
    have na : H1 a = none := I1.hok.fresh ax
    have nt : H1 t = none := I1.hok.fresh tx
    have nd : H1 dx = none := I1.hok.fresh dd
    obtain ⟨od, es, ep, god, hd⟩ := id gd
    have q := q1 a t dx (PySem.W.excObj C t (some dx) .none) (PySem.W.excTup [u]) od na nt nd h1 h2 h3 ⟨rfl, rfl, rfl⟩ rfl
    have old : ∀ {b : Addr}, s1.heap.objs.size ≤ b → s1.heap.get? b = none := fun {a} z => by
      cases q : s1.heap.get? a with
      | none => rfl
      | some o => exact absurd (Heap.lt_size q) (Nat.not_lt.mpr z)
    refine ⟨.ref a, _, I1.laidX k (fun b u z n => ?_) (fun b o z => ?_) (fun b o z => ?_), rfl, q⟩
    · have hb : ∀ {c : Addr}, s1.heap.objs.size ≤ c → b ≠ c := fun {c} y w => by rw [w, old y] at z; cases z
      rw [upd_ne (hb ax), upd_ne (hb dd), upd_ne (hb tx)]; exact n
    · rw [upd_ne (ne_of_none z na), upd_ne (ne_of_none z nd), upd_ne (ne_of_none z nt)]; exact z
    · by_cases e1 : b = a
      · subst e1; rw [upd_same] at z; cases z
        exact .inr ⟨ga, ⟨_, ga⟩⟩
      · rw [upd_ne e1] at z
        by_cases e2 : b = dx
        · subst e2; rw [upd_same] at z; cases z
          refine .inr ⟨god, _, gd, fun g => ?_⟩
          by_cases eg : g = f
          · subst eg; simp [List.lookup]; exact ru
          · have : (g == f) = false := by simpa using eg
            simp [List.lookup, this, eg]; trivial
        · rw [upd_ne e2] at z
          by_cases e3 : b = t
          · subst e3; rw [upd_same] at z; cases z
            exact .inr ⟨gt, by show 1 ≤ sizeLine; rw [sizeLine_eq]; omega, [u], .cons ru .nil, _, gt, rfl, _, rfl⟩
          · rw [upd_ne e3] at z
            exact .inl z
theorem pe_xc0 (q : PySem.W.excIn X.K C [.type "ValueError", .type "Exception", .type "BaseException", .type "object"] "ValueError.__new__" = true) (kC : PySem.W.keepIn X.K (.ref C) = true) (gC : X.mg x = some (.ref C)) (hg : Gl X x) (hdb : (x == ("__debug__" : Str)) = false) :
    PE X (.Call (.Name x p) [] [] pos) (tXc0 C) := by
  refine ⟨fun pins s σ H Q I h => ?_⟩
  refine wpAny_Call_Name_kw (ld_glob I hg gC ?_ hdb)
  refine PySem.W.callWith_K0 I.kIn kC ?_
  show wpAny _ _ (call (.ref C) []) _ _ _
  obtain ⟨bm, N, nm, qn, bs, hdct, sn, sub, ab, col, dd, k0, k1, k2, k3, k5, mN, hC, hN, hni, T⟩ := exc_obj I.kIn q
  refine wpAny_call_exc_subT F.excBase_ValueError T hC hN hni (fun h' a hm => ?_) (by show 0 ≤ sizeLine; omega)
  have na : H a = none := I.hok.gone hm.new
  obtain ⟨t, ga, tn, gt⟩ := hm.there
  have nt : H t = none := I.hok.gone tn
  have h1 : a ≠ t := fun z => by
    rw [z, gt] at ga; cases ga
  refine ⟨.ref a, _, I.laidX hm.keeps (fun b u z n => ?_) (fun b o z => ?_) (fun b o z => ?_), rfl, h a t (PySem.W.excObj C t none .none) (PySem.W.excTup []) na nt h1 ⟨rfl, rfl, rfl⟩ rfl⟩
  · rw [upd_ne (fun w => by rw [w, hm.new] at z; cases z), upd_ne (fun w => by rw [w, tn] at z; cases z)]; exact n
  · rw [upd_ne (ne_of_none z na), upd_ne (ne_of_none z nt)]; exact z
  · by_cases e1 : b = a
    · subst e1; rw [upd_same] at z; cases z
      exact .inr ⟨ga, ⟨_, ga⟩⟩
    · rw [upd_ne e1] at z
      by_cases e3 : b = t
      · subst e3; rw [upd_same] at z; cases z
        exact .inr ⟨gt, by show 0 ≤ sizeLine; omega, [], .nil, _, gt, rfl, _, rfl⟩
      · rw [upd_ne e3] at z
        exact .inl z
end
/-- an exception as data: its class's name, its field -/
def xcD1 (x f : Str) (d : D) : D := .dict [(.none, .tuple [.str x, .str f, d])]
def xcD0 (x : Str) : D := .dict [(.none, .tuple [.str x])]
def mxc1 (x f : Str) (ms : MA) : ME := fun ρ => (ms ρ).bind fun a => (fzs a.2 a.1).bind fun y => (oneOf y.1).bind fun d => some (.dat (xcD1 x f d), y.2)
/-- what the module has under x: an exception's class with the field f (Xc1), one without an __init__ (Xc0) -/
def Xc1 (G : GC) (x pn f : Str) : Prop := ∃ C, G.mg x = some (.ref C) ∧ PySem.W.nsIn G.K mainGlobals x = some (some (.ref C)) ∧ XcK G.K G.prog C pn f
def Xc0 (G : GC) (x : Str) : Prop := ∃ C, G.mg x = some (.ref C) ∧ PySem.W.nsIn G.K mainGlobals x = some (some (.ref C)) ∧ PySem.W.keepIn G.K (.ref C) = true ∧ XcT G.K C ∧
  PySem.W.excIn G.K C [.type "ValueError", .type "Exception", .type "BaseException", .type "object"] "ValueError.__new__" = true
section
variable {G : GC} {S : SC} {x pn f : Str} {e : Expr} {p pos : Pos} {ms : MA}
theorem fresh3_evo {N : Addr → Prop} {H : Hp} {a b c : Addr} {o u v : HO} (ha : H a = none) (hb : H b = none) (hc : H c = none) : Evo N H N (upd (upd (upd H c v) b u) a o) :=
  ⟨fun q w e n => by rw [upd_ne (ne_of_none e ha), upd_ne (ne_of_none e hb), upd_ne (ne_of_none e hc)]; exact e, fun q n => .inl n⟩
theorem de_xc1 (F : Xc1 G x pn f) (hk : 2 ≤ S.k) (ha : DA G S [e] ms) (hg : S.sc.names.lookup x = some .globalImplicit) (hdb : (x == ("__debug__" : Str)) = false) (hs : ∀ env : PySem.Env, starEach [e] env = [(false, eval e env)]) :
    DE G S (.Call (.Name x p) [e] [] pos) (mxc1 x f ms) := by
  intro X c
  obtain ⟨C, gC, nC, T⟩ := F
  refine PE.weak (pe_xc1 (k := S.k - 2) (by rw [c.K, c.prog]; exact T) (by have := c.room; rw [Nat.sub_add_cancel hk]; exact this) (by rw [c.mg]; exact gC) (by show X.env.scope.names.lookup x = _; rw [c.sc]; exact hg) (ha X c) hdb (hs _)) ?_
  rintro σ H Q ⟨W, ρ, r, ρ', rel, em, q⟩
  unfold mxc1 at em
  obtain ⟨⟨rs, ρ1⟩, e1, em⟩ := Option.bind_eq_some_iff.mp em
  obtain ⟨⟨ds, ρ2⟩, e2, em⟩ := Option.bind_eq_some_iff.mp em
  obtain ⟨d, e3, em⟩ := Option.bind_eq_some_iff.mp em
  cases em
  refine ⟨W, ρ, rs, ρ1, rel, e1, fun vs H1 p1 f1 => ?_⟩
  obtain ⟨p2, rl⟩ := fzs_ok p1.rel f1 e2
  have ed := oneOf_some e3
  simp only at ed
  subst ed
  cases rl with
  | @cons v _ _ _ rv rn =>
    cases rn
    refine ⟨v, rfl, fun a t dx o ot od na nt nd h1 h2 h3 ox hot => q _ _ ((p1.trans p2).fin ⟨fun b u z => ?_, ?_⟩)⟩
    · rw [upd_ne (ne_of_none z na), upd_ne (ne_of_none z nd), upd_ne (ne_of_none z nt)]; exact z
    · have nav : ∀ {b : Addr}, H1 b = none → ¬ Av W.P ρ2 σ b := fun {b} n z => by obtain ⟨o, e⟩ := p2.rel.avThere z; rw [n] at e; cases e
      refine Rep.xn1 (od := od) (dx := dx) ⟨C, t, o, upd_same, nav na, nC, T.xt, ox.1, ox.2.1, ox.2.2, ⟨ot, ?_, hot⟩, nav nt⟩ ⟨C, nC, T.nof⟩ ?_ (nav nd) (Rep.evo (fresh3_evo na nd nt) _ _ rv)
      · rw [upd_ne (Ne.symm h1), upd_ne h3, upd_same]
      · rw [upd_ne (Ne.symm h2), upd_same]
theorem de_xc0 (F : Xc0 G x) (hg : S.sc.names.lookup x = some .globalImplicit) (hdb : (x == ("__debug__" : Str)) = false) :
    DE G S (.Call (.Name x p) [] [] pos) (mcon (xcD0 x)) := by
  intro X c
  obtain ⟨C, gC, nC, kC, xt, qC⟩ := F
  refine PE.weak (pe_xc0 (by rw [c.K]; exact qC) (by rw [c.K]; exact kC) (by rw [c.mg]; exact gC) (by show X.env.scope.names.lookup x = _; rw [c.sc]; exact hg) hdb) ?_
  rintro σ H Q ⟨W, ρ, r, ρ', rel, em, q⟩
  cases em
  intro a t o ot na nt h1 ox hot
  have nav : ∀ {b : Addr}, H b = none → ¬ Av W.P ρ σ b := fun {b} n z => by obtain ⟨o, e⟩ := rel.avThere z; rw [n] at e; cases e
  refine q _ _ ((PostX.refl rel).fin ⟨fun b u z => ?_, ?_⟩)
  · rw [upd_ne (ne_of_none z na), upd_ne (ne_of_none z nt)]; exact z
  · refine Rep.xn0 ⟨C, t, o, upd_same, nav na, nC, xt, ox.1, ox.2.1, ox.2.2, ⟨ot, ?_, hot⟩, nav nt⟩
    rw [upd_ne (Ne.symm h1), upd_same]
end
end L3
namespace L3
open PySem PySem.Spec PyProof.Rows L2
theorem xcT_of {K : PySem.W.Frag} {C : Addr} (T : OexC K C) (ga : PySem.W.findIn K (.ref C) "__getattribute__" = some (some (.builtin "BaseException.__getattribute__"))) (gt : PySem.W.findIn K (.ref C) "__getattr__" = some none)
    (cl : PySem.W.findIn K (.ref C) "__class__" = some (some (.builtin "object.__class__"))) (hn : PySem.W.specialIn K (.builtin "object.__class__") "__get__" = some (some (.builtin "getset_descriptor.__get__"))) (htk : PySem.W.takesIn K (.builtin "object.__class__") = some true)
    : XcT K C := by
  obtain ⟨nm, q, N, bs, bm, sn, sub, ab, col, dd, k0, k1, k2, k3, k5, hC, hbm⟩ := T.cls
  have hcl : PySem.W.clsIn K C = some { name := nm, bases := bs, mro := .ref C :: bm, ns := N, qualname := q, hasDict := true, slotNames := sn, subclasses := sub, abstract := ab, collection := col, hasDel := false } := by unfold PySem.W.clsIn; rw [hC] <;> rfl
  refine ⟨by rw [hcl]; rfl, ga, gt, cl, hn, htk, by unfold PySem.W.hasDictIn; rw [hcl]; rfl, fun t => ?_⟩
  show PySem.W.mroIn K C (.type t) = _
  unfold PySem.W.mroIn
  rw [hcl, Option.bind_some, if_neg (by simp)]
  show some ((Value.ref C :: bm).contains (.type t)) = _
  have := PySem.HandSPX.refsVE_contains t bm hbm
  rw [List.contains_cons, this]
  simp [PySem.HandSPX.veTail]
theorem sub_self {K : PySem.W.Frag} {C : Addr} (T : OexC K C) : PySem.W.subIn K (.ref C) (.ref C) = some true := by
  obtain ⟨nm, q, N, bs, bm, sn, sub, ab, col, dd, k0, k1, k2, k3, k5, hC, hbm⟩ := T.cls
  have hcl : PySem.W.clsIn K C = some { name := nm, bases := bs, mro := .ref C :: bm, ns := N, qualname := q, hasDict := true, slotNames := sn, subclasses := sub, abstract := ab, collection := col, hasDel := false } := by unfold PySem.W.clsIn; rw [hC] <;> rfl
  show PySem.W.mroIn K C (.ref C) = _
  unfold PySem.W.mroIn
  rw [hcl, Option.bind_some, if_neg (by simp)]
  simp
theorem kit_own {K : PySem.W.Frag} {C D : Addr} {b : Bool} (T : OexC K C) (hD : (PySem.W.clsIn K D).isSome = true) (tD : PySem.W.typeIn K (.ref D) = some (.type "type")) (h : PySem.W.subIn K (.ref C) (.ref D) = some b) : PySem.W.kitOne K (.ref C) (.ref D) = some b := by
  unfold PySem.W.kitOne
  by_cases e : C = D
  · subst e
    rw [sub_self T] at h
    rw [if_pos (by simp)]; exact h
  · rw [if_neg (by simpa using e)]
    unfold PySem.W.kitCls
    simp only [hD, tD, beq_self_eq_true, Bool.and_self, if_true]
    exact h
def xcN : D → Option Str
  | .dict [(.none, .tuple (.str x :: _))] => some x
  | _ => none
def attD (f : Str) : D → Option D
  | .dict [(.none, .tuple [.str _, .str g, d])] => if g = f then some d else none
  | _ => none
theorem attD_some {f : Str} {d e : D} (h : attD f d = some e) : ∃ x, d = xcD1 x f e := by
  unfold attD at h
  split at h
  · split at h
    · rename_i g; cases h; subst g; exact ⟨_, rfl⟩
    · cases h
  · cases h
theorem xcN_some {d : D} {x : Str} (h : xcN d = some x) : ∃ r, d = .dict [(.none, .tuple (.str x :: r))] := by
  unfold xcN at h
  split at h
  · cases h; exact ⟨_, rfl⟩
  · cases h
section
variable {G : GC} {S : SC} {e : Expr} {m : ME} {f : Str} {p q pos : Pos}
def matt (f : Str) (m : ME) : ME := fun ρ => (m ρ).bind fun x => (x.1.fz.vw x.2).bind fun d => (attD f d).bind fun d' => some (.dat d', x.2)
theorem de_att (he : DE G S e m) (hb : ∀ env : PySem.Env, attributeBase e f env (eval e env) = eval e env) : DE G S (.Attribute e f pos) (matt f m) := by
  intro X c
  refine ⟨fun pins s σ H Q I h => ?_⟩
  obtain ⟨W, ρ, r, ρ', rel, em, q⟩ := h
  unfold matt at em
  obtain ⟨⟨ra, ρ1⟩, e1, em⟩ := Option.bind_eq_some_iff.mp em
  obtain ⟨d, e4, em⟩ := Option.bind_eq_some_iff.mp em
  obtain ⟨d', e5, em⟩ := Option.bind_eq_some_iff.mp em
  cases em
  refine attr_of (hb _) (thn ((he X c).run pins s σ H (fun v H1 => PostE G.K W ρ σ H ra ρ1 v H1) I ⟨W, ρ, ra, ρ1, rel, e1, fun v H1 p => p⟩) fun u s1 ⟨x, H1, I1, rx, p1⟩ => ?_)
  have hx := (p1.res.fz p1.toPostX rel).read p1.rel e4
  obtain ⟨y, rfl⟩ := attD_some e5
  rcases hx with hx | ⟨qq, b, rfl, e, bo⟩
  · cases hx with
    | dic h1 h2 h3 => exact absurd h3.notFn (fun e => by cases e)
    | @xn1 a dx x0 f0 od v d0 h1 h0 h2 h3 h4 =>
      obtain ⟨C, t, o, k1, k2, k3, k3', k4, k5, k6, k7, k8⟩ := h1
      obtain ⟨C', n', hno⟩ := h0
      have eC : C' = C := by rw [k3] at n'; cases n'; rfl
      subst eC
      obtain rfl : u = Value.ref a := rx
      have ho := (show ObjOk X.prog X.w H1 s1.heap a (.frz o (.own a)) from I1.hok a _ k1).1
      obtain ⟨hdx, mA, hns, hr⟩ := (show ObjOk X.prog X.w H1 s1.heap dx (.frz od (.xd [(f, v)])) from I1.hok dx _ h2)
      obtain ⟨od', ho', hl⟩ := lookIn_ns hns
      rw [hdx] at ho'; cases ho'
      obtain ⟨u, hu, ru⟩ := RelO.some_of (v := v) (o := mA f) (by have := hr f; simpa [List.lookup] using this)
      have J : PySem.W.InstAt s1.heap a o C' (some od) := ⟨ho, k4, by unfold PySem.W.notCls; rw [k6] <;> rfl, by rw [k5]; exact hdx⟩
      exact HandSPX.exc_get I1.kIn J (by rw [c.K]; exact k3'.ga) (by rw [c.K]; exact k3'.gt) (by rw [c.K]; exact k3'.mro "BaseException") (PySem.W.findObj_own (by rw [c.K]; exact k3'.hd) (by rw [c.K]; exact hno) rfl (by rw [hl, hu])) (handed_of ru)
        ⟨v, H1, I1.tok _, ru, q _ _ (p1.toPostX.fin (.dat h4))⟩
  · cases b with
    | lst xs => cases e
    | dic kvs =>
      have := congrArg (fun | PyData.dict ds => isFnD ds | _ => true) e
      simp [Bx.dat] at this
      cases this
def misc (tb : List (Str × Bool)) (m : ME) : ME := fun ρ => (m ρ).bind fun x => (x.1.fz.vw x.2).bind fun d => (xcN d).bind fun n => (tb.lookup n).bind fun b => some (.dat (.bool b), x.2)
def misv (T : String) (m : ME) : ME := fun ρ => (m ρ).bind fun x => (x.1.fz.vw x.2).bind fun d => (xcN d).bind fun _ => some (.dat (.bool (["ValueError", "Exception", "BaseException", "object"].contains T)), x.2)
/-- what the module's class y says of the exceptions x -/
def XcS (G : GC) (y : Str) (tb : List (Str × Bool)) : Prop := ∃ D, G.mg y = some (.ref D) ∧ ∀ x b, tb.lookup x = some b → ∃ C, PySem.W.nsIn G.K mainGlobals x = some (some (.ref C)) ∧ PySem.W.kitOne G.K (.ref C) (.ref D) = some b
theorem de_isc {y : Str} {tb : List (Str × Bool)} (F : XcS G y tb) (he : DE G S e m) (hg : S.sc.names.lookup (Str.ofString "isinstance") = some NameKind.globalImplicit) (hm : G.mg (Str.ofString "isinstance") = none)
    (hg2 : S.sc.names.lookup y = some NameKind.globalImplicit) (hd : (y == ("__debug__" : Str)) = false) (hs : ∀ env : PySem.Env, starEach [e, .Name y q] env = (false, eval e env) :: starEach [.Name y q] env) :
    DE G S (.Call (.Name "isinstance" p) [e, .Name y q] [] pos) (misc tb m) := by
  intro X c
  obtain ⟨D, gD, hF⟩ := F
  have g1 : Gl X (Str.ofString "isinstance") := by show X.env.scope.names.lookup _ = _; rw [c.sc]; exact hg
  have g2 : Gl X y := by show X.env.scope.names.lookup _ = _; rw [c.sc]; exact hg2
  have pn : PE X (.Name y q) (tC (.ref D)) := pe_glob g2 (by rw [c.mg]; exact gD) rfl hd
  refine PE.weak (pe_callB call_isiY g1 (by rw [c.mg]; exact hm) rfl (pa_cons (he X c) (pa_cons pn pa_nil rfl) (hs _)) (by decide) (by decide) (hs _) rfl) ?_
  rintro σ H Q ⟨W, ρ, r, ρ', rel, em, q⟩
  unfold misc at em
  obtain ⟨⟨ra, ρ1⟩, e1, em⟩ := Option.bind_eq_some_iff.mp em
  obtain ⟨d, e4, em⟩ := Option.bind_eq_some_iff.mp em
  obtain ⟨n, e5, em⟩ := Option.bind_eq_some_iff.mp em
  obtain ⟨b, e6, em⟩ := Option.bind_eq_some_iff.mp em
  cases em
  refine ⟨W, ρ, ra, ρ1, rel, e1, fun x H1 p1 => ?_⟩
  have hx := (p1.res.fz p1.toPostX rel).read p1.rel e4
  obtain ⟨r, rfl⟩ := xcN_some e5
  obtain ⟨y', r', C, eq, nC, T, ty⟩ := hx.tyXc rfl
  cases eq
  obtain ⟨C', n', hk⟩ := hF _ _ e6
  have eC : C' = C := by rw [nC] at n'; cases n'; rfl
  subst eC
  exact ⟨x, .ref D, .ref C', .ref D, b, rfl, .own D, by rw [c.K]; exact ty, by rw [c.K]; exact hk, q _ _ (p1.toPostX.fin (.dat (.bl _)))⟩
theorem de_isv {T : String} {t : Str} (ht : bootBuiltins t = some (.type T)) (hmeta : PySem.W.kitMeta T = true) (he : DE G S e m) (hg : S.sc.names.lookup (Str.ofString "isinstance") = some NameKind.globalImplicit) (hm : G.mg (Str.ofString "isinstance") = none)
    (hg2 : S.sc.names.lookup t = some NameKind.globalImplicit) (hm2 : G.mg t = none) (hn : t ≠ Str.ofString "__name__") (hd : (t == ("__debug__" : Str)) = false) (hs : ∀ env : PySem.Env, starEach [e, .Name t q] env = (false, eval e env) :: starEach [.Name t q] env) :
    DE G S (.Call (.Name "isinstance" p) [e, .Name t q] [] pos) (misv T m) := by
  intro X c
  have g1 : Gl X (Str.ofString "isinstance") := by show X.env.scope.names.lookup _ = _; rw [c.sc]; exact hg
  have g2 : Gl X t := by show X.env.scope.names.lookup _ = _; rw [c.sc]; exact hg2
  have pn : PE X (.Name t q) (tC (.ty T)) := ⟨fun pins s σ H Q I h => ld_blt I g2 (by rw [c.mg]; exact hm2) ht ⟨.ty T, H, I, rfl, h⟩ hn hd⟩
  refine PE.weak (pe_callB call_isiY g1 (by rw [c.mg]; exact hm) rfl (pa_cons (he X c) (pa_cons pn pa_nil rfl) (hs _)) (by decide) (by decide) (hs _) rfl) ?_
  rintro σ H Q ⟨W, ρ, r, ρ', rel, em, q⟩
  unfold misv at em
  obtain ⟨⟨ra, ρ1⟩, e1, em⟩ := Option.bind_eq_some_iff.mp em
  obtain ⟨d, e4, em⟩ := Option.bind_eq_some_iff.mp em
  obtain ⟨n, e5, em⟩ := Option.bind_eq_some_iff.mp em
  cases em
  refine ⟨W, ρ, ra, ρ1, rel, e1, fun x H1 p1 => ?_⟩
  have hx := (p1.res.fz p1.toPostX rel).read p1.rel e4
  obtain ⟨r, rfl⟩ := xcN_some e5
  obtain ⟨y', r', C, eq, nC, T2, ty⟩ := hx.tyXc rfl
  exact ⟨x, .ty T, .ref C, .type T, _, rfl, .ty T, by rw [c.K]; exact ty, by rw [c.K]; exact kit_xc T2 hmeta, q _ _ (p1.toPostX.fin (.dat (.bl _)))⟩
end
/-- the __init__ of a class statement -/
def clsInit : Stmt → Stmt
  | .ClassDef _ _ _ body _ _ _ _ _ _ _ => body.getD 0 (.Pass ⟨0, 0, 0, 0⟩)
  | s => s
structure InitSt (st : Stmt) (pn f : Str) : Prop where
  body : ∃ p0 p1 p2 p3 p4 p5 p6 p7 p8 p9 : Pos, defBody st = initBody pn f p0 p1 p2 p3 p4 p5 p6 p7 p8 p9 ∧ (p2.endLine == p4.line) = true
  scope : InitScope (defScope st) pn
  binds : ∀ (name qual : Str) (body : List Stmt) (kV doc pm : Value) (an : Option Addr) (cdv ct : Value) (cc : Addr) (s : Shared) (e v : Value) (_ _ : Unit), BindsTo s (PySem.W.ksFn name qual (defArgs st) body (defScope st) .none kV doc pm an cdv ct cc) ⟨[e, v], []⟩ [("self", e), (pn, v)]
  head : ∃ ar, ((defArgs st).posonlyargs ++ (defArgs st).args).head? = some ar ∧ ar.arg = "self"
theorem xc1_mk {G : GC} {x pn f : Str} {st : Stmt} {C fI cc cda : Addr} {oc ccl cl kV doc pm ct : Value} {od an cdd cld : Option Addr} {osl ccs csl : Array (Option Value)} {vs : Array Value} {file name qual : Str} {tf : Tok}
    (g : G.mg x = some (.ref C)) (a : PySem.W.nsIn G.K mainGlobals x = some (some (.ref C))) (O : OexC G.K C) (T : XcT G.K C) (I : InitSt st pn f)
    (new : PySem.W.excInitIn G.K C [.type "ValueError", .type "Exception", .type "BaseException", .type "object"] "ValueError.__new__" = true) (nof : PySem.W.findIn G.K (.ref C) f = some none)
    (hi : PySem.W.findIn G.K (.ref C) "__init__" = some (some (.ref fI))) (tI : PySem.W.typeIn G.K (.ref fI) = some (.type "function"))
    (lI : G.K.lookup fI = some ⟨oc, od, .func (PySem.W.ksFn name qual (defArgs st) (defBody st) (defScope st) .none kV doc pm an (.ref cda) ct cc), osl⟩) (cI : PySem.W.codeIn G.K (.ref cda) qual = true)
    (lc : G.K.lookup cda = some ⟨ccl, cdd, .fields vs, ccs⟩) (hvs : vs[2]? = some (.str file tf)) (hfile : ((G.prog.main.file : Str) == file) = true) (lcc : G.K.lookup cc = some ⟨cl, cld, .cell (some (.ref C)), csl⟩)
    (sub : PySem.W.mroIn G.K C (.ref C) = some true) (sup : PySem.W.nsIn G.K mainGlobals "super" = some none) (top : (G.prog.main.scope.names.lookup ("super" : Str)).isSome = false) (thp : PySem.W.nsIn G.K cStatics "thirdparty.any" = some none)
    (bas : PySem.W.ks_superIn G.K C C "__init__" = some (some (.builtin "ValueError.__init__"))) (ve : PySem.W.subIn G.K (.ref C) (.type "ValueError") = some true) : Xc1 G x pn f := by
  obtain ⟨p0, p1, p2, p3, p4, p5, p6, p7, p8, p9, hb, hp⟩ := I.body
  obtain ⟨ar, h1, h2⟩ := I.head
  rw [hb] at lI
  exact ⟨C, g, a, ⟨O, T, new, nof, ⟨fI, cc, cda, oc, ccl, cl, .none, kV, doc, pm, ct, od, an, cdd, cld, osl, ccs, csl, vs, file, tf, name, qual, defArgs st, defScope st, ar, p0, p1, p2, p3, p4, p5, p6, p7, p8, p9, hi, tI, lI, cI, h1, h2,
    fun s e v => I.binds _ _ _ _ _ _ _ _ _ _ s e v () (), lc, hvs, hfile, lcc, I.scope, hp⟩, sub, sup, top, thp, bas, ve⟩⟩
theorem clsIn_some {K : PySem.W.Frag} {D : Addr} {o : Value} {d : Option Addr} {cd : ClassData} {sl : Array (Option Value)} (h : K.lookup D = some ⟨o, d, .cls cd, sl⟩) : (PySem.W.clsIn K D).isSome = true := by
  unfold PySem.W.clsIn
  rw [h]
  rfl
/-- a table of classes, each with its answer -/
structure XcR (K : PySem.W.Frag) (D : Addr) where
  x : Str
  b : Bool
  C : Addr
  a : PySem.W.nsIn K mainGlobals x = some (some (.ref C))
  h : PySem.W.kitOne K (.ref C) (.ref D) = some b
theorem xcs_mk {K : PySem.W.Frag} {D : Addr} (rs : List (XcR K D)) {tb : List (Str × Bool)} (e : ∀ x b, tb.lookup x = some b → (rs.map fun r => (r.x, r.b)).lookup x = some b) :
    ∀ x b, tb.lookup x = some b → ∃ C, PySem.W.nsIn K mainGlobals x = some (some (.ref C)) ∧ PySem.W.kitOne K (.ref C) (.ref D) = some b := by
  intro x b h
  replace h := e x b h
  clear e
  induction rs with
  | nil => cases h
  | cons r rs ih =>
    rw [List.map_cons, List.lookup_cons] at h
    by_cases q : x = r.x
    · subst q
      simp only [beq_self_eq_true] at h
      cases h
      exact ⟨r.C, r.a, r.h⟩
    · rw [show (x == r.x) = false by simpa using q] at h
      exact ih h
end L3
namespace L3
open PySem
def k_mxc1_2 (y : Str) (f : Str) (ρ2 : En) : Option (D) → Option (R × En)
  | some d => some (.dat (xcD1 y f d), ρ2)
  | none => none
@[simp] theorem kk_mxc1_2 (y : Str) (f : Str) (ρ2 : En) (d : D) : k_mxc1_2 y f ρ2 (some d) = (some (.dat (xcD1 y f d), ρ2)) := rfl
def k_mxc1_1 (y : Str) (f : Str) : Option (List D × En) → Option (R × En)
  | some (ds, ρ2) => k_mxc1_2 y f ρ2 (oneOf ds)
  | none => none
@[simp] theorem kk_mxc1_1 (y : Str) (f : Str) (ds : List D) (ρ2 : En) : k_mxc1_1 y f (some (ds, ρ2)) = (k_mxc1_2 y f ρ2 (oneOf ds)) := rfl
def k_mxc1_0 (y : Str) (f : Str) : Option (List R × En) → Option (R × En)
  | some (rs, ρ1) => k_mxc1_1 y f (fzs ρ1 rs)
  | none => none
@[simp] theorem kk_mxc1_0 (y : Str) (f : Str) (rs : List R) (ρ1 : En) : k_mxc1_0 y f (some (rs, ρ1)) = (k_mxc1_1 y f (fzs ρ1 rs)) := rfl
@[simp] theorem ev_mxc1 (y : Str) (f : Str) (ms : MA) (ρ : En) : mxc1 y f ms ρ = k_mxc1_0 y f (ms ρ) := by
  unfold mxc1
  cases h0 : ms ρ with
  | none => simp only [Option.bind, Option.map, h0, k_mxc1_0, k_mxc1_1, k_mxc1_2]
  | some p0 =>
    obtain ⟨rs, ρ1⟩ := p0
    cases h1 : fzs ρ1 rs with
    | none => simp only [Option.bind, Option.map, h0, h1, k_mxc1_0, k_mxc1_1, k_mxc1_2]
    | some p1 =>
      obtain ⟨ds, ρ2⟩ := p1
      cases h2 : oneOf ds with
      | none => simp only [Option.bind, Option.map, h0, h1, h2, k_mxc1_0, k_mxc1_1, k_mxc1_2]
      | some d =>
        simp only [Option.bind, Option.map, h0, h1, h2, k_mxc1_0, k_mxc1_1, k_mxc1_2]
def k_matt_2 (ρ1 : En) : Option (D) → Option (R × En)
  | some e => some (.dat e, ρ1)
  | none => none
@[simp] theorem kk_matt_2 (ρ1 : En) (e : D) : k_matt_2 ρ1 (some e) = (some (.dat e, ρ1)) := rfl
def k_matt_1 (f : Str) (ρ1 : En) : Option (D) → Option (R × En)
  | some d => k_matt_2 ρ1 (attD f d)
  | none => none
@[simp] theorem kk_matt_1 (f : Str) (ρ1 : En) (d : D) : k_matt_1 f ρ1 (some d) = (k_matt_2 ρ1 (attD f d)) := rfl
def k_matt_0 (f : Str) : Option (R × En) → Option (R × En)
  | some (x, ρ1) => k_matt_1 f ρ1 (x.fz.vw ρ1)
  | none => none
@[simp] theorem kk_matt_0 (f : Str) (x : R) (ρ1 : En) : k_matt_0 f (some (x, ρ1)) = (k_matt_1 f ρ1 (x.fz.vw ρ1)) := rfl
@[simp] theorem ev_matt (f : Str) (m : ME) (ρ : En) : matt f m ρ = k_matt_0 f (m ρ) := by
  unfold matt
  cases h0 : m ρ with
  | none => simp only [Option.bind, Option.map, h0, k_matt_0, k_matt_1, k_matt_2]
  | some p0 =>
    obtain ⟨x, ρ1⟩ := p0
    cases h1 : x.fz.vw ρ1 with
    | none => simp only [Option.bind, Option.map, h0, h1, k_matt_0, k_matt_1, k_matt_2]
    | some d =>
      cases h2 : attD f d with
      | none => simp only [Option.bind, Option.map, h0, h1, h2, k_matt_0, k_matt_1, k_matt_2]
      | some e =>
        simp only [Option.bind, Option.map, h0, h1, h2, k_matt_0, k_matt_1, k_matt_2]
def k_misc_3 (ρ1 : En) : Option (Bool) → Option (R × En)
  | some c => some (.dat (.bool c), ρ1)
  | none => none
@[simp] theorem kk_misc_3 (ρ1 : En) (c : Bool) : k_misc_3 ρ1 (some c) = (some (.dat (.bool c), ρ1)) := rfl
def k_misc_2 (tb : List (Str × Bool)) (ρ1 : En) : Option (Str) → Option (R × En)
  | some nm => k_misc_3 ρ1 (tb.lookup nm)
  | none => none
@[simp] theorem kk_misc_2 (tb : List (Str × Bool)) (ρ1 : En) (nm : Str) : k_misc_2 tb ρ1 (some nm) = (k_misc_3 ρ1 (tb.lookup nm)) := rfl
def k_misc_1 (tb : List (Str × Bool)) (ρ1 : En) : Option (D) → Option (R × En)
  | some d => k_misc_2 tb ρ1 (xcN d)
  | none => none
@[simp] theorem kk_misc_1 (tb : List (Str × Bool)) (ρ1 : En) (d : D) : k_misc_1 tb ρ1 (some d) = (k_misc_2 tb ρ1 (xcN d)) := rfl
def k_misc_0 (tb : List (Str × Bool)) : Option (R × En) → Option (R × En)
  | some (x, ρ1) => k_misc_1 tb ρ1 (x.fz.vw ρ1)
  | none => none
@[simp] theorem kk_misc_0 (tb : List (Str × Bool)) (x : R) (ρ1 : En) : k_misc_0 tb (some (x, ρ1)) = (k_misc_1 tb ρ1 (x.fz.vw ρ1)) := rfl
@[simp] theorem ev_misc (tb : List (Str × Bool)) (m : ME) (ρ : En) : misc tb m ρ = k_misc_0 tb (m ρ) := by
  unfold misc
  cases h0 : m ρ with
  | none => simp only [Option.bind, Option.map, h0, k_misc_0, k_misc_1, k_misc_2, k_misc_3]
  | some p0 =>
    obtain ⟨x, ρ1⟩ := p0
    cases h1 : x.fz.vw ρ1 with
    | none => simp only [Option.bind, Option.map, h0, h1, k_misc_0, k_misc_1, k_misc_2, k_misc_3]
    | some d =>
      cases h2 : xcN d with
      | none => simp only [Option.bind, Option.map, h0, h1, h2, k_misc_0, k_misc_1, k_misc_2, k_misc_3]
      | some nm =>
        cases h3 : tb.lookup nm with
        | none => simp only [Option.bind, Option.map, h0, h1, h2, h3, k_misc_0, k_misc_1, k_misc_2, k_misc_3]
        | some c =>
          simp only [Option.bind, Option.map, h0, h1, h2, h3, k_misc_0, k_misc_1, k_misc_2, k_misc_3]
def k_misv_2 (T : String) (ρ1 : En) : Option (Str) → Option (R × En)
  | some nm => some (.dat (.bool (["ValueError", "Exception", "BaseException", "object"].contains T)), ρ1)
  | none => none
@[simp] theorem kk_misv_2 (T : String) (ρ1 : En) (nm : Str) : k_misv_2 T ρ1 (some nm) = (some (.dat (.bool (["ValueError", "Exception", "BaseException", "object"].contains T)), ρ1)) := rfl
def k_misv_1 (T : String) (ρ1 : En) : Option (D) → Option (R × En)
  | some d => k_misv_2 T ρ1 (xcN d)
  | none => none
@[simp] theorem kk_misv_1 (T : String) (ρ1 : En) (d : D) : k_misv_1 T ρ1 (some d) = (k_misv_2 T ρ1 (xcN d)) := rfl
def k_misv_0 (T : String) : Option (R × En) → Option (R × En)
  | some (x, ρ1) => k_misv_1 T ρ1 (x.fz.vw ρ1)
  | none => none
@[simp] theorem kk_misv_0 (T : String) (x : R) (ρ1 : En) : k_misv_0 T (some (x, ρ1)) = (k_misv_1 T ρ1 (x.fz.vw ρ1)) := rfl
@[simp] theorem ev_misv (T : String) (m : ME) (ρ : En) : misv T m ρ = k_misv_0 T (m ρ) := by
  unfold misv
  cases h0 : m ρ with
  | none => simp only [Option.bind, Option.map, h0, k_misv_0, k_misv_1, k_misv_2]
  | some p0 =>
    obtain ⟨x, ρ1⟩ := p0
    cases h1 : x.fz.vw ρ1 with
    | none => simp only [Option.bind, Option.map, h0, h1, k_misv_0, k_misv_1, k_misv_2]
    | some d =>
      cases h2 : xcN d with
      | none => simp only [Option.bind, Option.map, h0, h1, h2, k_misv_0, k_misv_1, k_misv_2]
      | some nm =>
        simp only [Option.bind, Option.map, h0, h1, h2, k_misv_0, k_misv_1, k_misv_2]
@[simp] theorem qq_xcN_1 (y : Str) (r : List D) : xcN (.dict [(.none, .tuple (.str y :: r))]) = some y := by first | rfl | (cases a with | none => rfl | some a => cases a <;> rfl) | (simp [stoO, stoR, parR, Option.bind]) | (unfold eqD eqOk; simp [scalD, PyData.eqv]) | (unfold neD eqOk; simp [scalD, PyData.eqv])
@[simp] theorem attD_xc (y f : Str) (d : D) : attD f (xcD1 y f d) = some d := by simp [attD, xcD1]
@[simp] theorem xcN_xc1 (y f : Str) (d : D) : xcN (xcD1 y f d) = some y := rfl
@[simp] theorem xcN_xc0 (y : Str) : xcN (xcD0 y) = some y := rfl
@[simp] theorem notFn_xc1 (y f : Str) (d : D) : notFn (xcD1 y f d) = true := rfl
@[simp] theorem notFn_xc0 (y : Str) : notFn (xcD0 y) = true := rfl
@[simp] theorem isTy_xc1 (T : String) (y f : Str) (d : D) : isTy T (xcD1 y f d) = ("object" == T) := by
  show ("object" == T || (T == "int" && "object" == "bool")) = _
  simp
@[simp] theorem isTy_xc0 (T : String) (y : Str) : isTy T (xcD0 y) = ("object" == T) := by
  show ("object" == T || (T == "int" && "object" == "bool")) = _
  simp
end L3
namespace L3
open PySem PySem.Spec PyProof.Rows L2
def eqK : D → D → Bool
  | .dict [], .dict [] => true
  | .dict [(.str x, .int i)], .dict [(.str y, .int j)] => x == y && i == j
  | _, _ => false
def eqX (d e : D) : Option R := if eqK d e = true then some (.dat (.bool true)) else eqE d e
section
variable {X : Cx} {pins : List (Addr × Obj)} {σ : L2.St} {H : Hp} {s : Shared} {N : Addr → Prop}
theorem dict_at (I : Inv X pins σ H s) {ds : List (D × D)} {v : V} {u : Value} (h : SRep X.K N H v (.dict ds)) (hf : isFnD ds = false) (r : RelV v u) :
    ∃ (a : Addr) (kvs : List (Key × V)) (vs : List (Key × Value)), u = .ref a ∧ (a == sysModules) = false ∧ KV kvs vs ∧ s.heap.DictOf (mixKind X.prog X.w) a vs ∧ RepK X.K N H kvs ds := by
  obtain ⟨a, kvs, rfl, h1, h2⟩ := h.dict hf
  obtain ⟨_, hs, vs, hk, hd⟩ := (show ObjOk X.prog X.w H s.heap a (.dK kvs) from I.hok a _ h1)
  exact ⟨a, kvs, vs, r, hs, hk, hd, h2⟩
theorem RepK.one {K : PySem.W.Frag} {kvs : List (Key × V)} {x : Str} {d : D} (h : RepK K N H kvs [(.str x, d)]) : ∃ v, kvs = [(.inr x, v)] ∧ Rep K N H v d := by
  generalize hD : [(PyData.str x, d)] = DD at h
  cases h with
  | nil => cases hD
  | @cons k v d' kvs ds r t =>
    injection hD with h1 h2
    injection h1 with h3 h4
    subst h4 h2
    cases t
    cases k with
    | inl i => cases h3
    | inr y => cases h3; exact ⟨v, rfl, r⟩
theorem eqK_rc (I : Inv X pins σ H s) {A : Around} (hu : A.units + 2 < cLine) {d e : D} {v w : V} {u z : Value} (hx : SRep X.K N H v d) (hy : SRep X.K N H w e) (rx : RelV v u) (ry : RelV w z) (h : eqK d e = true)
    {E : Value → Shared → Prop} {Q : Value → Shared → Prop} (q : Q (.bool true) s) : wpAny (model X.prog X.w) A (compareOp .Eq u z) Q E s := by
  unfold eqK at h
  split at h
  · obtain ⟨a, kvs, vs, rfl, a1, a2, a3, a4⟩ := dict_at I hx rfl rx
    obtain ⟨b, kvs', vs', rfl, b1, b2, b3, b4⟩ := dict_at I hy rfl ry
    cases a4; cases a2; cases b4; cases b2
    exact PySem.W.keq_eqIn a1 b1 a3 b3 (by omega) (fun _ => .nil) q
  · rename_i x i y j
    rw [Bool.and_eq_true, beq_iff_eq, beq_iff_eq] at h
    obtain ⟨rfl, rfl⟩ := h
    obtain ⟨a, kvs, vs, rfl, a1, a2, a3, a4⟩ := dict_at I hx rfl rx
    obtain ⟨b, kvs', vs', rfl, b1, b2, b3, b4⟩ := dict_at I hy rfl ry
    obtain ⟨v1, rfl, r1⟩ := RepK.one a4
    obtain ⟨v2, rfl, r2⟩ := RepK.one b4
    cases r1
    cases r2
    cases a2 with
    | @cons _ p _ ps hp tp =>
      cases tp
      cases b2 with
      | @cons _ p' _ ps' hp' tp' =>
        cases tp'
        obtain ⟨k1, u1⟩ := p
        obtain ⟨k2, u2⟩ := p'
        obtain ⟨e1, e2⟩ := hp
        obtain ⟨e3, e4⟩ := hp'
        simp only at e1 e2 e3 e4
        subst e1 e3
        obtain ⟨t1, rfl⟩ := e2
        obtain ⟨t2, rfl⟩ := e4
        refine PySem.W.keq_eqIn (r := true && true) a1 b1 a3 b3 (by omega) (fun _ => .hit (y := .int i t2) (by simp [valueAt]) ?_ .nil) q
        have := (SeqAt.EqAt.int_int (A := A.in1) (s := s) i t1 i t2).inModel X.prog X.w
        rwa [show (i == i) = true from beq_self_eq_true i] at this
  · cases h
end
section
variable {G : GC} {S : SC}
theorem op_eqX (X : Cx) (c : CxOk G S X) : OpR X (compareOp .Eq) (rD2 G.K eqX) := by
  intro pins s σ H x y v u Q I rx ry ⟨N, d, e, r, tk, hx, hy, eg, q⟩
  unfold eqX at eg
  split at eg
  · cases eg
    rename_i h
    rw [← c.K] at hx hy q
    have hu := hu65 c.room
    exact eqK_rc I (by omega) hx hy rx ry h ⟨.bl _, H, I, rfl, q _ H (.dat (.bl _))⟩
  · exact op_eqE X c pins s σ H x y v u Q I rx ry ⟨N, d, e, r, tk, hx, hy, eg, q⟩
end
@[simp] theorem eqX_str (x y : Str) : eqX (.str x) (.str y) = some (.dat (.bool (x == y))) := by simp [eqX, eqK, eqE, cmpE, notFnT, PyData.eqv]
theorem eqX_K {d e : D} (h : eqK d e = true) : eqX d e = some (.dat (.bool true)) := by unfold eqX; rw [if_pos h]
end L3
namespace K00
open PySem L3
noncomputable section
/-- _law_alike(_law_found, _law_due); slots: _law_found, _law_due -/
def b__law_alike : MS := (mret (mandV (m2 eqX (mvar 0) (mvar 1)) (m2 eqX (mn reprE (mcons (mvar 0) mnil)) (mn reprE (mcons (mvar 1) mnil)))))
def m_law_alike : MF := mdef 2 b__law_alike
/-- _law_take(_law_bag_here, _law_many); slots: _law_bag_here, _law_many, _law_begin, _law_second, _law_cell, _law_stirred, _law_value -/
def b__law_take : MS := (mseq (mifS (mtst (m2 eqD (m2 ixD (mvar 0) (mcon (.int 0))) (mcon (.int 0)))) (mseq (masg 4 (m2 ixD (m2 addD (msl slD (m2 ixD (mvar 0) (mcon (.int 3))) (mosome (m2 ixD (mvar 0) (mcon (.int 2)))) monone) (mlst (mcons (mcon (.int 0)) mnil))) (mcon (.int 0))))
    (mseq (maugL 0 addI (mcon (.int 2)) (mcon (.int 1)))
    (mseq (mifS (mtst (m2 geD (mvar 4) (m2 powD (mcon (.int 10)) (mcon (.int 18))))) (mput 0 (mcon (.int 0)) (mvar 4)) mpass)
    (mseq (masg 5 (m2 addD (m2 addD (m2 mulD (m2 ixD (mvar 0) (mcon (.int 1))) (mcon (.int 48271))) (m2 modD (mn intD (mcons (mvar 4) mnil)) (mcon (.int 2147483647)))) (m2 mulD (mcon (.int 7919)) (m2 ixD (mvar 0) (mcon (.int 2))))))
    (mput 0 (mcon (.int 1)) (m2 modD (mn intD (mcons (mvar 5) mnil)) (mcon (.int 2147483647)))))))) mpass)
    (mseq (mifS (mtst (m2 gtD (m2 ixD (mvar 0) (mcon (.int 0))) (mcon (.int 0)))) (mseq (masg 6 (m2 modD (mn intD (mcons (m2 ixD (mvar 0) (mcon (.int 0))) mnil)) (mvar 1)))
    (mseq (mput 0 (mcon (.int 0)) (m2 fdivD (mn intD (mcons (m2 ixD (mvar 0) (mcon (.int 0))) mnil)) (mvar 1)))
    (mret (mvar 6)))) mpass)
    (mseq (masg 2 (m2 modD (mn intD (mcons (m2 mulD (m2 addD (m2 ixD (mvar 0) (mcon (.int 1))) (mcon (.int 1))) (mcon (.int 39373))) mnil)) (mcon (.int 1000000007))))
    (mseq (masg 3 (m2 modD (mn intD (mcons (m2 mulD (m2 modD (mn intD (mcons (m2 mulD (mvar 2) (mvar 2)) mnil)) (mcon (.int 998244353))) (mcon (.int 30011))) mnil)) (mcon (.int 998244353))))
    (mret (m2 modD (mn intD (mcons (m2 fdivD (mvar 3) (mcon (.int 7))) mnil)) (mvar 1)))))))
def m_law_take : MF := mdef 7 b__law_take
/-- _law_some(_law_bag_here, _law_things); slots: _law_bag_here, _law_things -/
def b__law_some : MS := (mret (m2 ixD (mvar 1) (mcall m_law_take (mcons (mvar 0) (mcons (mn lenD (mcons (mvar 1) mnil)) mnil)))))
def m_law_some : MF := mdef 2 b__law_some
/-- _law_odd(_law_bag_here); slots: _law_bag_here, _law_menu -/
def b__law_odd : MS := (mseq (masg 1 (mlst (mcons (mcon .none) (mcons (mcon (.bool true)) (mcons (mcon (.bool false)) (mcons (mcon (.int 0)) (mcons (mcon (.int 1)) (mcons (m1 negD (mcon (.int 1))) (mcons (mcon (.int 7)) (mcons (m2 powD (mcon (.int 10)) (mcon (.int 39))) (mcons (mcon (.str (Str.ofString ""))) (mcons (mcon (.str (Str.ofString "a"))) (mcons (mcon (.str (Str.ofString "num"))) (mcons (mcon (.str (Str.ofString "x1"))) (mcons (mcon (.str (Str.ofString "{"))) (mcons (mtup mnil) (mcons (mlst mnil) (mcons mdnew (mcons (mtup (mcons (mcon (.str (Str.ofString "num"))) (mcons (mcon (.int 1)) mnil))) mnil)))))))))))))))))))
    (mseq (masg 1 (m2 addD (m2 addD (mvar 1) (mlst (mcons (mtup (mcons (mcon (.str (Str.ofString "name"))) (mcons (mcon (.str (Str.ofString "a"))) mnil))) mnil))) (mlst (mcons (mlst (mcons (mcon (.str (Str.ofString "a"))) mnil)) (mcons (mdic [(.inr (Str.ofString "a"), .int 1)]) (mcons (mtup (mcons (mcon (.str (Str.ofString "give"))) mnil)) (mcons (mtup (mcons (mtup (mcons (mcon (.str (Str.ofString "give"))) (mcons (mtup (mcons (mcon (.str (Str.ofString "num"))) (mcons (mcon (.int 1)) mnil))) mnil))) mnil)) (mcons (mtup (mcons (mcon (.str (Str.ofString "plain"))) (mcons (mcon (.str (Str.ofString "a"))) mnil))) (mcons (mcon (.str (Str.ofString "X"))) (mcons (mcon (.str (Str.ofString "a b"))) mnil))))))))))
    (mret (mcall m_law_some (mcons (mvar 0) (mcons (m2 addD (mvar 1) (mlst (mcons (mtup (mcons (mcon (.str (Str.ofString "num"))) (mcons (mcon (.bool true)) mnil))) mnil))) mnil))))))
def m_law_odd : MF := mdef 2 b__law_odd
/-- _law_are_errors_right(_law_bag_here); slots: _law_bag_here, _law_thing, _law_errors, _law_kept, _law_at, _law_error, _law_told, _law_one, _law_place -/
def T__law_are_errors_right_1 : MT := (mnot (mtru (mcall m_law_alike (mcons (mvar 7) (mcons (mvar 1) mnil)))))
def M__law_are_errors_right_1 : ME := (mvar 7)
def M__law_are_errors_right_2 : ME := (m2 eqD (mvar 8) (mvar 4))
def L__law_are_errors_right_3 : MS := (mseq (mifS (morT (mnot (mtru (misc [(Str.ofString "NoAnswer", true), (Str.ofString "NoCommand", true), (Str.ofString "NoEnding", true), (Str.ofString "NoTree", true), (Str.ofString "NoWord", true), (Str.ofString "Nothing", true), (Str.ofString "TooLong", true), (Str.ofString "TooMany", true), (Str.ofString "Wrong", true)] (mvar 5)))) (mnot (mtru (misv "ValueError" (mvar 5))))) (mret (mcon (.bool false))) mpass)
    (mseq (masg 6 (mlst (mcons (misc [(Str.ofString "NoAnswer", true), (Str.ofString "NoCommand", false), (Str.ofString "NoEnding", false), (Str.ofString "NoTree", false), (Str.ofString "NoWord", false), (Str.ofString "Nothing", false), (Str.ofString "TooLong", false), (Str.ofString "TooMany", false), (Str.ofString "Wrong", false)] (mvar 5)) (mcons (misc [(Str.ofString "NoAnswer", false), (Str.ofString "NoCommand", true), (Str.ofString "NoEnding", false), (Str.ofString "NoTree", false), (Str.ofString "NoWord", false), (Str.ofString "Nothing", false), (Str.ofString "TooLong", false), (Str.ofString "TooMany", false), (Str.ofString "Wrong", false)] (mvar 5)) (mcons (misc [(Str.ofString "NoAnswer", false), (Str.ofString "NoCommand", false), (Str.ofString "NoEnding", false), (Str.ofString "NoTree", true), (Str.ofString "NoWord", false), (Str.ofString "Nothing", false), (Str.ofString "TooLong", false), (Str.ofString "TooMany", false), (Str.ofString "Wrong", false)] (mvar 5)) mnil)))))
    (mseq (masg 6 (m2 addD (mvar 6) (mlst (mcons (misc [(Str.ofString "NoAnswer", false), (Str.ofString "NoCommand", false), (Str.ofString "NoEnding", false), (Str.ofString "NoTree", false), (Str.ofString "NoWord", true), (Str.ofString "Nothing", false), (Str.ofString "TooLong", false), (Str.ofString "TooMany", false), (Str.ofString "Wrong", false)] (mvar 5)) (mcons (misc [(Str.ofString "NoAnswer", false), (Str.ofString "NoCommand", false), (Str.ofString "NoEnding", false), (Str.ofString "NoTree", false), (Str.ofString "NoWord", false), (Str.ofString "Nothing", false), (Str.ofString "TooLong", true), (Str.ofString "TooMany", false), (Str.ofString "Wrong", false)] (mvar 5)) (mcons (misc [(Str.ofString "NoAnswer", false), (Str.ofString "NoCommand", false), (Str.ofString "NoEnding", false), (Str.ofString "NoTree", false), (Str.ofString "NoWord", false), (Str.ofString "Nothing", false), (Str.ofString "TooLong", false), (Str.ofString "TooMany", true), (Str.ofString "Wrong", false)] (mvar 5)) mnil))))))
    (mseq (masg 6 (m2 addD (mvar 6) (mlst (mcons (misc [(Str.ofString "NoAnswer", false), (Str.ofString "NoCommand", false), (Str.ofString "NoEnding", false), (Str.ofString "NoTree", false), (Str.ofString "NoWord", false), (Str.ofString "Nothing", false), (Str.ofString "TooLong", false), (Str.ofString "TooMany", false), (Str.ofString "Wrong", true)] (mvar 5)) (mcons (misc [(Str.ofString "NoAnswer", false), (Str.ofString "NoCommand", false), (Str.ofString "NoEnding", true), (Str.ofString "NoTree", false), (Str.ofString "NoWord", false), (Str.ofString "Nothing", false), (Str.ofString "TooLong", false), (Str.ofString "TooMany", false), (Str.ofString "Wrong", false)] (mvar 5)) (mcons (misc [(Str.ofString "NoAnswer", false), (Str.ofString "NoCommand", false), (Str.ofString "NoEnding", false), (Str.ofString "NoTree", false), (Str.ofString "NoWord", false), (Str.ofString "Nothing", true), (Str.ofString "TooLong", false), (Str.ofString "TooMany", false), (Str.ofString "Wrong", false)] (mvar 5)) mnil))))))
    (mifS (mtst (m2 neD (mvar 6) (mlc (mirng1 (mcons (mcon (.int 9)) mnil)) (gnm 8) myes M__law_are_errors_right_2 [8]))) (mret (mcon (.bool false))) mpass)))))
def b__law_are_errors_right : MS := (mseq (masg 1 (mcall m_law_odd (mcons (mvar 0) mnil)))
    (mseq (masg 2 (mlst (mcons (mxc1 (Str.ofString "NoAnswer") (Str.ofString "place") (mcons (mvar 1) mnil)) (mcons (mxc1 (Str.ofString "NoCommand") (Str.ofString "line") (mcons (mvar 1) mnil)) (mcons (mxc1 (Str.ofString "NoTree") (Str.ofString "index") (mcons (mvar 1) mnil)) (mcons (mxc1 (Str.ofString "NoWord") (Str.ofString "place") (mcons (mvar 1) mnil)) (mcons (mxc1 (Str.ofString "TooLong") (Str.ofString "most") (mcons (mvar 1) mnil)) (mcons (mxc1 (Str.ofString "TooMany") (Str.ofString "most") (mcons (mvar 1) mnil)) mnil))))))))
    (mseq (masg 3 (mlst (mcons (matt (Str.ofString "place") (m2 ixD (mvar 2) (mcon (.int 0)))) (mcons (matt (Str.ofString "line") (m2 ixD (mvar 2) (mcon (.int 1)))) (mcons (matt (Str.ofString "index") (m2 ixD (mvar 2) (mcon (.int 2)))) (mcons (matt (Str.ofString "place") (m2 ixD (mvar 2) (mcon (.int 3)))) (mcons (matt (Str.ofString "most") (m2 ixD (mvar 2) (mcon (.int 4)))) (mcons (matt (Str.ofString "most") (m2 ixD (mvar 2) (mcon (.int 5)))) mnil))))))))
    (mseq (masg 2 (m2 addD (mvar 2) (mlst (mcons (mxc1 (Str.ofString "Wrong") (Str.ofString "place") (mcons (mvar 1) mnil)) (mcons (mcon (xcD0 (Str.ofString "NoEnding"))) (mcons (mcon (xcD0 (Str.ofString "Nothing"))) mnil))))))
    (mseq (mifS (mtst (m2 neD (mlc (miseqC (m2 addD (mvar 3) (mlst (mcons (matt (Str.ofString "place") (m2 ixD (mvar 2) (mcon (.int 6)))) mnil)))) (gnm 7) T__law_are_errors_right_1 M__law_are_errors_right_1 [7]) (mlst mnil))) (mret (mcon (.bool false))) mpass)
    (mseq (mfor (mienum (mcons (mvar 2) mnil)) (gtup [4, 5]) L__law_are_errors_right_3)
    (mret (mcon (.bool true)))))))))
def m_law_are_errors_right : MF := mdef 9 b__law_are_errors_right
/-- _law_bag(_law_script); slots: _law_script, _law_cell -/
def M__law_bag_1 : ME := (mn absD (mcons (mvar 1) mnil))
def b__law_bag : MS := (mret (mlst (mcons (mcon (.int 0)) (mcons (mcon (.int 1234567891)) (mcons (mcon (.int 0)) (mcons (mlc (miseqC (msl slD (mvar 0) monone (mosome (mcon (.int 63))))) (gnm 1) myes M__law_bag_1 [1]) mnil))))))
def m_law_bag : MF := mdef 2 b__law_bag
/-- _law_is_int(_law_thing); slots: _law_thing -/
def b__law_is_int : MS := (mret (mandV (misi "int" (mvar 0)) (mnotV (misi "bool" (mvar 0)))))
def m_law_is_int : MF := mdef 1 b__law_is_int
/-- _law_bent(_law_bag_here, _law_thing, _law_deep); slots: _law_bag_here, _law_thing, _law_deep, _law_way, _law_at, _law_more -/
def b__law_bent (r__law_bent : MF) : MS := (mseq (mifS (morT (mnot (mtru (misi "tuple" (mvar 1)))) (morT (mtst (m2 eqD (mvar 1) (mtup mnil))) (mtst (m2 eqD (mvar 2) (mcon (.int 0)))))) (mseq (mifS (mandT (mtru (misi "str" (mvar 1))) (mtst (m2 gtD (mcall m_law_take (mcons (mvar 0) (mcons (mcon (.int 3)) mnil))) (mcon (.int 0))))) (mseq (masg 5 (mlst (mcons (mcon (.str (Str.ofString "num"))) (mcons (mcon (.str (Str.ofString "truth"))) (mcons (mcon (.str (Str.ofString "a"))) (mcons (mcon (.str (Str.ofString ""))) (mcons (mcon (.str (Str.ofString "A"))) (mcons (mcon (.str (Str.ofString "give"))) (mcons (mcon (.str (Str.ofString "1"))) (mcons (m2 addD (mvar 1) (mcon (.str (Str.ofString "1")))) (mcons (msl slD (mvar 1) monone (mosome (m1 negD (mcon (.int 1))))) (mcons (m2 addD (mvar 1) (mcon (.str (Str.ofString "_")))) (mcons (m2 mulSD (mcon (.str (Str.ofString "x"))) (mcon (.int 21))) mnil)))))))))))))
    (mret (mcall m_law_some (mcons (mvar 0) (mcons (m2 addD (mvar 5) (mlst (mcons (m2 mulSD (mcon (.str (Str.ofString "x"))) (mcon (.int 20))) (mcons (m2 addD (mvar 1) (mcon (.str (Str.ofString "\n")))) (mcons (m2 addD (mvar 1) (mcon (.str (Str.ofString "\n")))) (mcons (m2 addD (mcon (.str (Str.ofString "\n"))) (mvar 1)) mnil)))))) mnil))))) mpass)
    (mseq (mifS (mandT (mtru (mcall m_law_is_int (mcons (mvar 1) mnil))) (mtst (m2 gtD (mcall m_law_take (mcons (mvar 0) (mcons (mcon (.int 3)) mnil))) (mcon (.int 0))))) (mret (mcall m_law_some (mcons (mvar 0) (mcons (mlst (mcons (m2 addD (mvar 1) (mcon (.int 1))) (mcons (m2 subD (mcon (.int 0)) (mvar 1)) (mcons (m2 eqD (mvar 1) (mcon (.int 1))) (mcons (mn strD (mcons (mvar 1) mnil)) (mcons (mcon (.int 999999999)) (mcons (mcon (.int 1000000000)) (mcons (m1 negD (mcon (.int 1))) mnil)))))))) mnil)))) mpass)
    (mret (mcall m_law_odd (mcons (mvar 0) mnil))))) mpass)
    (mseq (mpar 3 4 (mcall m_law_take (mcons (mvar 0) (mcons (mcon (.int 12)) mnil))) (mcall m_law_take (mcons (mvar 0) (mcons (mn lenD (mcons (mvar 1) mnil)) mnil))))
    (mseq (mifS (mtst (m2 eqD (mvar 3) (mcon (.int 0)))) (mret (mn listD (mcons (mvar 1) mnil))) mpass)
    (mseq (mifS (mtst (m2 eqD (mvar 3) (mcon (.int 1)))) (mret (m2 addD (msl slD (mvar 1) monone (mosome (mvar 4))) (msl slD (mvar 1) (mosome (m2 addD (mvar 4) (mcon (.int 1)))) monone))) mpass)
    (mseq (mifS (mtst (m2 eqD (mvar 3) (mcon (.int 2)))) (mret (m2 addD (m2 addD (msl slD (mvar 1) monone (mosome (mvar 4))) (mtup (mcons (mcall m_law_odd (mcons (mvar 0) mnil)) mnil))) (msl slD (mvar 1) (mosome (mvar 4)) monone))) mpass)
    (mseq (mifS (mtst (m2 eqD (mvar 3) (mcon (.int 3)))) (mret (m2 addD (m2 addD (msl slD (mvar 1) monone (mosome (mvar 4))) (msl slD (mvar 1) (mosome (mvar 4)) (mosome (m2 addD (mvar 4) (mcon (.int 1)))))) (msl slD (mvar 1) (mosome (mvar 4)) monone))) mpass)
    (mret (m2 addD (m2 addD (msl slD (mvar 1) monone (mosome (mvar 4))) (mtup (mcons (mcall r__law_bent (mcons (mvar 0) (mcons (m2 ixD (mvar 1) (mvar 4)) (mcons (m2 subD (mvar 2) (mcon (.int 1))) mnil)))) mnil))) (msl slD (mvar 1) (mosome (m2 addD (mvar 4) (mcon (.int 1)))) monone)))))))))
def m_law_bent : Nat → MF
  | 0 => fun _ => none
  | d + 1 => mdef 6 (b__law_bent (m_law_bent d))
/-- _law_is_digit(_law_sign); slots: _law_sign -/
def b__law_is_digit : MS := (mret (mchain leD leD (mcon (.str (Str.ofString "0"))) (mvar 0) (mcon (.str (Str.ofString "9")))))
def m_law_is_digit : MF := mdef 1 b__law_is_digit
/-- _law_is_letter(_law_sign); slots: _law_sign -/
def b__law_is_letter : MS := (mret (mchain leD leD (mcon (.str (Str.ofString "a"))) (mvar 0) (mcon (.str (Str.ofString "z")))))
def m_law_is_letter : MF := mdef 1 b__law_is_letter
/-- _law_keywords(); slots: _law_words -/
def b__law_keywords : MS := (mseq (masg 0 (mcon (.str (Str.ofString "plain once record choice given def let open if else match repeat give true false num truth and"))))
    (mret (mm "str" splitD (mvar 0) (mcons (mcon (.str (Str.ofString " "))) mnil))))
def m_law_keywords : MF := mdef 1 b__law_keywords
/-- _law_signs(); slots:  -/
def b__law_signs : MS := (mret (mlst (mcons (mcon (.str (Str.ofString "{"))) (mcons (mcon (.str (Str.ofString "}"))) (mcons (mcon (.str (Str.ofString "("))) (mcons (mcon (.str (Str.ofString ")"))) (mcons (mcon (.str (Str.ofString ","))) (mcons (mcon (.str (Str.ofString ":"))) (mcons (mcon (.str (Str.ofString ";"))) (mcons (mcon (.str (Str.ofString "="))) (mcons (mcon (.str (Str.ofString "+"))) (mcons (mcon (.str (Str.ofString "<"))) (mcons (mcon (.str (Str.ofString "."))) mnil)))))))))))))
def m_law_signs : MF := mdef 0 b__law_signs
/-- _law_sort(_law_word); slots: _law_word, _law_odd_here, _law_is_number, _law_sign -/
def T__law_sort_1 : MT := (mandT (mnot (mtru (mcall m_law_is_letter (mcons (mvar 3) mnil)))) (mnot (mtru (mcall m_law_is_digit (mcons (mvar 3) mnil)))))
def M__law_sort_1 : ME := (mvar 3)
def T__law_sort_2 : MT := (mtru (mcall m_law_is_letter (mcons (mvar 3) mnil)))
def M__law_sort_2 : ME := (mvar 3)
def b__law_sort : MS := (mseq (mifS (mtst (m2 inD (mvar 0) (mcall m_law_keywords mnil))) (mret (mcon (.str (Str.ofString "keyword")))) mpass)
    (mseq (mifS (mtst (m2 inD (mvar 0) (mcall m_law_signs mnil))) (mret (mcon (.str (Str.ofString "sign")))) mpass)
    (mseq (masg 1 (mlc (miseqC (mvar 0)) (gnm 3) T__law_sort_1 M__law_sort_1 [3]))
    (mseq (mifS (morT (mnot (mtst (mchain leD leD (mcon (.int 1)) (mn lenD (mcons (mvar 0) mnil)) (mcon (.int 20))))) (mtst (m2 neD (mvar 1) (mlst mnil)))) (mret (mcon .none)) mpass)
    (mseq (mifS (mtru (mcall m_law_is_letter (mcons (m2 ixD (mvar 0) (mcon (.int 0))) mnil))) (mret (mcon (.str (Str.ofString "name")))) mpass)
    (mseq (masg 2 (mandV (m2 leD (mn lenD (mcons (mvar 0) mnil)) (mcon (.int 9))) (m2 eqD (mlc (miseqC (mvar 0)) (gnm 3) T__law_sort_2 M__law_sort_2 [3]) (mlst mnil))))
    (mret (mif (mandT (mtru (mvar 2)) (morT (mtst (m2 neD (m2 ixD (mvar 0) (mcon (.int 0))) (mcon (.str (Str.ofString "0"))))) (mtst (m2 eqD (mn lenD (mcons (mvar 0) mnil)) (mcon (.int 1)))))) (mcon (.str (Str.ofString "number"))) (mcon .none)))))))))
def m_law_sort : MF := mdef 4 b__law_sort
/-- _law_is_name(_law_thing); slots: _law_thing -/
def b__law_is_name : MS := (mret (mandV (misi "str" (mvar 0)) (m2 eqD (mcall m_law_sort (mcons (mvar 0) mnil)) (mcon (.str (Str.ofString "name"))))))
def m_law_is_name : MF := mdef 1 b__law_is_name
/-- _law_is_kind(_law_thing); slots: _law_thing -/
def b__law_is_kind : MS := (mret (morV (mcall m_law_is_name (mcons (mvar 0) mnil)) (mandV (misi "str" (mvar 0)) (m2 inD (mvar 0) (mtup (mcons (mcon (.str (Str.ofString "num"))) (mcons (mcon (.str (Str.ofString "truth"))) mnil)))))))
def m_law_is_kind : MF := mdef 1 b__law_is_kind
/-- _law_is_lot(_law_thing); slots: _law_thing, _law_at, _law_one -/
def T__law_is_lot_1 : MT := (mnot (mtru (misi "str" (mvar 2))))
def M__law_is_lot_1 : ME := (mvar 2)
def T__law_is_lot_2 : MT := (mtst (m2 geD (m2 ixD (mvar 0) (mvar 1)) (m2 ixD (mvar 0) (m2 addD (mvar 1) (mcon (.int 1))))))
def M__law_is_lot_2 : ME := (mvar 1)
def b__law_is_lot : MS := (mseq (mifS (morT (mnot (mtru (misi "tuple" (mvar 0)))) (mtst (m2 neD (mlc (miseqC (mvar 0)) (gnm 2) T__law_is_lot_1 M__law_is_lot_1 [2]) (mlst mnil)))) (mret (mcon (.bool false))) mpass)
    (mret (m2 eqD (mlc (mirng1 (mcons (m2 subD (mn lenD (mcons (mvar 0) mnil)) (mcon (.int 1))) mnil)) (gnm 1) T__law_is_lot_2 M__law_is_lot_2 [1]) (mlst mnil))))
def m_law_is_lot : MF := mdef 3 b__law_is_lot
/-- _law_is_word(_law_thing); slots: _law_thing -/
def b__law_is_word : MS := (mret (mandV (misi "str" (mvar 0)) (m2 isNotD (mcall m_law_sort (mcons (mvar 0) mnil)) (mcon .none))))
def m_law_is_word : MF := mdef 1 b__law_is_word
/-- _law_some_word(_law_bag_here); slots: _law_bag_here, _law_menu, _law_word, _law_signs_here, _law_drawn, _law_odd_here, _law_turn -/
def M__law_some_word_1 : ME := (mcall m_law_some (mcons (mvar 0) (mcons (mvar 3) mnil)))
def b__law_some_word : MS := (mseq (masg 1 (m2 addD (m2 addD (mcall m_law_keywords mnil) (mcall m_law_signs mnil)) (mlst (mcons (mcon (.str (Str.ofString "a"))) (mcons (mcon (.str (Str.ofString "x1"))) (mcons (mcon (.str (Str.ofString "0"))) (mcons (mcon (.str (Str.ofString "12"))) (mcons (mcon (.str (Str.ofString "999999999"))) (mcons (mcon (.str (Str.ofString "1000000000"))) (mcons (mcon (.str (Str.ofString "01"))) (mcons (mcon (.str (Str.ofString "00"))) (mcons (mcon (.str (Str.ofString ""))) (mcons (mcon (.str (Str.ofString "A"))) mnil)))))))))))))
    (mseq (masg 1 (m2 addD (mvar 1) (mlst (mcons (mcon (.str (Str.ofString "1a"))) (mcons (mcon (.str (Str.ofString "a_"))) (mcons (mcon (.str (Str.ofString "a b"))) (mcons (mcon (.str (Str.ofString "gives"))) (mcons (mcon (.str (Str.ofString "giv"))) (mcons (m2 mulSD (mcon (.str (Str.ofString "n"))) (mcon (.int 20))) (mcons (m2 mulSD (mcon (.str (Str.ofString "n"))) (mcon (.int 21))) (mcons (mcon (.str (Str.ofString "-"))) (mcons (mcon (.str (Str.ofString "->"))) (mcons (mcon (.str (Str.ofString "<="))) (mcons (mcon (.str (Str.ofString "=="))) (mcons (mcon (.str (Str.ofString "{}"))) (mcons (m2 mulSD (mcon (.str (Str.ofString "1"))) (mcon (.int 9))) mnil))))))))))))))))
    (mseq (masg 1 (m2 addD (mvar 1) (mlst (mcons (mcon (.str (Str.ofString " "))) (mcons (mcon (.str (Str.ofString "aB"))) (mcons (m2 mulSD (mcon (.str (Str.ofString "9"))) (mcon (.int 10))) (mcons (mcon (.str (Str.ofString "a\n"))) (mcons (mcon (.str (Str.ofString "7\n"))) (mcons (mcon (.str (Str.ofString "num\n"))) (mcons (mcon (.str (Str.ofString "give\n"))) (mcons (mcon (.str (Str.ofString "\na"))) (mcons (mcon (.str (Str.ofString "{\n"))) (mcons (mcon (.str (Str.ofString "\n"))) (mcons (mcon (.str (Str.ofString "x1\n"))) mnil))))))))))))))
    (mseq (mpar 2 3 (mcall m_law_some (mcons (mvar 0) (mcons (mvar 1) mnil))) (mcon (.str (Str.ofString "abcdefghijklmnopqrstuvwxyz0123456789"))))
    (mseq (masg 4 (mm "str" joinD (mcon (.str (Str.ofString ""))) (mcons (mlc (mirng1 (mcons (m2 addD (mcon (.int 1)) (mcall m_law_take (mcons (mvar 0) (mcons (mcon (.int 9)) mnil)))) mnil)) (gnm 6) myes M__law_some_word_1 [6]) mnil)))
    (mseq (masg 5 (m2 addD (mvar 4) (mcall m_law_some (mcons (mvar 0) (mcons (mcon (.str (Str.ofString "ABCDEFGHIJKLMNOPQRSTUVWXYZ#$&'*/>?@^_|~!-"))) mnil)))))
    (mret (mcall m_law_some (mcons (mvar 0) (mcons (mlst (mcons (mvar 2) (mcons (mvar 2) (mcons (m2 addD (mvar 2) (mcall m_law_some (mcons (mvar 0) (mcons (mvar 1) mnil)))) (mcons (msl slD (mvar 2) monone (mosome (m1 negD (mcon (.int 1))))) (mcons (mvar 4) (mcons (mvar 5) mnil))))))) mnil))))))))))
def m_law_some_word : MF := mdef 7 b__law_some_word
/-- is_integer(thing); slots: thing -/
def b_is_integer : MS := (mret (mandV (misi "int" (mvar 0)) (mnotV (misi "bool" (mvar 0)))))
def p_is_integer : MF := mdef 1 b_is_integer
/-- is_named(word); slots: word, sign -/
def M_is_named_1 : ME := (morV (m2 inD (mvar 1) (mcon (.str (Str.ofString "abcdefghijklmnopqrstuvwxyz")))) (m2 inD (mvar 1) (mcon (.str (Str.ofString "0123456789")))))
def b_is_named : MS := (mseq (mifS (morT (mnot (mtst (mchain leD leD (mcon (.int 1)) (mn lenD (mcons (mvar 0) mnil)) (mcon (.int 20))))) (morT (mtst (m2 inD (mvar 0) (mcon (.tuple [.str (Str.ofString "plain"), .str (Str.ofString "once"), .str (Str.ofString "record"), .str (Str.ofString "choice"), .str (Str.ofString "given"), .str (Str.ofString "def"), .str (Str.ofString "let"), .str (Str.ofString "open"), .str (Str.ofString "if"), .str (Str.ofString "else"), .str (Str.ofString "match"), .str (Str.ofString "repeat"), .str (Str.ofString "give"), .str (Str.ofString "true"), .str (Str.ofString "false"), .str (Str.ofString "num"), .str (Str.ofString "truth"), .str (Str.ofString "and")])))) (mtst (m2 notInD (m2 ixD (mvar 0) (mcon (.int 0))) (mcon (.str (Str.ofString "abcdefghijklmnopqrstuvwxyz"))))))) (mret (mcon (.bool false))) mpass)
    (mret (mn allD (mcons (mlc (miseqC (mvar 0)) (gnm 1) myes M_is_named_1 [1]) mnil))))
def p_is_named : MF := mdef 2 b_is_named
/-- is_number(word); slots: word, sign -/
def M_is_number_1 : ME := (m2 inD (mvar 1) (mcon (.str (Str.ofString "0123456789"))))
def b_is_number : MS := (mseq (mifS (morT (mnot (mtst (mchain leD leD (mcon (.int 1)) (mn lenD (mcons (mvar 0) mnil)) (mcon (.int 9))))) (mnot (mtru (mn allD (mcons (mlc (miseqC (mvar 0)) (gnm 1) myes M_is_number_1 [1]) mnil))))) (mret (mcon (.bool false))) mpass)
    (mret (morV (m2 eqD (mvar 0) (mcon (.str (Str.ofString "0")))) (m2 neD (m2 ixD (mvar 0) (mcon (.int 0))) (mcon (.str (Str.ofString "0")))))))
def p_is_number : MF := mdef 2 b_is_number
/-- sort_of_word(thing); slots: thing -/
def b_sort_of_word : MS := (mseq (mifS (mnot (mtru (misi "str" (mvar 0)))) (mret (mcon .none)) mpass)
    (mseq (mifS (mtst (m2 inD (mvar 0) (mcon (.tuple [.str (Str.ofString "plain"), .str (Str.ofString "once"), .str (Str.ofString "record"), .str (Str.ofString "choice"), .str (Str.ofString "given"), .str (Str.ofString "def"), .str (Str.ofString "let"), .str (Str.ofString "open"), .str (Str.ofString "if"), .str (Str.ofString "else"), .str (Str.ofString "match"), .str (Str.ofString "repeat"), .str (Str.ofString "give"), .str (Str.ofString "true"), .str (Str.ofString "false"), .str (Str.ofString "num"), .str (Str.ofString "truth"), .str (Str.ofString "and")])))) (mret (mcon (.str (Str.ofString "keyword")))) mpass)
    (mseq (mifS (mandT (mtst (m2 eqD (mn lenD (mcons (mvar 0) mnil)) (mcon (.int 1)))) (mtst (m2 inD (mvar 0) (mcon (.str (Str.ofString "{}(),:;=+<.")))))) (mret (mcon (.str (Str.ofString "sign")))) mpass)
    (mseq (mifS (mtru (mcall p_is_named (mcons (mvar 0) mnil))) (mret (mcon (.str (Str.ofString "name")))) mpass)
    (mret (mif (mtru (mcall p_is_number (mcons (mvar 0) mnil))) (mcon (.str (Str.ofString "number"))) (mcon .none)))))))
def p_sort_of_word : MF := mdef 1 b_sort_of_word
/-- is_name(thing); slots: thing -/
def b_is_name : MS := (mret (m2 eqD (mcall p_sort_of_word (mcons (mvar 0) mnil)) (mcon (.str (Str.ofString "name")))))
def p_is_name : MF := mdef 1 b_is_name
/-- is_kind(thing); slots: thing -/
def b_is_kind : MS := (mret (morV (mcall p_is_name (mcons (mvar 0) mnil)) (mandV (misi "str" (mvar 0)) (m2 inD (mvar 0) (mtup (mcons (mcon (.str (Str.ofString "num"))) (mcons (mcon (.str (Str.ofString "truth"))) mnil)))))))
def p_is_kind : MF := mdef 1 b_is_kind
/-- is_lot(thing); slots: thing, one, other -/
def M_is_lot_1 : ME := (misi "str" (mvar 1))
def M_is_lot_2 : ME := (m2 ltD (mvar 1) (mvar 2))
def b_is_lot : MS := (mseq (mifS (morT (mnot (mtru (misi "tuple" (mvar 0)))) (mnot (mtru (mn allD (mcons (mlc (miseqC (mvar 0)) (gnm 1) myes M_is_lot_1 [1]) mnil))))) (mret (mcon (.bool false))) mpass)
    (mret (mn allD (mcons (mlc (mizip (mcons (mvar 0) (mcons (msl slD (mvar 0) (mosome (mcon (.int 1))) monone) mnil))) (gtup [1, 2]) myes M_is_lot_2 [1, 2]) mnil))))
def p_is_lot : MF := mdef 3 b_is_lot
/-- is_row(thing); slots: thing, word -/
def M_is_row_1 : ME := (m2 isNotD (mcall p_sort_of_word (mcons (mvar 1) mnil)) (mcon .none))
def b_is_row : MS := (mret (mandV (misi "tuple" (mvar 0)) (mn allD (mcons (mlc (miseqC (mvar 0)) (gnm 1) myes M_is_row_1 [1]) mnil))))
def p_is_row : MF := mdef 2 b_is_row
/-- law(_law_script); slots: _law_script, _law_bag_here, _law_thing, _law_many, _law_turn, _law_told, _law_words, _law_things, _law_said, _law_sort_here, _law_is_all, _law_due, _law_one -/
def L_law_1 : MS := (mseq (masg 5 (mlst (mcons (mcall p_sort_of_word (mcons (mvar 2) mnil)) (mcons (mcall p_is_row (mcons (mvar 2) mnil)) (mcons (mcall p_is_integer (mcons (mvar 2) mnil)) (mcons (mcall p_is_name (mcons (mvar 2) mnil)) (mcons (mcall p_is_kind (mcons (mvar 2) mnil)) mnil)))))))
    (mifS (mnot (mtru (mcall m_law_alike (mcons (m2 addD (mvar 5) (mlst (mcons (mcall p_is_lot (mcons (mfz (mvar 2)) mnil)) mnil))) (mcons (m2 addD (mlst (mcons (mcon .none) mnil)) (m2 mulD (mlst (mcons (mcon (.bool false)) mnil)) (mcon (.int 5)))) mnil))))) (mret (mcon (.bool false))) mpass))
def M_law_2 : ME := (mcall m_law_some_word (mcons (mvar 1) mnil))
def T_law_3 : MT := (mnot (mtru (mcall m_law_is_word (mcons (mvar 12) mnil))))
def M_law_3 : ME := (mvar 12)
def L_law_4 : MS := (mseq (masg 8 (mn reprE (mcons (mvar 2) mnil)))
    (mseq (masg 9 (mif (mtru (misi "str" (mvar 2))) (mcall m_law_sort (mcons (mvar 2) mnil)) (mcon .none)))
    (mseq (masg 10 (mandV (misi "tuple" (mvar 2)) (m2 eqD (mlc (miseqC (mvar 2)) (gnm 12) T_law_3 M_law_3 [12]) (mlst mnil))))
    (mseq (masg 5 (mlst (mcons (mcall p_sort_of_word (mcons (mvar 2) mnil)) (mcons (mcall p_is_row (mcons (mvar 2) mnil)) (mcons (mcall p_is_integer (mcons (mvar 2) mnil)) mnil)))))
    (mseq (masg 5 (m2 addD (mvar 5) (mlst (mcons (mcall p_is_name (mcons (mvar 2) mnil)) (mcons (mcall p_is_kind (mcons (mvar 2) mnil)) (mcons (mcall p_is_lot (mcons (mfz (mvar 2)) mnil)) mnil))))))
    (mseq (masg 11 (mlst (mcons (mvar 9) (mcons (mvar 10) (mcons (mcall m_law_is_int (mcons (mvar 2) mnil)) (mcons (mcall m_law_is_name (mcons (mvar 2) mnil)) (mcons (mcall m_law_is_kind (mcons (mvar 2) mnil)) (mcons (mcall m_law_is_lot (mcons (mvar 2) mnil)) mnil))))))))
    (mifS (morT (mnot (mtru (mcall m_law_alike (mcons (mvar 5) (mcons (mvar 11) mnil))))) (mtst (m2 neD (mn reprE (mcons (mvar 2) mnil)) (mvar 8)))) (mret (mcon (.bool false))) mpass)))))))
def L_law_5 : MS := (mseq (masg 6 (mlc (mirng1 (mcons (mcall m_law_some (mcons (mvar 1) (mcons (mlst (mcons (mcon (.int 1)) (mcons (mcon (.int 2)) (mcons (mcon (.int 0)) (mcons (mcon (.int 3)) mnil))))) mnil))) mnil)) (gnm 12) myes M_law_2 [12]))
    (mseq (masg 6 (m2 addD (mvar 6) (mcall m_law_some (mcons (mvar 1) (mcons (mlst (mcons (mlst mnil) (mcons (mlst mnil) (mcons (mlst (mcons (mcon (.str (Str.ofString "a\n"))) mnil)) (mcons (mlst (mcons (mcon (.str (Str.ofString "num\n"))) mnil)) mnil))))) mnil)))))
    (mseq (masg 7 (mlst (mcons (mcall m_law_odd (mcons (mvar 1) mnil)) (mcons (mcall m_law_some (mcons (mvar 1) (mcons (m2 addD (mvar 6) (mlst (mcons (mcon (.str (Str.ofString "a"))) mnil))) mnil))) (mcons (mn tupleD (mcons (mvar 6) mnil)) (mcons (mvar 6) mnil))))))
    (mseq (mdrop (mmut "list" 7 appendD (mcons (mcall (m_law_bent 30) (mcons (mvar 1) (mcons (mn tupleD (mcons (mvar 6) mnil)) (mcons (mcon (.int 2)) mnil)))) mnil)))
    (mfor (miseq (mvar 7)) (gnm 2) L_law_4)))))
def b_law : MS := (mseq (masg 1 (mcall m_law_bag (mcons (mvar 0) mnil)))
    (mseq (mifS (mnot (mtru (mcall m_law_are_errors_right (mcons (mvar 1) mnil)))) (mret (mcon (.bool false))) mpass)
    (mseq (mfor (miseq (mtup (mcons (mxc1 (Str.ofString "Wrong") (Str.ofString "place") (mcons (mcon (.int 0)) mnil)) (mcons (mcon (xcD0 (Str.ofString "NoEnding"))) mnil)))) (gnm 2) L_law_1)
    (mseq (masg 3 (m2 mulTD (mtup (mcons (mcon (.str (Str.ofString "a"))) mnil)) (mcon (.int 401))))
    (mseq (mifS (mnot (mtru (mcall m_law_alike (mcons (mlst (mcons (mcall p_is_row (mcons (mvar 3) mnil)) (mcons (mcall p_is_row (mcons (m2 addD (mvar 3) (mtup (mcons (mcon (.str (Str.ofString "A"))) mnil))) mnil)) mnil))) (mcons (mlst (mcons (mcon (.bool true)) (mcons (mcon (.bool false)) mnil))) mnil))))) (mret (mcon (.bool false))) mpass)
    (mseq (mfor (mirng1 (mcons (mcon (.int 30)) mnil)) (gnm 4) L_law_5)
    (mret (mcon (.bool true)))))))))
def p_law : MF := mdef 13 b_law
end
end K00
namespace K00
open PySem PySem.Spec PyProof.Rows L3
def BagOk (xs : List D) : Prop := ∃ (a b c : Int) (cs : List Int), xs = [.int a, .int b, .int c, .list (cs.map PyData.int)] ∧ cs.length ≤ 63
theorem cut_map (cs : List Int) (lo hi : Option Int) : cutL (cs.map PyData.int) lo hi = (cutL cs lo hi).map PyData.int := by
  unfold cutL
  rw [List.map_take, List.map_drop, List.length_map]
theorem cut_len {α : Type} (cs : List α) (lo hi : Option Int) : (cutL cs lo hi).length ≤ cs.length := by
  unfold cutL
  rw [List.length_take, List.length_drop]
  omega
theorem atI_0 (d : D) (r : List D) : L2.atI (d :: r) 0 = some d := by
  simp [L2.atI, L2.ixN]
theorem atI_l0 {a b c d : D} : L2.atI [a, b, c, d] 0 = some a := rfl
theorem atI_l1 {a b c d : D} : L2.atI [a, b, c, d] 1 = some b := rfl
theorem atI_l2 {a b c d : D} : L2.atI [a, b, c, d] 2 = some c := rfl
theorem atI_l3 {a b c d : D} : L2.atI [a, b, c, d] 3 = some d := rfl
theorem ixN_l0 : L2.ixN 4 0 = some 0 := rfl
theorem ixN_l1 : L2.ixN 4 1 = some 1 := rfl
theorem ixN_l2 : L2.ixN 4 2 = some 2 := rfl
theorem first_ok (cs : List Int) (lo : Int) : ∃ v, L2.atI (cutL (cs.map PyData.int) (some lo) none ++ [PyData.int 0]) 0 = some (.int v) := by
  rw [cut_map]
  cases cutL cs (some lo) none with
  | nil => exact ⟨0, atI_0 _ _⟩
  | cons x r => exact ⟨x, atI_0 _ _⟩
theorem bag_ok (ns : List Int) (h : ns.length ≤ 63) : ∃ bag, m_law_bag [.dat (.list (ns.map PyData.int))] = some (.new (.lst bag), [.dat (.list (ns.map PyData.int))]) ∧ BagOk bag := by
  unfold m_law_bag b__law_bag
  have hc : cutL (ns.map PyData.int) none (some 63) = ns.map PyData.int := by
    unfold cutL
    have h1 : HT.sIx (ns.map PyData.int).length 0 none = 0 := HT.sIx_none _ _
    have h2 : HT.sIx (ns.map PyData.int).length (ns.map PyData.int).length (some 63) = (ns.map PyData.int).length := by
      rw [show ((63 : Int)) = ((63 : Nat) : Int) from rfl, HT.sIx_nat, List.length_map]
      omega
    rw [h1, h2, List.drop_zero, Nat.sub_zero, List.take_length]
  have hp := lc_pure (g := gnm 1) (t := myes) (m := M__law_bag_1) (vs := [1]) (ρ := [some (.dat (.list (ns.map PyData.int))), none]) PyData.int (fun i => some (.int (if i < 0 then -i else i))) ns (fun i _ => by
      refine ⟨[some (.dat (.list (ns.map PyData.int))), some (.dat (.int i))], true, ?_, ?_, rfl, rfl, ?_⟩
      · simp [sizeLine_eq, startE, argA, bxIx, back, newC, notBor, bxAt, restE, noBx, lstB, lstAt, isNoD]
      · simp [sizeLine_eq, startE, argA, bxIx, back, newC, notBor, bxAt, restE, noBx, lstB, lstAt, isNoD]
      · simp [sizeLine_eq, startE, argA, bxIx, back, newC, notBor, bxAt, restE, noBx, lstB, lstAt, isNoD, M__law_bag_1]) (by rw [sizeLine_eq]; omega)
  rw [show (ns.filterMap fun i => some (PyData.int (if i < 0 then -i else i))) = (ns.map fun i => if i < 0 then -i else i).map PyData.int by rw [List.filterMap_eq_map', List.map_map]; rfl] at hp
  refine ⟨[.int 0, .int 1234567891, .int 0, .list ((ns.map fun i => if i < 0 then -i else i).map PyData.int)], ?_, 0, 1234567891, 0, _, rfl, by rw [List.length_map]; exact h⟩
  have hz : (4 : Nat) ≤ sizeLine := by decide
  simp [sizeLine_eq, startE, argA, bxIx, back, newC, notBor, bxAt, restE, noBx, lstB, lstAt, isNoD, hc, hp, hz]
theorem mul_l {i : Int} (j : Int) (h : -(2 ^ 64) < i ∧ i < 2 ^ 64) : mulD (.int i) (.int j) = some (.dat (.int (i * j))) := by
  unfold mulD
  simp only []
  rw [if_pos (Or.inl h)]
theorem mul_r (i : Int) {j : Int} (h : -(2 ^ 64) < j ∧ j < 2 ^ 64) : mulD (.int i) (.int j) = some (.dat (.int (i * j))) := by
  unfold mulD
  simp only []
  rw [if_pos (Or.inr h)]
theorem mul_mod (x y : Int) : mulD (.int (x % 1000000007)) (.int y) = some (.dat (.int (x % 1000000007 * y))) := mul_l y ⟨by omega, by omega⟩
theorem mul_c1 (x : Int) : mulD (.int x) (.int 48271) = some (.dat (.int (x * 48271))) := mul_r x (by decide)
theorem mul_c2 (x : Int) : mulD (.int 7919) (.int x) = some (.dat (.int (7919 * x))) := mul_l x (by decide)
theorem mul_c3 (x : Int) : mulD (.int x) (.int 39373) = some (.dat (.int (x * 39373))) := mul_r x (by decide)
theorem mul_c4 (x : Int) : mulD (.int x) (.int 30011) = some (.dat (.int (x * 30011))) := mul_r x (by decide)
theorem take_ok {xs : List D} (h : BagOk xs) (n : Int) (h0 : 0 < n) (h1 : n < 1073741824) : ∃ v ys, m_law_take [.box false (.lst xs), .dat (.int n)] = some (.dat (.int v), [.box false (.lst ys), .dat (.int n)]) ∧ BagOk ys ∧ 0 ≤ v ∧ v < n := by
  obtain ⟨a, b, c, cs, rfl, hl⟩ := h
  obtain ⟨v, hv⟩ := first_ok cs c
  have hz : (cutL (cs.map PyData.int) (some c) none).length + 1 ≤ 16777216 := by
    have := cut_len (cs.map PyData.int) (some c) none
    rw [List.length_map] at this
    omega
  unfold m_law_take b__law_take
  have e1 : 0 ≤ ((b + 1) * 39373) % 1000000007 := Int.emod_nonneg _ (by omega)
  have hn : n ≠ 0 := by omega
  have fin : ∀ (a b c : Int) (x : Int), BagOk [.int a, .int b, .int c, .list (cs.map PyData.int)] ∧ 0 ≤ x % n ∧ x % n < n := fun a b c x => ⟨⟨a, b, c, cs, rfl, hl⟩, Int.emod_nonneg _ hn, Int.emod_lt_of_pos _ h0⟩
  by_cases ha : a = 0
  · subst ha
    by_cases hb : 1000000000000000000 ≤ v
    · have hb2 : 0 < v := by omega
      simp [sizeLine_eq, startE, argA, bxIx, back, newC, notBor, bxAt, restE, noBx, lstB, lstAt, isNoD, atI_l0, atI_l1, atI_l2, atI_l3, ixN_l0, ixN_l1, ixN_l2, hv, addD, hz, mul_mod, mul_c1, mul_c2, mul_c3, mul_c4, modD, fdivD, powD, hb, hb2, h0, h1]
      exact ⟨_, _, ⟨rfl, rfl⟩, fin _ _ _ _⟩
    · simp [sizeLine_eq, startE, argA, bxIx, back, newC, notBor, bxAt, restE, noBx, lstB, lstAt, isNoD, atI_l0, atI_l1, atI_l2, atI_l3, ixN_l0, ixN_l1, ixN_l2, hv, addD, hz, mul_mod, mul_c1, mul_c2, mul_c3, mul_c4, modD, fdivD, powD, hb, h0, h1]
      exact ⟨_, _, ⟨rfl, rfl⟩, fin _ _ _ _⟩
  · have ha' : (a == 0) = false := by simp [ha]
    by_cases hb : 0 < a
    · simp [sizeLine_eq, startE, argA, bxIx, back, newC, notBor, bxAt, restE, noBx, lstB, lstAt, isNoD, atI_l0, atI_l1, atI_l2, atI_l3, ixN_l0, ixN_l1, ixN_l2, hv, addD, hz, mul_mod, mul_c1, mul_c2, mul_c3, mul_c4, modD, fdivD, powD, ha', hb, h0, h1]
      exact ⟨_, _, ⟨rfl, rfl⟩, fin _ _ _ _⟩
    · simp [sizeLine_eq, startE, argA, bxIx, back, newC, notBor, bxAt, restE, noBx, lstB, lstAt, isNoD, atI_l0, atI_l1, atI_l2, atI_l3, ixN_l0, ixN_l1, ixN_l2, hv, addD, hz, mul_mod, mul_c1, mul_c2, mul_c3, mul_c4, modD, fdivD, powD, ha', hb, h0, h1]
      exact ⟨_, _, ⟨rfl, rfl⟩, fin _ _ _ _⟩
end K00
namespace L3
open PySem PySem.Spec PyProof.Rows
def numS (k : Nat) : Str := Str.ofString (toString ((k : Nat) : Int))
/-- n and a number -/
def nmS (k : Nat) : Str := Str.ofString "n" ++ numS k
theorem eqv_str (s t : Str) : PyData.eqv (.str s) (.str t) = (s == t) := by simp [PyData.eqv]
theorem any_str (s : Str) (l : List Str) : ((l.map PyData.str).any fun z => PyData.eqv z (.str s)) = decide (s ∈ l) := by
  induction l with
  | nil => rfl
  | cons t r ih =>
    rw [List.map_cons, List.any_cons, ih, eqv_str]
    by_cases h : s = t
    · subst h; simp
    · have h' : ¬ t = s := fun z => h z.symm
      simp [h, h']
theorem flat_strs (l : List Str) : (l.map PyData.str).all flatD = true := by
  induction l with
  | nil => rfl
  | cons t r ih => simp [flatD]
theorem in_strs (s : Str) (l : List Str) : inD (.str s) (.list (l.map PyData.str)) = some (.dat (.bool (decide (s ∈ l)))) := by
  unfold inD inB
  simp only []
  rw [if_pos (by unfold inOkS; rw [flat_strs]; rfl), any_str]
  rfl
theorem in_strsT (s : Str) (l : List Str) : inD (.str s) (.tuple (l.map PyData.str)) = some (.dat (.bool (decide (s ∈ l)))) := by
  unfold inD inB
  simp only []
  rw [if_pos (by unfold inOkS; rw [flat_strs]; rfl), any_str]
  rfl
end L3
namespace L3
open PySem PySem.Spec PyProof.Rows
mutual
def okD : D → Bool
  | .none => true
  | .bool _ => true
  | .int i => decide (0 ≤ i ∧ i ≤ 1000000)
  | .str x => PyData.strOk x
  | .list xs => okL xs
  | .tuple xs => okL xs
  | .dict _ => false
def okL : List D → Bool
  | [] => true
  | x :: xs => okD x && okL xs
end
mutual
def wtD : D → Nat
  | .none => 4
  | .bool _ => 5
  | .int i => i.toNat + 2
  | .str x => 10 * x.length + 2
  | .list xs => 2 + wtL xs
  | .tuple xs => 3 + wtL xs
  | .dict _ => 0
def wtL : List D → Nat
  | [] => 0
  | x :: xs => wtD x + 2 + wtL xs
end
mutual
theorem okD_lay : ∀ d : D, okD d = true → d.canLay0 = true
  | .none, _ => by simp only [PyData.canLay0]
  | .bool _, _ => by simp only [PyData.canLay0]
  | .int _, _ => by simp only [PyData.canLay0]
  | .str x, h => by simpa only [PyData.canLay0, okD] using h
  | .list xs, h => by simp only [PyData.canLay0]; exact okL_lay xs (by simpa only [okD] using h)
  | .tuple xs, h => by simp only [PyData.canLay0]; exact okL_lay xs (by simpa only [okD] using h)
  | .dict _, h => by simp [okD] at h
theorem okL_lay : ∀ ds : List D, okL ds = true → PyData.canLayAll0 ds = true
  | [], _ => by simp only [PyData.canLayAll0]
  | d :: ds, h => by
    have h' : okD d = true ∧ okL ds = true := by simpa only [okL, Bool.and_eq_true] using h
    simp only [PyData.canLayAll0, okD_lay d h'.1, okL_lay ds h'.2, Bool.and_self]
end
def sumL : List Str → Nat
  | [] => 0
  | t :: r => t.length + 2 + sumL r
theorem textFrom_le : ∀ (ts : List Str) (k : Nat) (acc : Str), (textFrom k acc ts).length ≤ acc.length + sumL ts
  | [], k, acc => Nat.le_refl _
  | t :: r, k, acc => by
    have h := textFrom_le r (k + 1) (acc ++ (if k > 0 then ", " else "" : String) ++ t)
    have e : (acc ++ (if k > 0 then ", " else "" : String) ++ t).length ≤ acc.length + 2 + t.length := by
      rw [strLen_append, strLen_append]
      have : ((if k > 0 then ", " else "" : String) : Str).length ≤ 2 := by split <;> decide
      omega
    show (textFrom (k + 1) _ r).length ≤ acc.length + (t.length + 2 + sumL r)
    omega
theorem listText_le (ts : List Str) : (listText ts).length ≤ 2 + sumL ts := by
  unfold listText
  rw [strLen_append]
  have h := textFrom_le ts 0 "["
  have e1 : (("[" : String) : Str).length = 1 := rfl
  have e2 : (("]" : String) : Str).length = 1 := rfl
  omega
theorem join_le : ∀ ts : List Str, (Str.join ", " ts).length ≤ sumL ts
  | [] => Nat.le_refl _
  | [x] => by show x.length ≤ x.length + 2 + 0; omega
  | x :: y :: r => by
    have ih := join_le (y :: r)
    show (x ++ ", " ++ Str.join ", " (y :: r)).length ≤ x.length + 2 + sumL (y :: r)
    have e2 : ((", " : String) : Str).length = 2 := rfl
    rw [strLen_append, strLen_append]
    omega
theorem tupleText_le (ts : List Str) : (tupleText ts).length ≤ 3 + sumL ts := by
  unfold tupleText
  rw [strLen_append, strLen_append]
  have h := join_le ts
  have e1 : (("(" : String) : Str).length = 1 := rfl
  have e2 : ((if ts.length == 1 then ",)" else ")" : String) : Str).length ≤ 2 := by split <;> decide
  omega
/-- what repr and == may be asked of -/
structure ShowOk (d : D) : Prop where
  ok : okD d = true
  dep : d.depth ≤ 64
  wt : wtD d ≤ 16777216
theorem ShowOk.shaped {d : D} (h : ShowOk d) : SeqAt.shaped d = true := by
  unfold SeqAt.shaped
  rw [okD_lay d h.ok, decide_eq_true h.dep]
  rfl
end L3
namespace L3
open PySem PySem.Spec PyProof.Rows
mutual
def okX : D → Bool
  | .none => true
  | .bool _ => true
  | .int i => decide (i.natAbs < 10 ^ 60)
  | .str x => PyData.strOk x
  | .list xs => okXL xs
  | .tuple xs => okXL xs
  | .dict kvs => okXK kvs
def okXL : List D → Bool
  | [] => true
  | x :: xs => okX x && okXL xs
def okXK : List (D × D) → Bool
  | [] => true
  | (k, v) :: r => okX k && okX v && okXK r
end
mutual
def wX : D → Nat
  | .none => 4
  | .bool _ => 5
  | .int _ => 61
  | .str x => 10 * x.length + 2
  | .list xs => 2 + wXL xs
  | .tuple xs => 3 + wXL xs
  | .dict kvs => 2 + wXK kvs
def wXL : List D → Nat
  | [] => 0
  | x :: xs => wX x + 2 + wXL xs
def wXK : List (D × D) → Nat
  | [] => 0
  | (k, v) :: r => wX k + wX v + 4 + wXK r
end
mutual
theorem okX_show : ∀ d : D, okX d = true → d.showable = true
  | .none, _ => by simp only [PyData.showable]
  | .bool _, _ => by simp only [PyData.showable]
  | .int i, h => by
    have h' : i.natAbs < 10 ^ 60 := by simpa only [okX, decide_eq_true_eq] using h
    simp only [PyData.showable, decide_eq_true_eq]
    by_cases h0 : i.natAbs = 0
    · rw [h0]; decide
    · have h1 : (10 : Nat) ^ 60 ≤ 2 ^ 200 := by decide +kernel
      have := (Nat.log2_lt h0 (k := 200)).mpr (by omega)
      omega
  | .str x, h => by simp only [PyData.showable]
  | .list xs, h => by simp only [PyData.showable]; exact okXL_show xs (by simpa only [okX] using h)
  | .tuple xs, h => by simp only [PyData.showable]; exact okXL_show xs (by simpa only [okX] using h)
  | .dict kvs, h => by simp only [PyData.showable]; exact okXK_show kvs (by simpa only [okX] using h)
theorem okXL_show : ∀ ds : List D, okXL ds = true → PyData.showableAll ds = true
  | [], _ => by simp only [PyData.showableAll]
  | d :: ds, h => by
    have h' : okX d = true ∧ okXL ds = true := by simpa only [okXL, Bool.and_eq_true] using h
    simp only [PyData.showableAll, okX_show d h'.1, okXL_show ds h'.2, Bool.and_self]
theorem okXK_show : ∀ ds : List (D × D), okXK ds = true → PyData.showableKv ds = true
  | [], _ => by simp only [PyData.showableKv]
  | (k, v) :: ds, h => by
    have h' : (okX k = true ∧ okX v = true) ∧ okXK ds = true := by simpa only [okXK, Bool.and_eq_true] using h
    simp only [PyData.showableKv, okX_show k h'.1.1, okX_show v h'.1.2, okXK_show ds h'.2, Bool.and_self]
end
theorem dictText_le (ts : List Str) : (dictText ts).length ≤ 2 + sumL ts := by
  unfold dictText
  rw [strLen_append, strLen_append]
  have h := join_le ts
  have e1 : (("{" : String) : Str).length = 1 := rfl
  have e2 : (("}" : String) : Str).length = 1 := rfl
  omega
mutual
theorem shownX_le : ∀ d : D, okX d = true → d.shown.length ≤ wX d
  | .none, _ => by simp only [PyData.shown, wX]; decide
  | .bool b, _ => by cases b <;> simp only [PyData.shown, wX] <;> decide
  | .int i, h => by
    have h' : i.natAbs < 10 ^ 60 := by simpa only [okX, decide_eq_true_eq] using h
    simp only [PyData.shown, wX]
    rw [PySem.ofString_length]
    exact int_text_length_le10 (by decide) h'
  | .str x, h => by
    have h' : PyData.strOk x = true := by simpa only [okX] using h
    simp only [PyData.shown, wX]
    refine PySem.StrLaws.reprText_len x fun c hc => ?_
    unfold PyData.strOk at h'
    rw [← Array.all_toList, List.all_eq_true] at h'
    have := h' c hc
    rw [decide_eq_true_eq] at this
    omega
  | .list xs, h => by
    have h' : okXL xs = true := by simpa only [okX] using h
    simp only [PyData.shown, wX]
    exact Nat.le_trans (listText_le _) (Nat.add_le_add_left (shownXL_le xs h') 2)
  | .tuple xs, h => by
    have h' : okXL xs = true := by simpa only [okX] using h
    simp only [PyData.shown, wX]
    exact Nat.le_trans (tupleText_le _) (Nat.add_le_add_left (shownXL_le xs h') 3)
  | .dict kvs, h => by
    have h' : okXK kvs = true := by simpa only [okX] using h
    simp only [PyData.shown, wX]
    exact Nat.le_trans (dictText_le _) (Nat.add_le_add_left (shownXK_le kvs h') 2)
theorem shownXL_le : ∀ ds : List D, okXL ds = true → sumL (PyData.shownAll ds) ≤ wXL ds
  | [], _ => by simp only [PyData.shownAll, sumL, wXL]; omega
  | d :: ds, h => by
    have h' : okX d = true ∧ okXL ds = true := by simpa only [okXL, Bool.and_eq_true] using h
    simp only [PyData.shownAll, sumL, wXL]
    have h1 := shownX_le d h'.1
    have h2 := shownXL_le ds h'.2
    omega
theorem shownXK_le : ∀ ds : List (D × D), okXK ds = true → sumL (PyData.shownKv ds) ≤ wXK ds
  | [], _ => by simp only [PyData.shownKv, sumL, wXK]; omega
  | (k, v) :: ds, h => by
    have h' : (okX k = true ∧ okX v = true) ∧ okXK ds = true := by simpa only [okXK, Bool.and_eq_true] using h
    simp only [PyData.shownKv, sumL, wXK]
    have h0 := shownX_le k h'.1.1
    have h1 := shownX_le v h'.1.2
    have h2 := shownXK_le ds h'.2
    rw [strLen_append, strLen_append]
    have e1 : ((": " : String) : Str).length = 2 := rfl
    omega
end
/-- what repr may be asked of -/
structure Tm (n w : Nat) (d : D) : Prop where
  ok : okX d = true
  fl : d.hasDict = false ∨ noLs d = true
  dep : d.depth ≤ n
  wt : wX d ≤ w
structure Pl (n w : Nat) (d : D) : Prop where
  ok : okX d = true
  nd : d.hasDict = false
  nl : noLs d = true
  dep : d.depth ≤ n
  wt : wX d ≤ w
theorem Pl.tm {n w : Nat} {d : D} (h : Pl n w d) : Tm n w d := ⟨h.ok, .inl h.nd, h.dep, h.wt⟩
theorem Tm.mono {n w m v : Nat} {d : D} (h : Tm n w d) (a : n ≤ m) (b : w ≤ v) : Tm m v d := ⟨h.ok, h.fl, Nat.le_trans h.dep a, Nat.le_trans h.wt b⟩
theorem Pl.mono {n w m v : Nat} {d : D} (h : Pl n w d) (a : n ≤ m) (b : w ≤ v) : Pl m v d := ⟨h.ok, h.nd, h.nl, Nat.le_trans h.dep a, Nat.le_trans h.wt b⟩
theorem Tm.repr {n w : Nat} {d : D} (h : Tm n w d) (hn : n ≤ 64) (hw : w ≤ 16777216) : reprE [d] = some (.dat (.str d.shown)) := by
  unfold reprE
  simp only []
  rw [if_pos]
  unfold reprOk
  rw [Bool.and_eq_true, Bool.and_eq_true, Bool.and_eq_true]
  refine ⟨⟨⟨?_, okX_show d h.ok⟩, decide_eq_true (Nat.le_trans h.dep hn)⟩, decide_eq_true (Nat.le_trans (shownX_le d h.ok) (by rw [sizeLine_eq]; exact Nat.le_trans h.wt hw))⟩
  rcases h.fl with z | z
  · rw [z]; rfl
  · rw [z, Bool.or_true]
def PlL (n : Nat) (w : Nat) (ds : List D) : Prop := (okXL ds = true ∧ PyData.hasDictAll ds = false ∧ noLsA ds = true ∧ PyData.depthAll ds ≤ n) ∧ wXL ds ≤ w
def TmL (n : Nat) (w : Nat) (ds : List D) : Prop := (okXL ds = true ∧ (PyData.hasDictAll ds = false ∨ noLsA ds = true) ∧ PyData.depthAll ds ≤ n) ∧ wXL ds ≤ w
theorem PlL.nil {n w : Nat} : PlL n w [] := ⟨⟨rfl, rfl, rfl, Nat.zero_le _⟩, Nat.zero_le _⟩
theorem PlL.cons {n a b : Nat} {d : D} {ds : List D} (h : Pl n a d) (t : PlL n b ds) : PlL n (a + 2 + b) (d :: ds) := by
  obtain ⟨⟨t1, t2, t3, t4⟩, t5⟩ := t
  refine ⟨⟨by rw [okXL, h.ok, t1]; rfl, by rw [PyData.hasDictAll, h.nd, t2]; rfl, by rw [noLsA, h.nl, t3]; rfl, by rw [PyData.depthAll]; exact Nat.max_le.mpr ⟨h.dep, t4⟩⟩, by have := h.wt; rw [wXL]; omega⟩
theorem PlL.tup {n w : Nat} {ds : List D} (h : PlL n w ds) : Pl (n + 1) (w + 3) (.tuple ds) := by
  obtain ⟨⟨t1, t2, t3, t4⟩, t5⟩ := h
  exact ⟨by rw [okX]; exact t1, by rw [PyData.hasDict]; exact t2, by rw [noLs]; exact t3, by rw [PyData.depth]; omega, by rw [wX]; omega⟩
theorem PlL.lst {n w : Nat} {ds : List D} (h : PlL n w ds) : Tm (n + 1) (w + 3) (.list ds) := by
  obtain ⟨⟨t1, t2, t3, t4⟩, t5⟩ := h
  exact ⟨by rw [okX]; exact t1, .inl (by rw [PyData.hasDict]; exact t2), by rw [PyData.depth]; omega, by rw [wX]; omega⟩
theorem TmL.tup {n w : Nat} {ds : List D} (h : TmL n w ds) : Tm (n + 1) (w + 3) (.tuple ds) := by
  obtain ⟨⟨t1, t2, t4⟩, t5⟩ := h
  exact ⟨by rw [okX]; exact t1, by rw [PyData.hasDict, noLs]; exact t2, by rw [PyData.depth]; omega, by rw [wX]; omega⟩
theorem okXL_app (a b : List D) : okXL (a ++ b) = (okXL a && okXL b) := by
  induction a with
  | nil => simp [okXL]
  | cons d r ih => rw [List.cons_append, okXL, okXL, ih, Bool.and_assoc]
theorem dict_app (a b : List D) : PyData.hasDictAll (a ++ b) = (PyData.hasDictAll a || PyData.hasDictAll b) := by
  induction a with
  | nil => simp [PyData.hasDictAll]
  | cons d r ih => rw [List.cons_append, PyData.hasDictAll, PyData.hasDictAll, ih, Bool.or_assoc]
theorem noLs_app (a b : List D) : noLsA (a ++ b) = (noLsA a && noLsA b) := by
  induction a with
  | nil => simp [noLsA]
  | cons d r ih => rw [List.cons_append, noLsA, noLsA, ih, Bool.and_assoc]
theorem depth_app (a b : List D) : PyData.depthAll (a ++ b) = max (PyData.depthAll a) (PyData.depthAll b) := by
  induction a with
  | nil => simp [PyData.depthAll]
  | cons d r ih => rw [List.cons_append, PyData.depthAll, PyData.depthAll, ih, Nat.max_assoc]
theorem wX_app (a b : List D) : wXL (a ++ b) = wXL a + wXL b := by
  induction a with
  | nil => simp [wXL]
  | cons d r ih => rw [List.cons_append, wXL, wXL, ih]; omega
theorem PlL.app {n v w : Nat} {a b : List D} (h : PlL n v a) (t : PlL n w b) : PlL n (v + w) (a ++ b) := by
  obtain ⟨⟨h1, h2, h3, h4⟩, h5⟩ := h
  obtain ⟨⟨t1, t2, t3, t4⟩, t5⟩ := t
  refine ⟨⟨by rw [okXL_app, h1, t1]; rfl, by rw [dict_app, h2, t2]; rfl, by rw [noLs_app, h3, t3]; rfl, by rw [depth_app]; exact Nat.max_le.mpr ⟨h4, t4⟩⟩, by rw [wX_app]; omega⟩
theorem PlL.mono {n m v w : Nat} {a : List D} (h : PlL n v a) (x : n ≤ m) (y : v ≤ w) : PlL m w a := ⟨⟨h.1.1, h.1.2.1, h.1.2.2.1, Nat.le_trans h.1.2.2.2 x⟩, Nat.le_trans h.2 y⟩
/-- one item may be anything -/
theorem PlL.mid {n m v w x : Nat} {a b : List D} {d : D} (h : PlL n v a) (t : Tm m x d) (u : PlL n w b) : TmL (max n m) (v + (x + 2) + w) (a ++ [d] ++ b) := by
  obtain ⟨⟨h1, h2, h3, h4⟩, h5⟩ := h
  obtain ⟨⟨u1, u2, u3, u4⟩, u5⟩ := u
  have o1 : okXL [d] = true := by rw [okXL, t.ok]; rfl
  have w1 : wXL [d] = wX d + 2 := rfl
  have d1 : PyData.depthAll [d] = d.depth := by rw [PyData.depthAll, PyData.depthAll]; omega
  have tw := t.wt
  have td := t.dep
  refine ⟨⟨by rw [okXL_app, okXL_app, h1, o1, u1]; rfl, ?_, ?_⟩, by rw [wX_app, wX_app, w1]; omega⟩
  · rw [dict_app, dict_app, noLs_app, noLs_app, h2, u2, h3, u3]
    rcases t.fl with z | z
    · left; rw [PyData.hasDictAll, PyData.hasDictAll, z]; rfl
    · right; rw [noLsA, noLsA, z]; rfl
  · rw [depth_app, depth_app, d1]
    omega
theorem PlL.split {n w : Nat} {ds : List D} (h : PlL n w ds) (i : Nat) : ∃ a b, a + b ≤ w ∧ PlL n a (ds.take i) ∧ PlL n b (ds.drop i) := by
  obtain ⟨⟨h1, h2, h3, h4⟩, h5⟩ := h
  have e := List.take_append_drop i ds
  have e1 : okXL (ds.take i ++ ds.drop i) = true := by rw [e]; exact h1
  have e2 : PyData.hasDictAll (ds.take i ++ ds.drop i) = false := by rw [e]; exact h2
  have e3 : noLsA (ds.take i ++ ds.drop i) = true := by rw [e]; exact h3
  have e4 : PyData.depthAll (ds.take i ++ ds.drop i) ≤ n := by rw [e]; exact h4
  have e5 : wXL (ds.take i ++ ds.drop i) ≤ w := by rw [e]; exact h5
  rw [okXL_app, Bool.and_eq_true] at e1
  rw [dict_app, Bool.or_eq_false_iff] at e2
  rw [noLs_app, Bool.and_eq_true] at e3
  rw [depth_app] at e4
  rw [wX_app] at e5
  exact ⟨wXL (ds.take i), wXL (ds.drop i), e5, ⟨⟨e1.1, e2.1, e3.1, by omega⟩, Nat.le_refl _⟩, ⟨⟨e1.2, e2.2, e3.2, by omega⟩, Nat.le_refl _⟩⟩
theorem PlL.get {n w : Nat} {ds : List D} (h : PlL n w ds) {i : Nat} {d : D} (e : ds[i]? = some d) : ∃ x, Pl n x d ∧ ds.drop i = d :: ds.drop (i + 1) ∧ ∃ a b, a + (x + 2) + b ≤ w ∧ PlL n a (ds.take i) ∧ PlL n b (ds.drop (i + 1)) := by
  obtain ⟨a, b, hab, h1, h2⟩ := h.split i
  obtain ⟨hi, e'⟩ := List.getElem?_eq_some_iff.mp e
  have ed : ds.drop i = d :: ds.drop (i + 1) := by rw [List.drop_eq_getElem_cons hi, e']
  rw [ed] at h2
  obtain ⟨⟨t1, t2, t3, t4⟩, t5⟩ := h2
  rw [okXL, Bool.and_eq_true] at t1
  rw [PyData.hasDictAll, Bool.or_eq_false_iff] at t2
  rw [noLsA, Bool.and_eq_true] at t3
  rw [PyData.depthAll] at t4
  rw [wXL] at t5
  exact ⟨wX d, ⟨t1.1, t2.1, t3.1, by omega, Nat.le_refl _⟩, ed, a, wXL (ds.drop (i + 1)), by omega, h1, ⟨⟨t1.2, t2.2, t3.2, by omega⟩, Nat.le_refl _⟩⟩
end L3
namespace L3
open PySem
def fzA (i : Nat) (rs : List R) (ρ : En) : Option A → Option (List D × En)
  | some (.dat d) => (fzs ρ rs).map fun x => (d :: x.1, x.2)
  | some (.box true b) => (fzs (ρ.set i (some (.dat b.dat))) rs).map fun x => (b.dat :: x.1, x.2)
  | _ => none
@[simp] theorem qq_fzs_ref (i : Nat) (rs : List R) (ρ : En) : fzs ρ (.ref i :: rs) = fzA i rs ρ ρ[i]?.join := by
  show ((ρ[i]?.join).bind _) = _
  cases ρ[i]?.join with
  | none => rfl
  | some a => cases a with
    | dat d => rfl
    | box o b => cases o <;> rfl
def k_misi_2 (T : String) (ρ1 : En) (d : D) : Option (Unit) → Option (R × En)
  | some u => some (.dat (.bool (isTy T d)), ρ1)
  | none => none
@[simp] theorem kk_misi_2 (T : String) (ρ1 : En) (d : D) (u : Unit) : k_misi_2 T ρ1 d (some u) = (some (.dat (.bool (isTy T d)), ρ1)) := rfl
def k_misi_1 (T : String) (ρ1 : En) : Option (D) → Option (R × En)
  | some d => k_misi_2 T ρ1 d (guardO (notFn d))
  | none => none
@[simp] theorem kk_misi_1 (T : String) (ρ1 : En) (d : D) : k_misi_1 T ρ1 (some d) = (k_misi_2 T ρ1 d (guardO (notFn d))) := rfl
def k_misi_0 (T : String) : Option (R × En) → Option (R × En)
  | some (x, ρ1) => k_misi_1 T ρ1 (x.fz.vw ρ1)
  | none => none
@[simp] theorem kk_misi_0 (T : String) (x : R) (ρ1 : En) : k_misi_0 T (some (x, ρ1)) = (k_misi_1 T ρ1 (x.fz.vw ρ1)) := rfl
@[simp] theorem ev_misi (T : String) (m : ME) (ρ : En) : misi T m ρ = k_misi_0 T (m ρ) := by
  unfold misi
  cases h0 : m ρ with
  | none => simp only [Option.bind, Option.map, h0, k_misi_0, k_misi_1, k_misi_2]
  | some p0 =>
    obtain ⟨x, ρ1⟩ := p0
    cases h1 : x.fz.vw ρ1 with
    | none => simp only [Option.bind, Option.map, h0, h1, k_misi_0, k_misi_1, k_misi_2]
    | some d =>
      cases h2 : guardO (notFn d) with
      | none => simp only [Option.bind, Option.map, h0, h1, h2, k_misi_0, k_misi_1, k_misi_2]
      | some u =>
        simp only [Option.bind, Option.map, h0, h1, h2, k_misi_0, k_misi_1, k_misi_2]
def k_mnotV_2 (ρ1 : En) : Option (Bool) → Option (R × En)
  | some c => some (.dat (.bool (!c)), ρ1)
  | none => none
@[simp] theorem kk_mnotV_2 (ρ1 : En) (c : Bool) : k_mnotV_2 ρ1 (some c) = (some (.dat (.bool (!c)), ρ1)) := rfl
def k_mnotV_1 (ρ1 : En) : Option (D) → Option (R × En)
  | some d => k_mnotV_2 ρ1 (truD d)
  | none => none
@[simp] theorem kk_mnotV_1 (ρ1 : En) (d : D) : k_mnotV_1 ρ1 (some d) = (k_mnotV_2 ρ1 (truD d)) := rfl
def k_mnotV_0  : Option (R × En) → Option (R × En)
  | some (x, ρ1) => k_mnotV_1 ρ1 (x.fz.vw ρ1)
  | none => none
@[simp] theorem kk_mnotV_0 (x : R) (ρ1 : En) : k_mnotV_0  (some (x, ρ1)) = (k_mnotV_1 ρ1 (x.fz.vw ρ1)) := rfl
@[simp] theorem ev_mnotV (m : ME) (ρ : En) : mnotV m ρ = k_mnotV_0  (m ρ) := by
  unfold mnotV
  cases h0 : m ρ with
  | none => simp only [Option.bind, Option.map, h0, k_mnotV_0, k_mnotV_1, k_mnotV_2]
  | some p0 =>
    obtain ⟨x, ρ1⟩ := p0
    cases h1 : x.fz.vw ρ1 with
    | none => simp only [Option.bind, Option.map, h0, h1, k_mnotV_0, k_mnotV_1, k_mnotV_2]
    | some d =>
      cases h2 : truD d with
      | none => simp only [Option.bind, Option.map, h0, h1, h2, k_mnotV_0, k_mnotV_1, k_mnotV_2]
      | some c =>
        simp only [Option.bind, Option.map, h0, h1, h2, k_mnotV_0, k_mnotV_1, k_mnotV_2]
def k_mrevT_2 (ρ1 : En) : Option (R) → Option (R × En)
  | some r => some (r, ρ1)
  | none => none
@[simp] theorem kk_mrevT_2 (ρ1 : En) (r : R) : k_mrevT_2 ρ1 (some r) = (some (r, ρ1)) := rfl
def k_mrevT_1 (ρ1 : En) : Option (D) → Option (R × En)
  | some d => k_mrevT_2 ρ1 (revTD d)
  | none => none
@[simp] theorem kk_mrevT_1 (ρ1 : En) (d : D) : k_mrevT_1 ρ1 (some d) = (k_mrevT_2 ρ1 (revTD d)) := rfl
def k_mrevT_0  : Option (R × En) → Option (R × En)
  | some (x, ρ1) => k_mrevT_1 ρ1 (x.fz.vw ρ1)
  | none => none
@[simp] theorem kk_mrevT_0 (x : R) (ρ1 : En) : k_mrevT_0  (some (x, ρ1)) = (k_mrevT_1 ρ1 (x.fz.vw ρ1)) := rfl
@[simp] theorem ev_mrevT (m : ME) (ρ : En) : mrevT m ρ = k_mrevT_0  (m ρ) := by
  unfold mrevT
  cases h0 : m ρ with
  | none => simp only [Option.bind, Option.map, h0, k_mrevT_0, k_mrevT_1, k_mrevT_2]
  | some p0 =>
    obtain ⟨x, ρ1⟩ := p0
    cases h1 : x.fz.vw ρ1 with
    | none => simp only [Option.bind, Option.map, h0, h1, k_mrevT_0, k_mrevT_1, k_mrevT_2]
    | some d =>
      cases h2 : revTD d with
      | none => simp only [Option.bind, Option.map, h0, h1, h2, k_mrevT_0, k_mrevT_1, k_mrevT_2]
      | some r =>
        simp only [Option.bind, Option.map, h0, h1, h2, k_mrevT_0, k_mrevT_1, k_mrevT_2]
def k_mfz_2 (ρ2 : En) : Option (D) → Option (R × En)
  | some d => some (.dat d, ρ2)
  | none => none
@[simp] theorem kk_mfz_2 (ρ2 : En) (d : D) : k_mfz_2 ρ2 (some d) = (some (.dat d, ρ2)) := rfl
def k_mfz_1  : Option (List D × En) → Option (R × En)
  | some (ds, ρ2) => k_mfz_2 ρ2 (oneOf ds)
  | none => none
@[simp] theorem kk_mfz_1 (ds : List D) (ρ2 : En) : k_mfz_1  (some (ds, ρ2)) = (k_mfz_2 ρ2 (oneOf ds)) := rfl
def k_mfz_0  : Option (R × En) → Option (R × En)
  | some (x, ρ1) => k_mfz_1  (fzs ρ1 [x.fz])
  | none => none
@[simp] theorem kk_mfz_0 (x : R) (ρ1 : En) : k_mfz_0  (some (x, ρ1)) = (k_mfz_1  (fzs ρ1 [x.fz])) := rfl
@[simp] theorem ev_mfz (m : ME) (ρ : En) : mfz m ρ = k_mfz_0  (m ρ) := by
  unfold mfz
  cases h0 : m ρ with
  | none => simp only [Option.bind, Option.map, h0, k_mfz_0, k_mfz_1, k_mfz_2]
  | some p0 =>
    obtain ⟨x, ρ1⟩ := p0
    cases h1 : fzs ρ1 [x.fz] with
    | none => simp only [Option.bind, Option.map, h0, h1, k_mfz_0, k_mfz_1, k_mfz_2]
    | some p1 =>
      obtain ⟨ds, ρ2⟩ := p1
      cases h2 : oneOf ds with
      | none => simp only [Option.bind, Option.map, h0, h1, h2, k_mfz_0, k_mfz_1, k_mfz_2]
      | some d =>
        simp only [Option.bind, Option.map, h0, h1, h2, k_mfz_0, k_mfz_1, k_mfz_2]
def k_mienum_1  : Option (List D × En) → Option (It3 × En)
  | some (ds, ρ2) => enumT ρ2 ds
  | none => none
@[simp] theorem kk_mienum_1 (ds : List D) (ρ2 : En) : k_mienum_1  (some (ds, ρ2)) = (enumT ρ2 ds) := rfl
def k_mienum_0  : Option (List R × En) → Option (It3 × En)
  | some (rs, ρ1) => k_mienum_1  (fzs ρ1 rs)
  | none => none
@[simp] theorem kk_mienum_0 (rs : List R) (ρ1 : En) : k_mienum_0  (some (rs, ρ1)) = (k_mienum_1  (fzs ρ1 rs)) := rfl
@[simp] theorem ev_mienum (ms : MA) (ρ : En) : mienum ms ρ = k_mienum_0  (ms ρ) := by
  unfold mienum
  cases h0 : ms ρ with
  | none => simp only [Option.bind, Option.map, h0, k_mienum_0, k_mienum_1]
  | some p0 =>
    obtain ⟨rs, ρ1⟩ := p0
    cases h1 : fzs ρ1 rs with
    | none => simp only [Option.bind, Option.map, h0, h1, k_mienum_0, k_mienum_1]
    | some p1 =>
      obtain ⟨ds, ρ2⟩ := p1
      simp only [Option.bind, Option.map, h0, h1, k_mienum_0, k_mienum_1]
def k_mizip_1  : Option (List D × En) → Option (It3 × En)
  | some (ds, ρ2) => zipT ρ2 ds
  | none => none
@[simp] theorem kk_mizip_1 (ds : List D) (ρ2 : En) : k_mizip_1  (some (ds, ρ2)) = (zipT ρ2 ds) := rfl
def k_mizip_0  : Option (List R × En) → Option (It3 × En)
  | some (rs, ρ1) => k_mizip_1  (fzs ρ1 rs)
  | none => none
@[simp] theorem kk_mizip_0 (rs : List R) (ρ1 : En) : k_mizip_0  (some (rs, ρ1)) = (k_mizip_1  (fzs ρ1 rs)) := rfl
@[simp] theorem ev_mizip (ms : MA) (ρ : En) : mizip ms ρ = k_mizip_0  (ms ρ) := by
  unfold mizip
  cases h0 : ms ρ with
  | none => simp only [Option.bind, Option.map, h0, k_mizip_0, k_mizip_1]
  | some p0 =>
    obtain ⟨rs, ρ1⟩ := p0
    cases h1 : fzs ρ1 rs with
    | none => simp only [Option.bind, Option.map, h0, h1, k_mizip_0, k_mizip_1]
    | some p1 =>
      obtain ⟨ds, ρ2⟩ := p1
      simp only [Option.bind, Option.map, h0, h1, k_mizip_0, k_mizip_1]
@[simp] theorem qq_isTy_1  : isTy "tuple" (.none) = false := by first | rfl | (cases a with | none => rfl | some a => cases a <;> rfl) | (simp [stoO, stoR, parR, Option.bind]) | (unfold eqD eqOk; simp [scalD, PyData.eqv]) | (unfold neD eqOk; simp [scalD, PyData.eqv])
@[simp] theorem qq_isTy_2 (b : Bool) : isTy "tuple" (.bool b) = false := by first | rfl | (cases a with | none => rfl | some a => cases a <;> rfl) | (simp [stoO, stoR, parR, Option.bind]) | (unfold eqD eqOk; simp [scalD, PyData.eqv]) | (unfold neD eqOk; simp [scalD, PyData.eqv])
@[simp] theorem qq_isTy_3 (i : Int) : isTy "tuple" (.int i) = false := by first | rfl | (cases a with | none => rfl | some a => cases a <;> rfl) | (simp [stoO, stoR, parR, Option.bind]) | (unfold eqD eqOk; simp [scalD, PyData.eqv]) | (unfold neD eqOk; simp [scalD, PyData.eqv])
@[simp] theorem qq_isTy_4 (x : Str) : isTy "tuple" (.str x) = false := by first | rfl | (cases a with | none => rfl | some a => cases a <;> rfl) | (simp [stoO, stoR, parR, Option.bind]) | (unfold eqD eqOk; simp [scalD, PyData.eqv]) | (unfold neD eqOk; simp [scalD, PyData.eqv])
@[simp] theorem qq_isTy_5 (ds : List D) : isTy "tuple" (.list ds) = false := by first | rfl | (cases a with | none => rfl | some a => cases a <;> rfl) | (simp [stoO, stoR, parR, Option.bind]) | (unfold eqD eqOk; simp [scalD, PyData.eqv]) | (unfold neD eqOk; simp [scalD, PyData.eqv])
@[simp] theorem qq_isTy_6 (ds : List D) : isTy "tuple" (.tuple ds) = true := by first | rfl | (cases a with | none => rfl | some a => cases a <;> rfl) | (simp [stoO, stoR, parR, Option.bind]) | (unfold eqD eqOk; simp [scalD, PyData.eqv]) | (unfold neD eqOk; simp [scalD, PyData.eqv])
@[simp] theorem qq_isTy_7 (ks : List (D × D)) : isTy "tuple" (.dict ks) = false := by first | rfl | (cases a with | none => rfl | some a => cases a <;> rfl) | (simp [stoO, stoR, parR, Option.bind]) | (unfold eqD eqOk; simp [scalD, PyData.eqv]) | (unfold neD eqOk; simp [scalD, PyData.eqv])
@[simp] theorem qq_isTy_8  : isTy "str" (.none) = false := by first | rfl | (cases a with | none => rfl | some a => cases a <;> rfl) | (simp [stoO, stoR, parR, Option.bind]) | (unfold eqD eqOk; simp [scalD, PyData.eqv]) | (unfold neD eqOk; simp [scalD, PyData.eqv])
@[simp] theorem qq_isTy_9 (b : Bool) : isTy "str" (.bool b) = false := by first | rfl | (cases a with | none => rfl | some a => cases a <;> rfl) | (simp [stoO, stoR, parR, Option.bind]) | (unfold eqD eqOk; simp [scalD, PyData.eqv]) | (unfold neD eqOk; simp [scalD, PyData.eqv])
@[simp] theorem qq_isTy_10 (i : Int) : isTy "str" (.int i) = false := by first | rfl | (cases a with | none => rfl | some a => cases a <;> rfl) | (simp [stoO, stoR, parR, Option.bind]) | (unfold eqD eqOk; simp [scalD, PyData.eqv]) | (unfold neD eqOk; simp [scalD, PyData.eqv])
@[simp] theorem qq_isTy_11 (x : Str) : isTy "str" (.str x) = true := by first | rfl | (cases a with | none => rfl | some a => cases a <;> rfl) | (simp [stoO, stoR, parR, Option.bind]) | (unfold eqD eqOk; simp [scalD, PyData.eqv]) | (unfold neD eqOk; simp [scalD, PyData.eqv])
@[simp] theorem qq_isTy_12 (ds : List D) : isTy "str" (.list ds) = false := by first | rfl | (cases a with | none => rfl | some a => cases a <;> rfl) | (simp [stoO, stoR, parR, Option.bind]) | (unfold eqD eqOk; simp [scalD, PyData.eqv]) | (unfold neD eqOk; simp [scalD, PyData.eqv])
@[simp] theorem qq_isTy_13 (ds : List D) : isTy "str" (.tuple ds) = false := by first | rfl | (cases a with | none => rfl | some a => cases a <;> rfl) | (simp [stoO, stoR, parR, Option.bind]) | (unfold eqD eqOk; simp [scalD, PyData.eqv]) | (unfold neD eqOk; simp [scalD, PyData.eqv])
@[simp] theorem qq_isTy_14 (ks : List (D × D)) : isTy "str" (.dict ks) = false := by first | rfl | (cases a with | none => rfl | some a => cases a <;> rfl) | (simp [stoO, stoR, parR, Option.bind]) | (unfold eqD eqOk; simp [scalD, PyData.eqv]) | (unfold neD eqOk; simp [scalD, PyData.eqv])
@[simp] theorem qq_isTy_15  : isTy "int" (.none) = false := by first | rfl | (cases a with | none => rfl | some a => cases a <;> rfl) | (simp [stoO, stoR, parR, Option.bind]) | (unfold eqD eqOk; simp [scalD, PyData.eqv]) | (unfold neD eqOk; simp [scalD, PyData.eqv])
@[simp] theorem qq_isTy_16 (b : Bool) : isTy "int" (.bool b) = true := by first | rfl | (cases a with | none => rfl | some a => cases a <;> rfl) | (simp [stoO, stoR, parR, Option.bind]) | (unfold eqD eqOk; simp [scalD, PyData.eqv]) | (unfold neD eqOk; simp [scalD, PyData.eqv])
@[simp] theorem qq_isTy_17 (i : Int) : isTy "int" (.int i) = true := by first | rfl | (cases a with | none => rfl | some a => cases a <;> rfl) | (simp [stoO, stoR, parR, Option.bind]) | (unfold eqD eqOk; simp [scalD, PyData.eqv]) | (unfold neD eqOk; simp [scalD, PyData.eqv])
@[simp] theorem qq_isTy_18 (x : Str) : isTy "int" (.str x) = false := by first | rfl | (cases a with | none => rfl | some a => cases a <;> rfl) | (simp [stoO, stoR, parR, Option.bind]) | (unfold eqD eqOk; simp [scalD, PyData.eqv]) | (unfold neD eqOk; simp [scalD, PyData.eqv])
@[simp] theorem qq_isTy_19 (ds : List D) : isTy "int" (.list ds) = false := by first | rfl | (cases a with | none => rfl | some a => cases a <;> rfl) | (simp [stoO, stoR, parR, Option.bind]) | (unfold eqD eqOk; simp [scalD, PyData.eqv]) | (unfold neD eqOk; simp [scalD, PyData.eqv])
@[simp] theorem qq_isTy_20 (ds : List D) : isTy "int" (.tuple ds) = false := by first | rfl | (cases a with | none => rfl | some a => cases a <;> rfl) | (simp [stoO, stoR, parR, Option.bind]) | (unfold eqD eqOk; simp [scalD, PyData.eqv]) | (unfold neD eqOk; simp [scalD, PyData.eqv])
@[simp] theorem qq_isTy_21 (ks : List (D × D)) : isTy "int" (.dict ks) = false := by first | rfl | (cases a with | none => rfl | some a => cases a <;> rfl) | (simp [stoO, stoR, parR, Option.bind]) | (unfold eqD eqOk; simp [scalD, PyData.eqv]) | (unfold neD eqOk; simp [scalD, PyData.eqv])
@[simp] theorem qq_isTy_22  : isTy "bool" (.none) = false := by first | rfl | (cases a with | none => rfl | some a => cases a <;> rfl) | (simp [stoO, stoR, parR, Option.bind]) | (unfold eqD eqOk; simp [scalD, PyData.eqv]) | (unfold neD eqOk; simp [scalD, PyData.eqv])
@[simp] theorem qq_isTy_23 (b : Bool) : isTy "bool" (.bool b) = true := by first | rfl | (cases a with | none => rfl | some a => cases a <;> rfl) | (simp [stoO, stoR, parR, Option.bind]) | (unfold eqD eqOk; simp [scalD, PyData.eqv]) | (unfold neD eqOk; simp [scalD, PyData.eqv])
@[simp] theorem qq_isTy_24 (i : Int) : isTy "bool" (.int i) = false := by first | rfl | (cases a with | none => rfl | some a => cases a <;> rfl) | (simp [stoO, stoR, parR, Option.bind]) | (unfold eqD eqOk; simp [scalD, PyData.eqv]) | (unfold neD eqOk; simp [scalD, PyData.eqv])
@[simp] theorem qq_isTy_25 (x : Str) : isTy "bool" (.str x) = false := by first | rfl | (cases a with | none => rfl | some a => cases a <;> rfl) | (simp [stoO, stoR, parR, Option.bind]) | (unfold eqD eqOk; simp [scalD, PyData.eqv]) | (unfold neD eqOk; simp [scalD, PyData.eqv])
@[simp] theorem qq_isTy_26 (ds : List D) : isTy "bool" (.list ds) = false := by first | rfl | (cases a with | none => rfl | some a => cases a <;> rfl) | (simp [stoO, stoR, parR, Option.bind]) | (unfold eqD eqOk; simp [scalD, PyData.eqv]) | (unfold neD eqOk; simp [scalD, PyData.eqv])
@[simp] theorem qq_isTy_27 (ds : List D) : isTy "bool" (.tuple ds) = false := by first | rfl | (cases a with | none => rfl | some a => cases a <;> rfl) | (simp [stoO, stoR, parR, Option.bind]) | (unfold eqD eqOk; simp [scalD, PyData.eqv]) | (unfold neD eqOk; simp [scalD, PyData.eqv])
@[simp] theorem qq_isTy_28 (ks : List (D × D)) : isTy "bool" (.dict ks) = false := by first | rfl | (cases a with | none => rfl | some a => cases a <;> rfl) | (simp [stoO, stoR, parR, Option.bind]) | (unfold eqD eqOk; simp [scalD, PyData.eqv]) | (unfold neD eqOk; simp [scalD, PyData.eqv])
@[simp] theorem qq_notFn_1  : notFn (.none) = true := by first | rfl | (cases a with | none => rfl | some a => cases a <;> rfl) | (simp [stoO, stoR, parR, Option.bind]) | (unfold eqD eqOk; simp [scalD, PyData.eqv]) | (unfold neD eqOk; simp [scalD, PyData.eqv])
@[simp] theorem qq_notFn_2 (b : Bool) : notFn (.bool b) = true := by first | rfl | (cases a with | none => rfl | some a => cases a <;> rfl) | (simp [stoO, stoR, parR, Option.bind]) | (unfold eqD eqOk; simp [scalD, PyData.eqv]) | (unfold neD eqOk; simp [scalD, PyData.eqv])
@[simp] theorem qq_notFn_3 (i : Int) : notFn (.int i) = true := by first | rfl | (cases a with | none => rfl | some a => cases a <;> rfl) | (simp [stoO, stoR, parR, Option.bind]) | (unfold eqD eqOk; simp [scalD, PyData.eqv]) | (unfold neD eqOk; simp [scalD, PyData.eqv])
@[simp] theorem qq_notFn_4 (x : Str) : notFn (.str x) = true := by first | rfl | (cases a with | none => rfl | some a => cases a <;> rfl) | (simp [stoO, stoR, parR, Option.bind]) | (unfold eqD eqOk; simp [scalD, PyData.eqv]) | (unfold neD eqOk; simp [scalD, PyData.eqv])
@[simp] theorem qq_notFn_5 (ds : List D) : notFn (.list ds) = true := by first | rfl | (cases a with | none => rfl | some a => cases a <;> rfl) | (simp [stoO, stoR, parR, Option.bind]) | (unfold eqD eqOk; simp [scalD, PyData.eqv]) | (unfold neD eqOk; simp [scalD, PyData.eqv])
@[simp] theorem qq_notFn_6 (ds : List D) : notFn (.tuple ds) = true := by first | rfl | (cases a with | none => rfl | some a => cases a <;> rfl) | (simp [stoO, stoR, parR, Option.bind]) | (unfold eqD eqOk; simp [scalD, PyData.eqv]) | (unfold neD eqOk; simp [scalD, PyData.eqv])
@[simp] theorem qq_notFn_7 (ks : List (D × D)) : notFn (.dict ks) = (!isFnD ks || isXcD ks) := by first | rfl | (cases a with | none => rfl | some a => cases a <;> rfl) | (simp [stoO, stoR, parR, Option.bind]) | (unfold eqD eqOk; simp [scalD, PyData.eqv]) | (unfold neD eqOk; simp [scalD, PyData.eqv])
@[simp] theorem qq_enumT_1 (ρ : En) (ds : List D) : enumT ρ [.tuple ds] = some (.items (enumD ds), ρ) := by first | rfl | (cases a with | none => rfl | some a => cases a <;> rfl) | (simp [stoO, stoR, parR, Option.bind]) | (unfold eqD eqOk; simp [scalD, PyData.eqv]) | (unfold neD eqOk; simp [scalD, PyData.eqv])
@[simp] theorem qq_enumT_2 (ρ : En) (ds : List D) : enumT ρ [.list ds] = some (.items (enumD ds), ρ) := by first | rfl | (cases a with | none => rfl | some a => cases a <;> rfl) | (simp [stoO, stoR, parR, Option.bind]) | (unfold eqD eqOk; simp [scalD, PyData.eqv]) | (unfold neD eqOk; simp [scalD, PyData.eqv])
@[simp] theorem qq_zipT_1 (ρ : En) (ds es : List D) : zipT ρ [.tuple ds, .tuple es] = some (.items (zipD ds es), ρ) := by first | rfl | (cases a with | none => rfl | some a => cases a <;> rfl) | (simp [stoO, stoR, parR, Option.bind]) | (unfold eqD eqOk; simp [scalD, PyData.eqv]) | (unfold neD eqOk; simp [scalD, PyData.eqv])
@[simp] theorem qq_zipT_2 (ρ : En) (ds es : List D) : zipT ρ [.list ds, .list es] = some (.items (zipD ds es), ρ) := by first | rfl | (cases a with | none => rfl | some a => cases a <;> rfl) | (simp [stoO, stoR, parR, Option.bind]) | (unfold eqD eqOk; simp [scalD, PyData.eqv]) | (unfold neD eqOk; simp [scalD, PyData.eqv])
@[simp] theorem qq_fzA_1 (i : Nat) (rs : List R) (ρ : En) (d : D) : fzA i rs ρ (some (.dat d)) = ((fzs ρ rs).map fun x => (d :: x.1, x.2)) := by first | rfl | (cases a with | none => rfl | some a => cases a <;> rfl) | (simp [stoO, stoR, parR, Option.bind]) | (unfold eqD eqOk; simp [scalD, PyData.eqv]) | (unfold neD eqOk; simp [scalD, PyData.eqv])
@[simp] theorem qq_fzA_2 (i : Nat) (rs : List R) (ρ : En) (b : Bx) : fzA i rs ρ (some (.box true b)) = ((fzs (ρ.set i (some (.dat b.dat))) rs).map fun x => (b.dat :: x.1, x.2)) := by first | rfl | (cases a with | none => rfl | some a => cases a <;> rfl) | (simp [stoO, stoR, parR, Option.bind]) | (unfold eqD eqOk; simp [scalD, PyData.eqv]) | (unfold neD eqOk; simp [scalD, PyData.eqv])
@[simp] theorem qq_revTD_1 (ds : List D) : revTD (.tuple ds) = some (.dat (.tuple ds.reverse)) := by first | rfl | (cases a with | none => rfl | some a => cases a <;> rfl) | (simp [stoO, stoR, parR, Option.bind]) | (unfold eqD eqOk; simp [scalD, PyData.eqv]) | (unfold neD eqOk; simp [scalD, PyData.eqv])
@[simp] theorem qq_eqD_1 (i j : Bool) : eqD (.bool i) (.bool j) = some (.dat (.bool (i == j))) := by first | rfl | (cases a with | none => rfl | some a => cases a <;> rfl) | (simp [stoO, stoR, parR, Option.bind]) | (unfold eqD eqOk; simp [scalD, PyData.eqv]) | (unfold neD eqOk; simp [scalD, PyData.eqv])
@[simp] theorem qq_neD_1 (i j : Bool) : neD (.bool i) (.bool j) = some (.dat (.bool (!(i == j)))) := by first | rfl | (cases a with | none => rfl | some a => cases a <;> rfl) | (simp [stoO, stoR, parR, Option.bind]) | (unfold eqD eqOk; simp [scalD, PyData.eqv]) | (unfold neD eqOk; simp [scalD, PyData.eqv])
@[simp] theorem qq_ltD_1 (x y : Str) : ltD (.str x) (.str y) = some (.dat (.bool (decide (x.cps.toList < y.cps.toList)))) := by first | rfl | (cases a with | none => rfl | some a => cases a <;> rfl) | (simp [stoO, stoR, parR, Option.bind]) | (unfold eqD eqOk; simp [scalD, PyData.eqv]) | (unfold neD eqOk; simp [scalD, PyData.eqv])
@[simp] theorem qq_geD_1 (x y : Str) : geD (.str x) (.str y) = some (.dat (.bool (!decide (x.cps.toList < y.cps.toList)))) := by first | rfl | (cases a with | none => rfl | some a => cases a <;> rfl) | (simp [stoO, stoR, parR, Option.bind]) | (unfold eqD eqOk; simp [scalD, PyData.eqv]) | (unfold neD eqOk; simp [scalD, PyData.eqv])
@[simp] theorem qq_gtupG_1 (gs : List MG) (ds : List D) (ρ : En) : gtupG gs (.tuple ds) ρ = gseq gs ds ρ := by first | rfl | (cases a with | none => rfl | some a => cases a <;> rfl) | (simp [stoO, stoR, parR, Option.bind]) | (unfold eqD eqOk; simp [scalD, PyData.eqv]) | (unfold neD eqOk; simp [scalD, PyData.eqv])
@[simp] theorem qq_gseq_1 (ρ : En) : gseq [] [] ρ = some ρ := by first | rfl | (cases a with | none => rfl | some a => cases a <;> rfl) | (simp [stoO, stoR, parR, Option.bind]) | (unfold eqD eqOk; simp [scalD, PyData.eqv]) | (unfold neD eqOk; simp [scalD, PyData.eqv])
@[simp] theorem qq_gseq_2 (g : MG) (gs : List MG) (d : D) (ds : List D) (ρ : En) : gseq (g :: gs) (d :: ds) ρ = ((g d ρ).bind fun ρ1 => gseq gs ds ρ1) := by first | rfl | (cases a with | none => rfl | some a => cases a <;> rfl) | (simp [stoO, stoR, parR, Option.bind]) | (unfold eqD eqOk; simp [scalD, PyData.eqv]) | (unfold neD eqOk; simp [scalD, PyData.eqv])
end L3
namespace L3
open PySem
def k_mevs_1 (r : R) : Option (List R × En) → Option (List R × En)
  | some y => some (r :: y.1, y.2)
  | none => none
def k_mevs_0 (ms : List ME) : Option (R × En) → Option (List R × En)
  | some x => k_mevs_1 x.1 (mevs ms x.2)
  | none => none
@[simp] theorem kk_mevs_1 (r : R) (rs : List R) (ρ : En) : k_mevs_1 r (some (rs, ρ)) = some (r :: rs, ρ) := rfl
@[simp] theorem kk_mevs_0 (ms : List ME) (r : R) (ρ : En) : k_mevs_0 ms (some (r, ρ)) = k_mevs_1 r (mevs ms ρ) := rfl
@[simp] theorem ev_mevs_n (ρ : En) : mevs [] ρ = some ([], ρ) := rfl
@[simp] theorem ev_mevs_c (m : ME) (ms : List ME) (ρ : En) : mevs (m :: ms) ρ = k_mevs_0 ms (m ρ) := by
  show (m ρ).bind _ = _
  cases m ρ with
  | none => rfl
  | some x =>
    show (mevs ms x.2).map _ = k_mevs_1 x.1 (mevs ms x.2)
    cases mevs ms x.2 <;> rfl
def k_mparN_1 (is : List Nat) (rs : List R) (ρ : En) : Option Unit → Option (O × En)
  | some _ => stoO (stoL ρ is rs)
  | none => none
def k_mparN_0 (is : List Nat) : Option (List R × En) → Option (O × En)
  | some x => k_mparN_1 is x.1 x.2 (guardO (is.all (notBor x.2) && x.1.all notRef))
  | none => none
@[simp] theorem kk_mparN_1 (is : List Nat) (rs : List R) (ρ : En) (u : Unit) : k_mparN_1 is rs ρ (some u) = stoO (stoL ρ is rs) := rfl
@[simp] theorem kk_mparN_0 (is : List Nat) (rs : List R) (ρ : En) : k_mparN_0 is (some (rs, ρ)) = k_mparN_1 is rs ρ (guardO (is.all (notBor ρ) && rs.all notRef)) := rfl
@[simp] theorem ev_mparN (is : List Nat) (ms : List ME) (ρ : En) : mparN is ms ρ = k_mparN_0 is (mevs ms ρ) := by
  unfold mparN
  cases mevs ms ρ with
  | none => rfl
  | some x =>
    show (guardO _).bind _ = k_mparN_1 is x.1 x.2 _
    cases guardO (is.all (notBor x.2) && x.1.all notRef) with
    | none => rfl
    | some u =>
      show (stoL x.2 is x.1).map _ = stoO (stoL x.2 is x.1)
      cases stoL x.2 is x.1 <;> rfl
@[simp] theorem ev_stoL_n (ρ : En) : stoL ρ [] [] = some ρ := rfl
@[simp] theorem ev_stoL_d (ρ : En) (i : Nat) (is : List Nat) (d : D) (rs : List R) : stoL ρ (i :: is) (.dat d :: rs) = stoL (ρ.set i (some (.dat d))) is rs := rfl
@[simp] theorem ev_stoL_b (ρ : En) (i : Nat) (is : List Nat) (b : Bx) (rs : List R) : stoL ρ (i :: is) (.new b :: rs) = stoL (ρ.set i (some (.box true b))) is rs := rfl
@[simp] theorem ev_notRef_d (d : D) : notRef (.dat d) = true := rfl
@[simp] theorem ev_notRef_b (b : Bx) : notRef (.new b) = true := rfl
end L3
namespace L3
open PySem PySem.Spec PyProof.Rows
def nbA : Option A → Bool
  | some (.box false _) => false
  | _ => true
theorem notBor_eq (ρ : En) (i : Nat) : notBor ρ i = (decide (i < ρ.length) && nbA ρ[i]?.join) := by
  unfold notBor nbA
  cases ρ[i]?.join with
  | none => rfl
  | some a => cases a with
    | dat d => rfl
    | box o b => cases o <;> rfl
theorem nb_none : nbA none = true := rfl
theorem nb_dat (d : D) : nbA (some (.dat d)) = true := rfl
theorem nb_own (b : Bx) : nbA (some (.box true b)) = true := rfl
theorem nb_sD (o : Option D) : nbA (sD o) = true := by cases o <;> rfl
theorem PlL.of_all {n v : Nat} : ∀ {ds : List D}, (∀ d ∈ ds, Pl n v d) → PlL n (ds.length * (v + 2)) ds
  | [], _ => PlL.nil
  | d :: r, h => by
    have h1 := PlL.cons (h d List.mem_cons_self) (PlL.of_all fun e he => h e (List.mem_cons_of_mem _ he))
    refine h1.mono (Nat.le_refl _) ?_
    rw [List.length_cons, Nat.add_mul]
    omega
theorem seq_nx {a b : MS} {ρ ρ' : En} {r : Option (O × En)} (h : a ρ = some (.nx, ρ')) (h2 : b ρ' = r) : mseq a b ρ = r := by
  unfold mseq
  rw [h, Option.bind_some]
  exact h2
theorem addL (a b : List D) (h : a.length + b.length ≤ 16777216) : addD (.list a) (.list b) = some (.new (.lst (a ++ b))) := by
  unfold addD
  simp only []
  rw [if_pos (by rw [sizeLine_eq]; exact h)]
theorem addTu (a b : List D) (h : a.length + b.length ≤ 16777216) : addD (.tuple a) (.tuple b) = some (.dat (.tuple (a ++ b))) := by
  unfold addD
  simp only []
  rw [if_pos (by rw [sizeLine_eq]; exact h)]
theorem addSt (x y : Str) (h : x.length + y.length ≤ 16777216) : addD (.str x) (.str y) = some (.dat (.str (x ++ y))) := by
  unfold addD
  simp only []
  rw [if_pos (by rw [sizeLine_eq]; exact h)]
theorem pow39 : powD (.int 10) (.int 39) = some (.dat (.int 1000000000000000000000000000000000000000)) := by
  unfold powD
  simp only []
  rw [if_pos (by decide)]
  rfl
theorem cutS_ok {x : Str} (h : PyData.strOk x = true) (lo hi : Option Int) : PyData.strOk (L2.cutS x lo hi) = true ∧ (L2.cutS x lo hi).length ≤ x.length := by
  unfold L2.cutS PyData.strOk at *
  rw [← Array.all_toList, List.all_eq_true] at *
  refine ⟨fun c hc => h c (List.mem_of_mem_drop (List.mem_of_mem_take hc)), ?_⟩
  show (List.toArray _).size ≤ x.cps.size
  rw [List.size_toArray, List.length_take, List.length_drop, Array.length_toList]
  have : x.length = x.cps.size := rfl
  omega
theorem strOk_app {x y : Str} (h : PyData.strOk x = true) (h2 : PyData.strOk y = true) : PyData.strOk (x ++ y) = true := by
  unfold PyData.strOk at *
  rw [← Array.all_toList, List.all_eq_true] at *
  intro c hc
  have e : (x ++ y).cps = x.cps ++ y.cps := rfl
  rw [e, Array.toList_append] at hc
  rcases List.mem_append.mp hc with hc | hc
  · exact h c hc
  · exact h2 c hc
theorem tm_str {x : Str} {w : Nat} (h : PyData.strOk x = true) (hl : 10 * x.length + 2 ≤ w) : Tm 0 w (.str x) := ⟨h, .inl rfl, Nat.le_refl _, hl⟩
theorem tm_int {i : Int} {w : Nat} (h : i.natAbs < 10 ^ 60) (hl : 61 ≤ w) : Tm 0 w (.int i) := ⟨by show decide _ = true; exact decide_eq_true h, .inl rfl, Nat.le_refl _, hl⟩
theorem tm_bool {b : Bool} {w : Nat} (hl : 5 ≤ w) : Tm 0 w (.bool b) := ⟨rfl, .inl rfl, Nat.le_refl _, hl⟩
theorem strOk_int (i : Int) : PyData.strOk (Str.ofString (toString i)) = true := by
  unfold PyData.strOk
  rw [← Array.all_toList, List.all_eq_true]
  intro c hc
  rw [decide_eq_true_eq]
  rw [Str.ofString_eq_toList] at hc
  obtain ⟨x, _, rfl⟩ := List.mem_map.mp (by simpa using hc)
  exact x.valid.elim (fun h => by have : x.toNat = x.val.toNat := rfl; omega) fun h => by have : x.toNat = x.val.toNat := rfl; omega
theorem cutA (ds : List D) (i : Nat) : cutL ds none (some (i : Int)) = ds.take i := by
  unfold cutL
  rw [HT.sIx_none, HT.sIx_nat, List.drop_zero, Nat.sub_zero]
  rcases Nat.le_total i ds.length with h | h
  · rw [Nat.min_eq_left h]
  · rw [Nat.min_eq_right h, List.take_length, List.take_of_length_le h]
theorem cutB (ds : List D) (i : Nat) : cutL ds (some (i : Int)) none = ds.drop i := by
  unfold cutL
  rw [HT.sIx_none, HT.sIx_nat]
  rcases Nat.le_total i ds.length with h | h
  · rw [Nat.min_eq_left h, List.take_of_length_le (by rw [List.length_drop]; omega)]
  · rw [Nat.min_eq_right h, List.drop_of_length_le h, List.drop_length, List.take_nil]
theorem cutC (ds : List D) (i : Nat) (h : i < ds.length) : cutL ds (some (i : Int)) (some ((i : Int) + 1)) = [ds[i]] := by
  unfold cutL
  rw [show ((i : Int) + 1) = ((i + 1 : Nat) : Int) from by omega, HT.sIx_nat, HT.sIx_nat, Nat.min_eq_left (by omega), Nat.min_eq_left (by omega), show i + 1 - i = 1 by omega, List.drop_eq_getElem_cons h]
  rfl
theorem len_wX : ∀ ds : List D, ds.length ≤ wXL ds
  | [] => Nat.zero_le _
  | d :: r => by
    have := len_wX r
    rw [wXL, List.length_cons]
    omega
mutual
theorem okX_lay : ∀ d : D, okX d = true → d.hasDict = false → d.canLay0 = true
  | .none, _, _ => by simp only [PyData.canLay0]
  | .bool _, _, _ => by simp only [PyData.canLay0]
  | .int _, _, _ => by simp only [PyData.canLay0]
  | .str x, h, _ => by simpa only [PyData.canLay0, okX] using h
  | .list xs, h, e => by simp only [PyData.canLay0]; exact okXL_lay xs (by simpa only [okX] using h) (by simpa only [PyData.hasDict] using e)
  | .tuple xs, h, e => by simp only [PyData.canLay0]; exact okXL_lay xs (by simpa only [okX] using h) (by simpa only [PyData.hasDict] using e)
  | .dict _, _, e => by simp [PyData.hasDict] at e
theorem okXL_lay : ∀ ds : List D, okXL ds = true → PyData.hasDictAll ds = false → PyData.canLayAll0 ds = true
  | [], _, _ => by simp only [PyData.canLayAll0]
  | d :: ds, h, e => by
    have h' : okX d = true ∧ okXL ds = true := by simpa only [okXL, Bool.and_eq_true] using h
    have e' : d.hasDict = false ∧ PyData.hasDictAll ds = false := by simpa only [PyData.hasDictAll, Bool.or_eq_false_iff] using e
    simp only [PyData.canLayAll0, okX_lay d h'.1 e'.1, okXL_lay ds h'.2 e'.2, Bool.and_self]
end
theorem strs_of {ys : List D} (h : ∀ d ∈ ys, ∃ s, d = .str s) : ∃ zs : List Str, ys = zs.map PyData.str := by
  induction ys with
  | nil => exact ⟨[], rfl⟩
  | cons d r ih =>
    obtain ⟨s, rfl⟩ := h d List.mem_cons_self
    obtain ⟨zs, rfl⟩ := ih fun e he => h e (List.mem_cons_of_mem _ he)
    exact ⟨s :: zs, rfl⟩
theorem add_strs (l m : List Str) (h : l.length + m.length < 10000) : addD (.list (l.map PyData.str)) (.list (m.map PyData.str)) = some (.new (.lst ((l ++ m).map PyData.str))) := by
  unfold addD
  simp only []
  rw [if_pos (by rw [sizeLine_eq, List.length_map, List.length_map]; omega), List.map_append]
structure Nd (n w : Nat) (d : D) : Prop where
  ok : okX d = true
  nd : d.hasDict = false
  dep : d.depth ≤ n
  wt : wX d ≤ w
theorem Nd.tm {n w : Nat} {d : D} (h : Nd n w d) : Tm n w d := ⟨h.ok, .inl h.nd, h.dep, h.wt⟩
theorem Nd.shaped {n w : Nat} {d : D} (h : Nd n w d) (hn : n ≤ 64) : SeqAt.shaped d = true := by
  unfold SeqAt.shaped
  rw [okX_lay d h.ok h.nd, decide_eq_true (Nat.le_trans h.dep hn)]
  rfl
mutual
theorem eqvX_self : ∀ d : D, d.hasDict = false → PyData.eqv d d = true
  | .none, _ => by simp only [PyData.eqv]
  | .bool _, _ => by simp [PyData.eqv]
  | .int i, _ => by simp [PyData.eqv]
  | .str x, _ => by simp [PyData.eqv]
  | .list xs, h => by simp only [PyData.eqv]; exact eqvXL_self xs (by simpa only [PyData.hasDict] using h)
  | .tuple xs, h => by simp only [PyData.eqv]; exact eqvXL_self xs (by simpa only [PyData.hasDict] using h)
  | .dict _, h => by simp [PyData.hasDict] at h
theorem eqvXL_self : ∀ ds : List D, PyData.hasDictAll ds = false → PyData.eqvAll ds ds = true
  | [], _ => by simp only [PyData.eqvAll]
  | d :: ds, h => by
    have h' : d.hasDict = false ∧ PyData.hasDictAll ds = false := by simpa only [PyData.hasDictAll, Bool.or_eq_false_iff] using h
    simp only [PyData.eqvAll, eqvX_self d h'.1, eqvXL_self ds h'.2, Bool.and_self]
end
theorem eq_nd {n w m v : Nat} {d e : D} (h : Nd n w d) (h' : Nd m v e) (hn : n ≤ 64) (hm : m ≤ 64) : eqD d e = some (.dat (.bool (PyData.eqv d e))) ∧ neD d e = some (.dat (.bool (!PyData.eqv d e))) := by
  unfold eqD neD eqOk
  rw [h.shaped hn, h'.shaped hm, Bool.and_self, Bool.or_true, if_pos rfl, if_pos rfl]
  exact ⟨rfl, rfl⟩
theorem eqD_tnil (ds : List D) : eqD (.tuple ds) (.tuple []) = some (.dat (.bool ds.isEmpty)) := by
  unfold eqD eqOk nilOk
  simp only [Bool.true_or, if_true]
  cases ds <;> simp [PyData.eqv, PyData.eqvAll]
theorem eqD_lnil (ds : List D) : eqD (.list ds) (.list []) = some (.dat (.bool ds.isEmpty)) := by
  unfold eqD eqOk nilOk
  simp only [Bool.true_or, if_true]
  cases ds <;> simp [PyData.eqv, PyData.eqvAll]
theorem neD_lnil (ds : List D) : neD (.list ds) (.list []) = some (.dat (.bool (!ds.isEmpty))) := by
  unfold neD eqOk nilOk
  simp only [Bool.true_or, if_true]
  cases ds <;> simp [PyData.eqv, PyData.eqvAll]
end L3
namespace L3
open PySem PySem.Spec PyProof.Rows
theorem rest_same {ρ0 ρ1 ρ : En} {vs : List Nat} (h : ∀ v ∈ vs, ρ0[v]? = ρ1[v]?) : restE ρ0 ρ vs = restE ρ1 ρ vs := by
  refine List.ext_getElem? fun j => ?_
  rw [restE_get, restE_get]
  cases ρ[j]? with
  | none => rfl
  | some a =>
    rw [Option.map_some, Option.map_some]
    split
    · rename_i hj; rw [h j hj]
    · rfl
def DrawTurn {β : Type} (B : β → Prop) (g : MG) (m : ME) (vs : List Nat) (E : β → En) (Q : D → Prop) (d : D) : Prop :=
  ∀ b, B b → ∃ (ρ1 : En) (y : R) (ρ2 : En) (e : D) (ρ3 : En) (b' : β), g d (wipeE (E b) vs) = some ρ1 ∧ m ρ1 = some (y, ρ2) ∧ fzs ρ2 [y.fz] = some ([e], ρ3) ∧ wipeE ρ3 vs = wipeE (E b') vs ∧ B b' ∧ Q e
theorem draw_turn {β : Type} {B : β → Prop} {g : MG} {m : ME} {vs : List Nat} {E : β → En} {Q : D → Prop} {d : D} (h : DrawTurn B g m vs E Q d) {acc : List D} {ρ : En} {b : β} (hb : B b) (hw : wipeE ρ vs = wipeE (E b) vs) (hz : acc.length < sizeLine) :
    ∃ e ρ' b', mturn g myes m vs d acc ρ = some (acc ++ [e], ρ') ∧ wipeE ρ' vs = wipeE (E b') vs ∧ B b' ∧ Q e := by
  obtain ⟨ρ1, y, ρ2, e, ρ3, b', h1, h2, h3, h4, h5, h6⟩ := h b hb
  rw [← hw] at h1
  exact ⟨e, ρ3, b', turn_yes h1 rfl h2 h3 hz, h4, h5, h6⟩
theorem lc_draw {β : Type} {B : β → Prop} {g : MG} {m : ME} {vs : List Nat} (E : β → En) (Q : D → Prop) {ds : List D} (hds : ds.length ≤ sizeLine) {b0 : β} (h0 : B b0) (hv : ∀ b, ∀ v ∈ vs, (E b0)[v]? = (E b)[v]?) (h : ∀ d ∈ ds, DrawTurn B g m vs E Q d) :
    ∃ acc b', lcT g myes m vs (.items ds) (E b0) = some (.new (.lst acc), E b') ∧ B b' ∧ acc.length = ds.length ∧ ∀ e ∈ acc, Q e := by
  obtain ⟨acc, ρ', h1, b', h2, h3, h4, h5, _⟩ := lcI_run (g := g) (t := myes) (m := m) (vs := vs) (P := fun r acc ρ => ∃ b, B b ∧ wipeE ρ vs = wipeE (E b) vs ∧ (∀ e ∈ acc, Q e) ∧ acc.length + r.length = ds.length ∧ ∀ d ∈ r, d ∈ ds) (fun d r acc ρ hP => by
    obtain ⟨b, hb, hw, hq, hl, hm⟩ := hP
    rw [List.length_cons] at hl
    obtain ⟨e, ρ', b', e1, e2, e3, e4⟩ := draw_turn (h d (hm d List.mem_cons_self)) hb hw (acc := acc) (by omega)
    refine ⟨acc ++ [e], ρ', e1, b', e3, e2, fun y hy => (List.mem_append.mp hy).elim (hq y) fun z => by rw [List.mem_singleton.mp z]; exact e4, by rw [List.length_append, List.length_singleton]; omega, fun y hy => hm y (List.mem_cons_of_mem _ hy)⟩) ds [] (wipeE (E b0) vs) ⟨b0, h0, wipe_wipe _ _, nofun, by simp, fun d hd => hd⟩
  refine ⟨acc, b', ?_, h2, by simpa using h5, h4⟩
  show lcE _ vs (mlcI g myes m vs ds [] _) = _
  rw [h1]
  show some (R.new (.lst _), restE (E b0) ρ' vs) = _
  rw [rest_same (hv b'), restE_back h3]
end L3
namespace K00
open PySem PySem.Spec PyProof.Rows L3
/-- a list, as data or lent -/
def IsL (x : A) (ds : List D) : Prop := x = .dat (.list ds) ∨ x = .box false (.lst ds)
theorem atI_get (ds : List D) (v : Int) (h0 : 0 ≤ v) (h1 : v < ds.length) : ∃ d, L2.atI ds v = some d ∧ d ∈ ds := by
  have hv : v.toNat < ds.length := by omega
  refine ⟨ds[v.toNat], ?_, List.getElem_mem hv⟩
  unfold L2.atI L2.ixN
  rw [if_pos h0, if_pos h1, Option.bind_some, List.getElem?_eq_getElem hv]
theorem some_ok {bag : List D} (hb : BagOk bag) {x : A} {ds : List D} (hx : IsL x ds) (hd : ds ≠ []) (hl : ds.length < 1073741824) :
    ∃ d bag', m_law_some [.box false (.lst bag), x] = some (.dat d, [.box false (.lst bag'), x]) ∧ d ∈ ds ∧ BagOk bag' := by
  have hp : 0 < ds.length := List.length_pos_iff.mpr hd
  obtain ⟨v, bag', h1, h2, h3, h4⟩ := take_ok hb (ds.length : Int) (by omega) (by omega)
  obtain ⟨d, h5, h6⟩ := atI_get ds v h3 h4
  refine ⟨d, bag', ?_, h6, h2⟩
  unfold m_law_some b__law_some
  rcases hx with rfl | rfl
  · simp [sizeLine_eq, startE, argA, bxIx, back, newC, notBor, bxAt, restE, noBx, lstB, lstAt, isNoD, h1, h5]
  · simp [sizeLine_eq, startE, argA, bxIx, back, newC, notBor, bxAt, restE, noBx, lstB, lstAt, isNoD, h1, h5]
end K00
namespace K00
open PySem PySem.Spec PyProof.Rows L3
def letB (c : Nat) : Bool := decide (97 ≤ c) && decide (c ≤ 122)
def digB (c : Nat) : Bool := decide (48 ≤ c) && decide (c ≤ 57)
abbrev chD (c : Nat) : D := .str ⟨#[c]⟩
theorem in_one (c : Nat) (x : Str) : inD (chD c) (.str x) = some (.dat (.bool (decide (c ∈ x.cps.toList)))) := by
  unfold inD inB
  simp only []
  rw [PySem.StrLaws.found_one]
  rfl
theorem in_small (c : Nat) : inD (chD c) (.str (Str.ofString "abcdefghijklmnopqrstuvwxyz")) = some (.dat (.bool (letB c))) := by
  rw [in_one]
  have h : (Str.ofString "abcdefghijklmnopqrstuvwxyz").cps.toList = [97, 98, 99, 100, 101, 102, 103, 104, 105, 106, 107, 108, 109, 110, 111, 112, 113, 114, 115, 116, 117, 118, 119, 120, 121, 122] := by decide +kernel
  have e : decide (c ∈ (Str.ofString "abcdefghijklmnopqrstuvwxyz").cps.toList) = letB c := by
    rw [h]
    unfold letB
    rw [Bool.eq_iff_iff]
    simp only [decide_eq_true_eq, Bool.and_eq_true, List.mem_cons, List.not_mem_nil, or_false]
    omega
  rw [e]
theorem in_digits (c : Nat) : inD (chD c) (.str (Str.ofString "0123456789")) = some (.dat (.bool (digB c))) := by
  rw [in_one]
  have h : (Str.ofString "0123456789").cps.toList = [48, 49, 50, 51, 52, 53, 54, 55, 56, 57] := by decide +kernel
  have e : decide (c ∈ (Str.ofString "0123456789").cps.toList) = digB c := by
    rw [h]
    unfold digB
    rw [Bool.eq_iff_iff]
    simp only [decide_eq_true_eq, Bool.and_eq_true, List.mem_cons, List.not_mem_nil, or_false]
    omega
  rw [e]
theorem lt_one (a b : Nat) : decide ([a] < [b]) = decide (a < b) := by
  rw [Bool.eq_iff_iff, decide_eq_true_eq, decide_eq_true_eq, List.cons_lt_cons_iff]
  simp
theorem le_lo {k : Nat} (x : Str) (hx : x.cps.toList = [k]) (c : Nat) : leD (.str x) (chD c) = some (.dat (.bool (decide (k ≤ c)))) := by
  show some (R.dat (.bool (!decide ([c] < x.cps.toList)))) = _
  rw [hx, lt_one]
  refine congrArg (fun b => some (R.dat (.bool b))) ?_
  rw [Bool.eq_iff_iff]
  simp
theorem le_hi {k : Nat} (x : Str) (hx : x.cps.toList = [k]) (c : Nat) : leD (chD c) (.str x) = some (.dat (.bool (decide (c ≤ k)))) := by
  show some (R.dat (.bool (!decide (x.cps.toList < [c])))) = _
  rw [hx, lt_one]
  refine congrArg (fun b => some (R.dat (.bool b))) ?_
  rw [Bool.eq_iff_iff]
  simp
theorem chain_ok {g g' : D → D → Option R} {ma mb mc : ME} {ρ : En} {a b c : D} {k l : Bool} (h1 : ma ρ = some (.dat a, ρ)) (h2 : mb ρ = some (.dat b, ρ)) (h3 : mc ρ = some (.dat c, ρ)) (g1 : g a b = some (.dat (.bool k))) (g2 : g' b c = some (.dat (.bool l))) :
    mchain g g' ma mb mc ρ = some (.dat (.bool (k && l)), ρ) := by
  unfold mchain
  rw [h1, Option.bind_some, h2, Option.bind_some]
  show (some a).bind _ = _
  rw [Option.bind_some]
  show (some b).bind _ = _
  rw [Option.bind_some, g1]
  cases k with
  | false => rfl
  | true =>
    show (mc ρ).bind _ = _
    rw [h3, Option.bind_some]
    show (g' b c).bind _ = _
    rw [g2]
    rfl
theorem is_letter_ok (c : Nat) : m_law_is_letter [.dat (chD c)] = some (.dat (.bool (letB c)), [.dat (chD c)]) := by
  have h1 := le_lo (k := 97) (Str.ofString "a") (by decide +kernel) c
  have h2 := le_hi (k := 122) (Str.ofString "z") (by decide +kernel) c
  unfold m_law_is_letter b__law_is_letter
  have h3 := chain_ok (ma := mcon (.str (Str.ofString "a"))) (mb := mvar 0) (mc := mcon (.str (Str.ofString "z"))) (ρ := [some (.dat (chD c))]) (by simp [sizeLine_eq, startE, argA, bxIx, back, newC, notBor, bxAt, restE, noBx, lstB, lstAt, isNoD]) (by simp [sizeLine_eq, startE, argA, bxIx, back, newC, notBor, bxAt, restE, noBx, lstB, lstAt, isNoD]) (by simp [sizeLine_eq, startE, argA, bxIx, back, newC, notBor, bxAt, restE, noBx, lstB, lstAt, isNoD]) h1 h2
  generalize chD c = x at *
  unfold letB
  simp [sizeLine_eq, startE, argA, bxIx, back, newC, notBor, bxAt, restE, noBx, lstB, lstAt, isNoD, h3]
theorem is_digit_ok (c : Nat) : m_law_is_digit [.dat (chD c)] = some (.dat (.bool (digB c)), [.dat (chD c)]) := by
  have h1 := le_lo (k := 48) (Str.ofString "0") (by decide +kernel) c
  have h2 := le_hi (k := 57) (Str.ofString "9") (by decide +kernel) c
  unfold m_law_is_digit b__law_is_digit
  have h3 := chain_ok (ma := mcon (.str (Str.ofString "0"))) (mb := mvar 0) (mc := mcon (.str (Str.ofString "9"))) (ρ := [some (.dat (chD c))]) (by simp [sizeLine_eq, startE, argA, bxIx, back, newC, notBor, bxAt, restE, noBx, lstB, lstAt, isNoD]) (by simp [sizeLine_eq, startE, argA, bxIx, back, newC, notBor, bxAt, restE, noBx, lstB, lstAt, isNoD]) (by simp [sizeLine_eq, startE, argA, bxIx, back, newC, notBor, bxAt, restE, noBx, lstB, lstAt, isNoD]) h1 h2
  generalize chD c = x at *
  unfold digB
  simp [sizeLine_eq, startE, argA, bxIx, back, newC, notBor, bxAt, restE, noBx, lstB, lstAt, isNoD, h3]
def kwL : List Str := [Str.ofString "plain", Str.ofString "once", Str.ofString "record", Str.ofString "choice", Str.ofString "given", Str.ofString "def", Str.ofString "let", Str.ofString "open", Str.ofString "if", Str.ofString "else", Str.ofString "match", Str.ofString "repeat", Str.ofString "give", Str.ofString "true", Str.ofString "false", Str.ofString "num", Str.ofString "truth", Str.ofString "and"]
def sgL : List Str := [Str.ofString "{", Str.ofString "}", Str.ofString "(", Str.ofString ")", Str.ofString ",", Str.ofString ":", Str.ofString ";", Str.ofString "=", Str.ofString "+", Str.ofString "<", Str.ofString "."]
theorem keywords_ok : m_law_keywords [] = some (.new (.lst (kwL.map PyData.str)), []) := by
  have h : splitD (.str (Str.ofString "plain once record choice given def let open if else match repeat give true false num truth and")) [.str (Str.ofString " ")] = some (.new (.lst (kwL.map PyData.str))) := by
    have e : Txt.split (Str.ofString "plain once record choice given def let open if else match repeat give true false num truth and") (Str.ofString " ") = kwL := by decide +kernel
    unfold splitD
    simp only []
    rw [if_pos ⟨by decide +kernel, by rw [sizeLine_eq]; decide +kernel⟩, e]
  unfold m_law_keywords b__law_keywords
  simp [sizeLine_eq, startE, argA, bxIx, back, newC, notBor, bxAt, restE, noBx, lstB, lstAt, isNoD, h]
theorem signs_ok : m_law_signs [] = some (.new (.lst (sgL.map PyData.str)), []) := by
  unfold m_law_signs b__law_signs
  simp [sizeLine_eq, startE, argA, bxIx, back, newC, notBor, bxAt, restE, noBx, lstB, lstAt, isNoD, sgL]
end K00
namespace K00
open PySem PySem.Spec PyProof.Rows L3
def hdB (f : Nat → Bool) : List Nat → Bool
  | [] => false
  | c :: _ => f c
def nmS (s : Str) : Bool := !decide (s ∈ kwL) && (decide (1 ≤ s.cps.toList.length) && decide (s.cps.toList.length ≤ 20)) && hdB letB s.cps.toList && s.cps.toList.all fun c => letB c || digB c
theorem sg_head {s : Str} (h : s ∈ sgL) : hdB letB s.cps.toList = false := by
  unfold sgL at h
  simp only [List.mem_cons, List.not_mem_nil, or_false] at h
  rcases h with rfl | rfl | rfl | rfl | rfl | rfl | rfl | rfl | rfl | rfl | rfl <;> decide +kernel
theorem seq_str (s : Str) : seqD (.str s) = some (s.cps.toList.map chD) := rfl
theorem oddC_empty (cs : List Nat) : (cs.filterMap fun c => if (!letB c && !digB c) = true then some (chD c) else none).isEmpty = cs.all fun c => letB c || digB c := by
  induction cs with
  | nil => rfl
  | cons c r ih =>
    rw [List.all_cons, ← ih, List.filterMap_cons]
    cases letB c <;> cases digB c <;> rfl
theorem sort_lc1 (s : Str) (hz : s.length ≤ 10000000) : lcT (gnm 3) T__law_sort_1 M__law_sort_1 [3] (.items (s.cps.toList.map chD)) [some (.dat (.str s)), none, none, none] = some (.new (.lst (s.cps.toList.filterMap fun c => if (!letB c && !digB c) = true then some (chD c) else none)), [some (.dat (.str s)), none, none, none]) := by
  refine lc_pure (vs := [3]) (ρ := [some (.dat (.str s)), none, none, none]) chD _ s.cps.toList (fun c _ => ⟨[some (.dat (.str s)), none, none, some (.dat (chD c))], !letB c && !digB c, by simp [sizeLine_eq, startE, argA, bxIx, back, newC, notBor, bxAt, restE, noBx, lstB, lstAt, isNoD], by simp [sizeLine_eq, startE, argA, bxIx, back, newC, notBor, bxAt, restE, noBx, lstB, lstAt, isNoD], ?_, ?_⟩) (by rw [sizeLine_eq]; have : s.cps.toList.length = s.length := rfl; omega)
  · have h1 := is_letter_ok c
    have h2 := is_digit_ok c
    generalize chD c = x at *
    unfold T__law_sort_1
    generalize letB c = b1 at *
    generalize digB c = b2 at *
    cases b1 <;> simp [sizeLine_eq, startE, argA, bxIx, back, newC, notBor, bxAt, restE, noBx, lstB, lstAt, isNoD, h1, h2]
  · cases h : (!letB c && !digB c) with
    | false => rfl
    | true => exact ⟨rfl, by unfold M__law_sort_1; simp [sizeLine_eq, startE, argA, bxIx, back, newC, notBor, bxAt, restE, noBx, lstB, lstAt, isNoD]⟩
theorem sort_lc2 (s : Str) (O : List D) (hz : s.length ≤ 10000000) : lcT (gnm 3) T__law_sort_2 M__law_sort_2 [3] (.items (s.cps.toList.map chD)) [some (.dat (.str s)), some (.box true (.lst O)), none, none] = some (.new (.lst (s.cps.toList.filterMap fun c => if letB c = true then some (chD c) else none)), [some (.dat (.str s)), some (.box true (.lst O)), none, none]) := by
  refine lc_pure (vs := [3]) (ρ := [some (.dat (.str s)), some (.box true (.lst O)), none, none]) chD _ s.cps.toList (fun c _ => ⟨[some (.dat (.str s)), some (.box true (.lst O)), none, some (.dat (chD c))], letB c, by simp [sizeLine_eq, startE, argA, bxIx, back, newC, notBor, bxAt, restE, noBx, lstB, lstAt, isNoD], by simp [sizeLine_eq, startE, argA, bxIx, back, newC, notBor, bxAt, restE, noBx, lstB, lstAt, isNoD], ?_, ?_⟩) (by rw [sizeLine_eq]; have : s.cps.toList.length = s.length := rfl; omega)
  · have h1 := is_letter_ok c
    generalize chD c = x at *
    unfold T__law_sort_2
    generalize letB c = b1 at *
    cases b1 <;> simp [sizeLine_eq, startE, argA, bxIx, back, newC, notBor, bxAt, restE, noBx, lstB, lstAt, isNoD, h1]
  · cases h : letB c with
    | false => rfl
    | true => exact ⟨rfl, by unfold M__law_sort_2; simp [sizeLine_eq, startE, argA, bxIx, back, newC, notBor, bxAt, restE, noBx, lstB, lstAt, isNoD]⟩
theorem eq_non : eqD .none (.str (Str.ofString "name")) = some (.dat (.bool false)) := by
  have h1 : Nd 1 1000 PyData.none := ⟨rfl, rfl, by decide +kernel, by decide +kernel⟩
  have h2 : Nd 1 1000 (.str (Str.ofString "name")) := ⟨by decide +kernel, rfl, by decide +kernel, by decide +kernel⟩
  rw [(eq_nd h1 h2 (by decide) (by decide)).1]
  simp [PyData.eqv]
def isZ (c : Nat) : Bool := (⟨#[c]⟩ : Str) == Str.ofString "0"
def nuS (s : Str) : Bool := (decide (1 ≤ s.cps.toList.length) && decide (s.cps.toList.length ≤ 9)) && s.cps.toList.all digB && ((s == Str.ofString "0") || hdB (fun c => !isZ c) s.cps.toList)
/-- which sort of word a text is -/
def sortD (s : Str) : D := if s ∈ kwL then .str (Str.ofString "keyword") else if s ∈ sgL then .str (Str.ofString "sign") else if nmS s = true then .str (Str.ofString "name") else if nuS s = true then .str (Str.ofString "number") else .none
theorem str_cps (s : Str) : s = ⟨s.cps.toList.toArray⟩ := by cases s; simp
theorem is_zero (s : Str) : (s == Str.ofString "0") = decide (s.cps.toList = [48]) := by
  rw [Bool.eq_iff_iff, beq_iff_eq, decide_eq_true_eq]
  constructor
  · rintro rfl; decide +kernel
  · intro h; rw [str_cps s, h]; decide +kernel
theorem isZ_eq (c : Nat) : isZ c = decide (c = 48) := by
  unfold isZ
  rw [is_zero]
  simp
def lawNu (s : Str) : Bool := decide (s.cps.toList.length ≤ 9) && (s.cps.toList.all fun c => !letB c) && (hdB (fun c => !isZ c) s.cps.toList || decide (s.cps.toList.length = 1))
theorem let_dig (c : Nat) : (letB c && digB c) = false := by
  unfold letB digB
  by_cases h : 97 ≤ c <;> by_cases h2 : c ≤ 57 <;> simp [h, h2] <;> omega
theorem nu_law (s : Str) : nuS s = ((decide (1 ≤ s.cps.toList.length) && decide (s.cps.toList.length ≤ 20)) && (s.cps.toList.all fun c => letB c || digB c) && !hdB letB s.cps.toList && lawNu s) := by
  unfold nuS lawNu
  rw [is_zero]
  generalize s.cps.toList = cs
  cases cs with
  | nil => simp
  | cons c r =>
    show _ = (_ && !letB c && _)
    simp only [hdB, isZ_eq, List.all_cons, List.length_cons]
    rw [Bool.eq_iff_iff]
    simp only [Bool.and_eq_true, Bool.or_eq_true, decide_eq_true_eq, Bool.not_eq_true', decide_eq_false_iff_not, List.all_eq_true, List.cons.injEq]
    have ex : ∀ d, digB d = true → letB d = false := fun d h => by have := let_dig d; rw [h, Bool.and_true] at this; exact this
    constructor
    · rintro ⟨⟨⟨h1, h2⟩, h3, h4⟩, h5⟩
      refine ⟨⟨⟨⟨h1, by omega⟩, .inr h3, fun d hd => .inr (h4 d hd)⟩, ex c h3⟩, ⟨h2, ex c h3, fun d hd => ex d (h4 d hd)⟩, ?_⟩
      rcases h5 with ⟨_, rfl⟩ | h5
      · exact .inr rfl
      · exact .inl h5
    · rintro ⟨⟨⟨⟨h1, h2⟩, h3, h4⟩, h5⟩, ⟨h6, h7, h8⟩, h9⟩
      refine ⟨⟨⟨h1, h6⟩, h3.resolve_left (by rw [h5]; decide), fun d hd => (h4 d hd).resolve_left (by rw [h8 d hd]; decide)⟩, ?_⟩
      rcases h9 with h9 | h9
      · exact .inr h9
      · by_cases hc : c = 48
        · refine .inl ⟨hc, ?_⟩
          cases r with
          | nil => rfl
          | cons _ _ => simp at h9
        · exact .inr hc
theorem oddC_empty2 (cs : List Nat) : (cs.filterMap fun c => if letB c = true then some (chD c) else none).isEmpty = cs.all fun c => !letB c := by
  induction cs with
  | nil => rfl
  | cons c r ih =>
    rw [List.all_cons, ← ih, List.filterMap_cons]
    cases letB c <;> rfl
theorem law_sort_ok (s : Str) (hz : s.length ≤ 10000000) : m_law_sort [.dat (.str s)] = some (.dat (sortD s), [.dat (.str s)]) := by
  have i1 := in_strs s kwL
  have i2 := in_strs s sgL
  have hk := keywords_ok
  have hg := signs_ok
  have l1 := sort_lc1 s hz
  have hO := oddC_empty s.cps.toList
  generalize (s.cps.toList.filterMap fun c => if (!letB c && !digB c) = true then some (chD c) else none) = O at *
  have l2 := sort_lc2 s O hz
  have hO2 := oddC_empty2 s.cps.toList
  generalize (s.cps.toList.filterMap fun c => if letB c = true then some (chD c) else none) = O2 at *
  have e1 := neD_lnil O
  have e2 := eqD_lnil O2
  have hsq := seq_str s
  have hlen : s.cps.toList.length = s.length := rfl
  have hl : lenD [.str s] = some (.dat (.int s.length)) := by
    show (if s.length ≤ sizeLine then _ else none) = _
    rw [if_pos (by rw [sizeLine_eq]; omega)]
  have hch := chain_ok (g := leD) (g' := leD) (ma := mcon (.int 1)) (mb := mn lenD (mcons (mvar 0) mnil)) (mc := mcon (.int 20)) (ρ := [some (.dat (.str s)), some (.box true (.lst O)), none, none]) (a := .int 1) (b := .int s.length) (c := .int 20) (by simp [sizeLine_eq, startE, argA, bxIx, back, newC, notBor, bxAt, restE, noBx, lstB, lstAt, isNoD]) (by simp [sizeLine_eq, startE, argA, bxIx, back, newC, notBor, bxAt, restE, noBx, lstB, lstAt, isNoD, hl]) (by simp [sizeLine_eq, startE, argA, bxIx, back, newC, notBor, bxAt, restE, noBx, lstB, lstAt, isNoD]) rfl rfl
  have hnu := nu_law s
  unfold sortD nmS
  rw [hnu]
  unfold lawNu
  generalize kwL.map PyData.str = KW at *
  generalize sgL.map PyData.str = SG at *
  by_cases k1 : s ∈ kwL
  · rw [decide_eq_true k1] at i1
    rw [if_pos k1]
    unfold m_law_sort b__law_sort
    simp [sizeLine_eq, startE, argA, bxIx, back, newC, notBor, bxAt, restE, noBx, lstB, lstAt, isNoD, hk, i1]
  rw [decide_eq_false k1] at i1
  rw [if_neg k1]
  by_cases k2 : s ∈ sgL
  · rw [decide_eq_true k2] at i2
    rw [if_pos k2]
    unfold m_law_sort b__law_sort
    simp [sizeLine_eq, startE, argA, bxIx, back, newC, notBor, bxAt, restE, noBx, lstB, lstAt, isNoD, hk, hg, i1, i2]
  rw [decide_eq_false k2] at i2
  rw [if_neg k2, decide_eq_false k1]
  rw [← hO, ← hO2]
  rw [Bool.not_false, Bool.true_and, hlen]
  have hch' : (decide ((1 : Int) ≤ (s.length : Int)) && decide ((s.length : Int) ≤ 20)) = (decide (1 ≤ s.length) && decide (s.length ≤ 20)) := by
    rw [Bool.eq_iff_iff]
    simp only [Bool.and_eq_true, decide_eq_true_eq]
    omega
  rw [hch'] at hch
  cases k3 : decide (1 ≤ s.length) && decide (s.length ≤ 20) with
  | false =>
    rw [k3] at hch
    simp only [Bool.false_and, Bool.false_eq_true, if_false]
    generalize s.cps.toList.map chD = CH at *
    unfold m_law_sort b__law_sort
    simp [sizeLine_eq, startE, argA, bxIx, back, newC, notBor, bxAt, restE, noBx, lstB, lstAt, isNoD, hk, hg, i1, i2, hsq, l1, hch]
  | true =>
    rw [k3] at hch
    rw [Bool.true_and, Bool.true_and]
    cases k4 : O.isEmpty with
    | false =>
      rw [k4] at e1
      simp only [Bool.and_false, Bool.false_and, Bool.false_eq_true, if_false]
      generalize s.cps.toList.map chD = CH at *
      unfold m_law_sort b__law_sort
      simp [sizeLine_eq, startE, argA, bxIx, back, newC, notBor, bxAt, restE, noBx, lstB, lstAt, isNoD, hk, hg, i1, i2, hsq, l1, hch, e1]
    | true =>
      rw [k4] at e1
      rw [Bool.and_true, Bool.true_and]
      obtain ⟨c, r, hc⟩ : ∃ c r, s.cps.toList = c :: r := by
        cases h : s.cps.toList with
        | nil => rw [h] at hlen; simp at hlen; simp [← hlen] at k3
        | cons c r => exact ⟨c, r, rfl⟩
      have ix : ixD (.str s) (.int 0) = some (.dat (chD c)) := by
        show (if s.length ≤ sizeLine then (L2.atI s.cps.toList 0).bind fun c => some (R.dat (.str ⟨#[c]⟩)) else none) = _
        rw [if_pos (by rw [sizeLine_eq]; omega), hc]
        have : L2.atI (c :: r) 0 = some c := by
          simp [L2.atI, L2.ixN]
        rw [this]
        rfl
      rw [hc]
      show _ = some (R.dat (if letB c = true then _ else if (!letB c && _) = true then _ else _), _)
      have hlc := is_letter_ok c
      cases k5 : letB c with
      | true =>
        rw [k5] at hlc
        rw [if_pos rfl]
        generalize chD c = x at *
        generalize s.cps.toList.map chD = CH at *
        unfold m_law_sort b__law_sort
        simp [sizeLine_eq, startE, argA, bxIx, back, newC, notBor, bxAt, restE, noBx, lstB, lstAt, isNoD, hk, hg, i1, i2, hsq, l1, hch, e1, ix, hlc]
      | false =>
        rw [k5] at hlc
        have n0 : neD (chD c) (.str (Str.ofString "0")) = some (.dat (.bool (!isZ c))) := by rfl
        have k6' : decide ((s.length : Int) ≤ 9) = decide (s.length ≤ 9) := by
          rw [Bool.eq_iff_iff]; simp only [decide_eq_true_eq]; omega
        have k7' : ((s.length : Int) == 1) = decide (s.length = 1) := by
          rw [Bool.eq_iff_iff]; simp only [decide_eq_true_eq, beq_iff_eq]; omega
        rw [if_neg (by decide), Bool.not_false, Bool.true_and]
        show _ = some (R.dat (if (decide (s.length ≤ 9) && O2.isEmpty && (!isZ c || decide (s.length = 1))) = true then _ else _), _)
        obtain ⟨b0, hb0⟩ : ∃ b, b = isZ c := ⟨_, rfl⟩
        rw [← hb0] at n0 ⊢
        clear hb0
        generalize chD c = x at *
        generalize s.cps.toList.map chD = CH at *
        generalize hb2 : O2.isEmpty = b2 at *
        cases k6 : decide (s.length ≤ 9) <;> rw [k6] at k6' <;> cases b2 <;> cases b0 <;> cases k7 : decide (s.length = 1) <;> rw [k7] at k7' <;>
          (unfold m_law_sort b__law_sort; simp [sizeLine_eq, startE, argA, bxIx, back, newC, notBor, bxAt, restE, noBx, lstB, lstAt, isNoD, hk, hg, i1, i2, hsq, l1, hch, e1, ix, hlc, hl, k6', l2, e2, n0, k7'])
end K00
namespace K00
open PySem PySem.Spec PyProof.Rows L3
theorem bools_map {α : Type} (f : α → Bool) : ∀ xs : List α, boolsD (xs.map fun x => PyData.bool (f x)) = some (xs.map f)
  | [] => rfl
  | x :: r => by
    show ((boolsD (r.map fun x => PyData.bool (f x))).map _) = _
    rw [bools_map f r]
    rfl
theorem all_bools {α : Type} (f : α → Bool) (xs : List α) : allD [.list (xs.map fun x => PyData.bool (f x))] = some (.dat (.bool (xs.all f))) := by
  unfold allD
  simp only []
  rw [bools_map]
  simp
theorem filterMap_some {α : Type} (f : α → D) (xs : List α) : (xs.filterMap fun x => some (f x)) = xs.map f := by
  induction xs with
  | nil => rfl
  | cons x r ih => rw [List.filterMap_cons, ih]; rfl
theorem len_str (s : Str) (hz : s.length ≤ 10000000) : lenD [.str s] = some (.dat (.int s.length)) := by
  show (if s.length ≤ sizeLine then _ else none) = _
  rw [if_pos (by rw [sizeLine_eq]; omega)]
theorem ix_str {s : Str} {c : Nat} {r : List Nat} (hc : s.cps.toList = c :: r) (hz : s.length ≤ 10000000) : ixD (.str s) (.int 0) = some (.dat (chD c)) := by
  show (if s.length ≤ sizeLine then (L2.atI s.cps.toList 0).bind fun c => some (R.dat (.str ⟨#[c]⟩)) else none) = _
  rw [if_pos (by rw [sizeLine_eq]; omega), hc]
  have : L2.atI (c :: r) 0 = some c := by simp [L2.atI, L2.ixN]
  rw [this]
  rfl
theorem named_lc (s : Str) (hz : s.length ≤ 10000000) : lcT (gnm 1) myes M_is_named_1 [1] (.items (s.cps.toList.map chD)) [some (.dat (.str s)), none] = some (.new (.lst (s.cps.toList.map fun c => .bool (letB c || digB c))), [some (.dat (.str s)), none]) := by
  have := lc_pure (g := gnm 1) (t := myes) (m := M_is_named_1) (vs := [1]) (ρ := [some (.dat (.str s)), none]) chD (fun c => some (.bool (letB c || digB c))) s.cps.toList (fun c _ => ⟨[some (.dat (.str s)), some (.dat (chD c))], true, by simp [sizeLine_eq, startE, argA, bxIx, back, newC, notBor, bxAt, restE, noBx, lstB, lstAt, isNoD], by simp [sizeLine_eq, startE, argA, bxIx, back, newC, notBor, bxAt, restE, noBx, lstB, lstAt, isNoD], rfl, rfl, by
    have h1 := in_small c
    have h2 := in_digits c
    generalize chD c = x at *
    generalize letB c = b1 at *
    generalize digB c = b2 at *
    unfold M_is_named_1
    cases b1 <;> simp [sizeLine_eq, startE, argA, bxIx, back, newC, notBor, bxAt, restE, noBx, lstB, lstAt, isNoD, h1, h2]⟩) (by rw [sizeLine_eq]; have : s.cps.toList.length = s.length := rfl; omega)
  rw [filterMap_some] at this
  exact this
theorem number_lc (s : Str) (hz : s.length ≤ 10000000) : lcT (gnm 1) myes M_is_number_1 [1] (.items (s.cps.toList.map chD)) [some (.dat (.str s)), none] = some (.new (.lst (s.cps.toList.map fun c => .bool (digB c))), [some (.dat (.str s)), none]) := by
  have := lc_pure (g := gnm 1) (t := myes) (m := M_is_number_1) (vs := [1]) (ρ := [some (.dat (.str s)), none]) chD (fun c => some (.bool (digB c))) s.cps.toList (fun c _ => ⟨[some (.dat (.str s)), some (.dat (chD c))], true, by simp [sizeLine_eq, startE, argA, bxIx, back, newC, notBor, bxAt, restE, noBx, lstB, lstAt, isNoD], by simp [sizeLine_eq, startE, argA, bxIx, back, newC, notBor, bxAt, restE, noBx, lstB, lstAt, isNoD], rfl, rfl, by
    have h2 := in_digits c
    generalize chD c = x at *
    generalize digB c = b2 at *
    unfold M_is_number_1
    simp [sizeLine_eq, startE, argA, bxIx, back, newC, notBor, bxAt, restE, noBx, lstB, lstAt, isNoD, h2]⟩) (by rw [sizeLine_eq]; have : s.cps.toList.length = s.length := rfl; omega)
  rw [filterMap_some] at this
  exact this
theorem len_dec (n : Nat) (a b : Nat) : (decide ((a : Int) ≤ (n : Int)) && decide ((n : Int) ≤ (b : Int))) = (decide (a ≤ n) && decide (n ≤ b)) := by
  rw [Bool.eq_iff_iff]
  simp only [Bool.and_eq_true, decide_eq_true_eq]
  omega
theorem is_named_ok (s : Str) (hz : s.length ≤ 10000000) : p_is_named [.dat (.str s)] = some (.dat (.bool (nmS s)), [.dat (.str s)]) := by
  have i1 : inD (.str s) (.tuple [.str (Str.ofString "plain"), .str (Str.ofString "once"), .str (Str.ofString "record"), .str (Str.ofString "choice"), .str (Str.ofString "given"), .str (Str.ofString "def"), .str (Str.ofString "let"), .str (Str.ofString "open"), .str (Str.ofString "if"), .str (Str.ofString "else"), .str (Str.ofString "match"), .str (Str.ofString "repeat"), .str (Str.ofString "give"), .str (Str.ofString "true"), .str (Str.ofString "false"), .str (Str.ofString "num"), .str (Str.ofString "truth"), .str (Str.ofString "and")]) = some (.dat (.bool (decide (s ∈ kwL)))) := in_strsT s kwL
  have l1 := named_lc s hz
  have ha := all_bools (fun c => letB c || digB c) s.cps.toList
  have hsq := seq_str s
  have hlen : s.cps.toList.length = s.length := rfl
  have hl := len_str s hz
  have hch := chain_ok (g := leD) (g' := leD) (ma := mcon (.int 1)) (mb := mn lenD (mcons (mvar 0) mnil)) (mc := mcon (.int 20)) (ρ := [some (.dat (.str s)), none]) (a := .int 1) (b := .int s.length) (c := .int 20) (by simp [sizeLine_eq, startE, argA, bxIx, back, newC, notBor, bxAt, restE, noBx, lstB, lstAt, isNoD]) (by simp [sizeLine_eq, startE, argA, bxIx, back, newC, notBor, bxAt, restE, noBx, lstB, lstAt, isNoD, hl]) (by simp [sizeLine_eq, startE, argA, bxIx, back, newC, notBor, bxAt, restE, noBx, lstB, lstAt, isNoD]) rfl rfl
  have hd := len_dec s.length 1 20
  simp only [Int.natCast_one, Int.cast_ofNat_Int] at hd
  rw [hd] at hch
  unfold nmS
  rw [hlen]
  cases k3 : decide (1 ≤ s.length) && decide (s.length ≤ 20) with
  | false =>
    rw [k3] at hch
    rw [Bool.and_false, Bool.false_and, Bool.false_and]
    unfold p_is_named b_is_named
    simp [sizeLine_eq, startE, argA, bxIx, back, newC, notBor, bxAt, restE, noBx, lstB, lstAt, isNoD, hch]
  | true =>
    rw [k3] at hch
    obtain ⟨c, r, hc⟩ : ∃ c r, s.cps.toList = c :: r := by
      cases h : s.cps.toList with
      | nil => rw [h] at hlen; simp at hlen; simp [← hlen] at k3
      | cons c r => exact ⟨c, r, rfl⟩
    have ix := ix_str hc hz
    have h1 := in_small c
    have hh : hdB letB s.cps.toList = letB c := by rw [hc]; rfl
    rw [hh]
    have h2 : notInD (chD c) (.str (Str.ofString "abcdefghijklmnopqrstuvwxyz")) = some (.dat (.bool (!letB c))) := by
      unfold inD at h1
      unfold notInD
      cases hb : inB (chD c) (.str (Str.ofString "abcdefghijklmnopqrstuvwxyz")) with
      | none => rw [hb] at h1; cases h1
      | some b =>
        rw [hb] at h1
        injection h1 with h1
        injection h1 with h1
        injection h1 with h1
        rw [h1]
        rfl
    generalize chD c = x at *
    generalize letB c = b1 at *
    generalize decide (s ∈ kwL) = b2 at *
    generalize (s.cps.toList.all fun c => letB c || digB c) = b3 at *
    generalize (s.cps.toList.map fun c => PyData.bool (letB c || digB c)) = L at *
    generalize s.cps.toList.map chD = CH at *
    unfold p_is_named b_is_named
    cases b2 <;> cases b1 <;> simp [sizeLine_eq, startE, argA, bxIx, back, newC, notBor, bxAt, restE, noBx, lstB, lstAt, isNoD, hch, i1, ix, h2, hsq, l1, ha]
theorem is_number_ok (s : Str) (hz : s.length ≤ 10000000) : p_is_number [.dat (.str s)] = some (.dat (.bool (nuS s)), [.dat (.str s)]) := by
  have l1 := number_lc s hz
  have ha := all_bools digB s.cps.toList
  have hsq := seq_str s
  have hlen : s.cps.toList.length = s.length := rfl
  have hl := len_str s hz
  have hch := chain_ok (g := leD) (g' := leD) (ma := mcon (.int 1)) (mb := mn lenD (mcons (mvar 0) mnil)) (mc := mcon (.int 9)) (ρ := [some (.dat (.str s)), none]) (a := .int 1) (b := .int s.length) (c := .int 9) (by simp [sizeLine_eq, startE, argA, bxIx, back, newC, notBor, bxAt, restE, noBx, lstB, lstAt, isNoD]) (by simp [sizeLine_eq, startE, argA, bxIx, back, newC, notBor, bxAt, restE, noBx, lstB, lstAt, isNoD, hl]) (by simp [sizeLine_eq, startE, argA, bxIx, back, newC, notBor, bxAt, restE, noBx, lstB, lstAt, isNoD]) rfl rfl
  have hd := len_dec s.length 1 9
  simp only [Int.natCast_one, Int.cast_ofNat_Int] at hd
  rw [hd] at hch
  unfold nuS
  rw [hlen]
  cases k3 : decide (1 ≤ s.length) && decide (s.length ≤ 9) with
  | false =>
    rw [k3] at hch
    rw [Bool.false_and, Bool.false_and]
    unfold p_is_number b_is_number
    simp [sizeLine_eq, startE, argA, bxIx, back, newC, notBor, bxAt, restE, noBx, lstB, lstAt, isNoD, hch]
  | true =>
    rw [k3] at hch
    obtain ⟨c, r, hc⟩ : ∃ c r, s.cps.toList = c :: r := by
      cases h : s.cps.toList with
      | nil => rw [h] at hlen; simp at hlen; simp [← hlen] at k3
      | cons c r => exact ⟨c, r, rfl⟩
    have ix := ix_str hc hz
    have hh : hdB (fun c => !isZ c) s.cps.toList = !isZ c := by rw [hc]; rfl
    rw [hh, Bool.true_and]
    have n0 : neD (chD c) (.str (Str.ofString "0")) = some (.dat (.bool (!isZ c))) := by rfl
    generalize isZ c = b0 at *
    generalize s.cps.toList.all digB = b3 at *
    generalize (s.cps.toList.map fun c => PyData.bool (digB c)) = L at *
    generalize s.cps.toList.map chD = CH at *
    generalize chD c = x at *
    unfold p_is_number b_is_number
    cases b3 <;> cases hq : (s == Str.ofString "0") <;> simp [sizeLine_eq, startE, argA, bxIx, back, newC, notBor, bxAt, restE, noBx, lstB, lstAt, isNoD, hch, ix, hsq, l1, ha, hq, n0]
theorem sign_iff (s : Str) : ∃ b : Bool, inD (.str s) (.str (Str.ofString "{}(),:;=+<.")) = some (.dat (.bool b)) ∧ (((s.length : Int) == 1) && b) = decide (s ∈ sgL) := by
  refine ⟨_, rfl, ?_⟩
  by_cases h1 : s.cps.toList.length = 1
  · have h1' : ((s.length : Int) == 1) = true := by
      have : s.cps.toList.length = s.length := rfl
      rw [beq_iff_eq]; omega
    obtain ⟨c, hc⟩ := List.length_eq_one_iff.mp h1
    have hs : s = ⟨#[c]⟩ := by
      rw [str_cps s, hc]
    rw [h1', Bool.true_and, hs, PySem.StrLaws.found_one]
    rw [show (Str.ofString "{}(),:;=+<.").cps.toList = [123, 125, 40, 41, 44, 58, 59, 61, 43, 60, 46] by decide +kernel]
    rw [Bool.eq_iff_iff, decide_eq_true_eq, decide_eq_true_eq]
    have e : ∀ (k : Nat) (t : Str), t.cps.toList = [k] → ((⟨#[c]⟩ : Str) = t ↔ c = k) := fun k t ht => by
      constructor
      · rintro rfl
        have : [c] = [k] := ht
        cases this; rfl
      · rintro rfl
        rw [str_cps t, ht]
    unfold sgL
    simp only [List.mem_cons, List.not_mem_nil, or_false]
    rw [e 123 _ (by decide +kernel), e 125 _ (by decide +kernel), e 40 _ (by decide +kernel), e 41 _ (by decide +kernel), e 44 _ (by decide +kernel), e 58 _ (by decide +kernel), e 59 _ (by decide +kernel), e 61 _ (by decide +kernel), e 43 _ (by decide +kernel), e 60 _ (by decide +kernel), e 46 _ (by decide +kernel)]
  · have h1' : ((s.length : Int) == 1) = false := by
      have : s.cps.toList.length = s.length := rfl
      rw [beq_eq_false_iff_ne]; omega
    rw [h1', Bool.false_and]
    symm
    rw [decide_eq_false_iff_not]
    intro h
    apply h1
    unfold sgL at h
    simp only [List.mem_cons, List.not_mem_nil, or_false] at h
    rcases h with rfl | rfl | rfl | rfl | rfl | rfl | rfl | rfl | rfl | rfl | rfl <;> decide +kernel
theorem sort_of_word_ok (s : Str) (hz : s.length ≤ 10000000) : p_sort_of_word [.dat (.str s)] = some (.dat (sortD s), [.dat (.str s)]) := by
  have i1 : inD (.str s) (.tuple [.str (Str.ofString "plain"), .str (Str.ofString "once"), .str (Str.ofString "record"), .str (Str.ofString "choice"), .str (Str.ofString "given"), .str (Str.ofString "def"), .str (Str.ofString "let"), .str (Str.ofString "open"), .str (Str.ofString "if"), .str (Str.ofString "else"), .str (Str.ofString "match"), .str (Str.ofString "repeat"), .str (Str.ofString "give"), .str (Str.ofString "true"), .str (Str.ofString "false"), .str (Str.ofString "num"), .str (Str.ofString "truth"), .str (Str.ofString "and")]) = some (.dat (.bool (decide (s ∈ kwL)))) := in_strsT s kwL
  have hl := len_str s hz
  obtain ⟨bs, hbs, hb2⟩ := sign_iff s
  have hn := is_named_ok s hz
  have hb := is_number_ok s hz
  unfold sortD
  by_cases k1 : s ∈ kwL
  · rw [decide_eq_true k1] at i1
    rw [if_pos k1]
    unfold p_sort_of_word b_sort_of_word
    simp [sizeLine_eq, startE, argA, bxIx, back, newC, notBor, bxAt, restE, noBx, lstB, lstAt, isNoD, i1]
  rw [decide_eq_false k1] at i1
  rw [if_neg k1]
  by_cases k2 : s ∈ sgL
  · rw [decide_eq_true k2, Bool.and_eq_true] at hb2
    obtain ⟨k3, rfl⟩ := hb2
    rw [if_pos k2]
    unfold p_sort_of_word b_sort_of_word
    simp [sizeLine_eq, startE, argA, bxIx, back, newC, notBor, bxAt, restE, noBx, lstB, lstAt, isNoD, i1, hl, k3, hbs]
  rw [decide_eq_false k2] at hb2
  rw [if_neg k2]
  generalize nmS s = nm at *
  generalize nuS s = nu at *
  cases k3 : ((s.length : Int) == 1) <;> cases bs <;> cases nm <;> cases nu <;> first
    | (rw [k3] at hb2; exact absurd hb2 (by decide))
    | (unfold p_sort_of_word b_sort_of_word; simp [sizeLine_eq, startE, argA, bxIx, back, newC, notBor, bxAt, restE, noBx, lstB, lstAt, isNoD, i1, hl, k3, hbs, hn, hb])
end K00
namespace K00
open PySem PySem.Spec PyProof.Rows L3
def nfB : D → Bool
  | .dict ds => !isFnD ds
  | _ => true
theorem sort_eqn (s : Str) : eqD (sortD s) (.str (Str.ofString "name")) = some (.dat (.bool (nmS s))) := by
  unfold sortD
  by_cases k1 : s ∈ kwL
  · rw [if_pos k1]
    unfold nmS
    rw [decide_eq_true k1]
    rfl
  rw [if_neg k1]
  by_cases k2 : s ∈ sgL
  · rw [if_pos k2]
    have : nmS s = false := by unfold nmS; rw [sg_head k2]; simp
    rw [this]
    rfl
  rw [if_neg k2]
  cases nmS s with
  | true => rfl
  | false =>
    rw [if_neg (by decide)]
    cases nuS s with
    | true => rfl
    | false => exact eq_non
/-- whether a text is a word -/
def wdS (s : Str) : Bool := decide (s ∈ kwL) || decide (s ∈ sgL) || nmS s || nuS s
theorem sort_isn (s : Str) : isNotD (sortD s) .none = some (.dat (.bool (wdS s))) := by
  unfold sortD wdS
  by_cases k1 : s ∈ kwL
  · rw [if_pos k1, decide_eq_true k1]; simp [isNotD, isNoD]
  rw [if_neg k1, decide_eq_false k1]
  by_cases k2 : s ∈ sgL
  · rw [if_pos k2, decide_eq_true k2]; simp [isNotD, isNoD]
  rw [if_neg k2, decide_eq_false k2]
  cases nmS s <;> cases nuS s <;> simp [isNotD, isNoD]
def nmB : D → Bool
  | .str s => nmS s
  | _ => false
def ktS (s : Str) : Bool := decide (s ∈ [Str.ofString "num", Str.ofString "truth"])
def kdB : D → Bool
  | .str s => nmS s || ktS s
  | _ => false
/-- what may be asked of down to a depth -/
def Jd : Nat → D → Prop
  | 0, d => nfB d = true ∧ (∀ s, d = .str s → s.length ≤ 10000000) ∧ ∀ ds, d ≠ .tuple ds
  | n + 1, d => nfB d = true ∧ (∀ s, d = .str s → s.length ≤ 10000000) ∧ ∀ ds, d = .tuple ds → ds.length ≤ 10000000 ∧ ∀ e ∈ ds, Jd n e
theorem notFn_of {d : D} (h : nfB d = true) : notFn d = true := by
  cases d with
  | dict ds => unfold nfB at h; simp only [Bool.not_eq_true'] at h; exact notFn_dict h
  | _ => rfl
theorem Jd.fn {n : Nat} {d : D} (h : Jd n d) : nfB d = true := by cases n <;> exact h.1
theorem Jd.st {n : Nat} {s : Str} (h : Jd n (.str s)) : s.length ≤ 10000000 := by cases n <;> exact h.2.1 s rfl
theorem Jd.tup {n : Nat} {ds : List D} (h : Jd n (.tuple ds)) : ∃ m, n = m + 1 ∧ ds.length ≤ 10000000 ∧ ∀ e ∈ ds, Jd m e := by
  cases n with
  | zero => exact absurd rfl (h.2.2 ds)
  | succ m => exact ⟨m, rfl, h.2.2 ds rfl⟩
theorem Jd.up : ∀ {n : Nat} {d : D}, Jd n d → Jd (n + 1) d
  | 0, d, h => ⟨h.1, h.2.1, fun ds e => absurd e (h.2.2 ds)⟩
  | n + 1, d, h => ⟨h.1, h.2.1, fun ds e => ⟨(h.2.2 ds e).1, fun x hx => ((h.2.2 ds e).2 x hx).up⟩⟩
theorem Jd.mono {n m : Nat} {d : D} (h : Jd n d) (hm : n ≤ m) : Jd m d := by
  induction hm with
  | refl => exact h
  | step _ ih => exact ih.up
section
variable {n : Nat} {d : D}
theorem law_is_name_ok (h : Jd n d) : m_law_is_name [.dat d] = some (.dat (.bool (nmB d)), [.dat d]) := by
  have hf := h.fn
  cases d with
  | str s =>
    have h1 := law_sort_ok s h.st
    have h2 := sort_eqn s
    generalize sortD s = o at *
    unfold m_law_is_name b__law_is_name
    simp [sizeLine_eq, startE, argA, bxIx, back, newC, notBor, bxAt, restE, noBx, lstB, lstAt, isNoD, h1, h2, nmB]
  | dict kvs =>
    have : isFnD kvs = false := by simpa [nfB] using hf
    unfold m_law_is_name b__law_is_name
    simp [sizeLine_eq, startE, argA, bxIx, back, newC, notBor, bxAt, restE, noBx, lstB, lstAt, isNoD, nmB, this]
  | none => unfold m_law_is_name b__law_is_name; simp [sizeLine_eq, startE, argA, bxIx, back, newC, notBor, bxAt, restE, noBx, lstB, lstAt, isNoD, nmB]
  | bool _ => unfold m_law_is_name b__law_is_name; simp [sizeLine_eq, startE, argA, bxIx, back, newC, notBor, bxAt, restE, noBx, lstB, lstAt, isNoD, nmB]
  | int _ => unfold m_law_is_name b__law_is_name; simp [sizeLine_eq, startE, argA, bxIx, back, newC, notBor, bxAt, restE, noBx, lstB, lstAt, isNoD, nmB]
  | list _ => unfold m_law_is_name b__law_is_name; simp [sizeLine_eq, startE, argA, bxIx, back, newC, notBor, bxAt, restE, noBx, lstB, lstAt, isNoD, nmB]
  | tuple _ => unfold m_law_is_name b__law_is_name; simp [sizeLine_eq, startE, argA, bxIx, back, newC, notBor, bxAt, restE, noBx, lstB, lstAt, isNoD, nmB]
theorem is_name_ok (h : Jd n d) : p_is_name [.dat d] = some (.dat (.bool (nmB d)), [.dat d]) := by
  have hf := h.fn
  cases d with
  | str s =>
    have h1 := sort_of_word_ok s h.st
    have h2 := sort_eqn s
    generalize sortD s = o at *
    unfold p_is_name b_is_name
    simp [sizeLine_eq, startE, argA, bxIx, back, newC, notBor, bxAt, restE, noBx, lstB, lstAt, isNoD, h1, h2, nmB]
  | dict kvs =>
    have : isFnD kvs = false := by simpa [nfB] using hf
    unfold p_is_name b_is_name p_sort_of_word b_sort_of_word
    simp [sizeLine_eq, startE, argA, bxIx, back, newC, notBor, bxAt, restE, noBx, lstB, lstAt, isNoD, nmB, this, eq_non]
  | none => unfold p_is_name b_is_name p_sort_of_word b_sort_of_word; simp [sizeLine_eq, startE, argA, bxIx, back, newC, notBor, bxAt, restE, noBx, lstB, lstAt, isNoD, nmB, eq_non]
  | bool _ => unfold p_is_name b_is_name p_sort_of_word b_sort_of_word; simp [sizeLine_eq, startE, argA, bxIx, back, newC, notBor, bxAt, restE, noBx, lstB, lstAt, isNoD, nmB, eq_non]
  | int _ => unfold p_is_name b_is_name p_sort_of_word b_sort_of_word; simp [sizeLine_eq, startE, argA, bxIx, back, newC, notBor, bxAt, restE, noBx, lstB, lstAt, isNoD, nmB, eq_non]
  | list _ => unfold p_is_name b_is_name p_sort_of_word b_sort_of_word; simp [sizeLine_eq, startE, argA, bxIx, back, newC, notBor, bxAt, restE, noBx, lstB, lstAt, isNoD, nmB, eq_non]
  | tuple _ => unfold p_is_name b_is_name p_sort_of_word b_sort_of_word; simp [sizeLine_eq, startE, argA, bxIx, back, newC, notBor, bxAt, restE, noBx, lstB, lstAt, isNoD, nmB, eq_non]
theorem in_kt (s : Str) : inD (.str s) (.tuple [.str (Str.ofString "num"), .str (Str.ofString "truth")]) = some (.dat (.bool (ktS s))) := in_strsT s [Str.ofString "num", Str.ofString "truth"]
theorem law_is_kind_ok (h : Jd n d) : m_law_is_kind [.dat d] = some (.dat (.bool (kdB d)), [.dat d]) := by
  have hf := h.fn
  have h1 := law_is_name_ok h
  unfold m_law_is_kind b__law_is_kind
  cases d with
  | str s =>
    have h2 := in_kt s
    simp only [nmB] at h1
    rw [show kdB (.str s) = (nmS s || ktS s) from rfl]
    generalize nmS s = b1 at *
    generalize ktS s = b2 at *
    cases b1 <;> simp [sizeLine_eq, startE, argA, bxIx, back, newC, notBor, bxAt, restE, noBx, lstB, lstAt, isNoD, h1, h2]
  | dict kvs =>
    have : isFnD kvs = false := by simpa [nfB] using hf
    simp [sizeLine_eq, startE, argA, bxIx, back, newC, notBor, bxAt, restE, noBx, lstB, lstAt, isNoD, h1, nmB, kdB, this]
  | none => simp [sizeLine_eq, startE, argA, bxIx, back, newC, notBor, bxAt, restE, noBx, lstB, lstAt, isNoD, h1, nmB, kdB]
  | bool _ => simp [sizeLine_eq, startE, argA, bxIx, back, newC, notBor, bxAt, restE, noBx, lstB, lstAt, isNoD, h1, nmB, kdB]
  | int _ => simp [sizeLine_eq, startE, argA, bxIx, back, newC, notBor, bxAt, restE, noBx, lstB, lstAt, isNoD, h1, nmB, kdB]
  | list _ => simp [sizeLine_eq, startE, argA, bxIx, back, newC, notBor, bxAt, restE, noBx, lstB, lstAt, isNoD, h1, nmB, kdB]
  | tuple _ => simp [sizeLine_eq, startE, argA, bxIx, back, newC, notBor, bxAt, restE, noBx, lstB, lstAt, isNoD, h1, nmB, kdB]
theorem is_kind_ok (h : Jd n d) : p_is_kind [.dat d] = some (.dat (.bool (kdB d)), [.dat d]) := by
  have hf := h.fn
  have h1 := is_name_ok h
  unfold p_is_kind b_is_kind
  cases d with
  | str s =>
    have h2 := in_kt s
    simp only [nmB] at h1
    rw [show kdB (.str s) = (nmS s || ktS s) from rfl]
    generalize nmS s = b1 at *
    generalize ktS s = b2 at *
    cases b1 <;> simp [sizeLine_eq, startE, argA, bxIx, back, newC, notBor, bxAt, restE, noBx, lstB, lstAt, isNoD, h1, h2]
  | dict kvs =>
    have : isFnD kvs = false := by simpa [nfB] using hf
    simp [sizeLine_eq, startE, argA, bxIx, back, newC, notBor, bxAt, restE, noBx, lstB, lstAt, isNoD, h1, nmB, kdB, this]
  | none => simp [sizeLine_eq, startE, argA, bxIx, back, newC, notBor, bxAt, restE, noBx, lstB, lstAt, isNoD, h1, nmB, kdB]
  | bool _ => simp [sizeLine_eq, startE, argA, bxIx, back, newC, notBor, bxAt, restE, noBx, lstB, lstAt, isNoD, h1, nmB, kdB]
  | int _ => simp [sizeLine_eq, startE, argA, bxIx, back, newC, notBor, bxAt, restE, noBx, lstB, lstAt, isNoD, h1, nmB, kdB]
  | list _ => simp [sizeLine_eq, startE, argA, bxIx, back, newC, notBor, bxAt, restE, noBx, lstB, lstAt, isNoD, h1, nmB, kdB]
  | tuple _ => simp [sizeLine_eq, startE, argA, bxIx, back, newC, notBor, bxAt, restE, noBx, lstB, lstAt, isNoD, h1, nmB, kdB]
end
def isI : D → Bool
  | .int _ => true
  | _ => false
theorem law_is_int_ok {n : Nat} {d : D} (h : Jd n d) : m_law_is_int [.dat d] = some (.dat (.bool (isI d)), [.dat d]) := by
  have hf := h.fn
  unfold m_law_is_int b__law_is_int
  cases d with
  | dict kvs =>
    have : isFnD kvs = false := by simpa [nfB] using hf
    simp [sizeLine_eq, startE, argA, bxIx, back, newC, notBor, bxAt, restE, noBx, lstB, lstAt, isNoD, isI, this]
  | bool b => simp [sizeLine_eq, startE, argA, bxIx, back, newC, notBor, bxAt, restE, noBx, lstB, lstAt, isNoD, isI]
  | _ => simp [sizeLine_eq, startE, argA, bxIx, back, newC, notBor, bxAt, restE, noBx, lstB, lstAt, isNoD, isI]
theorem is_integer_ok {n : Nat} {d : D} (h : Jd n d) : p_is_integer [.dat d] = some (.dat (.bool (isI d)), [.dat d]) := by
  have hf := h.fn
  unfold p_is_integer b_is_integer
  cases d with
  | dict kvs =>
    have : isFnD kvs = false := by simpa [nfB] using hf
    simp [sizeLine_eq, startE, argA, bxIx, back, newC, notBor, bxAt, restE, noBx, lstB, lstAt, isNoD, isI, this]
  | bool b => simp [sizeLine_eq, startE, argA, bxIx, back, newC, notBor, bxAt, restE, noBx, lstB, lstAt, isNoD, isI]
  | _ => simp [sizeLine_eq, startE, argA, bxIx, back, newC, notBor, bxAt, restE, noBx, lstB, lstAt, isNoD, isI]
end K00
namespace K00
open PySem PySem.Spec PyProof.Rows L3
theorem pl_mem {n w : Nat} {ds : List D} (h : PlL n w ds) : ∀ d ∈ ds, Pl n (wX d) d := by
  intro d hd
  obtain ⟨i, hi, rfl⟩ := List.mem_iff_getElem.mp hd
  obtain ⟨x, g1, _⟩ := h.get (List.getElem?_eq_getElem hi)
  exact ⟨g1.ok, g1.nd, g1.nl, g1.dep, Nat.le_refl _⟩
theorem okX_mem : ∀ {ys : List D}, okXL ys = true → ∀ y ∈ ys, okX y = true ∧ wX y ≤ wXL ys
  | [], _, _, h => by cases h
  | d :: r, h, y, hy => by
    have h' : (okX d && okXL r) = true := h
    rw [Bool.and_eq_true] at h'
    rw [wXL]
    rcases List.mem_cons.mp hy with rfl | hy
    · exact ⟨h'.1, by omega⟩
    · obtain ⟨h1, h2⟩ := okX_mem h'.2 y hy
      exact ⟨h1, by omega⟩
theorem pl_tup {n w : Nat} {ys : List D} (hx : Pl n w (.tuple ys)) : ∃ m, n = m + 1 ∧ PlL m (wXL ys) ys ∧ wXL ys + 3 ≤ w := by
  have h1 := hx.ok
  have h2 := hx.nd
  have h3 := hx.nl
  have h4 := hx.dep
  have h5 := hx.wt
  rw [okX] at h1
  rw [PyData.hasDict] at h2
  rw [noLs] at h3
  rw [PyData.depth] at h4
  rw [wX] at h5
  obtain ⟨m, rfl⟩ : ∃ m, n = m + 1 := ⟨n - 1, by omega⟩
  exact ⟨m, rfl, ⟨⟨h1, h2, h3, by omega⟩, Nat.le_refl _⟩, by omega⟩
theorem jd_of : ∀ (n : Nat) {w : Nat} {d : D}, Pl n w d → w ≤ 10000000 → Jd n d
  | n, w, d, h, hw => by
    have hs : ∀ s, d = .str s → s.length ≤ 10000000 := fun s e => by
      subst e
      have := h.wt
      rw [wX] at this
      omega
    have hf : nfB d = true := by
      cases d with
      | dict kvs => have := h.nd; rw [PyData.hasDict] at this; cases this
      | _ => rfl
    cases n with
    | zero =>
      refine ⟨hf, hs, fun ds e => ?_⟩
      subst e
      obtain ⟨m, hm, _⟩ := pl_tup h
      cases hm
    | succ n =>
      refine ⟨hf, hs, fun ds e => ?_⟩
      subst e
      obtain ⟨m, hm, hp, hl⟩ := pl_tup h
      cases hm
      refine ⟨Nat.le_trans (len_wX ds) (by omega), fun x hx => ?_⟩
      exact jd_of n (pl_mem hp x hx) (by have := (okX_mem hp.1.1 x hx).2; omega)
mutual
def smX : D → Bool
  | .int i => decide (i.natAbs < 10 ^ 30)
  | .str s => decide (s.length ≤ 2000)
  | .tuple xs => smXL xs
  | .none => true
  | .bool _ => true
  | .list _ => true
  | .dict _ => true
def smXL : List D → Bool
  | [] => true
  | x :: xs => smX x && smXL xs
end
theorem smXL_mem : ∀ {ys : List D}, smXL ys = true ↔ ∀ y ∈ ys, smX y = true
  | [] => by simp [smXL]
  | d :: r => by
    have ih := smXL_mem (ys := r)
    rw [smXL, Bool.and_eq_true, ih]
    simp
theorem sm_tup {ys : List D} (h : ∀ y ∈ ys, smX y = true) : smX (.tuple ys) = true := by rw [smX]; exact smXL_mem.mpr h
end K00
namespace K00
open PySem PySem.Spec PyProof.Rows L3
def oddL : List D := [.none, .bool true, .bool false, .int 0, .int 1, .int (-1), .int 7, .int 1000000000000000000000000000000000000000, .str (Str.ofString ""), .str (Str.ofString "a"), .str (Str.ofString "num"), .str (Str.ofString "x1"), .str (Str.ofString "{"), .tuple [], .list [], .dict [], .tuple [.str (Str.ofString "num"), .int 1],
  .tuple [.str (Str.ofString "name"), .str (Str.ofString "a")], .list [.str (Str.ofString "a")], .dict [(.str (Str.ofString "a"), .int 1)], .tuple [.str (Str.ofString "give")], .tuple [.tuple [.str (Str.ofString "give"), .tuple [.str (Str.ofString "num"), .int 1]]], .tuple [.str (Str.ofString "plain"), .str (Str.ofString "a")], .str (Str.ofString "X"), .str (Str.ofString "a b"), .tuple [.str (Str.ofString "num"), .bool true]]
theorem odd_tm : ∀ d ∈ oddL, Tm 3 1000 d := by
  have h : oddL.all (fun d => okX d && (!d.hasDict || noLs d) && decide (d.depth ≤ 3) && decide (wX d ≤ 1000)) = true := by decide +kernel
  intro d hd
  have := List.all_eq_true.mp h d hd
  simp only [Bool.and_eq_true, Bool.or_eq_true, decide_eq_true_eq, Bool.not_eq_true'] at this
  exact ⟨this.1.1.1, this.1.1.2, this.1.2, this.2⟩
theorem pow39 : powD (.int 10) (.int 39) = some (.dat (.int 1000000000000000000000000000000000000000)) := by
  unfold powD
  simp only []
  rw [if_pos (by decide)]
  rfl
def jB : Nat → D → Bool
  | _, .dict kvs => !isFnD kvs
  | _, .str s => decide (s.length ≤ 10000000)
  | 0, .tuple _ => false
  | n + 1, .tuple ds => decide (ds.length ≤ 10000000) && ds.all (jB n)
  | _, _ => true
theorem jB_ok : ∀ (n : Nat) (d : D), jB n d = true → Jd n d
  | 0, d, h => by
    refine ⟨?_, fun s e => ?_, fun ds e => ?_⟩
    · cases d with
      | dict kvs => simpa [jB, nfB] using h
      | _ => rfl
    · subst e; simpa [jB, nfB] using h
    · subst e; cases h
  | n + 1, d, h => by
    refine ⟨?_, fun s e => ?_, fun ds e => ?_⟩
    · cases d with
      | dict kvs => simpa [jB, nfB] using h
      | _ => rfl
    · subst e; simpa [jB, nfB] using h
    · subst e
      have h : (decide (ds.length ≤ 10000000) && ds.all (jB n)) = true := h
      rw [Bool.and_eq_true, decide_eq_true_eq] at h
      exact ⟨h.1, fun x hx => jB_ok n x (List.all_eq_true.mp h.2 x hx)⟩
/-- shown, and asked of -/
structure TJ (n w : Nat) (d : D) : Prop where
  tm : Tm n w d
  jd : Jd n d
theorem TJ.mono {n w m v : Nat} {d : D} (h : TJ n w d) (a : n ≤ m) (b : w ≤ v) : TJ m v d := ⟨h.tm.mono a b, h.jd.mono a⟩
theorem tj_pl {n w : Nat} {d : D} (h : Pl n w d) (hw : w ≤ 10000000) : TJ n w d := ⟨h.tm, jd_of n h hw⟩
theorem odd_tj : ∀ d ∈ oddL, TJ 3 1000 d := by
  have h : oddL.all (jB 3) = true := by decide +kernel
  exact fun d hd => ⟨odd_tm d hd, jB_ok 3 d (List.all_eq_true.mp h d hd)⟩
theorem odd_ok {bag : List D} (hb : BagOk bag) : ∃ d bag', m_law_odd [.box false (.lst bag)] = some (.dat d, [.box false (.lst bag')]) ∧ BagOk bag' ∧ TJ 3 1000 d := by
  obtain ⟨d, bag', h1, h2, h3⟩ := some_ok hb (x := .dat (.list oddL)) (ds := oddL) (.inl rfl) (by simp [oddL]) (by decide)
  refine ⟨d, bag', ?_, h3, odd_tj d h2⟩
  unfold m_law_odd b__law_odd
  have e := pow39
  unfold oddL at h1
  have d0 : dkv [] = [] := rfl
  have d1 : dkv (mergeKD [] [(.inr (Str.ofString "a"), .int 1)]) = [(.str (Str.ofString "a"), .int 1)] := rfl
  simp [sizeLine_eq, startE, argA, bxIx, back, newC, notBor, bxAt, restE, noBx, lstB, lstAt, isNoD, e, addL, d0, d1, h1]
theorem cutS_ok {x : Str} (h : PyData.strOk x = true) (lo hi : Option Int) : PyData.strOk (L2.cutS x lo hi) = true ∧ (L2.cutS x lo hi).length ≤ x.length := by
  unfold L2.cutS PyData.strOk at *
  rw [← Array.all_toList, List.all_eq_true] at *
  refine ⟨fun c hc => h c (List.mem_of_mem_drop (List.mem_of_mem_take hc)), ?_⟩
  show (List.toArray _).size ≤ x.cps.size
  rw [List.size_toArray, List.length_take, List.length_drop, Array.length_toList]
  have : x.length = x.cps.size := rfl
  omega
theorem strOk_app {x y : Str} (h : PyData.strOk x = true) (h2 : PyData.strOk y = true) : PyData.strOk (x ++ y) = true := by
  unfold PyData.strOk at *
  rw [← Array.all_toList, List.all_eq_true] at *
  intro c hc
  have e : (x ++ y).cps = x.cps ++ y.cps := rfl
  rw [e, Array.toList_append] at hc
  rcases List.mem_append.mp hc with hc | hc
  · exact h c hc
  · exact h2 c hc
theorem tm_str {x : Str} {w : Nat} (h : PyData.strOk x = true) (hl : 10 * x.length + 2 ≤ w) : Tm 0 w (.str x) := ⟨h, .inl rfl, Nat.le_refl _, hl⟩
theorem tm_int {i : Int} {w : Nat} (h : i.natAbs < 10 ^ 60) (hl : 61 ≤ w) : Tm 0 w (.int i) := ⟨by show decide _ = true; exact decide_eq_true h, .inl rfl, Nat.le_refl _, hl⟩
theorem tm_bool {b : Bool} {w : Nat} (hl : 5 ≤ w) : Tm 0 w (.bool b) := ⟨rfl, .inl rfl, Nat.le_refl _, hl⟩
theorem x21 : mulSD (.str (Str.ofString "x")) (.int 21) = some (.dat (.str (repS (Str.ofString "x") 21))) ∧ mulSD (.str (Str.ofString "x")) (.int 20) = some (.dat (.str (repS (Str.ofString "x") 20))) := by
  constructor <;>
  · unfold mulSD
    simp only []
    rw [if_pos (by decide +kernel)]
    rfl
theorem x21_ok : (PyData.strOk (repS (Str.ofString "x") 21) = true ∧ (repS (Str.ofString "x") 21).length ≤ 21) ∧ (PyData.strOk (repS (Str.ofString "x") 20) = true ∧ (repS (Str.ofString "x") 20).length ≤ 21) := by decide +kernel
theorem strOk_int (i : Int) : PyData.strOk (Str.ofString (toString i)) = true := by
  unfold PyData.strOk
  rw [← Array.all_toList, List.all_eq_true]
  intro c hc
  rw [decide_eq_true_eq]
  rw [Str.ofString_eq_toList] at hc
  obtain ⟨x, _, rfl⟩ := List.mem_map.mp (by simpa using hc)
  exact x.valid.elim (fun h => by have : x.toNat = x.val.toNat := rfl; omega) fun h => by have : x.toNat = x.val.toNat := rfl; omega
theorem tj_str {x : Str} {w : Nat} (h : PyData.strOk x = true) (hl : 10 * x.length + 2 ≤ w) (hw : w ≤ 100000) : TJ 3 w (.str x) := ⟨(tm_str h hl).mono (by decide) (Nat.le_refl _), (show Jd 0 (.str x) from ⟨rfl, fun s e => by cases e; omega, nofun⟩).mono (by decide)⟩
theorem tj_int {i : Int} {w : Nat} (h : i.natAbs < 10 ^ 60) (hl : 61 ≤ w) : TJ 3 w (.int i) := ⟨(tm_int h hl).mono (by decide) (Nat.le_refl _), (show Jd 0 (.int i) from ⟨rfl, nofun, nofun⟩).mono (by decide)⟩
theorem tj_bool {b : Bool} {w : Nat} (hl : 5 ≤ w) : TJ 3 w (.bool b) := ⟨(tm_bool hl).mono (by decide) (Nat.le_refl _), (show Jd 0 (.bool b) from ⟨rfl, nofun, nofun⟩).mono (by decide)⟩
theorem be_succ (f : Nat) : m_law_bent (f + 1) = mdef 6 (b__law_bent (m_law_bent f)) := rfl
theorem leaf_str {bag : List D} (hb : BagOk bag) {x : Str} (hx : PyData.strOk x = true) (hl : x.length ≤ 2000) (f : Nat) (k : Int) :
    ∃ d bag', m_law_bent (f + 1) [.box false (.lst bag), .dat (.str x), .dat (.int k)] = some (.dat d, [.box false (.lst bag'), .dat (.str x), .dat (.int k)]) ∧ BagOk bag' ∧ TJ 3 (10 * x.length + 1000) d := by
  obtain ⟨v, bag1, t1, t2, t3, t4⟩ := take_ok hb 3 (by decide) (by decide)
  have hi : m_law_is_int [.dat (.str x)] = some (.dat (.bool false), [.dat (.str x)]) := law_is_int_ok (n := 0) (d := .str x) ⟨rfl, fun s e => by cases e; omega, nofun⟩
  rw [be_succ]
  unfold b__law_bent
  by_cases hv : 0 < v
  · obtain ⟨e1, e2⟩ := x21
    obtain ⟨⟨o1, l1⟩, o2, l2⟩ := x21_ok
    generalize hA : repS (Str.ofString "x") 21 = sA at *
    generalize hB : repS (Str.ofString "x") 20 = sB at *
    have n1 : (Str.ofString "\n").length = 1 := by decide +kernel
    have a1 := addSt x (Str.ofString "1") (by have : (Str.ofString "1").length = 1 := rfl; omega)
    have a2 := addSt x (Str.ofString "_") (by have : (Str.ofString "_").length = 1 := rfl; omega)
    have a3 := addSt x (Str.ofString "\n") (by omega)
    have a4 := addSt (Str.ofString "\n") x (by omega)
    have hz : x.length ≤ 16777216 := by omega
    have c1 : slD (.str x) none (some (-1)) = some (.dat (.str (L2.cutS x none (some (-1))))) := by
      unfold slD
      simp only []
      rw [if_pos (by rw [sizeLine_eq]; exact hz)]
    obtain ⟨d, bag', h1, h2, h3⟩ := some_ok t2 (x := .dat (.list [.str (Str.ofString "num"), .str (Str.ofString "truth"), .str (Str.ofString "a"), .str (Str.ofString ""), .str (Str.ofString "A"), .str (Str.ofString "give"), .str (Str.ofString "1"), .str (x ++ Str.ofString "1"), .str (L2.cutS x none (some (-1))), .str (x ++ Str.ofString "_"), .str sA, .str sB, .str (x ++ Str.ofString "\n"), .str (x ++ Str.ofString "\n"), .str (Str.ofString "\n" ++ x)])) (.inl rfl) (by simp) (by simp)
    refine ⟨d, bag', ?_, h3, ?_⟩
    · simp [sizeLine_eq, startE, argA, bxIx, back, newC, notBor, bxAt, restE, noBx, lstB, lstAt, isNoD, t1, hv, e1, e2, a1, a2, a3, a4, c1, addL, h1]
    · have s1 : PyData.strOk (Str.ofString "1") = true := by decide +kernel
      have s2 : PyData.strOk (Str.ofString "_") = true := by decide +kernel
      have s3 : PyData.strOk (Str.ofString "\n") = true := by decide +kernel
      have q1 : (x ++ Str.ofString "1").length = x.length + 1 := by rw [strLen_append]; rfl
      have q2 : (x ++ Str.ofString "_").length = x.length + 1 := by rw [strLen_append]; rfl
      have q3 : (x ++ Str.ofString "\n").length = x.length + 1 := by rw [strLen_append, n1]
      have q4 : (Str.ofString "\n" ++ x).length = 1 + x.length := by rw [strLen_append, n1]
      obtain ⟨c2, c3⟩ := cutS_ok hx none (some (-1))
      simp only [List.mem_cons, List.not_mem_nil, or_false] at h2
      have w7 : ∀ s : Str, (PyData.strOk s && decide (s.length ≤ 20)) = true → TJ 3 (10 * x.length + 1000) (.str s) := fun s hs => by
        rw [Bool.and_eq_true, decide_eq_true_eq] at hs
        exact tj_str hs.1 (by omega) (by omega)
      rcases h2 with rfl | rfl | rfl | rfl | rfl | rfl | rfl | rfl | rfl | rfl | rfl | rfl | rfl | rfl | rfl
      · exact w7 _ (by decide +kernel)
      · exact w7 _ (by decide +kernel)
      · exact w7 _ (by decide +kernel)
      · exact w7 _ (by decide +kernel)
      · exact w7 _ (by decide +kernel)
      · exact w7 _ (by decide +kernel)
      · exact w7 _ (by decide +kernel)
      · exact tj_str (strOk_app hx s1) (by omega) (by omega)
      · exact tj_str c2 (by omega) (by omega)
      · exact tj_str (strOk_app hx s2) (by omega) (by omega)
      · exact tj_str o1 (by omega) (by omega)
      · exact tj_str o2 (by omega) (by omega)
      · exact tj_str (strOk_app hx s3) (by omega) (by omega)
      · exact tj_str (strOk_app hx s3) (by omega) (by omega)
      · exact tj_str (strOk_app s3 hx) (by omega) (by omega)
  · obtain ⟨d, bag', h1, h2, h3⟩ := odd_ok t2
    refine ⟨d, bag', ?_, h2, h3.mono (Nat.le_refl _) (by omega)⟩
    simp [sizeLine_eq, startE, argA, bxIx, back, newC, notBor, bxAt, restE, noBx, lstB, lstAt, isNoD, t1, hv, hi, h1]
theorem leaf_int {bag : List D} (hb : BagOk bag) {i : Int} (h0 : i.natAbs < 10 ^ 30) (f : Nat) (k : Int) :
    ∃ d bag', m_law_bent (f + 1) [.box false (.lst bag), .dat (.int i), .dat (.int k)] = some (.dat d, [.box false (.lst bag'), .dat (.int i), .dat (.int k)]) ∧ BagOk bag' ∧ TJ 3 1000 d := by
  obtain ⟨v, bag1, t1, t2, t3, t4⟩ := take_ok hb 3 (by decide) (by decide)
  have hi : m_law_is_int [.dat (.int i)] = some (.dat (.bool true), [.dat (.int i)]) := law_is_int_ok (n := 0) (d := .int i) ⟨rfl, nofun, nofun⟩
  rw [be_succ]
  unfold b__law_bent
  by_cases hv : 0 < v
  · have h30 : (10 : Nat) ^ 30 + 1 < 10 ^ 60 := by decide +kernel
    have hs : strD [.int i] = some (.dat (.str (toString i))) := by
      unfold strD
      simp only []
      rw [if_pos]
      by_cases h0 : i.natAbs = 0
      · rw [h0]; decide
      · have h2 : (10 : Nat) ^ 60 ≤ 2 ^ 200 := by decide +kernel
        have := (Nat.log2_lt h0 (k := 200)).mpr (by omega)
        omega
    have hp : i.natAbs < 10 ^ 60 := by omega
    have hsl : (Str.ofString (toString i)).length ≤ 61 := by
      rw [PySem.ofString_length]
      exact int_text_length_le10 (by decide) hp
    have hso : PyData.strOk (Str.ofString (toString i)) = true := strOk_int i
    obtain ⟨d, bag', h1, h2, h3⟩ := some_ok t2 (x := .dat (.list [.int (i + 1), .int (0 - i), .bool (i == 1), .str (Str.ofString (toString i)), .int 999999999, .int 1000000000, .int (-1)])) (.inl rfl) (by simp) (by simp)
    refine ⟨d, bag', ?_, h3, ?_⟩
    · simp at h1
      simp [sizeLine_eq, startE, argA, bxIx, back, newC, notBor, bxAt, restE, noBx, lstB, lstAt, isNoD, t1, hv, hi, hs, h1]
    · simp only [List.mem_cons, List.not_mem_nil, or_false] at h2
      have hb60 : (1000000001 : Nat) ≤ 10 ^ 60 := by decide +kernel
      rcases h2 with rfl | rfl | rfl | rfl | rfl | rfl | rfl
      · exact tj_int (by omega) (by decide)
      · exact tj_int (by omega) (by decide)
      · exact tj_bool (by decide)
      · exact tj_str hso (by omega) (by decide)
      · exact tj_int (by omega) (by decide)
      · exact tj_int (by omega) (by decide)
      · exact tj_int (by omega) (by decide)
  · obtain ⟨d, bag', h1, h2, h3⟩ := odd_ok t2
    refine ⟨d, bag', ?_, h2, h3⟩
    simp [sizeLine_eq, startE, argA, bxIx, back, newC, notBor, bxAt, restE, noBx, lstB, lstAt, isNoD, t1, hv, hi, h1]
end K00
namespace K00
open PySem PySem.Spec PyProof.Rows L3
def BJ (n w : Nat) (r : R) : Prop := ∃ d, (r = .dat d ∨ ∃ l, r = .new (.lst l) ∧ d = .list l) ∧ Tm n w d ∧ Jd n d
theorem jd_list (n : Nat) (ds : List D) : Jd n (.list ds) := (show Jd 0 (.list ds) from ⟨rfl, nofun, nofun⟩).mono (Nat.zero_le n)
theorem jd_tup {n : Nat} {ds : List D} (hl : ds.length ≤ 10000000) (h : ∀ d ∈ ds, Jd n d) : Jd (n + 1) (.tuple ds) := ⟨rfl, nofun, fun es e => by cases e; exact ⟨hl, h⟩⟩
theorem jd_pl {n w : Nat} {ds : List D} (h : PlL n w ds) (hw : w ≤ 10000000) : ∀ d ∈ ds, Jd n d := fun d hd => jd_of n (pl_mem h d hd) (by have := (okX_mem h.1.1 d hd).2; have := h.2; omega)
theorem jd_app {n m v w : Nat} {a b : List D} (h : PlL n v a) (t : PlL n w b) (hs : v + w ≤ 9900000) (hm : n + 1 ≤ m) : Jd m (.tuple (a ++ b)) := by
  refine (jd_tup ?_ fun d hd => ?_).mono hm
  · rw [List.length_append]
    have h1 := Nat.le_trans (len_wX a) h.2
    have h2 := Nat.le_trans (len_wX b) t.2
    omega
  · rcases List.mem_append.mp hd with hd | hd
    · exact jd_pl h (by omega) d hd
    · exact jd_pl t (by omega) d hd
theorem jd_mid {n k m v w : Nat} {a b : List D} {d : D} (h : PlL n v a) (t : PlL n w b) (hd : Jd k d) (hs : v + w ≤ 9900000) (h1 : n + 1 ≤ m) (h2 : k + 1 ≤ m) : Jd m (.tuple (a ++ [d] ++ b)) := by
  obtain ⟨m, rfl⟩ : ∃ j, m = j + 1 := ⟨m - 1, by omega⟩
  refine jd_tup ?_ fun y hy => ?_
  · rw [List.length_append, List.length_append, List.length_singleton]
    have h1 := Nat.le_trans (len_wX a) h.2
    have h2 := Nat.le_trans (len_wX b) t.2
    omega
  · rcases List.mem_append.mp hy with hy | hy
    · rcases List.mem_append.mp hy with hy | hy
      · exact (jd_pl h (by omega) y hy).mono (by omega)
      · rw [List.mem_singleton.mp hy]; exact hd.mono (by omega)
    · exact (jd_pl t (by omega) y hy).mono (by omega)
/-- an odd value in its place -/
theorem bent_odd {bag : List D} (hb : BagOk bag) {x : D} {n : Nat} (hj : Jd n x) (hs : isTy "str" x = false) (hi : isI x = false) {k : Int} (h : isTy "tuple" x = false ∨ x = .tuple [] ∨ k = 0) (f : Nat) :
    ∃ d bag', m_law_bent (f + 1) [.box false (.lst bag), .dat x, .dat (.int k)] = some (.dat d, [.box false (.lst bag'), .dat x, .dat (.int k)]) ∧ BagOk bag' ∧ TJ 3 1000 d := by
  obtain ⟨d, bag', h1, h2, h3⟩ := odd_ok hb
  have hli := law_is_int_ok hj
  rw [hi] at hli
  refine ⟨d, bag', ?_, h2, h3⟩
  rw [be_succ]
  have hnf := notFn_of hj.fn
  cases ht : isTy "tuple" x with
  | false =>
    unfold b__law_bent
    simp [sizeLine_eq, startE, argA, bxIx, back, newC, notBor, bxAt, restE, noBx, lstB, lstAt, isNoD, ht, hs, hnf, hli, h1]
  | true =>
    cases x with
    | tuple ds =>
      have he := eqD_tnil ds
      rcases h with h | h | rfl
      · cases ht.symm.trans h
      · cases h
        simp at he
        unfold b__law_bent
        simp [sizeLine_eq, startE, argA, bxIx, back, newC, notBor, bxAt, restE, noBx, lstB, lstAt, isNoD, he, hli, h1]
      · generalize ds.isEmpty = be at *
        unfold b__law_bent
        cases be <;> simp [sizeLine_eq, startE, argA, bxIx, back, newC, notBor, bxAt, restE, noBx, lstB, lstAt, isNoD, he, hli, h1]
    | none => cases ht
    | bool _ => cases ht
    | int _ => cases ht
    | str _ => cases ht
    | list _ => cases ht
    | dict _ => simp at ht
theorem bent_tup {bag : List D} (hb : BagOk bag) {n m w : Nat} {ds : List D} (hp : PlL n w ds) (hne : ds ≠ []) (hn : n ≤ 60) (hw : w ≤ 4900000) (f k : Nat)
    (ih : ∀ d ∈ ds, ∀ bag, BagOk bag → ∃ r bag', m_law_bent f [.box false (.lst bag), .dat d, .dat (.int (k : Int))] = some (r, [.box false (.lst bag'), .dat d, .dat (.int (k : Int))]) ∧ BagOk bag' ∧ BJ m (2 * wX d + 2000) r) :
    ∃ r bag', m_law_bent (f + 1) [.box false (.lst bag), .dat (.tuple ds), .dat (.int ((k : Int) + 1))] = some (r, [.box false (.lst bag'), .dat (.tuple ds), .dat (.int ((k : Int) + 1))]) ∧ BagOk bag' ∧ BJ (max n (max m 3) + 1) (2 * (w + 3) + 2000) r := by
  have hl : ds.length ≤ 4900000 := Nat.le_trans (len_wX ds) (Nat.le_trans hp.2 hw)
  have hpos : 0 < ds.length := List.length_pos_iff.mpr hne
  have hem : ds.isEmpty = false := by cases ds with | nil => exact absurd rfl hne | cons _ _ => rfl
  have he := eqD_tnil ds
  rw [hem] at he
  have hk1 : (((k : Int) + 1) == 0) = false := by rw [beq_eq_false_iff_ne]; omega
  obtain ⟨v, bag1, t1, t2, t3, t4⟩ := take_ok hb 12 (by decide) (by decide)
  obtain ⟨u, bag2, u1, u2, u3, u4⟩ := take_ok t2 (ds.length : Int) (by omega) (by omega)
  obtain ⟨i, rfl⟩ := Int.eq_ofNat_of_zero_le u3
  have hi : i < ds.length := by omega
  have cA := cutA ds i
  have cB := cutB ds i
  have cB1 : cutL ds (some ((i : Int) + 1)) none = ds.drop (i + 1) := cutB ds (i + 1)
  have cC := cutC ds i hi
  have hat : L2.atI ds (i : Int) = some ds[i] := L2.atI_nat (List.getElem?_eq_getElem hi)
  obtain ⟨x, g1, g2, a, b, g3, g4, g5⟩ := hp.get (List.getElem?_eq_getElem hi)
  have lt : (ds.take i).length ≤ 4900000 := by rw [List.length_take]; omega
  have ld : (ds.drop i).length ≤ 4900000 := by rw [List.length_drop]; omega
  have ld1 : (ds.drop (i + 1)).length ≤ 4900000 := by rw [List.length_drop]; omega
  by_cases v0 : v = 0
  · subst v0
    refine ⟨.new (.lst ds), bag2, ?_, u2, .list ds, .inr ⟨_, rfl, rfl⟩, (hp.lst).mono (by omega) (by omega), jd_list _ _⟩
    unfold m_law_bent b__law_bent
    simp [sizeLine_eq, startE, argA, bxIx, back, newC, notBor, bxAt, restE, noBx, lstB, lstAt, isNoD, he, hk1, t1, u1]
  · have w0 : (v == 0) = false := by rw [beq_eq_false_iff_ne]; exact v0
    by_cases v1 : v = 1
    · subst v1
      have e := addTu (ds.take i) (ds.drop (i + 1)) (by omega)
      refine ⟨.dat (.tuple (ds.take i ++ ds.drop (i + 1))), bag2, ?_, u2, _, .inl rfl, (g4.app g5).tup.tm.mono (by omega) (by omega), jd_app g4 g5 (by omega) (by omega)⟩
      unfold m_law_bent b__law_bent
      generalize ds.take i = p1 at *
      generalize ds.drop (i + 1) = p2 at *
      simp [sizeLine_eq, startE, argA, bxIx, back, newC, notBor, bxAt, restE, noBx, lstB, lstAt, isNoD, he, hk1, t1, u1, cA, cB1, e]
    · have w1 : (v == 1) = false := by rw [beq_eq_false_iff_ne]; exact v1
      by_cases v2 : v = 2
      · subst v2
        obtain ⟨o, bag3, o1, o2, o3⟩ := odd_ok u2
        have e1 := addTu (ds.take i) [o] (by rw [List.length_singleton]; omega)
        have e2 := addTu (ds.take i ++ [o]) (ds.drop i) (by rw [List.length_append, List.length_singleton]; omega)
        have g6 : PlL n (x + 2 + b) (ds.drop i) := by rw [g2]; exact g5.cons g1
        refine ⟨.dat (.tuple (ds.take i ++ [o] ++ ds.drop i)), bag3, ?_, o2, _, .inl rfl, (g4.mid o3.tm g6).tup.mono (by omega) (by omega), jd_mid g4 g6 o3.jd (by omega) (by omega) (by omega)⟩
        unfold m_law_bent b__law_bent
        generalize ds.take i ++ [o] ++ ds.drop i = p3 at *
        generalize ds.take i ++ [o] = p4 at *
        generalize ds.take i = p1 at *
        generalize ds.drop i = p2 at *
        simp [sizeLine_eq, startE, argA, bxIx, back, newC, notBor, bxAt, restE, noBx, lstB, lstAt, isNoD, he, hk1, t1, u1, cA, cB, o1, e1, e2]
      · have w2 : (v == 2) = false := by rw [beq_eq_false_iff_ne]; exact v2
        by_cases v3 : v = 3
        · subst v3
          have e1 := addTu (ds.take i) [ds[i]] (by rw [List.length_singleton]; omega)
          have e2 := addTu (ds.take i ++ [ds[i]]) (ds.drop i) (by rw [List.length_append, List.length_singleton]; omega)
          have g6 : PlL n (x + 2 + b) (ds.drop i) := by rw [g2]; exact g5.cons g1
          refine ⟨.dat (.tuple (ds.take i ++ [ds[i]] ++ ds.drop i)), bag2, ?_, u2, _, .inl rfl, (g4.mid g1.tm g6).tup.mono (by omega) (by omega), jd_mid g4 g6 (jd_of n g1 (by omega)) (by omega) (by omega) (by omega)⟩
          unfold m_law_bent b__law_bent
          generalize ds.take i ++ [ds[i]] ++ ds.drop i = p3 at *
          generalize ds.take i ++ [ds[i]] = p4 at *
          generalize ds.take i = p1 at *
          generalize ds.drop i = p2 at *
          simp [sizeLine_eq, startE, argA, bxIx, back, newC, notBor, bxAt, restE, noBx, lstB, lstAt, isNoD, he, hk1, t1, u1, cA, cB, cC, e1, e2]
        · have w3 : (v == 3) = false := by rw [beq_eq_false_iff_ne]; exact v3
          obtain ⟨r, bag3, o1, o2, d', o3, o4, o5⟩ := ih ds[i] (List.getElem_mem hi) bag2 u2
          have e1 := addTu (ds.take i) [d'] (by rw [List.length_singleton]; omega)
          have e2 := addTu (ds.take i ++ [d']) (ds.drop (i + 1)) (by rw [List.length_append, List.length_singleton]; omega)
          have gw := g1.wt
          refine ⟨.dat (.tuple (ds.take i ++ [d'] ++ ds.drop (i + 1))), bag3, ?_, o2, _, .inl rfl, (g4.mid (o4.mono (Nat.le_refl _) (show 2 * wX ds[i] + 2000 ≤ 2 * x + 2000 by omega)) g5).tup.mono (by omega) (by omega), jd_mid g4 g5 o5 (by omega) (by omega) (by omega)⟩
          unfold m_law_bent b__law_bent
          generalize ds.take i ++ [d'] ++ ds.drop (i + 1) = p3 at *
          generalize ds.take i ++ [d'] = p4 at *
          generalize ds.take i = p1 at *
          generalize ds.drop (i + 1) = p2 at *
          generalize ds[i] = di at *
          rcases o3 with rfl | ⟨l, rfl, rfl⟩ <;>
            simp [sizeLine_eq, startE, argA, bxIx, back, newC, notBor, bxAt, restE, noBx, lstB, lstAt, isNoD, he, hk1, t1, u1, w0, w1, w2, w3, cA, cB1, hat, o1, e1, e2]
theorem bent_ok : ∀ (k n : Nat) (x : D), Pl n (wX x) x → wX x ≤ 4900000 → smX x = true → n ≤ 50 → ∀ bag, BagOk bag → ∀ f, k + 1 ≤ f → ∃ r bag', m_law_bent f [.box false (.lst bag), .dat x, .dat (.int (k : Int))] = some (r, [.box false (.lst bag'), .dat x, .dat (.int (k : Int))]) ∧ BagOk bag' ∧ BJ (n + 5) (2 * wX x + 2000) r := by
  intro k
  induction k with
  | zero =>
    intro n x hx hw hs hn bag hb f hf
    obtain ⟨f, rfl⟩ : ∃ g, f = g + 1 := ⟨f - 1, by omega⟩
    have hj := jd_of n hx (by omega)
    have fin : ∀ d, TJ 3 (10 * 2000 + 1000) d ∨ TJ 3 1000 d → True := fun _ _ => trivial
    cases x with
    | str s =>
      rw [smX, decide_eq_true_eq] at hs
      obtain ⟨d, bag', h1, h2, h3⟩ := leaf_str hb (by have := hx.ok; rwa [okX] at this) hs f 0
      refine ⟨.dat d, bag', h1, h2, d, .inl rfl, h3.tm.mono (by omega) ?_, h3.jd.mono (by omega)⟩
      rw [wX]; omega
    | int i =>
      rw [smX, decide_eq_true_eq] at hs
      obtain ⟨d, bag', h1, h2, h3⟩ := leaf_int hb hs f 0
      exact ⟨.dat d, bag', h1, h2, d, .inl rfl, h3.tm.mono (by omega) (by omega), h3.jd.mono (by omega)⟩
    | none =>
      obtain ⟨d, bag', h1, h2, h3⟩ := bent_odd hb hj rfl rfl (k := 0) (.inr (.inr rfl)) f
      exact ⟨.dat d, bag', h1, h2, d, .inl rfl, h3.tm.mono (by omega) (by omega), h3.jd.mono (by omega)⟩
    | bool b =>
      obtain ⟨d, bag', h1, h2, h3⟩ := bent_odd hb hj rfl rfl (k := 0) (.inr (.inr rfl)) f
      exact ⟨.dat d, bag', h1, h2, d, .inl rfl, h3.tm.mono (by omega) (by omega), h3.jd.mono (by omega)⟩
    | tuple ys =>
      obtain ⟨d, bag', h1, h2, h3⟩ := bent_odd hb hj rfl rfl (k := 0) (.inr (.inr rfl)) f
      exact ⟨.dat d, bag', h1, h2, d, .inl rfl, h3.tm.mono (by omega) (by omega), h3.jd.mono (by omega)⟩
    | list ys => have := hx.nl; rw [noLs] at this; cases this
    | dict ys => have := hx.nd; rw [PyData.hasDict] at this; cases this
  | succ k ih =>
    intro n x hx hw hs hn bag hb f hf
    obtain ⟨f, rfl⟩ : ∃ g, f = g + 1 := ⟨f - 1, by omega⟩
    have hj := jd_of n hx (by omega)
    cases x with
    | str s =>
      rw [smX, decide_eq_true_eq] at hs
      obtain ⟨d, bag', h1, h2, h3⟩ := leaf_str hb (by have := hx.ok; rwa [okX] at this) hs f ((k + 1 : Nat) : Int)
      refine ⟨.dat d, bag', h1, h2, d, .inl rfl, h3.tm.mono (by omega) ?_, h3.jd.mono (by omega)⟩
      rw [wX]; omega
    | int i =>
      rw [smX, decide_eq_true_eq] at hs
      obtain ⟨d, bag', h1, h2, h3⟩ := leaf_int hb hs f ((k + 1 : Nat) : Int)
      exact ⟨.dat d, bag', h1, h2, d, .inl rfl, h3.tm.mono (by omega) (by omega), h3.jd.mono (by omega)⟩
    | none =>
      obtain ⟨d, bag', h1, h2, h3⟩ := bent_odd hb hj rfl rfl (k := ((k + 1 : Nat) : Int)) (.inl rfl) f
      exact ⟨.dat d, bag', h1, h2, d, .inl rfl, h3.tm.mono (by omega) (by omega), h3.jd.mono (by omega)⟩
    | bool b =>
      obtain ⟨d, bag', h1, h2, h3⟩ := bent_odd hb hj rfl rfl (k := ((k + 1 : Nat) : Int)) (.inl rfl) f
      exact ⟨.dat d, bag', h1, h2, d, .inl rfl, h3.tm.mono (by omega) (by omega), h3.jd.mono (by omega)⟩
    | tuple ys =>
      by_cases hne : ys = []
      · subst hne
        obtain ⟨d, bag', h1, h2, h3⟩ := bent_odd hb hj rfl rfl (k := ((k + 1 : Nat) : Int)) (.inr (.inl rfl)) f
        exact ⟨.dat d, bag', h1, h2, d, .inl rfl, h3.tm.mono (by omega) (by omega), h3.jd.mono (by omega)⟩
      · obtain ⟨m, rfl, hp, hl⟩ := pl_tup hx
        rw [smX] at hs
        have hwx : wX (.tuple ys) = 3 + wXL ys := by rw [wX]
        obtain ⟨r, bag', q1, q2, q3, q4, q5, q6⟩ := bent_tup hb hp hne (by omega) (by omega) f k (m := m + 5) fun d hd bag hb => ih m d (pl_mem hp d hd) (by have := (okX_mem hp.1.1 d hd).2; omega) (smXL_mem.mp hs d hd) (by omega) bag hb f (by omega)
        exact ⟨r, bag', q1, q2, q3, q4, q5.mono (by omega) (by omega), q6.mono (by omega)⟩
    | list ys => have := hx.nl; rw [noLs] at this; cases this
    | dict ys => have := hx.nd; rw [PyData.hasDict] at this; cases this
end K00
namespace K00
open PySem PySem.Spec PyProof.Rows L3
def sortA : D → D
  | .str s => sortD s
  | _ => .none
def wdB : D → Bool
  | .str s => wdS s
  | _ => false
theorem isn_any (d : D) : isNotD (sortA d) .none = some (.dat (.bool (wdB d))) := by
  cases d with
  | str s => exact sort_isn s
  | _ => rfl
theorem sort_any {n : Nat} {d : D} (h : Jd n d) : p_sort_of_word [.dat d] = some (.dat (sortA d), [.dat d]) := by
  have hf := h.fn
  cases d with
  | str s => exact sort_of_word_ok s h.st
  | dict kvs =>
    have : isFnD kvs = false := by simpa [nfB] using hf
    unfold p_sort_of_word b_sort_of_word sortA; simp [sizeLine_eq, startE, argA, bxIx, back, newC, notBor, bxAt, restE, noBx, lstB, lstAt, isNoD, this]
  | none => unfold p_sort_of_word b_sort_of_word sortA; simp [sizeLine_eq, startE, argA, bxIx, back, newC, notBor, bxAt, restE, noBx, lstB, lstAt, isNoD]
  | bool _ => unfold p_sort_of_word b_sort_of_word sortA; simp [sizeLine_eq, startE, argA, bxIx, back, newC, notBor, bxAt, restE, noBx, lstB, lstAt, isNoD]
  | int _ => unfold p_sort_of_word b_sort_of_word sortA; simp [sizeLine_eq, startE, argA, bxIx, back, newC, notBor, bxAt, restE, noBx, lstB, lstAt, isNoD]
  | list _ => unfold p_sort_of_word b_sort_of_word sortA; simp [sizeLine_eq, startE, argA, bxIx, back, newC, notBor, bxAt, restE, noBx, lstB, lstAt, isNoD]
  | tuple _ => unfold p_sort_of_word b_sort_of_word sortA; simp [sizeLine_eq, startE, argA, bxIx, back, newC, notBor, bxAt, restE, noBx, lstB, lstAt, isNoD]
theorem law_word_ok {n : Nat} {d : D} (h : Jd n d) : m_law_is_word [.dat d] = some (.dat (.bool (wdB d)), [.dat d]) := by
  have hf := h.fn
  cases d with
  | str s =>
    have h1 := law_sort_ok s h.st
    have h2 := sort_isn s
    generalize sortD s = o at *
    unfold m_law_is_word b__law_is_word
    simp [sizeLine_eq, startE, argA, bxIx, back, newC, notBor, bxAt, restE, noBx, lstB, lstAt, isNoD, h1, h2, wdB]
  | dict kvs =>
    have : isFnD kvs = false := by simpa [nfB] using hf
    unfold m_law_is_word b__law_is_word; simp [sizeLine_eq, startE, argA, bxIx, back, newC, notBor, bxAt, restE, noBx, lstB, lstAt, isNoD, this, wdB]
  | none => unfold m_law_is_word b__law_is_word; simp [sizeLine_eq, startE, argA, bxIx, back, newC, notBor, bxAt, restE, noBx, lstB, lstAt, isNoD, wdB]
  | bool _ => unfold m_law_is_word b__law_is_word; simp [sizeLine_eq, startE, argA, bxIx, back, newC, notBor, bxAt, restE, noBx, lstB, lstAt, isNoD, wdB]
  | int _ => unfold m_law_is_word b__law_is_word; simp [sizeLine_eq, startE, argA, bxIx, back, newC, notBor, bxAt, restE, noBx, lstB, lstAt, isNoD, wdB]
  | list _ => unfold m_law_is_word b__law_is_word; simp [sizeLine_eq, startE, argA, bxIx, back, newC, notBor, bxAt, restE, noBx, lstB, lstAt, isNoD, wdB]
  | tuple _ => unfold m_law_is_word b__law_is_word; simp [sizeLine_eq, startE, argA, bxIx, back, newC, notBor, bxAt, restE, noBx, lstB, lstAt, isNoD, wdB]
def rowB : D → Bool
  | .tuple ds => ds.all wdB
  | _ => false
def strB : D → Bool
  | .str _ => true
  | _ => false
theorem isTy_str (d : D) : isTy "str" d = strB d := by cases d <;> simp [strB]
theorem row_tup {ds : List D} (hl : ds.length ≤ 10000000) {m : Nat} (h : ∀ d ∈ ds, Jd m d) : p_is_row [.dat (.tuple ds)] = some (.dat (.bool (ds.all wdB)), [.dat (.tuple ds)]) := by
  have l1 := lc_pure (g := gnm 1) (t := myes) (m := M_is_row_1) (vs := [1]) (ρ := [some (.dat (.tuple ds)), none]) id (fun d => some (.bool (wdB d))) ds (fun d hd => ⟨[some (.dat (.tuple ds)), some (.dat d)], true, by simp [sizeLine_eq, startE, argA, bxIx, back, newC, notBor, bxAt, restE, noBx, lstB, lstAt, isNoD], by simp [sizeLine_eq, startE, argA, bxIx, back, newC, notBor, bxAt, restE, noBx, lstB, lstAt, isNoD], rfl, by
    have h1 := sort_any (h d hd)
    have h2 := isn_any d
    generalize sortA d = o at *
    unfold M_is_row_1
    simp [sizeLine_eq, startE, argA, bxIx, back, newC, notBor, bxAt, restE, noBx, lstB, lstAt, isNoD, h1, h2]⟩) (by rw [sizeLine_eq]; omega)
  rw [filterMap_some, List.map_id] at l1
  have ha := all_bools wdB ds
  generalize (ds.map fun d => PyData.bool (wdB d)) = L at *
  generalize ds.all wdB = b at *
  unfold p_is_row b_is_row
  simp [sizeLine_eq, startE, argA, bxIx, back, newC, notBor, bxAt, restE, noBx, lstB, lstAt, isNoD, l1, ha]
theorem row_any {n : Nat} {d : D} (h : Jd n d) : p_is_row [.dat d] = some (.dat (.bool (rowB d)), [.dat d]) := by
  have hf := h.fn
  cases d with
  | tuple ds =>
    obtain ⟨m, _, hl, hd⟩ := h.tup
    exact row_tup hl hd
  | dict kvs =>
    have : isFnD kvs = false := by simpa [nfB] using hf
    unfold p_is_row b_is_row rowB; simp [sizeLine_eq, startE, argA, bxIx, back, newC, notBor, bxAt, restE, noBx, lstB, lstAt, isNoD, this]
  | none => unfold p_is_row b_is_row rowB; simp [sizeLine_eq, startE, argA, bxIx, back, newC, notBor, bxAt, restE, noBx, lstB, lstAt, isNoD]
  | bool _ => unfold p_is_row b_is_row rowB; simp [sizeLine_eq, startE, argA, bxIx, back, newC, notBor, bxAt, restE, noBx, lstB, lstAt, isNoD]
  | int _ => unfold p_is_row b_is_row rowB; simp [sizeLine_eq, startE, argA, bxIx, back, newC, notBor, bxAt, restE, noBx, lstB, lstAt, isNoD]
  | list _ => unfold p_is_row b_is_row rowB; simp [sizeLine_eq, startE, argA, bxIx, back, newC, notBor, bxAt, restE, noBx, lstB, lstAt, isNoD]
  | str _ => unfold p_is_row b_is_row rowB; simp [sizeLine_eq, startE, argA, bxIx, back, newC, notBor, bxAt, restE, noBx, lstB, lstAt, isNoD]
def ascS : List Str → Bool
  | a :: b :: r => decide (a.cps.toList < b.cps.toList) && ascS (b :: r)
  | _ => true
theorem zip_asc : ∀ ss : List Str, (ss.zip (ss.drop 1)).all (fun p => decide (p.1.cps.toList < p.2.cps.toList)) = ascS ss
  | [] => rfl
  | [_] => rfl
  | a :: b :: r => by
    have := zip_asc (b :: r)
    rw [ascS, ← this]
    rfl
theorem rng_asc (ss : List Str) : ((List.range (ss.length - 1)).all fun i => match ss[i]?, ss[i + 1]? with | some a, some b => decide (a.cps.toList < b.cps.toList) | _, _ => true) = ascS ss := by
  induction ss with
  | nil => rfl
  | cons a r ih =>
    cases r with
    | nil => rfl
    | cons b r =>
      rw [ascS, ← ih]
      show ((List.range (r.length + 1)).all _) = _
      rw [List.range_succ_eq_map, List.all_cons, List.all_map]
      rfl
theorem eval_zip (ss : List Str) : zipD (ss.map PyData.str) ((ss.drop 1).map PyData.str) = (ss.zip (ss.drop 1)).map fun p => PyData.tuple [.str p.1, .str p.2] := by
  generalize ss.drop 1 = ts
  induction ss generalizing ts with
  | nil => cases ts <;> rfl
  | cons a r ih =>
    cases ts with
    | nil => rfl
    | cons b ts =>
      have := ih ts
      simp only [zipD, List.map_cons, List.zip_cons_cons] at *
      simpa using this
theorem strs_map {ds : List D} (h : ds.all strB = true) : ∃ ss : List Str, ds = ss.map PyData.str := strs_of fun d hd => by
  have := List.all_eq_true.mp h d hd
  cases d <;> first | exact ⟨_, rfl⟩ | cases this
def strO : D → Option Str
  | .str s => some s
  | _ => none
def lotB : D → Bool
  | .tuple ds => ds.all strB && ascS (ds.filterMap strO)
  | _ => false
theorem strs_filt (ss : List Str) : (ss.map PyData.str).filterMap strO = ss := by
  induction ss with
  | nil => rfl
  | cons a r ih => rw [List.map_cons, List.filterMap_cons]; show a :: _ = _; rw [ih]
end K00
namespace K00
open PySem PySem.Spec PyProof.Rows L3
theorem lot_lc1 (ds : List D) (hl : ds.length ≤ 10000000) {m : Nat} (h : ∀ d ∈ ds, Jd m d) : lcT (gnm 1) myes M_is_lot_1 [1] (.items ds) [some (.dat (.tuple ds)), none, none] = some (.new (.lst (ds.map fun d => .bool (strB d))), [some (.dat (.tuple ds)), none, none]) := by
  have l1 := lc_pure (g := gnm 1) (t := myes) (m := M_is_lot_1) (vs := [1]) (ρ := [some (.dat (.tuple ds)), none, none]) id (fun d => some (.bool (strB d))) ds (fun d hd => ⟨[some (.dat (.tuple ds)), some (.dat d), none], true, by simp [sizeLine_eq, startE, argA, bxIx, back, newC, notBor, bxAt, restE, noBx, lstB, lstAt, isNoD], by simp [sizeLine_eq, startE, argA, bxIx, back, newC, notBor, bxAt, restE, noBx, lstB, lstAt, isNoD], rfl, by
    have hn := notFn_of (h d hd).fn
    have ht := isTy_str d
    unfold M_is_lot_1
    simp [sizeLine_eq, startE, argA, bxIx, back, newC, notBor, bxAt, restE, noBx, lstB, lstAt, isNoD, hn, ht]⟩) (by rw [sizeLine_eq]; omega)
  rw [filterMap_some, List.map_id] at l1
  exact l1
theorem lot_lc2 (ss : List Str) (hl : ss.length ≤ 10000000) : lcT (gtup [1, 2]) myes M_is_lot_2 [1, 2] (.items (zipD (ss.map PyData.str) ((ss.drop 1).map PyData.str))) [some (.dat (.tuple (ss.map PyData.str))), none, none] =
    some (.new (.lst ((ss.zip (ss.drop 1)).map fun p => .bool (decide (p.1.cps.toList < p.2.cps.toList)))), [some (.dat (.tuple (ss.map PyData.str))), none, none]) := by
  rw [eval_zip]
  generalize ss.map PyData.str = S
  have l1 := lc_pure (g := gtup [1, 2]) (t := myes) (m := M_is_lot_2) (vs := [1, 2]) (ρ := [some (.dat (.tuple S)), none, none]) (fun p : Str × Str => PyData.tuple [.str p.1, .str p.2]) (fun p => some (.bool (decide (p.1.cps.toList < p.2.cps.toList)))) (ss.zip (ss.drop 1))
    (fun p _ => ⟨[some (.dat (.tuple S)), some (.dat (.str p.1)), some (.dat (.str p.2))], true, by simp [sizeLine_eq, startE, argA, bxIx, back, newC, notBor, bxAt, restE, noBx, lstB, lstAt, isNoD], by simp [sizeLine_eq, startE, argA, bxIx, back, newC, notBor, bxAt, restE, noBx, lstB, lstAt, isNoD], rfl, by
      unfold M_is_lot_2
      simp [sizeLine_eq, startE, argA, bxIx, back, newC, notBor, bxAt, restE, noBx, lstB, lstAt, isNoD]⟩) (by rw [sizeLine_eq, List.length_zip]; omega)
  rw [filterMap_some] at l1
  exact l1
theorem cut1 (ds : List D) : cutL ds (some 1) none = ds.drop 1 := cutB ds 1
theorem lot_any {n : Nat} {d : D} (h : Jd n d) : p_is_lot [.dat d] = some (.dat (.bool (lotB d)), [.dat d]) := by
  have hf := h.fn
  cases d with
  | tuple ds =>
    obtain ⟨m, _, hl, hd⟩ := h.tup
    have l1 := lot_lc1 ds hl hd
    have ha := all_bools strB ds
    show _ = some (R.dat (.bool (ds.all strB && ascS (ds.filterMap strO))), _)
    cases hs : ds.all strB with
    | false =>
      rw [hs] at ha
      rw [Bool.false_and]
      generalize (ds.map fun d => PyData.bool (strB d)) = L at *
      unfold p_is_lot b_is_lot
      simp [sizeLine_eq, startE, argA, bxIx, back, newC, notBor, bxAt, restE, noBx, lstB, lstAt, isNoD, l1, ha]
    | true =>
      obtain ⟨ss, rfl⟩ := strs_map hs
      rw [List.length_map] at hl
      have l2 := lot_lc2 ss hl
      have hc : cutL (ss.map PyData.str) (some 1) none = (ss.drop 1).map PyData.str := by rw [cut1, List.map_drop]
      have ha2 := all_bools (fun p : Str × Str => decide (p.1.cps.toList < p.2.cps.toList)) (ss.zip (ss.drop 1))
      rw [zip_asc] at ha2
      rw [hs] at ha
      rw [strs_filt, Bool.true_and]
      generalize hZ : zipD (ss.map PyData.str) ((ss.drop 1).map PyData.str) = Z at *
      generalize ((ss.map PyData.str).map fun d => PyData.bool (strB d)) = L at *
      generalize ((ss.zip (ss.drop 1)).map fun p => PyData.bool (decide (p.1.cps.toList < p.2.cps.toList))) = L2 at *
      generalize (ss.drop 1).map PyData.str = S1 at *
      generalize ss.map PyData.str = S at *
      generalize ascS ss = b at *
      unfold p_is_lot b_is_lot
      simp [sizeLine_eq, startE, argA, bxIx, back, newC, notBor, bxAt, restE, noBx, lstB, lstAt, isNoD, l1, ha, hc, l2, ha2, hZ]
  | dict kvs =>
    have : isFnD kvs = false := by simpa [nfB] using hf
    unfold p_is_lot b_is_lot lotB; simp [sizeLine_eq, startE, argA, bxIx, back, newC, notBor, bxAt, restE, noBx, lstB, lstAt, isNoD, this]
  | none => unfold p_is_lot b_is_lot lotB; simp [sizeLine_eq, startE, argA, bxIx, back, newC, notBor, bxAt, restE, noBx, lstB, lstAt, isNoD]
  | bool _ => unfold p_is_lot b_is_lot lotB; simp [sizeLine_eq, startE, argA, bxIx, back, newC, notBor, bxAt, restE, noBx, lstB, lstAt, isNoD]
  | int _ => unfold p_is_lot b_is_lot lotB; simp [sizeLine_eq, startE, argA, bxIx, back, newC, notBor, bxAt, restE, noBx, lstB, lstAt, isNoD]
  | list _ => unfold p_is_lot b_is_lot lotB; simp [sizeLine_eq, startE, argA, bxIx, back, newC, notBor, bxAt, restE, noBx, lstB, lstAt, isNoD]
  | str _ => unfold p_is_lot b_is_lot lotB; simp [sizeLine_eq, startE, argA, bxIx, back, newC, notBor, bxAt, restE, noBx, lstB, lstAt, isNoD]
theorem llot_lc1 (ds : List D) (hl : ds.length ≤ 10000000) {m : Nat} (h : ∀ d ∈ ds, Jd m d) : lcT (gnm 2) T__law_is_lot_1 M__law_is_lot_1 [2] (.items ds) [some (.dat (.tuple ds)), none, none] = some (.new (.lst (ds.filterMap fun d => if (!strB d) = true then some d else none)), [some (.dat (.tuple ds)), none, none]) := by
  have l1 := lc_pure (g := gnm 2) (t := T__law_is_lot_1) (m := M__law_is_lot_1) (vs := [2]) (ρ := [some (.dat (.tuple ds)), none, none]) id (fun d => if (!strB d) = true then some d else none) ds (fun d hd => ⟨[some (.dat (.tuple ds)), none, some (.dat d)], !strB d, by simp [sizeLine_eq, startE, argA, bxIx, back, newC, notBor, bxAt, restE, noBx, lstB, lstAt, isNoD], by simp [sizeLine_eq, startE, argA, bxIx, back, newC, notBor, bxAt, restE, noBx, lstB, lstAt, isNoD], by
    have hn := notFn_of (h d hd).fn
    have ht := isTy_str d
    unfold T__law_is_lot_1
    simp [sizeLine_eq, startE, argA, bxIx, back, newC, notBor, bxAt, restE, noBx, lstB, lstAt, isNoD, hn, ht], by
    cases hb : strB d with
    | true => rfl
    | false => exact ⟨rfl, by unfold M__law_is_lot_1; simp [sizeLine_eq, startE, argA, bxIx, back, newC, notBor, bxAt, restE, noBx, lstB, lstAt, isNoD]⟩⟩) (by rw [sizeLine_eq]; omega)
  rw [List.map_id] at l1
  exact l1
theorem filt_not (ds : List D) : (ds.filterMap fun d => if (!strB d) = true then some d else none).isEmpty = ds.all strB := by
  induction ds with
  | nil => rfl
  | cons d r ih =>
    rw [List.all_cons, ← ih, List.filterMap_cons]
    cases strB d <;> rfl
def gapB (ss : List Str) (i : Nat) : Bool := match ss[i]?, ss[i + 1]? with
  | some a, some b => decide (a.cps.toList < b.cps.toList)
  | _, _ => true
theorem rng_asc2 (ss : List Str) : ((List.range (ss.length - 1)).filterMap fun i => if (!gapB ss i) = true then some (PyData.int i) else none).isEmpty = ascS ss := by
  rw [← rng_asc]
  show _ = (List.range (ss.length - 1)).all (gapB ss)
  generalize List.range (ss.length - 1) = R
  induction R with
  | nil => rfl
  | cons d r ih =>
    rw [List.all_cons, ← ih, List.filterMap_cons]
    cases gapB ss d <;> rfl
theorem llot_lc2 (ss : List Str) (hl : ss.length ≤ 10000000) (x : Option A) : lcT (gnm 1) T__law_is_lot_2 M__law_is_lot_2 [1] (.items (rngD 0 ((ss.length : Int) - 1))) [some (.dat (.tuple (ss.map PyData.str))), none, none] =
    some (.new (.lst ((List.range (ss.length - 1)).filterMap fun i => if (!gapB ss i) = true then some (PyData.int i) else none)), [some (.dat (.tuple (ss.map PyData.str))), none, none]) := by
  have e : rngD 0 ((ss.length : Int) - 1) = (List.range (ss.length - 1)).map fun i : Nat => PyData.int i := by
    unfold rngD
    have : ((ss.length : Int) - 1 - 0).toNat = ss.length - 1 := by omega
    rw [this]
    refine List.map_congr_left fun i _ => ?_
    rw [Int.zero_add]
  rw [e]
  refine lc_pure (g := gnm 1) (t := T__law_is_lot_2) (m := M__law_is_lot_2) (vs := [1]) (ρ := [some (.dat (.tuple (ss.map PyData.str))), none, none]) (fun i : Nat => PyData.int i) (fun i => if (!gapB ss i) = true then some (PyData.int i) else none) (List.range (ss.length - 1))
    (fun i hi => ⟨[some (.dat (.tuple (ss.map PyData.str))), some (.dat (.int i)), none], !gapB ss i, by simp [sizeLine_eq, startE, argA, bxIx, back, newC, notBor, bxAt, restE, noBx, lstB, lstAt, isNoD], by simp [sizeLine_eq, startE, argA, bxIx, back, newC, notBor, bxAt, restE, noBx, lstB, lstAt, isNoD], ?_, ?_⟩) (by rw [sizeLine_eq, List.length_range]; omega)
  · have hi := List.mem_range.mp hi
    have h1 : ss[i]? = some ss[i] := List.getElem?_eq_getElem (by omega)
    have h2 : ss[i + 1]? = some ss[i + 1] := List.getElem?_eq_getElem (by omega)
    have a1 : L2.atI (ss.map PyData.str) (i : Int) = some (.str ss[i]) := L2.atI_nat (by rw [List.getElem?_map, h1]; rfl)
    have a2 : L2.atI (ss.map PyData.str) ((i : Int) + 1) = some (.str ss[i + 1]) := L2.atI_nat (j := i + 1) (by rw [List.getElem?_map, h2]; rfl)
    have hg : gapB ss i = decide (ss[i].cps.toList < ss[i + 1].cps.toList) := by
      unfold gapB
      rw [h1, h2]
    rw [hg]
    generalize ss[i] = a at *
    generalize ss[i + 1] = b at *
    generalize ss.map PyData.str = S at *
    unfold T__law_is_lot_2
    simp [sizeLine_eq, startE, argA, bxIx, back, newC, notBor, bxAt, restE, noBx, lstB, lstAt, isNoD, a1, a2]
  · cases hb : gapB ss i with
    | true => rfl
    | false => exact ⟨rfl, by unfold M__law_is_lot_2; simp [sizeLine_eq, startE, argA, bxIx, back, newC, notBor, bxAt, restE, noBx, lstB, lstAt, isNoD]⟩
theorem llot_any {n : Nat} {d : D} (h : Jd n d) : m_law_is_lot [.dat d] = some (.dat (.bool (lotB d)), [.dat d]) := by
  have hf := h.fn
  cases d with
  | tuple ds =>
    obtain ⟨m, _, hl, hd⟩ := h.tup
    have l1 := llot_lc1 ds hl hd
    have hq := filt_not ds
    generalize (ds.filterMap fun d => if (!strB d) = true then some d else none) = O at *
    have e1 := neD_lnil O
    rw [hq] at e1
    show _ = some (R.dat (.bool (ds.all strB && ascS (ds.filterMap strO))), _)
    cases hs : ds.all strB with
    | false =>
      rw [hs] at e1
      rw [Bool.false_and]
      unfold m_law_is_lot b__law_is_lot
      simp [sizeLine_eq, startE, argA, bxIx, back, newC, notBor, bxAt, restE, noBx, lstB, lstAt, isNoD, l1, e1]
    | true =>
      obtain ⟨ss, rfl⟩ := strs_map hs
      rw [List.length_map] at hl
      rw [hs] at e1
      have l2 := llot_lc2 ss hl none
      have hq2 := rng_asc2 ss
      have hlen : lenD [.tuple (ss.map PyData.str)] = some (.dat (.int ss.length)) := by
        show some (R.dat (.int ((ss.map PyData.str).length : Nat))) = _
        rw [List.length_map]
      have hr1 : -4611686018427387904 ≤ (ss.length : Int) - 1 := by omega
      have hr2 : (ss.length : Int) - 1 < 4611686018427387904 := by omega
      generalize ((List.range (ss.length - 1)).filterMap fun i => if (!gapB ss i) = true then some (PyData.int i) else none) = O2 at *
      have e2 := eqD_lnil O2
      rw [hq2] at e2
      rw [strs_filt, Bool.true_and]
      generalize ss.map PyData.str = S at *
      generalize ascS ss = b at *
      generalize hz : ((ss.length : Int) - 1) = z at *
      unfold m_law_is_lot b__law_is_lot
      simp [sizeLine_eq, startE, argA, bxIx, back, newC, notBor, bxAt, restE, noBx, lstB, lstAt, isNoD, l1, e1, hlen, hz, hr1, hr2, guardO, l2, e2]
  | dict kvs =>
    have : isFnD kvs = false := by simpa [nfB] using hf
    unfold m_law_is_lot b__law_is_lot lotB; simp [sizeLine_eq, startE, argA, bxIx, back, newC, notBor, bxAt, restE, noBx, lstB, lstAt, isNoD, this]
  | none => unfold m_law_is_lot b__law_is_lot lotB; simp [sizeLine_eq, startE, argA, bxIx, back, newC, notBor, bxAt, restE, noBx, lstB, lstAt, isNoD]
  | bool _ => unfold m_law_is_lot b__law_is_lot lotB; simp [sizeLine_eq, startE, argA, bxIx, back, newC, notBor, bxAt, restE, noBx, lstB, lstAt, isNoD]
  | int _ => unfold m_law_is_lot b__law_is_lot lotB; simp [sizeLine_eq, startE, argA, bxIx, back, newC, notBor, bxAt, restE, noBx, lstB, lstAt, isNoD]
  | list _ => unfold m_law_is_lot b__law_is_lot lotB; simp [sizeLine_eq, startE, argA, bxIx, back, newC, notBor, bxAt, restE, noBx, lstB, lstAt, isNoD]
  | str _ => unfold m_law_is_lot b__law_is_lot lotB; simp [sizeLine_eq, startE, argA, bxIx, back, newC, notBor, bxAt, restE, noBx, lstB, lstAt, isNoD]
end K00
namespace K00
open PySem PySem.Spec PyProof.Rows L3
def WS (k : Nat) (s : Str) : Prop := PyData.strOk s = true ∧ s.length ≤ k
theorem WS.mono {k m : Nat} {s : Str} (h : WS k s) (hm : k ≤ m) : WS m s := ⟨h.1, Nat.le_trans h.2 hm⟩
theorem app_len (x y : Str) : (x ++ y).length = x.length + y.length := by
  show (x.cps ++ y.cps).size = _
  rw [Array.size_append]; rfl
theorem WS.app {k m n : Nat} {x y : Str} (h : WS k x) (t : WS m y) (hn : k + m ≤ n) : WS n (x ++ y) := ⟨strOk_app h.1 t.1, by rw [app_len]; have := h.2; have := t.2; omega⟩
theorem joinL_nil : ∀ ps : List (List Nat), TL.joinL [] ps = ps.flatten
  | [] => rfl
  | [p] => by simp [TL.joinL]
  | p :: q :: r => by
    have := joinL_nil (q :: r)
    rw [TL.joinL, this]
    simp
theorem join_ok (cs : List Nat) (h : ∀ c ∈ cs, PyData.strOk ⟨#[c]⟩ = true) : WS cs.length (Txt.join (Str.ofString "") (cs.map fun c => (⟨#[c]⟩ : Str))) := by
  have e : (Txt.join (Str.ofString "") (cs.map fun c => (⟨#[c]⟩ : Str))).cps.toList = cs := by
    rw [TL.join_eq]
    have := TL.tl_join (Str.ofString "") (cs.map fun c => (⟨#[c]⟩ : Str))
    have e0 : TL.tl (Str.ofString "") = [] := by decide +kernel
    rw [e0, joinL_nil, List.map_map] at this
    refine this.trans ?_
    clear this e0 h
    induction cs with
    | nil => rfl
    | cons c r ih => rw [List.map_cons, List.flatten_cons, ih]; rfl
  refine ⟨?_, ?_⟩
  · unfold PyData.strOk
    rw [← Array.all_toList, e, List.all_eq_true]
    intro c hc
    have := h c hc
    unfold PyData.strOk at this
    simpa using this
  · show (Array.size _) ≤ _
    rw [← Array.length_toList, e]
    exact Nat.le_refl _
theorem someS_ok {bag : List D} (hb : BagOk bag) {x : Str} (hd : x.cps.toList ≠ []) (hl : x.length ≤ 1000000) :
    ∃ c bag', m_law_some [.box false (.lst bag), .dat (.str x)] = some (.dat (chD c), [.box false (.lst bag'), .dat (.str x)]) ∧ c ∈ x.cps.toList ∧ BagOk bag' := by
  have e0 : x.cps.toList.length = x.length := rfl
  have hp : 0 < x.cps.toList.length := List.length_pos_iff.mpr hd
  obtain ⟨v, bag', h1, h2, h3, h4⟩ := take_ok hb (x.length : Int) (by omega) (by omega)
  have hv : v.toNat < x.cps.toList.length := by omega
  have hi : L2.atI x.cps.toList v = some x.cps.toList[v.toNat] := by
    unfold L2.atI L2.ixN
    rw [if_pos h3, if_pos (by omega), Option.bind_some, List.getElem?_eq_getElem hv]
  have ix : ixD (.str x) (.int v) = some (.dat (chD x.cps.toList[v.toNat])) := by
    show (if x.length ≤ sizeLine then (L2.atI x.cps.toList v).bind fun c => some (R.dat (.str ⟨#[c]⟩)) else none) = _
    rw [if_pos (by rw [sizeLine_eq]; omega), hi]
    rfl
  refine ⟨_, bag', ?_, List.getElem_mem hv, h2⟩
  have hlen := len_str x (by omega)
  generalize chD x.cps.toList[v.toNat] = y at *
  unfold m_law_some b__law_some
  simp [sizeLine_eq, startE, argA, bxIx, back, newC, notBor, bxAt, restE, noBx, lstB, lstAt, isNoD, hlen, h1, ix]
def mnA : List Str := [Str.ofString "a", Str.ofString "x1", Str.ofString "0", Str.ofString "12", Str.ofString "999999999", Str.ofString "1000000000", Str.ofString "01", Str.ofString "00", Str.ofString "", Str.ofString "A"]
def mnB : List Str := [Str.ofString "1a", Str.ofString "a_", Str.ofString "a b", Str.ofString "gives", Str.ofString "giv", repS (Str.ofString "n") 20, repS (Str.ofString "n") 21, Str.ofString "-", Str.ofString "->", Str.ofString "<=", Str.ofString "==", Str.ofString "{}", repS (Str.ofString "1") 9]
def mnC : List Str := [Str.ofString " ", Str.ofString "aB", repS (Str.ofString "9") 10, Str.ofString "a\n", Str.ofString "7\n", Str.ofString "num\n", Str.ofString "give\n", Str.ofString "\na", Str.ofString "{\n", Str.ofString "\n", Str.ofString "x1\n"]
def menuW : List Str := kwL ++ sgL ++ mnA ++ mnB ++ mnC
theorem menu_ws : ∀ s ∈ menuW, WS 21 s := by
  have h : menuW.all (fun s => PyData.strOk s && decide (s.length ≤ 21)) = true := by decide +kernel
  intro s hs
  have := List.all_eq_true.mp h s hs
  simp only [Bool.and_eq_true, decide_eq_true_eq] at this
  exact this
theorem repsQ : mulSD (.str (Str.ofString "n")) (.int 20) = some (.dat (.str (repS (Str.ofString "n") 20))) ∧ mulSD (.str (Str.ofString "n")) (.int 21) = some (.dat (.str (repS (Str.ofString "n") 21))) ∧
    mulSD (.str (Str.ofString "1")) (.int 9) = some (.dat (.str (repS (Str.ofString "1") 9))) ∧ mulSD (.str (Str.ofString "9")) (.int 10) = some (.dat (.str (repS (Str.ofString "9") 10))) := by
  refine ⟨?_, ?_, ?_, ?_⟩ <;>
  · unfold mulSD
    simp only []
    rw [if_pos (by decide +kernel)]
    rfl
def lowS : Str := Str.ofString "abcdefghijklmnopqrstuvwxyz0123456789"
def grtS : Str := Str.ofString "ABCDEFGHIJKLMNOPQRSTUVWXYZ#$&'*/>?@^_|~!-"
theorem low_ok : ∀ c ∈ lowS.cps.toList, PyData.strOk ⟨#[c]⟩ = true := by
  have h : (lowS.cps.toList.all fun c => PyData.strOk ⟨#[c]⟩) = true := by decide +kernel
  exact fun c hc => List.all_eq_true.mp h c hc
theorem grt_ok : ∀ c ∈ grtS.cps.toList, PyData.strOk ⟨#[c]⟩ = true := by
  have h : (grtS.cps.toList.all fun c => PyData.strOk ⟨#[c]⟩) = true := by decide +kernel
  exact fun c hc => List.all_eq_true.mp h c hc
theorem chs_of : ∀ {ys : List D} {P : Nat → Prop}, (∀ d ∈ ys, ∃ c, d = chD c ∧ P c) → ∃ cs : List Nat, ys = cs.map chD ∧ ∀ c ∈ cs, P c
  | [], _, _ => ⟨[], rfl, nofun⟩
  | y :: ys, P, h => by
    obtain ⟨c, rfl, hc⟩ := h y List.mem_cons_self
    obtain ⟨cs, rfl, hcs⟩ := chs_of (ys := ys) (P := P) fun d hd => h d (List.mem_cons_of_mem _ hd)
    exact ⟨c :: cs, rfl, fun x hx => (List.mem_cons.mp hx).elim (fun e => e ▸ hc) (hcs x)⟩
def wE (m w d : Option A) (bag : List D) : En := [some (.box false (.lst bag)), m, w, some (.dat (.str lowS)), d, none, none]
theorem drawn_lc {bag : List D} (hb : BagOk bag) (m w : Option A) (v : Int) (h0 : 0 ≤ v) (h1 : v < 9) :
    ∃ (cs : List Nat) (bag' : List D), lcT (gnm 6) myes M__law_some_word_1 [6] (.items (rngD 0 (1 + v))) (wE m w none bag) = some (.new (.lst (cs.map chD)), wE m w none bag') ∧ BagOk bag' ∧ cs.length ≤ 9 ∧ ∀ c ∈ cs, PyData.strOk ⟨#[c]⟩ = true := by
  have hr : (rngD 0 (1 + v)).length ≤ 9 := by
    unfold rngD
    rw [List.length_map, List.length_range]
    omega
  obtain ⟨acc, bag', h2, h3, h4, h5⟩ := lc_draw (B := BagOk) (g := gnm 6) (m := M__law_some_word_1) (vs := [6]) (wE m w none) (fun d => ∃ c, d = chD c ∧ c ∈ lowS.cps.toList) (ds := rngD 0 (1 + v)) (by rw [sizeLine_eq]; omega) hb
    (fun b v hv => by rw [List.mem_singleton.mp hv]; rfl) (fun d hd b hb' => by
      obtain ⟨c, b', e1, e2, e3⟩ := someS_ok hb' (x := lowS) (by decide +kernel) (by decide +kernel)
      refine ⟨[some (.box false (.lst b)), m, w, some (.dat (.str lowS)), none, none, some (.dat d)], .dat (chD c), [some (.box false (.lst b')), m, w, some (.dat (.str lowS)), none, none, some (.dat d)], chD c, [some (.box false (.lst b')), m, w, some (.dat (.str lowS)), none, none, some (.dat d)], b', by simp [sizeLine_eq, startE, argA, bxIx, back, newC, notBor, bxAt, restE, noBx, lstB, lstAt, isNoD, wE], ?_, by simp [sizeLine_eq, startE, argA, bxIx, back, newC, notBor, bxAt, restE, noBx, lstB, lstAt, isNoD], rfl, e3, c, rfl, e2⟩
      generalize chD c = x at *
      generalize lowS = ls at *
      unfold M__law_some_word_1
      simp [sizeLine_eq, startE, argA, bxIx, back, newC, notBor, bxAt, restE, noBx, lstB, lstAt, isNoD, e1])
  obtain ⟨cs, rfl, hc⟩ := chs_of h5
  rw [List.length_map] at h4
  exact ⟨cs, bag', h2, h3, by omega, fun c hc' => low_ok c (hc c hc')⟩
end K00
namespace K00
open PySem PySem.Spec PyProof.Rows L3
theorem addSD (x y : Str) (h : x.length + y.length ≤ 1000000) : addD (.str x) (.str y) = some (.dat (.str (x ++ y))) := addSt x y (by omega)
theorem menu1 : addD (.list (kwL.map PyData.str)) (.list (sgL.map PyData.str)) = some (.new (.lst ((kwL ++ sgL).map PyData.str))) := add_strs _ _ (by decide)
theorem menu2 : addD (.list ((kwL ++ sgL).map PyData.str)) (.list (mnA.map PyData.str)) = some (.new (.lst ((kwL ++ sgL ++ mnA).map PyData.str))) := add_strs _ _ (by decide)
theorem menu3 : addD (.list ((kwL ++ sgL ++ mnA).map PyData.str)) (.list (mnB.map PyData.str)) = some (.new (.lst ((kwL ++ sgL ++ mnA ++ mnB).map PyData.str))) := add_strs _ _ (by decide)
theorem menu4 : addD (.list ((kwL ++ sgL ++ mnA ++ mnB).map PyData.str)) (.list (mnC.map PyData.str)) = some (.new (.lst (menuW.map PyData.str))) := add_strs _ _ (by decide)
theorem seq2_chs (cs : List Nat) : seq2S (.list (cs.map chD)) = some (cs.map fun c => (⟨#[c]⟩ : Str)) := by
  show strsD _ = _
  induction cs with
  | nil => rfl
  | cons c r ih =>
    show (strsD (r.map chD)).map _ = _
    rw [ih]
    rfl
theorem joinD_ok (cs : List Nat) (h : cs.length ≤ 100) : joinD (.str (Str.ofString "")) [.list (cs.map chD)] = some (.dat (.str (Txt.join (Str.ofString "") (cs.map fun c => (⟨#[c]⟩ : Str))))) := by
  unfold joinD
  simp only [seq2_chs, Option.bind_some]
  rw [if_pos]
  have e : ((cs.map fun c => (⟨#[c]⟩ : Str)).map (·.length)).sum = cs.length := by
    clear h
    induction cs with
    | nil => rfl
    | cons c r ih => rw [List.map_cons, List.map_cons, List.sum_cons, ih, List.length_cons]; show 1 + _ = _; omega
  rw [e]
  have : (Str.ofString "").length = 0 := by decide +kernel
  rw [this]
  omega
theorem cut_ws {k : Nat} {x : Str} (h : WS k x) (lo hi : Option Int) : WS k (L2.cutS x lo hi) := ⟨(cutS_ok h.1 lo hi).1, Nat.le_trans (cutS_ok h.1 lo hi).2 h.2⟩
theorem some_word_ok {bag : List D} (hb : BagOk bag) : ∃ (s : Str) (bag' : List D), m_law_some_word [.box false (.lst bag)] = some (.dat (.str s), [.box false (.lst bag')]) ∧ BagOk bag' ∧ WS 50 s := by
  have hk := keywords_ok
  have hg := signs_ok
  have a1 := menu1
  have a2 := menu2
  have a3 := menu3
  have a4 := menu4
  obtain ⟨r1, r2, r3, r4⟩ := repsQ
  obtain ⟨d1, bag1, s1, s2, s3⟩ := some_ok hb (x := .box false (.lst (menuW.map PyData.str))) (ds := menuW.map PyData.str) (.inr rfl) (by decide) (by decide)
  obtain ⟨w, hw, rfl⟩ := List.mem_map.mp s2
  have hw := menu_ws w hw
  obtain ⟨v, bag2, t1, t2, t3, t4⟩ := take_ok s3 9 (by decide) (by decide)
  obtain ⟨cs, bag3, c1, c2, c3, c4⟩ := drawn_lc t2 (some (.box true (.lst (menuW.map PyData.str)))) (some (.dat (.str w))) v t3 t4
  have hj := joinD_ok cs (by omega)
  have hjw : WS 9 (Txt.join (Str.ofString "") (cs.map fun c => (⟨#[c]⟩ : Str))) := (join_ok cs c4).mono c3
  generalize Txt.join (Str.ofString "") (cs.map fun c => (⟨#[c]⟩ : Str)) = jn at *
  obtain ⟨c, bag4, u1, u2, u3⟩ := someS_ok c2 (x := grtS) (by decide +kernel) (by decide +kernel)
  have hc1 : WS 1 ⟨#[c]⟩ := ⟨grt_ok c u2, Nat.le_refl _⟩
  have ho : addD (.str jn) (chD c) = some (.dat (.str (jn ++ ⟨#[c]⟩))) := addSD jn ⟨#[c]⟩ (by have := hjw.2; have := hc1.2; omega)
  have hoW : WS 10 (jn ++ ⟨#[c]⟩) := hjw.app hc1 (by decide)
  obtain ⟨d2, bag5, x1, x2, x3⟩ := some_ok u3 (x := .box false (.lst (menuW.map PyData.str))) (ds := menuW.map PyData.str) (.inr rfl) (by decide) (by decide)
  obtain ⟨w2, hw2, rfl⟩ := List.mem_map.mp x2
  have hw2 := menu_ws w2 hw2
  have hp := addSD w w2 (by have := hw.2; have := hw2.2; omega)
  have hpW : WS 42 (w ++ w2) := hw.app hw2 (by decide)
  have hcW := cut_ws hw none (some (-1))
  have hcut : slD (.str w) none (some (-1)) = some (.dat (.str (L2.cutS w none (some (-1))))) := by
    show (if _ then _ else _) = _
    rw [if_pos (by have := hw.2; rw [sizeLine_eq]; omega)]
  generalize L2.cutS w none (some (-1)) = cw at *
  generalize w ++ w2 = pw at *
  generalize jn ++ ⟨#[c]⟩ = ow at *
  obtain ⟨d3, bag6, y1, y2, y3⟩ := some_ok x3 (x := .dat (.list [.str w, .str w, .str pw, .str cw, .str jn, .str ow])) (ds := [.str w, .str w, .str pw, .str cw, .str jn, .str ow]) (.inl rfl) (by simp) (by simp)
  obtain ⟨s, rfl, hs⟩ : ∃ s, d3 = .str s ∧ WS 50 s := by
    simp only [List.mem_cons, List.not_mem_nil, or_false] at y2
    rcases y2 with rfl | rfl | rfl | rfl | rfl | rfl
    · exact ⟨_, rfl, hw.mono (by decide)⟩
    · exact ⟨_, rfl, hw.mono (by decide)⟩
    · exact ⟨_, rfl, hpW.mono (by decide)⟩
    · exact ⟨_, rfl, hcW.mono (by decide)⟩
    · exact ⟨_, rfl, hjw.mono (by decide)⟩
    · exact ⟨_, rfl, hoW.mono (by decide)⟩
  refine ⟨s, bag6, ?_, y3, hs⟩
  clear hw hw2 hjw hc1 hoW hpW hcW hs x2 s2 u2 y2 c4
  generalize kwL.map PyData.str = KW at *
  generalize sgL.map PyData.str = SG at *
  generalize (kwL ++ sgL).map PyData.str = M1 at *
  generalize (kwL ++ sgL ++ mnA).map PyData.str = M2 at *
  generalize (kwL ++ sgL ++ mnA ++ mnB).map PyData.str = M3 at *
  generalize menuW.map PyData.str = M4 at *
  unfold mnA at a2
  unfold mnB at a3
  unfold mnC at a4
  simp only [List.map_cons, List.map_nil] at a2 a3 a4
  unfold wE lowS at c1
  unfold grtS at u1
  generalize chD c = cc at *
  have hr1 : -4611686018427387904 ≤ 1 + v := by omega
  have hr2 : 1 + v < 4611686018427387904 := by omega
  unfold m_law_some_word b__law_some_word
  simp [sizeLine_eq, startE, argA, bxIx, back, newC, notBor, bxAt, restE, noBx, lstB, lstAt, isNoD, hk, hg, a1, a2, a3, a4, r1, r2, r3, r4, s1, t1, c1, hj, u1, ho, x1, hp, hcut, y1, hr1, hr2, guardO]
end K00
namespace K00
open PySem PySem.Spec PyProof.Rows L3
theorem eqD_shaped {d : D} (h : SeqAt.shaped d = true) (h2 : d.hasDict = false) : eqD d d = some (.dat (.bool true)) := by
  unfold eqD eqOk
  rw [h, eqvX_self d h2]
  simp
theorem eqX_self {d : D} (h : SeqAt.shaped d = true) (h2 : d.hasDict = false) : eqX d d = some (.dat (.bool true)) := by
  have hk : eqK d d = false := by
    cases d with
    | dict kvs => rw [PyData.hasDict] at h2; cases h2
    | _ => rfl
  unfold eqX eqE
  rw [hk]
  simp only [Bool.false_eq_true, if_false]
  rw [eqvX_self d h2, eqD_shaped h h2]
  simp
theorem odd_eq : ∀ d ∈ oddL, eqX d d = some (.dat (.bool true)) := by
  have h : oddL.all (fun d => eqK d d || (SeqAt.shaped d && !d.hasDict)) = true := by decide +kernel
  intro d hd
  have := List.all_eq_true.mp h d hd
  rw [Bool.or_eq_true, Bool.and_eq_true, Bool.not_eq_true'] at this
  rcases this with this | ⟨h1, h2⟩
  · exact eqX_K this
  · exact eqX_self h1 h2
theorem odd_mem {bag : List D} (hb : BagOk bag) : ∃ d bag', m_law_odd [.box false (.lst bag)] = some (.dat d, [.box false (.lst bag')]) ∧ BagOk bag' ∧ d ∈ oddL := by
  obtain ⟨d, bag', h1, h2, h3⟩ := some_ok hb (x := .dat (.list oddL)) (ds := oddL) (.inl rfl) (by simp [oddL]) (by decide)
  refine ⟨d, bag', ?_, h3, h2⟩
  unfold m_law_odd b__law_odd
  have e := pow39
  unfold oddL at h1
  have d0 : dkv [] = [] := rfl
  have d1 : dkv (mergeKD [] [(.inr (Str.ofString "a"), .int 1)]) = [(.str (Str.ofString "a"), .int 1)] := rfl
  simp [sizeLine_eq, startE, argA, bxIx, back, newC, notBor, bxAt, restE, noBx, lstB, lstAt, isNoD, e, addL, d0, d1, h1]
theorem alike_self {d : D} (h : eqX d d = some (.dat (.bool true))) {w : Str} (hr : reprE [d] = some (.dat (.str w))) : m_law_alike [.dat d, .dat d] = some (.dat (.bool true), [.dat d, .dat d]) := by
  unfold m_law_alike b__law_alike
  simp [sizeLine_eq, startE, argA, bxIx, back, newC, notBor, bxAt, restE, noBx, lstB, lstAt, isNoD, h, hr]
def errL (d : D) : List D := [xcD1 (Str.ofString "NoAnswer") (Str.ofString "place") d, xcD1 (Str.ofString "NoCommand") (Str.ofString "line") d, xcD1 (Str.ofString "NoTree") (Str.ofString "index") d, xcD1 (Str.ofString "NoWord") (Str.ofString "place") d,
  xcD1 (Str.ofString "TooLong") (Str.ofString "most") d, xcD1 (Str.ofString "TooMany") (Str.ofString "most") d]
def errM (d : D) : List D := errL d ++ [xcD1 (Str.ofString "Wrong") (Str.ofString "place") d, xcD0 (Str.ofString "NoEnding"), xcD0 (Str.ofString "Nothing")]
def eE (d : D) (er kp j4 j5 j6 : Option A) (bag : List D) : En := [some (.box false (.lst bag)), some (.dat d), er, kp, j4, j5, j6, none, none]
def toldB (i : Nat) : List D := (List.range 9).map fun k => PyData.bool (k == i)
theorem told_sh (i : Nat) : SeqAt.shaped (.list (toldB i)) = true := by
  unfold toldB
  rfl
theorem told_ne (i : Nat) : neD (.list (toldB i)) (.list (toldB i)) = some (.dat (.bool false)) := by
  have h : PyData.hasDict (.list (toldB i)) = false := by unfold toldB; rfl
  unfold neD eqOk
  rw [told_sh i, eqvX_self _ h]
  simp
theorem told_lc (d : D) (er kp j5 : Option A) (bag : List D) (i : Nat) (TL : List D) : lcT (gnm 8) myes M__law_are_errors_right_2 [8] (.items (rngD 0 9)) (eE d er kp (some (.dat (.int i))) j5 (some (.box true (.lst TL))) bag) =
    some (.new (.lst (toldB i)), eE d er kp (some (.dat (.int i))) j5 (some (.box true (.lst TL))) bag) := by
  have e : rngD 0 9 = (List.range 9).map fun k : Nat => PyData.int k := by rfl
  rw [e]
  have l1 := lc_pure (g := gnm 8) (t := myes) (m := M__law_are_errors_right_2) (vs := [8]) (ρ := eE d er kp (some (.dat (.int i))) j5 (some (.box true (.lst TL))) bag) (fun k : Nat => PyData.int k) (fun k => some (.bool (k == i))) (List.range 9)
    (fun k _ => ⟨[some (.box false (.lst bag)), some (.dat d), er, kp, some (.dat (.int i)), j5, some (.box true (.lst TL)), none, some (.dat (.int k))], true, by simp [sizeLine_eq, startE, argA, bxIx, back, newC, notBor, bxAt, restE, noBx, lstB, lstAt, isNoD, eE], by simp [sizeLine_eq, startE, argA, bxIx, back, newC, notBor, bxAt, restE, noBx, lstB, lstAt, isNoD, eE], rfl, by
      have hq : ((k : Int) == (i : Int)) = (k == i) := by
        rw [Bool.eq_iff_iff, beq_iff_eq, beq_iff_eq]; omega
      unfold M__law_are_errors_right_2
      simp [sizeLine_eq, startE, argA, bxIx, back, newC, notBor, bxAt, restE, noBx, lstB, lstAt, isNoD, hq]⟩) (by rw [sizeLine_eq]; decide)
  rw [filterMap_some] at l1
  exact l1
theorem turn_gen (d : D) (er kp j6 : Option A) (bag : List D) (i : Nat) (e : D) (y : Str) (hj : nbA j6 = true) (he : xcN e = some y) {b1 b2 b3 b4 b5 b6 b7 b8 b9 : Bool} (h0 : List.lookup y [(Str.ofString "NoAnswer", true), (Str.ofString "NoCommand", true), (Str.ofString "NoEnding", true), (Str.ofString "NoTree", true), (Str.ofString "NoWord", true), (Str.ofString "Nothing", true), (Str.ofString "TooLong", true), (Str.ofString "TooMany", true), (Str.ofString "Wrong", true)] = some true) (h1 : List.lookup y [(Str.ofString "NoAnswer", true), (Str.ofString "NoCommand", false), (Str.ofString "NoEnding", false), (Str.ofString "NoTree", false), (Str.ofString "NoWord", false), (Str.ofString "Nothing", false), (Str.ofString "TooLong", false), (Str.ofString "TooMany", false), (Str.ofString "Wrong", false)] = some b1) (h2 : List.lookup y [(Str.ofString "NoAnswer", false), (Str.ofString "NoCommand", true), (Str.ofString "NoEnding", false), (Str.ofString "NoTree", false), (Str.ofString "NoWord", false), (Str.ofString "Nothing", false), (Str.ofString "TooLong", false), (Str.ofString "TooMany", false), (Str.ofString "Wrong", false)] = some b2) (h3 : List.lookup y [(Str.ofString "NoAnswer", false), (Str.ofString "NoCommand", false), (Str.ofString "NoEnding", false), (Str.ofString "NoTree", true), (Str.ofString "NoWord", false), (Str.ofString "Nothing", false), (Str.ofString "TooLong", false), (Str.ofString "TooMany", false), (Str.ofString "Wrong", false)] = some b3) (h4 : List.lookup y [(Str.ofString "NoAnswer", false), (Str.ofString "NoCommand", false), (Str.ofString "NoEnding", false), (Str.ofString "NoTree", false), (Str.ofString "NoWord", true), (Str.ofString "Nothing", false), (Str.ofString "TooLong", false), (Str.ofString "TooMany", false), (Str.ofString "Wrong", false)] = some b4) (h5 : List.lookup y [(Str.ofString "NoAnswer", false), (Str.ofString "NoCommand", false), (Str.ofString "NoEnding", false), (Str.ofString "NoTree", false), (Str.ofString "NoWord", false), (Str.ofString "Nothing", false), (Str.ofString "TooLong", true), (Str.ofString "TooMany", false), (Str.ofString "Wrong", false)] = some b5) (h6 : List.lookup y [(Str.ofString "NoAnswer", false), (Str.ofString "NoCommand", false), (Str.ofString "NoEnding", false), (Str.ofString "NoTree", false), (Str.ofString "NoWord", false), (Str.ofString "Nothing", false), (Str.ofString "TooLong", false), (Str.ofString "TooMany", true), (Str.ofString "Wrong", false)] = some b6) (h7 : List.lookup y [(Str.ofString "NoAnswer", false), (Str.ofString "NoCommand", false), (Str.ofString "NoEnding", false), (Str.ofString "NoTree", false), (Str.ofString "NoWord", false), (Str.ofString "Nothing", false), (Str.ofString "TooLong", false), (Str.ofString "TooMany", false), (Str.ofString "Wrong", true)] = some b7) (h8 : List.lookup y [(Str.ofString "NoAnswer", false), (Str.ofString "NoCommand", false), (Str.ofString "NoEnding", true), (Str.ofString "NoTree", false), (Str.ofString "NoWord", false), (Str.ofString "Nothing", false), (Str.ofString "TooLong", false), (Str.ofString "TooMany", false), (Str.ofString "Wrong", false)] = some b8) (h9 : List.lookup y [(Str.ofString "NoAnswer", false), (Str.ofString "NoCommand", false), (Str.ofString "NoEnding", false), (Str.ofString "NoTree", false), (Str.ofString "NoWord", false), (Str.ofString "Nothing", true), (Str.ofString "TooLong", false), (Str.ofString "TooMany", false), (Str.ofString "Wrong", false)] = some b9)
    (hb : [PyData.bool b1, .bool b2, .bool b3, .bool b4, .bool b5, .bool b6, .bool b7, .bool b8, .bool b9] = toldB i) :
    L__law_are_errors_right_3 (eE d er kp (some (.dat (.int i))) (some (.dat e)) j6 bag) = some (.nx, eE d er kp (some (.dat (.int i))) (some (.dat e)) (some (.box true (.lst (toldB i)))) bag) := by
  have hl := told_lc d er kp (some (.dat e)) bag i (toldB i)
  have hn := told_ne i
  have hr : rngD 0 9 = rngD 0 9 := rfl
  have a1 : addD (.list [.bool b1, .bool b2, .bool b3]) (.list [.bool b4, .bool b5, .bool b6]) = some (.new (.lst [.bool b1, .bool b2, .bool b3, .bool b4, .bool b5, .bool b6])) := addL _ _ (by simp)
  have a2 : addD (.list [.bool b1, .bool b2, .bool b3, .bool b4, .bool b5, .bool b6]) (.list [.bool b7, .bool b8, .bool b9]) = some (.new (.lst (toldB i))) := by
    rw [← hb]; exact addL _ _ (by simp)
  generalize toldB i = TB at *
  unfold eE at *
  unfold L__law_are_errors_right_3
  simp [sizeLine_eq, startE, argA, bxIx, back, newC, bxAt, restE, noBx, lstB, lstAt, isNoD, notBor_eq, nb_none, nb_dat, nb_own, hj, he, h0, h1, h2, h3, h4, h5, h6, h7, h8, h9, a1, a2, hl, hn, nb_sD]
end K00
namespace K00
open PySem PySem.Spec PyProof.Rows L3
theorem turn0 (d : D) (er kp j6 : Option A) (bag : List D) (hj : nbA j6 = true) : L__law_are_errors_right_3 (eE d er kp (some (.dat (.int (0 : Nat)))) (some (.dat (xcD1 (Str.ofString "NoAnswer") (Str.ofString "place") d))) j6 bag) = some (.nx, eE d er kp (some (.dat (.int (0 : Nat)))) (some (.dat (xcD1 (Str.ofString "NoAnswer") (Str.ofString "place") d))) (some (.box true (.lst (toldB 0)))) bag) :=
  turn_gen d er kp j6 bag 0 (xcD1 (Str.ofString "NoAnswer") (Str.ofString "place") d) (Str.ofString "NoAnswer") hj rfl (by decide +kernel) (by decide +kernel) (by decide +kernel) (by decide +kernel) (by decide +kernel) (by decide +kernel) (by decide +kernel) (by decide +kernel) (by decide +kernel) (by decide +kernel) rfl
theorem turn1 (d : D) (er kp j6 : Option A) (bag : List D) (hj : nbA j6 = true) : L__law_are_errors_right_3 (eE d er kp (some (.dat (.int (1 : Nat)))) (some (.dat (xcD1 (Str.ofString "NoCommand") (Str.ofString "line") d))) j6 bag) = some (.nx, eE d er kp (some (.dat (.int (1 : Nat)))) (some (.dat (xcD1 (Str.ofString "NoCommand") (Str.ofString "line") d))) (some (.box true (.lst (toldB 1)))) bag) :=
  turn_gen d er kp j6 bag 1 (xcD1 (Str.ofString "NoCommand") (Str.ofString "line") d) (Str.ofString "NoCommand") hj rfl (by decide +kernel) (by decide +kernel) (by decide +kernel) (by decide +kernel) (by decide +kernel) (by decide +kernel) (by decide +kernel) (by decide +kernel) (by decide +kernel) (by decide +kernel) rfl
theorem turn2 (d : D) (er kp j6 : Option A) (bag : List D) (hj : nbA j6 = true) : L__law_are_errors_right_3 (eE d er kp (some (.dat (.int (2 : Nat)))) (some (.dat (xcD1 (Str.ofString "NoTree") (Str.ofString "index") d))) j6 bag) = some (.nx, eE d er kp (some (.dat (.int (2 : Nat)))) (some (.dat (xcD1 (Str.ofString "NoTree") (Str.ofString "index") d))) (some (.box true (.lst (toldB 2)))) bag) :=
  turn_gen d er kp j6 bag 2 (xcD1 (Str.ofString "NoTree") (Str.ofString "index") d) (Str.ofString "NoTree") hj rfl (by decide +kernel) (by decide +kernel) (by decide +kernel) (by decide +kernel) (by decide +kernel) (by decide +kernel) (by decide +kernel) (by decide +kernel) (by decide +kernel) (by decide +kernel) rfl
theorem turn3 (d : D) (er kp j6 : Option A) (bag : List D) (hj : nbA j6 = true) : L__law_are_errors_right_3 (eE d er kp (some (.dat (.int (3 : Nat)))) (some (.dat (xcD1 (Str.ofString "NoWord") (Str.ofString "place") d))) j6 bag) = some (.nx, eE d er kp (some (.dat (.int (3 : Nat)))) (some (.dat (xcD1 (Str.ofString "NoWord") (Str.ofString "place") d))) (some (.box true (.lst (toldB 3)))) bag) :=
  turn_gen d er kp j6 bag 3 (xcD1 (Str.ofString "NoWord") (Str.ofString "place") d) (Str.ofString "NoWord") hj rfl (by decide +kernel) (by decide +kernel) (by decide +kernel) (by decide +kernel) (by decide +kernel) (by decide +kernel) (by decide +kernel) (by decide +kernel) (by decide +kernel) (by decide +kernel) rfl
theorem turn4 (d : D) (er kp j6 : Option A) (bag : List D) (hj : nbA j6 = true) : L__law_are_errors_right_3 (eE d er kp (some (.dat (.int (4 : Nat)))) (some (.dat (xcD1 (Str.ofString "TooLong") (Str.ofString "most") d))) j6 bag) = some (.nx, eE d er kp (some (.dat (.int (4 : Nat)))) (some (.dat (xcD1 (Str.ofString "TooLong") (Str.ofString "most") d))) (some (.box true (.lst (toldB 4)))) bag) :=
  turn_gen d er kp j6 bag 4 (xcD1 (Str.ofString "TooLong") (Str.ofString "most") d) (Str.ofString "TooLong") hj rfl (by decide +kernel) (by decide +kernel) (by decide +kernel) (by decide +kernel) (by decide +kernel) (by decide +kernel) (by decide +kernel) (by decide +kernel) (by decide +kernel) (by decide +kernel) rfl
theorem turn5 (d : D) (er kp j6 : Option A) (bag : List D) (hj : nbA j6 = true) : L__law_are_errors_right_3 (eE d er kp (some (.dat (.int (5 : Nat)))) (some (.dat (xcD1 (Str.ofString "TooMany") (Str.ofString "most") d))) j6 bag) = some (.nx, eE d er kp (some (.dat (.int (5 : Nat)))) (some (.dat (xcD1 (Str.ofString "TooMany") (Str.ofString "most") d))) (some (.box true (.lst (toldB 5)))) bag) :=
  turn_gen d er kp j6 bag 5 (xcD1 (Str.ofString "TooMany") (Str.ofString "most") d) (Str.ofString "TooMany") hj rfl (by decide +kernel) (by decide +kernel) (by decide +kernel) (by decide +kernel) (by decide +kernel) (by decide +kernel) (by decide +kernel) (by decide +kernel) (by decide +kernel) (by decide +kernel) rfl
theorem turn6 (d : D) (er kp j6 : Option A) (bag : List D) (hj : nbA j6 = true) : L__law_are_errors_right_3 (eE d er kp (some (.dat (.int (6 : Nat)))) (some (.dat (xcD1 (Str.ofString "Wrong") (Str.ofString "place") d))) j6 bag) = some (.nx, eE d er kp (some (.dat (.int (6 : Nat)))) (some (.dat (xcD1 (Str.ofString "Wrong") (Str.ofString "place") d))) (some (.box true (.lst (toldB 6)))) bag) :=
  turn_gen d er kp j6 bag 6 (xcD1 (Str.ofString "Wrong") (Str.ofString "place") d) (Str.ofString "Wrong") hj rfl (by decide +kernel) (by decide +kernel) (by decide +kernel) (by decide +kernel) (by decide +kernel) (by decide +kernel) (by decide +kernel) (by decide +kernel) (by decide +kernel) (by decide +kernel) rfl
theorem turn7 (d : D) (er kp j6 : Option A) (bag : List D) (hj : nbA j6 = true) : L__law_are_errors_right_3 (eE d er kp (some (.dat (.int (7 : Nat)))) (some (.dat (xcD0 (Str.ofString "NoEnding")))) j6 bag) = some (.nx, eE d er kp (some (.dat (.int (7 : Nat)))) (some (.dat (xcD0 (Str.ofString "NoEnding")))) (some (.box true (.lst (toldB 7)))) bag) :=
  turn_gen d er kp j6 bag 7 (xcD0 (Str.ofString "NoEnding")) (Str.ofString "NoEnding") hj rfl (by decide +kernel) (by decide +kernel) (by decide +kernel) (by decide +kernel) (by decide +kernel) (by decide +kernel) (by decide +kernel) (by decide +kernel) (by decide +kernel) (by decide +kernel) rfl
theorem turn8 (d : D) (er kp j6 : Option A) (bag : List D) (hj : nbA j6 = true) : L__law_are_errors_right_3 (eE d er kp (some (.dat (.int (8 : Nat)))) (some (.dat (xcD0 (Str.ofString "Nothing")))) j6 bag) = some (.nx, eE d er kp (some (.dat (.int (8 : Nat)))) (some (.dat (xcD0 (Str.ofString "Nothing")))) (some (.box true (.lst (toldB 8)))) bag) :=
  turn_gen d er kp j6 bag 8 (xcD0 (Str.ofString "Nothing")) (Str.ofString "Nothing") hj rfl (by decide +kernel) (by decide +kernel) (by decide +kernel) (by decide +kernel) (by decide +kernel) (by decide +kernel) (by decide +kernel) (by decide +kernel) (by decide +kernel) (by decide +kernel) rfl
theorem enum_err (d : D) : enumD (errM d) = [.tuple [.int (0 : Nat), xcD1 (Str.ofString "NoAnswer") (Str.ofString "place") d], .tuple [.int (1 : Nat), xcD1 (Str.ofString "NoCommand") (Str.ofString "line") d], .tuple [.int (2 : Nat), xcD1 (Str.ofString "NoTree") (Str.ofString "index") d], .tuple [.int (3 : Nat), xcD1 (Str.ofString "NoWord") (Str.ofString "place") d], .tuple [.int (4 : Nat), xcD1 (Str.ofString "TooLong") (Str.ofString "most") d], .tuple [.int (5 : Nat), xcD1 (Str.ofString "TooMany") (Str.ofString "most") d], .tuple [.int (6 : Nat), xcD1 (Str.ofString "Wrong") (Str.ofString "place") d], .tuple [.int (7 : Nat), xcD0 (Str.ofString "NoEnding")], .tuple [.int (8 : Nat), xcD0 (Str.ofString "Nothing")]] := rfl
def LpE (d : D) (er kp : Option A) (bag : List D) (r : List D) (ρ : En) : Prop := (∀ x ∈ r, x ∈ enumD (errM d)) ∧ ∃ j4 j5 j6, ρ = eE d er kp j4 j5 j6 bag ∧ nbA j4 = true ∧ nbA j5 = true ∧ nbA j6 = true
theorem err_loop (d : D) (er kp : Option A) (bag : List D) : ∃ j4 j5 j6, mforI (gtup [4, 5]) L__law_are_errors_right_3 (enumD (errM d)) (eE d er kp none none none bag) = some (.nx, eE d er kp j4 j5 j6 bag) := by
  obtain ⟨ρ', h1, _, j4, j5, j6, rfl, _⟩ := forI_run (g := gtup [4, 5]) (b := L__law_are_errors_right_3) (P := LpE d er kp bag) (fun x r ρ hP => by
    obtain ⟨hm, j4, j5, j6, rfl, n4, n5, n6⟩ := hP
    have hx := hm x List.mem_cons_self
    have hr : ∀ x ∈ r, x ∈ enumD (errM d) := fun y hy => hm y (List.mem_cons_of_mem _ hy)
    have fin : ∀ (i : Nat) (e : D) (j : Option A), x = .tuple [.int i, e] → nbA j = true → L__law_are_errors_right_3 (eE d er kp (some (.dat (.int i))) (some (.dat e)) j6 bag) = some (.nx, eE d er kp (some (.dat (.int i))) (some (.dat e)) j bag) →
        ∃ ρ1 o ρ2, gtup [4, 5] x (eE d er kp j4 j5 j6 bag) = some ρ1 ∧ L__law_are_errors_right_3 ρ1 = some (o, ρ2) ∧ (o = .nx ∨ o = .ct) ∧ LpE d er kp bag r ρ2 := fun i e j hx nj hb =>
      ⟨eE d er kp (some (.dat (.int i))) (some (.dat e)) j6 bag, .nx, _, by subst hx; simp [sizeLine_eq, startE, argA, bxIx, back, newC, bxAt, restE, noBx, lstB, lstAt, isNoD, notBor_eq, nb_none, nb_dat, nb_own, eE, n4, n5], hb, .inl rfl, hr, _, _, _, rfl, rfl, rfl, nj⟩
    rw [enum_err] at hx
    simp only [List.mem_cons, List.not_mem_nil, or_false] at hx
    rcases hx with hx | hx | hx | hx | hx | hx | hx | hx | hx
    · exact fin 0 _ _ hx rfl (turn0 d er kp j6 bag n6)
    · exact fin 1 _ _ hx rfl (turn1 d er kp j6 bag n6)
    · exact fin 2 _ _ hx rfl (turn2 d er kp j6 bag n6)
    · exact fin 3 _ _ hx rfl (turn3 d er kp j6 bag n6)
    · exact fin 4 _ _ hx rfl (turn4 d er kp j6 bag n6)
    · exact fin 5 _ _ hx rfl (turn5 d er kp j6 bag n6)
    · exact fin 6 _ _ hx rfl (turn6 d er kp j6 bag n6)
    · exact fin 7 _ _ hx rfl (turn7 d er kp j6 bag n6)
    · exact fin 8 _ _ hx rfl (turn8 d er kp j6 bag n6)) (enumD (errM d)) (eE d er kp none none none bag) ⟨fun x h => h, none, none, none, rfl, rfl, rfl, rfl⟩
  exact ⟨j4, j5, j6, h1⟩
end K00
namespace K00
open PySem PySem.Spec PyProof.Rows L3
theorem kept_lc {d : D} (hs : m_law_alike [.dat d, .dat d] = some (.dat (.bool true), [.dat d, .dat d])) (er kp : Option A) (bag : List D) : lcT (gnm 7) T__law_are_errors_right_1 M__law_are_errors_right_1 [7] (.items [d, d, d, d, d, d, d]) (eE d er kp none none none bag) =
    some (.new (.lst []), eE d er kp none none none bag) := by
  have l1 := lc_pure (g := gnm 7) (t := T__law_are_errors_right_1) (m := M__law_are_errors_right_1) (vs := [7]) (ρ := eE d er kp none none none bag) (fun _ : Nat => d) (fun _ => none) [0, 0, 0, 0, 0, 0, 0]
    (fun k _ => ⟨[some (.box false (.lst bag)), some (.dat d), er, kp, none, none, none, some (.dat d), none], false, by simp [sizeLine_eq, startE, argA, bxIx, back, newC, notBor, bxAt, restE, noBx, lstB, lstAt, isNoD, eE], by simp [sizeLine_eq, startE, argA, bxIx, back, newC, notBor, bxAt, restE, noBx, lstB, lstAt, isNoD, eE], by
      unfold T__law_are_errors_right_1
      simp [sizeLine_eq, startE, argA, bxIx, back, newC, notBor, bxAt, restE, noBx, lstB, lstAt, isNoD, hs], rfl⟩) (by rw [sizeLine_eq]; decide)
  exact l1
theorem errors_ok {bag : List D} (hb : BagOk bag) : ∃ bag', m_law_are_errors_right [.box false (.lst bag)] = some (.dat (.bool true), [.box false (.lst bag')]) ∧ BagOk bag' := by
  obtain ⟨d, bag', h1, hb', hd⟩ := odd_mem hb
  have hs := alike_self (odd_eq d hd) ((odd_tm d hd).repr (by decide) (by decide))
  have hk := kept_lc hs (some (.box true (.lst (errM d)))) (some (.box true (.lst [d, d, d, d, d, d]))) bag'
  obtain ⟨j4, j5, j6, hl⟩ := err_loop d (some (.dat (.list (errM d)))) (some (.box true (.lst [d, d, d, d, d, d]))) bag'
  refine ⟨bag', ?_, hb'⟩
  have i0 : L2.atI (errL d) 0 = some (xcD1 (Str.ofString "NoAnswer") (Str.ofString "place") d) := rfl
  have i1 : L2.atI (errL d) 1 = some (xcD1 (Str.ofString "NoCommand") (Str.ofString "line") d) := rfl
  have i2 : L2.atI (errL d) 2 = some (xcD1 (Str.ofString "NoTree") (Str.ofString "index") d) := rfl
  have i3 : L2.atI (errL d) 3 = some (xcD1 (Str.ofString "NoWord") (Str.ofString "place") d) := rfl
  have i4 : L2.atI (errL d) 4 = some (xcD1 (Str.ofString "TooLong") (Str.ofString "most") d) := rfl
  have i5 : L2.atI (errL d) 5 = some (xcD1 (Str.ofString "TooMany") (Str.ofString "most") d) := rfl
  have i6 : L2.atI (errM d) 6 = some (xcD1 (Str.ofString "Wrong") (Str.ofString "place") d) := rfl
  have a1 : addD (.list (errL d)) (.list [xcD1 (Str.ofString "Wrong") (Str.ofString "place") d, xcD0 (Str.ofString "NoEnding"), xcD0 (Str.ofString "Nothing")]) = some (.new (.lst (errM d))) := addL _ _ (by simp [errL])
  have a2 : addD (.list [d, d, d, d, d, d]) (.list [d]) = some (.new (.lst [d, d, d, d, d, d, d])) := addL _ _ (by simp)
  have n1 := neD_lnil ([] : List D)
  have eL : [xcD1 (Str.ofString "NoAnswer") (Str.ofString "place") d, xcD1 (Str.ofString "NoCommand") (Str.ofString "line") d, xcD1 (Str.ofString "NoTree") (Str.ofString "index") d, xcD1 (Str.ofString "NoWord") (Str.ofString "place") d,
    xcD1 (Str.ofString "TooLong") (Str.ofString "most") d, xcD1 (Str.ofString "TooMany") (Str.ofString "most") d] = errL d := rfl
  have z1 : (errL d).length ≤ 16777216 := by simp [errL]
  have z2 : (errM d).length ≤ 16777216 := by simp [errM, errL]
  unfold eE at *
  generalize errM d = EM at *
  generalize errL d = EL at *
  unfold m_law_are_errors_right b__law_are_errors_right
  simp [sizeLine_eq, startE, argA, bxIx, back, newC, notBor, bxAt, restE, noBx, lstB, lstAt, isNoD, h1, eL, i0, i1, i2, i3, i4, i5, i6, a1, a2, hk, n1, hl, z1, z2]
end K00
namespace K00
open PySem PySem.Spec PyProof.Rows L3
def scB : D → Bool
  | .none => true
  | .bool _ => true
  | .str s => PyData.strOk s && decide (s.length ≤ 10)
  | _ => false
theorem sc_pl {d : D} (h : scB d = true) : Pl 0 102 d := by
  cases d with
  | none => exact ⟨rfl, rfl, rfl, Nat.le_refl _, by decide⟩
  | bool b => exact ⟨rfl, rfl, rfl, Nat.le_refl _, by rw [wX]; decide⟩
  | str s =>
    unfold scB at h
    rw [Bool.and_eq_true, decide_eq_true_eq] at h
    exact ⟨by rw [okX]; exact h.1, rfl, rfl, Nat.le_refl _, by rw [wX]; have := h.2; omega⟩
  | int _ => cases h
  | list _ => cases h
  | tuple _ => cases h
  | dict _ => cases h
theorem sort_sc (s : Str) : scB (sortD s) = true := by
  unfold sortD
  by_cases k1 : s ∈ kwL
  · rw [if_pos k1]; decide +kernel
  rw [if_neg k1]
  by_cases k2 : s ∈ sgL
  · rw [if_pos k2]; decide +kernel
  rw [if_neg k2]
  cases nmS s <;> cases nuS s <;> decide +kernel
theorem sortA_sc (d : D) : scB (sortA d) = true := by
  cases d with
  | str s => exact sort_sc s
  | _ => rfl
theorem alike_sc {L : List D} (h : ∀ d ∈ L, scB d = true) (hl : L.length ≤ 100) : m_law_alike [.dat (.list L), .dat (.list L)] = some (.dat (.bool true), [.dat (.list L), .dat (.list L)]) := by
  have hp : PlL 0 (L.length * (102 + 2)) L := PlL.of_all fun d hd => sc_pl (h d hd)
  have ht := hp.lst
  have hn : Nd 1 (L.length * (102 + 2) + 3) (.list L) := ⟨ht.ok, hp.1.2.1, ht.dep, ht.wt⟩
  exact alike_self (eqX_self (hn.shaped (by decide)) hn.nd) (ht.repr (by decide) (by omega))
structure XcE (e : D) : Prop where
  nf : notFn e = true
  ty : ∀ T ∈ ["str", "tuple", "int", "bool"], isTy T e = false
theorem xcE1 (x f : Str) (d : D) : XcE (xcD1 x f d) := ⟨rfl, fun T h => by
  rw [isTy_xc1]
  exact (show ∀ T ∈ ["str", "tuple", "int", "bool"], ("object" == T) = false by decide) T h⟩
theorem xcE0 (x : Str) : XcE (xcD0 x) := ⟨rfl, fun T h => by
  rw [isTy_xc0]
  exact (show ∀ T ∈ ["str", "tuple", "int", "bool"], ("object" == T) = false by decide) T h⟩
section
variable {e : D}
theorem xc_sort (h : XcE e) : p_sort_of_word [.dat e] = some (.dat .none, [.dat e]) := by
  have h1 := h.nf
  have h2 := h.ty "str" (by decide)
  unfold p_sort_of_word b_sort_of_word
  simp [sizeLine_eq, startE, argA, bxIx, back, newC, notBor, bxAt, restE, noBx, lstB, lstAt, isNoD, h1, h2]
theorem xc_row (h : XcE e) : p_is_row [.dat e] = some (.dat (.bool false), [.dat e]) := by
  have h1 := h.nf
  have h2 := h.ty "tuple" (by decide)
  unfold p_is_row b_is_row
  simp [sizeLine_eq, startE, argA, bxIx, back, newC, notBor, bxAt, restE, noBx, lstB, lstAt, isNoD, h1, h2]
theorem xc_int (h : XcE e) : p_is_integer [.dat e] = some (.dat (.bool false), [.dat e]) := by
  have h1 := h.nf
  have h2 := h.ty "int" (by decide)
  unfold p_is_integer b_is_integer
  simp [sizeLine_eq, startE, argA, bxIx, back, newC, notBor, bxAt, restE, noBx, lstB, lstAt, isNoD, h1, h2]
theorem xc_name (h : XcE e) : p_is_name [.dat e] = some (.dat (.bool false), [.dat e]) := by
  have h1 := xc_sort h
  have h2 := eq_non
  unfold p_is_name b_is_name
  simp [sizeLine_eq, startE, argA, bxIx, back, newC, notBor, bxAt, restE, noBx, lstB, lstAt, isNoD, h1, h2]
theorem xc_kind (h : XcE e) : p_is_kind [.dat e] = some (.dat (.bool false), [.dat e]) := by
  have h1 := xc_name h
  have h2 := h.nf
  have h3 := h.ty "str" (by decide)
  unfold p_is_kind b_is_kind
  simp [sizeLine_eq, startE, argA, bxIx, back, newC, notBor, bxAt, restE, noBx, lstB, lstAt, isNoD, h1, h2, h3]
theorem xc_lot (h : XcE e) : p_is_lot [.dat e] = some (.dat (.bool false), [.dat e]) := by
  have h1 := h.nf
  have h2 := h.ty "tuple" (by decide)
  unfold p_is_lot b_is_lot
  simp [sizeLine_eq, startE, argA, bxIx, back, newC, notBor, bxAt, restE, noBx, lstB, lstAt, isNoD, h1, h2]
end
def gE (sc : D) (bag : List D) (j2 j3 j4 j5 j6 j7 j8 j9 j10 j11 : Option A) : En := [some (.dat sc), some (.box true (.lst bag)), j2, j3, j4, j5, j6, j7, j8, j9, j10, j11, none]
theorem xc_turn {e : D} (h : XcE e) (sc : D) (bag : List D) (j5 : Option A) (n5 : nbA j5 = true) : ∃ j, L_law_1 (gE sc bag (some (.dat e)) none none j5 none none none none none none) = some (.nx, gE sc bag (some (.dat e)) none none j none none none none none none) ∧ nbA j = true := by
  have h1 := xc_sort h
  have h2 := xc_row h
  have h3 := xc_int h
  have h4 := xc_name h
  have h5 := xc_kind h
  have h6 := xc_lot h
  have a1 : addD (.list [.none, .bool false, .bool false, .bool false, .bool false]) (.list [.bool false]) = some (.new (.lst [.none, .bool false, .bool false, .bool false, .bool false, .bool false])) := addL _ _ (by decide)
  have m1 : mulD (.list [.bool false]) (.int 5) = some (.new (.lst [.bool false, .bool false, .bool false, .bool false, .bool false])) := by rfl
  have a2 : addD (.list [.none]) (.list [.bool false, .bool false, .bool false, .bool false, .bool false]) = some (.new (.lst [.none, .bool false, .bool false, .bool false, .bool false, .bool false])) := addL _ _ (by decide)
  have hs := alike_sc (L := [.none, .bool false, .bool false, .bool false, .bool false, .bool false]) (by decide) (by decide)
  refine ⟨some (.box true (.lst [.none, .bool false, .bool false, .bool false, .bool false])), ?_, rfl⟩
  unfold L_law_1 gE
  simp [sizeLine_eq, startE, argA, bxIx, back, newC, bxAt, restE, noBx, lstB, lstAt, isNoD, notBor_eq, nb_none, nb_dat, nb_own, n5, h1, h2, h3, h4, h5, h6, a1, m1, a2, hs]
end K00
namespace K00
open PySem PySem.Spec PyProof.Rows L3
theorem alike_bx {L : List D} (h : ∀ d ∈ L, scB d = true) (hl : L.length ≤ 100) : m_law_alike [.box false (.lst L), .box false (.lst L)] = some (.dat (.bool true), [.box false (.lst L), .box false (.lst L)]) := by
  have hp : PlL 0 (L.length * (102 + 2)) L := PlL.of_all fun d hd => sc_pl (h d hd)
  have ht := hp.lst
  have hn : Nd 1 (L.length * (102 + 2) + 3) (.list L) := ⟨ht.ok, hp.1.2.1, ht.dep, ht.wt⟩
  have h1 := eqX_self (hn.shaped (by decide)) hn.nd
  have h2 := ht.repr (by decide) (by omega)
  generalize (PyData.list L).shown = w at *
  unfold m_law_alike b__law_alike
  simp [sizeLine_eq, startE, argA, bxIx, back, newC, notBor, bxAt, restE, noBx, lstB, lstAt, isNoD, h1, h2]
theorem filt_wd (ds : List D) : (ds.filterMap fun d => if (!wdB d) = true then some d else none).isEmpty = ds.all wdB := by
  induction ds with
  | nil => rfl
  | cons d r ih =>
    rw [List.all_cons, ← ih, List.filterMap_cons]
    cases wdB d <;> rfl
theorem row_lc (sc : D) (bag : List D) (x j3 j4 j5 j6 j7 j8 j9 j10 j11 : Option A) (ds : List D) (hl : ds.length ≤ 10000000) {m : Nat} (h : ∀ d ∈ ds, Jd m d) : lcT (gnm 12) T_law_3 M_law_3 [12] (.items ds) (gE sc bag x j3 j4 j5 j6 j7 j8 j9 j10 j11) =
    some (.new (.lst (ds.filterMap fun d => if (!wdB d) = true then some d else none)), gE sc bag x j3 j4 j5 j6 j7 j8 j9 j10 j11) := by
  have l1 := lc_pure (g := gnm 12) (t := T_law_3) (m := M_law_3) (vs := [12]) (ρ := gE sc bag x j3 j4 j5 j6 j7 j8 j9 j10 j11) id (fun d => if (!wdB d) = true then some d else none) ds
    (fun d hd => ⟨[some (.dat sc), some (.box true (.lst bag)), x, j3, j4, j5, j6, j7, j8, j9, j10, j11, some (.dat d)], !wdB d, by simp [sizeLine_eq, startE, argA, bxIx, back, newC, bxAt, restE, noBx, lstB, lstAt, isNoD, notBor_eq, nb_none, nb_dat, nb_own, gE], by simp [sizeLine_eq, startE, argA, bxIx, back, newC, bxAt, restE, noBx, lstB, lstAt, isNoD, notBor_eq, nb_none, nb_dat, nb_own, gE], by
      have h1 := law_word_ok (h d hd)
      generalize wdB d = b at *
      unfold T_law_3
      simp [sizeLine_eq, startE, argA, bxIx, back, newC, bxAt, restE, noBx, lstB, lstAt, isNoD, notBor_eq, nb_none, nb_dat, nb_own, h1], by
      cases hb : wdB d with
      | true => rfl
      | false => exact ⟨rfl, by unfold M_law_3; simp [sizeLine_eq, startE, argA, bxIx, back, newC, bxAt, restE, noBx, lstB, lstAt, isNoD, notBor_eq, nb_none, nb_dat, nb_own]⟩⟩) (by rw [sizeLine_eq]; omega)
  rw [List.map_id] at l1
  exact l1
def e9 : ME := mif (mtru (misi "str" (mvar 2))) (mcall m_law_sort (mcons (mvar 2) mnil)) (mcon .none)
def e10 : ME := mandV (misi "tuple" (mvar 2)) (m2 eqD (mlc (miseqC (mvar 2)) (gnm 12) T_law_3 M_law_3 [12]) (mlst mnil))
theorem e9_ok {n : Nat} {d : D} (h : Jd n d) (sc : D) (bag : List D) (j3 j4 j5 j6 j7 j8 j9 j10 j11 : Option A) : e9 (gE sc bag (some (.dat d)) j3 j4 j5 j6 j7 j8 j9 j10 j11) = some (.dat (sortA d), gE sc bag (some (.dat d)) j3 j4 j5 j6 j7 j8 j9 j10 j11) := by
  have hn := notFn_of h.fn
  have ht := isTy_str d
  unfold e9 gE
  cases d with
  | str s =>
    have h1 := law_sort_ok s h.st
    show _ = some (R.dat (sortD s), _)
    generalize sortD s = o at *
    simp [sizeLine_eq, startE, argA, bxIx, back, newC, bxAt, restE, noBx, lstB, lstAt, isNoD, notBor_eq, nb_none, nb_dat, nb_own, h1]
  | dict kvs => simp [sizeLine_eq, startE, argA, bxIx, back, newC, bxAt, restE, noBx, lstB, lstAt, isNoD, notBor_eq, nb_none, nb_dat, nb_own, hn, ht, strB, sortA]
  | none => simp [sizeLine_eq, startE, argA, bxIx, back, newC, bxAt, restE, noBx, lstB, lstAt, isNoD, notBor_eq, nb_none, nb_dat, nb_own, sortA]
  | bool _ => simp [sizeLine_eq, startE, argA, bxIx, back, newC, bxAt, restE, noBx, lstB, lstAt, isNoD, notBor_eq, nb_none, nb_dat, nb_own, sortA]
  | int _ => simp [sizeLine_eq, startE, argA, bxIx, back, newC, bxAt, restE, noBx, lstB, lstAt, isNoD, notBor_eq, nb_none, nb_dat, nb_own, sortA]
  | list _ => simp [sizeLine_eq, startE, argA, bxIx, back, newC, bxAt, restE, noBx, lstB, lstAt, isNoD, notBor_eq, nb_none, nb_dat, nb_own, sortA]
  | tuple _ => simp [sizeLine_eq, startE, argA, bxIx, back, newC, bxAt, restE, noBx, lstB, lstAt, isNoD, notBor_eq, nb_none, nb_dat, nb_own, sortA]
theorem e10_ok {n : Nat} {d : D} (h : Jd n d) (sc : D) (bag : List D) (j3 j4 j5 j6 j7 j8 j9 j10 j11 : Option A) : e10 (gE sc bag (some (.dat d)) j3 j4 j5 j6 j7 j8 j9 j10 j11) = some (.dat (.bool (rowB d)), gE sc bag (some (.dat d)) j3 j4 j5 j6 j7 j8 j9 j10 j11) := by
  have hn := notFn_of h.fn
  unfold e10
  cases d with
  | tuple ds =>
    obtain ⟨m, _, hl, hd⟩ := h.tup
    have l1 := row_lc sc bag (some (.dat (.tuple ds))) j3 j4 j5 j6 j7 j8 j9 j10 j11 ds hl hd
    have hq := filt_wd ds
    show _ = some (R.dat (.bool (ds.all wdB)), _)
    rw [← hq]
    generalize (ds.filterMap fun d => if (!wdB d) = true then some d else none) = O at *
    have e1 := eqD_lnil O
    unfold gE at *
    simp [sizeLine_eq, startE, argA, bxIx, back, newC, bxAt, restE, noBx, lstB, lstAt, isNoD, notBor_eq, nb_none, nb_dat, nb_own, l1, e1]
  | dict kvs => unfold gE; simp [sizeLine_eq, startE, argA, bxIx, back, newC, bxAt, restE, noBx, lstB, lstAt, isNoD, notBor_eq, nb_none, nb_dat, nb_own, hn, rowB]
  | none => unfold gE; simp [sizeLine_eq, startE, argA, bxIx, back, newC, bxAt, restE, noBx, lstB, lstAt, isNoD, notBor_eq, nb_none, nb_dat, nb_own, rowB]
  | bool _ => unfold gE; simp [sizeLine_eq, startE, argA, bxIx, back, newC, bxAt, restE, noBx, lstB, lstAt, isNoD, notBor_eq, nb_none, nb_dat, nb_own, rowB]
  | int _ => unfold gE; simp [sizeLine_eq, startE, argA, bxIx, back, newC, bxAt, restE, noBx, lstB, lstAt, isNoD, notBor_eq, nb_none, nb_dat, nb_own, rowB]
  | list _ => unfold gE; simp [sizeLine_eq, startE, argA, bxIx, back, newC, bxAt, restE, noBx, lstB, lstAt, isNoD, notBor_eq, nb_none, nb_dat, nb_own, rowB]
  | str _ => unfold gE; simp [sizeLine_eq, startE, argA, bxIx, back, newC, bxAt, restE, noBx, lstB, lstAt, isNoD, notBor_eq, nb_none, nb_dat, nb_own, rowB]
theorem law4_eq : L_law_4 = (mseq (masg 8 (mn reprE (mcons (mvar 2) mnil)))
    (mseq (masg 9 e9)
    (mseq (masg 10 e10)
    (mseq (masg 5 (mlst (mcons (mcall p_sort_of_word (mcons (mvar 2) mnil)) (mcons (mcall p_is_row (mcons (mvar 2) mnil)) (mcons (mcall p_is_integer (mcons (mvar 2) mnil)) mnil)))))
    (mseq (masg 5 (m2 addD (mvar 5) (mlst (mcons (mcall p_is_name (mcons (mvar 2) mnil)) (mcons (mcall p_is_kind (mcons (mvar 2) mnil)) (mcons (mcall p_is_lot (mcons (mfz (mvar 2)) mnil)) mnil))))))
    (mseq (masg 11 (mlst (mcons (mvar 9) (mcons (mvar 10) (mcons (mcall m_law_is_int (mcons (mvar 2) mnil)) (mcons (mcall m_law_is_name (mcons (mvar 2) mnil)) (mcons (mcall m_law_is_kind (mcons (mvar 2) mnil)) (mcons (mcall m_law_is_lot (mcons (mvar 2) mnil)) mnil))))))))
    (mifS (morT (mnot (mtru (mcall m_law_alike (mcons (mvar 5) (mcons (mvar 11) mnil))))) (mtst (m2 neD (mn reprE (mcons (mvar 2) mnil)) (mvar 8)))) (mret (mcon (.bool false))) mpass))))))) := rfl
theorem in_turn {n w : Nat} {d : D} (h : TJ n w d) (hn : n ≤ 60) (hw : w ≤ 1000000) (sc : D) (bag : List D) (j3 j4 j5 j6 j7 j8 j9 j10 j11 : Option A) (n5 : nbA j5 = true) (n8 : nbA j8 = true) (n9 : nbA j9 = true) (n10 : nbA j10 = true) (n11 : nbA j11 = true) :
    ∃ k5 k8 k9 k10 k11, L_law_4 (gE sc bag (some (.dat d)) j3 j4 j5 j6 j7 j8 j9 j10 j11) = some (.nx, gE sc bag (some (.dat d)) j3 j4 k5 j6 j7 k8 k9 k10 k11) ∧ nbA k5 = true ∧ nbA k8 = true ∧ nbA k9 = true ∧ nbA k10 = true ∧ nbA k11 = true := by
  have hr := h.tm.repr (by omega) (by omega)
  have hj := h.jd
  have h1 := sort_any hj
  have h2 := row_any hj
  have h3 := is_integer_ok hj
  have h4 := is_name_ok hj
  have h5 := is_kind_ok hj
  have h6 := lot_any hj
  have g3 := law_is_int_ok hj
  have g4 := law_is_name_ok hj
  have g5 := law_is_kind_ok hj
  have g6 := llot_any hj
  have hs := alike_bx (L := [sortA d, .bool (rowB d), .bool (isI d), .bool (nmB d), .bool (kdB d), .bool (lotB d)]) (by
    intro e he
    simp only [List.mem_cons, List.not_mem_nil, or_false] at he
    rcases he with rfl | rfl | rfl | rfl | rfl | rfl
    · exact sortA_sc d
    all_goals rfl) (by simp)
  have a1 : addD (.list [sortA d, .bool (rowB d), .bool (isI d)]) (.list [.bool (nmB d), .bool (kdB d), .bool (lotB d)]) = some (.new (.lst [sortA d, .bool (rowB d), .bool (isI d), .bool (nmB d), .bool (kdB d), .bool (lotB d)])) := addL _ _ (by simp)
  have e9' := fun x => e9_ok hj sc bag j3 j4 j5 j6 j7 x j9 j10 j11
  have e10' := fun x y => e10_ok hj sc bag j3 j4 j5 j6 j7 x y j10 j11
  have hne : neD (.str d.shown) (.str d.shown) = some (.dat (.bool false)) := by
    simp
  rw [law4_eq]
  generalize sortA d = o at *
  generalize rowB d = b1 at *
  generalize isI d = b2 at *
  generalize nmB d = b3 at *
  generalize kdB d = b4 at *
  generalize lotB d = b5 at *
  generalize d.shown = w0 at *
  refine ⟨some (.box true (.lst [o, .bool b1, .bool b2, .bool b3, .bool b4, .bool b5])), some (.dat (.str w0)), some (.dat o), some (.dat (.bool b1)), some (.box true (.lst [o, .bool b1, .bool b2, .bool b3, .bool b4, .bool b5])), ?_, rfl, rfl, rfl, rfl, rfl⟩
  refine seq_nx (ρ' := gE sc bag (some (.dat d)) j3 j4 j5 j6 j7 (some (.dat (.str w0))) j9 j10 j11) (by unfold gE; simp [sizeLine_eq, startE, argA, bxIx, back, newC, bxAt, restE, noBx, lstB, lstAt, isNoD, notBor_eq, nb_none, nb_dat, nb_own, n8, hr]) ?_
  refine seq_nx (ρ' := gE sc bag (some (.dat d)) j3 j4 j5 j6 j7 (some (.dat (.str w0))) (some (.dat o)) j10 j11) (by unfold gE at *; simp [sizeLine_eq, startE, argA, bxIx, back, newC, bxAt, restE, noBx, lstB, lstAt, isNoD, notBor_eq, nb_none, nb_dat, nb_own, n9, e9']) ?_
  refine seq_nx (ρ' := gE sc bag (some (.dat d)) j3 j4 j5 j6 j7 (some (.dat (.str w0))) (some (.dat o)) (some (.dat (.bool b1))) j11) (by unfold gE at *; simp [sizeLine_eq, startE, argA, bxIx, back, newC, bxAt, restE, noBx, lstB, lstAt, isNoD, notBor_eq, nb_none, nb_dat, nb_own, n10, e10']) ?_
  refine seq_nx (ρ' := gE sc bag (some (.dat d)) j3 j4 (some (.box true (.lst [o, .bool b1, .bool b2]))) j6 j7 (some (.dat (.str w0))) (some (.dat o)) (some (.dat (.bool b1))) j11) (by unfold gE; simp [sizeLine_eq, startE, argA, bxIx, back, newC, bxAt, restE, noBx, lstB, lstAt, isNoD, notBor_eq, nb_none, nb_dat, nb_own, n5, h1, h2, h3]) ?_
  refine seq_nx (ρ' := gE sc bag (some (.dat d)) j3 j4 (some (.box true (.lst [o, .bool b1, .bool b2, .bool b3, .bool b4, .bool b5]))) j6 j7 (some (.dat (.str w0))) (some (.dat o)) (some (.dat (.bool b1))) j11) (by unfold gE; simp [sizeLine_eq, startE, argA, bxIx, back, newC, bxAt, restE, noBx, lstB, lstAt, isNoD, notBor_eq, nb_none, nb_dat, nb_own, h4, h5, h6, a1]) ?_
  refine seq_nx (ρ' := gE sc bag (some (.dat d)) j3 j4 (some (.box true (.lst [o, .bool b1, .bool b2, .bool b3, .bool b4, .bool b5]))) j6 j7 (some (.dat (.str w0))) (some (.dat o)) (some (.dat (.bool b1))) (some (.box true (.lst [o, .bool b1, .bool b2, .bool b3, .bool b4, .bool b5])))) (by unfold gE; simp [sizeLine_eq, startE, argA, bxIx, back, newC, bxAt, restE, noBx, lstB, lstAt, isNoD, notBor_eq, nb_none, nb_dat, nb_own, n11, g3, g4, g5, g6]) ?_
  unfold gE
  generalize [o, PyData.bool b1, .bool b2, .bool b3, .bool b4, .bool b5] = LL at *
  simp [sizeLine_eq, startE, argA, bxIx, back, newC, bxAt, restE, noBx, lstB, lstAt, isNoD, notBor_eq, nb_none, nb_dat, nb_own, hs, hr]
end K00
namespace K00
open PySem PySem.Spec PyProof.Rows L3
def isW (d : D) : Prop := ∃ s, d = .str s ∧ WS 50 s
theorem words_of {ds : List D} (h : ∀ d ∈ ds, isW d) : ∃ ss : List Str, ds = ss.map PyData.str ∧ ∀ s ∈ ss, WS 50 s := by
  induction ds with
  | nil => exact ⟨[], rfl, nofun⟩
  | cons d r ih =>
    obtain ⟨ss, rfl, hs⟩ := ih fun x hx => h x (List.mem_cons_of_mem _ hx)
    obtain ⟨s, rfl, hw⟩ := h d List.mem_cons_self
    exact ⟨s :: ss, rfl, fun x hx => (List.mem_cons.mp hx).elim (fun e => e ▸ hw) (hs x)⟩
theorem w_pl {s : Str} (h : WS 50 s) : Pl 0 502 (.str s) := ⟨by rw [okX]; exact h.1, rfl, rfl, Nat.le_refl _, by rw [wX]; have := h.2; omega⟩
theorem w_sm {s : Str} (h : WS 50 s) : smX (.str s) = true := by rw [smX, decide_eq_true_eq]; have := h.2; omega
theorem ws_pl {ss : List Str} (h : ∀ s ∈ ss, WS 50 s) : PlL 0 (ss.length * (502 + 2)) (ss.map PyData.str) := by
  have := PlL.of_all (ds := ss.map PyData.str) (n := 0) (v := 502) fun d hd => by
    obtain ⟨s, hs, rfl⟩ := List.mem_map.mp hd
    exact w_pl (h s hs)
  rwa [List.length_map] at this
/-- what a thing is -/
def TH (d : D) : Prop := ∃ n w, TJ n w d ∧ n ≤ 60 ∧ w ≤ 1000000
theorem th_str {s : Str} (h : WS 50 s) : TH (.str s) := ⟨3, 502, tj_str h.1 (by have := h.2; omega) (by decide), by decide, by decide⟩
theorem th_tup {ss : List Str} (h : ∀ s ∈ ss, WS 50 s) (hl : ss.length ≤ 10) : TH (.tuple (ss.map PyData.str)) := ⟨1, ss.length * (502 + 2) + 3, tj_pl (ws_pl h).tup (by omega), by decide, by omega⟩
theorem th_lst {ss : List Str} (h : ∀ s ∈ ss, WS 50 s) (hl : ss.length ≤ 10) : TH (.list (ss.map PyData.str)) := ⟨1, ss.length * (502 + 2) + 3, ⟨(ws_pl h).lst, jd_list 1 _⟩, by decide, by omega⟩
theorem rng_len (m : Int) (h0 : 0 ≤ m) (n : Nat) (hm : m ≤ n) : (rngD 0 m).length ≤ n := by
  unfold rngD
  rw [List.length_map, List.length_range]
  omega
theorem round_lc (sc : D) (x j3 j4 j5 j6 j7 j8 j9 j10 j11 : Option A) {bag : List D} (hb : BagOk bag) (m : Int) (h0 : 0 ≤ m) (h1 : m ≤ 3) :
    ∃ (ss : List Str) (bag' : List D), lcT (gnm 12) myes M_law_2 [12] (.items (rngD 0 m)) (gE sc bag x j3 j4 j5 j6 j7 j8 j9 j10 j11) = some (.new (.lst (ss.map PyData.str)), gE sc bag' x j3 j4 j5 j6 j7 j8 j9 j10 j11) ∧ BagOk bag' ∧ ss.length ≤ 3 ∧ ∀ s ∈ ss, WS 50 s := by
  have hr := rng_len m h0 3 h1
  obtain ⟨acc, bag', h2, h3, h4, h5⟩ := lc_draw (B := BagOk) (g := gnm 12) (m := M_law_2) (vs := [12]) (fun bag => gE sc bag x j3 j4 j5 j6 j7 j8 j9 j10 j11) isW (ds := rngD 0 m) (by rw [sizeLine_eq]; omega) hb
    (fun b v hv => by rw [List.mem_singleton.mp hv]; rfl) (fun d hd b hb' => by
      obtain ⟨s, b', e1, e2, e3⟩ := some_word_ok hb'
      refine ⟨[some (.dat sc), some (.box true (.lst b)), x, j3, j4, j5, j6, j7, j8, j9, j10, j11, some (.dat d)], .dat (.str s), [some (.dat sc), some (.box true (.lst b')), x, j3, j4, j5, j6, j7, j8, j9, j10, j11, some (.dat d)], .str s, [some (.dat sc), some (.box true (.lst b')), x, j3, j4, j5, j6, j7, j8, j9, j10, j11, some (.dat d)], b', by simp [sizeLine_eq, startE, argA, bxIx, back, newC, bxAt, restE, noBx, lstB, lstAt, isNoD, notBor_eq, nb_none, nb_dat, nb_own, gE], ?_, by simp [sizeLine_eq, startE, argA, bxIx, back, newC, bxAt, restE, noBx, lstB, lstAt, isNoD, notBor_eq, nb_none, nb_dat, nb_own], rfl, e2, s, rfl, e3⟩
      unfold M_law_2
      simp [sizeLine_eq, startE, argA, bxIx, back, newC, bxAt, restE, noBx, lstB, lstAt, isNoD, notBor_eq, nb_none, nb_dat, nb_own, e1])
  obtain ⟨ss, rfl, hs⟩ := words_of h5
  rw [List.length_map] at h4
  exact ⟨ss, bag', h2, h3, by omega, hs⟩
def moreL : List D := [.list [], .list [], .list [.str (Str.ofString "a\n")], .list [.str (Str.ofString "num\n")]]
theorem more_mem : ∀ d ∈ moreL, ∃ ss : List Str, d = .list (ss.map PyData.str) ∧ ss.length ≤ 1 ∧ ∀ s ∈ ss, WS 50 s := by
  intro d hd
  simp only [moreL, List.mem_cons, List.not_mem_nil, or_false] at hd
  rcases hd with rfl | rfl | rfl | rfl
  · exact ⟨[], rfl, by decide, nofun⟩
  · exact ⟨[], rfl, by decide, nofun⟩
  · exact ⟨[Str.ofString "a\n"], rfl, by decide, fun s hs => by rw [List.mem_singleton.mp hs]; exact ⟨by decide +kernel, by decide +kernel⟩⟩
  · exact ⟨[Str.ofString "num\n"], rfl, by decide, fun s hs => by rw [List.mem_singleton.mp hs]; exact ⟨by decide +kernel, by decide +kernel⟩⟩
def ThOk (sc : D) (bag : List D) (j3 j4 j6 j7 : Option A) (r : List D) (ρ : En) : Prop := (∀ d ∈ r, TH d) ∧ ∃ j2 j5 j8 j9 j10 j11, ρ = gE sc bag j2 j3 j4 j5 j6 j7 j8 j9 j10 j11 ∧ nbA j2 = true ∧ nbA j5 = true ∧ nbA j8 = true ∧ nbA j9 = true ∧ nbA j10 = true ∧ nbA j11 = true
theorem things_loop (sc : D) (bag : List D) (j2 j3 j4 j5 j6 j7 j8 j9 j10 j11 : Option A) (th : List D) (h : ∀ d ∈ th, TH d) (n2 : nbA j2 = true) (n5 : nbA j5 = true) (n8 : nbA j8 = true) (n9 : nbA j9 = true) (n10 : nbA j10 = true) (n11 : nbA j11 = true) :
    ∃ ρ', mforI (gnm 2) L_law_4 th (gE sc bag j2 j3 j4 j5 j6 j7 j8 j9 j10 j11) = some (.nx, ρ') ∧ ThOk sc bag j3 j4 j6 j7 [] ρ' := by
  refine forI_run (g := gnm 2) (b := L_law_4) (P := ThOk sc bag j3 j4 j6 j7) (fun d r ρ hP => ?_) th _ ⟨h, j2, j5, j8, j9, j10, j11, rfl, n2, n5, n8, n9, n10, n11⟩
  obtain ⟨hm, j2, j5, j8, j9, j10, j11, rfl, n2, n5, n8, n9, n10, n11⟩ := hP
  obtain ⟨n, w, ht, hn, hw⟩ := hm d List.mem_cons_self
  obtain ⟨k5, k8, k9, k10, k11, hb, m5, m8, m9, m10, m11⟩ := in_turn ht hn hw sc bag j3 j4 j5 j6 j7 j8 j9 j10 j11 n5 n8 n9 n10 n11
  exact ⟨gE sc bag (some (.dat d)) j3 j4 j5 j6 j7 j8 j9 j10 j11, .nx, _, by unfold gE; simp [sizeLine_eq, startE, argA, bxIx, back, newC, bxAt, restE, noBx, lstB, lstAt, isNoD, notBor_eq, nb_none, nb_dat, nb_own, n2], hb, .inl rfl, fun x hx => hm x (List.mem_cons_of_mem _ hx), _, _, _, _, _, _, rfl, rfl, m5, m8, m9, m10, m11⟩
/-- what a round keeps -/
def RdOk (sc : D) (j3 : Option A) (ρ : En) : Prop := ∃ bag j2 j4 j5 j6 j7 j8 j9 j10 j11, BagOk bag ∧ ρ = gE sc bag j2 j3 j4 j5 j6 j7 j8 j9 j10 j11 ∧ nbA j2 = true ∧ nbA j4 = true ∧ nbA j5 = true ∧ nbA j6 = true ∧ nbA j7 = true ∧ nbA j8 = true ∧ nbA j9 = true ∧ nbA j10 = true ∧ nbA j11 = true
theorem tup_list (ds : List D) (h : ds.length ≤ 1000) : tupleD [.list ds] = some (.dat (.tuple ds)) := rfl
theorem round_ok (sc : D) (j3 : Option A) (ρ : En) (h : RdOk sc j3 ρ) : ∃ ρ', L_law_5 ρ = some (.nx, ρ') ∧ RdOk sc j3 ρ' := by
  obtain ⟨bag, j2, j4, j5, j6, j7, j8, j9, j10, j11, hb, rfl, n2, n4, n5, n6, n7, n8, n9, n10, n11⟩ := h
  obtain ⟨d1, bag1, s1, s2, s3⟩ := some_ok hb (x := .dat (.list [.int 1, .int 2, .int 0, .int 3])) (ds := [.int 1, .int 2, .int 0, .int 3]) (.inl rfl) (by simp) (by decide)
  obtain ⟨m, rfl, m0, m1⟩ : ∃ m : Int, d1 = .int m ∧ 0 ≤ m ∧ m ≤ 3 := by
    simp only [List.mem_cons, List.not_mem_nil, or_false] at s2
    rcases s2 with rfl | rfl | rfl | rfl <;> exact ⟨_, rfl, by decide, by decide⟩
  obtain ⟨ss, bag2, l1, l2, l3, l4⟩ := round_lc sc j2 j3 j4 j5 j6 j7 j8 j9 j10 j11 s3 m m0 m1
  obtain ⟨d2, bag3, t1, t2, t3⟩ := some_ok l2 (x := .dat (.list moreL)) (ds := moreL) (.inl rfl) (by simp [moreL]) (by decide)
  obtain ⟨ms, rfl, k1, k2⟩ := more_mem d2 t2
  have a1 : addD (.list (ss.map PyData.str)) (.list (ms.map PyData.str)) = some (.new (.lst ((ss ++ ms).map PyData.str))) := add_strs _ _ (by omega)
  have hW : ∀ s ∈ ss ++ ms, WS 50 s := fun s hs => (List.mem_append.mp hs).elim (l4 s) (k2 s)
  have hWl : (ss ++ ms).length ≤ 4 := by rw [List.length_append]; omega
  generalize ss ++ ms = ws at *
  obtain ⟨od, bag4, o1, o2, o3⟩ := odd_ok t3
  have a2 : addD (.list (ws.map PyData.str)) (.list [.str (Str.ofString "a")]) = some (.new (.lst ((ws ++ [Str.ofString "a"]).map PyData.str))) := add_strs ws [Str.ofString "a"] (by simp; omega)
  obtain ⟨d3, bag5, u1, u2, u3⟩ := some_ok o2 (x := .dat (.list ((ws ++ [Str.ofString "a"]).map PyData.str))) (ds := (ws ++ [Str.ofString "a"]).map PyData.str) (.inl rfl) (by simp) (by simp; omega)
  obtain ⟨w1, hw1, rfl⟩ := List.mem_map.mp u2
  have hw1 : WS 50 w1 := (List.mem_append.mp hw1).elim (hW w1) fun e => by rw [List.mem_singleton.mp e]; exact ⟨by decide +kernel, by decide +kernel⟩
  have hp := (ws_pl hW).tup
  obtain ⟨r, bag6, b1, b2, bd, br, btm, bjd⟩ := bent_ok 2 1 (.tuple (ws.map PyData.str)) ⟨hp.ok, hp.nd, hp.nl, hp.dep, Nat.le_refl _⟩ (by have := hp.wt; omega) (sm_tup fun y hy => by
    obtain ⟨s, hs, rfl⟩ := List.mem_map.mp hy
    exact w_sm (hW s hs)) (by decide) bag5 u3 30 (by decide)
  replace b1 : m_law_bent 30 [.box false (.lst bag5), .dat (.tuple (ws.map PyData.str)), .dat (.int 2)] = some (r, [.box false (.lst bag6), .dat (.tuple (ws.map PyData.str)), .dat (.int 2)]) := b1
  have htu := tup_list (ws.map PyData.str) (by rw [List.length_map]; omega)
  have hth : ∀ d ∈ [od, .str w1, .tuple (ws.map PyData.str), .list (ws.map PyData.str), bd], TH d := by
    intro d hd
    simp only [List.mem_cons, List.not_mem_nil, or_false] at hd
    rcases hd with rfl | rfl | rfl | rfl | rfl
    · exact ⟨3, 1000, o3, by decide, by decide⟩
    · exact th_str hw1
    · exact th_tup hW (by omega)
    · exact th_lst hW (by omega)
    · exact ⟨_, _, ⟨btm, bjd⟩, by decide, by have := hp.wt; omega⟩
  obtain ⟨ρ', f1, _, i2, i5, i8, i9, i10, i11, rfl, q2, q5, q8, q9, q10, q11⟩ := things_loop sc bag6 j2 j3 j4 j5 (some (.dat (.list (ws.map PyData.str)))) (some (.dat (.list [od, .str w1, .tuple (ws.map PyData.str), .list (ws.map PyData.str), bd]))) j8 j9 j10 j11 _ hth n2 n5 n8 n9 n10 n11
  have key : L_law_5 (gE sc bag j2 j3 j4 j5 j6 j7 j8 j9 j10 j11) = some (.nx, gE sc bag6 i2 j3 j4 i5 (some (.dat (.list (ws.map PyData.str)))) (some (.dat (.list [od, .str w1, .tuple (ws.map PyData.str), .list (ws.map PyData.str), bd]))) i8 i9 i10 i11) := by
    generalize (ws ++ [Str.ofString "a"]).map PyData.str = W2 at *
    generalize ws.map PyData.str = W at *
    generalize ms.map PyData.str = M at *
    generalize ss.map PyData.str = SS at *
    have hr1 : -4611686018427387904 ≤ m := by omega
    have hr2 : m < 4611686018427387904 := by omega
    unfold moreL at t1
    unfold gE at *
    unfold L_law_5
    rcases br with rfl | ⟨l, rfl, rfl⟩
    · simp [sizeLine_eq, startE, argA, bxIx, back, newC, bxAt, restE, noBx, lstB, lstAt, isNoD, notBor_eq, nb_none, nb_dat, nb_own, n6, n7, s1, hr1, hr2, guardO, l1, t1, a1, o1, a2, u1, b1, appendD, f1]
    · simp [sizeLine_eq, startE, argA, bxIx, back, newC, bxAt, restE, noBx, lstB, lstAt, isNoD, notBor_eq, nb_none, nb_dat, nb_own, n6, n7, s1, hr1, hr2, guardO, l1, t1, a1, o1, a2, u1, b1, appendD, f1]
  exact ⟨_, key, bag6, i2, j4, i5, _, _, i8, i9, i10, i11, b2, rfl, q2, n4, q5, rfl, rfl, q8, q9, q10, q11⟩
end K00
namespace K00
open PySem PySem.Spec PyProof.Rows L3
theorem xc_loop (sc : D) (bag : List D) : ∃ j2 j5, mforI (gnm 2) L_law_1 [xcD1 (Str.ofString "Wrong") (Str.ofString "place") (.int 0), xcD0 (Str.ofString "NoEnding")] (gE sc bag none none none none none none none none none none) = some (.nx, gE sc bag j2 none none j5 none none none none none none) ∧ nbA j2 = true ∧ nbA j5 = true := by
  obtain ⟨k1, e1, m1⟩ := xc_turn (xcE1 (Str.ofString "Wrong") (Str.ofString "place") (.int 0)) sc bag none rfl
  obtain ⟨k2, e2, m2⟩ := xc_turn (xcE0 (Str.ofString "NoEnding")) sc bag k1 m1
  generalize xcD1 (Str.ofString "Wrong") (Str.ofString "place") (.int 0) = x1 at *
  generalize xcD0 (Str.ofString "NoEnding") = x2 at *
  refine ⟨some (.dat x2), k2, ?_, rfl, m2⟩
  unfold mforI
  have g1 : gnm 2 x1 (gE sc bag none none none none none none none none none none) = some (gE sc bag (some (.dat x1)) none none none none none none none none none) := by unfold gE; simp [sizeLine_eq, startE, argA, bxIx, back, newC, bxAt, restE, noBx, lstB, lstAt, isNoD, notBor_eq, nb_none, nb_dat, nb_own]
  have g2 : gnm 2 x2 (gE sc bag (some (.dat x1)) none none k1 none none none none none none) = some (gE sc bag (some (.dat x2)) none none k1 none none none none none none) := by unfold gE; simp [sizeLine_eq, startE, argA, bxIx, back, newC, bxAt, restE, noBx, lstB, lstAt, isNoD, notBor_eq, nb_none, nb_dat, nb_own]
  rw [g1, Option.bind_some, e1, Option.bind_some]
  show mforI _ _ _ _ = _
  unfold mforI
  rw [g2, Option.bind_some, e2, Option.bind_some]
  rfl
theorem law_true (ns : List Int) (h : ns.length ≤ 63) : ∃ outs, p_law [.dat (.list (ns.map PyData.int))] = some (.dat (.bool true), outs) ∧ outs.map isBx = [false] := by
  obtain ⟨bag, b1, b2⟩ := bag_ok ns h
  obtain ⟨bag1, c1, c2⟩ := errors_ok b2
  obtain ⟨j2, j5, d1, d2, d3⟩ := xc_loop (.list (ns.map PyData.int)) bag1
  have hwd : wdB (.str (Str.ofString "a")) = true := by decide +kernel
  have hwA : wdB (.str (Str.ofString "A")) = false := by decide +kernel
  have hjs : ∀ d ∈ List.replicate 401 (PyData.str (Str.ofString "a")) ++ [.str (Str.ofString "A")], Jd 0 d := fun d hd => by
    rcases List.mem_append.mp hd with hd | hd
    · rw [(List.mem_replicate.mp hd).2]; exact ⟨rfl, fun s e => by cases e; decide +kernel, nofun⟩
    · rw [List.mem_singleton.mp hd]; exact ⟨rfl, fun s e => by cases e; decide +kernel, nofun⟩
  have r1 := row_tup (ds := List.replicate 401 (PyData.str (Str.ofString "a"))) (by rw [List.length_replicate]; decide) fun d hd => hjs d (List.mem_append_left _ hd)
  have r2 := row_tup (ds := List.replicate 401 (PyData.str (Str.ofString "a")) ++ [.str (Str.ofString "A")]) (by rw [List.length_append, List.length_replicate]; decide) hjs
  have q1 : (List.replicate 401 (PyData.str (Str.ofString "a"))).all wdB = true := List.all_eq_true.mpr fun d hd => by rw [(List.mem_replicate.mp hd).2]; exact hwd
  rw [List.all_append, q1, Bool.true_and] at r2
  rw [q1] at r1
  have q2 : ([PyData.str (Str.ofString "A")]).all wdB = false := by rw [List.all_cons, hwA]; rfl
  rw [q2] at r2
  have m1 : mulTD (.tuple [.str (Str.ofString "a")]) (.int 401) = some (.dat (.tuple (List.replicate 401 (PyData.str (Str.ofString "a"))))) := by
    show (if [PyData.str (Str.ofString "a")] ≠ [] ∧ (2 : Int) ≤ 401 ∧ (401 : Int) ≤ 1000 ∧ [PyData.str (Str.ofString "a")].length ≤ 100 then some (R.dat (PyData.tuple (List.replicate 401 [PyData.str (Str.ofString "a")]).flatten)) else none) = _
    rw [if_pos ⟨by simp, by decide, by decide, by decide⟩]
    refine congrArg (fun l => some (R.dat (.tuple l))) ?_
    show (List.replicate 401 [PyData.str (Str.ofString "a")]).flatten = _
    generalize 401 = n
    induction n with
    | zero => rfl
    | succ n ih => rw [List.replicate_succ, List.flatten_cons, ih]; rfl
  have a1 : addD (.tuple (List.replicate 401 (PyData.str (Str.ofString "a")))) (.tuple [.str (Str.ofString "A")]) = some (.dat (.tuple (List.replicate 401 (PyData.str (Str.ofString "a")) ++ [.str (Str.ofString "A")]))) := addTu _ _ (by rw [List.length_replicate]; decide)
  have hs := alike_sc (L := [.bool true, .bool false]) (by decide) (by decide)
  generalize List.replicate 401 (PyData.str (Str.ofString "a")) ++ [.str (Str.ofString "A")] = RA at *
  generalize List.replicate 401 (PyData.str (Str.ofString "a")) = RR at *
  obtain ⟨ρ', f1, bag2, i2, i4, i5, i6, i7, i8, i9, i10, i11, f2, rfl, _⟩ := forI_run (g := gnm 4) (b := L_law_5) (P := fun _ ρ => RdOk (.list (ns.map PyData.int)) (some (.dat (.tuple RR))) ρ) (fun d r ρ hP => by
    obtain ⟨bag, j2, j4, j5, j6, j7, j8, j9, j10, j11, hb, rfl, n2, n4, n⟩ := hP
    obtain ⟨ρ', h1, h2⟩ := round_ok (.list (ns.map PyData.int)) (some (.dat (.tuple RR))) _ ⟨bag, j2, some (.dat d), j5, j6, j7, j8, j9, j10, j11, hb, rfl, n2, rfl, n⟩
    refine ⟨_, .nx, ρ', ?_, h1, .inl rfl, h2⟩
    unfold gE
    simp [sizeLine_eq, startE, argA, bxIx, back, newC, bxAt, restE, noBx, lstB, lstAt, isNoD, notBor_eq, nb_none, nb_dat, nb_own, n4]) (rngD 0 30) (gE (.list (ns.map PyData.int)) bag1 j2 (some (.dat (.tuple RR))) none j5 none none none none none none) ⟨bag1, j2, none, j5, none, none, none, none, none, none, c2, rfl, d2, rfl, d3, rfl, rfl, rfl, rfl, rfl, rfl⟩
  refine ⟨[.dat (.list (ns.map PyData.int))], ?_, rfl⟩
  generalize PyData.list (ns.map PyData.int) = sc at *
  unfold gE at *
  unfold p_law b_law
  simp [sizeLine_eq, startE, argA, bxIx, back, newC, bxAt, restE, noBx, lstB, lstAt, isNoD, notBor_eq, nb_none, nb_dat, nb_own, b1, c1, d1, m1, r1, a1, r2, hs, f1]
end K00
namespace K00
open PySem PySem.Spec PyProof.Rows L2 L3
def topS (i : Nat) : Stmt := PySem.Challenge.pw_endsahead_k00_errors_and_words_of_any_va.main.body.getD i (.Pass ⟨0, 0, 0, 0⟩)
abbrev s__law_alike : Stmt := topS 31
theorem sc__law_alike : FnScope ["_law_found", "_law_due"] ["_law_found", "_law_due"] (defScope s__law_alike) := ⟨rfl, rfl, rfl, by decide +kernel, rfl, by decide +kernel, by decide +kernel⟩
abbrev s__law_take : Stmt := topS 29
theorem sc__law_take : FnScope ["_law_bag_here", "_law_many", "_law_begin", "_law_second", "_law_cell", "_law_stirred", "_law_value"] ["_law_bag_here", "_law_many"] (defScope s__law_take) := ⟨rfl, rfl, rfl, by decide +kernel, rfl, by decide +kernel, by decide +kernel⟩
abbrev s__law_some : Stmt := topS 30
theorem sc__law_some : FnScope ["_law_bag_here", "_law_things"] ["_law_bag_here", "_law_things"] (defScope s__law_some) := ⟨rfl, rfl, rfl, by decide +kernel, rfl, by decide +kernel, by decide +kernel⟩
abbrev s__law_odd : Stmt := topS 41
theorem sc__law_odd : FnScope ["_law_bag_here", "_law_menu"] ["_law_bag_here"] (defScope s__law_odd) := ⟨rfl, rfl, rfl, by decide +kernel, rfl, by decide +kernel, by decide +kernel⟩
abbrev s__law_are_errors_right : Stmt := topS 45
theorem sc__law_are_errors_right : FnScope ["_law_bag_here", "_law_thing", "_law_errors", "_law_kept", "_law_at", "_law_error", "_law_told", "_law_one", "_law_place"] ["_law_bag_here"] (defScope s__law_are_errors_right) := ⟨rfl, rfl, rfl, by decide +kernel, rfl, by decide +kernel, by decide +kernel⟩
abbrev s__law_bag : Stmt := topS 28
theorem sc__law_bag : FnScope ["_law_script", "_law_cell"] ["_law_script"] (defScope s__law_bag) := ⟨rfl, rfl, rfl, by decide +kernel, rfl, by decide +kernel, by decide +kernel⟩
abbrev s__law_is_int : Stmt := topS 32
theorem sc__law_is_int : FnScope ["_law_thing"] ["_law_thing"] (defScope s__law_is_int) := ⟨rfl, rfl, rfl, by decide +kernel, rfl, by decide +kernel, by decide +kernel⟩
abbrev s__law_bent : Stmt := topS 42
theorem sc__law_bent : FnScope ["_law_bag_here", "_law_thing", "_law_deep", "_law_way", "_law_at", "_law_more"] ["_law_bag_here", "_law_thing", "_law_deep"] (defScope s__law_bent) := ⟨rfl, rfl, rfl, by decide +kernel, rfl, by decide +kernel, by decide +kernel⟩
abbrev s__law_is_digit : Stmt := topS 36
theorem sc__law_is_digit : FnScope ["_law_sign"] ["_law_sign"] (defScope s__law_is_digit) := ⟨rfl, rfl, rfl, by decide +kernel, rfl, by decide +kernel, by decide +kernel⟩
abbrev s__law_is_letter : Stmt := topS 35
theorem sc__law_is_letter : FnScope ["_law_sign"] ["_law_sign"] (defScope s__law_is_letter) := ⟨rfl, rfl, rfl, by decide +kernel, rfl, by decide +kernel, by decide +kernel⟩
abbrev s__law_keywords : Stmt := topS 33
theorem sc__law_keywords : FnScope ["_law_words"] [] (defScope s__law_keywords) := ⟨rfl, rfl, rfl, by decide +kernel, rfl, by decide +kernel, by decide +kernel⟩
abbrev s__law_signs : Stmt := topS 34
theorem sc__law_signs : FnScope [] [] (defScope s__law_signs) := ⟨rfl, rfl, rfl, by decide +kernel, rfl, by decide +kernel, by decide +kernel⟩
abbrev s__law_sort : Stmt := topS 37
theorem sc__law_sort : FnScope ["_law_word", "_law_odd_here", "_law_is_number", "_law_sign"] ["_law_word"] (defScope s__law_sort) := ⟨rfl, rfl, rfl, by decide +kernel, rfl, by decide +kernel, by decide +kernel⟩
abbrev s__law_is_name : Stmt := topS 39
theorem sc__law_is_name : FnScope ["_law_thing"] ["_law_thing"] (defScope s__law_is_name) := ⟨rfl, rfl, rfl, by decide +kernel, rfl, by decide +kernel, by decide +kernel⟩
abbrev s__law_is_kind : Stmt := topS 40
theorem sc__law_is_kind : FnScope ["_law_thing"] ["_law_thing"] (defScope s__law_is_kind) := ⟨rfl, rfl, rfl, by decide +kernel, rfl, by decide +kernel, by decide +kernel⟩
abbrev s__law_is_lot : Stmt := topS 44
theorem sc__law_is_lot : FnScope ["_law_thing", "_law_at", "_law_one"] ["_law_thing"] (defScope s__law_is_lot) := ⟨rfl, rfl, rfl, by decide +kernel, rfl, by decide +kernel, by decide +kernel⟩
abbrev s__law_is_word : Stmt := topS 38
theorem sc__law_is_word : FnScope ["_law_thing"] ["_law_thing"] (defScope s__law_is_word) := ⟨rfl, rfl, rfl, by decide +kernel, rfl, by decide +kernel, by decide +kernel⟩
abbrev s__law_some_word : Stmt := topS 43
theorem sc__law_some_word : FnScope ["_law_bag_here", "_law_menu", "_law_word", "_law_signs_here", "_law_drawn", "_law_odd_here", "_law_turn"] ["_law_bag_here"] (defScope s__law_some_word) := ⟨rfl, rfl, rfl, by decide +kernel, rfl, by decide +kernel, by decide +kernel⟩
abbrev s_is_integer : Stmt := topS 23
theorem sc_is_integer : FnScope ["thing"] ["thing"] (defScope s_is_integer) := ⟨rfl, rfl, rfl, by decide +kernel, rfl, by decide +kernel, by decide +kernel⟩
abbrev s_is_named : Stmt := topS 18
theorem sc_is_named : FnScope ["word", "sign"] ["word"] (defScope s_is_named) := ⟨rfl, rfl, rfl, by decide +kernel, rfl, by decide +kernel, by decide +kernel⟩
abbrev s_is_number : Stmt := topS 19
theorem sc_is_number : FnScope ["word", "sign"] ["word"] (defScope s_is_number) := ⟨rfl, rfl, rfl, by decide +kernel, rfl, by decide +kernel, by decide +kernel⟩
abbrev s_sort_of_word : Stmt := topS 20
theorem sc_sort_of_word : FnScope ["thing"] ["thing"] (defScope s_sort_of_word) := ⟨rfl, rfl, rfl, by decide +kernel, rfl, by decide +kernel, by decide +kernel⟩
abbrev s_is_name : Stmt := topS 24
theorem sc_is_name : FnScope ["thing"] ["thing"] (defScope s_is_name) := ⟨rfl, rfl, rfl, by decide +kernel, rfl, by decide +kernel, by decide +kernel⟩
abbrev s_is_kind : Stmt := topS 25
theorem sc_is_kind : FnScope ["thing"] ["thing"] (defScope s_is_kind) := ⟨rfl, rfl, rfl, by decide +kernel, rfl, by decide +kernel, by decide +kernel⟩
abbrev s_is_lot : Stmt := topS 26
theorem sc_is_lot : FnScope ["thing", "one", "other"] ["thing"] (defScope s_is_lot) := ⟨rfl, rfl, rfl, by decide +kernel, rfl, by decide +kernel, by decide +kernel⟩
abbrev s_is_row : Stmt := topS 21
theorem sc_is_row : FnScope ["thing", "word"] ["thing"] (defScope s_is_row) := ⟨rfl, rfl, rfl, by decide +kernel, rfl, by decide +kernel, by decide +kernel⟩
abbrev s_law : Stmt := topS 46
theorem sc_law : FnScope ["_law_script", "_law_bag_here", "_law_thing", "_law_many", "_law_turn", "_law_told", "_law_words", "_law_things", "_law_said", "_law_sort_here", "_law_is_all", "_law_due", "_law_one"] ["_law_script"] (defScope s_law) := ⟨rfl, rfl, rfl, by decide +kernel, rfl, by decide +kernel, by decide +kernel⟩
abbrev si_NoAnswer : Stmt := clsInit (topS 2)
theorem bi_NoAnswer : InitSt si_NoAnswer (Str.ofString "place") (Str.ofString "place") := ⟨⟨_, _, _, _, _, _, _, _, _, _, rfl, rfl⟩, ⟨rfl, rfl, rfl, rfl, rfl, by decide +kernel, rfl, rfl, rfl, rfl⟩, fun _ _ _ _ _ _ _ _ _ _ _ _ _ _ _ => .of_eq rfl, ⟨_, rfl, rfl⟩⟩
abbrev si_NoCommand : Stmt := clsInit (topS 3)
theorem bi_NoCommand : InitSt si_NoCommand (Str.ofString "line") (Str.ofString "line") := ⟨⟨_, _, _, _, _, _, _, _, _, _, rfl, rfl⟩, ⟨rfl, rfl, rfl, rfl, rfl, by decide +kernel, rfl, rfl, rfl, rfl⟩, fun _ _ _ _ _ _ _ _ _ _ _ _ _ _ _ => .of_eq rfl, ⟨_, rfl, rfl⟩⟩
abbrev si_NoTree : Stmt := clsInit (topS 5)
theorem bi_NoTree : InitSt si_NoTree (Str.ofString "index") (Str.ofString "index") := ⟨⟨_, _, _, _, _, _, _, _, _, _, rfl, rfl⟩, ⟨rfl, rfl, rfl, rfl, rfl, by decide +kernel, rfl, rfl, rfl, rfl⟩, fun _ _ _ _ _ _ _ _ _ _ _ _ _ _ _ => .of_eq rfl, ⟨_, rfl, rfl⟩⟩
abbrev si_NoWord : Stmt := clsInit (topS 6)
theorem bi_NoWord : InitSt si_NoWord (Str.ofString "place") (Str.ofString "place") := ⟨⟨_, _, _, _, _, _, _, _, _, _, rfl, rfl⟩, ⟨rfl, rfl, rfl, rfl, rfl, by decide +kernel, rfl, rfl, rfl, rfl⟩, fun _ _ _ _ _ _ _ _ _ _ _ _ _ _ _ => .of_eq rfl, ⟨_, rfl, rfl⟩⟩
abbrev si_TooLong : Stmt := clsInit (topS 8)
theorem bi_TooLong : InitSt si_TooLong (Str.ofString "most") (Str.ofString "most") := ⟨⟨_, _, _, _, _, _, _, _, _, _, rfl, rfl⟩, ⟨rfl, rfl, rfl, rfl, rfl, by decide +kernel, rfl, rfl, rfl, rfl⟩, fun _ _ _ _ _ _ _ _ _ _ _ _ _ _ _ => .of_eq rfl, ⟨_, rfl, rfl⟩⟩
abbrev si_TooMany : Stmt := clsInit (topS 9)
theorem bi_TooMany : InitSt si_TooMany (Str.ofString "most") (Str.ofString "most") := ⟨⟨_, _, _, _, _, _, _, _, _, _, rfl, rfl⟩, ⟨rfl, rfl, rfl, rfl, rfl, by decide +kernel, rfl, rfl, rfl, rfl⟩, fun _ _ _ _ _ _ _ _ _ _ _ _ _ _ _ => .of_eq rfl, ⟨_, rfl, rfl⟩⟩
abbrev si_Wrong : Stmt := clsInit (topS 10)
theorem bi_Wrong : InitSt si_Wrong (Str.ofString "place") (Str.ofString "place") := ⟨⟨_, _, _, _, _, _, _, _, _, _, rfl, rfl⟩, ⟨rfl, rfl, rfl, rfl, rfl, by decide +kernel, rfl, rfl, rfl, rfl⟩, fun _ _ _ _ _ _ _ _ _ _ _ _ _ _ _ => .of_eq rfl, ⟨_, rfl, rfl⟩⟩
/-- what the top has written -/
structure Fx (G : GC) where
  f__law_alike : Addr
  d__law_alike : FuncData
  F__law_alike : Fun G.K "_law_alike" "_law_alike" s__law_alike f__law_alike d__law_alike
  g__law_alike : G.mg "_law_alike" = some (.ref f__law_alike)
  b__law_alike : Binds G.K d__law_alike ["_law_found", "_law_due"] []
  f__law_take : Addr
  d__law_take : FuncData
  F__law_take : Fun G.K "_law_take" "_law_take" s__law_take f__law_take d__law_take
  g__law_take : G.mg "_law_take" = some (.ref f__law_take)
  b__law_take : Binds G.K d__law_take ["_law_bag_here", "_law_many"] []
  f__law_some : Addr
  d__law_some : FuncData
  F__law_some : Fun G.K "_law_some" "_law_some" s__law_some f__law_some d__law_some
  g__law_some : G.mg "_law_some" = some (.ref f__law_some)
  b__law_some : Binds G.K d__law_some ["_law_bag_here", "_law_things"] []
  f__law_odd : Addr
  d__law_odd : FuncData
  F__law_odd : Fun G.K "_law_odd" "_law_odd" s__law_odd f__law_odd d__law_odd
  g__law_odd : G.mg "_law_odd" = some (.ref f__law_odd)
  b__law_odd : Binds G.K d__law_odd ["_law_bag_here"] []
  f__law_are_errors_right : Addr
  d__law_are_errors_right : FuncData
  F__law_are_errors_right : Fun G.K "_law_are_errors_right" "_law_are_errors_right" s__law_are_errors_right f__law_are_errors_right d__law_are_errors_right
  g__law_are_errors_right : G.mg "_law_are_errors_right" = some (.ref f__law_are_errors_right)
  b__law_are_errors_right : Binds G.K d__law_are_errors_right ["_law_bag_here"] []
  f__law_bag : Addr
  d__law_bag : FuncData
  F__law_bag : Fun G.K "_law_bag" "_law_bag" s__law_bag f__law_bag d__law_bag
  g__law_bag : G.mg "_law_bag" = some (.ref f__law_bag)
  b__law_bag : Binds G.K d__law_bag ["_law_script"] []
  f__law_is_int : Addr
  d__law_is_int : FuncData
  F__law_is_int : Fun G.K "_law_is_int" "_law_is_int" s__law_is_int f__law_is_int d__law_is_int
  g__law_is_int : G.mg "_law_is_int" = some (.ref f__law_is_int)
  b__law_is_int : Binds G.K d__law_is_int ["_law_thing"] []
  f__law_bent : Addr
  d__law_bent : FuncData
  F__law_bent : Fun G.K "_law_bent" "_law_bent" s__law_bent f__law_bent d__law_bent
  g__law_bent : G.mg "_law_bent" = some (.ref f__law_bent)
  b__law_bent : Binds G.K d__law_bent ["_law_bag_here", "_law_thing", "_law_deep"] []
  f__law_is_digit : Addr
  d__law_is_digit : FuncData
  F__law_is_digit : Fun G.K "_law_is_digit" "_law_is_digit" s__law_is_digit f__law_is_digit d__law_is_digit
  g__law_is_digit : G.mg "_law_is_digit" = some (.ref f__law_is_digit)
  b__law_is_digit : Binds G.K d__law_is_digit ["_law_sign"] []
  f__law_is_letter : Addr
  d__law_is_letter : FuncData
  F__law_is_letter : Fun G.K "_law_is_letter" "_law_is_letter" s__law_is_letter f__law_is_letter d__law_is_letter
  g__law_is_letter : G.mg "_law_is_letter" = some (.ref f__law_is_letter)
  b__law_is_letter : Binds G.K d__law_is_letter ["_law_sign"] []
  f__law_keywords : Addr
  d__law_keywords : FuncData
  F__law_keywords : Fun G.K "_law_keywords" "_law_keywords" s__law_keywords f__law_keywords d__law_keywords
  g__law_keywords : G.mg "_law_keywords" = some (.ref f__law_keywords)
  b__law_keywords : Binds G.K d__law_keywords [] []
  f__law_signs : Addr
  d__law_signs : FuncData
  F__law_signs : Fun G.K "_law_signs" "_law_signs" s__law_signs f__law_signs d__law_signs
  g__law_signs : G.mg "_law_signs" = some (.ref f__law_signs)
  b__law_signs : Binds G.K d__law_signs [] []
  f__law_sort : Addr
  d__law_sort : FuncData
  F__law_sort : Fun G.K "_law_sort" "_law_sort" s__law_sort f__law_sort d__law_sort
  g__law_sort : G.mg "_law_sort" = some (.ref f__law_sort)
  b__law_sort : Binds G.K d__law_sort ["_law_word"] []
  f__law_is_name : Addr
  d__law_is_name : FuncData
  F__law_is_name : Fun G.K "_law_is_name" "_law_is_name" s__law_is_name f__law_is_name d__law_is_name
  g__law_is_name : G.mg "_law_is_name" = some (.ref f__law_is_name)
  b__law_is_name : Binds G.K d__law_is_name ["_law_thing"] []
  f__law_is_kind : Addr
  d__law_is_kind : FuncData
  F__law_is_kind : Fun G.K "_law_is_kind" "_law_is_kind" s__law_is_kind f__law_is_kind d__law_is_kind
  g__law_is_kind : G.mg "_law_is_kind" = some (.ref f__law_is_kind)
  b__law_is_kind : Binds G.K d__law_is_kind ["_law_thing"] []
  f__law_is_lot : Addr
  d__law_is_lot : FuncData
  F__law_is_lot : Fun G.K "_law_is_lot" "_law_is_lot" s__law_is_lot f__law_is_lot d__law_is_lot
  g__law_is_lot : G.mg "_law_is_lot" = some (.ref f__law_is_lot)
  b__law_is_lot : Binds G.K d__law_is_lot ["_law_thing"] []
  f__law_is_word : Addr
  d__law_is_word : FuncData
  F__law_is_word : Fun G.K "_law_is_word" "_law_is_word" s__law_is_word f__law_is_word d__law_is_word
  g__law_is_word : G.mg "_law_is_word" = some (.ref f__law_is_word)
  b__law_is_word : Binds G.K d__law_is_word ["_law_thing"] []
  f__law_some_word : Addr
  d__law_some_word : FuncData
  F__law_some_word : Fun G.K "_law_some_word" "_law_some_word" s__law_some_word f__law_some_word d__law_some_word
  g__law_some_word : G.mg "_law_some_word" = some (.ref f__law_some_word)
  b__law_some_word : Binds G.K d__law_some_word ["_law_bag_here"] []
  f_is_integer : Addr
  d_is_integer : FuncData
  F_is_integer : Fun G.K "is_integer" "is_integer" s_is_integer f_is_integer d_is_integer
  g_is_integer : G.mg "is_integer" = some (.ref f_is_integer)
  b_is_integer : Binds G.K d_is_integer ["thing"] []
  f_is_named : Addr
  d_is_named : FuncData
  F_is_named : Fun G.K "is_named" "is_named" s_is_named f_is_named d_is_named
  g_is_named : G.mg "is_named" = some (.ref f_is_named)
  b_is_named : Binds G.K d_is_named ["word"] []
  f_is_number : Addr
  d_is_number : FuncData
  F_is_number : Fun G.K "is_number" "is_number" s_is_number f_is_number d_is_number
  g_is_number : G.mg "is_number" = some (.ref f_is_number)
  b_is_number : Binds G.K d_is_number ["word"] []
  f_sort_of_word : Addr
  d_sort_of_word : FuncData
  F_sort_of_word : Fun G.K "sort_of_word" "sort_of_word" s_sort_of_word f_sort_of_word d_sort_of_word
  g_sort_of_word : G.mg "sort_of_word" = some (.ref f_sort_of_word)
  b_sort_of_word : Binds G.K d_sort_of_word ["thing"] []
  f_is_name : Addr
  d_is_name : FuncData
  F_is_name : Fun G.K "is_name" "is_name" s_is_name f_is_name d_is_name
  g_is_name : G.mg "is_name" = some (.ref f_is_name)
  b_is_name : Binds G.K d_is_name ["thing"] []
  f_is_kind : Addr
  d_is_kind : FuncData
  F_is_kind : Fun G.K "is_kind" "is_kind" s_is_kind f_is_kind d_is_kind
  g_is_kind : G.mg "is_kind" = some (.ref f_is_kind)
  b_is_kind : Binds G.K d_is_kind ["thing"] []
  f_is_lot : Addr
  d_is_lot : FuncData
  F_is_lot : Fun G.K "is_lot" "is_lot" s_is_lot f_is_lot d_is_lot
  g_is_lot : G.mg "is_lot" = some (.ref f_is_lot)
  b_is_lot : Binds G.K d_is_lot ["thing"] []
  f_is_row : Addr
  d_is_row : FuncData
  F_is_row : Fun G.K "is_row" "is_row" s_is_row f_is_row d_is_row
  g_is_row : G.mg "is_row" = some (.ref f_is_row)
  b_is_row : Binds G.K d_is_row ["thing"] []
  f_law : Addr
  d_law : FuncData
  F_law : Fun G.K "law" "law" s_law f_law d_law
  g_law : G.mg "law" = some (.ref f_law)
  b_law : Binds G.K d_law ["_law_script"] []
  c_DIGITS : GlobD G "DIGITS" (.str (Str.ofString "0123456789"))
  c_KEYWORDS : GlobD G "KEYWORDS" (.tuple [.str (Str.ofString "plain"), .str (Str.ofString "once"), .str (Str.ofString "record"), .str (Str.ofString "choice"), .str (Str.ofString "given"), .str (Str.ofString "def"), .str (Str.ofString "let"), .str (Str.ofString "open"), .str (Str.ofString "if"), .str (Str.ofString "else"), .str (Str.ofString "match"), .str (Str.ofString "repeat"), .str (Str.ofString "give"), .str (Str.ofString "true"), .str (Str.ofString "false"), .str (Str.ofString "num"), .str (Str.ofString "truth"), .str (Str.ofString "and")])
  c_MOST_DIGITS : GlobD G "MOST_DIGITS" (.int 9)
  c_MOST_LETTERS : GlobD G "MOST_LETTERS" (.int 20)
  c_SIGNS : GlobD G "SIGNS" (.str (Str.ofString "{}(),:;=+<."))
  c_SMALL : GlobD G "SMALL" (.str (Str.ofString "abcdefghijklmnopqrstuvwxyz"))
  z_ValueError : G.mg "ValueError" = none
  z_abs : G.mg "abs" = none
  z_all : G.mg "all" = none
  z_bool : G.mg "bool" = none
  z_enumerate : G.mg "enumerate" = none
  z_int : G.mg "int" = none
  z_isinstance : G.mg "isinstance" = none
  z_len : G.mg "len" = none
  z_list : G.mg "list" = none
  z_range : G.mg "range" = none
  z_repr : G.mg "repr" = none
  z_str : G.mg "str" = none
  z_tuple : G.mg "tuple" = none
  z_zip : G.mg "zip" = none
  xc_NoAnswer : Xc1 G (Str.ofString "NoAnswer") (Str.ofString "place") (Str.ofString "place")
  xc_NoCommand : Xc1 G (Str.ofString "NoCommand") (Str.ofString "line") (Str.ofString "line")
  xc_NoEnding : Xc0 G (Str.ofString "NoEnding")
  xc_NoTree : Xc1 G (Str.ofString "NoTree") (Str.ofString "index") (Str.ofString "index")
  xc_NoWord : Xc1 G (Str.ofString "NoWord") (Str.ofString "place") (Str.ofString "place")
  xc_Nothing : Xc0 G (Str.ofString "Nothing")
  xc_TooLong : Xc1 G (Str.ofString "TooLong") (Str.ofString "most") (Str.ofString "most")
  xc_TooMany : Xc1 G (Str.ofString "TooMany") (Str.ofString "most") (Str.ofString "most")
  xc_Wrong : Xc1 G (Str.ofString "Wrong") (Str.ofString "place") (Str.ofString "place")
  xs_EndError : XcS G (Str.ofString "EndError") [(Str.ofString "NoAnswer", true), (Str.ofString "NoCommand", true), (Str.ofString "NoEnding", true), (Str.ofString "NoTree", true), (Str.ofString "NoWord", true), (Str.ofString "Nothing", true), (Str.ofString "TooLong", true), (Str.ofString "TooMany", true), (Str.ofString "Wrong", true)]
  xs_NoAnswer : XcS G (Str.ofString "NoAnswer") [(Str.ofString "NoAnswer", true), (Str.ofString "NoCommand", false), (Str.ofString "NoEnding", false), (Str.ofString "NoTree", false), (Str.ofString "NoWord", false), (Str.ofString "Nothing", false), (Str.ofString "TooLong", false), (Str.ofString "TooMany", false), (Str.ofString "Wrong", false)]
  xs_NoCommand : XcS G (Str.ofString "NoCommand") [(Str.ofString "NoAnswer", false), (Str.ofString "NoCommand", true), (Str.ofString "NoEnding", false), (Str.ofString "NoTree", false), (Str.ofString "NoWord", false), (Str.ofString "Nothing", false), (Str.ofString "TooLong", false), (Str.ofString "TooMany", false), (Str.ofString "Wrong", false)]
  xs_NoEnding : XcS G (Str.ofString "NoEnding") [(Str.ofString "NoAnswer", false), (Str.ofString "NoCommand", false), (Str.ofString "NoEnding", true), (Str.ofString "NoTree", false), (Str.ofString "NoWord", false), (Str.ofString "Nothing", false), (Str.ofString "TooLong", false), (Str.ofString "TooMany", false), (Str.ofString "Wrong", false)]
  xs_NoTree : XcS G (Str.ofString "NoTree") [(Str.ofString "NoAnswer", false), (Str.ofString "NoCommand", false), (Str.ofString "NoEnding", false), (Str.ofString "NoTree", true), (Str.ofString "NoWord", false), (Str.ofString "Nothing", false), (Str.ofString "TooLong", false), (Str.ofString "TooMany", false), (Str.ofString "Wrong", false)]
  xs_NoWord : XcS G (Str.ofString "NoWord") [(Str.ofString "NoAnswer", false), (Str.ofString "NoCommand", false), (Str.ofString "NoEnding", false), (Str.ofString "NoTree", false), (Str.ofString "NoWord", true), (Str.ofString "Nothing", false), (Str.ofString "TooLong", false), (Str.ofString "TooMany", false), (Str.ofString "Wrong", false)]
  xs_Nothing : XcS G (Str.ofString "Nothing") [(Str.ofString "NoAnswer", false), (Str.ofString "NoCommand", false), (Str.ofString "NoEnding", false), (Str.ofString "NoTree", false), (Str.ofString "NoWord", false), (Str.ofString "Nothing", true), (Str.ofString "TooLong", false), (Str.ofString "TooMany", false), (Str.ofString "Wrong", false)]
  xs_TooLong : XcS G (Str.ofString "TooLong") [(Str.ofString "NoAnswer", false), (Str.ofString "NoCommand", false), (Str.ofString "NoEnding", false), (Str.ofString "NoTree", false), (Str.ofString "NoWord", false), (Str.ofString "Nothing", false), (Str.ofString "TooLong", true), (Str.ofString "TooMany", false), (Str.ofString "Wrong", false)]
  xs_TooMany : XcS G (Str.ofString "TooMany") [(Str.ofString "NoAnswer", false), (Str.ofString "NoCommand", false), (Str.ofString "NoEnding", false), (Str.ofString "NoTree", false), (Str.ofString "NoWord", false), (Str.ofString "Nothing", false), (Str.ofString "TooLong", false), (Str.ofString "TooMany", true), (Str.ofString "Wrong", false)]
  xs_Wrong : XcS G (Str.ofString "Wrong") [(Str.ofString "NoAnswer", false), (Str.ofString "NoCommand", false), (Str.ofString "NoEnding", false), (Str.ofString "NoTree", false), (Str.ofString "NoWord", false), (Str.ofString "Nothing", false), (Str.ofString "TooLong", false), (Str.ofString "TooMany", false), (Str.ofString "Wrong", true)]
theorem dss__law_alike {G : GC} (Y : Fx G) : DSs G ⟨["_law_found", "_law_due"], defScope s__law_alike, fun _ => true, 0⟩ (defBody s__law_alike) b__law_alike :=
    (dss_one (ds_ret (de_and (de_cmp op_eqX (de_name 0 rfl (vis_of rfl) rfl rfl) (de_name 1 rfl (vis_of rfl) rfl rfl) rfl) (de_one (de_cmp op_eqX (de_callB call_reprE rfl Y.z_repr rfl (da_cons (de_name 0 rfl (vis_of rfl) rfl rfl) da_nil (fun _ => rfl)) (by decide) rfl (fun _ => rfl) (fun _ => rfl)) (de_callB call_reprE rfl Y.z_repr rfl (da_cons (de_name 1 rfl (vis_of rfl) rfl rfl) da_nil (fun _ => rfl)) (by decide) rfl (fun _ => rfl) (fun _ => rfl)) rfl)))))
theorem ok__law_alike {G : GC} (Y : Fx G) : FnG G 1 Y.f__law_alike Y.d__law_alike ["_law_found", "_law_due"] (spM G.K 2 m_law_alike) := fn_m Y.F__law_alike sc__law_alike (dss__law_alike Y)
theorem dss__law_take {G : GC} (Y : Fx G) : DSs G ⟨["_law_bag_here", "_law_many", "_law_begin", "_law_second", "_law_cell", "_law_stirred", "_law_value"], defScope s__law_take, fun _ => true, 0⟩ (defBody s__law_take) b__law_take :=
    (dss_cons (ds_if (dt_cmp op_eqD' (de_ix ix_D (de_name 0 rfl (vis_of rfl) rfl rfl) de_int (fun _ _ => rfl)) de_int rfl) (dss_cons (ds_asg (sto_of rfl rfl) (de_ix ix_D (de_op op_addD (de_slice sl_D (de_ix ix_D (de_name 0 rfl (vis_of rfl) rfl rfl) de_int (fun _ _ => rfl)) (do_some (de_ix ix_D (de_name 0 rfl (vis_of rfl) rfl rfl) de_int (fun _ _ => rfl))) do_none) (de_lst (da_cons de_int da_nil (fun _ => rfl)))) de_int (fun _ _ => rfl)) (fun _ => rfl))
    (dss_cons (ds_augL rfl (vis_of rfl) rfl rfl de_int de_int iop_addI (fun _ _ _ => rfl))
    (dss_cons (ds_if (dt_cmp op_geD (de_name 4 rfl (vis_of rfl) rfl rfl) (de_op op_powD de_int de_int) rfl) (dss_one (ds_put rfl (vis_of rfl) rfl rfl de_int (de_name 4 rfl (vis_of rfl) rfl rfl) (fun _ => rfl) (fun _ => rfl) (fun _ => rfl) (fun _ => rfl) (fun _ _ => rfl))) dss_nil)
    (dss_cons (ds_asg (sto_of rfl rfl) (de_op op_addD (de_op op_addD (de_op op_mulD (de_ix ix_D (de_name 0 rfl (vis_of rfl) rfl rfl) de_int (fun _ _ => rfl)) de_int) (de_op op_modD (de_callTy call_intD rfl Y.z_int rfl (da_cons (de_name 4 rfl (vis_of rfl) rfl rfl) da_nil (fun _ => rfl)) (by decide) rfl (fun _ => rfl) (fun _ => rfl)) de_int)) (de_op op_mulD de_int (de_ix ix_D (de_name 0 rfl (vis_of rfl) rfl rfl) de_int (fun _ _ => rfl)))) (fun _ => rfl))
    (dss_one (ds_put rfl (vis_of rfl) rfl rfl de_int (de_op op_modD (de_callTy call_intD rfl Y.z_int rfl (da_cons (de_name 5 rfl (vis_of rfl) rfl rfl) da_nil (fun _ => rfl)) (by decide) rfl (fun _ => rfl) (fun _ => rfl)) de_int) (fun _ => rfl) (fun _ => rfl) (fun _ => rfl) (fun _ => rfl) (fun _ _ => rfl))))))) dss_nil)
    (dss_cons (ds_if (dt_cmp op_gtD (de_ix ix_D (de_name 0 rfl (vis_of rfl) rfl rfl) de_int (fun _ _ => rfl)) de_int rfl) (dss_cons (ds_asg (sto_of rfl rfl) (de_op op_modD (de_callTy call_intD rfl Y.z_int rfl (da_cons (de_ix ix_D (de_name 0 rfl (vis_of rfl) rfl rfl) de_int (fun _ _ => rfl)) da_nil (fun _ => rfl)) (by decide) rfl (fun _ => rfl) (fun _ => rfl)) (de_name 1 rfl (vis_of rfl) rfl rfl)) (fun _ => rfl))
    (dss_cons (ds_put rfl (vis_of rfl) rfl rfl de_int (de_op op_fdivD (de_callTy call_intD rfl Y.z_int rfl (da_cons (de_ix ix_D (de_name 0 rfl (vis_of rfl) rfl rfl) de_int (fun _ _ => rfl)) da_nil (fun _ => rfl)) (by decide) rfl (fun _ => rfl) (fun _ => rfl)) (de_name 1 rfl (vis_of rfl) rfl rfl)) (fun _ => rfl) (fun _ => rfl) (fun _ => rfl) (fun _ => rfl) (fun _ _ => rfl))
    (dss_one (ds_ret (de_name 6 rfl (vis_of rfl) rfl rfl))))) dss_nil)
    (dss_cons (ds_asg (sto_of rfl rfl) (de_op op_modD (de_callTy call_intD rfl Y.z_int rfl (da_cons (de_op op_mulD (de_op op_addD (de_ix ix_D (de_name 0 rfl (vis_of rfl) rfl rfl) de_int (fun _ _ => rfl)) de_int) de_int) da_nil (fun _ => rfl)) (by decide) rfl (fun _ => rfl) (fun _ => rfl)) de_int) (fun _ => rfl))
    (dss_cons (ds_asg (sto_of rfl rfl) (de_op op_modD (de_callTy call_intD rfl Y.z_int rfl (da_cons (de_op op_mulD (de_op op_modD (de_callTy call_intD rfl Y.z_int rfl (da_cons (de_op op_mulD (de_name 2 rfl (vis_of rfl) rfl rfl) (de_name 2 rfl (vis_of rfl) rfl rfl)) da_nil (fun _ => rfl)) (by decide) rfl (fun _ => rfl) (fun _ => rfl)) de_int) de_int) da_nil (fun _ => rfl)) (by decide) rfl (fun _ => rfl) (fun _ => rfl)) de_int) (fun _ => rfl))
    (dss_one (ds_ret (de_op op_modD (de_callTy call_intD rfl Y.z_int rfl (da_cons (de_op op_fdivD (de_name 3 rfl (vis_of rfl) rfl rfl) de_int) da_nil (fun _ => rfl)) (by decide) rfl (fun _ => rfl) (fun _ => rfl)) (de_name 1 rfl (vis_of rfl) rfl rfl))))))))
theorem ok__law_take {G : GC} (Y : Fx G) : FnG G 1 Y.f__law_take Y.d__law_take ["_law_bag_here", "_law_many"] (spM G.K 2 m_law_take) := fn_m Y.F__law_take sc__law_take (dss__law_take Y)
theorem dss__law_some {G : GC} (Y : Fx G) : DSs G ⟨["_law_bag_here", "_law_things"], defScope s__law_some, fun _ => true, 1⟩ (defBody s__law_some) b__law_some :=
    (dss_one (ds_ret (de_ix ix_D (de_name 1 rfl (vis_of rfl) rfl rfl) (de_call (ok__law_take Y) (by decide : 1 ≤ 1) rfl Y.g__law_take Y.F__law_take.kp Y.b__law_take (da_cons (de_name 0 rfl (vis_of rfl) rfl rfl) (da_cons (de_callB call_lenD' rfl Y.z_len rfl (da_cons (de_name 1 rfl (vis_of rfl) rfl rfl) da_nil (fun _ => rfl)) (by decide) rfl (fun _ => rfl) (fun _ => rfl)) da_nil (fun _ => rfl)) (fun _ => rfl)) rfl (fun _ => rfl) (fun _ => rfl) rfl (mcons_len (mcons_len mnil_len))) (fun _ _ => rfl))))
theorem ok__law_some {G : GC} (Y : Fx G) : FnG G 2 Y.f__law_some Y.d__law_some ["_law_bag_here", "_law_things"] (spM G.K 2 m_law_some) := fn_m Y.F__law_some sc__law_some (dss__law_some Y)
theorem dss__law_odd {G : GC} (Y : Fx G) : DSs G ⟨["_law_bag_here", "_law_menu"], defScope s__law_odd, fun _ => true, 2⟩ (defBody s__law_odd) b__law_odd :=
    (dss_cons (ds_asg (sto_of rfl rfl) (de_lst (da_cons de_non (da_cons de_bl (da_cons de_bl (da_cons de_int (da_cons de_int (da_cons (de_un un_negD de_int) (da_cons de_int (da_cons (de_op op_powD de_int de_int) (da_cons de_str (da_cons de_str (da_cons de_str (da_cons de_str (da_cons de_str (da_cons (de_tup da_nil) (da_cons (de_lst da_nil) (da_cons de_dnew (da_cons (de_tup (da_cons de_str (da_cons de_int da_nil (fun _ => rfl)) (fun _ => rfl))) da_nil (fun _ => rfl)) (fun _ => rfl)) (fun _ => rfl)) (fun _ => rfl)) (fun _ => rfl)) (fun _ => rfl)) (fun _ => rfl)) (fun _ => rfl)) (fun _ => rfl)) (fun _ => rfl)) (fun _ => rfl)) (fun _ => rfl)) (fun _ => rfl)) (fun _ => rfl)) (fun _ => rfl)) (fun _ => rfl)) (fun _ => rfl))) (fun _ => rfl))
    (dss_cons (ds_asg (sto_of rfl rfl) (de_op op_addD (de_op op_addD (de_name 1 rfl (vis_of rfl) rfl rfl) (de_lst (da_cons (de_tup (da_cons de_str (da_cons de_str da_nil (fun _ => rfl)) (fun _ => rfl))) da_nil (fun _ => rfl)))) (de_lst (da_cons (de_lst (da_cons de_str da_nil (fun _ => rfl))) (da_cons (de_dicC (fun _ => (pps_cons pe_str pe_int pps_nil)) rfl rfl (by simp) (by decide) (by decide) rfl) (da_cons (de_tup (da_cons de_str da_nil (fun _ => rfl))) (da_cons (de_tup (da_cons (de_tup (da_cons de_str (da_cons (de_tup (da_cons de_str (da_cons de_int da_nil (fun _ => rfl)) (fun _ => rfl))) da_nil (fun _ => rfl)) (fun _ => rfl))) da_nil (fun _ => rfl))) (da_cons (de_tup (da_cons de_str (da_cons de_str da_nil (fun _ => rfl)) (fun _ => rfl))) (da_cons de_str (da_cons de_str da_nil (fun _ => rfl)) (fun _ => rfl)) (fun _ => rfl)) (fun _ => rfl)) (fun _ => rfl)) (fun _ => rfl)) (fun _ => rfl)))) (fun _ => rfl))
    (dss_one (ds_ret (de_call (ok__law_some Y) (by decide : 2 ≤ 2) rfl Y.g__law_some Y.F__law_some.kp Y.b__law_some (da_cons (de_name 0 rfl (vis_of rfl) rfl rfl) (da_cons (de_op op_addD (de_name 1 rfl (vis_of rfl) rfl rfl) (de_lst (da_cons (de_tup (da_cons de_str (da_cons de_bl da_nil (fun _ => rfl)) (fun _ => rfl))) da_nil (fun _ => rfl)))) da_nil (fun _ => rfl)) (fun _ => rfl)) rfl (fun _ => rfl) (fun _ => rfl) rfl (mcons_len (mcons_len mnil_len)))))))
theorem ok__law_odd {G : GC} (Y : Fx G) : FnG G 3 Y.f__law_odd Y.d__law_odd ["_law_bag_here"] (spM G.K 1 m_law_odd) := fn_m Y.F__law_odd sc__law_odd (dss__law_odd Y)
theorem dss__law_are_errors_right {G : GC} (Y : Fx G) : DSs G ⟨["_law_bag_here", "_law_thing", "_law_errors", "_law_kept", "_law_at", "_law_error", "_law_told", "_law_one", "_law_place"], defScope s__law_are_errors_right, fun _ => true, 3⟩ (defBody s__law_are_errors_right) b__law_are_errors_right :=
    (dss_cons (ds_asg (sto_of rfl rfl) (de_call (ok__law_odd Y) (by decide : 3 ≤ 3) rfl Y.g__law_odd Y.F__law_odd.kp Y.b__law_odd (da_cons (de_name 0 rfl (vis_of rfl) rfl rfl) da_nil (fun _ => rfl)) rfl (fun _ => rfl) (fun _ => rfl) rfl (mcons_len mnil_len)) (fun _ => rfl))
    (dss_cons (ds_asg (sto_of rfl rfl) (de_lst (da_cons (de_xc1 Y.xc_NoAnswer (by decide) (da_cons (de_name 1 rfl (vis_of rfl) rfl rfl) da_nil (fun _ => rfl)) rfl rfl (fun _ => rfl)) (da_cons (de_xc1 Y.xc_NoCommand (by decide) (da_cons (de_name 1 rfl (vis_of rfl) rfl rfl) da_nil (fun _ => rfl)) rfl rfl (fun _ => rfl)) (da_cons (de_xc1 Y.xc_NoTree (by decide) (da_cons (de_name 1 rfl (vis_of rfl) rfl rfl) da_nil (fun _ => rfl)) rfl rfl (fun _ => rfl)) (da_cons (de_xc1 Y.xc_NoWord (by decide) (da_cons (de_name 1 rfl (vis_of rfl) rfl rfl) da_nil (fun _ => rfl)) rfl rfl (fun _ => rfl)) (da_cons (de_xc1 Y.xc_TooLong (by decide) (da_cons (de_name 1 rfl (vis_of rfl) rfl rfl) da_nil (fun _ => rfl)) rfl rfl (fun _ => rfl)) (da_cons (de_xc1 Y.xc_TooMany (by decide) (da_cons (de_name 1 rfl (vis_of rfl) rfl rfl) da_nil (fun _ => rfl)) rfl rfl (fun _ => rfl)) da_nil (fun _ => rfl)) (fun _ => rfl)) (fun _ => rfl)) (fun _ => rfl)) (fun _ => rfl)) (fun _ => rfl))) (fun _ => rfl))
    (dss_cons (ds_asg (sto_of rfl rfl) (de_lst (da_cons (de_att (de_ix ix_D (de_name 2 rfl (vis_of rfl) rfl rfl) de_int (fun _ _ => rfl)) (fun _ => rfl)) (da_cons (de_att (de_ix ix_D (de_name 2 rfl (vis_of rfl) rfl rfl) de_int (fun _ _ => rfl)) (fun _ => rfl)) (da_cons (de_att (de_ix ix_D (de_name 2 rfl (vis_of rfl) rfl rfl) de_int (fun _ _ => rfl)) (fun _ => rfl)) (da_cons (de_att (de_ix ix_D (de_name 2 rfl (vis_of rfl) rfl rfl) de_int (fun _ _ => rfl)) (fun _ => rfl)) (da_cons (de_att (de_ix ix_D (de_name 2 rfl (vis_of rfl) rfl rfl) de_int (fun _ _ => rfl)) (fun _ => rfl)) (da_cons (de_att (de_ix ix_D (de_name 2 rfl (vis_of rfl) rfl rfl) de_int (fun _ _ => rfl)) (fun _ => rfl)) da_nil (fun _ => rfl)) (fun _ => rfl)) (fun _ => rfl)) (fun _ => rfl)) (fun _ => rfl)) (fun _ => rfl))) (fun _ => rfl))
    (dss_cons (ds_asg (sto_of rfl rfl) (de_op op_addD (de_name 2 rfl (vis_of rfl) rfl rfl) (de_lst (da_cons (de_xc1 Y.xc_Wrong (by decide) (da_cons (de_name 1 rfl (vis_of rfl) rfl rfl) da_nil (fun _ => rfl)) rfl rfl (fun _ => rfl)) (da_cons (de_xc0 Y.xc_NoEnding rfl rfl) (da_cons (de_xc0 Y.xc_Nothing rfl rfl) da_nil (fun _ => rfl)) (fun _ => rfl)) (fun _ => rfl)))) (fun _ => rfl))
    (dss_cons (ds_if (dt_cmp op_neD' (de_lc (di_seqC (de_op op_addD (de_name 3 rfl (vis_of rfl) rfl rfl) (de_lst (da_cons (de_att (de_ix ix_D (de_name 2 rfl (vis_of rfl) rfl rfl) de_int (fun _ _ => rfl)) (fun _ => rfl)) da_nil (fun _ => rfl))))) (blkOk_by (own := [("_law_one", 7)]) (by decide +kernel)) (dg_name (sto_of rfl rfl)) (dts_one (dt_not (dt_val (de_call (ok__law_alike Y) (by decide : 1 ≤ 3) rfl Y.g__law_alike Y.F__law_alike.kp Y.b__law_alike (da_cons (de_name 7 rfl (vis_of rfl) rfl rfl) (da_cons (de_name 1 rfl (vis_of rfl) rfl rfl) da_nil (fun _ => rfl)) (fun _ => rfl)) rfl (fun _ => rfl) (fun _ => rfl) rfl (mcons_len (mcons_len mnil_len))) (fun _ _ => rfl)))) (de_name 7 rfl (vis_of rfl) rfl rfl) (by decide) (gnm_stay 7) (fun _ _ => rfl)) (de_lst da_nil) rfl) (dss_one (ds_ret de_bl)) dss_nil)
    (dss_cons (ds_for (di_enum rfl Y.z_enumerate (da_cons (de_name 2 rfl (vis_of rfl) rfl rfl) da_nil (fun _ => rfl)) (fun _ => rfl)) (dg_tup (fun X c => (pgsN_cons c (sto_of rfl rfl) (pgsN_cons c (sto_of rfl rfl) pgsN_nil rfl) rfl)) (fun _ => rfl) (fun _ => rfl)) (dss_cons (ds_if (dt_w (dw_or (dt_not (dt_val (de_isc Y.xs_EndError (de_name 5 rfl (vis_of rfl) rfl rfl) rfl Y.z_isinstance rfl rfl (fun _ => rfl)) (fun _ _ => rfl))) (dw_one (dt_not (dt_val (de_isv rfl (by decide +kernel) (de_name 5 rfl (vis_of rfl) rfl rfl) rfl Y.z_isinstance rfl Y.z_ValueError (by decide) rfl (fun _ => rfl)) (fun _ _ => rfl)))))) (dss_one (ds_ret de_bl)) dss_nil)
    (dss_cons (ds_asg (sto_of rfl rfl) (de_lst (da_cons (de_isc Y.xs_NoAnswer (de_name 5 rfl (vis_of rfl) rfl rfl) rfl Y.z_isinstance rfl rfl (fun _ => rfl)) (da_cons (de_isc Y.xs_NoCommand (de_name 5 rfl (vis_of rfl) rfl rfl) rfl Y.z_isinstance rfl rfl (fun _ => rfl)) (da_cons (de_isc Y.xs_NoTree (de_name 5 rfl (vis_of rfl) rfl rfl) rfl Y.z_isinstance rfl rfl (fun _ => rfl)) da_nil (fun _ => rfl)) (fun _ => rfl)) (fun _ => rfl))) (fun _ => rfl))
    (dss_cons (ds_asg (sto_of rfl rfl) (de_op op_addD (de_name 6 rfl (vis_of rfl) rfl rfl) (de_lst (da_cons (de_isc Y.xs_NoWord (de_name 5 rfl (vis_of rfl) rfl rfl) rfl Y.z_isinstance rfl rfl (fun _ => rfl)) (da_cons (de_isc Y.xs_TooLong (de_name 5 rfl (vis_of rfl) rfl rfl) rfl Y.z_isinstance rfl rfl (fun _ => rfl)) (da_cons (de_isc Y.xs_TooMany (de_name 5 rfl (vis_of rfl) rfl rfl) rfl Y.z_isinstance rfl rfl (fun _ => rfl)) da_nil (fun _ => rfl)) (fun _ => rfl)) (fun _ => rfl)))) (fun _ => rfl))
    (dss_cons (ds_asg (sto_of rfl rfl) (de_op op_addD (de_name 6 rfl (vis_of rfl) rfl rfl) (de_lst (da_cons (de_isc Y.xs_Wrong (de_name 5 rfl (vis_of rfl) rfl rfl) rfl Y.z_isinstance rfl rfl (fun _ => rfl)) (da_cons (de_isc Y.xs_NoEnding (de_name 5 rfl (vis_of rfl) rfl rfl) rfl Y.z_isinstance rfl rfl (fun _ => rfl)) (da_cons (de_isc Y.xs_Nothing (de_name 5 rfl (vis_of rfl) rfl rfl) rfl Y.z_isinstance rfl rfl (fun _ => rfl)) da_nil (fun _ => rfl)) (fun _ => rfl)) (fun _ => rfl)))) (fun _ => rfl))
    (dss_one (ds_if (dt_cmp op_neD' (de_name 6 rfl (vis_of rfl) rfl rfl) (de_lc (di_range1 rfl Y.z_range (da_cons de_int da_nil (fun _ => rfl)) (fun _ => rfl)) (blkOk_by (own := [("_law_place", 8)]) (by decide +kernel)) (dg_name (sto_of rfl rfl)) dts_nil (de_cmp op_eqD' (de_name 8 rfl (vis_of rfl) rfl rfl) (de_name 4 rfl (vis_of rfl) rfl rfl) rfl) (by decide) (gnm_stay 8) (fun _ _ => rfl)) rfl) (dss_one (ds_ret de_bl)) dss_nil)))))) (fun _ _ => rfl))
    (dss_one (ds_ret de_bl))))))))
theorem ok__law_are_errors_right {G : GC} (Y : Fx G) : FnG G 4 Y.f__law_are_errors_right Y.d__law_are_errors_right ["_law_bag_here"] (spM G.K 1 m_law_are_errors_right) := fn_m Y.F__law_are_errors_right sc__law_are_errors_right (dss__law_are_errors_right Y)
theorem dss__law_bag {G : GC} (Y : Fx G) : DSs G ⟨["_law_script", "_law_cell"], defScope s__law_bag, fun _ => true, 0⟩ (defBody s__law_bag) b__law_bag :=
    (dss_one (ds_ret (de_lst (da_cons de_int (da_cons de_int (da_cons de_int (da_cons (de_lc (di_seqC (de_slice sl_D (de_name 0 rfl (vis_of rfl) rfl rfl) do_none (do_some de_int))) (blkOk_by (own := [("_law_cell", 1)]) (by decide +kernel)) (dg_name (sto_of rfl rfl)) dts_nil (de_callB call_absD rfl Y.z_abs rfl (da_cons (de_name 1 rfl (vis_of rfl) rfl rfl) da_nil (fun _ => rfl)) (by decide) rfl (fun _ => rfl) (fun _ => rfl)) (by decide) (gnm_stay 1) (fun _ _ => rfl)) da_nil (fun _ => rfl)) (fun _ => rfl)) (fun _ => rfl)) (fun _ => rfl)))))
theorem ok__law_bag {G : GC} (Y : Fx G) : FnG G 1 Y.f__law_bag Y.d__law_bag ["_law_script"] (spM G.K 1 m_law_bag) := fn_m Y.F__law_bag sc__law_bag (dss__law_bag Y)
theorem dss__law_is_int {G : GC} (Y : Fx G) : DSs G ⟨["_law_thing"], defScope s__law_is_int, fun _ => true, 0⟩ (defBody s__law_is_int) b__law_is_int :=
    (dss_one (ds_ret (de_and (de_isi (T := "int") (by decide) rfl (de_name 0 rfl (vis_of rfl) rfl rfl) rfl Y.z_isinstance rfl Y.z_int (by decide) rfl (fun _ => rfl)) (de_one (de_notV (de_isi (T := "bool") (by decide) rfl (de_name 0 rfl (vis_of rfl) rfl rfl) rfl Y.z_isinstance rfl Y.z_bool (by decide) rfl (fun _ => rfl)))))))
theorem ok__law_is_int {G : GC} (Y : Fx G) : FnG G 1 Y.f__law_is_int Y.d__law_is_int ["_law_thing"] (spM G.K 1 m_law_is_int) := fn_m Y.F__law_is_int sc__law_is_int (dss__law_is_int Y)
theorem dss__law_bent {G : GC} (Y : Fx G) {k : Nat} {r__law_bent : MF} (hk : 3 ≤ k) (R__law_bent : FnG G k Y.f__law_bent Y.d__law_bent ["_law_bag_here", "_law_thing", "_law_deep"] (spM G.K 3 r__law_bent)) : DSs G ⟨["_law_bag_here", "_law_thing", "_law_deep", "_law_way", "_law_at", "_law_more"], defScope s__law_bent, fun _ => true, k⟩ (defBody s__law_bent) (b__law_bent r__law_bent) :=
    (dss_cons (ds_if (dt_w (dw_or (dt_not (dt_val (de_isi (T := "tuple") (by decide) rfl (de_name 1 rfl (vis_of rfl) rfl rfl) rfl Y.z_isinstance rfl Y.z_tuple (by decide) rfl (fun _ => rfl)) (fun _ _ => rfl))) (dw_or (dt_cmp op_eqD' (de_name 1 rfl (vis_of rfl) rfl rfl) (de_tup da_nil) rfl) (dw_one (dt_cmp op_eqD' (de_name 2 rfl (vis_of rfl) rfl rfl) de_int rfl))))) (dss_cons (ds_if (dt_w (dw_and (dt_val (de_isi (T := "str") (by decide) rfl (de_name 1 rfl (vis_of rfl) rfl rfl) rfl Y.z_isinstance rfl Y.z_str (by decide) rfl (fun _ => rfl)) (fun _ _ => rfl)) (dw_one (dt_cmp op_gtD (de_call (ok__law_take Y) (Nat.le_trans (by decide : 1 ≤ 3) hk) rfl Y.g__law_take Y.F__law_take.kp Y.b__law_take (da_cons (de_name 0 rfl (vis_of rfl) rfl rfl) (da_cons de_int da_nil (fun _ => rfl)) (fun _ => rfl)) rfl (fun _ => rfl) (fun _ => rfl) rfl (mcons_len (mcons_len mnil_len))) de_int rfl)))) (dss_cons (ds_asg (sto_of rfl rfl) (de_lst (da_cons de_str (da_cons de_str (da_cons de_str (da_cons de_str (da_cons de_str (da_cons de_str (da_cons de_str (da_cons (de_op op_addD (de_name 1 rfl (vis_of rfl) rfl rfl) de_str) (da_cons (de_slice sl_D (de_name 1 rfl (vis_of rfl) rfl rfl) do_none (do_some (de_un un_negD de_int))) (da_cons (de_op op_addD (de_name 1 rfl (vis_of rfl) rfl rfl) de_str) (da_cons (de_op op_mulSD de_str de_int) da_nil (fun _ => rfl)) (fun _ => rfl)) (fun _ => rfl)) (fun _ => rfl)) (fun _ => rfl)) (fun _ => rfl)) (fun _ => rfl)) (fun _ => rfl)) (fun _ => rfl)) (fun _ => rfl)) (fun _ => rfl))) (fun _ => rfl))
    (dss_one (ds_ret (de_call (ok__law_some Y) (Nat.le_trans (by decide : 2 ≤ 3) hk) rfl Y.g__law_some Y.F__law_some.kp Y.b__law_some (da_cons (de_name 0 rfl (vis_of rfl) rfl rfl) (da_cons (de_op op_addD (de_name 5 rfl (vis_of rfl) rfl rfl) (de_lst (da_cons (de_op op_mulSD de_str de_int) (da_cons (de_op op_addD (de_name 1 rfl (vis_of rfl) rfl rfl) de_str) (da_cons (de_op op_addD (de_name 1 rfl (vis_of rfl) rfl rfl) de_str) (da_cons (de_op op_addD de_str (de_name 1 rfl (vis_of rfl) rfl rfl)) da_nil (fun _ => rfl)) (fun _ => rfl)) (fun _ => rfl)) (fun _ => rfl)))) da_nil (fun _ => rfl)) (fun _ => rfl)) rfl (fun _ => rfl) (fun _ => rfl) rfl (mcons_len (mcons_len mnil_len)))))) dss_nil)
    (dss_cons (ds_if (dt_w (dw_and (dt_val (de_call (ok__law_is_int Y) (Nat.le_trans (by decide : 1 ≤ 3) hk) rfl Y.g__law_is_int Y.F__law_is_int.kp Y.b__law_is_int (da_cons (de_name 1 rfl (vis_of rfl) rfl rfl) da_nil (fun _ => rfl)) rfl (fun _ => rfl) (fun _ => rfl) rfl (mcons_len mnil_len)) (fun _ _ => rfl)) (dw_one (dt_cmp op_gtD (de_call (ok__law_take Y) (Nat.le_trans (by decide : 1 ≤ 3) hk) rfl Y.g__law_take Y.F__law_take.kp Y.b__law_take (da_cons (de_name 0 rfl (vis_of rfl) rfl rfl) (da_cons de_int da_nil (fun _ => rfl)) (fun _ => rfl)) rfl (fun _ => rfl) (fun _ => rfl) rfl (mcons_len (mcons_len mnil_len))) de_int rfl)))) (dss_one (ds_ret (de_call (ok__law_some Y) (Nat.le_trans (by decide : 2 ≤ 3) hk) rfl Y.g__law_some Y.F__law_some.kp Y.b__law_some (da_cons (de_name 0 rfl (vis_of rfl) rfl rfl) (da_cons (de_lst (da_cons (de_op op_addD (de_name 1 rfl (vis_of rfl) rfl rfl) de_int) (da_cons (de_op op_subD de_int (de_name 1 rfl (vis_of rfl) rfl rfl)) (da_cons (de_cmp op_eqD' (de_name 1 rfl (vis_of rfl) rfl rfl) de_int rfl) (da_cons (de_callTy call_strD rfl Y.z_str rfl (da_cons (de_name 1 rfl (vis_of rfl) rfl rfl) da_nil (fun _ => rfl)) (by decide) rfl (fun _ => rfl) (fun _ => rfl)) (da_cons de_int (da_cons de_int (da_cons (de_un un_negD de_int) da_nil (fun _ => rfl)) (fun _ => rfl)) (fun _ => rfl)) (fun _ => rfl)) (fun _ => rfl)) (fun _ => rfl)) (fun _ => rfl))) da_nil (fun _ => rfl)) (fun _ => rfl)) rfl (fun _ => rfl) (fun _ => rfl) rfl (mcons_len (mcons_len mnil_len))))) dss_nil)
    (dss_one (ds_ret (de_call (ok__law_odd Y) (Nat.le_trans (by decide : 3 ≤ 3) hk) rfl Y.g__law_odd Y.F__law_odd.kp Y.b__law_odd (da_cons (de_name 0 rfl (vis_of rfl) rfl rfl) da_nil (fun _ => rfl)) rfl (fun _ => rfl) (fun _ => rfl) rfl (mcons_len mnil_len)))))) dss_nil)
    (dss_cons (ds_par rfl rfl (by decide) rfl rfl (de_call (ok__law_take Y) (Nat.le_trans (by decide : 1 ≤ 3) hk) rfl Y.g__law_take Y.F__law_take.kp Y.b__law_take (da_cons (de_name 0 rfl (vis_of rfl) rfl rfl) (da_cons de_int da_nil (fun _ => rfl)) (fun _ => rfl)) rfl (fun _ => rfl) (fun _ => rfl) rfl (mcons_len (mcons_len mnil_len))) (de_call (ok__law_take Y) (Nat.le_trans (by decide : 1 ≤ 3) hk) rfl Y.g__law_take Y.F__law_take.kp Y.b__law_take (da_cons (de_name 0 rfl (vis_of rfl) rfl rfl) (da_cons (de_callB call_lenD' rfl Y.z_len rfl (da_cons (de_name 1 rfl (vis_of rfl) rfl rfl) da_nil (fun _ => rfl)) (by decide) rfl (fun _ => rfl) (fun _ => rfl)) da_nil (fun _ => rfl)) (fun _ => rfl)) rfl (fun _ => rfl) (fun _ => rfl) rfl (mcons_len (mcons_len mnil_len))) (fun _ => rfl) (fun _ => rfl) (fun env h => by cases env; cases h; rfl) (fun env h => by cases env; cases h; rfl))
    (dss_cons (ds_if (dt_cmp op_eqD' (de_name 3 rfl (vis_of rfl) rfl rfl) de_int rfl) (dss_one (ds_ret (de_callTy call_listD' rfl Y.z_list rfl (da_cons (de_name 1 rfl (vis_of rfl) rfl rfl) da_nil (fun _ => rfl)) (by decide) rfl (fun _ => rfl) (fun _ => rfl)))) dss_nil)
    (dss_cons (ds_if (dt_cmp op_eqD' (de_name 3 rfl (vis_of rfl) rfl rfl) de_int rfl) (dss_one (ds_ret (de_op op_addD (de_slice sl_D (de_name 1 rfl (vis_of rfl) rfl rfl) do_none (do_some (de_name 4 rfl (vis_of rfl) rfl rfl))) (de_slice sl_D (de_name 1 rfl (vis_of rfl) rfl rfl) (do_some (de_op op_addD (de_name 4 rfl (vis_of rfl) rfl rfl) de_int)) do_none)))) dss_nil)
    (dss_cons (ds_if (dt_cmp op_eqD' (de_name 3 rfl (vis_of rfl) rfl rfl) de_int rfl) (dss_one (ds_ret (de_op op_addD (de_op op_addD (de_slice sl_D (de_name 1 rfl (vis_of rfl) rfl rfl) do_none (do_some (de_name 4 rfl (vis_of rfl) rfl rfl))) (de_tup (da_cons (de_call (ok__law_odd Y) (Nat.le_trans (by decide : 3 ≤ 3) hk) rfl Y.g__law_odd Y.F__law_odd.kp Y.b__law_odd (da_cons (de_name 0 rfl (vis_of rfl) rfl rfl) da_nil (fun _ => rfl)) rfl (fun _ => rfl) (fun _ => rfl) rfl (mcons_len mnil_len)) da_nil (fun _ => rfl)))) (de_slice sl_D (de_name 1 rfl (vis_of rfl) rfl rfl) (do_some (de_name 4 rfl (vis_of rfl) rfl rfl)) do_none)))) dss_nil)
    (dss_cons (ds_if (dt_cmp op_eqD' (de_name 3 rfl (vis_of rfl) rfl rfl) de_int rfl) (dss_one (ds_ret (de_op op_addD (de_op op_addD (de_slice sl_D (de_name 1 rfl (vis_of rfl) rfl rfl) do_none (do_some (de_name 4 rfl (vis_of rfl) rfl rfl))) (de_slice sl_D (de_name 1 rfl (vis_of rfl) rfl rfl) (do_some (de_name 4 rfl (vis_of rfl) rfl rfl)) (do_some (de_op op_addD (de_name 4 rfl (vis_of rfl) rfl rfl) de_int)))) (de_slice sl_D (de_name 1 rfl (vis_of rfl) rfl rfl) (do_some (de_name 4 rfl (vis_of rfl) rfl rfl)) do_none)))) dss_nil)
    (dss_one (ds_ret (de_op op_addD (de_op op_addD (de_slice sl_D (de_name 1 rfl (vis_of rfl) rfl rfl) do_none (do_some (de_name 4 rfl (vis_of rfl) rfl rfl))) (de_tup (da_cons (de_call R__law_bent (Nat.le_refl _) rfl Y.g__law_bent Y.F__law_bent.kp Y.b__law_bent (da_cons (de_name 0 rfl (vis_of rfl) rfl rfl) (da_cons (de_ix ix_D (de_name 1 rfl (vis_of rfl) rfl rfl) (de_name 4 rfl (vis_of rfl) rfl rfl) (fun _ _ => rfl)) (da_cons (de_op op_subD (de_name 2 rfl (vis_of rfl) rfl rfl) de_int) da_nil (fun _ => rfl)) (fun _ => rfl)) (fun _ => rfl)) rfl (fun _ => rfl) (fun _ => rfl) rfl (mcons_len (mcons_len (mcons_len mnil_len)))) da_nil (fun _ => rfl)))) (de_slice sl_D (de_name 1 rfl (vis_of rfl) rfl rfl) (do_some (de_op op_addD (de_name 4 rfl (vis_of rfl) rfl rfl) de_int)) do_none))))))))))
theorem oks__law_bent {G : GC} (Y : Fx G) : ∀ d : Nat, FnG G (3 + d) Y.f__law_bent Y.d__law_bent ["_law_bag_here", "_law_thing", "_law_deep"] (spM G.K 3 (m_law_bent d))
  | 0 => fnG_none
  | d + 1 => fn_m Y.F__law_bent sc__law_bent (dss__law_bent Y (Nat.le_add_right _ _) (oks__law_bent Y d))
theorem ok__law_bent {G : GC} (Y : Fx G) (d : Nat) : FnG G (3 + d) Y.f__law_bent Y.d__law_bent ["_law_bag_here", "_law_thing", "_law_deep"] (spM G.K 3 (m_law_bent d)) := oks__law_bent Y d
theorem dss__law_is_digit {G : GC} (Y : Fx G) : DSs G ⟨["_law_sign"], defScope s__law_is_digit, fun _ => true, 0⟩ (defBody s__law_is_digit) b__law_is_digit :=
    (dss_one (ds_ret (de_chain op_leD op_leD de_str (de_name 0 rfl (vis_of rfl) rfl rfl) de_str rfl)))
theorem ok__law_is_digit {G : GC} (Y : Fx G) : FnG G 1 Y.f__law_is_digit Y.d__law_is_digit ["_law_sign"] (spM G.K 1 m_law_is_digit) := fn_m Y.F__law_is_digit sc__law_is_digit (dss__law_is_digit Y)
theorem dss__law_is_letter {G : GC} (Y : Fx G) : DSs G ⟨["_law_sign"], defScope s__law_is_letter, fun _ => true, 0⟩ (defBody s__law_is_letter) b__law_is_letter :=
    (dss_one (ds_ret (de_chain op_leD op_leD de_str (de_name 0 rfl (vis_of rfl) rfl rfl) de_str rfl)))
theorem ok__law_is_letter {G : GC} (Y : Fx G) : FnG G 1 Y.f__law_is_letter Y.d__law_is_letter ["_law_sign"] (spM G.K 1 m_law_is_letter) := fn_m Y.F__law_is_letter sc__law_is_letter (dss__law_is_letter Y)
theorem dss__law_keywords {G : GC} (Y : Fx G) : DSs G ⟨["_law_words"], defScope s__law_keywords, fun _ => true, 0⟩ (defBody s__law_keywords) b__law_keywords :=
    (dss_cons (ds_asg (sto_of rfl rfl) de_str (fun _ => rfl))
    (dss_one (ds_ret (de_bm PySem.F.plainAttrs_str PySem.F.slot_str_split PySem.F.type_str_split mt_splitD (de_name 0 rfl (vis_of rfl) rfl rfl) (da_cons de_str da_nil (fun _ => rfl)) (fun _ => rfl) (fun _ => rfl) rfl (fun _ => rfl) (fun _ => rfl)))))
theorem ok__law_keywords {G : GC} (Y : Fx G) : FnG G 1 Y.f__law_keywords Y.d__law_keywords [] (spM G.K 0 m_law_keywords) := fn_m Y.F__law_keywords sc__law_keywords (dss__law_keywords Y)
theorem dss__law_signs {G : GC} (Y : Fx G) : DSs G ⟨[], defScope s__law_signs, fun _ => true, 0⟩ (defBody s__law_signs) b__law_signs :=
    (dss_one (ds_ret (de_lst (da_cons de_str (da_cons de_str (da_cons de_str (da_cons de_str (da_cons de_str (da_cons de_str (da_cons de_str (da_cons de_str (da_cons de_str (da_cons de_str (da_cons de_str da_nil (fun _ => rfl)) (fun _ => rfl)) (fun _ => rfl)) (fun _ => rfl)) (fun _ => rfl)) (fun _ => rfl)) (fun _ => rfl)) (fun _ => rfl)) (fun _ => rfl)) (fun _ => rfl)) (fun _ => rfl)))))
theorem ok__law_signs {G : GC} (Y : Fx G) : FnG G 1 Y.f__law_signs Y.d__law_signs [] (spM G.K 0 m_law_signs) := fn_m Y.F__law_signs sc__law_signs (dss__law_signs Y)
theorem dss__law_sort {G : GC} (Y : Fx G) : DSs G ⟨["_law_word", "_law_odd_here", "_law_is_number", "_law_sign"], defScope s__law_sort, fun _ => true, 1⟩ (defBody s__law_sort) b__law_sort :=
    (dss_cons (ds_if (dt_cmp op_inD' (de_name 0 rfl (vis_of rfl) rfl rfl) (de_call0 (ok__law_keywords Y) (by decide : 1 ≤ 1) rfl Y.g__law_keywords Y.F__law_keywords.kp Y.b__law_keywords rfl) rfl) (dss_one (ds_ret de_str)) dss_nil)
    (dss_cons (ds_if (dt_cmp op_inD' (de_name 0 rfl (vis_of rfl) rfl rfl) (de_call0 (ok__law_signs Y) (by decide : 1 ≤ 1) rfl Y.g__law_signs Y.F__law_signs.kp Y.b__law_signs rfl) rfl) (dss_one (ds_ret de_str)) dss_nil)
    (dss_cons (ds_setLc rfl rfl rfl rfl rfl (di_seqC (de_name 0 rfl (vis_of rfl) rfl rfl)) (blkOk_by (own := [("_law_sign", 3)]) (by decide +kernel)) (dg_name (sto_of rfl rfl)) (dts_one (dt_w (dw_and (dt_not (dt_val (de_call (ok__law_is_letter Y) (by decide : 1 ≤ 1) rfl Y.g__law_is_letter Y.F__law_is_letter.kp Y.b__law_is_letter (da_cons (de_name 3 rfl (vis_of rfl) rfl rfl) da_nil (fun _ => rfl)) rfl (fun _ => rfl) (fun _ => rfl) rfl (mcons_len mnil_len)) (fun _ _ => rfl))) (dw_one (dt_not (dt_val (de_call (ok__law_is_digit Y) (by decide : 1 ≤ 1) rfl Y.g__law_is_digit Y.F__law_is_digit.kp Y.b__law_is_digit (da_cons (de_name 3 rfl (vis_of rfl) rfl rfl) da_nil (fun _ => rfl)) rfl (fun _ => rfl) (fun _ => rfl) rfl (mcons_len mnil_len)) (fun _ _ => rfl))))))) (de_name 3 rfl (vis_of rfl) rfl rfl) (by decide) (gnm_stay 3) (fun _ _ => rfl))
    (dss_cons (ds_if (dt_w (dw_or (dt_not (dt_chain op_leD op_leD de_int (de_callB call_lenD' rfl Y.z_len rfl (da_cons (de_name 0 rfl (vis_of rfl) rfl rfl) da_nil (fun _ => rfl)) (by decide) rfl (fun _ => rfl) (fun _ => rfl)) de_int rfl)) (dw_one (dt_cmp op_neD' (de_name 1 rfl (vis_of rfl) rfl rfl) (de_lst da_nil) rfl)))) (dss_one (ds_ret de_non)) dss_nil)
    (dss_cons (ds_if (dt_val (de_call (ok__law_is_letter Y) (by decide : 1 ≤ 1) rfl Y.g__law_is_letter Y.F__law_is_letter.kp Y.b__law_is_letter (da_cons (de_ix ix_D (de_name 0 rfl (vis_of rfl) rfl rfl) de_int (fun _ _ => rfl)) da_nil (fun _ => rfl)) rfl (fun _ => rfl) (fun _ => rfl) rfl (mcons_len mnil_len)) (fun _ _ => rfl)) (dss_one (ds_ret de_str)) dss_nil)
    (dss_cons (ds_asg (sto_of rfl rfl) (de_and (de_cmp op_leD (de_callB call_lenD' rfl Y.z_len rfl (da_cons (de_name 0 rfl (vis_of rfl) rfl rfl) da_nil (fun _ => rfl)) (by decide) rfl (fun _ => rfl) (fun _ => rfl)) de_int rfl) (de_one (de_cmp op_eqD' (de_lc (di_seqC (de_name 0 rfl (vis_of rfl) rfl rfl)) (blkOk_by (own := [("_law_sign", 3)]) (by decide +kernel)) (dg_name (sto_of rfl rfl)) (dts_one (dt_val (de_call (ok__law_is_letter Y) (by decide : 1 ≤ 1) rfl Y.g__law_is_letter Y.F__law_is_letter.kp Y.b__law_is_letter (da_cons (de_name 3 rfl (vis_of rfl) rfl rfl) da_nil (fun _ => rfl)) rfl (fun _ => rfl) (fun _ => rfl) rfl (mcons_len mnil_len)) (fun _ _ => rfl))) (de_name 3 rfl (vis_of rfl) rfl rfl) (by decide) (gnm_stay 3) (fun _ _ => rfl)) (de_lst da_nil) rfl))) (fun _ => rfl))
    (dss_one (ds_ret (de_if (dt_w (dw_and (dt_val (de_name 2 rfl (vis_of rfl) rfl rfl) (fun _ _ => rfl)) (dw_one (dt_w (dw_or (dt_cmp op_neD' (de_ix ix_D (de_name 0 rfl (vis_of rfl) rfl rfl) de_int (fun _ _ => rfl)) de_str rfl) (dw_one (dt_cmp op_eqD' (de_callB call_lenD' rfl Y.z_len rfl (da_cons (de_name 0 rfl (vis_of rfl) rfl rfl) da_nil (fun _ => rfl)) (by decide) rfl (fun _ => rfl) (fun _ => rfl)) de_int rfl))))))) de_str de_non)))))))))
theorem ok__law_sort {G : GC} (Y : Fx G) : FnG G 2 Y.f__law_sort Y.d__law_sort ["_law_word"] (spM G.K 1 m_law_sort) := fn_m Y.F__law_sort sc__law_sort (dss__law_sort Y)
theorem dss__law_is_name {G : GC} (Y : Fx G) : DSs G ⟨["_law_thing"], defScope s__law_is_name, fun _ => true, 2⟩ (defBody s__law_is_name) b__law_is_name :=
    (dss_one (ds_ret (de_and (de_isi (T := "str") (by decide) rfl (de_name 0 rfl (vis_of rfl) rfl rfl) rfl Y.z_isinstance rfl Y.z_str (by decide) rfl (fun _ => rfl)) (de_one (de_cmp op_eqD' (de_call (ok__law_sort Y) (by decide : 2 ≤ 2) rfl Y.g__law_sort Y.F__law_sort.kp Y.b__law_sort (da_cons (de_name 0 rfl (vis_of rfl) rfl rfl) da_nil (fun _ => rfl)) rfl (fun _ => rfl) (fun _ => rfl) rfl (mcons_len mnil_len)) de_str rfl)))))
theorem ok__law_is_name {G : GC} (Y : Fx G) : FnG G 3 Y.f__law_is_name Y.d__law_is_name ["_law_thing"] (spM G.K 1 m_law_is_name) := fn_m Y.F__law_is_name sc__law_is_name (dss__law_is_name Y)
theorem dss__law_is_kind {G : GC} (Y : Fx G) : DSs G ⟨["_law_thing"], defScope s__law_is_kind, fun _ => true, 3⟩ (defBody s__law_is_kind) b__law_is_kind :=
    (dss_one (ds_ret (de_or (de_call (ok__law_is_name Y) (by decide : 3 ≤ 3) rfl Y.g__law_is_name Y.F__law_is_name.kp Y.b__law_is_name (da_cons (de_name 0 rfl (vis_of rfl) rfl rfl) da_nil (fun _ => rfl)) rfl (fun _ => rfl) (fun _ => rfl) rfl (mcons_len mnil_len)) (de_one (de_and (de_isi (T := "str") (by decide) rfl (de_name 0 rfl (vis_of rfl) rfl rfl) rfl Y.z_isinstance rfl Y.z_str (by decide) rfl (fun _ => rfl)) (de_one (de_cmp op_inD' (de_name 0 rfl (vis_of rfl) rfl rfl) (de_tup (da_cons de_str (da_cons de_str da_nil (fun _ => rfl)) (fun _ => rfl))) rfl)))))))
theorem ok__law_is_kind {G : GC} (Y : Fx G) : FnG G 4 Y.f__law_is_kind Y.d__law_is_kind ["_law_thing"] (spM G.K 1 m_law_is_kind) := fn_m Y.F__law_is_kind sc__law_is_kind (dss__law_is_kind Y)
theorem dss__law_is_lot {G : GC} (Y : Fx G) : DSs G ⟨["_law_thing", "_law_at", "_law_one"], defScope s__law_is_lot, fun _ => true, 0⟩ (defBody s__law_is_lot) b__law_is_lot :=
    (dss_cons (ds_if (dt_w (dw_or (dt_not (dt_val (de_isi (T := "tuple") (by decide) rfl (de_name 0 rfl (vis_of rfl) rfl rfl) rfl Y.z_isinstance rfl Y.z_tuple (by decide) rfl (fun _ => rfl)) (fun _ _ => rfl))) (dw_one (dt_cmp op_neD' (de_lc (di_seqC (de_name 0 rfl (vis_of rfl) rfl rfl)) (blkOk_by (own := [("_law_one", 2)]) (by decide +kernel)) (dg_name (sto_of rfl rfl)) (dts_one (dt_not (dt_val (de_isi (T := "str") (by decide) rfl (de_name 2 rfl (vis_of rfl) rfl rfl) rfl Y.z_isinstance rfl Y.z_str (by decide) rfl (fun _ => rfl)) (fun _ _ => rfl)))) (de_name 2 rfl (vis_of rfl) rfl rfl) (by decide) (gnm_stay 2) (fun _ _ => rfl)) (de_lst da_nil) rfl)))) (dss_one (ds_ret de_bl)) dss_nil)
    (dss_one (ds_ret (de_cmp op_eqD' (de_lc (di_range1 rfl Y.z_range (da_cons (de_op op_subD (de_callB call_lenD' rfl Y.z_len rfl (da_cons (de_name 0 rfl (vis_of rfl) rfl rfl) da_nil (fun _ => rfl)) (by decide) rfl (fun _ => rfl) (fun _ => rfl)) de_int) da_nil (fun _ => rfl)) (fun _ => rfl)) (blkOk_by (own := [("_law_at", 1)]) (by decide +kernel)) (dg_name (sto_of rfl rfl)) (dts_one (dt_cmp op_geD (de_ix ix_D (de_name 0 rfl (vis_of rfl) rfl rfl) (de_name 1 rfl (vis_of rfl) rfl rfl) (fun _ _ => rfl)) (de_ix ix_D (de_name 0 rfl (vis_of rfl) rfl rfl) (de_op op_addD (de_name 1 rfl (vis_of rfl) rfl rfl) de_int) (fun _ _ => rfl)) rfl)) (de_name 1 rfl (vis_of rfl) rfl rfl) (by decide) (gnm_stay 1) (fun _ _ => rfl)) (de_lst da_nil) rfl))))
theorem ok__law_is_lot {G : GC} (Y : Fx G) : FnG G 1 Y.f__law_is_lot Y.d__law_is_lot ["_law_thing"] (spM G.K 1 m_law_is_lot) := fn_m Y.F__law_is_lot sc__law_is_lot (dss__law_is_lot Y)
theorem dss__law_is_word {G : GC} (Y : Fx G) : DSs G ⟨["_law_thing"], defScope s__law_is_word, fun _ => true, 2⟩ (defBody s__law_is_word) b__law_is_word :=
    (dss_one (ds_ret (de_and (de_isi (T := "str") (by decide) rfl (de_name 0 rfl (vis_of rfl) rfl rfl) rfl Y.z_isinstance rfl Y.z_str (by decide) rfl (fun _ => rfl)) (de_one (de_cmp op_isNotD (de_call (ok__law_sort Y) (by decide : 2 ≤ 2) rfl Y.g__law_sort Y.F__law_sort.kp Y.b__law_sort (da_cons (de_name 0 rfl (vis_of rfl) rfl rfl) da_nil (fun _ => rfl)) rfl (fun _ => rfl) (fun _ => rfl) rfl (mcons_len mnil_len)) de_non rfl)))))
theorem ok__law_is_word {G : GC} (Y : Fx G) : FnG G 3 Y.f__law_is_word Y.d__law_is_word ["_law_thing"] (spM G.K 1 m_law_is_word) := fn_m Y.F__law_is_word sc__law_is_word (dss__law_is_word Y)
theorem dss__law_some_word {G : GC} (Y : Fx G) : DSs G ⟨["_law_bag_here", "_law_menu", "_law_word", "_law_signs_here", "_law_drawn", "_law_odd_here", "_law_turn"], defScope s__law_some_word, fun _ => true, 2⟩ (defBody s__law_some_word) b__law_some_word :=
    (dss_cons (ds_asg (sto_of rfl rfl) (de_op op_addD (de_op op_addD (de_call0 (ok__law_keywords Y) (by decide : 1 ≤ 2) rfl Y.g__law_keywords Y.F__law_keywords.kp Y.b__law_keywords rfl) (de_call0 (ok__law_signs Y) (by decide : 1 ≤ 2) rfl Y.g__law_signs Y.F__law_signs.kp Y.b__law_signs rfl)) (de_lst (da_cons de_str (da_cons de_str (da_cons de_str (da_cons de_str (da_cons de_str (da_cons de_str (da_cons de_str (da_cons de_str (da_cons de_str (da_cons de_str da_nil (fun _ => rfl)) (fun _ => rfl)) (fun _ => rfl)) (fun _ => rfl)) (fun _ => rfl)) (fun _ => rfl)) (fun _ => rfl)) (fun _ => rfl)) (fun _ => rfl)) (fun _ => rfl)))) (fun _ => rfl))
    (dss_cons (ds_asg (sto_of rfl rfl) (de_op op_addD (de_name 1 rfl (vis_of rfl) rfl rfl) (de_lst (da_cons de_str (da_cons de_str (da_cons de_str (da_cons de_str (da_cons de_str (da_cons (de_op op_mulSD de_str de_int) (da_cons (de_op op_mulSD de_str de_int) (da_cons de_str (da_cons de_str (da_cons de_str (da_cons de_str (da_cons de_str (da_cons (de_op op_mulSD de_str de_int) da_nil (fun _ => rfl)) (fun _ => rfl)) (fun _ => rfl)) (fun _ => rfl)) (fun _ => rfl)) (fun _ => rfl)) (fun _ => rfl)) (fun _ => rfl)) (fun _ => rfl)) (fun _ => rfl)) (fun _ => rfl)) (fun _ => rfl)) (fun _ => rfl)))) (fun _ => rfl))
    (dss_cons (ds_asg (sto_of rfl rfl) (de_op op_addD (de_name 1 rfl (vis_of rfl) rfl rfl) (de_lst (da_cons de_str (da_cons de_str (da_cons (de_op op_mulSD de_str de_int) (da_cons de_str (da_cons de_str (da_cons de_str (da_cons de_str (da_cons de_str (da_cons de_str (da_cons de_str (da_cons de_str da_nil (fun _ => rfl)) (fun _ => rfl)) (fun _ => rfl)) (fun _ => rfl)) (fun _ => rfl)) (fun _ => rfl)) (fun _ => rfl)) (fun _ => rfl)) (fun _ => rfl)) (fun _ => rfl)) (fun _ => rfl)))) (fun _ => rfl))
    (dss_cons (ds_parC (sto_of rfl rfl) (sto_of rfl rfl) (de_call (ok__law_some Y) (by decide : 2 ≤ 2) rfl Y.g__law_some Y.F__law_some.kp Y.b__law_some (da_cons (de_name 0 rfl (vis_of rfl) rfl rfl) (da_cons (de_name 1 rfl (vis_of rfl) rfl rfl) da_nil (fun _ => rfl)) (fun _ => rfl)) rfl (fun _ => rfl) (fun _ => rfl) rfl (mcons_len (mcons_len mnil_len))) de_str (fun _ => rfl) (fun _ => rfl) (fun env h => by cases env; cases h; rfl) (fun env h => by cases env; cases h; rfl) (fun _ => rfl) (fun _ => rfl) (fun _ => rfl) (fun _ => rfl) (fun _ => rfl))
    (dss_cons (ds_asg (sto_of rfl rfl) (de_bm PySem.F.plainAttrs_str PySem.F.slot_str_join PySem.F.type_str_join mt_joinD de_str (da_cons (de_lc (di_range1 rfl Y.z_range (da_cons (de_op op_addD de_int (de_call (ok__law_take Y) (by decide : 1 ≤ 2) rfl Y.g__law_take Y.F__law_take.kp Y.b__law_take (da_cons (de_name 0 rfl (vis_of rfl) rfl rfl) (da_cons de_int da_nil (fun _ => rfl)) (fun _ => rfl)) rfl (fun _ => rfl) (fun _ => rfl) rfl (mcons_len (mcons_len mnil_len)))) da_nil (fun _ => rfl)) (fun _ => rfl)) (blkOk_by (own := [("_law_turn", 6)]) (by decide +kernel)) (dg_name (sto_of rfl rfl)) dts_nil (de_call (ok__law_some Y) (by decide : 2 ≤ 2) rfl Y.g__law_some Y.F__law_some.kp Y.b__law_some (da_cons (de_name 0 rfl (vis_of rfl) rfl rfl) (da_cons (de_name 3 rfl (vis_of rfl) rfl rfl) da_nil (fun _ => rfl)) (fun _ => rfl)) rfl (fun _ => rfl) (fun _ => rfl) rfl (mcons_len (mcons_len mnil_len))) (by decide) (gnm_stay 6) (fun _ _ => rfl)) da_nil (fun _ => rfl)) (fun _ => rfl) (fun _ => rfl) rfl (fun _ => rfl) (fun _ => rfl)) (fun _ => rfl))
    (dss_cons (ds_asg (sto_of rfl rfl) (de_op op_addD (de_name 4 rfl (vis_of rfl) rfl rfl) (de_call (ok__law_some Y) (by decide : 2 ≤ 2) rfl Y.g__law_some Y.F__law_some.kp Y.b__law_some (da_cons (de_name 0 rfl (vis_of rfl) rfl rfl) (da_cons de_str da_nil (fun _ => rfl)) (fun _ => rfl)) rfl (fun _ => rfl) (fun _ => rfl) rfl (mcons_len (mcons_len mnil_len)))) (fun _ => rfl))
    (dss_one (ds_ret (de_call (ok__law_some Y) (by decide : 2 ≤ 2) rfl Y.g__law_some Y.F__law_some.kp Y.b__law_some (da_cons (de_name 0 rfl (vis_of rfl) rfl rfl) (da_cons (de_lst (da_cons (de_name 2 rfl (vis_of rfl) rfl rfl) (da_cons (de_name 2 rfl (vis_of rfl) rfl rfl) (da_cons (de_op op_addD (de_name 2 rfl (vis_of rfl) rfl rfl) (de_call (ok__law_some Y) (by decide : 2 ≤ 2) rfl Y.g__law_some Y.F__law_some.kp Y.b__law_some (da_cons (de_name 0 rfl (vis_of rfl) rfl rfl) (da_cons (de_name 1 rfl (vis_of rfl) rfl rfl) da_nil (fun _ => rfl)) (fun _ => rfl)) rfl (fun _ => rfl) (fun _ => rfl) rfl (mcons_len (mcons_len mnil_len)))) (da_cons (de_slice sl_D (de_name 2 rfl (vis_of rfl) rfl rfl) do_none (do_some (de_un un_negD de_int))) (da_cons (de_name 4 rfl (vis_of rfl) rfl rfl) (da_cons (de_name 5 rfl (vis_of rfl) rfl rfl) da_nil (fun _ => rfl)) (fun _ => rfl)) (fun _ => rfl)) (fun _ => rfl)) (fun _ => rfl)) (fun _ => rfl))) da_nil (fun _ => rfl)) (fun _ => rfl)) rfl (fun _ => rfl) (fun _ => rfl) rfl (mcons_len (mcons_len mnil_len)))))))))))
theorem ok__law_some_word {G : GC} (Y : Fx G) : FnG G 3 Y.f__law_some_word Y.d__law_some_word ["_law_bag_here"] (spM G.K 1 m_law_some_word) := fn_m Y.F__law_some_word sc__law_some_word (dss__law_some_word Y)
theorem dss_is_integer {G : GC} (Y : Fx G) : DSs G ⟨["thing"], defScope s_is_integer, fun _ => true, 0⟩ (defBody s_is_integer) b_is_integer :=
    (dss_one (ds_ret (de_and (de_isi (T := "int") (by decide) rfl (de_name 0 rfl (vis_of rfl) rfl rfl) rfl Y.z_isinstance rfl Y.z_int (by decide) rfl (fun _ => rfl)) (de_one (de_notV (de_isi (T := "bool") (by decide) rfl (de_name 0 rfl (vis_of rfl) rfl rfl) rfl Y.z_isinstance rfl Y.z_bool (by decide) rfl (fun _ => rfl)))))))
theorem ok_is_integer {G : GC} (Y : Fx G) : FnG G 1 Y.f_is_integer Y.d_is_integer ["thing"] (spM G.K 1 p_is_integer) := fn_m Y.F_is_integer sc_is_integer (dss_is_integer Y)
theorem dss_is_named {G : GC} (Y : Fx G) : DSs G ⟨["word", "sign"], defScope s_is_named, fun _ => true, 0⟩ (defBody s_is_named) b_is_named :=
    (dss_cons (ds_if (dt_w (dw_or (dt_not (dt_chain op_leD op_leD de_int (de_callB call_lenD' rfl Y.z_len rfl (da_cons (de_name 0 rfl (vis_of rfl) rfl rfl) da_nil (fun _ => rfl)) (by decide) rfl (fun _ => rfl) (fun _ => rfl)) (de_glob rfl Y.c_MOST_LETTERS rfl) rfl)) (dw_or (dt_cmp op_inD' (de_name 0 rfl (vis_of rfl) rfl rfl) (de_glob rfl Y.c_KEYWORDS rfl) rfl) (dw_one (dt_cmp op_notInD' (de_ix ix_D (de_name 0 rfl (vis_of rfl) rfl rfl) de_int (fun _ _ => rfl)) (de_glob rfl Y.c_SMALL rfl) rfl))))) (dss_one (ds_ret de_bl)) dss_nil)
    (dss_one (ds_ret (de_callB call_allD rfl Y.z_all rfl (da_cons (de_lc (di_seqC (de_name 0 rfl (vis_of rfl) rfl rfl)) (blkOk_by (own := [("sign", 1)]) (by decide +kernel)) (dg_name (sto_of rfl rfl)) dts_nil (de_or (de_cmp op_inD' (de_name 1 rfl (vis_of rfl) rfl rfl) (de_glob rfl Y.c_SMALL rfl) rfl) (de_one (de_cmp op_inD' (de_name 1 rfl (vis_of rfl) rfl rfl) (de_glob rfl Y.c_DIGITS rfl) rfl))) (by decide) (gnm_stay 1) (fun _ _ => rfl)) da_nil (fun _ => rfl)) (by decide) rfl (fun _ => rfl) (fun _ => rfl)))))
theorem ok_is_named {G : GC} (Y : Fx G) : FnG G 1 Y.f_is_named Y.d_is_named ["word"] (spM G.K 1 p_is_named) := fn_m Y.F_is_named sc_is_named (dss_is_named Y)
theorem dss_is_number {G : GC} (Y : Fx G) : DSs G ⟨["word", "sign"], defScope s_is_number, fun _ => true, 0⟩ (defBody s_is_number) b_is_number :=
    (dss_cons (ds_if (dt_w (dw_or (dt_not (dt_chain op_leD op_leD de_int (de_callB call_lenD' rfl Y.z_len rfl (da_cons (de_name 0 rfl (vis_of rfl) rfl rfl) da_nil (fun _ => rfl)) (by decide) rfl (fun _ => rfl) (fun _ => rfl)) (de_glob rfl Y.c_MOST_DIGITS rfl) rfl)) (dw_one (dt_not (dt_val (de_callB call_allD rfl Y.z_all rfl (da_cons (de_lc (di_seqC (de_name 0 rfl (vis_of rfl) rfl rfl)) (blkOk_by (own := [("sign", 1)]) (by decide +kernel)) (dg_name (sto_of rfl rfl)) dts_nil (de_cmp op_inD' (de_name 1 rfl (vis_of rfl) rfl rfl) (de_glob rfl Y.c_DIGITS rfl) rfl) (by decide) (gnm_stay 1) (fun _ _ => rfl)) da_nil (fun _ => rfl)) (by decide) rfl (fun _ => rfl) (fun _ => rfl)) (fun _ _ => rfl)))))) (dss_one (ds_ret de_bl)) dss_nil)
    (dss_one (ds_ret (de_or (de_cmp op_eqD' (de_name 0 rfl (vis_of rfl) rfl rfl) de_str rfl) (de_one (de_cmp op_neD' (de_ix ix_D (de_name 0 rfl (vis_of rfl) rfl rfl) de_int (fun _ _ => rfl)) de_str rfl))))))
theorem ok_is_number {G : GC} (Y : Fx G) : FnG G 1 Y.f_is_number Y.d_is_number ["word"] (spM G.K 1 p_is_number) := fn_m Y.F_is_number sc_is_number (dss_is_number Y)
theorem dss_sort_of_word {G : GC} (Y : Fx G) : DSs G ⟨["thing"], defScope s_sort_of_word, fun _ => true, 1⟩ (defBody s_sort_of_word) b_sort_of_word :=
    (dss_cons (ds_if (dt_not (dt_val (de_isi (T := "str") (by decide) rfl (de_name 0 rfl (vis_of rfl) rfl rfl) rfl Y.z_isinstance rfl Y.z_str (by decide) rfl (fun _ => rfl)) (fun _ _ => rfl))) (dss_one (ds_ret de_non)) dss_nil)
    (dss_cons (ds_if (dt_cmp op_inD' (de_name 0 rfl (vis_of rfl) rfl rfl) (de_glob rfl Y.c_KEYWORDS rfl) rfl) (dss_one (ds_ret de_str)) dss_nil)
    (dss_cons (ds_if (dt_w (dw_and (dt_cmp op_eqD' (de_callB call_lenD' rfl Y.z_len rfl (da_cons (de_name 0 rfl (vis_of rfl) rfl rfl) da_nil (fun _ => rfl)) (by decide) rfl (fun _ => rfl) (fun _ => rfl)) de_int rfl) (dw_one (dt_cmp op_inD' (de_name 0 rfl (vis_of rfl) rfl rfl) (de_glob rfl Y.c_SIGNS rfl) rfl)))) (dss_one (ds_ret de_str)) dss_nil)
    (dss_cons (ds_if (dt_val (de_call (ok_is_named Y) (by decide : 1 ≤ 1) rfl Y.g_is_named Y.F_is_named.kp Y.b_is_named (da_cons (de_name 0 rfl (vis_of rfl) rfl rfl) da_nil (fun _ => rfl)) rfl (fun _ => rfl) (fun _ => rfl) rfl (mcons_len mnil_len)) (fun _ _ => rfl)) (dss_one (ds_ret de_str)) dss_nil)
    (dss_one (ds_ret (de_if (dt_val (de_call (ok_is_number Y) (by decide : 1 ≤ 1) rfl Y.g_is_number Y.F_is_number.kp Y.b_is_number (da_cons (de_name 0 rfl (vis_of rfl) rfl rfl) da_nil (fun _ => rfl)) rfl (fun _ => rfl) (fun _ => rfl) rfl (mcons_len mnil_len)) (fun _ _ => rfl)) de_str de_non)))))))
theorem ok_sort_of_word {G : GC} (Y : Fx G) : FnG G 2 Y.f_sort_of_word Y.d_sort_of_word ["thing"] (spM G.K 1 p_sort_of_word) := fn_m Y.F_sort_of_word sc_sort_of_word (dss_sort_of_word Y)
theorem dss_is_name {G : GC} (Y : Fx G) : DSs G ⟨["thing"], defScope s_is_name, fun _ => true, 2⟩ (defBody s_is_name) b_is_name :=
    (dss_one (ds_ret (de_cmp op_eqD' (de_call (ok_sort_of_word Y) (by decide : 2 ≤ 2) rfl Y.g_sort_of_word Y.F_sort_of_word.kp Y.b_sort_of_word (da_cons (de_name 0 rfl (vis_of rfl) rfl rfl) da_nil (fun _ => rfl)) rfl (fun _ => rfl) (fun _ => rfl) rfl (mcons_len mnil_len)) de_str rfl)))
theorem ok_is_name {G : GC} (Y : Fx G) : FnG G 3 Y.f_is_name Y.d_is_name ["thing"] (spM G.K 1 p_is_name) := fn_m Y.F_is_name sc_is_name (dss_is_name Y)
theorem dss_is_kind {G : GC} (Y : Fx G) : DSs G ⟨["thing"], defScope s_is_kind, fun _ => true, 3⟩ (defBody s_is_kind) b_is_kind :=
    (dss_one (ds_ret (de_or (de_call (ok_is_name Y) (by decide : 3 ≤ 3) rfl Y.g_is_name Y.F_is_name.kp Y.b_is_name (da_cons (de_name 0 rfl (vis_of rfl) rfl rfl) da_nil (fun _ => rfl)) rfl (fun _ => rfl) (fun _ => rfl) rfl (mcons_len mnil_len)) (de_one (de_and (de_isi (T := "str") (by decide) rfl (de_name 0 rfl (vis_of rfl) rfl rfl) rfl Y.z_isinstance rfl Y.z_str (by decide) rfl (fun _ => rfl)) (de_one (de_cmp op_inD' (de_name 0 rfl (vis_of rfl) rfl rfl) (de_tup (da_cons de_str (da_cons de_str da_nil (fun _ => rfl)) (fun _ => rfl))) rfl)))))))
theorem ok_is_kind {G : GC} (Y : Fx G) : FnG G 4 Y.f_is_kind Y.d_is_kind ["thing"] (spM G.K 1 p_is_kind) := fn_m Y.F_is_kind sc_is_kind (dss_is_kind Y)
theorem dss_is_lot {G : GC} (Y : Fx G) : DSs G ⟨["thing", "one", "other"], defScope s_is_lot, fun _ => true, 0⟩ (defBody s_is_lot) b_is_lot :=
    (dss_cons (ds_if (dt_w (dw_or (dt_not (dt_val (de_isi (T := "tuple") (by decide) rfl (de_name 0 rfl (vis_of rfl) rfl rfl) rfl Y.z_isinstance rfl Y.z_tuple (by decide) rfl (fun _ => rfl)) (fun _ _ => rfl))) (dw_one (dt_not (dt_val (de_callB call_allD rfl Y.z_all rfl (da_cons (de_lc (di_seqC (de_name 0 rfl (vis_of rfl) rfl rfl)) (blkOk_by (own := [("one", 1)]) (by decide +kernel)) (dg_name (sto_of rfl rfl)) dts_nil (de_isi (T := "str") (by decide) rfl (de_name 1 rfl (vis_of rfl) rfl rfl) rfl Y.z_isinstance rfl Y.z_str (by decide) rfl (fun _ => rfl)) (by decide) (gnm_stay 1) (fun _ _ => rfl)) da_nil (fun _ => rfl)) (by decide) rfl (fun _ => rfl) (fun _ => rfl)) (fun _ _ => rfl)))))) (dss_one (ds_ret de_bl)) dss_nil)
    (dss_one (ds_ret (de_callB call_allD rfl Y.z_all rfl (da_cons (de_lc (di_zip rfl Y.z_zip (da_cons (de_name 0 rfl (vis_of rfl) rfl rfl) (da_cons (de_slice sl_D (de_name 0 rfl (vis_of rfl) rfl rfl) (do_some de_int) do_none) da_nil (fun _ => rfl)) (fun _ => rfl)) (fun _ => rfl) (fun _ => rfl)) (blkOk_by (own := [("one", 1), ("other", 2)]) (by decide +kernel)) (dg_tup (fun X c => (pgsN_cons c (sto_of rfl rfl) (pgsN_cons c (sto_of rfl rfl) pgsN_nil rfl) rfl)) (fun _ => rfl) (fun _ => rfl)) dts_nil (de_cmp op_ltD (de_name 1 rfl (vis_of rfl) rfl rfl) (de_name 2 rfl (vis_of rfl) rfl rfl) rfl) (by decide) (gtup_stay [1, 2]) (fun _ _ => rfl)) da_nil (fun _ => rfl)) (by decide) rfl (fun _ => rfl) (fun _ => rfl)))))
theorem ok_is_lot {G : GC} (Y : Fx G) : FnG G 1 Y.f_is_lot Y.d_is_lot ["thing"] (spM G.K 1 p_is_lot) := fn_m Y.F_is_lot sc_is_lot (dss_is_lot Y)
theorem dss_is_row {G : GC} (Y : Fx G) : DSs G ⟨["thing", "word"], defScope s_is_row, fun _ => true, 2⟩ (defBody s_is_row) b_is_row :=
    (dss_one (ds_ret (de_and (de_isi (T := "tuple") (by decide) rfl (de_name 0 rfl (vis_of rfl) rfl rfl) rfl Y.z_isinstance rfl Y.z_tuple (by decide) rfl (fun _ => rfl)) (de_one (de_callB call_allD rfl Y.z_all rfl (da_cons (de_lc (di_seqC (de_name 0 rfl (vis_of rfl) rfl rfl)) (blkOk_by (own := [("word", 1)]) (by decide +kernel)) (dg_name (sto_of rfl rfl)) dts_nil (de_cmp op_isNotD (de_call (ok_sort_of_word Y) (by decide : 2 ≤ 2) rfl Y.g_sort_of_word Y.F_sort_of_word.kp Y.b_sort_of_word (da_cons (de_name 1 rfl (vis_of rfl) rfl rfl) da_nil (fun _ => rfl)) rfl (fun _ => rfl) (fun _ => rfl) rfl (mcons_len mnil_len)) de_non rfl) (by decide) (gnm_stay 1) (fun _ _ => rfl)) da_nil (fun _ => rfl)) (by decide) rfl (fun _ => rfl) (fun _ => rfl))))))
theorem ok_is_row {G : GC} (Y : Fx G) : FnG G 3 Y.f_is_row Y.d_is_row ["thing"] (spM G.K 1 p_is_row) := fn_m Y.F_is_row sc_is_row (dss_is_row Y)
theorem dss_law {G : GC} (Y : Fx G) : DSs G ⟨["_law_script", "_law_bag_here", "_law_thing", "_law_many", "_law_turn", "_law_told", "_law_words", "_law_things", "_law_said", "_law_sort_here", "_law_is_all", "_law_due", "_law_one"], defScope s_law, fun _ => true, 33⟩ (defBody s_law) b_law :=
    (dss_cons (ds_asg (sto_of rfl rfl) (de_call (ok__law_bag Y) (by decide : 1 ≤ 33) rfl Y.g__law_bag Y.F__law_bag.kp Y.b__law_bag (da_cons (de_name 0 rfl (vis_of rfl) rfl rfl) da_nil (fun _ => rfl)) rfl (fun _ => rfl) (fun _ => rfl) rfl (mcons_len mnil_len)) (fun _ => rfl))
    (dss_cons (ds_if (dt_not (dt_val (de_call (ok__law_are_errors_right Y) (by decide : 4 ≤ 33) rfl Y.g__law_are_errors_right Y.F__law_are_errors_right.kp Y.b__law_are_errors_right (da_cons (de_name 1 rfl (vis_of rfl) rfl rfl) da_nil (fun _ => rfl)) rfl (fun _ => rfl) (fun _ => rfl) rfl (mcons_len mnil_len)) (fun _ _ => rfl))) (dss_one (ds_ret de_bl)) dss_nil)
    (dss_cons (ds_for (di_seq (de_tup (da_cons (de_xc1 Y.xc_Wrong (by decide) (da_cons de_int da_nil (fun _ => rfl)) rfl rfl (fun _ => rfl)) (da_cons (de_xc0 Y.xc_NoEnding rfl rfl) da_nil (fun _ => rfl)) (fun _ => rfl)))) (dg_name (sto_of rfl rfl)) (dss_cons (ds_asg (sto_of rfl rfl) (de_lst (da_cons (de_call (ok_sort_of_word Y) (by decide : 2 ≤ 33) rfl Y.g_sort_of_word Y.F_sort_of_word.kp Y.b_sort_of_word (da_cons (de_name 2 rfl (vis_of rfl) rfl rfl) da_nil (fun _ => rfl)) rfl (fun _ => rfl) (fun _ => rfl) rfl (mcons_len mnil_len)) (da_cons (de_call (ok_is_row Y) (by decide : 3 ≤ 33) rfl Y.g_is_row Y.F_is_row.kp Y.b_is_row (da_cons (de_name 2 rfl (vis_of rfl) rfl rfl) da_nil (fun _ => rfl)) rfl (fun _ => rfl) (fun _ => rfl) rfl (mcons_len mnil_len)) (da_cons (de_call (ok_is_integer Y) (by decide : 1 ≤ 33) rfl Y.g_is_integer Y.F_is_integer.kp Y.b_is_integer (da_cons (de_name 2 rfl (vis_of rfl) rfl rfl) da_nil (fun _ => rfl)) rfl (fun _ => rfl) (fun _ => rfl) rfl (mcons_len mnil_len)) (da_cons (de_call (ok_is_name Y) (by decide : 3 ≤ 33) rfl Y.g_is_name Y.F_is_name.kp Y.b_is_name (da_cons (de_name 2 rfl (vis_of rfl) rfl rfl) da_nil (fun _ => rfl)) rfl (fun _ => rfl) (fun _ => rfl) rfl (mcons_len mnil_len)) (da_cons (de_call (ok_is_kind Y) (by decide : 4 ≤ 33) rfl Y.g_is_kind Y.F_is_kind.kp Y.b_is_kind (da_cons (de_name 2 rfl (vis_of rfl) rfl rfl) da_nil (fun _ => rfl)) rfl (fun _ => rfl) (fun _ => rfl) rfl (mcons_len mnil_len)) da_nil (fun _ => rfl)) (fun _ => rfl)) (fun _ => rfl)) (fun _ => rfl)) (fun _ => rfl))) (fun _ => rfl))
    (dss_one (ds_if (dt_not (dt_val (de_call (ok__law_alike Y) (by decide : 1 ≤ 33) rfl Y.g__law_alike Y.F__law_alike.kp Y.b__law_alike (da_cons (de_op op_addD (de_name 5 rfl (vis_of rfl) rfl rfl) (de_lst (da_cons (de_call (ok_is_lot Y) (by decide : 1 ≤ 33) rfl Y.g_is_lot Y.F_is_lot.kp Y.b_is_lot (da_cons (de_fz (de_name 2 rfl (vis_of rfl) rfl rfl)) da_nil (fun _ => rfl)) rfl (fun _ => rfl) (fun _ => rfl) rfl (mcons_len mnil_len)) da_nil (fun _ => rfl)))) (da_cons (de_op op_addD (de_lst (da_cons de_non da_nil (fun _ => rfl))) (de_op op_mulD (de_lst (da_cons de_bl da_nil (fun _ => rfl))) de_int)) da_nil (fun _ => rfl)) (fun _ => rfl)) rfl (fun _ => rfl) (fun _ => rfl) rfl (mcons_len (mcons_len mnil_len))) (fun _ _ => rfl))) (dss_one (ds_ret de_bl)) dss_nil))) (fun _ _ => rfl))
    (dss_cons (ds_asg (sto_of rfl rfl) (de_op op_mulTD (de_tup (da_cons de_str da_nil (fun _ => rfl))) de_int) (fun _ => rfl))
    (dss_cons (ds_if (dt_not (dt_val (de_call (ok__law_alike Y) (by decide : 1 ≤ 33) rfl Y.g__law_alike Y.F__law_alike.kp Y.b__law_alike (da_cons (de_lst (da_cons (de_call (ok_is_row Y) (by decide : 3 ≤ 33) rfl Y.g_is_row Y.F_is_row.kp Y.b_is_row (da_cons (de_name 3 rfl (vis_of rfl) rfl rfl) da_nil (fun _ => rfl)) rfl (fun _ => rfl) (fun _ => rfl) rfl (mcons_len mnil_len)) (da_cons (de_call (ok_is_row Y) (by decide : 3 ≤ 33) rfl Y.g_is_row Y.F_is_row.kp Y.b_is_row (da_cons (de_op op_addD (de_name 3 rfl (vis_of rfl) rfl rfl) (de_tup (da_cons de_str da_nil (fun _ => rfl)))) da_nil (fun _ => rfl)) rfl (fun _ => rfl) (fun _ => rfl) rfl (mcons_len mnil_len)) da_nil (fun _ => rfl)) (fun _ => rfl))) (da_cons (de_lst (da_cons de_bl (da_cons de_bl da_nil (fun _ => rfl)) (fun _ => rfl))) da_nil (fun _ => rfl)) (fun _ => rfl)) rfl (fun _ => rfl) (fun _ => rfl) rfl (mcons_len (mcons_len mnil_len))) (fun _ _ => rfl))) (dss_one (ds_ret de_bl)) dss_nil)
    (dss_cons (ds_for (di_range1 rfl Y.z_range (da_cons de_int da_nil (fun _ => rfl)) (fun _ => rfl)) (dg_name (sto_of rfl rfl)) (dss_cons (ds_setLc rfl rfl rfl rfl rfl (di_range1 rfl Y.z_range (da_cons (de_call (ok__law_some Y) (by decide : 2 ≤ 33) rfl Y.g__law_some Y.F__law_some.kp Y.b__law_some (da_cons (de_name 1 rfl (vis_of rfl) rfl rfl) (da_cons (de_lst (da_cons de_int (da_cons de_int (da_cons de_int (da_cons de_int da_nil (fun _ => rfl)) (fun _ => rfl)) (fun _ => rfl)) (fun _ => rfl))) da_nil (fun _ => rfl)) (fun _ => rfl)) rfl (fun _ => rfl) (fun _ => rfl) rfl (mcons_len (mcons_len mnil_len))) da_nil (fun _ => rfl)) (fun _ => rfl)) (blkOk_by (own := [("_law_one", 12)]) (by decide +kernel)) (dg_name (sto_of rfl rfl)) dts_nil (de_call (ok__law_some_word Y) (by decide : 3 ≤ 33) rfl Y.g__law_some_word Y.F__law_some_word.kp Y.b__law_some_word (da_cons (de_name 1 rfl (vis_of rfl) rfl rfl) da_nil (fun _ => rfl)) rfl (fun _ => rfl) (fun _ => rfl) rfl (mcons_len mnil_len)) (by decide) (gnm_stay 12) (fun _ _ => rfl))
    (dss_cons (ds_asg (sto_of rfl rfl) (de_op op_addD (de_name 6 rfl (vis_of rfl) rfl rfl) (de_call (ok__law_some Y) (by decide : 2 ≤ 33) rfl Y.g__law_some Y.F__law_some.kp Y.b__law_some (da_cons (de_name 1 rfl (vis_of rfl) rfl rfl) (da_cons (de_lst (da_cons (de_lst da_nil) (da_cons (de_lst da_nil) (da_cons (de_lst (da_cons de_str da_nil (fun _ => rfl))) (da_cons (de_lst (da_cons de_str da_nil (fun _ => rfl))) da_nil (fun _ => rfl)) (fun _ => rfl)) (fun _ => rfl)) (fun _ => rfl))) da_nil (fun _ => rfl)) (fun _ => rfl)) rfl (fun _ => rfl) (fun _ => rfl) rfl (mcons_len (mcons_len mnil_len)))) (fun _ => rfl))
    (dss_cons (ds_asg (sto_of rfl rfl) (de_lst (da_cons (de_call (ok__law_odd Y) (by decide : 3 ≤ 33) rfl Y.g__law_odd Y.F__law_odd.kp Y.b__law_odd (da_cons (de_name 1 rfl (vis_of rfl) rfl rfl) da_nil (fun _ => rfl)) rfl (fun _ => rfl) (fun _ => rfl) rfl (mcons_len mnil_len)) (da_cons (de_call (ok__law_some Y) (by decide : 2 ≤ 33) rfl Y.g__law_some Y.F__law_some.kp Y.b__law_some (da_cons (de_name 1 rfl (vis_of rfl) rfl rfl) (da_cons (de_op op_addD (de_name 6 rfl (vis_of rfl) rfl rfl) (de_lst (da_cons de_str da_nil (fun _ => rfl)))) da_nil (fun _ => rfl)) (fun _ => rfl)) rfl (fun _ => rfl) (fun _ => rfl) rfl (mcons_len (mcons_len mnil_len))) (da_cons (de_callTy call_tupleD rfl Y.z_tuple rfl (da_cons (de_name 6 rfl (vis_of rfl) rfl rfl) da_nil (fun _ => rfl)) (by decide) rfl (fun _ => rfl) (fun _ => rfl)) (da_cons (de_name 6 rfl (vis_of rfl) rfl rfl) da_nil (fun _ => rfl)) (fun _ => rfl)) (fun _ => rfl)) (fun _ => rfl))) (fun _ => rfl))
    (dss_cons (ds_expr (de_mut PySem.F.plainAttrs_list PySem.F.slot_list_append PySem.F.type_list_append mt_appendD rfl (vis_of rfl) rfl rfl (da_cons (de_call (ok__law_bent Y 30) (by decide : 33 ≤ 33) rfl Y.g__law_bent Y.F__law_bent.kp Y.b__law_bent (da_cons (de_name 1 rfl (vis_of rfl) rfl rfl) (da_cons (de_callTy call_tupleD rfl Y.z_tuple rfl (da_cons (de_name 6 rfl (vis_of rfl) rfl rfl) da_nil (fun _ => rfl)) (by decide) rfl (fun _ => rfl) (fun _ => rfl)) (da_cons de_int da_nil (fun _ => rfl)) (fun _ => rfl)) (fun _ => rfl)) rfl (fun _ => rfl) (fun _ => rfl) rfl (mcons_len (mcons_len (mcons_len mnil_len)))) da_nil (fun _ => rfl)) (fun _ => rfl) (fun _ => rfl) rfl (fun _ => rfl) (fun _ => rfl)) (fun _ => rfl))
    (dss_one (ds_for (di_seq (de_name 7 rfl (vis_of rfl) rfl rfl)) (dg_name (sto_of rfl rfl)) (dss_cons (ds_asg (sto_of rfl rfl) (de_callB call_reprE rfl Y.z_repr rfl (da_cons (de_name 2 rfl (vis_of rfl) rfl rfl) da_nil (fun _ => rfl)) (by decide) rfl (fun _ => rfl) (fun _ => rfl)) (fun _ => rfl))
    (dss_cons (ds_asg (sto_of rfl rfl) (de_if (dt_val (de_isi (T := "str") (by decide) rfl (de_name 2 rfl (vis_of rfl) rfl rfl) rfl Y.z_isinstance rfl Y.z_str (by decide) rfl (fun _ => rfl)) (fun _ _ => rfl)) (de_call (ok__law_sort Y) (by decide : 2 ≤ 33) rfl Y.g__law_sort Y.F__law_sort.kp Y.b__law_sort (da_cons (de_name 2 rfl (vis_of rfl) rfl rfl) da_nil (fun _ => rfl)) rfl (fun _ => rfl) (fun _ => rfl) rfl (mcons_len mnil_len)) de_non) (fun _ => rfl))
    (dss_cons (ds_asg (sto_of rfl rfl) (de_and (de_isi (T := "tuple") (by decide) rfl (de_name 2 rfl (vis_of rfl) rfl rfl) rfl Y.z_isinstance rfl Y.z_tuple (by decide) rfl (fun _ => rfl)) (de_one (de_cmp op_eqD' (de_lc (di_seqC (de_name 2 rfl (vis_of rfl) rfl rfl)) (blkOk_by (own := [("_law_one", 12)]) (by decide +kernel)) (dg_name (sto_of rfl rfl)) (dts_one (dt_not (dt_val (de_call (ok__law_is_word Y) (by decide : 3 ≤ 33) rfl Y.g__law_is_word Y.F__law_is_word.kp Y.b__law_is_word (da_cons (de_name 12 rfl (vis_of rfl) rfl rfl) da_nil (fun _ => rfl)) rfl (fun _ => rfl) (fun _ => rfl) rfl (mcons_len mnil_len)) (fun _ _ => rfl)))) (de_name 12 rfl (vis_of rfl) rfl rfl) (by decide) (gnm_stay 12) (fun _ _ => rfl)) (de_lst da_nil) rfl))) (fun _ => rfl))
    (dss_cons (ds_asg (sto_of rfl rfl) (de_lst (da_cons (de_call (ok_sort_of_word Y) (by decide : 2 ≤ 33) rfl Y.g_sort_of_word Y.F_sort_of_word.kp Y.b_sort_of_word (da_cons (de_name 2 rfl (vis_of rfl) rfl rfl) da_nil (fun _ => rfl)) rfl (fun _ => rfl) (fun _ => rfl) rfl (mcons_len mnil_len)) (da_cons (de_call (ok_is_row Y) (by decide : 3 ≤ 33) rfl Y.g_is_row Y.F_is_row.kp Y.b_is_row (da_cons (de_name 2 rfl (vis_of rfl) rfl rfl) da_nil (fun _ => rfl)) rfl (fun _ => rfl) (fun _ => rfl) rfl (mcons_len mnil_len)) (da_cons (de_call (ok_is_integer Y) (by decide : 1 ≤ 33) rfl Y.g_is_integer Y.F_is_integer.kp Y.b_is_integer (da_cons (de_name 2 rfl (vis_of rfl) rfl rfl) da_nil (fun _ => rfl)) rfl (fun _ => rfl) (fun _ => rfl) rfl (mcons_len mnil_len)) da_nil (fun _ => rfl)) (fun _ => rfl)) (fun _ => rfl))) (fun _ => rfl))
    (dss_cons (ds_asg (sto_of rfl rfl) (de_op op_addD (de_name 5 rfl (vis_of rfl) rfl rfl) (de_lst (da_cons (de_call (ok_is_name Y) (by decide : 3 ≤ 33) rfl Y.g_is_name Y.F_is_name.kp Y.b_is_name (da_cons (de_name 2 rfl (vis_of rfl) rfl rfl) da_nil (fun _ => rfl)) rfl (fun _ => rfl) (fun _ => rfl) rfl (mcons_len mnil_len)) (da_cons (de_call (ok_is_kind Y) (by decide : 4 ≤ 33) rfl Y.g_is_kind Y.F_is_kind.kp Y.b_is_kind (da_cons (de_name 2 rfl (vis_of rfl) rfl rfl) da_nil (fun _ => rfl)) rfl (fun _ => rfl) (fun _ => rfl) rfl (mcons_len mnil_len)) (da_cons (de_call (ok_is_lot Y) (by decide : 1 ≤ 33) rfl Y.g_is_lot Y.F_is_lot.kp Y.b_is_lot (da_cons (de_fz (de_name 2 rfl (vis_of rfl) rfl rfl)) da_nil (fun _ => rfl)) rfl (fun _ => rfl) (fun _ => rfl) rfl (mcons_len mnil_len)) da_nil (fun _ => rfl)) (fun _ => rfl)) (fun _ => rfl)))) (fun _ => rfl))
    (dss_cons (ds_asg (sto_of rfl rfl) (de_lst (da_cons (de_name 9 rfl (vis_of rfl) rfl rfl) (da_cons (de_name 10 rfl (vis_of rfl) rfl rfl) (da_cons (de_call (ok__law_is_int Y) (by decide : 1 ≤ 33) rfl Y.g__law_is_int Y.F__law_is_int.kp Y.b__law_is_int (da_cons (de_name 2 rfl (vis_of rfl) rfl rfl) da_nil (fun _ => rfl)) rfl (fun _ => rfl) (fun _ => rfl) rfl (mcons_len mnil_len)) (da_cons (de_call (ok__law_is_name Y) (by decide : 3 ≤ 33) rfl Y.g__law_is_name Y.F__law_is_name.kp Y.b__law_is_name (da_cons (de_name 2 rfl (vis_of rfl) rfl rfl) da_nil (fun _ => rfl)) rfl (fun _ => rfl) (fun _ => rfl) rfl (mcons_len mnil_len)) (da_cons (de_call (ok__law_is_kind Y) (by decide : 4 ≤ 33) rfl Y.g__law_is_kind Y.F__law_is_kind.kp Y.b__law_is_kind (da_cons (de_name 2 rfl (vis_of rfl) rfl rfl) da_nil (fun _ => rfl)) rfl (fun _ => rfl) (fun _ => rfl) rfl (mcons_len mnil_len)) (da_cons (de_call (ok__law_is_lot Y) (by decide : 1 ≤ 33) rfl Y.g__law_is_lot Y.F__law_is_lot.kp Y.b__law_is_lot (da_cons (de_name 2 rfl (vis_of rfl) rfl rfl) da_nil (fun _ => rfl)) rfl (fun _ => rfl) (fun _ => rfl) rfl (mcons_len mnil_len)) da_nil (fun _ => rfl)) (fun _ => rfl)) (fun _ => rfl)) (fun _ => rfl)) (fun _ => rfl)) (fun _ => rfl))) (fun _ => rfl))
    (dss_one (ds_if (dt_w (dw_or (dt_not (dt_val (de_call (ok__law_alike Y) (by decide : 1 ≤ 33) rfl Y.g__law_alike Y.F__law_alike.kp Y.b__law_alike (da_cons (de_name 5 rfl (vis_of rfl) rfl rfl) (da_cons (de_name 11 rfl (vis_of rfl) rfl rfl) da_nil (fun _ => rfl)) (fun _ => rfl)) rfl (fun _ => rfl) (fun _ => rfl) rfl (mcons_len (mcons_len mnil_len))) (fun _ _ => rfl))) (dw_one (dt_cmp op_neD' (de_callB call_reprE rfl Y.z_repr rfl (da_cons (de_name 2 rfl (vis_of rfl) rfl rfl) da_nil (fun _ => rfl)) (by decide) rfl (fun _ => rfl) (fun _ => rfl)) (de_name 8 rfl (vis_of rfl) rfl rfl) rfl)))) (dss_one (ds_ret de_bl)) dss_nil)))))))) (fun _ _ => rfl))))))) (fun _ _ => rfl))
    (dss_one (ds_ret de_bl))))))))
theorem ok_law {G : GC} (Y : Fx G) : FnG G 34 Y.f_law Y.d_law ["_law_script"] (spM G.K 1 p_law) := fn_m Y.F_law sc_law (dss_law Y)
theorem all_mk {l : PySem.W.OpenLaw} {w : World} {K : PySem.W.Frag} {h : Heap} {mg : Str → Option Value} {fa : Addr} (X : K.In h) (G : h.Ns mainGlobals mg) (hfa : mg "law" = some (.ref fa))
    {f0 : Addr} {od0 an0 : Option Addr} {sl0 : Array (Option Value)} {oc0 kV0 dc0 pm0 cd0 ct0 : Value}
    (a0 : PySem.W.nsIn K mainGlobals "_law_alike" = some (some (.ref f0))) (l0 : K.lookup f0 = some ⟨oc0, od0, .func (PySem.W.fnOf "_law_alike" "_law_alike" (defArgs s__law_alike) (defBody s__law_alike) (defScope s__law_alike) .none kV0 dc0 pm0 an0 cd0 ct0), sl0⟩) (c0 : PySem.W.codeIn K cd0 "_law_alike" = true) (k0 : PySem.W.keepIn K (.ref f0) = true)
    {f1 : Addr} {od1 an1 : Option Addr} {sl1 : Array (Option Value)} {oc1 kV1 dc1 pm1 cd1 ct1 : Value}
    (a1 : PySem.W.nsIn K mainGlobals "_law_take" = some (some (.ref f1))) (l1 : K.lookup f1 = some ⟨oc1, od1, .func (PySem.W.fnOf "_law_take" "_law_take" (defArgs s__law_take) (defBody s__law_take) (defScope s__law_take) .none kV1 dc1 pm1 an1 cd1 ct1), sl1⟩) (c1 : PySem.W.codeIn K cd1 "_law_take" = true) (k1 : PySem.W.keepIn K (.ref f1) = true)
    {f2 : Addr} {od2 an2 : Option Addr} {sl2 : Array (Option Value)} {oc2 kV2 dc2 pm2 cd2 ct2 : Value}
    (a2 : PySem.W.nsIn K mainGlobals "_law_some" = some (some (.ref f2))) (l2 : K.lookup f2 = some ⟨oc2, od2, .func (PySem.W.fnOf "_law_some" "_law_some" (defArgs s__law_some) (defBody s__law_some) (defScope s__law_some) .none kV2 dc2 pm2 an2 cd2 ct2), sl2⟩) (c2 : PySem.W.codeIn K cd2 "_law_some" = true) (k2 : PySem.W.keepIn K (.ref f2) = true)
    {f3 : Addr} {od3 an3 : Option Addr} {sl3 : Array (Option Value)} {oc3 kV3 dc3 pm3 cd3 ct3 : Value}
    (a3 : PySem.W.nsIn K mainGlobals "_law_odd" = some (some (.ref f3))) (l3 : K.lookup f3 = some ⟨oc3, od3, .func (PySem.W.fnOf "_law_odd" "_law_odd" (defArgs s__law_odd) (defBody s__law_odd) (defScope s__law_odd) .none kV3 dc3 pm3 an3 cd3 ct3), sl3⟩) (c3 : PySem.W.codeIn K cd3 "_law_odd" = true) (k3 : PySem.W.keepIn K (.ref f3) = true)
    {f4 : Addr} {od4 an4 : Option Addr} {sl4 : Array (Option Value)} {oc4 kV4 dc4 pm4 cd4 ct4 : Value}
    (a4 : PySem.W.nsIn K mainGlobals "_law_are_errors_right" = some (some (.ref f4))) (l4 : K.lookup f4 = some ⟨oc4, od4, .func (PySem.W.fnOf "_law_are_errors_right" "_law_are_errors_right" (defArgs s__law_are_errors_right) (defBody s__law_are_errors_right) (defScope s__law_are_errors_right) .none kV4 dc4 pm4 an4 cd4 ct4), sl4⟩) (c4 : PySem.W.codeIn K cd4 "_law_are_errors_right" = true) (k4 : PySem.W.keepIn K (.ref f4) = true)
    {f5 : Addr} {od5 an5 : Option Addr} {sl5 : Array (Option Value)} {oc5 kV5 dc5 pm5 cd5 ct5 : Value}
    (a5 : PySem.W.nsIn K mainGlobals "_law_bag" = some (some (.ref f5))) (l5 : K.lookup f5 = some ⟨oc5, od5, .func (PySem.W.fnOf "_law_bag" "_law_bag" (defArgs s__law_bag) (defBody s__law_bag) (defScope s__law_bag) .none kV5 dc5 pm5 an5 cd5 ct5), sl5⟩) (c5 : PySem.W.codeIn K cd5 "_law_bag" = true) (k5 : PySem.W.keepIn K (.ref f5) = true)
    {f6 : Addr} {od6 an6 : Option Addr} {sl6 : Array (Option Value)} {oc6 kV6 dc6 pm6 cd6 ct6 : Value}
    (a6 : PySem.W.nsIn K mainGlobals "_law_is_int" = some (some (.ref f6))) (l6 : K.lookup f6 = some ⟨oc6, od6, .func (PySem.W.fnOf "_law_is_int" "_law_is_int" (defArgs s__law_is_int) (defBody s__law_is_int) (defScope s__law_is_int) .none kV6 dc6 pm6 an6 cd6 ct6), sl6⟩) (c6 : PySem.W.codeIn K cd6 "_law_is_int" = true) (k6 : PySem.W.keepIn K (.ref f6) = true)
    {f7 : Addr} {od7 an7 : Option Addr} {sl7 : Array (Option Value)} {oc7 kV7 dc7 pm7 cd7 ct7 : Value}
    (a7 : PySem.W.nsIn K mainGlobals "_law_bent" = some (some (.ref f7))) (l7 : K.lookup f7 = some ⟨oc7, od7, .func (PySem.W.fnOf "_law_bent" "_law_bent" (defArgs s__law_bent) (defBody s__law_bent) (defScope s__law_bent) .none kV7 dc7 pm7 an7 cd7 ct7), sl7⟩) (c7 : PySem.W.codeIn K cd7 "_law_bent" = true) (k7 : PySem.W.keepIn K (.ref f7) = true)
    {f8 : Addr} {od8 an8 : Option Addr} {sl8 : Array (Option Value)} {oc8 kV8 dc8 pm8 cd8 ct8 : Value}
    (a8 : PySem.W.nsIn K mainGlobals "_law_is_digit" = some (some (.ref f8))) (l8 : K.lookup f8 = some ⟨oc8, od8, .func (PySem.W.fnOf "_law_is_digit" "_law_is_digit" (defArgs s__law_is_digit) (defBody s__law_is_digit) (defScope s__law_is_digit) .none kV8 dc8 pm8 an8 cd8 ct8), sl8⟩) (c8 : PySem.W.codeIn K cd8 "_law_is_digit" = true) (k8 : PySem.W.keepIn K (.ref f8) = true)
    {f9 : Addr} {od9 an9 : Option Addr} {sl9 : Array (Option Value)} {oc9 kV9 dc9 pm9 cd9 ct9 : Value}
    (a9 : PySem.W.nsIn K mainGlobals "_law_is_letter" = some (some (.ref f9))) (l9 : K.lookup f9 = some ⟨oc9, od9, .func (PySem.W.fnOf "_law_is_letter" "_law_is_letter" (defArgs s__law_is_letter) (defBody s__law_is_letter) (defScope s__law_is_letter) .none kV9 dc9 pm9 an9 cd9 ct9), sl9⟩) (c9 : PySem.W.codeIn K cd9 "_law_is_letter" = true) (k9 : PySem.W.keepIn K (.ref f9) = true)
    {f10 : Addr} {od10 an10 : Option Addr} {sl10 : Array (Option Value)} {oc10 kV10 dc10 pm10 cd10 ct10 : Value}
    (a10 : PySem.W.nsIn K mainGlobals "_law_keywords" = some (some (.ref f10))) (l10 : K.lookup f10 = some ⟨oc10, od10, .func (PySem.W.fnOf "_law_keywords" "_law_keywords" (defArgs s__law_keywords) (defBody s__law_keywords) (defScope s__law_keywords) .none kV10 dc10 pm10 an10 cd10 ct10), sl10⟩) (c10 : PySem.W.codeIn K cd10 "_law_keywords" = true) (k10 : PySem.W.keepIn K (.ref f10) = true)
    {f11 : Addr} {od11 an11 : Option Addr} {sl11 : Array (Option Value)} {oc11 kV11 dc11 pm11 cd11 ct11 : Value}
    (a11 : PySem.W.nsIn K mainGlobals "_law_signs" = some (some (.ref f11))) (l11 : K.lookup f11 = some ⟨oc11, od11, .func (PySem.W.fnOf "_law_signs" "_law_signs" (defArgs s__law_signs) (defBody s__law_signs) (defScope s__law_signs) .none kV11 dc11 pm11 an11 cd11 ct11), sl11⟩) (c11 : PySem.W.codeIn K cd11 "_law_signs" = true) (k11 : PySem.W.keepIn K (.ref f11) = true)
    {f12 : Addr} {od12 an12 : Option Addr} {sl12 : Array (Option Value)} {oc12 kV12 dc12 pm12 cd12 ct12 : Value}
    (a12 : PySem.W.nsIn K mainGlobals "_law_sort" = some (some (.ref f12))) (l12 : K.lookup f12 = some ⟨oc12, od12, .func (PySem.W.fnOf "_law_sort" "_law_sort" (defArgs s__law_sort) (defBody s__law_sort) (defScope s__law_sort) .none kV12 dc12 pm12 an12 cd12 ct12), sl12⟩) (c12 : PySem.W.codeIn K cd12 "_law_sort" = true) (k12 : PySem.W.keepIn K (.ref f12) = true)
    {f13 : Addr} {od13 an13 : Option Addr} {sl13 : Array (Option Value)} {oc13 kV13 dc13 pm13 cd13 ct13 : Value}
    (a13 : PySem.W.nsIn K mainGlobals "_law_is_name" = some (some (.ref f13))) (l13 : K.lookup f13 = some ⟨oc13, od13, .func (PySem.W.fnOf "_law_is_name" "_law_is_name" (defArgs s__law_is_name) (defBody s__law_is_name) (defScope s__law_is_name) .none kV13 dc13 pm13 an13 cd13 ct13), sl13⟩) (c13 : PySem.W.codeIn K cd13 "_law_is_name" = true) (k13 : PySem.W.keepIn K (.ref f13) = true)
    {f14 : Addr} {od14 an14 : Option Addr} {sl14 : Array (Option Value)} {oc14 kV14 dc14 pm14 cd14 ct14 : Value}
    (a14 : PySem.W.nsIn K mainGlobals "_law_is_kind" = some (some (.ref f14))) (l14 : K.lookup f14 = some ⟨oc14, od14, .func (PySem.W.fnOf "_law_is_kind" "_law_is_kind" (defArgs s__law_is_kind) (defBody s__law_is_kind) (defScope s__law_is_kind) .none kV14 dc14 pm14 an14 cd14 ct14), sl14⟩) (c14 : PySem.W.codeIn K cd14 "_law_is_kind" = true) (k14 : PySem.W.keepIn K (.ref f14) = true)
    {f15 : Addr} {od15 an15 : Option Addr} {sl15 : Array (Option Value)} {oc15 kV15 dc15 pm15 cd15 ct15 : Value}
    (a15 : PySem.W.nsIn K mainGlobals "_law_is_lot" = some (some (.ref f15))) (l15 : K.lookup f15 = some ⟨oc15, od15, .func (PySem.W.fnOf "_law_is_lot" "_law_is_lot" (defArgs s__law_is_lot) (defBody s__law_is_lot) (defScope s__law_is_lot) .none kV15 dc15 pm15 an15 cd15 ct15), sl15⟩) (c15 : PySem.W.codeIn K cd15 "_law_is_lot" = true) (k15 : PySem.W.keepIn K (.ref f15) = true)
    {f16 : Addr} {od16 an16 : Option Addr} {sl16 : Array (Option Value)} {oc16 kV16 dc16 pm16 cd16 ct16 : Value}
    (a16 : PySem.W.nsIn K mainGlobals "_law_is_word" = some (some (.ref f16))) (l16 : K.lookup f16 = some ⟨oc16, od16, .func (PySem.W.fnOf "_law_is_word" "_law_is_word" (defArgs s__law_is_word) (defBody s__law_is_word) (defScope s__law_is_word) .none kV16 dc16 pm16 an16 cd16 ct16), sl16⟩) (c16 : PySem.W.codeIn K cd16 "_law_is_word" = true) (k16 : PySem.W.keepIn K (.ref f16) = true)
    {f17 : Addr} {od17 an17 : Option Addr} {sl17 : Array (Option Value)} {oc17 kV17 dc17 pm17 cd17 ct17 : Value}
    (a17 : PySem.W.nsIn K mainGlobals "_law_some_word" = some (some (.ref f17))) (l17 : K.lookup f17 = some ⟨oc17, od17, .func (PySem.W.fnOf "_law_some_word" "_law_some_word" (defArgs s__law_some_word) (defBody s__law_some_word) (defScope s__law_some_word) .none kV17 dc17 pm17 an17 cd17 ct17), sl17⟩) (c17 : PySem.W.codeIn K cd17 "_law_some_word" = true) (k17 : PySem.W.keepIn K (.ref f17) = true)
    {f18 : Addr} {od18 an18 : Option Addr} {sl18 : Array (Option Value)} {oc18 kV18 dc18 pm18 cd18 ct18 : Value}
    (a18 : PySem.W.nsIn K mainGlobals "is_integer" = some (some (.ref f18))) (l18 : K.lookup f18 = some ⟨oc18, od18, .func (PySem.W.fnOf "is_integer" "is_integer" (defArgs s_is_integer) (defBody s_is_integer) (defScope s_is_integer) .none kV18 dc18 pm18 an18 cd18 ct18), sl18⟩) (c18 : PySem.W.codeIn K cd18 "is_integer" = true) (k18 : PySem.W.keepIn K (.ref f18) = true)
    {f19 : Addr} {od19 an19 : Option Addr} {sl19 : Array (Option Value)} {oc19 kV19 dc19 pm19 cd19 ct19 : Value}
    (a19 : PySem.W.nsIn K mainGlobals "is_named" = some (some (.ref f19))) (l19 : K.lookup f19 = some ⟨oc19, od19, .func (PySem.W.fnOf "is_named" "is_named" (defArgs s_is_named) (defBody s_is_named) (defScope s_is_named) .none kV19 dc19 pm19 an19 cd19 ct19), sl19⟩) (c19 : PySem.W.codeIn K cd19 "is_named" = true) (k19 : PySem.W.keepIn K (.ref f19) = true)
    {f20 : Addr} {od20 an20 : Option Addr} {sl20 : Array (Option Value)} {oc20 kV20 dc20 pm20 cd20 ct20 : Value}
    (a20 : PySem.W.nsIn K mainGlobals "is_number" = some (some (.ref f20))) (l20 : K.lookup f20 = some ⟨oc20, od20, .func (PySem.W.fnOf "is_number" "is_number" (defArgs s_is_number) (defBody s_is_number) (defScope s_is_number) .none kV20 dc20 pm20 an20 cd20 ct20), sl20⟩) (c20 : PySem.W.codeIn K cd20 "is_number" = true) (k20 : PySem.W.keepIn K (.ref f20) = true)
    {f21 : Addr} {od21 an21 : Option Addr} {sl21 : Array (Option Value)} {oc21 kV21 dc21 pm21 cd21 ct21 : Value}
    (a21 : PySem.W.nsIn K mainGlobals "sort_of_word" = some (some (.ref f21))) (l21 : K.lookup f21 = some ⟨oc21, od21, .func (PySem.W.fnOf "sort_of_word" "sort_of_word" (defArgs s_sort_of_word) (defBody s_sort_of_word) (defScope s_sort_of_word) .none kV21 dc21 pm21 an21 cd21 ct21), sl21⟩) (c21 : PySem.W.codeIn K cd21 "sort_of_word" = true) (k21 : PySem.W.keepIn K (.ref f21) = true)
    {f22 : Addr} {od22 an22 : Option Addr} {sl22 : Array (Option Value)} {oc22 kV22 dc22 pm22 cd22 ct22 : Value}
    (a22 : PySem.W.nsIn K mainGlobals "is_name" = some (some (.ref f22))) (l22 : K.lookup f22 = some ⟨oc22, od22, .func (PySem.W.fnOf "is_name" "is_name" (defArgs s_is_name) (defBody s_is_name) (defScope s_is_name) .none kV22 dc22 pm22 an22 cd22 ct22), sl22⟩) (c22 : PySem.W.codeIn K cd22 "is_name" = true) (k22 : PySem.W.keepIn K (.ref f22) = true)
    {f23 : Addr} {od23 an23 : Option Addr} {sl23 : Array (Option Value)} {oc23 kV23 dc23 pm23 cd23 ct23 : Value}
    (a23 : PySem.W.nsIn K mainGlobals "is_kind" = some (some (.ref f23))) (l23 : K.lookup f23 = some ⟨oc23, od23, .func (PySem.W.fnOf "is_kind" "is_kind" (defArgs s_is_kind) (defBody s_is_kind) (defScope s_is_kind) .none kV23 dc23 pm23 an23 cd23 ct23), sl23⟩) (c23 : PySem.W.codeIn K cd23 "is_kind" = true) (k23 : PySem.W.keepIn K (.ref f23) = true)
    {f24 : Addr} {od24 an24 : Option Addr} {sl24 : Array (Option Value)} {oc24 kV24 dc24 pm24 cd24 ct24 : Value}
    (a24 : PySem.W.nsIn K mainGlobals "is_lot" = some (some (.ref f24))) (l24 : K.lookup f24 = some ⟨oc24, od24, .func (PySem.W.fnOf "is_lot" "is_lot" (defArgs s_is_lot) (defBody s_is_lot) (defScope s_is_lot) .none kV24 dc24 pm24 an24 cd24 ct24), sl24⟩) (c24 : PySem.W.codeIn K cd24 "is_lot" = true) (k24 : PySem.W.keepIn K (.ref f24) = true)
    {f25 : Addr} {od25 an25 : Option Addr} {sl25 : Array (Option Value)} {oc25 kV25 dc25 pm25 cd25 ct25 : Value}
    (a25 : PySem.W.nsIn K mainGlobals "is_row" = some (some (.ref f25))) (l25 : K.lookup f25 = some ⟨oc25, od25, .func (PySem.W.fnOf "is_row" "is_row" (defArgs s_is_row) (defBody s_is_row) (defScope s_is_row) .none kV25 dc25 pm25 an25 cd25 ct25), sl25⟩) (c25 : PySem.W.codeIn K cd25 "is_row" = true) (k25 : PySem.W.keepIn K (.ref f25) = true)
    {f26 : Addr} {od26 an26 : Option Addr} {sl26 : Array (Option Value)} {oc26 kV26 dc26 pm26 cd26 ct26 : Value}
    (a26 : PySem.W.nsIn K mainGlobals "law" = some (some (.ref f26))) (l26 : K.lookup f26 = some ⟨oc26, od26, .func (PySem.W.fnOf "law" "law" (defArgs s_law) (defBody s_law) (defScope s_law) .none kV26 dc26 pm26 an26 cd26 ct26), sl26⟩) (c26 : PySem.W.codeIn K cd26 "law" = true) (k26 : PySem.W.keepIn K (.ref f26) = true)
    (z_ValueError : PySem.W.nsIn K mainGlobals "ValueError" = some none)
    (z_abs : PySem.W.nsIn K mainGlobals "abs" = some none)
    (z_all : PySem.W.nsIn K mainGlobals "all" = some none)
    (z_bool : PySem.W.nsIn K mainGlobals "bool" = some none)
    (z_enumerate : PySem.W.nsIn K mainGlobals "enumerate" = some none)
    (z_int : PySem.W.nsIn K mainGlobals "int" = some none)
    (z_isinstance : PySem.W.nsIn K mainGlobals "isinstance" = some none)
    (z_len : PySem.W.nsIn K mainGlobals "len" = some none)
    (z_list : PySem.W.nsIn K mainGlobals "list" = some none)
    (z_range : PySem.W.nsIn K mainGlobals "range" = some none)
    (z_repr : PySem.W.nsIn K mainGlobals "repr" = some none)
    (z_str : PySem.W.nsIn K mainGlobals "str" = some none)
    (z_tuple : PySem.W.nsIn K mainGlobals "tuple" = some none)
    (z_zip : PySem.W.nsIn K mainGlobals "zip" = some none)
    {qt_DIGITS : Tok} (qh_DIGITS : PySem.W.nsIn K mainGlobals "DIGITS" = some (some (.str (Str.ofString "0123456789") qt_DIGITS)))
    {qa_KEYWORDS : Addr} {qi_KEYWORDS : Array Value} {qn_KEYWORDS : Nat} {qs_KEYWORDS : Array (Option Value)} (qh_KEYWORDS : PySem.W.nsIn K mainGlobals "KEYWORDS" = some (some (.ref qa_KEYWORDS))) (ql_KEYWORDS : K.lookup qa_KEYWORDS = some ⟨.type "tuple", none, .seq qi_KEYWORDS qn_KEYWORDS, qs_KEYWORDS⟩) (qv_KEYWORDS : Vals [V.str (Str.ofString "plain"), V.str (Str.ofString "once"), V.str (Str.ofString "record"), V.str (Str.ofString "choice"), V.str (Str.ofString "given"), V.str (Str.ofString "def"), V.str (Str.ofString "let"), V.str (Str.ofString "open"), V.str (Str.ofString "if"), V.str (Str.ofString "else"), V.str (Str.ofString "match"), V.str (Str.ofString "repeat"), V.str (Str.ofString "give"), V.str (Str.ofString "true"), V.str (Str.ofString "false"), V.str (Str.ofString "num"), V.str (Str.ofString "truth"), V.str (Str.ofString "and")] qi_KEYWORDS.toList) (qz_KEYWORDS : qi_KEYWORDS.size ≤ sizeLine)
    {qt_MOST_DIGITS : Tok} (qh_MOST_DIGITS : PySem.W.nsIn K mainGlobals "MOST_DIGITS" = some (some (.int 9 qt_MOST_DIGITS)))
    {qt_MOST_LETTERS : Tok} (qh_MOST_LETTERS : PySem.W.nsIn K mainGlobals "MOST_LETTERS" = some (some (.int 20 qt_MOST_LETTERS)))
    {qt_SIGNS : Tok} (qh_SIGNS : PySem.W.nsIn K mainGlobals "SIGNS" = some (some (.str (Str.ofString "{}(),:;=+<.") qt_SIGNS)))
    {qt_SMALL : Tok} (qh_SMALL : PySem.W.nsIn K mainGlobals "SMALL" = some (some (.str (Str.ofString "abcdefghijklmnopqrstuvwxyz") qt_SMALL)))
    (xsup : PySem.W.nsIn K mainGlobals "super" = some none) (xthp : PySem.W.nsIn K cStatics "thirdparty.any" = some none) (xtop : (l.prog.main.scope.names.lookup ("super" : Str)).isSome = false)
    (xhn : PySem.W.specialIn K (.builtin "object.__class__") "__get__" = some (some (.builtin "getset_descriptor.__get__"))) (xtk : PySem.W.takesIn K (.builtin "object.__class__") = some true)
    {C_NoAnswer N_NoAnswer : Addr} {nm_NoAnswer q_NoAnswer : Str} {bs_NoAnswer bm_NoAnswer sb_NoAnswer : List Value} {sn_NoAnswer : List Str} {ab_NoAnswer : Bool} {col_NoAnswer : Option Bool} {dd_NoAnswer : Option Addr} {k0_NoAnswer k1_NoAnswer k2_NoAnswer k3_NoAnswer k5_NoAnswer : Option Value} (xa_NoAnswer : PySem.W.nsIn K mainGlobals "NoAnswer" = some (some (.ref C_NoAnswer))) (xl_NoAnswer : K.lookup C_NoAnswer = some (excClassObj nm_NoAnswer q_NoAnswer C_NoAnswer N_NoAnswer bs_NoAnswer bm_NoAnswer true sn_NoAnswer sb_NoAnswer ab_NoAnswer col_NoAnswer dd_NoAnswer k0_NoAnswer k1_NoAnswer k2_NoAnswer k3_NoAnswer k5_NoAnswer "ValueError.__new__")) (xv_NoAnswer : PySem.HandSPX.refsVE bm_NoAnswer = true)
    (xsa_NoAnswer : PySem.W.findIn K (.ref C_NoAnswer) "__setattr__" = some (some (.builtin "object.__setattr__")))
    (xbe_NoAnswer : PySem.W.subIn K (.ref C_NoAnswer) (.type "BaseException") = some true)
    (xtt_NoAnswer : PySem.W.typeIn K (.ref C_NoAnswer) = some (.type "type"))
    (xkp_NoAnswer : PySem.W.keepIn K (.ref C_NoAnswer) = true)
    (xga_NoAnswer : PySem.W.findIn K (.ref C_NoAnswer) "__getattribute__" = some (some (.builtin "BaseException.__getattribute__")))
    (xgt_NoAnswer : PySem.W.findIn K (.ref C_NoAnswer) "__getattr__" = some none)
    (xcl_NoAnswer : PySem.W.findIn K (.ref C_NoAnswer) "__class__" = some (some (.builtin "object.__class__")))
    {fI_NoAnswer cc_NoAnswer cda_NoAnswer : Addr} {oc_NoAnswer ccl_NoAnswer cl_NoAnswer kV_NoAnswer doc_NoAnswer pm_NoAnswer ct_NoAnswer : Value} {od_NoAnswer an_NoAnswer cdd_NoAnswer cld_NoAnswer : Option Addr} {osl_NoAnswer ccs_NoAnswer csl_NoAnswer : Array (Option Value)} {vs_NoAnswer : Array Value} {file_NoAnswer : Str} {tf_NoAnswer : Tok}
    (xn_NoAnswer : PySem.W.excInitIn K C_NoAnswer [.type "ValueError", .type "Exception", .type "BaseException", .type "object"] "ValueError.__new__" = true) (xf_NoAnswer : PySem.W.findIn K (.ref C_NoAnswer) (Str.ofString "place") = some none) (xi_NoAnswer : PySem.W.findIn K (.ref C_NoAnswer) "__init__" = some (some (.ref fI_NoAnswer))) (xti_NoAnswer : PySem.W.typeIn K (.ref fI_NoAnswer) = some (.type "function"))
    (xli_NoAnswer : K.lookup fI_NoAnswer = some ⟨oc_NoAnswer, od_NoAnswer, .func (PySem.W.ksFn "__init__" "NoAnswer.__init__" (defArgs si_NoAnswer) (defBody si_NoAnswer) (defScope si_NoAnswer) .none kV_NoAnswer doc_NoAnswer pm_NoAnswer an_NoAnswer (.ref cda_NoAnswer) ct_NoAnswer cc_NoAnswer), osl_NoAnswer⟩) (xci_NoAnswer : PySem.W.codeIn K (.ref cda_NoAnswer) "NoAnswer.__init__" = true)
    (xlc_NoAnswer : K.lookup cda_NoAnswer = some ⟨ccl_NoAnswer, cdd_NoAnswer, .fields vs_NoAnswer, ccs_NoAnswer⟩) (xvs_NoAnswer : vs_NoAnswer[2]? = some (.str file_NoAnswer tf_NoAnswer)) (xfi_NoAnswer : ((l.prog.main.file : Str) == file_NoAnswer) = true) (xce_NoAnswer : K.lookup cc_NoAnswer = some ⟨cl_NoAnswer, cld_NoAnswer, .cell (some (.ref C_NoAnswer)), csl_NoAnswer⟩)
    (xsu_NoAnswer : PySem.W.mroIn K C_NoAnswer (.ref C_NoAnswer) = some true) (xba_NoAnswer : PySem.W.ks_superIn K C_NoAnswer C_NoAnswer "__init__" = some (some (.builtin "ValueError.__init__"))) (xve_NoAnswer : PySem.W.subIn K (.ref C_NoAnswer) (.type "ValueError") = some true)
    {C_NoCommand N_NoCommand : Addr} {nm_NoCommand q_NoCommand : Str} {bs_NoCommand bm_NoCommand sb_NoCommand : List Value} {sn_NoCommand : List Str} {ab_NoCommand : Bool} {col_NoCommand : Option Bool} {dd_NoCommand : Option Addr} {k0_NoCommand k1_NoCommand k2_NoCommand k3_NoCommand k5_NoCommand : Option Value} (xa_NoCommand : PySem.W.nsIn K mainGlobals "NoCommand" = some (some (.ref C_NoCommand))) (xl_NoCommand : K.lookup C_NoCommand = some (excClassObj nm_NoCommand q_NoCommand C_NoCommand N_NoCommand bs_NoCommand bm_NoCommand true sn_NoCommand sb_NoCommand ab_NoCommand col_NoCommand dd_NoCommand k0_NoCommand k1_NoCommand k2_NoCommand k3_NoCommand k5_NoCommand "ValueError.__new__")) (xv_NoCommand : PySem.HandSPX.refsVE bm_NoCommand = true)
    (xsa_NoCommand : PySem.W.findIn K (.ref C_NoCommand) "__setattr__" = some (some (.builtin "object.__setattr__")))
    (xbe_NoCommand : PySem.W.subIn K (.ref C_NoCommand) (.type "BaseException") = some true)
    (xtt_NoCommand : PySem.W.typeIn K (.ref C_NoCommand) = some (.type "type"))
    (xkp_NoCommand : PySem.W.keepIn K (.ref C_NoCommand) = true)
    (xga_NoCommand : PySem.W.findIn K (.ref C_NoCommand) "__getattribute__" = some (some (.builtin "BaseException.__getattribute__")))
    (xgt_NoCommand : PySem.W.findIn K (.ref C_NoCommand) "__getattr__" = some none)
    (xcl_NoCommand : PySem.W.findIn K (.ref C_NoCommand) "__class__" = some (some (.builtin "object.__class__")))
    {fI_NoCommand cc_NoCommand cda_NoCommand : Addr} {oc_NoCommand ccl_NoCommand cl_NoCommand kV_NoCommand doc_NoCommand pm_NoCommand ct_NoCommand : Value} {od_NoCommand an_NoCommand cdd_NoCommand cld_NoCommand : Option Addr} {osl_NoCommand ccs_NoCommand csl_NoCommand : Array (Option Value)} {vs_NoCommand : Array Value} {file_NoCommand : Str} {tf_NoCommand : Tok}
    (xn_NoCommand : PySem.W.excInitIn K C_NoCommand [.type "ValueError", .type "Exception", .type "BaseException", .type "object"] "ValueError.__new__" = true) (xf_NoCommand : PySem.W.findIn K (.ref C_NoCommand) (Str.ofString "line") = some none) (xi_NoCommand : PySem.W.findIn K (.ref C_NoCommand) "__init__" = some (some (.ref fI_NoCommand))) (xti_NoCommand : PySem.W.typeIn K (.ref fI_NoCommand) = some (.type "function"))
    (xli_NoCommand : K.lookup fI_NoCommand = some ⟨oc_NoCommand, od_NoCommand, .func (PySem.W.ksFn "__init__" "NoCommand.__init__" (defArgs si_NoCommand) (defBody si_NoCommand) (defScope si_NoCommand) .none kV_NoCommand doc_NoCommand pm_NoCommand an_NoCommand (.ref cda_NoCommand) ct_NoCommand cc_NoCommand), osl_NoCommand⟩) (xci_NoCommand : PySem.W.codeIn K (.ref cda_NoCommand) "NoCommand.__init__" = true)
    (xlc_NoCommand : K.lookup cda_NoCommand = some ⟨ccl_NoCommand, cdd_NoCommand, .fields vs_NoCommand, ccs_NoCommand⟩) (xvs_NoCommand : vs_NoCommand[2]? = some (.str file_NoCommand tf_NoCommand)) (xfi_NoCommand : ((l.prog.main.file : Str) == file_NoCommand) = true) (xce_NoCommand : K.lookup cc_NoCommand = some ⟨cl_NoCommand, cld_NoCommand, .cell (some (.ref C_NoCommand)), csl_NoCommand⟩)
    (xsu_NoCommand : PySem.W.mroIn K C_NoCommand (.ref C_NoCommand) = some true) (xba_NoCommand : PySem.W.ks_superIn K C_NoCommand C_NoCommand "__init__" = some (some (.builtin "ValueError.__init__"))) (xve_NoCommand : PySem.W.subIn K (.ref C_NoCommand) (.type "ValueError") = some true)
    {C_NoEnding N_NoEnding : Addr} {nm_NoEnding q_NoEnding : Str} {bs_NoEnding bm_NoEnding sb_NoEnding : List Value} {sn_NoEnding : List Str} {ab_NoEnding : Bool} {col_NoEnding : Option Bool} {dd_NoEnding : Option Addr} {k0_NoEnding k1_NoEnding k2_NoEnding k3_NoEnding k5_NoEnding : Option Value} (xa_NoEnding : PySem.W.nsIn K mainGlobals "NoEnding" = some (some (.ref C_NoEnding))) (xl_NoEnding : K.lookup C_NoEnding = some (excClassObj nm_NoEnding q_NoEnding C_NoEnding N_NoEnding bs_NoEnding bm_NoEnding true sn_NoEnding sb_NoEnding ab_NoEnding col_NoEnding dd_NoEnding k0_NoEnding k1_NoEnding k2_NoEnding k3_NoEnding k5_NoEnding "ValueError.__new__")) (xv_NoEnding : PySem.HandSPX.refsVE bm_NoEnding = true)
    (xsa_NoEnding : PySem.W.findIn K (.ref C_NoEnding) "__setattr__" = some (some (.builtin "object.__setattr__")))
    (xbe_NoEnding : PySem.W.subIn K (.ref C_NoEnding) (.type "BaseException") = some true)
    (xtt_NoEnding : PySem.W.typeIn K (.ref C_NoEnding) = some (.type "type"))
    (xkp_NoEnding : PySem.W.keepIn K (.ref C_NoEnding) = true)
    (xga_NoEnding : PySem.W.findIn K (.ref C_NoEnding) "__getattribute__" = some (some (.builtin "BaseException.__getattribute__")))
    (xgt_NoEnding : PySem.W.findIn K (.ref C_NoEnding) "__getattr__" = some none)
    (xcl_NoEnding : PySem.W.findIn K (.ref C_NoEnding) "__class__" = some (some (.builtin "object.__class__")))
    (xn_NoEnding : PySem.W.excIn K C_NoEnding [.type "ValueError", .type "Exception", .type "BaseException", .type "object"] "ValueError.__new__" = true)
    {C_NoTree N_NoTree : Addr} {nm_NoTree q_NoTree : Str} {bs_NoTree bm_NoTree sb_NoTree : List Value} {sn_NoTree : List Str} {ab_NoTree : Bool} {col_NoTree : Option Bool} {dd_NoTree : Option Addr} {k0_NoTree k1_NoTree k2_NoTree k3_NoTree k5_NoTree : Option Value} (xa_NoTree : PySem.W.nsIn K mainGlobals "NoTree" = some (some (.ref C_NoTree))) (xl_NoTree : K.lookup C_NoTree = some (excClassObj nm_NoTree q_NoTree C_NoTree N_NoTree bs_NoTree bm_NoTree true sn_NoTree sb_NoTree ab_NoTree col_NoTree dd_NoTree k0_NoTree k1_NoTree k2_NoTree k3_NoTree k5_NoTree "ValueError.__new__")) (xv_NoTree : PySem.HandSPX.refsVE bm_NoTree = true)
    (xsa_NoTree : PySem.W.findIn K (.ref C_NoTree) "__setattr__" = some (some (.builtin "object.__setattr__")))
    (xbe_NoTree : PySem.W.subIn K (.ref C_NoTree) (.type "BaseException") = some true)
    (xtt_NoTree : PySem.W.typeIn K (.ref C_NoTree) = some (.type "type"))
    (xkp_NoTree : PySem.W.keepIn K (.ref C_NoTree) = true)
    (xga_NoTree : PySem.W.findIn K (.ref C_NoTree) "__getattribute__" = some (some (.builtin "BaseException.__getattribute__")))
    (xgt_NoTree : PySem.W.findIn K (.ref C_NoTree) "__getattr__" = some none)
    (xcl_NoTree : PySem.W.findIn K (.ref C_NoTree) "__class__" = some (some (.builtin "object.__class__")))
    {fI_NoTree cc_NoTree cda_NoTree : Addr} {oc_NoTree ccl_NoTree cl_NoTree kV_NoTree doc_NoTree pm_NoTree ct_NoTree : Value} {od_NoTree an_NoTree cdd_NoTree cld_NoTree : Option Addr} {osl_NoTree ccs_NoTree csl_NoTree : Array (Option Value)} {vs_NoTree : Array Value} {file_NoTree : Str} {tf_NoTree : Tok}
    (xn_NoTree : PySem.W.excInitIn K C_NoTree [.type "ValueError", .type "Exception", .type "BaseException", .type "object"] "ValueError.__new__" = true) (xf_NoTree : PySem.W.findIn K (.ref C_NoTree) (Str.ofString "index") = some none) (xi_NoTree : PySem.W.findIn K (.ref C_NoTree) "__init__" = some (some (.ref fI_NoTree))) (xti_NoTree : PySem.W.typeIn K (.ref fI_NoTree) = some (.type "function"))
    (xli_NoTree : K.lookup fI_NoTree = some ⟨oc_NoTree, od_NoTree, .func (PySem.W.ksFn "__init__" "NoTree.__init__" (defArgs si_NoTree) (defBody si_NoTree) (defScope si_NoTree) .none kV_NoTree doc_NoTree pm_NoTree an_NoTree (.ref cda_NoTree) ct_NoTree cc_NoTree), osl_NoTree⟩) (xci_NoTree : PySem.W.codeIn K (.ref cda_NoTree) "NoTree.__init__" = true)
    (xlc_NoTree : K.lookup cda_NoTree = some ⟨ccl_NoTree, cdd_NoTree, .fields vs_NoTree, ccs_NoTree⟩) (xvs_NoTree : vs_NoTree[2]? = some (.str file_NoTree tf_NoTree)) (xfi_NoTree : ((l.prog.main.file : Str) == file_NoTree) = true) (xce_NoTree : K.lookup cc_NoTree = some ⟨cl_NoTree, cld_NoTree, .cell (some (.ref C_NoTree)), csl_NoTree⟩)
    (xsu_NoTree : PySem.W.mroIn K C_NoTree (.ref C_NoTree) = some true) (xba_NoTree : PySem.W.ks_superIn K C_NoTree C_NoTree "__init__" = some (some (.builtin "ValueError.__init__"))) (xve_NoTree : PySem.W.subIn K (.ref C_NoTree) (.type "ValueError") = some true)
    {C_NoWord N_NoWord : Addr} {nm_NoWord q_NoWord : Str} {bs_NoWord bm_NoWord sb_NoWord : List Value} {sn_NoWord : List Str} {ab_NoWord : Bool} {col_NoWord : Option Bool} {dd_NoWord : Option Addr} {k0_NoWord k1_NoWord k2_NoWord k3_NoWord k5_NoWord : Option Value} (xa_NoWord : PySem.W.nsIn K mainGlobals "NoWord" = some (some (.ref C_NoWord))) (xl_NoWord : K.lookup C_NoWord = some (excClassObj nm_NoWord q_NoWord C_NoWord N_NoWord bs_NoWord bm_NoWord true sn_NoWord sb_NoWord ab_NoWord col_NoWord dd_NoWord k0_NoWord k1_NoWord k2_NoWord k3_NoWord k5_NoWord "ValueError.__new__")) (xv_NoWord : PySem.HandSPX.refsVE bm_NoWord = true)
    (xsa_NoWord : PySem.W.findIn K (.ref C_NoWord) "__setattr__" = some (some (.builtin "object.__setattr__")))
    (xbe_NoWord : PySem.W.subIn K (.ref C_NoWord) (.type "BaseException") = some true)
    (xtt_NoWord : PySem.W.typeIn K (.ref C_NoWord) = some (.type "type"))
    (xkp_NoWord : PySem.W.keepIn K (.ref C_NoWord) = true)
    (xga_NoWord : PySem.W.findIn K (.ref C_NoWord) "__getattribute__" = some (some (.builtin "BaseException.__getattribute__")))
    (xgt_NoWord : PySem.W.findIn K (.ref C_NoWord) "__getattr__" = some none)
    (xcl_NoWord : PySem.W.findIn K (.ref C_NoWord) "__class__" = some (some (.builtin "object.__class__")))
    {fI_NoWord cc_NoWord cda_NoWord : Addr} {oc_NoWord ccl_NoWord cl_NoWord kV_NoWord doc_NoWord pm_NoWord ct_NoWord : Value} {od_NoWord an_NoWord cdd_NoWord cld_NoWord : Option Addr} {osl_NoWord ccs_NoWord csl_NoWord : Array (Option Value)} {vs_NoWord : Array Value} {file_NoWord : Str} {tf_NoWord : Tok}
    (xn_NoWord : PySem.W.excInitIn K C_NoWord [.type "ValueError", .type "Exception", .type "BaseException", .type "object"] "ValueError.__new__" = true) (xf_NoWord : PySem.W.findIn K (.ref C_NoWord) (Str.ofString "place") = some none) (xi_NoWord : PySem.W.findIn K (.ref C_NoWord) "__init__" = some (some (.ref fI_NoWord))) (xti_NoWord : PySem.W.typeIn K (.ref fI_NoWord) = some (.type "function"))
    (xli_NoWord : K.lookup fI_NoWord = some ⟨oc_NoWord, od_NoWord, .func (PySem.W.ksFn "__init__" "NoWord.__init__" (defArgs si_NoWord) (defBody si_NoWord) (defScope si_NoWord) .none kV_NoWord doc_NoWord pm_NoWord an_NoWord (.ref cda_NoWord) ct_NoWord cc_NoWord), osl_NoWord⟩) (xci_NoWord : PySem.W.codeIn K (.ref cda_NoWord) "NoWord.__init__" = true)
    (xlc_NoWord : K.lookup cda_NoWord = some ⟨ccl_NoWord, cdd_NoWord, .fields vs_NoWord, ccs_NoWord⟩) (xvs_NoWord : vs_NoWord[2]? = some (.str file_NoWord tf_NoWord)) (xfi_NoWord : ((l.prog.main.file : Str) == file_NoWord) = true) (xce_NoWord : K.lookup cc_NoWord = some ⟨cl_NoWord, cld_NoWord, .cell (some (.ref C_NoWord)), csl_NoWord⟩)
    (xsu_NoWord : PySem.W.mroIn K C_NoWord (.ref C_NoWord) = some true) (xba_NoWord : PySem.W.ks_superIn K C_NoWord C_NoWord "__init__" = some (some (.builtin "ValueError.__init__"))) (xve_NoWord : PySem.W.subIn K (.ref C_NoWord) (.type "ValueError") = some true)
    {C_Nothing N_Nothing : Addr} {nm_Nothing q_Nothing : Str} {bs_Nothing bm_Nothing sb_Nothing : List Value} {sn_Nothing : List Str} {ab_Nothing : Bool} {col_Nothing : Option Bool} {dd_Nothing : Option Addr} {k0_Nothing k1_Nothing k2_Nothing k3_Nothing k5_Nothing : Option Value} (xa_Nothing : PySem.W.nsIn K mainGlobals "Nothing" = some (some (.ref C_Nothing))) (xl_Nothing : K.lookup C_Nothing = some (excClassObj nm_Nothing q_Nothing C_Nothing N_Nothing bs_Nothing bm_Nothing true sn_Nothing sb_Nothing ab_Nothing col_Nothing dd_Nothing k0_Nothing k1_Nothing k2_Nothing k3_Nothing k5_Nothing "ValueError.__new__")) (xv_Nothing : PySem.HandSPX.refsVE bm_Nothing = true)
    (xsa_Nothing : PySem.W.findIn K (.ref C_Nothing) "__setattr__" = some (some (.builtin "object.__setattr__")))
    (xbe_Nothing : PySem.W.subIn K (.ref C_Nothing) (.type "BaseException") = some true)
    (xtt_Nothing : PySem.W.typeIn K (.ref C_Nothing) = some (.type "type"))
    (xkp_Nothing : PySem.W.keepIn K (.ref C_Nothing) = true)
    (xga_Nothing : PySem.W.findIn K (.ref C_Nothing) "__getattribute__" = some (some (.builtin "BaseException.__getattribute__")))
    (xgt_Nothing : PySem.W.findIn K (.ref C_Nothing) "__getattr__" = some none)
    (xcl_Nothing : PySem.W.findIn K (.ref C_Nothing) "__class__" = some (some (.builtin "object.__class__")))
    (xn_Nothing : PySem.W.excIn K C_Nothing [.type "ValueError", .type "Exception", .type "BaseException", .type "object"] "ValueError.__new__" = true)
    {C_TooLong N_TooLong : Addr} {nm_TooLong q_TooLong : Str} {bs_TooLong bm_TooLong sb_TooLong : List Value} {sn_TooLong : List Str} {ab_TooLong : Bool} {col_TooLong : Option Bool} {dd_TooLong : Option Addr} {k0_TooLong k1_TooLong k2_TooLong k3_TooLong k5_TooLong : Option Value} (xa_TooLong : PySem.W.nsIn K mainGlobals "TooLong" = some (some (.ref C_TooLong))) (xl_TooLong : K.lookup C_TooLong = some (excClassObj nm_TooLong q_TooLong C_TooLong N_TooLong bs_TooLong bm_TooLong true sn_TooLong sb_TooLong ab_TooLong col_TooLong dd_TooLong k0_TooLong k1_TooLong k2_TooLong k3_TooLong k5_TooLong "ValueError.__new__")) (xv_TooLong : PySem.HandSPX.refsVE bm_TooLong = true)
    (xsa_TooLong : PySem.W.findIn K (.ref C_TooLong) "__setattr__" = some (some (.builtin "object.__setattr__")))
    (xbe_TooLong : PySem.W.subIn K (.ref C_TooLong) (.type "BaseException") = some true)
    (xtt_TooLong : PySem.W.typeIn K (.ref C_TooLong) = some (.type "type"))
    (xkp_TooLong : PySem.W.keepIn K (.ref C_TooLong) = true)
    (xga_TooLong : PySem.W.findIn K (.ref C_TooLong) "__getattribute__" = some (some (.builtin "BaseException.__getattribute__")))
    (xgt_TooLong : PySem.W.findIn K (.ref C_TooLong) "__getattr__" = some none)
    (xcl_TooLong : PySem.W.findIn K (.ref C_TooLong) "__class__" = some (some (.builtin "object.__class__")))
    {fI_TooLong cc_TooLong cda_TooLong : Addr} {oc_TooLong ccl_TooLong cl_TooLong kV_TooLong doc_TooLong pm_TooLong ct_TooLong : Value} {od_TooLong an_TooLong cdd_TooLong cld_TooLong : Option Addr} {osl_TooLong ccs_TooLong csl_TooLong : Array (Option Value)} {vs_TooLong : Array Value} {file_TooLong : Str} {tf_TooLong : Tok}
    (xn_TooLong : PySem.W.excInitIn K C_TooLong [.type "ValueError", .type "Exception", .type "BaseException", .type "object"] "ValueError.__new__" = true) (xf_TooLong : PySem.W.findIn K (.ref C_TooLong) (Str.ofString "most") = some none) (xi_TooLong : PySem.W.findIn K (.ref C_TooLong) "__init__" = some (some (.ref fI_TooLong))) (xti_TooLong : PySem.W.typeIn K (.ref fI_TooLong) = some (.type "function"))
    (xli_TooLong : K.lookup fI_TooLong = some ⟨oc_TooLong, od_TooLong, .func (PySem.W.ksFn "__init__" "TooLong.__init__" (defArgs si_TooLong) (defBody si_TooLong) (defScope si_TooLong) .none kV_TooLong doc_TooLong pm_TooLong an_TooLong (.ref cda_TooLong) ct_TooLong cc_TooLong), osl_TooLong⟩) (xci_TooLong : PySem.W.codeIn K (.ref cda_TooLong) "TooLong.__init__" = true)
    (xlc_TooLong : K.lookup cda_TooLong = some ⟨ccl_TooLong, cdd_TooLong, .fields vs_TooLong, ccs_TooLong⟩) (xvs_TooLong : vs_TooLong[2]? = some (.str file_TooLong tf_TooLong)) (xfi_TooLong : ((l.prog.main.file : Str) == file_TooLong) = true) (xce_TooLong : K.lookup cc_TooLong = some ⟨cl_TooLong, cld_TooLong, .cell (some (.ref C_TooLong)), csl_TooLong⟩)
    (xsu_TooLong : PySem.W.mroIn K C_TooLong (.ref C_TooLong) = some true) (xba_TooLong : PySem.W.ks_superIn K C_TooLong C_TooLong "__init__" = some (some (.builtin "ValueError.__init__"))) (xve_TooLong : PySem.W.subIn K (.ref C_TooLong) (.type "ValueError") = some true)
    {C_TooMany N_TooMany : Addr} {nm_TooMany q_TooMany : Str} {bs_TooMany bm_TooMany sb_TooMany : List Value} {sn_TooMany : List Str} {ab_TooMany : Bool} {col_TooMany : Option Bool} {dd_TooMany : Option Addr} {k0_TooMany k1_TooMany k2_TooMany k3_TooMany k5_TooMany : Option Value} (xa_TooMany : PySem.W.nsIn K mainGlobals "TooMany" = some (some (.ref C_TooMany))) (xl_TooMany : K.lookup C_TooMany = some (excClassObj nm_TooMany q_TooMany C_TooMany N_TooMany bs_TooMany bm_TooMany true sn_TooMany sb_TooMany ab_TooMany col_TooMany dd_TooMany k0_TooMany k1_TooMany k2_TooMany k3_TooMany k5_TooMany "ValueError.__new__")) (xv_TooMany : PySem.HandSPX.refsVE bm_TooMany = true)
    (xsa_TooMany : PySem.W.findIn K (.ref C_TooMany) "__setattr__" = some (some (.builtin "object.__setattr__")))
    (xbe_TooMany : PySem.W.subIn K (.ref C_TooMany) (.type "BaseException") = some true)
    (xtt_TooMany : PySem.W.typeIn K (.ref C_TooMany) = some (.type "type"))
    (xkp_TooMany : PySem.W.keepIn K (.ref C_TooMany) = true)
    (xga_TooMany : PySem.W.findIn K (.ref C_TooMany) "__getattribute__" = some (some (.builtin "BaseException.__getattribute__")))
    (xgt_TooMany : PySem.W.findIn K (.ref C_TooMany) "__getattr__" = some none)
    (xcl_TooMany : PySem.W.findIn K (.ref C_TooMany) "__class__" = some (some (.builtin "object.__class__")))
    {fI_TooMany cc_TooMany cda_TooMany : Addr} {oc_TooMany ccl_TooMany cl_TooMany kV_TooMany doc_TooMany pm_TooMany ct_TooMany : Value} {od_TooMany an_TooMany cdd_TooMany cld_TooMany : Option Addr} {osl_TooMany ccs_TooMany csl_TooMany : Array (Option Value)} {vs_TooMany : Array Value} {file_TooMany : Str} {tf_TooMany : Tok}
    (xn_TooMany : PySem.W.excInitIn K C_TooMany [.type "ValueError", .type "Exception", .type "BaseException", .type "object"] "ValueError.__new__" = true) (xf_TooMany : PySem.W.findIn K (.ref C_TooMany) (Str.ofString "most") = some none) (xi_TooMany : PySem.W.findIn K (.ref C_TooMany) "__init__" = some (some (.ref fI_TooMany))) (xti_TooMany : PySem.W.typeIn K (.ref fI_TooMany) = some (.type "function"))
    (xli_TooMany : K.lookup fI_TooMany = some ⟨oc_TooMany, od_TooMany, .func (PySem.W.ksFn "__init__" "TooMany.__init__" (defArgs si_TooMany) (defBody si_TooMany) (defScope si_TooMany) .none kV_TooMany doc_TooMany pm_TooMany an_TooMany (.ref cda_TooMany) ct_TooMany cc_TooMany), osl_TooMany⟩) (xci_TooMany : PySem.W.codeIn K (.ref cda_TooMany) "TooMany.__init__" = true)
    (xlc_TooMany : K.lookup cda_TooMany = some ⟨ccl_TooMany, cdd_TooMany, .fields vs_TooMany, ccs_TooMany⟩) (xvs_TooMany : vs_TooMany[2]? = some (.str file_TooMany tf_TooMany)) (xfi_TooMany : ((l.prog.main.file : Str) == file_TooMany) = true) (xce_TooMany : K.lookup cc_TooMany = some ⟨cl_TooMany, cld_TooMany, .cell (some (.ref C_TooMany)), csl_TooMany⟩)
    (xsu_TooMany : PySem.W.mroIn K C_TooMany (.ref C_TooMany) = some true) (xba_TooMany : PySem.W.ks_superIn K C_TooMany C_TooMany "__init__" = some (some (.builtin "ValueError.__init__"))) (xve_TooMany : PySem.W.subIn K (.ref C_TooMany) (.type "ValueError") = some true)
    {C_Wrong N_Wrong : Addr} {nm_Wrong q_Wrong : Str} {bs_Wrong bm_Wrong sb_Wrong : List Value} {sn_Wrong : List Str} {ab_Wrong : Bool} {col_Wrong : Option Bool} {dd_Wrong : Option Addr} {k0_Wrong k1_Wrong k2_Wrong k3_Wrong k5_Wrong : Option Value} (xa_Wrong : PySem.W.nsIn K mainGlobals "Wrong" = some (some (.ref C_Wrong))) (xl_Wrong : K.lookup C_Wrong = some (excClassObj nm_Wrong q_Wrong C_Wrong N_Wrong bs_Wrong bm_Wrong true sn_Wrong sb_Wrong ab_Wrong col_Wrong dd_Wrong k0_Wrong k1_Wrong k2_Wrong k3_Wrong k5_Wrong "ValueError.__new__")) (xv_Wrong : PySem.HandSPX.refsVE bm_Wrong = true)
    (xsa_Wrong : PySem.W.findIn K (.ref C_Wrong) "__setattr__" = some (some (.builtin "object.__setattr__")))
    (xbe_Wrong : PySem.W.subIn K (.ref C_Wrong) (.type "BaseException") = some true)
    (xtt_Wrong : PySem.W.typeIn K (.ref C_Wrong) = some (.type "type"))
    (xkp_Wrong : PySem.W.keepIn K (.ref C_Wrong) = true)
    (xga_Wrong : PySem.W.findIn K (.ref C_Wrong) "__getattribute__" = some (some (.builtin "BaseException.__getattribute__")))
    (xgt_Wrong : PySem.W.findIn K (.ref C_Wrong) "__getattr__" = some none)
    (xcl_Wrong : PySem.W.findIn K (.ref C_Wrong) "__class__" = some (some (.builtin "object.__class__")))
    {fI_Wrong cc_Wrong cda_Wrong : Addr} {oc_Wrong ccl_Wrong cl_Wrong kV_Wrong doc_Wrong pm_Wrong ct_Wrong : Value} {od_Wrong an_Wrong cdd_Wrong cld_Wrong : Option Addr} {osl_Wrong ccs_Wrong csl_Wrong : Array (Option Value)} {vs_Wrong : Array Value} {file_Wrong : Str} {tf_Wrong : Tok}
    (xn_Wrong : PySem.W.excInitIn K C_Wrong [.type "ValueError", .type "Exception", .type "BaseException", .type "object"] "ValueError.__new__" = true) (xf_Wrong : PySem.W.findIn K (.ref C_Wrong) (Str.ofString "place") = some none) (xi_Wrong : PySem.W.findIn K (.ref C_Wrong) "__init__" = some (some (.ref fI_Wrong))) (xti_Wrong : PySem.W.typeIn K (.ref fI_Wrong) = some (.type "function"))
    (xli_Wrong : K.lookup fI_Wrong = some ⟨oc_Wrong, od_Wrong, .func (PySem.W.ksFn "__init__" "Wrong.__init__" (defArgs si_Wrong) (defBody si_Wrong) (defScope si_Wrong) .none kV_Wrong doc_Wrong pm_Wrong an_Wrong (.ref cda_Wrong) ct_Wrong cc_Wrong), osl_Wrong⟩) (xci_Wrong : PySem.W.codeIn K (.ref cda_Wrong) "Wrong.__init__" = true)
    (xlc_Wrong : K.lookup cda_Wrong = some ⟨ccl_Wrong, cdd_Wrong, .fields vs_Wrong, ccs_Wrong⟩) (xvs_Wrong : vs_Wrong[2]? = some (.str file_Wrong tf_Wrong)) (xfi_Wrong : ((l.prog.main.file : Str) == file_Wrong) = true) (xce_Wrong : K.lookup cc_Wrong = some ⟨cl_Wrong, cld_Wrong, .cell (some (.ref C_Wrong)), csl_Wrong⟩)
    (xsu_Wrong : PySem.W.mroIn K C_Wrong (.ref C_Wrong) = some true) (xba_Wrong : PySem.W.ks_superIn K C_Wrong C_Wrong "__init__" = some (some (.builtin "ValueError.__init__"))) (xve_Wrong : PySem.W.subIn K (.ref C_Wrong) (.type "ValueError") = some true)
    {C_EndError : Addr} (xa_EndError : PySem.W.nsIn K mainGlobals "EndError" = some (some (.ref C_EndError)))
    {yo_EndError : Value} {yd_EndError : Option Addr} {ycd_EndError : ClassData} {ysl_EndError : Array (Option Value)} (yc_EndError : K.lookup C_EndError = some ⟨yo_EndError, yd_EndError, .cls ycd_EndError, ysl_EndError⟩)
    (yt_EndError : PySem.W.typeIn K (.ref C_EndError) = some (.type "type"))
    (ys_EndError_NoAnswer : PySem.W.subIn K (.ref C_NoAnswer) (.ref C_EndError) = some true)
    (ys_EndError_NoCommand : PySem.W.subIn K (.ref C_NoCommand) (.ref C_EndError) = some true)
    (ys_EndError_NoEnding : PySem.W.subIn K (.ref C_NoEnding) (.ref C_EndError) = some true)
    (ys_EndError_NoTree : PySem.W.subIn K (.ref C_NoTree) (.ref C_EndError) = some true)
    (ys_EndError_NoWord : PySem.W.subIn K (.ref C_NoWord) (.ref C_EndError) = some true)
    (ys_EndError_Nothing : PySem.W.subIn K (.ref C_Nothing) (.ref C_EndError) = some true)
    (ys_EndError_TooLong : PySem.W.subIn K (.ref C_TooLong) (.ref C_EndError) = some true)
    (ys_EndError_TooMany : PySem.W.subIn K (.ref C_TooMany) (.ref C_EndError) = some true)
    (ys_EndError_Wrong : PySem.W.subIn K (.ref C_Wrong) (.ref C_EndError) = some true)
    (yt_NoAnswer : PySem.W.typeIn K (.ref C_NoAnswer) = some (.type "type"))
    (ys_NoAnswer_NoAnswer : PySem.W.subIn K (.ref C_NoAnswer) (.ref C_NoAnswer) = some true)
    (ys_NoAnswer_NoCommand : PySem.W.subIn K (.ref C_NoCommand) (.ref C_NoAnswer) = some false)
    (ys_NoAnswer_NoEnding : PySem.W.subIn K (.ref C_NoEnding) (.ref C_NoAnswer) = some false)
    (ys_NoAnswer_NoTree : PySem.W.subIn K (.ref C_NoTree) (.ref C_NoAnswer) = some false)
    (ys_NoAnswer_NoWord : PySem.W.subIn K (.ref C_NoWord) (.ref C_NoAnswer) = some false)
    (ys_NoAnswer_Nothing : PySem.W.subIn K (.ref C_Nothing) (.ref C_NoAnswer) = some false)
    (ys_NoAnswer_TooLong : PySem.W.subIn K (.ref C_TooLong) (.ref C_NoAnswer) = some false)
    (ys_NoAnswer_TooMany : PySem.W.subIn K (.ref C_TooMany) (.ref C_NoAnswer) = some false)
    (ys_NoAnswer_Wrong : PySem.W.subIn K (.ref C_Wrong) (.ref C_NoAnswer) = some false)
    (yt_NoCommand : PySem.W.typeIn K (.ref C_NoCommand) = some (.type "type"))
    (ys_NoCommand_NoAnswer : PySem.W.subIn K (.ref C_NoAnswer) (.ref C_NoCommand) = some false)
    (ys_NoCommand_NoCommand : PySem.W.subIn K (.ref C_NoCommand) (.ref C_NoCommand) = some true)
    (ys_NoCommand_NoEnding : PySem.W.subIn K (.ref C_NoEnding) (.ref C_NoCommand) = some false)
    (ys_NoCommand_NoTree : PySem.W.subIn K (.ref C_NoTree) (.ref C_NoCommand) = some false)
    (ys_NoCommand_NoWord : PySem.W.subIn K (.ref C_NoWord) (.ref C_NoCommand) = some false)
    (ys_NoCommand_Nothing : PySem.W.subIn K (.ref C_Nothing) (.ref C_NoCommand) = some false)
    (ys_NoCommand_TooLong : PySem.W.subIn K (.ref C_TooLong) (.ref C_NoCommand) = some false)
    (ys_NoCommand_TooMany : PySem.W.subIn K (.ref C_TooMany) (.ref C_NoCommand) = some false)
    (ys_NoCommand_Wrong : PySem.W.subIn K (.ref C_Wrong) (.ref C_NoCommand) = some false)
    (yt_NoEnding : PySem.W.typeIn K (.ref C_NoEnding) = some (.type "type"))
    (ys_NoEnding_NoAnswer : PySem.W.subIn K (.ref C_NoAnswer) (.ref C_NoEnding) = some false)
    (ys_NoEnding_NoCommand : PySem.W.subIn K (.ref C_NoCommand) (.ref C_NoEnding) = some false)
    (ys_NoEnding_NoEnding : PySem.W.subIn K (.ref C_NoEnding) (.ref C_NoEnding) = some true)
    (ys_NoEnding_NoTree : PySem.W.subIn K (.ref C_NoTree) (.ref C_NoEnding) = some false)
    (ys_NoEnding_NoWord : PySem.W.subIn K (.ref C_NoWord) (.ref C_NoEnding) = some false)
    (ys_NoEnding_Nothing : PySem.W.subIn K (.ref C_Nothing) (.ref C_NoEnding) = some false)
    (ys_NoEnding_TooLong : PySem.W.subIn K (.ref C_TooLong) (.ref C_NoEnding) = some false)
    (ys_NoEnding_TooMany : PySem.W.subIn K (.ref C_TooMany) (.ref C_NoEnding) = some false)
    (ys_NoEnding_Wrong : PySem.W.subIn K (.ref C_Wrong) (.ref C_NoEnding) = some false)
    (yt_NoTree : PySem.W.typeIn K (.ref C_NoTree) = some (.type "type"))
    (ys_NoTree_NoAnswer : PySem.W.subIn K (.ref C_NoAnswer) (.ref C_NoTree) = some false)
    (ys_NoTree_NoCommand : PySem.W.subIn K (.ref C_NoCommand) (.ref C_NoTree) = some false)
    (ys_NoTree_NoEnding : PySem.W.subIn K (.ref C_NoEnding) (.ref C_NoTree) = some false)
    (ys_NoTree_NoTree : PySem.W.subIn K (.ref C_NoTree) (.ref C_NoTree) = some true)
    (ys_NoTree_NoWord : PySem.W.subIn K (.ref C_NoWord) (.ref C_NoTree) = some false)
    (ys_NoTree_Nothing : PySem.W.subIn K (.ref C_Nothing) (.ref C_NoTree) = some false)
    (ys_NoTree_TooLong : PySem.W.subIn K (.ref C_TooLong) (.ref C_NoTree) = some false)
    (ys_NoTree_TooMany : PySem.W.subIn K (.ref C_TooMany) (.ref C_NoTree) = some false)
    (ys_NoTree_Wrong : PySem.W.subIn K (.ref C_Wrong) (.ref C_NoTree) = some false)
    (yt_NoWord : PySem.W.typeIn K (.ref C_NoWord) = some (.type "type"))
    (ys_NoWord_NoAnswer : PySem.W.subIn K (.ref C_NoAnswer) (.ref C_NoWord) = some false)
    (ys_NoWord_NoCommand : PySem.W.subIn K (.ref C_NoCommand) (.ref C_NoWord) = some false)
    (ys_NoWord_NoEnding : PySem.W.subIn K (.ref C_NoEnding) (.ref C_NoWord) = some false)
    (ys_NoWord_NoTree : PySem.W.subIn K (.ref C_NoTree) (.ref C_NoWord) = some false)
    (ys_NoWord_NoWord : PySem.W.subIn K (.ref C_NoWord) (.ref C_NoWord) = some true)
    (ys_NoWord_Nothing : PySem.W.subIn K (.ref C_Nothing) (.ref C_NoWord) = some false)
    (ys_NoWord_TooLong : PySem.W.subIn K (.ref C_TooLong) (.ref C_NoWord) = some false)
    (ys_NoWord_TooMany : PySem.W.subIn K (.ref C_TooMany) (.ref C_NoWord) = some false)
    (ys_NoWord_Wrong : PySem.W.subIn K (.ref C_Wrong) (.ref C_NoWord) = some false)
    (yt_Nothing : PySem.W.typeIn K (.ref C_Nothing) = some (.type "type"))
    (ys_Nothing_NoAnswer : PySem.W.subIn K (.ref C_NoAnswer) (.ref C_Nothing) = some false)
    (ys_Nothing_NoCommand : PySem.W.subIn K (.ref C_NoCommand) (.ref C_Nothing) = some false)
    (ys_Nothing_NoEnding : PySem.W.subIn K (.ref C_NoEnding) (.ref C_Nothing) = some false)
    (ys_Nothing_NoTree : PySem.W.subIn K (.ref C_NoTree) (.ref C_Nothing) = some false)
    (ys_Nothing_NoWord : PySem.W.subIn K (.ref C_NoWord) (.ref C_Nothing) = some false)
    (ys_Nothing_Nothing : PySem.W.subIn K (.ref C_Nothing) (.ref C_Nothing) = some true)
    (ys_Nothing_TooLong : PySem.W.subIn K (.ref C_TooLong) (.ref C_Nothing) = some false)
    (ys_Nothing_TooMany : PySem.W.subIn K (.ref C_TooMany) (.ref C_Nothing) = some false)
    (ys_Nothing_Wrong : PySem.W.subIn K (.ref C_Wrong) (.ref C_Nothing) = some false)
    (yt_TooLong : PySem.W.typeIn K (.ref C_TooLong) = some (.type "type"))
    (ys_TooLong_NoAnswer : PySem.W.subIn K (.ref C_NoAnswer) (.ref C_TooLong) = some false)
    (ys_TooLong_NoCommand : PySem.W.subIn K (.ref C_NoCommand) (.ref C_TooLong) = some false)
    (ys_TooLong_NoEnding : PySem.W.subIn K (.ref C_NoEnding) (.ref C_TooLong) = some false)
    (ys_TooLong_NoTree : PySem.W.subIn K (.ref C_NoTree) (.ref C_TooLong) = some false)
    (ys_TooLong_NoWord : PySem.W.subIn K (.ref C_NoWord) (.ref C_TooLong) = some false)
    (ys_TooLong_Nothing : PySem.W.subIn K (.ref C_Nothing) (.ref C_TooLong) = some false)
    (ys_TooLong_TooLong : PySem.W.subIn K (.ref C_TooLong) (.ref C_TooLong) = some true)
    (ys_TooLong_TooMany : PySem.W.subIn K (.ref C_TooMany) (.ref C_TooLong) = some false)
    (ys_TooLong_Wrong : PySem.W.subIn K (.ref C_Wrong) (.ref C_TooLong) = some false)
    (yt_TooMany : PySem.W.typeIn K (.ref C_TooMany) = some (.type "type"))
    (ys_TooMany_NoAnswer : PySem.W.subIn K (.ref C_NoAnswer) (.ref C_TooMany) = some false)
    (ys_TooMany_NoCommand : PySem.W.subIn K (.ref C_NoCommand) (.ref C_TooMany) = some false)
    (ys_TooMany_NoEnding : PySem.W.subIn K (.ref C_NoEnding) (.ref C_TooMany) = some false)
    (ys_TooMany_NoTree : PySem.W.subIn K (.ref C_NoTree) (.ref C_TooMany) = some false)
    (ys_TooMany_NoWord : PySem.W.subIn K (.ref C_NoWord) (.ref C_TooMany) = some false)
    (ys_TooMany_Nothing : PySem.W.subIn K (.ref C_Nothing) (.ref C_TooMany) = some false)
    (ys_TooMany_TooLong : PySem.W.subIn K (.ref C_TooLong) (.ref C_TooMany) = some false)
    (ys_TooMany_TooMany : PySem.W.subIn K (.ref C_TooMany) (.ref C_TooMany) = some true)
    (ys_TooMany_Wrong : PySem.W.subIn K (.ref C_Wrong) (.ref C_TooMany) = some false)
    (yt_Wrong : PySem.W.typeIn K (.ref C_Wrong) = some (.type "type"))
    (ys_Wrong_NoAnswer : PySem.W.subIn K (.ref C_NoAnswer) (.ref C_Wrong) = some false)
    (ys_Wrong_NoCommand : PySem.W.subIn K (.ref C_NoCommand) (.ref C_Wrong) = some false)
    (ys_Wrong_NoEnding : PySem.W.subIn K (.ref C_NoEnding) (.ref C_Wrong) = some false)
    (ys_Wrong_NoTree : PySem.W.subIn K (.ref C_NoTree) (.ref C_Wrong) = some false)
    (ys_Wrong_NoWord : PySem.W.subIn K (.ref C_NoWord) (.ref C_Wrong) = some false)
    (ys_Wrong_Nothing : PySem.W.subIn K (.ref C_Nothing) (.ref C_Wrong) = some false)
    (ys_Wrong_TooLong : PySem.W.subIn K (.ref C_TooLong) (.ref C_Wrong) = some false)
    (ys_Wrong_TooMany : PySem.W.subIn K (.ref C_TooMany) (.ref C_Wrong) = some false)
    (ys_Wrong_Wrong : PySem.W.subIn K (.ref C_Wrong) (.ref C_Wrong) = some true)
    : ∃ fd : FuncData, (∀ (s : Shared) (u : Value), BindsTo s fd ⟨[u], []⟩ [("_law_script", u)]) ∧ ∀ base : Heap, K.In base → base.Ns mainGlobals mg → FnG ⟨l.prog, w, K, mg, base⟩ 34 fa fd ["_law_script"] (spM K 1 p_law) := by
  have e := hfa.symm.trans (PySem.W.mg_of X G a26)
  cases e
  refine ⟨_, fun s v => .of_eq (fd := PySem.W.fnOf "law" "law" (defArgs s_law) (defBody s_law) (defScope s_law) .none kV26 dc26 pm26 an26 cd26 ct26) rfl, fun base _ _ => ?_⟩
  have F0 := fun_mk (st := s__law_alike) l0 c0 k0
  have b0 := F0.binds (ps := ["_law_found", "_law_due"]) fun _ _ _ _ _ _ us hl => match us, hl with | [_, _], _ => rfl
  have F1 := fun_mk (st := s__law_take) l1 c1 k1
  have b1 := F1.binds (ps := ["_law_bag_here", "_law_many"]) fun _ _ _ _ _ _ us hl => match us, hl with | [_, _], _ => rfl
  have F2 := fun_mk (st := s__law_some) l2 c2 k2
  have b2 := F2.binds (ps := ["_law_bag_here", "_law_things"]) fun _ _ _ _ _ _ us hl => match us, hl with | [_, _], _ => rfl
  have F3 := fun_mk (st := s__law_odd) l3 c3 k3
  have b3 := F3.binds (ps := ["_law_bag_here"]) fun _ _ _ _ _ _ us hl => match us, hl with | [_], _ => rfl
  have F4 := fun_mk (st := s__law_are_errors_right) l4 c4 k4
  have b4 := F4.binds (ps := ["_law_bag_here"]) fun _ _ _ _ _ _ us hl => match us, hl with | [_], _ => rfl
  have F5 := fun_mk (st := s__law_bag) l5 c5 k5
  have b5 := F5.binds (ps := ["_law_script"]) fun _ _ _ _ _ _ us hl => match us, hl with | [_], _ => rfl
  have F6 := fun_mk (st := s__law_is_int) l6 c6 k6
  have b6 := F6.binds (ps := ["_law_thing"]) fun _ _ _ _ _ _ us hl => match us, hl with | [_], _ => rfl
  have F7 := fun_mk (st := s__law_bent) l7 c7 k7
  have b7 := F7.binds (ps := ["_law_bag_here", "_law_thing", "_law_deep"]) fun _ _ _ _ _ _ us hl => match us, hl with | [_, _, _], _ => rfl
  have F8 := fun_mk (st := s__law_is_digit) l8 c8 k8
  have b8 := F8.binds (ps := ["_law_sign"]) fun _ _ _ _ _ _ us hl => match us, hl with | [_], _ => rfl
  have F9 := fun_mk (st := s__law_is_letter) l9 c9 k9
  have b9 := F9.binds (ps := ["_law_sign"]) fun _ _ _ _ _ _ us hl => match us, hl with | [_], _ => rfl
  have F10 := fun_mk (st := s__law_keywords) l10 c10 k10
  have b10 := F10.binds (ps := []) fun _ _ _ _ _ _ us hl => match us, hl with | [], _ => rfl
  have F11 := fun_mk (st := s__law_signs) l11 c11 k11
  have b11 := F11.binds (ps := []) fun _ _ _ _ _ _ us hl => match us, hl with | [], _ => rfl
  have F12 := fun_mk (st := s__law_sort) l12 c12 k12
  have b12 := F12.binds (ps := ["_law_word"]) fun _ _ _ _ _ _ us hl => match us, hl with | [_], _ => rfl
  have F13 := fun_mk (st := s__law_is_name) l13 c13 k13
  have b13 := F13.binds (ps := ["_law_thing"]) fun _ _ _ _ _ _ us hl => match us, hl with | [_], _ => rfl
  have F14 := fun_mk (st := s__law_is_kind) l14 c14 k14
  have b14 := F14.binds (ps := ["_law_thing"]) fun _ _ _ _ _ _ us hl => match us, hl with | [_], _ => rfl
  have F15 := fun_mk (st := s__law_is_lot) l15 c15 k15
  have b15 := F15.binds (ps := ["_law_thing"]) fun _ _ _ _ _ _ us hl => match us, hl with | [_], _ => rfl
  have F16 := fun_mk (st := s__law_is_word) l16 c16 k16
  have b16 := F16.binds (ps := ["_law_thing"]) fun _ _ _ _ _ _ us hl => match us, hl with | [_], _ => rfl
  have F17 := fun_mk (st := s__law_some_word) l17 c17 k17
  have b17 := F17.binds (ps := ["_law_bag_here"]) fun _ _ _ _ _ _ us hl => match us, hl with | [_], _ => rfl
  have F18 := fun_mk (st := s_is_integer) l18 c18 k18
  have b18 := F18.binds (ps := ["thing"]) fun _ _ _ _ _ _ us hl => match us, hl with | [_], _ => rfl
  have F19 := fun_mk (st := s_is_named) l19 c19 k19
  have b19 := F19.binds (ps := ["word"]) fun _ _ _ _ _ _ us hl => match us, hl with | [_], _ => rfl
  have F20 := fun_mk (st := s_is_number) l20 c20 k20
  have b20 := F20.binds (ps := ["word"]) fun _ _ _ _ _ _ us hl => match us, hl with | [_], _ => rfl
  have F21 := fun_mk (st := s_sort_of_word) l21 c21 k21
  have b21 := F21.binds (ps := ["thing"]) fun _ _ _ _ _ _ us hl => match us, hl with | [_], _ => rfl
  have F22 := fun_mk (st := s_is_name) l22 c22 k22
  have b22 := F22.binds (ps := ["thing"]) fun _ _ _ _ _ _ us hl => match us, hl with | [_], _ => rfl
  have F23 := fun_mk (st := s_is_kind) l23 c23 k23
  have b23 := F23.binds (ps := ["thing"]) fun _ _ _ _ _ _ us hl => match us, hl with | [_], _ => rfl
  have F24 := fun_mk (st := s_is_lot) l24 c24 k24
  have b24 := F24.binds (ps := ["thing"]) fun _ _ _ _ _ _ us hl => match us, hl with | [_], _ => rfl
  have F25 := fun_mk (st := s_is_row) l25 c25 k25
  have b25 := F25.binds (ps := ["thing"]) fun _ _ _ _ _ _ us hl => match us, hl with | [_], _ => rfl
  have F26 := fun_mk (st := s_law) l26 c26 k26
  have b26 := F26.binds (ps := ["_law_script"]) fun _ _ _ _ _ _ us hl => match us, hl with | [_], _ => rfl
  have O_NoAnswer : L2.OexC K C_NoAnswer := ⟨⟨_, _, _, _, _, _, _, _, _, _, _, _, _, _, _, xl_NoAnswer, xv_NoAnswer⟩, xsa_NoAnswer, xbe_NoAnswer, xtt_NoAnswer, xkp_NoAnswer⟩
  have T_NoAnswer : XcT K C_NoAnswer := xcT_of O_NoAnswer xga_NoAnswer xgt_NoAnswer xcl_NoAnswer xhn xtk
  have O_NoCommand : L2.OexC K C_NoCommand := ⟨⟨_, _, _, _, _, _, _, _, _, _, _, _, _, _, _, xl_NoCommand, xv_NoCommand⟩, xsa_NoCommand, xbe_NoCommand, xtt_NoCommand, xkp_NoCommand⟩
  have T_NoCommand : XcT K C_NoCommand := xcT_of O_NoCommand xga_NoCommand xgt_NoCommand xcl_NoCommand xhn xtk
  have O_NoEnding : L2.OexC K C_NoEnding := ⟨⟨_, _, _, _, _, _, _, _, _, _, _, _, _, _, _, xl_NoEnding, xv_NoEnding⟩, xsa_NoEnding, xbe_NoEnding, xtt_NoEnding, xkp_NoEnding⟩
  have T_NoEnding : XcT K C_NoEnding := xcT_of O_NoEnding xga_NoEnding xgt_NoEnding xcl_NoEnding xhn xtk
  have O_NoTree : L2.OexC K C_NoTree := ⟨⟨_, _, _, _, _, _, _, _, _, _, _, _, _, _, _, xl_NoTree, xv_NoTree⟩, xsa_NoTree, xbe_NoTree, xtt_NoTree, xkp_NoTree⟩
  have T_NoTree : XcT K C_NoTree := xcT_of O_NoTree xga_NoTree xgt_NoTree xcl_NoTree xhn xtk
  have O_NoWord : L2.OexC K C_NoWord := ⟨⟨_, _, _, _, _, _, _, _, _, _, _, _, _, _, _, xl_NoWord, xv_NoWord⟩, xsa_NoWord, xbe_NoWord, xtt_NoWord, xkp_NoWord⟩
  have T_NoWord : XcT K C_NoWord := xcT_of O_NoWord xga_NoWord xgt_NoWord xcl_NoWord xhn xtk
  have O_Nothing : L2.OexC K C_Nothing := ⟨⟨_, _, _, _, _, _, _, _, _, _, _, _, _, _, _, xl_Nothing, xv_Nothing⟩, xsa_Nothing, xbe_Nothing, xtt_Nothing, xkp_Nothing⟩
  have T_Nothing : XcT K C_Nothing := xcT_of O_Nothing xga_Nothing xgt_Nothing xcl_Nothing xhn xtk
  have O_TooLong : L2.OexC K C_TooLong := ⟨⟨_, _, _, _, _, _, _, _, _, _, _, _, _, _, _, xl_TooLong, xv_TooLong⟩, xsa_TooLong, xbe_TooLong, xtt_TooLong, xkp_TooLong⟩
  have T_TooLong : XcT K C_TooLong := xcT_of O_TooLong xga_TooLong xgt_TooLong xcl_TooLong xhn xtk
  have O_TooMany : L2.OexC K C_TooMany := ⟨⟨_, _, _, _, _, _, _, _, _, _, _, _, _, _, _, xl_TooMany, xv_TooMany⟩, xsa_TooMany, xbe_TooMany, xtt_TooMany, xkp_TooMany⟩
  have T_TooMany : XcT K C_TooMany := xcT_of O_TooMany xga_TooMany xgt_TooMany xcl_TooMany xhn xtk
  have O_Wrong : L2.OexC K C_Wrong := ⟨⟨_, _, _, _, _, _, _, _, _, _, _, _, _, _, _, xl_Wrong, xv_Wrong⟩, xsa_Wrong, xbe_Wrong, xtt_Wrong, xkp_Wrong⟩
  have T_Wrong : XcT K C_Wrong := xcT_of O_Wrong xga_Wrong xgt_Wrong xcl_Wrong xhn xtk
  exact ok_law (G := ⟨l.prog, w, K, mg, base⟩) {
    f__law_alike := _, d__law_alike := _, F__law_alike := F0, g__law_alike := PySem.W.mg_of X G a0, b__law_alike := b0,
    f__law_take := _, d__law_take := _, F__law_take := F1, g__law_take := PySem.W.mg_of X G a1, b__law_take := b1,
    f__law_some := _, d__law_some := _, F__law_some := F2, g__law_some := PySem.W.mg_of X G a2, b__law_some := b2,
    f__law_odd := _, d__law_odd := _, F__law_odd := F3, g__law_odd := PySem.W.mg_of X G a3, b__law_odd := b3,
    f__law_are_errors_right := _, d__law_are_errors_right := _, F__law_are_errors_right := F4, g__law_are_errors_right := PySem.W.mg_of X G a4, b__law_are_errors_right := b4,
    f__law_bag := _, d__law_bag := _, F__law_bag := F5, g__law_bag := PySem.W.mg_of X G a5, b__law_bag := b5,
    f__law_is_int := _, d__law_is_int := _, F__law_is_int := F6, g__law_is_int := PySem.W.mg_of X G a6, b__law_is_int := b6,
    f__law_bent := _, d__law_bent := _, F__law_bent := F7, g__law_bent := PySem.W.mg_of X G a7, b__law_bent := b7,
    f__law_is_digit := _, d__law_is_digit := _, F__law_is_digit := F8, g__law_is_digit := PySem.W.mg_of X G a8, b__law_is_digit := b8,
    f__law_is_letter := _, d__law_is_letter := _, F__law_is_letter := F9, g__law_is_letter := PySem.W.mg_of X G a9, b__law_is_letter := b9,
    f__law_keywords := _, d__law_keywords := _, F__law_keywords := F10, g__law_keywords := PySem.W.mg_of X G a10, b__law_keywords := b10,
    f__law_signs := _, d__law_signs := _, F__law_signs := F11, g__law_signs := PySem.W.mg_of X G a11, b__law_signs := b11,
    f__law_sort := _, d__law_sort := _, F__law_sort := F12, g__law_sort := PySem.W.mg_of X G a12, b__law_sort := b12,
    f__law_is_name := _, d__law_is_name := _, F__law_is_name := F13, g__law_is_name := PySem.W.mg_of X G a13, b__law_is_name := b13,
    f__law_is_kind := _, d__law_is_kind := _, F__law_is_kind := F14, g__law_is_kind := PySem.W.mg_of X G a14, b__law_is_kind := b14,
    f__law_is_lot := _, d__law_is_lot := _, F__law_is_lot := F15, g__law_is_lot := PySem.W.mg_of X G a15, b__law_is_lot := b15,
    f__law_is_word := _, d__law_is_word := _, F__law_is_word := F16, g__law_is_word := PySem.W.mg_of X G a16, b__law_is_word := b16,
    f__law_some_word := _, d__law_some_word := _, F__law_some_word := F17, g__law_some_word := PySem.W.mg_of X G a17, b__law_some_word := b17,
    f_is_integer := _, d_is_integer := _, F_is_integer := F18, g_is_integer := PySem.W.mg_of X G a18, b_is_integer := b18,
    f_is_named := _, d_is_named := _, F_is_named := F19, g_is_named := PySem.W.mg_of X G a19, b_is_named := b19,
    f_is_number := _, d_is_number := _, F_is_number := F20, g_is_number := PySem.W.mg_of X G a20, b_is_number := b20,
    f_sort_of_word := _, d_sort_of_word := _, F_sort_of_word := F21, g_sort_of_word := PySem.W.mg_of X G a21, b_sort_of_word := b21,
    f_is_name := _, d_is_name := _, F_is_name := F22, g_is_name := PySem.W.mg_of X G a22, b_is_name := b22,
    f_is_kind := _, d_is_kind := _, F_is_kind := F23, g_is_kind := PySem.W.mg_of X G a23, b_is_kind := b23,
    f_is_lot := _, d_is_lot := _, F_is_lot := F24, g_is_lot := PySem.W.mg_of X G a24, b_is_lot := b24,
    f_is_row := _, d_is_row := _, F_is_row := F25, g_is_row := PySem.W.mg_of X G a25, b_is_row := b25,
    f_law := _, d_law := _, F_law := F26, g_law := PySem.W.mg_of X G a26, b_law := b26,
    c_DIGITS := ⟨_, .str _, PySem.W.mg_of X G qh_DIGITS, ⟨_, rfl⟩, fun _ _ => .str _⟩,
    c_KEYWORDS := ⟨.ref qa_KEYWORDS, .ref qa_KEYWORDS, PySem.W.mg_of X G qh_KEYWORDS, rfl, fun _ _ => .tup (.inr ⟨_, _, _, ql_KEYWORDS, rfl, rfl, rfl, qz_KEYWORDS, qv_KEYWORDS⟩) (.cons (.str _) (.cons (.str _) (.cons (.str _) (.cons (.str _) (.cons (.str _) (.cons (.str _) (.cons (.str _) (.cons (.str _) (.cons (.str _) (.cons (.str _) (.cons (.str _) (.cons (.str _) (.cons (.str _) (.cons (.str _) (.cons (.str _) (.cons (.str _) (.cons (.str _) (.cons (.str _) .nil))))))))))))))))))⟩,
    c_MOST_DIGITS := ⟨_, .int _, PySem.W.mg_of X G qh_MOST_DIGITS, ⟨_, rfl⟩, fun _ _ => .int _⟩,
    c_MOST_LETTERS := ⟨_, .int _, PySem.W.mg_of X G qh_MOST_LETTERS, ⟨_, rfl⟩, fun _ _ => .int _⟩,
    c_SIGNS := ⟨_, .str _, PySem.W.mg_of X G qh_SIGNS, ⟨_, rfl⟩, fun _ _ => .str _⟩,
    c_SMALL := ⟨_, .str _, PySem.W.mg_of X G qh_SMALL, ⟨_, rfl⟩, fun _ _ => .str _⟩,
    z_ValueError := PySem.W.mg_none_of X G z_ValueError,
    z_abs := PySem.W.mg_none_of X G z_abs,
    z_all := PySem.W.mg_none_of X G z_all,
    z_bool := PySem.W.mg_none_of X G z_bool,
    z_enumerate := PySem.W.mg_none_of X G z_enumerate,
    z_int := PySem.W.mg_none_of X G z_int,
    z_isinstance := PySem.W.mg_none_of X G z_isinstance,
    z_len := PySem.W.mg_none_of X G z_len,
    z_list := PySem.W.mg_none_of X G z_list,
    z_range := PySem.W.mg_none_of X G z_range,
    z_repr := PySem.W.mg_none_of X G z_repr,
    z_str := PySem.W.mg_none_of X G z_str,
    z_tuple := PySem.W.mg_none_of X G z_tuple,
    z_zip := PySem.W.mg_none_of X G z_zip,
    xc_NoAnswer := xc1_mk (PySem.W.mg_of X G xa_NoAnswer) xa_NoAnswer O_NoAnswer T_NoAnswer bi_NoAnswer xn_NoAnswer xf_NoAnswer xi_NoAnswer xti_NoAnswer xli_NoAnswer xci_NoAnswer xlc_NoAnswer xvs_NoAnswer xfi_NoAnswer xce_NoAnswer xsu_NoAnswer xsup xtop xthp xba_NoAnswer xve_NoAnswer,
    xc_NoCommand := xc1_mk (PySem.W.mg_of X G xa_NoCommand) xa_NoCommand O_NoCommand T_NoCommand bi_NoCommand xn_NoCommand xf_NoCommand xi_NoCommand xti_NoCommand xli_NoCommand xci_NoCommand xlc_NoCommand xvs_NoCommand xfi_NoCommand xce_NoCommand xsu_NoCommand xsup xtop xthp xba_NoCommand xve_NoCommand,
    xc_NoEnding := ⟨C_NoEnding, PySem.W.mg_of X G xa_NoEnding, xa_NoEnding, xkp_NoEnding, T_NoEnding, xn_NoEnding⟩,
    xc_NoTree := xc1_mk (PySem.W.mg_of X G xa_NoTree) xa_NoTree O_NoTree T_NoTree bi_NoTree xn_NoTree xf_NoTree xi_NoTree xti_NoTree xli_NoTree xci_NoTree xlc_NoTree xvs_NoTree xfi_NoTree xce_NoTree xsu_NoTree xsup xtop xthp xba_NoTree xve_NoTree,
    xc_NoWord := xc1_mk (PySem.W.mg_of X G xa_NoWord) xa_NoWord O_NoWord T_NoWord bi_NoWord xn_NoWord xf_NoWord xi_NoWord xti_NoWord xli_NoWord xci_NoWord xlc_NoWord xvs_NoWord xfi_NoWord xce_NoWord xsu_NoWord xsup xtop xthp xba_NoWord xve_NoWord,
    xc_Nothing := ⟨C_Nothing, PySem.W.mg_of X G xa_Nothing, xa_Nothing, xkp_Nothing, T_Nothing, xn_Nothing⟩,
    xc_TooLong := xc1_mk (PySem.W.mg_of X G xa_TooLong) xa_TooLong O_TooLong T_TooLong bi_TooLong xn_TooLong xf_TooLong xi_TooLong xti_TooLong xli_TooLong xci_TooLong xlc_TooLong xvs_TooLong xfi_TooLong xce_TooLong xsu_TooLong xsup xtop xthp xba_TooLong xve_TooLong,
    xc_TooMany := xc1_mk (PySem.W.mg_of X G xa_TooMany) xa_TooMany O_TooMany T_TooMany bi_TooMany xn_TooMany xf_TooMany xi_TooMany xti_TooMany xli_TooMany xci_TooMany xlc_TooMany xvs_TooMany xfi_TooMany xce_TooMany xsu_TooMany xsup xtop xthp xba_TooMany xve_TooMany,
    xc_Wrong := xc1_mk (PySem.W.mg_of X G xa_Wrong) xa_Wrong O_Wrong T_Wrong bi_Wrong xn_Wrong xf_Wrong xi_Wrong xti_Wrong xli_Wrong xci_Wrong xlc_Wrong xvs_Wrong xfi_Wrong xce_Wrong xsu_Wrong xsup xtop xthp xba_Wrong xve_Wrong,
    xs_EndError := ⟨C_EndError, PySem.W.mg_of X G xa_EndError, xcs_mk [⟨Str.ofString "NoAnswer", true, C_NoAnswer, xa_NoAnswer, kit_own O_NoAnswer (clsIn_some yc_EndError) yt_EndError ys_EndError_NoAnswer⟩, ⟨Str.ofString "NoCommand", true, C_NoCommand, xa_NoCommand, kit_own O_NoCommand (clsIn_some yc_EndError) yt_EndError ys_EndError_NoCommand⟩, ⟨Str.ofString "NoEnding", true, C_NoEnding, xa_NoEnding, kit_own O_NoEnding (clsIn_some yc_EndError) yt_EndError ys_EndError_NoEnding⟩, ⟨Str.ofString "NoTree", true, C_NoTree, xa_NoTree, kit_own O_NoTree (clsIn_some yc_EndError) yt_EndError ys_EndError_NoTree⟩, ⟨Str.ofString "NoWord", true, C_NoWord, xa_NoWord, kit_own O_NoWord (clsIn_some yc_EndError) yt_EndError ys_EndError_NoWord⟩, ⟨Str.ofString "Nothing", true, C_Nothing, xa_Nothing, kit_own O_Nothing (clsIn_some yc_EndError) yt_EndError ys_EndError_Nothing⟩, ⟨Str.ofString "TooLong", true, C_TooLong, xa_TooLong, kit_own O_TooLong (clsIn_some yc_EndError) yt_EndError ys_EndError_TooLong⟩, ⟨Str.ofString "TooMany", true, C_TooMany, xa_TooMany, kit_own O_TooMany (clsIn_some yc_EndError) yt_EndError ys_EndError_TooMany⟩, ⟨Str.ofString "Wrong", true, C_Wrong, xa_Wrong, kit_own O_Wrong (clsIn_some yc_EndError) yt_EndError ys_EndError_Wrong⟩] (fun _ _ h => h)⟩,
    xs_NoAnswer := ⟨C_NoAnswer, PySem.W.mg_of X G xa_NoAnswer, xcs_mk [⟨Str.ofString "NoAnswer", true, C_NoAnswer, xa_NoAnswer, kit_own O_NoAnswer T_NoAnswer.hcl yt_NoAnswer ys_NoAnswer_NoAnswer⟩, ⟨Str.ofString "NoCommand", false, C_NoCommand, xa_NoCommand, kit_own O_NoCommand T_NoAnswer.hcl yt_NoAnswer ys_NoAnswer_NoCommand⟩, ⟨Str.ofString "NoEnding", false, C_NoEnding, xa_NoEnding, kit_own O_NoEnding T_NoAnswer.hcl yt_NoAnswer ys_NoAnswer_NoEnding⟩, ⟨Str.ofString "NoTree", false, C_NoTree, xa_NoTree, kit_own O_NoTree T_NoAnswer.hcl yt_NoAnswer ys_NoAnswer_NoTree⟩, ⟨Str.ofString "NoWord", false, C_NoWord, xa_NoWord, kit_own O_NoWord T_NoAnswer.hcl yt_NoAnswer ys_NoAnswer_NoWord⟩, ⟨Str.ofString "Nothing", false, C_Nothing, xa_Nothing, kit_own O_Nothing T_NoAnswer.hcl yt_NoAnswer ys_NoAnswer_Nothing⟩, ⟨Str.ofString "TooLong", false, C_TooLong, xa_TooLong, kit_own O_TooLong T_NoAnswer.hcl yt_NoAnswer ys_NoAnswer_TooLong⟩, ⟨Str.ofString "TooMany", false, C_TooMany, xa_TooMany, kit_own O_TooMany T_NoAnswer.hcl yt_NoAnswer ys_NoAnswer_TooMany⟩, ⟨Str.ofString "Wrong", false, C_Wrong, xa_Wrong, kit_own O_Wrong T_NoAnswer.hcl yt_NoAnswer ys_NoAnswer_Wrong⟩] (fun _ _ h => h)⟩,
    xs_NoCommand := ⟨C_NoCommand, PySem.W.mg_of X G xa_NoCommand, xcs_mk [⟨Str.ofString "NoAnswer", false, C_NoAnswer, xa_NoAnswer, kit_own O_NoAnswer T_NoCommand.hcl yt_NoCommand ys_NoCommand_NoAnswer⟩, ⟨Str.ofString "NoCommand", true, C_NoCommand, xa_NoCommand, kit_own O_NoCommand T_NoCommand.hcl yt_NoCommand ys_NoCommand_NoCommand⟩, ⟨Str.ofString "NoEnding", false, C_NoEnding, xa_NoEnding, kit_own O_NoEnding T_NoCommand.hcl yt_NoCommand ys_NoCommand_NoEnding⟩, ⟨Str.ofString "NoTree", false, C_NoTree, xa_NoTree, kit_own O_NoTree T_NoCommand.hcl yt_NoCommand ys_NoCommand_NoTree⟩, ⟨Str.ofString "NoWord", false, C_NoWord, xa_NoWord, kit_own O_NoWord T_NoCommand.hcl yt_NoCommand ys_NoCommand_NoWord⟩, ⟨Str.ofString "Nothing", false, C_Nothing, xa_Nothing, kit_own O_Nothing T_NoCommand.hcl yt_NoCommand ys_NoCommand_Nothing⟩, ⟨Str.ofString "TooLong", false, C_TooLong, xa_TooLong, kit_own O_TooLong T_NoCommand.hcl yt_NoCommand ys_NoCommand_TooLong⟩, ⟨Str.ofString "TooMany", false, C_TooMany, xa_TooMany, kit_own O_TooMany T_NoCommand.hcl yt_NoCommand ys_NoCommand_TooMany⟩, ⟨Str.ofString "Wrong", false, C_Wrong, xa_Wrong, kit_own O_Wrong T_NoCommand.hcl yt_NoCommand ys_NoCommand_Wrong⟩] (fun _ _ h => h)⟩,
    xs_NoEnding := ⟨C_NoEnding, PySem.W.mg_of X G xa_NoEnding, xcs_mk [⟨Str.ofString "NoAnswer", false, C_NoAnswer, xa_NoAnswer, kit_own O_NoAnswer T_NoEnding.hcl yt_NoEnding ys_NoEnding_NoAnswer⟩, ⟨Str.ofString "NoCommand", false, C_NoCommand, xa_NoCommand, kit_own O_NoCommand T_NoEnding.hcl yt_NoEnding ys_NoEnding_NoCommand⟩, ⟨Str.ofString "NoEnding", true, C_NoEnding, xa_NoEnding, kit_own O_NoEnding T_NoEnding.hcl yt_NoEnding ys_NoEnding_NoEnding⟩, ⟨Str.ofString "NoTree", false, C_NoTree, xa_NoTree, kit_own O_NoTree T_NoEnding.hcl yt_NoEnding ys_NoEnding_NoTree⟩, ⟨Str.ofString "NoWord", false, C_NoWord, xa_NoWord, kit_own O_NoWord T_NoEnding.hcl yt_NoEnding ys_NoEnding_NoWord⟩, ⟨Str.ofString "Nothing", false, C_Nothing, xa_Nothing, kit_own O_Nothing T_NoEnding.hcl yt_NoEnding ys_NoEnding_Nothing⟩, ⟨Str.ofString "TooLong", false, C_TooLong, xa_TooLong, kit_own O_TooLong T_NoEnding.hcl yt_NoEnding ys_NoEnding_TooLong⟩, ⟨Str.ofString "TooMany", false, C_TooMany, xa_TooMany, kit_own O_TooMany T_NoEnding.hcl yt_NoEnding ys_NoEnding_TooMany⟩, ⟨Str.ofString "Wrong", false, C_Wrong, xa_Wrong, kit_own O_Wrong T_NoEnding.hcl yt_NoEnding ys_NoEnding_Wrong⟩] (fun _ _ h => h)⟩,
    xs_NoTree := ⟨C_NoTree, PySem.W.mg_of X G xa_NoTree, xcs_mk [⟨Str.ofString "NoAnswer", false, C_NoAnswer, xa_NoAnswer, kit_own O_NoAnswer T_NoTree.hcl yt_NoTree ys_NoTree_NoAnswer⟩, ⟨Str.ofString "NoCommand", false, C_NoCommand, xa_NoCommand, kit_own O_NoCommand T_NoTree.hcl yt_NoTree ys_NoTree_NoCommand⟩, ⟨Str.ofString "NoEnding", false, C_NoEnding, xa_NoEnding, kit_own O_NoEnding T_NoTree.hcl yt_NoTree ys_NoTree_NoEnding⟩, ⟨Str.ofString "NoTree", true, C_NoTree, xa_NoTree, kit_own O_NoTree T_NoTree.hcl yt_NoTree ys_NoTree_NoTree⟩, ⟨Str.ofString "NoWord", false, C_NoWord, xa_NoWord, kit_own O_NoWord T_NoTree.hcl yt_NoTree ys_NoTree_NoWord⟩, ⟨Str.ofString "Nothing", false, C_Nothing, xa_Nothing, kit_own O_Nothing T_NoTree.hcl yt_NoTree ys_NoTree_Nothing⟩, ⟨Str.ofString "TooLong", false, C_TooLong, xa_TooLong, kit_own O_TooLong T_NoTree.hcl yt_NoTree ys_NoTree_TooLong⟩, ⟨Str.ofString "TooMany", false, C_TooMany, xa_TooMany, kit_own O_TooMany T_NoTree.hcl yt_NoTree ys_NoTree_TooMany⟩, ⟨Str.ofString "Wrong", false, C_Wrong, xa_Wrong, kit_own O_Wrong T_NoTree.hcl yt_NoTree ys_NoTree_Wrong⟩] (fun _ _ h => h)⟩,
    xs_NoWord := ⟨C_NoWord, PySem.W.mg_of X G xa_NoWord, xcs_mk [⟨Str.ofString "NoAnswer", false, C_NoAnswer, xa_NoAnswer, kit_own O_NoAnswer T_NoWord.hcl yt_NoWord ys_NoWord_NoAnswer⟩, ⟨Str.ofString "NoCommand", false, C_NoCommand, xa_NoCommand, kit_own O_NoCommand T_NoWord.hcl yt_NoWord ys_NoWord_NoCommand⟩, ⟨Str.ofString "NoEnding", false, C_NoEnding, xa_NoEnding, kit_own O_NoEnding T_NoWord.hcl yt_NoWord ys_NoWord_NoEnding⟩, ⟨Str.ofString "NoTree", false, C_NoTree, xa_NoTree, kit_own O_NoTree T_NoWord.hcl yt_NoWord ys_NoWord_NoTree⟩, ⟨Str.ofString "NoWord", true, C_NoWord, xa_NoWord, kit_own O_NoWord T_NoWord.hcl yt_NoWord ys_NoWord_NoWord⟩, ⟨Str.ofString "Nothing", false, C_Nothing, xa_Nothing, kit_own O_Nothing T_NoWord.hcl yt_NoWord ys_NoWord_Nothing⟩, ⟨Str.ofString "TooLong", false, C_TooLong, xa_TooLong, kit_own O_TooLong T_NoWord.hcl yt_NoWord ys_NoWord_TooLong⟩, ⟨Str.ofString "TooMany", false, C_TooMany, xa_TooMany, kit_own O_TooMany T_NoWord.hcl yt_NoWord ys_NoWord_TooMany⟩, ⟨Str.ofString "Wrong", false, C_Wrong, xa_Wrong, kit_own O_Wrong T_NoWord.hcl yt_NoWord ys_NoWord_Wrong⟩] (fun _ _ h => h)⟩,
    xs_Nothing := ⟨C_Nothing, PySem.W.mg_of X G xa_Nothing, xcs_mk [⟨Str.ofString "NoAnswer", false, C_NoAnswer, xa_NoAnswer, kit_own O_NoAnswer T_Nothing.hcl yt_Nothing ys_Nothing_NoAnswer⟩, ⟨Str.ofString "NoCommand", false, C_NoCommand, xa_NoCommand, kit_own O_NoCommand T_Nothing.hcl yt_Nothing ys_Nothing_NoCommand⟩, ⟨Str.ofString "NoEnding", false, C_NoEnding, xa_NoEnding, kit_own O_NoEnding T_Nothing.hcl yt_Nothing ys_Nothing_NoEnding⟩, ⟨Str.ofString "NoTree", false, C_NoTree, xa_NoTree, kit_own O_NoTree T_Nothing.hcl yt_Nothing ys_Nothing_NoTree⟩, ⟨Str.ofString "NoWord", false, C_NoWord, xa_NoWord, kit_own O_NoWord T_Nothing.hcl yt_Nothing ys_Nothing_NoWord⟩, ⟨Str.ofString "Nothing", true, C_Nothing, xa_Nothing, kit_own O_Nothing T_Nothing.hcl yt_Nothing ys_Nothing_Nothing⟩, ⟨Str.ofString "TooLong", false, C_TooLong, xa_TooLong, kit_own O_TooLong T_Nothing.hcl yt_Nothing ys_Nothing_TooLong⟩, ⟨Str.ofString "TooMany", false, C_TooMany, xa_TooMany, kit_own O_TooMany T_Nothing.hcl yt_Nothing ys_Nothing_TooMany⟩, ⟨Str.ofString "Wrong", false, C_Wrong, xa_Wrong, kit_own O_Wrong T_Nothing.hcl yt_Nothing ys_Nothing_Wrong⟩] (fun _ _ h => h)⟩,
    xs_TooLong := ⟨C_TooLong, PySem.W.mg_of X G xa_TooLong, xcs_mk [⟨Str.ofString "NoAnswer", false, C_NoAnswer, xa_NoAnswer, kit_own O_NoAnswer T_TooLong.hcl yt_TooLong ys_TooLong_NoAnswer⟩, ⟨Str.ofString "NoCommand", false, C_NoCommand, xa_NoCommand, kit_own O_NoCommand T_TooLong.hcl yt_TooLong ys_TooLong_NoCommand⟩, ⟨Str.ofString "NoEnding", false, C_NoEnding, xa_NoEnding, kit_own O_NoEnding T_TooLong.hcl yt_TooLong ys_TooLong_NoEnding⟩, ⟨Str.ofString "NoTree", false, C_NoTree, xa_NoTree, kit_own O_NoTree T_TooLong.hcl yt_TooLong ys_TooLong_NoTree⟩, ⟨Str.ofString "NoWord", false, C_NoWord, xa_NoWord, kit_own O_NoWord T_TooLong.hcl yt_TooLong ys_TooLong_NoWord⟩, ⟨Str.ofString "Nothing", false, C_Nothing, xa_Nothing, kit_own O_Nothing T_TooLong.hcl yt_TooLong ys_TooLong_Nothing⟩, ⟨Str.ofString "TooLong", true, C_TooLong, xa_TooLong, kit_own O_TooLong T_TooLong.hcl yt_TooLong ys_TooLong_TooLong⟩, ⟨Str.ofString "TooMany", false, C_TooMany, xa_TooMany, kit_own O_TooMany T_TooLong.hcl yt_TooLong ys_TooLong_TooMany⟩, ⟨Str.ofString "Wrong", false, C_Wrong, xa_Wrong, kit_own O_Wrong T_TooLong.hcl yt_TooLong ys_TooLong_Wrong⟩] (fun _ _ h => h)⟩,
    xs_TooMany := ⟨C_TooMany, PySem.W.mg_of X G xa_TooMany, xcs_mk [⟨Str.ofString "NoAnswer", false, C_NoAnswer, xa_NoAnswer, kit_own O_NoAnswer T_TooMany.hcl yt_TooMany ys_TooMany_NoAnswer⟩, ⟨Str.ofString "NoCommand", false, C_NoCommand, xa_NoCommand, kit_own O_NoCommand T_TooMany.hcl yt_TooMany ys_TooMany_NoCommand⟩, ⟨Str.ofString "NoEnding", false, C_NoEnding, xa_NoEnding, kit_own O_NoEnding T_TooMany.hcl yt_TooMany ys_TooMany_NoEnding⟩, ⟨Str.ofString "NoTree", false, C_NoTree, xa_NoTree, kit_own O_NoTree T_TooMany.hcl yt_TooMany ys_TooMany_NoTree⟩, ⟨Str.ofString "NoWord", false, C_NoWord, xa_NoWord, kit_own O_NoWord T_TooMany.hcl yt_TooMany ys_TooMany_NoWord⟩, ⟨Str.ofString "Nothing", false, C_Nothing, xa_Nothing, kit_own O_Nothing T_TooMany.hcl yt_TooMany ys_TooMany_Nothing⟩, ⟨Str.ofString "TooLong", false, C_TooLong, xa_TooLong, kit_own O_TooLong T_TooMany.hcl yt_TooMany ys_TooMany_TooLong⟩, ⟨Str.ofString "TooMany", true, C_TooMany, xa_TooMany, kit_own O_TooMany T_TooMany.hcl yt_TooMany ys_TooMany_TooMany⟩, ⟨Str.ofString "Wrong", false, C_Wrong, xa_Wrong, kit_own O_Wrong T_TooMany.hcl yt_TooMany ys_TooMany_Wrong⟩] (fun _ _ h => h)⟩,
    xs_Wrong := ⟨C_Wrong, PySem.W.mg_of X G xa_Wrong, xcs_mk [⟨Str.ofString "NoAnswer", false, C_NoAnswer, xa_NoAnswer, kit_own O_NoAnswer T_Wrong.hcl yt_Wrong ys_Wrong_NoAnswer⟩, ⟨Str.ofString "NoCommand", false, C_NoCommand, xa_NoCommand, kit_own O_NoCommand T_Wrong.hcl yt_Wrong ys_Wrong_NoCommand⟩, ⟨Str.ofString "NoEnding", false, C_NoEnding, xa_NoEnding, kit_own O_NoEnding T_Wrong.hcl yt_Wrong ys_Wrong_NoEnding⟩, ⟨Str.ofString "NoTree", false, C_NoTree, xa_NoTree, kit_own O_NoTree T_Wrong.hcl yt_Wrong ys_Wrong_NoTree⟩, ⟨Str.ofString "NoWord", false, C_NoWord, xa_NoWord, kit_own O_NoWord T_Wrong.hcl yt_Wrong ys_Wrong_NoWord⟩, ⟨Str.ofString "Nothing", false, C_Nothing, xa_Nothing, kit_own O_Nothing T_Wrong.hcl yt_Wrong ys_Wrong_Nothing⟩, ⟨Str.ofString "TooLong", false, C_TooLong, xa_TooLong, kit_own O_TooLong T_Wrong.hcl yt_Wrong ys_Wrong_TooLong⟩, ⟨Str.ofString "TooMany", false, C_TooMany, xa_TooMany, kit_own O_TooMany T_Wrong.hcl yt_Wrong ys_Wrong_TooMany⟩, ⟨Str.ofString "Wrong", true, C_Wrong, xa_Wrong, kit_own O_Wrong T_Wrong.hcl yt_Wrong ys_Wrong_Wrong⟩] (fun _ _ h => h)⟩ }
end K00
open PySem PySem.W PyProof.Rows
set_option maxHeartbeats 0 in
theorem PySem.Challenge.cw_endsahead_k00_errors_and_words_of_any_va_holds : PySem.Challenge.rw_endsahead_k00_errors_and_words_of_any_va.Holds := by
  w_on; o_law; k_head; (case hw => w_witness2)
  k_fill
  refine L3.walk_G (l := PySem.Challenge.rw_endsahead_k00_errors_and_words_of_any_va) (n := 63) (k := 34) (x := "_law_script") (m := K00.p_law) rfl (by decide) rfl ⟨rfl, by decide, by decide⟩ (fun w h Y => PySem.W.kIn_of Y) ?F K00.law_true
  case F =>
    intro w mg fa h KX G hmg
    refine' K00.all_mk KX G hmg ?a0 ?l0 ?c0 ?k0 ?a1 ?l1 ?c1 ?k1 ?a2 ?l2 ?c2 ?k2 ?a3 ?l3 ?c3 ?k3 ?a4 ?l4 ?c4 ?k4 ?a5 ?l5 ?c5 ?k5 ?a6 ?l6 ?c6 ?k6 ?a7 ?l7 ?c7 ?k7 ?a8 ?l8 ?c8 ?k8 ?a9 ?l9 ?c9 ?k9 ?a10 ?l10 ?c10 ?k10 ?a11 ?l11 ?c11 ?k11 ?a12 ?l12 ?c12 ?k12 ?a13 ?l13 ?c13 ?k13 ?a14 ?l14 ?c14 ?k14 ?a15 ?l15 ?c15 ?k15 ?a16 ?l16 ?c16 ?k16 ?a17 ?l17 ?c17 ?k17 ?a18 ?l18 ?c18 ?k18 ?a19 ?l19 ?c19 ?k19 ?a20 ?l20 ?c20 ?k20 ?a21 ?l21 ?c21 ?k21 ?a22 ?l22 ?c22 ?k22 ?a23 ?l23 ?c23 ?k23 ?a24 ?l24 ?c24 ?k24 ?a25 ?l25 ?c25 ?k25 ?a26 ?l26 ?c26 ?k26 ?z_ValueError ?z_abs ?z_all ?z_bool ?z_enumerate ?z_int ?z_isinstance ?z_len ?z_list ?z_range ?z_repr ?z_str ?z_tuple ?z_zip ?qh_DIGITS ?qh_KEYWORDS ?ql_KEYWORDS ?qv_KEYWORDS ?qz_KEYWORDS ?qh_MOST_DIGITS ?qh_MOST_LETTERS ?qh_SIGNS ?qh_SMALL ?xsup ?xthp ?xtop ?xhn ?xtk ?xa_NoAnswer ?xl_NoAnswer ?xv_NoAnswer ?xsa_NoAnswer ?xbe_NoAnswer ?xtt_NoAnswer ?xkp_NoAnswer ?xga_NoAnswer ?xgt_NoAnswer ?xcl_NoAnswer ?xn_NoAnswer ?xf_NoAnswer ?xi_NoAnswer ?xti_NoAnswer ?xli_NoAnswer ?xci_NoAnswer ?xlc_NoAnswer ?xvs_NoAnswer ?xfi_NoAnswer ?xce_NoAnswer ?xsu_NoAnswer ?xba_NoAnswer ?xve_NoAnswer ?xa_NoCommand ?xl_NoCommand ?xv_NoCommand ?xsa_NoCommand ?xbe_NoCommand ?xtt_NoCommand ?xkp_NoCommand ?xga_NoCommand ?xgt_NoCommand ?xcl_NoCommand ?xn_NoCommand ?xf_NoCommand ?xi_NoCommand ?xti_NoCommand ?xli_NoCommand ?xci_NoCommand ?xlc_NoCommand ?xvs_NoCommand ?xfi_NoCommand ?xce_NoCommand ?xsu_NoCommand ?xba_NoCommand ?xve_NoCommand ?xa_NoEnding ?xl_NoEnding ?xv_NoEnding ?xsa_NoEnding ?xbe_NoEnding ?xtt_NoEnding ?xkp_NoEnding ?xga_NoEnding ?xgt_NoEnding ?xcl_NoEnding ?xn_NoEnding ?xa_NoTree ?xl_NoTree ?xv_NoTree ?xsa_NoTree ?xbe_NoTree ?xtt_NoTree ?xkp_NoTree ?xga_NoTree ?xgt_NoTree ?xcl_NoTree ?xn_NoTree ?xf_NoTree ?xi_NoTree ?xti_NoTree ?xli_NoTree ?xci_NoTree ?xlc_NoTree ?xvs_NoTree ?xfi_NoTree ?xce_NoTree ?xsu_NoTree ?xba_NoTree ?xve_NoTree ?xa_NoWord ?xl_NoWord ?xv_NoWord ?xsa_NoWord ?xbe_NoWord ?xtt_NoWord ?xkp_NoWord ?xga_NoWord ?xgt_NoWord ?xcl_NoWord ?xn_NoWord ?xf_NoWord ?xi_NoWord ?xti_NoWord ?xli_NoWord ?xci_NoWord ?xlc_NoWord ?xvs_NoWord ?xfi_NoWord ?xce_NoWord ?xsu_NoWord ?xba_NoWord ?xve_NoWord ?xa_Nothing ?xl_Nothing ?xv_Nothing ?xsa_Nothing ?xbe_Nothing ?xtt_Nothing ?xkp_Nothing ?xga_Nothing ?xgt_Nothing ?xcl_Nothing ?xn_Nothing ?xa_TooLong ?xl_TooLong ?xv_TooLong ?xsa_TooLong ?xbe_TooLong ?xtt_TooLong ?xkp_TooLong ?xga_TooLong ?xgt_TooLong ?xcl_TooLong ?xn_TooLong ?xf_TooLong ?xi_TooLong ?xti_TooLong ?xli_TooLong ?xci_TooLong ?xlc_TooLong ?xvs_TooLong ?xfi_TooLong ?xce_TooLong ?xsu_TooLong ?xba_TooLong ?xve_TooLong ?xa_TooMany ?xl_TooMany ?xv_TooMany ?xsa_TooMany ?xbe_TooMany ?xtt_TooMany ?xkp_TooMany ?xga_TooMany ?xgt_TooMany ?xcl_TooMany ?xn_TooMany ?xf_TooMany ?xi_TooMany ?xti_TooMany ?xli_TooMany ?xci_TooMany ?xlc_TooMany ?xvs_TooMany ?xfi_TooMany ?xce_TooMany ?xsu_TooMany ?xba_TooMany ?xve_TooMany ?xa_Wrong ?xl_Wrong ?xv_Wrong ?xsa_Wrong ?xbe_Wrong ?xtt_Wrong ?xkp_Wrong ?xga_Wrong ?xgt_Wrong ?xcl_Wrong ?xn_Wrong ?xf_Wrong ?xi_Wrong ?xti_Wrong ?xli_Wrong ?xci_Wrong ?xlc_Wrong ?xvs_Wrong ?xfi_Wrong ?xce_Wrong ?xsu_Wrong ?xba_Wrong ?xve_Wrong ?xa_EndError ?yc_EndError ?yt_EndError ?ys_EndError_NoAnswer ?ys_EndError_NoCommand ?ys_EndError_NoEnding ?ys_EndError_NoTree ?ys_EndError_NoWord ?ys_EndError_Nothing ?ys_EndError_TooLong ?ys_EndError_TooMany ?ys_EndError_Wrong ?yt_NoAnswer ?ys_NoAnswer_NoAnswer ?ys_NoAnswer_NoCommand ?ys_NoAnswer_NoEnding ?ys_NoAnswer_NoTree ?ys_NoAnswer_NoWord ?ys_NoAnswer_Nothing ?ys_NoAnswer_TooLong ?ys_NoAnswer_TooMany ?ys_NoAnswer_Wrong ?yt_NoCommand ?ys_NoCommand_NoAnswer ?ys_NoCommand_NoCommand ?ys_NoCommand_NoEnding ?ys_NoCommand_NoTree ?ys_NoCommand_NoWord ?ys_NoCommand_Nothing ?ys_NoCommand_TooLong ?ys_NoCommand_TooMany ?ys_NoCommand_Wrong ?yt_NoEnding ?ys_NoEnding_NoAnswer ?ys_NoEnding_NoCommand ?ys_NoEnding_NoEnding ?ys_NoEnding_NoTree ?ys_NoEnding_NoWord ?ys_NoEnding_Nothing ?ys_NoEnding_TooLong ?ys_NoEnding_TooMany ?ys_NoEnding_Wrong ?yt_NoTree ?ys_NoTree_NoAnswer ?ys_NoTree_NoCommand ?ys_NoTree_NoEnding ?ys_NoTree_NoTree ?ys_NoTree_NoWord ?ys_NoTree_Nothing ?ys_NoTree_TooLong ?ys_NoTree_TooMany ?ys_NoTree_Wrong ?yt_NoWord ?ys_NoWord_NoAnswer ?ys_NoWord_NoCommand ?ys_NoWord_NoEnding ?ys_NoWord_NoTree ?ys_NoWord_NoWord ?ys_NoWord_Nothing ?ys_NoWord_TooLong ?ys_NoWord_TooMany ?ys_NoWord_Wrong ?yt_Nothing ?ys_Nothing_NoAnswer ?ys_Nothing_NoCommand ?ys_Nothing_NoEnding ?ys_Nothing_NoTree ?ys_Nothing_NoWord ?ys_Nothing_Nothing ?ys_Nothing_TooLong ?ys_Nothing_TooMany ?ys_Nothing_Wrong ?yt_TooLong ?ys_TooLong_NoAnswer ?ys_TooLong_NoCommand ?ys_TooLong_NoEnding ?ys_TooLong_NoTree ?ys_TooLong_NoWord ?ys_TooLong_Nothing ?ys_TooLong_TooLong ?ys_TooLong_TooMany ?ys_TooLong_Wrong ?yt_TooMany ?ys_TooMany_NoAnswer ?ys_TooMany_NoCommand ?ys_TooMany_NoEnding ?ys_TooMany_NoTree ?ys_TooMany_NoWord ?ys_TooMany_Nothing ?ys_TooMany_TooLong ?ys_TooMany_TooMany ?ys_TooMany_Wrong ?yt_Wrong ?ys_Wrong_NoAnswer ?ys_Wrong_NoCommand ?ys_Wrong_NoEnding ?ys_Wrong_NoTree ?ys_Wrong_NoWord ?ys_Wrong_Nothing ?ys_Wrong_TooLong ?ys_Wrong_TooMany ?ys_Wrong_Wrong
    (case a0 => k_is); (case l0 => k_is); (case c0 => k_is); (case k0 => k_is); (case a1 => k_is); (case l1 => k_is); (case c1 => k_is); (case k1 => k_is); (case a2 => k_is); (case l2 => k_is); (case c2 => k_is); (case k2 => k_is); (case a3 => k_is); (case l3 => k_is); (case c3 => k_is); (case k3 => k_is); (case a4 => k_is); (case l4 => k_is); (case c4 => k_is); (case k4 => k_is); (case a5 => k_is); (case l5 => k_is); (case c5 => k_is); (case k5 => k_is); (case a6 => k_is); (case l6 => k_is); (case c6 => k_is); (case k6 => k_is); (case a7 => k_is); (case l7 => k_is); (case c7 => k_is); (case k7 => k_is); (case a8 => k_is); (case l8 => k_is); (case c8 => k_is); (case k8 => k_is); (case a9 => k_is); (case l9 => k_is); (case c9 => k_is); (case k9 => k_is); (case a10 => k_is); (case l10 => k_is); (case c10 => k_is); (case k10 => k_is); (case a11 => k_is); (case l11 => k_is); (case c11 => k_is); (case k11 => k_is); (case a12 => k_is); (case l12 => k_is); (case c12 => k_is); (case k12 => k_is); (case a13 => k_is); (case l13 => k_is); (case c13 => k_is); (case k13 => k_is); (case a14 => k_is); (case l14 => k_is); (case c14 => k_is); (case k14 => k_is); (case a15 => k_is); (case l15 => k_is); (case c15 => k_is); (case k15 => k_is); (case a16 => k_is); (case l16 => k_is); (case c16 => k_is); (case k16 => k_is); (case a17 => k_is); (case l17 => k_is); (case c17 => k_is); (case k17 => k_is); (case a18 => k_is); (case l18 => k_is); (case c18 => k_is); (case k18 => k_is); (case a19 => k_is); (case l19 => k_is); (case c19 => k_is); (case k19 => k_is); (case a20 => k_is); (case l20 => k_is); (case c20 => k_is); (case k20 => k_is); (case a21 => k_is); (case l21 => k_is); (case c21 => k_is); (case k21 => k_is); (case a22 => k_is); (case l22 => k_is); (case c22 => k_is); (case k22 => k_is); (case a23 => k_is); (case l23 => k_is); (case c23 => k_is); (case k23 => k_is); (case a24 => k_is); (case l24 => k_is); (case c24 => k_is); (case k24 => k_is); (case a25 => k_is); (case l25 => k_is); (case c25 => k_is); (case k25 => k_is); (case a26 => k_is); (case l26 => k_is); (case c26 => k_is); (case k26 => k_is); (case z_ValueError => k_is); (case z_abs => k_is); (case z_all => k_is); (case z_bool => k_is); (case z_enumerate => k_is); (case z_int => k_is); (case z_isinstance => k_is); (case z_len => k_is); (case z_list => k_is); (case z_range => k_is); (case z_repr => k_is); (case z_str => k_is); (case z_tuple => k_is); (case z_zip => k_is); (case qh_DIGITS => k_is); (case qh_KEYWORDS => k_is); (case ql_KEYWORDS => k_is); (case qv_KEYWORDS => exact (.cons ⟨_, rfl⟩ (.cons ⟨_, rfl⟩ (.cons ⟨_, rfl⟩ (.cons ⟨_, rfl⟩ (.cons ⟨_, rfl⟩ (.cons ⟨_, rfl⟩ (.cons ⟨_, rfl⟩ (.cons ⟨_, rfl⟩ (.cons ⟨_, rfl⟩ (.cons ⟨_, rfl⟩ (.cons ⟨_, rfl⟩ (.cons ⟨_, rfl⟩ (.cons ⟨_, rfl⟩ (.cons ⟨_, rfl⟩ (.cons ⟨_, rfl⟩ (.cons ⟨_, rfl⟩ (.cons ⟨_, rfl⟩ (.cons ⟨_, rfl⟩ .nil))))))))))))))))))); (case qz_KEYWORDS => decide); (case qh_MOST_DIGITS => k_is); (case qh_MOST_LETTERS => k_is); (case qh_SIGNS => k_is); (case qh_SMALL => k_is); (case xsup => k_is); (case xthp => k_is); (case xtop => first | rfl | decide +kernel); (case xhn => k_is); (case xtk => k_is); (case xa_NoAnswer => k_is); (case xl_NoAnswer => k_is); (case xv_NoAnswer => first | rfl | decide +kernel); (case xsa_NoAnswer => k_is); (case xbe_NoAnswer => k_is); (case xtt_NoAnswer => k_is); (case xkp_NoAnswer => k_is); (case xga_NoAnswer => k_is); (case xgt_NoAnswer => k_is); (case xcl_NoAnswer => k_is); (case xn_NoAnswer => first | kx_is | k_exc | k_is); (case xf_NoAnswer => k_is); (case xi_NoAnswer => k_is); (case xti_NoAnswer => k_is); (case xli_NoAnswer => k_is); (case xci_NoAnswer => k_is); (case xlc_NoAnswer => k_is); (case xvs_NoAnswer => first | rfl | decide +kernel); (case xfi_NoAnswer => first | rfl | decide +kernel); (case xce_NoAnswer => k_is); (case xsu_NoAnswer => k_is); (case xba_NoAnswer => ks_is); (case xve_NoAnswer => k_is); (case xa_NoCommand => k_is); (case xl_NoCommand => k_is); (case xv_NoCommand => first | rfl | decide +kernel); (case xsa_NoCommand => k_is); (case xbe_NoCommand => k_is); (case xtt_NoCommand => k_is); (case xkp_NoCommand => k_is); (case xga_NoCommand => k_is); (case xgt_NoCommand => k_is); (case xcl_NoCommand => k_is); (case xn_NoCommand => first | kx_is | k_exc | k_is); (case xf_NoCommand => k_is); (case xi_NoCommand => k_is); (case xti_NoCommand => k_is); (case xli_NoCommand => k_is); (case xci_NoCommand => k_is); (case xlc_NoCommand => k_is); (case xvs_NoCommand => first | rfl | decide +kernel); (case xfi_NoCommand => first | rfl | decide +kernel); (case xce_NoCommand => k_is); (case xsu_NoCommand => k_is); (case xba_NoCommand => ks_is); (case xve_NoCommand => k_is); (case xa_NoEnding => k_is); (case xl_NoEnding => k_is); (case xv_NoEnding => first | rfl | decide +kernel); (case xsa_NoEnding => k_is); (case xbe_NoEnding => k_is); (case xtt_NoEnding => k_is); (case xkp_NoEnding => k_is); (case xga_NoEnding => k_is); (case xgt_NoEnding => k_is); (case xcl_NoEnding => k_is); (case xn_NoEnding => first | kx_is | k_exc | k_is); (case xa_NoTree => k_is); (case xl_NoTree => k_is); (case xv_NoTree => first | rfl | decide +kernel); (case xsa_NoTree => k_is); (case xbe_NoTree => k_is); (case xtt_NoTree => k_is); (case xkp_NoTree => k_is); (case xga_NoTree => k_is); (case xgt_NoTree => k_is); (case xcl_NoTree => k_is); (case xn_NoTree => first | kx_is | k_exc | k_is); (case xf_NoTree => k_is); (case xi_NoTree => k_is); (case xti_NoTree => k_is); (case xli_NoTree => k_is); (case xci_NoTree => k_is); (case xlc_NoTree => k_is); (case xvs_NoTree => first | rfl | decide +kernel); (case xfi_NoTree => first | rfl | decide +kernel); (case xce_NoTree => k_is); (case xsu_NoTree => k_is); (case xba_NoTree => ks_is); (case xve_NoTree => k_is); (case xa_NoWord => k_is); (case xl_NoWord => k_is); (case xv_NoWord => first | rfl | decide +kernel); (case xsa_NoWord => k_is); (case xbe_NoWord => k_is); (case xtt_NoWord => k_is); (case xkp_NoWord => k_is); (case xga_NoWord => k_is); (case xgt_NoWord => k_is); (case xcl_NoWord => k_is); (case xn_NoWord => first | kx_is | k_exc | k_is); (case xf_NoWord => k_is); (case xi_NoWord => k_is); (case xti_NoWord => k_is); (case xli_NoWord => k_is); (case xci_NoWord => k_is); (case xlc_NoWord => k_is); (case xvs_NoWord => first | rfl | decide +kernel); (case xfi_NoWord => first | rfl | decide +kernel); (case xce_NoWord => k_is); (case xsu_NoWord => k_is); (case xba_NoWord => ks_is); (case xve_NoWord => k_is); (case xa_Nothing => k_is); (case xl_Nothing => k_is); (case xv_Nothing => first | rfl | decide +kernel); (case xsa_Nothing => k_is); (case xbe_Nothing => k_is); (case xtt_Nothing => k_is); (case xkp_Nothing => k_is); (case xga_Nothing => k_is); (case xgt_Nothing => k_is); (case xcl_Nothing => k_is); (case xn_Nothing => first | kx_is | k_exc | k_is); (case xa_TooLong => k_is); (case xl_TooLong => k_is); (case xv_TooLong => first | rfl | decide +kernel); (case xsa_TooLong => k_is); (case xbe_TooLong => k_is); (case xtt_TooLong => k_is); (case xkp_TooLong => k_is); (case xga_TooLong => k_is); (case xgt_TooLong => k_is); (case xcl_TooLong => k_is); (case xn_TooLong => first | kx_is | k_exc | k_is); (case xf_TooLong => k_is); (case xi_TooLong => k_is); (case xti_TooLong => k_is); (case xli_TooLong => k_is); (case xci_TooLong => k_is); (case xlc_TooLong => k_is); (case xvs_TooLong => first | rfl | decide +kernel); (case xfi_TooLong => first | rfl | decide +kernel); (case xce_TooLong => k_is); (case xsu_TooLong => k_is); (case xba_TooLong => ks_is); (case xve_TooLong => k_is); (case xa_TooMany => k_is); (case xl_TooMany => k_is); (case xv_TooMany => first | rfl | decide +kernel); (case xsa_TooMany => k_is); (case xbe_TooMany => k_is); (case xtt_TooMany => k_is); (case xkp_TooMany => k_is); (case xga_TooMany => k_is); (case xgt_TooMany => k_is); (case xcl_TooMany => k_is); (case xn_TooMany => first | kx_is | k_exc | k_is); (case xf_TooMany => k_is); (case xi_TooMany => k_is); (case xti_TooMany => k_is); (case xli_TooMany => k_is); (case xci_TooMany => k_is); (case xlc_TooMany => k_is); (case xvs_TooMany => first | rfl | decide +kernel); (case xfi_TooMany => first | rfl | decide +kernel); (case xce_TooMany => k_is); (case xsu_TooMany => k_is); (case xba_TooMany => ks_is); (case xve_TooMany => k_is); (case xa_Wrong => k_is); (case xl_Wrong => k_is); (case xv_Wrong => first | rfl | decide +kernel); (case xsa_Wrong => k_is); (case xbe_Wrong => k_is); (case xtt_Wrong => k_is); (case xkp_Wrong => k_is); (case xga_Wrong => k_is); (case xgt_Wrong => k_is); (case xcl_Wrong => k_is); (case xn_Wrong => first | kx_is | k_exc | k_is); (case xf_Wrong => k_is); (case xi_Wrong => k_is); (case xti_Wrong => k_is); (case xli_Wrong => k_is); (case xci_Wrong => k_is); (case xlc_Wrong => k_is); (case xvs_Wrong => first | rfl | decide +kernel); (case xfi_Wrong => first | rfl | decide +kernel); (case xce_Wrong => k_is); (case xsu_Wrong => k_is); (case xba_Wrong => ks_is); (case xve_Wrong => k_is); (case xa_EndError => k_is); (case yc_EndError => k_is); (case yt_EndError => k_is); (case ys_EndError_NoAnswer => k_is); (case ys_EndError_NoCommand => k_is); (case ys_EndError_NoEnding => k_is); (case ys_EndError_NoTree => k_is); (case ys_EndError_NoWord => k_is); (case ys_EndError_Nothing => k_is); (case ys_EndError_TooLong => k_is); (case ys_EndError_TooMany => k_is); (case ys_EndError_Wrong => k_is); (case yt_NoAnswer => k_is); (case ys_NoAnswer_NoAnswer => k_is); (case ys_NoAnswer_NoCommand => k_is); (case ys_NoAnswer_NoEnding => k_is); (case ys_NoAnswer_NoTree => k_is); (case ys_NoAnswer_NoWord => k_is); (case ys_NoAnswer_Nothing => k_is); (case ys_NoAnswer_TooLong => k_is); (case ys_NoAnswer_TooMany => k_is); (case ys_NoAnswer_Wrong => k_is); (case yt_NoCommand => k_is); (case ys_NoCommand_NoAnswer => k_is); (case ys_NoCommand_NoCommand => k_is); (case ys_NoCommand_NoEnding => k_is); (case ys_NoCommand_NoTree => k_is); (case ys_NoCommand_NoWord => k_is); (case ys_NoCommand_Nothing => k_is); (case ys_NoCommand_TooLong => k_is); (case ys_NoCommand_TooMany => k_is); (case ys_NoCommand_Wrong => k_is); (case yt_NoEnding => k_is); (case ys_NoEnding_NoAnswer => k_is); (case ys_NoEnding_NoCommand => k_is); (case ys_NoEnding_NoEnding => k_is); (case ys_NoEnding_NoTree => k_is); (case ys_NoEnding_NoWord => k_is); (case ys_NoEnding_Nothing => k_is); (case ys_NoEnding_TooLong => k_is); (case ys_NoEnding_TooMany => k_is); (case ys_NoEnding_Wrong => k_is); (case yt_NoTree => k_is); (case ys_NoTree_NoAnswer => k_is); (case ys_NoTree_NoCommand => k_is); (case ys_NoTree_NoEnding => k_is); (case ys_NoTree_NoTree => k_is); (case ys_NoTree_NoWord => k_is); (case ys_NoTree_Nothing => k_is); (case ys_NoTree_TooLong => k_is); (case ys_NoTree_TooMany => k_is); (case ys_NoTree_Wrong => k_is); (case yt_NoWord => k_is); (case ys_NoWord_NoAnswer => k_is); (case ys_NoWord_NoCommand => k_is); (case ys_NoWord_NoEnding => k_is); (case ys_NoWord_NoTree => k_is); (case ys_NoWord_NoWord => k_is); (case ys_NoWord_Nothing => k_is); (case ys_NoWord_TooLong => k_is); (case ys_NoWord_TooMany => k_is); (case ys_NoWord_Wrong => k_is); (case yt_Nothing => k_is); (case ys_Nothing_NoAnswer => k_is); (case ys_Nothing_NoCommand => k_is); (case ys_Nothing_NoEnding => k_is); (case ys_Nothing_NoTree => k_is); (case ys_Nothing_NoWord => k_is); (case ys_Nothing_Nothing => k_is); (case ys_Nothing_TooLong => k_is); (case ys_Nothing_TooMany => k_is); (case ys_Nothing_Wrong => k_is); (case yt_TooLong => k_is); (case ys_TooLong_NoAnswer => k_is); (case ys_TooLong_NoCommand => k_is); (case ys_TooLong_NoEnding => k_is); (case ys_TooLong_NoTree => k_is); (case ys_TooLong_NoWord => k_is); (case ys_TooLong_Nothing => k_is); (case ys_TooLong_TooLong => k_is); (case ys_TooLong_TooMany => k_is); (case ys_TooLong_Wrong => k_is); (case yt_TooMany => k_is); (case ys_TooMany_NoAnswer => k_is); (case ys_TooMany_NoCommand => k_is); (case ys_TooMany_NoEnding => k_is); (case ys_TooMany_NoTree => k_is); (case ys_TooMany_NoWord => k_is); (case ys_TooMany_Nothing => k_is); (case ys_TooMany_TooLong => k_is); (case ys_TooMany_TooMany => k_is); (case ys_TooMany_Wrong => k_is); (case yt_Wrong => k_is); (case ys_Wrong_NoAnswer => k_is); (case ys_Wrong_NoCommand => k_is); (case ys_Wrong_NoEnding => k_is); (case ys_Wrong_NoTree => k_is); (case ys_Wrong_NoWord => k_is); (case ys_Wrong_Nothing => k_is); (case ys_Wrong_TooLong => k_is); (case ys_Wrong_TooMany => k_is); (case ys_Wrong_Wrong => k_is)
