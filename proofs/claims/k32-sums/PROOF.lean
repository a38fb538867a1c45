import PyProof.Rows.All
import HandS.ForMost
import HandS.ForExc
import HandS.Deep
import HandS.TupAny
import HandS.Zip
import HandS.IsInst
import KE.KDictKeyed
import KE.KDictLaw
import HandS.TupMul
import HandS.Text
import KE.KeyNested
import HandS.Codes
import HandS.StrMore
import HandS.More
import KE.SortData
import KE.DataMinMax
import PyProof.Draws
import HandS.Strs
import KE.GoesMore
import HandS.Defaults
import HandS.WordsDict
import HandS.Set
import HandS.SetKeys
import PyProof.Rows.SetFrom
import HandS.SetFor
import HandS.NoneIn
import HandS.Conv
import HandS.CallLocal
import PyProof.StrLawsIn
import PyProof.TupleOfSeq
import HandS.Iter
import KE.KDictWalk
import KE.KDictSum
import HandS.Flow
import HandS.Style
import PyProof.SliceStr2
import HandS.HeadHook4
import HandS.WordsExc
import HandS.TryOnly
import HandS.ExcIs
import HandS.Sort
import HandS.TupLen
import Wide.All
import OpenK.AllK
import Wide.FinOn
import KE.KStateDown
import HandS.Head0
import HandS.Head1
import HandS.Head2
import HandS.HeadEnd
import HandS.HeadHook1
import HandS.HeadHook2
import PySem.Challenge.RW_keyfold_k32_whole_sums
set_option Elab.async false
set_option linter.all false
set_option maxRecDepth 100000
/-! Kf, core: values as data over the layer's heap; readings without a heap. -/
namespace Kf
open PySem PySem.Spec PyProof.Rows L2

/-- a value as data (lists within it never change), or something that is owned and may change -/
inductive DV where
  | dat (d : PyData)
  | ref (a : Addr)
  | scr (ns : List Int)
/-- what is owned -/
inductive MO where
  | lst (ds : List PyData)
  | dicV (kvs : List (Key × PyData))
  | dicT (kvs : List (NestedKey × PyData))
  | obj (C : Addr) (fs : List (Str × DV))
  | lstR (as : List Addr)
  | dicF (od : Obj) (xs : List (NestedKey × Addr × Value)) (kvs : List (NestedKey × PyData))
abbrev MS := Addr → Option MO
def setM (M : MS) (a : Addr) (o : MO) : MS := fun b => if b = a then some o else M b
def fz (B : List Addr) (M : MS) (H : Hp) : Hp := fun b => if (M b).isSome = true ∨ b ∈ B then none else H b
abbrev Rho := List (Option DV)
abbrev KD := DV → MS → Prop
abbrev TD := Rho → MS → KD → Prop
abbrev TDb := Rho → MS → (Bool → MS → Prop) → Prop
abbrev TDa := Rho → MS → (List DV → MS → Prop) → Prop

theorem setM_same {M : MS} {a : Addr} {o : MO} : setM M a o a = some o := if_pos rfl
theorem setM_ne {M : MS} {a b : Addr} {o : MO} (h : b ≠ a) : setM M a o b = M b := if_neg h
theorem fz_some {B : List Addr} {M : MS} {H : Hp} {b : Addr} {o : HO} (h : fz B M H b = some o) : M b = none ∧ H b = some o := by
  unfold fz at h
  split at h
  · cases h
  · rename_i n
    exact ⟨by cases e : M b with | none => rfl | some x => rw [e] at n; exact absurd (Or.inl rfl) n, h⟩
theorem fz_out {B : List Addr} {M : MS} {H : Hp} {b : Addr} {o : HO} (h : fz B M H b = some o) : b ∉ B := by
  unfold fz at h
  split at h
  · cases h
  · rename_i n
    exact fun z => n (Or.inr z)
theorem fz_mk {B : List Addr} {M : MS} {H : Hp} {b : Addr} {o : HO} (m : M b = none) (hb : b ∉ B) (h : H b = some o) : fz B M H b = some o := by
  unfold fz; rw [if_neg (by rw [m]; exact fun z => z.elim (fun z => by cases z) hb)]; exact h

/-! ### data stays while the heap's frozen part stays -/
theorem Same.seqT {K : PySem.W.Frag} {H H' : Hp} {a : Addr} {xs : List V} (e : Same H H') (h : SqT K H a xs) : SqT K H' a xs := by
  rcases h with (h | ⟨o, h⟩) | h
  · exact .inl (.inl (e _ _ h))
  · exact .inl (.inr ⟨o, e _ _ h⟩)
  · exact .inr h
/-- a tuple of ints of which it is known that it has no dict of its own (so that its methods may be called) -/
def ordD (ns : List Int) : PyData := .dict [(.none, .tuple (ns.map PyData.int))]
def norm : PyData → PyData
  | .dict [(.none, .tuple ds)] => .tuple ds
  | d => d
mutual
def noDict : PyData → Bool
  | .none => true
  | .bool _ => true
  | .int _ => true
  | .str _ => true
  | .list ds => noDicts ds
  | .tuple ds => noDicts ds
  | .dict _ => false
def noDicts : List PyData → Bool
  | [] => true
  | d :: ds => noDict d && noDicts ds
end
mutual
theorem noDict_of : ∀ d : PyData, d.canLay0 = true → noDict d = true
  | .none, _ => rfl
  | .bool _, _ => rfl
  | .int _, _ => rfl
  | .str _, _ => rfl
  | .list ds, h => by rw [PyData.canLay0] at h; rw [noDict]; exact noDicts_of ds h
  | .tuple ds, h => by rw [PyData.canLay0] at h; rw [noDict]; exact noDicts_of ds h
  | .dict _, h => by simp [PyData.canLay0] at h
theorem noDicts_of : ∀ ds : List PyData, PyData.canLayAll0 ds = true → noDicts ds = true
  | [], _ => rfl
  | d :: ds, h => by
    rw [PyData.canLayAll0, Bool.and_eq_true] at h
    rw [noDicts, noDict_of d h.1, noDicts_of ds h.2]; rfl
end
mutual
inductive Rp (K : PySem.W.Frag) (H : Hp) : V → PyData → Prop
  | non : Rp K H .non .none
  | bl (b : Bool) : Rp K H (.bl b) (.bool b)
  | int (i : Int) : Rp K H (.int i) (.int i)
  | str (x : Str) : Rp K H (.str x) (.str x)
  | lst {a : Addr} {xs : List V} {ds : List PyData} : H a = some (.lst xs) → RpAll K H xs ds → Rp K H (.ref a) (.list ds)
  | tup {a : Addr} {xs : List V} {ds : List PyData} : SqT K H a xs → RpAll K H xs ds → Rp K H (.ref a) (.tuple ds)
  | ord {a : Addr} {o : Obj} {ns : List Int} : H a = some (.frz o (.tup (ns.map V.int))) → o.dict = none → Rp K H (.ref a) (ordD ns)
inductive RpAll (K : PySem.W.Frag) (H : Hp) : List V → List PyData → Prop
  | nil : RpAll K H [] []
  | cons {v : V} {vs : List V} {d : PyData} {ds : List PyData} : Rp K H v d → RpAll K H vs ds → RpAll K H (v :: vs) (d :: ds)
end
mutual
theorem Rp.dp {K : PySem.W.Frag} {H : Hp} : ∀ (d : PyData) (v : V), noDict d = true → Rp K H v d → Dp K H v d
  | .none, _, _, h => by cases h; exact .non
  | .bool b, _, _, h => by cases h; exact .bl b
  | .int i, _, _, h => by cases h; exact .int i
  | .str x, _, _, h => by cases h; exact .str x
  | .list ds, _, n, h => by cases h with | lst s r => exact .lst (SqL.of s) (RpAll.dp ds _ (by rw [noDict] at n; exact n) r)
  | .tuple ds, _, n, h => by cases h with | tup s r => exact .tup s (RpAll.dp ds _ (by rw [noDict] at n; exact n) r)
  | .dict _, _, n, h => by simp [noDict] at n
theorem RpAll.dp {K : PySem.W.Frag} {H : Hp} : ∀ (ds : List PyData) (vs : List V), noDicts ds = true → RpAll K H vs ds → DpAll K H vs ds
  | [], _, _, h => by cases h; exact .nil
  | d :: ds, _, n, h => by
    rw [noDicts, Bool.and_eq_true] at n
    cases h with | cons a b => exact .cons (Rp.dp d _ n.1 a) (RpAll.dp ds _ n.2 b)
end
mutual
theorem Rp.same {K : PySem.W.Frag} {H H' : Hp} (e : Same H H') : ∀ (d : PyData) (v : V), Rp K H v d → Rp K H' v d
  | .none, _, h => by cases h; exact .non
  | .bool b, _, h => by cases h; exact .bl b
  | .int i, _, h => by cases h; exact .int i
  | .str x, _, h => by cases h; exact .str x
  | .list ds, _, h => by cases h with | lst s r => exact .lst (e _ _ s) (RpAll.same e ds _ r)
  | .tuple ds, _, h => by cases h with | tup s r => exact .tup (Same.seqT e s) (RpAll.same e ds _ r)
  | .dict _, _, h => by cases h with | ord s n => exact .ord (e _ _ s) n
theorem RpAll.same {K : PySem.W.Frag} {H H' : Hp} (e : Same H H') : ∀ (ds : List PyData) (vs : List V), RpAll K H vs ds → RpAll K H' vs ds
  | [], _, h => by cases h; exact .nil
  | d :: ds, _, h => by cases h with | cons a b => exact .cons (Rp.same e d _ a) (RpAll.same e ds _ b)
end
theorem fz_same {B : List Addr} {M : MS} {H : Hp} : Same (fz B M H) H := fun b o h => (fz_some h).2
theorem Rp.un {K : PySem.W.Frag} {B : List Addr} {M : MS} {H : Hp} {v : V} {d : PyData} (h : Rp K (fz B M H) v d) : Rp K H v d := Rp.same fz_same d v h
theorem RpAll.un {K : PySem.W.Frag} {B : List Addr} {M : MS} {H : Hp} {vs : List V} {ds : List PyData} (h : RpAll K (fz B M H) vs ds) : RpAll K H vs ds := RpAll.same fz_same ds vs h
theorem RpAll.length {K : PySem.W.Frag} {H : Hp} : ∀ {vs : List V} {ds : List PyData}, RpAll K H vs ds → vs.length = ds.length
  | _, _, .nil => rfl
  | _, _, .cons _ b => congrArg Nat.succ (RpAll.length b)
theorem RpAll.get {K : PySem.W.Frag} {H : Hp} : ∀ {vs : List V} {ds : List PyData}, RpAll K H vs ds → ∀ {i : Nat} {d : PyData}, ds[i]? = some d → ∃ v, vs[i]? = some v ∧ Rp K H v d
  | _, _, .nil, i, d, e => by simp at e
  | _, _, .cons a b, 0, d, e => by simp at e; subst e; exact ⟨_, rfl, a⟩
  | _, _, .cons a b, i + 1, d, e => by
    obtain ⟨v, h1, h2⟩ := RpAll.get b (i := i) (by simpa using e)
    exact ⟨v, by simpa using h1, h2⟩
theorem RpAll.get' {K : PySem.W.Frag} {H : Hp} : ∀ {vs : List V} {ds : List PyData}, RpAll K H vs ds → ∀ {i : Nat} {v : V}, vs[i]? = some v → ∃ d, ds[i]? = some d ∧ Rp K H v d
  | _, _, .nil, i, d, e => by simp at e
  | _, _, .cons a b, 0, d, e => by simp at e; subst e; exact ⟨_, rfl, a⟩
  | _, _, .cons a b, i + 1, d, e => by
    obtain ⟨v, h1, h2⟩ := RpAll.get' b (i := i) (by simpa using e)
    exact ⟨v, by simpa using h1, h2⟩
theorem RpAll.append {K : PySem.W.Frag} {H : Hp} : ∀ {vs us : List V} {ds es : List PyData}, RpAll K H vs ds → RpAll K H us es → RpAll K H (vs ++ us) (ds ++ es)
  | _, _, _, _, .nil, s => s
  | _, _, _, _, .cons a b, s => .cons a (RpAll.append b s)
theorem RpAll.take {K : PySem.W.Frag} {H : Hp} : ∀ {vs : List V} {ds : List PyData} (n : Nat), RpAll K H vs ds → RpAll K H (vs.take n) (ds.take n)
  | _, _, 0, _ => by simpa using .nil
  | _, _, n + 1, .nil => .nil
  | _, _, n + 1, .cons a b => .cons a (RpAll.take n b)
theorem RpAll.drop {K : PySem.W.Frag} {H : Hp} : ∀ {vs : List V} {ds : List PyData} (n : Nat), RpAll K H vs ds → RpAll K H (vs.drop n) (ds.drop n)
  | _, _, 0, h => by simpa using h
  | _, _, n + 1, .nil => .nil
  | _, _, n + 1, .cons a b => RpAll.drop n b
theorem RpAll.set {K : PySem.W.Frag} {H : Hp} {v : V} {d : PyData} (a : Rp K H v d) : ∀ {vs : List V} {ds : List PyData} (n : Nat), RpAll K H vs ds → RpAll K H (vs.set n v) (ds.set n d)
  | _, _, _, .nil => .nil
  | _, _, 0, .cons _ b => .cons a b
  | _, _, n + 1, .cons c b => .cons c (RpAll.set a n b)
theorem RpAll.rev {K : PySem.W.Frag} {H : Hp} : ∀ {vs : List V} {ds : List PyData}, RpAll K H vs ds → RpAll K H vs.reverse ds.reverse
  | _, _, .nil => .nil
  | _, _, .cons a b => by
    rw [List.reverse_cons, List.reverse_cons]
    exact RpAll.append (RpAll.rev b) (.cons a .nil)
theorem RpAll.repl {K : PySem.W.Frag} {H : Hp} {vs : List V} {ds : List PyData} (h : RpAll K H vs ds) : ∀ n, RpAll K H (List.replicate n vs).flatten (List.replicate n ds).flatten
  | 0 => .nil
  | n + 1 => by
    rw [List.replicate_succ, List.replicate_succ, List.flatten_cons, List.flatten_cons]
    exact RpAll.append h (RpAll.repl h n)
theorem RpAll.dropLast {K : PySem.W.Frag} {H : Hp} {vs : List V} {ds : List PyData} (h : RpAll K H vs ds) : RpAll K H vs.dropLast ds.dropLast := by
  rw [List.dropLast_eq_take, List.dropLast_eq_take, RpAll.length h]
  exact RpAll.take _ h

/-! ### the relation to the layer's heap -/
section
variable (K : PySem.W.Frag) (P : Program) (w : World)
/-- a dict whose keys are tuples of any depth, by its entries -/
def DicO (a : Addr) (xs : List (NestedKey × Addr × Value)) : HO := .ext fun h => (a == sysModules) = false ∧ ∃ o es ep, h.get? a = some o ∧ o.ExactDict ∧ o.data = .dict es ep ∧ es.toList = xs.map (entryOfKey (nestedKind P w))
def RV (B : List Addr) (M : MS) (H : Hp) (v : V) : DV → Prop
  | .dat d => Rp K (fz B M H) v d
  | .ref a => v = .ref a
  | .scr ns => ∃ a, v = .ref a ∧ SqL K (fz B M H) a (ns.map V.int)
def EntV (B : List Addr) (M : MS) (H : Hp) (p : Key × PyData) (q : Key × V) : Prop := p.1 = q.1 ∧ Rp K (fz B M H) q.2 p.2
def EntT (B : List Addr) (M : MS) (H : Hp) (p : NestedKey × PyData) (q : NestedKey × Addr × Value) : Prop := p.1 = q.1 ∧ Rp K (fz B M H) (.ref q.2.1) p.1.data ∧ p.1.depth ≤ 8 ∧ ∃ v, RelV v q.2.2 ∧ Rp K (fz B M H) v p.2
def EntF (B : List Addr) (M : MS) (H : Hp) (p : Str × DV) (q : Str × V) : Prop := p.1 = q.1 ∧ RV K B M H q.2 p.2
def RepO (B : List Addr) (M : MS) (H : Hp) (a : Addr) : MO → Prop
  | .lst ds => ∃ vs, H a = some (.lst vs) ∧ RpAll K (fz B M H) vs ds
  | .dicV kvs => ∃ kvs', H a = some (.dK kvs') ∧ Paired (EntV K B M H) kvs kvs'
  | .dicT kvs => ∃ xs, H a = some (DicO P w a xs) ∧ Paired (EntT K B M H) kvs xs ∧ (kvs.map (·.1)).Nodup
  | .obj C fs => ∃ dx fs', H a = some (.ins C dx fs') ∧ Paired (EntF K B M H) fs fs'
  | .lstR as => H a = some (.lst (as.map V.ref))
  | .dicF od xs kvs => H a = some (.frz od (DicO P w a xs)) ∧ Paired (EntT K B M H) kvs xs ∧ (kvs.map (·.1)).Nodup
structure OkM (B : List Addr) (M : MS) (H : Hp) : Prop where
  rep : ∀ a o, M a = some o → RepO K P w B M H a o
  hid : ∀ b, b ∈ B → M b = none ∧ ∃ u, H b = some u
def RepS (B : List Addr) (M : MS) (H : Hp) (σ : L2.St) (ρ : Rho) : Prop := σ.length = ρ.length ∧ ∀ (i : Nat) (d : DV), ρ[i]? = some (some d) → ∃ v, σ[i]? = some (some v) ∧ RV K B M H v d
end
/-- what is frozen stays; what is hidden too -/
structure Ext (B : List Addr) (M : MS) (H : Hp) (M' : MS) (H' : Hp) : Prop where
  same : Same (fz B M H) (fz B M' H')
  hid : ∀ b, b ∈ B → H' b = H b
theorem Ext.refl {B : List Addr} {M : MS} {H : Hp} : Ext B M H M H := ⟨Same.refl _, fun _ _ => rfl⟩
theorem Ext.trans {B : List Addr} {M M1 M2 : MS} {H H1 H2 : Hp} (a : Ext B M H M1 H1) (b : Ext B M1 H1 M2 H2) : Ext B M H M2 H2 := ⟨Same.trans a.same b.same, fun x h => (b.hid x h).trans (a.hid x h)⟩
section
variable {K : PySem.W.Frag} {P : Program} {w : World} {B : List Addr} {M M' : MS} {H H' : Hp} {v : V} {d : PyData} {x : DV} {σ : L2.St} {ρ : Rho} {a : Addr}
theorem Rp.ext (e : Ext B M H M' H') (h : Rp K (fz B M H) v d) : Rp K (fz B M' H') v d := Rp.same e.same d v h
theorem RpAll.ext {vs : List V} {ds : List PyData} (e : Ext B M H M' H') (h : RpAll K (fz B M H) vs ds) : RpAll K (fz B M' H') vs ds := RpAll.same e.same ds vs h
theorem RV.ext (e : Ext B M H M' H') (h : RV K B M H v x) : RV K B M' H' v x := by
  cases x with
  | dat d => exact Rp.ext e h
  | ref a => exact h
  | scr ns => obtain ⟨a, h1, h2⟩ := h; exact ⟨a, h1, Same.seq e.same h2⟩
theorem RepS.ext (e : Ext B M H M' H') (h : RepS K B M H σ ρ) : RepS K B M' H' σ ρ := ⟨h.1, fun i d q => let ⟨v, a, b⟩ := h.2 i d q; ⟨v, a, b.ext e⟩⟩
theorem Paired.mapQ {α β : Type} {F G : α → β → Prop} : ∀ {l₁ : List α} {l₂ : List β}, Paired F l₁ l₂ → (∀ a b, F a b → G a b) → Paired G l₁ l₂
  | _, _, .nil, _ => .nil
  | _, _, .cons r t, f => .cons (f _ _ r) (Paired.mapQ t f)
theorem EntV.ext (e : Ext B M H M' H') {p q} (h : EntV K B M H p q) : EntV K B M' H' p q := ⟨h.1, Rp.ext e h.2⟩
theorem EntT.ext (e : Ext B M H M' H') {p q} (h : EntT K B M H p q) : EntT K B M' H' p q := ⟨h.1, Rp.ext e h.2.1, h.2.2.1, let ⟨v, a, b⟩ := h.2.2.2; ⟨v, a, Rp.ext e b⟩⟩
theorem EntF.ext (e : Ext B M H M' H') {p q} (h : EntF K B M H p q) : EntF K B M' H' p q := ⟨h.1, RV.ext e h.2⟩
/-- what is owned at a stays where its object stays -/
theorem RepO.ext (e : Ext B M H M' H') {o : MO} (ha : ∀ u, H a = some u → H' a = some u) (h : RepO K P w B M H a o) : RepO K P w B M' H' a o := by
  cases o with
  | lst ds => obtain ⟨vs, h1, h2⟩ := h; exact ⟨vs, ha _ h1, RpAll.ext e h2⟩
  | dicV kvs => obtain ⟨vs, h1, h2⟩ := h; exact ⟨vs, ha _ h1, Paired.mapQ h2 fun _ _ => EntV.ext e⟩
  | dicT kvs => obtain ⟨vs, h1, h2, h3⟩ := h; exact ⟨vs, ha _ h1, Paired.mapQ h2 fun _ _ => EntT.ext e, h3⟩
  | obj C fs => obtain ⟨dx, vs, h1, h2⟩ := h; exact ⟨dx, vs, ha _ h1, Paired.mapQ h2 fun _ _ => EntF.ext e⟩
  | lstR as => exact ha _ h
  | dicF od xs kvs => obtain ⟨h1, h2, h3⟩ := h; exact ⟨ha _ h1, Paired.mapQ h2 fun _ _ => EntT.ext e, h3⟩
theorem OkM.fresh (ok : OkM K P w B M H) (h : H a = none) : M a = none := by
  cases q : M a with
  | none => rfl
  | some o =>
    have := ok.rep a o q
    cases o with
    | lst ds => obtain ⟨vs, h1, _⟩ := this; rw [h] at h1; cases h1
    | dicV kvs => obtain ⟨vs, h1, _⟩ := this; rw [h] at h1; cases h1
    | dicT kvs => obtain ⟨vs, h1, _⟩ := this; rw [h] at h1; cases h1
    | obj C fs => obtain ⟨dx, vs, h1, _⟩ := this; rw [h] at h1; cases h1
    | lstR as =>
      have h1 : H a = some (.lst (as.map V.ref)) := this
      rw [h] at h1; cases h1
    | dicF od xs kvs => obtain ⟨h1, _⟩ := this; rw [h] at h1; cases h1
theorem OkM.at (ok : OkM K P w B M H) {o : MO} (h : M a = some o) : ∃ u, H a = some u := by
  cases q : H a with
  | none => rw [ok.fresh q] at h; cases h
  | some u => exact ⟨u, rfl⟩
theorem OkM.out (ok : OkM K P w B M H) (h : H a = none) : a ∉ B := fun z => by
  obtain ⟨_, u, e⟩ := ok.hid a z
  rw [h] at e; cases e
theorem OkM.outM (ok : OkM K P w B M H) {o : MO} (h : M a = some o) : a ∉ B := fun z => by
  rw [(ok.hid a z).1] at h; cases h
theorem fz_new (ok : OkM K P w B M H) {o : HO} (h : H a = none) : fz B M (upd H a o) a = some o := fz_mk (ok.fresh h) (ok.out h) upd_same
/-- a new frozen object -/
theorem ext_new (ok : OkM K P w B M H) {o : HO} (h : H a = none) : Ext B M H M (upd H a o) := ⟨fun b u q => by
  obtain ⟨q1, q2⟩ := fz_some q
  exact fz_mk q1 (fz_out q) (by rw [upd_ne (ne_of_none q2 h)]; exact q2), fun b hb => upd_ne fun z => ok.out h (z ▸ hb)⟩
theorem hid_new (ok : OkM K P w B M H) {o : HO} (h : H a = none) : ∀ b, b ∈ B → M b = none ∧ ∃ u, upd H a o b = some u := fun b hb => ⟨(ok.hid b hb).1, by rw [upd_ne (show b ≠ a from fun z => ok.out h (z ▸ hb))]; exact (ok.hid b hb).2⟩
theorem ok_new (ok : OkM K P w B M H) {o : HO} (h : H a = none) : OkM K P w B M (upd H a o) := ⟨fun b u q => (ok.rep b u q).ext (ext_new ok h) fun z e => by rw [upd_ne (ne_of_none e h)]; exact e, hid_new ok h⟩
/-- a new owned object -/
theorem ext_newO (ok : OkM K P w B M H) {o : HO} {u : MO} (h : H a = none) : Ext B M H (setM M a u) (upd H a o) := ⟨fun b z q => by
  obtain ⟨q1, q2⟩ := fz_some q
  have n := ne_of_none q2 h
  exact fz_mk (by rw [setM_ne n]; exact q1) (fz_out q) (by rw [upd_ne n]; exact q2), fun b hb => upd_ne fun z => ok.out h (z ▸ hb)⟩
theorem ok_newO (ok : OkM K P w B M H) {o : HO} {u : MO} (h : H a = none) (r : RepO K P w B (setM M a u) (upd H a o) a u) : OkM K P w B (setM M a u) (upd H a o) := ⟨fun b z q => by
  by_cases n : b = a
  · subst n; rw [setM_same] at q; cases q; exact r
  · rw [setM_ne n] at q
    exact (ok.rep b z q).ext (ext_newO ok h) fun z e => by rw [upd_ne (ne_of_none e h)]; exact e,
  fun b hb => ⟨by rw [setM_ne (show b ≠ a from fun z => ok.out h (z ▸ hb))]; exact (ok.hid b hb).1, (hid_new ok h b hb).2⟩⟩
/-- an owned object written -/
theorem fz_write {o : HO} {u u' : MO} (hm : M a = some u') : fz B (setM M a u) (upd H a o) = fz B M H := by
  funext b
  unfold fz
  by_cases n : b = a
  · subst n; rw [setM_same, hm]; rfl
  · rw [setM_ne n, upd_ne n]
theorem ext_write (ok : OkM K P w B M H) {o : HO} {u u' : MO} (hm : M a = some u') : Ext B M H (setM M a u) (upd H a o) := ⟨by rw [fz_write hm]; exact Same.refl _, fun b hb => upd_ne fun z => ok.outM hm (z ▸ hb)⟩
theorem ok_write (ok : OkM K P w B M H) {o : HO} {u u' : MO} (hm : M a = some u') (r : RepO K P w B (setM M a u) (upd H a o) a u) : OkM K P w B (setM M a u) (upd H a o) := ⟨fun b z q => by
  by_cases n : b = a
  · subst n; rw [setM_same] at q; cases q; exact r
  · rw [setM_ne n] at q
    exact (ok.rep b z q).ext (ext_write ok hm) fun z e => by rw [upd_ne n]; exact e,
  fun b hb => by
    have n : b ≠ a := fun z => ok.outM hm (z ▸ hb)
    rw [setM_ne n, upd_ne n]; exact ok.hid b hb⟩
/-- something owned is given up: it is frozen from then on -/
def Sub (M' M : MS) : Prop := ∀ a o, M' a = some o → M a = some o
theorem Sub.refl (M : MS) : Sub M M := fun _ _ h => h
theorem sub_none (s : Sub M' M) (h : M a = none) : M' a = none := by
  cases q : M' a with
  | none => rfl
  | some x => rw [s a x q] at h; cases h
theorem ext_sub (s : Sub M' M) : Ext B M H M' H := ⟨fun b o h => by
  obtain ⟨h1, h2⟩ := fz_some h
  exact fz_mk (sub_none s h1) (fz_out h) h2, fun _ _ => rfl⟩
theorem ok_sub (s : Sub M' M) (ok : OkM K P w B M H) : OkM K P w B M' H := ⟨fun b z q => (ok.rep b z (s b z q)).ext (ext_sub s) fun _ e => e, fun b hb => ⟨sub_none s (ok.hid b hb).1, (ok.hid b hb).2⟩⟩
end

/-! ### what may be read of a value -/
def ownL (M : MS) (a : Addr) : Option (List PyData) := match M a with
  | some (.lst ds) => some ds
  | _ => none
theorem ownL_some {M : MS} {a : Addr} {ds : List PyData} (h : ownL M a = some ds) : M a = some (.lst ds) := by
  unfold ownL at h
  split at h
  · rename_i q; cases h; exact q
  · cases h
theorem ownL_mk {M : MS} {a : Addr} {ds : List PyData} (h : M a = some (.lst ds)) : ownL M a = some ds := by
  unfold ownL; rw [h]
def view (M : MS) : DV → Option PyData
  | .dat d => some (norm d)
  | .ref a => (ownL M a).map PyData.list
  | .scr ns => some (.list (ns.map PyData.int))
theorem dpAll_ints {K : PySem.W.Frag} {H : Hp} : ∀ ns : List Int, DpAll K H (ns.map V.int) (ns.map PyData.int)
  | [] => .nil
  | n :: ns => .cons (.int n) (dpAll_ints ns)
theorem rpAll_ints {K : PySem.W.Frag} {H : Hp} : ∀ ns : List Int, RpAll K H (ns.map V.int) (ns.map PyData.int)
  | [] => .nil
  | n :: ns => .cons (.int n) (rpAll_ints ns)
theorem Rp.norm {K : PySem.W.Frag} {H : Hp} {v : V} {d : PyData} (r : Rp K H v d) : Rp K H v (Kf.norm d) := by
  cases r with
  | ord s n => exact .tup (.inl (.inr ⟨_, s⟩)) (rpAll_ints _)
  | non => exact .non
  | bl b => exact .bl b
  | int i => exact .int i
  | str x => exact .str x
  | lst a b => exact .lst a b
  | tup a b => exact .tup a b
theorem view_dp {K : PySem.W.Frag} {P : Program} {w : World} {B : List Addr} {M : MS} {H : Hp} {v : V} {x : DV} {d : PyData} (ok : OkM K P w B M H) (r : RV K B M H v x) (e : view M x = some d) (n : noDict d = true) : Dp K H v d := by
  cases x with
  | dat d' => cases e; exact Rp.dp _ _ n (Rp.un (Rp.norm r))
  | ref a =>
    cases r
    obtain ⟨ds, q, rfl⟩ := Option.map_eq_some_iff.mp (show (ownL M a).map PyData.list = some d from e)
    obtain ⟨vs, h1, h2⟩ := ok.rep _ _ (ownL_some q)
    exact .lst (SqL.of h1) (RpAll.dp _ _ (by rw [noDict] at n; exact n) (RpAll.un h2))
  | scr ns =>
    cases e
    obtain ⟨a, rfl, h⟩ := r
    exact .lst (Same.seq fz_same h) (dpAll_ints ns)
/-- the value's outside -/
def Shp (K : PySem.W.Frag) (H : Hp) (v : V) : PyData → Prop
  | .none => v = .non
  | .bool b => v = .bl b
  | .int i => v = .int i
  | .str x => v = .str x
  | .list ds => ∃ a vs, v = .ref a ∧ SqL K H a vs ∧ vs.length = ds.length
  | .tuple ds => ∃ a vs, v = .ref a ∧ SqT K H a vs ∧ vs.length = ds.length
  | .dict _ => ∃ a, v = .ref a
theorem Rp.shp {K : PySem.W.Frag} {H : Hp} {v : V} {d : PyData} (r : Rp K H v d) : Shp K H v d := by
  cases r with
  | ord s n => exact ⟨_, rfl⟩
  | non => rfl
  | bl b => rfl
  | int i => rfl
  | str x => rfl
  | lst a b => exact ⟨_, _, rfl, SqL.of a, RpAll.length b⟩
  | tup a b => exact ⟨_, _, rfl, a, RpAll.length b⟩
theorem view_shp {K : PySem.W.Frag} {P : Program} {w : World} {B : List Addr} {M : MS} {H : Hp} {v : V} {x : DV} {d : PyData} (ok : OkM K P w B M H) (r : RV K B M H v x) (e : view M x = some d) : Shp K H v d := by
  cases x with
  | dat d' => cases e; exact Rp.shp (Rp.un (Rp.norm r))
  | ref a =>
    cases r
    obtain ⟨ds, q, rfl⟩ := Option.map_eq_some_iff.mp (show (ownL M a).map PyData.list = some d from e)
    obtain ⟨vs, h1, h2⟩ := ok.rep _ _ (ownL_some q)
    exact ⟨a, vs, rfl, SqL.of h1, RpAll.length h2⟩
  | scr ns =>
    cases e
    obtain ⟨a, rfl, h⟩ := r
    exact ⟨a, _, rfl, Same.seq fz_same h, by simp⟩
def listOf : PyData → Option (List PyData)
  | .list ds => some ds
  | _ => none
/-- the list's place and items, these frozen -/
def lview (M : MS) : DV → Option (List PyData)
  | .dat d => listOf d
  | .ref a => ownL M a
  | .scr _ => none
theorem lview_lst {K : PySem.W.Frag} {P : Program} {w : World} {B : List Addr} {M : MS} {H : Hp} {v : V} {x : DV} {ds : List PyData} (ok : OkM K P w B M H) (r : RV K B M H v x) (e : lview M x = some ds) : ∃ a vs, v = .ref a ∧ H a = some (.lst vs) ∧ RpAll K (fz B M H) vs ds := by
  cases x with
  | dat d' =>
    cases d' with
    | list es =>
      cases e
      cases r with
      | lst s q => exact ⟨_, _, rfl, fz_same _ _ s, q⟩
    | _ => cases e
  | ref a =>
    cases r
    obtain ⟨vs, h1, h2⟩ := ok.rep _ _ (ownL_some e)
    exact ⟨_, vs, rfl, h1, h2⟩
  | scr ns => cases e

/-! ### readings -/
section
variable (X : Cx)
def Post (B : List Addr) (M : MS) (H : Hp) (Q : VK) : KD := fun d M' => ∀ v H', Ext B M H M' H' → OkM X.K X.prog X.w B M' H' → RV X.K B M' H' v d → Q v H'
def liftE (t : TD) : TE := fun σ H Q => ∃ B ρ M k, OkM X.K X.prog X.w B M H ∧ RepS X.K B M H σ ρ ∧ t ρ M k ∧ ∀ d M', k d M' → Post X B M H Q d M'
def liftT (t : TDb) : TT := fun σ H Q => ∃ B ρ M k, OkM X.K X.prog X.w B M H ∧ RepS X.K B M H σ ρ ∧ t ρ M k ∧ ∀ b M', k b M' → ∀ H', Ext B M H M' H' → OkM X.K X.prog X.w B M' H' → Q b H'
def RVs (K : PySem.W.Frag) (B : List Addr) (M : MS) (H : Hp) : List V → List DV → Prop := Paired (RV K B M H)
def liftA (t : TDa) : TA := fun σ H Q => ∃ B ρ M k, OkM X.K X.prog X.w B M H ∧ RepS X.K B M H σ ρ ∧ t ρ M k ∧ ∀ ds M', k ds M' → ∀ vs H', Ext B M H M' H' → OkM X.K X.prog X.w B M' H' → RVs X.K B M' H' vs ds → Q vs H'
structure QE (e : Expr) (t : TD) : Prop where
  pe : PE X e (liftE X t)
structure QT (e : Expr) (t : TDb) : Prop where
  pt : PT X e (liftT X t)
structure QA (es : List Expr) (t : TDa) : Prop where
  pa : PA X es (liftA X t)
/-- what is wanted behind a statement -/
structure DEnds where
  nx : Rho → MS → Prop
  rt : KD
  bk : Rho → MS → Prop := fun _ _ => False
  ct : Rho → MS → Prop := fun _ _ => False
abbrev TDs := DEnds → Rho → MS → Prop
def PostS (B : List Addr) (M : MS) (H : Hp) (k : Rho → MS → Prop) (Q : L2.St → Hp → Prop) : Prop := ∀ ρ' M' σ' H', k ρ' M' → Ext B M H M' H' → OkM X.K X.prog X.w B M' H' → RepS X.K B M' H' σ' ρ' → Q σ' H'
structure EndsOk (B : List Addr) (M : MS) (H : Hp) (De : DEnds) (D : Ends) : Prop where
  nx : PostS X B M H De.nx D.nx
  rt : ∀ d M', De.rt d M' → Post X B M H D.rt d M'
  bk : PostS X B M H De.bk D.bk
  ct : PostS X B M H De.ct D.ct
def liftS (t : TDs) : TS := fun D σ H => ∃ B ρ M De, OkM X.K X.prog X.w B M H ∧ RepS X.K B M H σ ρ ∧ t De ρ M ∧ EndsOk X B M H De D
structure QS (st : Stmt) (t : TDs) : Prop where
  ps : PS X st (liftS X t)
structure QSs (st : List Stmt) (t : TDs) : Prop where
  pss : PSs X st (liftS X t)
end
section
variable {X : Cx}
theorem PE.weak {e : Expr} {t t' : TE} (h : PE X e t) (i : ∀ σ H Q, t' σ H Q → t σ H Q) : PE X e t' := ⟨fun pins s σ H Q I q => h.run pins s σ H Q I (i σ H Q q)⟩
theorem PT.weak {e : Expr} {t t' : TT} (h : PT X e t) (i : ∀ σ H Q, t' σ H Q → t σ H Q) : PT X e t' := ⟨fun pins s σ H Q I q => h.run pins s σ H Q I (i σ H Q q)⟩
theorem PW.weak {e : Expr} {t t' : TT} (h : PW X e t) (i : ∀ σ H Q, t' σ H Q → t σ H Q) : PW X e t' := ⟨fun wh pins s σ H Q I q => h.run wh pins s σ H Q I (i σ H Q q)⟩
theorem PA.weak {e : List Expr} {t t' : TA} (h : PA X e t) (i : ∀ σ H Q, t' σ H Q → t σ H Q) : PA X e t' := ⟨fun pos pins s σ H Q I q => h.run pos pins s σ H Q I (i σ H Q q)⟩
theorem PS.weak {e : Stmt} {t t' : TS} (h : PS X e t) (i : ∀ D σ H, t' D σ H → t D σ H) : PS X e t' := ⟨fun pins s σ H D I q => h.run pins s σ H D I (i D σ H q)⟩
theorem PSs.weak {e : List Stmt} {t t' : TS} (h : PSs X e t) (i : ∀ D σ H, t' D σ H → t D σ H) : PSs X e t' := ⟨fun pins s σ H D I q => h.run pins s σ H D I (i D σ H q)⟩
theorem Post.of {B : List Addr} {M M1 : MS} {H H1 : Hp} {Q : VK} {d : DV} {M' : MS} (e : Ext B M H M1 H1) (p : Post X B M H Q d M') : Post X B M1 H1 Q d M' := fun v H' x o r => p v H' (e.trans x) o r
theorem PostS.of {B : List Addr} {M M1 : MS} {H H1 : Hp} {k : Rho → MS → Prop} {Q : L2.St → Hp → Prop} (e : Ext B M H M1 H1) (p : PostS X B M H k Q) : PostS X B M1 H1 k Q := fun ρ' M' σ' H' q x o r => p ρ' M' σ' H' q (e.trans x) o r
theorem EndsOk.of {B : List Addr} {M M1 : MS} {H H1 : Hp} {De : DEnds} {D : Ends} (e : Ext B M H M1 H1) (p : EndsOk X B M H De D) : EndsOk X B M1 H1 De D := ⟨p.nx.of e, fun d M' q => (p.rt d M' q).of e, p.bk.of e, p.ct.of e⟩

/-- THE STEP: one expression, then something that is known of its value -/
theorem bindE {ta : TD} {σ : L2.St} {H : Hp} {Q1 : VK} {ρ : Rho} {B : List Addr} {M : MS} {k1 : KD} (ok : OkM X.K X.prog X.w B M H) (rs : RepS X.K B M H σ ρ) (h : ta ρ M k1)
    (go : ∀ x M1 v H1, k1 x M1 → Ext B M H M1 H1 → OkM X.K X.prog X.w B M1 H1 → RV X.K B M1 H1 v x → RepS X.K B M1 H1 σ ρ → Q1 v H1) : liftE X ta σ H Q1 :=
  ⟨B, ρ, M, k1, ok, rs, h, fun x M1 q v H1 e o r => go x M1 v H1 q e o r (rs.ext e)⟩
end
end Kf

/-! Kf, expressions. -/
namespace Kf
open PySem PySem.Spec PyProof.Rows L2

abbrev P2 := MS → DV → DV → (DV → Prop) → Prop
abbrev P1 := MS → DV → (DV → Prop) → Prop
abbrev PN := MS → List DV → (DV → Prop) → Prop
section
variable (X : Cx)
/-- what is wanted of a value that an operation has made: nothing owned has changed -/
def Made (B : List Addr) (M : MS) (H : Hp) (q : DV → Prop) (Q : VK) : Prop := ∀ z, q z → ∀ v' H', Ext B M H M H' → OkM X.K X.prog X.w B M H' → RV X.K B M H' v' z → Q v' H'
def lift2 (r : P2) : R2 := fun v u H Q => ∃ B M x y q, OkM X.K X.prog X.w B M H ∧ RV X.K B M H v x ∧ RV X.K B M H u y ∧ r M x y q ∧ Made X B M H q Q
def QOp (f : Value → Value → Sem Value) (r : P2) : Prop := OpR X f (lift2 X r)
def lift1 (r : P1) : V → Hp → VK → Prop := fun v H Q => ∃ B M x q, OkM X.K X.prog X.w B M H ∧ RV X.K B M H v x ∧ r M x q ∧ Made X B M H q Q
def QUn (f : Value → Sem Value) (r : P1) : Prop := UnR X f (lift1 X r)
def QIx (r : P2) : Prop := IxR X (lift2 X r)
def liftN (r : PN) : List V → Hp → VK → Prop := fun vs H Q => ∃ B M xs q, OkM X.K X.prog X.w B M H ∧ RVs X.K B M H vs xs ∧ r M xs q ∧ Made X B M H q Q
def QCall (f : Value) (r : PN) : Prop := CallR X f (liftN X r)
end
section
variable {X : Cx}
theorem Made.keep {B : List Addr} {M : MS} {H : Hp} {q : DV → Prop} {Q : VK} (m : Made X B M H q Q) (ok : OkM X.K X.prog X.w B M H) {z : DV} {v : V} (h : q z) (r : RV X.K B M H v z) : Q v H := m z h v H Ext.refl ok r
theorem Made.new {B : List Addr} {M : MS} {H : Hp} {q : DV → Prop} {Q : VK} (m : Made X B M H q Q) (ok : OkM X.K X.prog X.w B M H) {z : DV} {p : Addr} {o : HO} (hp : H p = none) (h : q z) (r : RV X.K B M (upd H p o) (.ref p) z) : Q (.ref p) (upd H p o) := m z h _ _ (ext_new ok hp) (ok_new ok hp) r
theorem Made.tup {B : List Addr} {M : MS} {H : Hp} {q : DV → Prop} {Q : VK} (m : Made X B M H q Q) (ok : OkM X.K X.prog X.w B M H) {vs : List V} {ds : List PyData} {p : Addr} (hp : H p = none) (h : q (.dat (.tuple ds))) (r : RpAll X.K (fz B M H) vs ds) : Q (.ref p) (upd H p (.tup vs)) :=
  m.new ok hp h (.tup (SqT.of (fz_new ok hp)) (RpAll.ext (ext_new ok hp) r))
theorem Made.lst {B : List Addr} {M : MS} {H : Hp} {q : DV → Prop} {Q : VK} (m : Made X B M H q Q) (ok : OkM X.K X.prog X.w B M H) {vs : List V} {ds : List PyData} {p : Addr} (hp : H p = none) (h : q (.dat (.list ds))) (r : RpAll X.K (fz B M H) vs ds) : Q (.ref p) (upd H p (.lst vs)) :=
  m.new ok hp h (.lst (fz_new ok hp) (RpAll.ext (ext_new ok hp) r))

/-! ### names, constants -/
def dVar (i : Nat) : TD := fun ρ M k => ∃ d, ρ[i]? = some (some d) ∧ k d M
theorem qv (i : Nat) {x : Str} {pos : Pos} (hN : X.N[i]? = some x := by rfl) (hv : Vis X.env.scope x := by first | exact Or.inl rfl | exact Or.inr (Or.inl rfl) | exact Or.inr (Or.inr rfl)) (hd : (x == ("__debug__" : Str)) = false := by decide)
    (hcd : (x == ("__classdict__" : Str)) = false := by decide) : QE X (.Name x pos) (dVar i) :=
  ⟨PE.weak (pe_var hN hv hd hcd) fun σ H Q ⟨B, ρ, M, k, ok, rs, ⟨d, e, q⟩, f⟩ => let ⟨v, e', r⟩ := rs.2 i d e; ⟨v, e', f d M q v H Ext.refl ok r⟩⟩
def dC (d : PyData) : TD := fun _ M k => k (.dat d) M
theorem q_c {e : Expr} {v : V} {d : PyData} (h : PE X e (tC v)) (r : ∀ B M H, Rp X.K (fz B M H) v d) : QE X e (dC d) := ⟨PE.weak h fun σ H Q ⟨B, ρ, M, k, ok, rs, q, f⟩ => f _ M q v H Ext.refl ok (r B M H)⟩
theorem q_int {i j pos} : QE X (.Constant (.int i) j pos) (dC (.int i)) := q_c pe_int fun _ _ _ => .int i
theorem q_str {x j pos} : QE X (.Constant (.str x) j pos) (dC (.str x)) := q_c pe_str fun _ _ _ => .str x
theorem q_bl {x j pos} : QE X (.Constant (.bool x) j pos) (dC (.bool x)) := q_c pe_bl fun _ _ _ => .bl x
theorem q_non {j pos} : QE X (.Constant .none j pos) (dC .none) := q_c pe_non fun _ _ _ => .non
theorem q_gint {x : Str} {i : Int} {t : Tok} {pos : Pos} (hg : Gl X x) (hm : X.mg x = some (.int i t)) (hd : (x == ("__debug__" : Str)) = false := by decide) : QE X (.Name x pos) (dC (.int i)) := q_c (v := .int i) (pe_glob hg hm ⟨t, rfl⟩ hd) fun _ _ _ => .int i
theorem q_gstr {x y : Str} {t : Tok} {pos : Pos} (hg : Gl X x) (hm : X.mg x = some (.str y t)) (hd : (x == ("__debug__" : Str)) = false := by decide) : QE X (.Name x pos) (dC (.str y)) := q_c (v := .str y) (pe_glob hg hm ⟨t, rfl⟩ hd) fun _ _ _ => .str y

/-! ### operators -/
def dOp (r : P2) (ta tb : TD) : TD := fun ρ M k => ta ρ M fun x M1 => tb ρ M1 fun y M2 => r M2 x y fun z => k z M2
theorem lift_op {r : P2} {ta tb : TD} {σ : L2.St} {H : Hp} {Q : VK} (h : liftE X (dOp r ta tb) σ H Q) : tOp (lift2 X r) (liftE X ta) (liftE X tb) σ H Q := by
  obtain ⟨B, ρ, M, k, ok, rs, t, f⟩ := h
  refine bindE ok rs t fun x M1 v H1 q e o rx rs1 => ?_
  refine bindE o rs1 q fun y M2 u H2 q2 e2 o2 ry rs2 => ?_
  exact ⟨B, M2, x, y, _, o2, RV.ext e2 rx, ry, q2, fun z hz v' H' ex o' r' => f z M2 hz v' H' (e.trans (e2.trans ex)) o' r'⟩
theorem q_op {op : Operator} {r : P2} {a b : Expr} {ta tb : TD} {pos : Pos} (ho : QOp X (binaryOp op) r) (ha : QE X a ta) (hb : QE X b tb) : QE X (.BinOp a op b pos) (dOp r ta tb) := ⟨PE.weak (pe_op ho ha.pe hb.pe) fun σ H Q h => lift_op h⟩
theorem q_cmp {op : CmpOp} {r : P2} {a b : Expr} {ta tb : TD} {pos : Pos} (ho : QOp X (compareOp op) r) (ha : QE X a ta) (hb : QE X b tb) (hm : behindInMarks op b = false := by first | exact nomark _ | rfl) : QE X (.Compare a [op] [b] pos) (dOp r ta tb) := ⟨PE.weak (pe_cmpR ho ha.pe hb.pe hm) fun σ H Q h => lift_op h⟩
def dB (t : TD) : TDb := fun ρ M k => t ρ M fun x M1 => ∃ b, x = .dat (.bool b) ∧ k b M1
theorem lift_test {t : TD} {σ : L2.St} {H : Hp} {Q : Bool → Hp → Prop} (h : liftT X (dB t) σ H Q) : liftE X t σ H fun x H' => ∃ k, x = .bl k ∧ Q k H' := by
  obtain ⟨B, ρ, M, k, ok, rs, t, f⟩ := h
  refine bindE ok rs t fun x M1 v H1 q e o rx rs1 => ?_
  obtain ⟨b, rfl, q⟩ := q
  cases rx
  exact ⟨b, rfl, f b M1 q H1 e o⟩
theorem qt_cmp {op : CmpOp} {r : P2} {a b : Expr} {ta tb : TD} {pos : Pos} (ho : QOp X (compareOp op) r) (ha : QE X a ta) (hb : QE X b tb) (hm : behindInMarks op b = false := by first | exact nomark _ | rfl) : QT X (.Compare a [op] [b] pos) (dB (dOp r ta tb)) := by
  refine ⟨PT.weak (pt_cmpR ho ha.pe hb.pe hm) fun σ H Q h => ?_⟩
  have h2 := lift_test h
  exact lift_op h2
theorem qt_val {e : Expr} {t : TD} (h : QE X e t) (he : ∀ whole, isTrue e X.env whole = (do let v ← whole; standAt e.pos; holding [v] (truthy v)) := by intro _; rfl) : QT X e (dB t) :=
  ⟨PT.weak (pt_val h.pe he) fun σ H Q q => lift_test q⟩
/-- a op b op' c -/
def dChain (r r' : P2) (ta tb tc : TD) : TD := fun ρ M k => ta ρ M fun x M1 => tb ρ M1 fun y M2 => r M2 x y fun z => ∃ c, z = .dat (.bool c) ∧ if c = true then tc ρ M2 fun w M3 => r' M3 y w fun u => k u M3 else k (.dat (.bool false)) M2
theorem lift_chain {r r' : P2} {ta tb tc : TD} {σ : L2.St} {H : Hp} {Q : VK} (h : liftE X (dChain r r' ta tb tc) σ H Q) : tChain (lift2 X r) (lift2 X r') (liftE X ta) (liftE X tb) (liftE X tc) σ H Q := by
  obtain ⟨B, ρ, M, k, ok, rs, t, f⟩ := h
  refine bindE ok rs t fun x M1 v H1 q e o rx rs1 => ?_
  refine bindE o rs1 q fun y M2 u H2 q2 e2 o2 ry rs2 => ?_
  refine ⟨B, M2, x, y, _, o2, RV.ext e2 rx, ry, q2, fun z hz v' H' ex o' r' => ?_⟩
  obtain ⟨c, rfl, q3⟩ := hz
  cases r'
  refine ⟨c, rfl, ?_⟩
  cases c with
  | false => exact f _ M2 q3 _ _ (e.trans (e2.trans ex)) o' (.bl false)
  | true =>
    refine bindE o' (rs2.ext ex) q3 fun y' M3 u' H3 q4 e3 o3 rz rs3 => ?_
    exact ⟨B, M3, y, y', _, o3, RV.ext (Ext.trans ex e3) ry, rz, q4, fun z' hz' v2 H4 ex' o4 r4 => f z' M3 hz' v2 H4 (e.trans (e2.trans (ex.trans (e3.trans ex')))) o4 r4⟩
theorem q_chain {op op' : CmpOp} {r r' : P2} {a b c : Expr} {ta tb tc : TD} {pos : Pos} (ho : QOp X (compareOp op) r) (ho' : QOp X (compareOp op') r') (ha : QE X a ta) (hb : QE X b tb) (hc : QE X c tc) (hm : lastMarks [op, op'] [b, c] = false := by with_unfolding_all rfl) : QE X (.Compare a [op, op'] [b, c] pos) (dChain r r' ta tb tc) := ⟨PE.weak (pe_chain ho ho' ha.pe hb.pe hc.pe hm) fun σ H Q h => lift_chain h⟩
theorem qt_chain {op op' : CmpOp} {r r' : P2} {a b c : Expr} {ta tb tc : TD} {pos : Pos} (ho : QOp X (compareOp op) r) (ho' : QOp X (compareOp op') r') (ha : QE X a ta) (hb : QE X b tb) (hc : QE X c tc) (hm : lastMarks [op, op'] [b, c] = false := by with_unfolding_all rfl) : QT X (.Compare a [op, op'] [b, c] pos) (dB (dChain r r' ta tb tc)) :=
  ⟨PT.weak (pt_chain ho ho' ha.pe hb.pe hc.pe hm) fun σ H Q h => lift_chain (lift_test h)⟩
def dUn (r : P1) (ta : TD) : TD := fun ρ M k => ta ρ M fun x M1 => r M1 x fun z => k z M1
theorem q_un {op : UnaryOp} {r : P1} {a : Expr} {ta : TD} {pos : Pos} (ho : QUn X (unaryOp op) r) (ha : QE X a ta) : QE X (.UnaryOp op a pos) (dUn r ta) := by
  refine ⟨PE.weak (pe_un ho ha.pe) fun σ H Q h => ?_⟩
  obtain ⟨B, ρ, M, k, ok, rs, t, f⟩ := h
  refine bindE ok rs t fun x M1 v H1 q e o rx rs1 => ?_
  exact ⟨B, M1, x, _, o, rx, q, fun z hz v' H' ex o' r' => f z M1 hz v' H' (e.trans ex) o' r'⟩

/-! ### and, or, not, if -/
def dAnd (t u : TDb) : TDb := fun ρ M k => t ρ M fun c M1 => if c = true then u ρ M1 k else k false M1
def dOr (t u : TDb) : TDb := fun ρ M k => t ρ M fun c M1 => if c = true then k true M1 else u ρ M1 k
def dNot (t : TDb) : TDb := fun ρ M k => t ρ M fun c M1 => k (!c) M1
structure QW (X : Cx) (e : Expr) (t : TDb) : Prop where
  pw : PW X e (liftT X t)
theorem bindT {ta : TDb} {σ : L2.St} {H : Hp} {Q1 : Bool → Hp → Prop} {ρ : Rho} {B : List Addr} {M : MS} {k1 : Bool → MS → Prop} (ok : OkM X.K X.prog X.w B M H) (rs : RepS X.K B M H σ ρ) (h : ta ρ M k1)
    (go : ∀ b M1 H1, k1 b M1 → Ext B M H M1 H1 → OkM X.K X.prog X.w B M1 H1 → RepS X.K B M1 H1 σ ρ → Q1 b H1) : liftT X ta σ H Q1 :=
  ⟨B, ρ, M, k1, ok, rs, h, fun b M1 q H1 e o => go b M1 H1 q e o (rs.ext e)⟩
variable {a b : Expr} {rest : List Expr} {pos : Pos} {tA tB' : TDb} {ta tb : TD}
theorem qw_and1 (ha : QT X a tA) : QW X (.BoolOp .And [a] pos) tA := ⟨pw_and1 ha.pt⟩
theorem qw_or1 (ha : QT X a tA) : QW X (.BoolOp .Or [a] pos) tA := ⟨pw_or1 ha.pt⟩
theorem qw_and (ha : QT X a tA) (hb : QW X (.BoolOp .And (b :: rest) pos) tB') : QW X (.BoolOp .And (a :: b :: rest) pos) (dAnd tA tB') := by
  refine ⟨PW.weak (pw_and ha.pt hb.pw) fun σ H Q h => ?_⟩
  obtain ⟨B, ρ, M, k, ok, rs, t, f⟩ := h
  refine bindT ok rs t fun c M1 H1 q e o rs1 => ?_
  cases c with
  | false => exact f _ M1 q _ e o
  | true => exact bindT o rs1 q fun c2 M2 H2 q2 e2 o2 _ => f _ M2 q2 _ (e.trans e2) o2
theorem qw_or (ha : QT X a tA) (hb : QW X (.BoolOp .Or (b :: rest) pos) tB') : QW X (.BoolOp .Or (a :: b :: rest) pos) (dOr tA tB') := by
  refine ⟨PW.weak (pw_or ha.pt hb.pw) fun σ H Q h => ?_⟩
  obtain ⟨B, ρ, M, k, ok, rs, t, f⟩ := h
  refine bindT ok rs t fun c M1 H1 q e o rs1 => ?_
  cases c with
  | true => exact f _ M1 q _ e o
  | false => exact bindT o rs1 q fun c2 M2 H2 q2 e2 o2 _ => f _ M2 q2 _ (e.trans e2) o2
theorem QW.qt {e : Expr} {t : TDb} (h : QW X e t) : QT X e t := ⟨h.pw.pt⟩
theorem qt_not (ha : QT X a tA) : QT X (.UnaryOp .Not a pos) (dNot tA) := by
  refine ⟨PT.weak (pt_not ha.pt) fun σ H Q h => ?_⟩
  obtain ⟨B, ρ, M, k, ok, rs, t, f⟩ := h
  exact bindT ok rs t fun c M1 H1 q e o rs1 => f _ M1 q _ e o
/-- .. as values, all bools -/
def dAndV (ta tb : TD) : TD := fun ρ M k => ta ρ M fun x M1 => ∃ c, x = .dat (.bool c) ∧ if c = true then tb ρ M1 k else k (.dat (.bool false)) M1
def dOrV (ta tb : TD) : TD := fun ρ M k => ta ρ M fun x M1 => ∃ c, x = .dat (.bool c) ∧ if c = true then k (.dat (.bool true)) M1 else tb ρ M1 k
def dNotV (ta : TD) : TD := fun ρ M k => ta ρ M fun x M1 => ∃ c, x = .dat (.bool c) ∧ k (.dat (.bool (!c))) M1
theorem q_one {op} (h : QE X a ta) : QE X (.BoolOp op [a] pos) ta := ⟨pe_one h.pe⟩
theorem q_and (ha : QE X a ta) (hb : QE X (.BoolOp .And (b :: rest) pos) tb) : QE X (.BoolOp .And (a :: b :: rest) pos) (dAndV ta tb) := by
  refine ⟨PE.weak (pe_and ha.pe hb.pe) fun σ H Q h => ?_⟩
  obtain ⟨B, ρ, M, k, ok, rs, t, f⟩ := h
  refine bindE ok rs t fun x M1 v H1 q e o rx rs1 => ?_
  obtain ⟨c, rfl, q⟩ := q
  cases rx
  refine ⟨c, rfl, ?_⟩
  cases c with
  | false => exact f _ M1 q _ _ e o (.bl false)
  | true => exact bindE o rs1 q fun c2 M2 v2 H2 q2 e2 o2 r2 _ => f _ M2 q2 _ _ (e.trans e2) o2 r2
theorem q_or (ha : QE X a ta) (hb : QE X (.BoolOp .Or (b :: rest) pos) tb) : QE X (.BoolOp .Or (a :: b :: rest) pos) (dOrV ta tb) := by
  refine ⟨PE.weak (pe_or ha.pe hb.pe) fun σ H Q h => ?_⟩
  obtain ⟨B, ρ, M, k, ok, rs, t, f⟩ := h
  refine bindE ok rs t fun x M1 v H1 q e o rx rs1 => ?_
  obtain ⟨c, rfl, q⟩ := q
  cases rx
  refine ⟨c, rfl, ?_⟩
  cases c with
  | true => exact f _ M1 q _ _ e o (.bl true)
  | false => exact bindE o rs1 q fun c2 M2 v2 H2 q2 e2 o2 r2 _ => f _ M2 q2 _ _ (e.trans e2) o2 r2
theorem q_not (ha : QE X a ta) : QE X (.UnaryOp .Not a pos) (dNotV ta) := by
  refine ⟨PE.weak (pe_not ha.pe) fun σ H Q h => ?_⟩
  obtain ⟨B, ρ, M, k, ok, rs, t, f⟩ := h
  refine bindE ok rs t fun x M1 v H1 q e o rx rs1 => ?_
  obtain ⟨c, rfl, q⟩ := q
  cases rx
  exact ⟨c, rfl, f _ M1 q _ _ e o (.bl (!c))⟩
def dIfE (t : TDb) (ta tb : TD) : TD := fun ρ M k => t ρ M fun c M1 => if c = true then ta ρ M1 k else tb ρ M1 k
theorem q_ifE {c : Expr} (hc : QT X c tA) (ha : QE X a ta) (hb : QE X b tb) : QE X (.IfExp c a b pos) (dIfE tA ta tb) := by
  refine ⟨PE.weak (pe_ifExp hc.pt ha.pe hb.pe) fun σ H Q h => ?_⟩
  obtain ⟨B, ρ, M, k, ok, rs, t, f⟩ := h
  refine bindT ok rs t fun c M1 H1 q e o rs1 => ?_
  cases c with
  | true => exact bindE o rs1 q fun c2 M2 v2 H2 q2 e2 o2 r2 _ => f _ M2 q2 _ _ (e.trans e2) o2 r2
  | false => exact bindE o rs1 q fun c2 M2 v2 H2 q2 e2 o2 r2 _ => f _ M2 q2 _ _ (e.trans e2) o2 r2

/-! ### argument lists, displays -/
def daNil : TDa := fun _ M k => k [] M
def daCons (ta : TD) (tr : TDa) : TDa := fun ρ M k => ta ρ M fun x M1 => tr ρ M1 fun xs M2 => k (x :: xs) M2
theorem qa_nil : QA X [] daNil := ⟨PA.weak pa_nil fun σ H Q ⟨B, ρ, M, k, ok, rs, t, f⟩ => f _ M t [] H Ext.refl ok .nil⟩
theorem bindA {ta : TDa} {σ : L2.St} {H : Hp} {Q1 : List V → Hp → Prop} {ρ : Rho} {B : List Addr} {M : MS} {k1 : List DV → MS → Prop} (ok : OkM X.K X.prog X.w B M H) (rs : RepS X.K B M H σ ρ) (h : ta ρ M k1)
    (go : ∀ xs M1 vs H1, k1 xs M1 → Ext B M H M1 H1 → OkM X.K X.prog X.w B M1 H1 → RVs X.K B M1 H1 vs xs → RepS X.K B M1 H1 σ ρ → Q1 vs H1) : liftA X ta σ H Q1 :=
  ⟨B, ρ, M, k1, ok, rs, h, fun b M1 q vs H1 e o r => go b M1 vs H1 q e o r (rs.ext e)⟩
theorem RVs.ext {K : PySem.W.Frag} {B : List Addr} {M M' : MS} {H H' : Hp} (e : Ext B M H M' H') {vs : List V} {xs : List DV} (h : RVs K B M H vs xs) : RVs K B M' H' vs xs := Paired.mapQ h fun _ _ => RV.ext e
theorem qa_cons {e : Expr} {es : List Expr} {t : TDa} (ha : QE X e ta) (hr : QA X es t) (hs : starEach (e :: es) X.env = (false, eval e X.env) :: starEach es X.env := by rfl) : QA X (e :: es) (daCons ta t) := by
  refine ⟨PA.weak (pa_cons ha.pe hr.pa hs) fun σ H Q h => ?_⟩
  obtain ⟨B, ρ, M, k, ok, rs, t, f⟩ := h
  refine bindE ok rs t fun x M1 v H1 q e o rx rs1 => ?_
  exact bindA o rs1 q fun xs M2 vs H2 q2 e2 o2 r2 rs2 => f _ M2 q2 _ _ (e.trans e2) o2 (.cons (RV.ext e2 rx) r2)
/-- all are data -/
def datas : List DV → Option (List PyData)
  | [] => some []
  | .dat d :: r => (datas r).map (d :: ·)
  | _ :: _ => none
theorem datas_rp {K : PySem.W.Frag} {B : List Addr} {M : MS} {H : Hp} : ∀ {vs : List V} {xs : List DV} {ds : List PyData}, RVs K B M H vs xs → datas xs = some ds → RpAll K (fz B M H) vs ds
  | _, _, _, .nil, e => by cases e; exact .nil
  | _, .dat d :: xs, ds, .cons a b, e => by
    obtain ⟨es, h, rfl⟩ := Option.map_eq_some_iff.mp (show (datas xs).map (d :: ·) = some ds from e)
    exact .cons a (datas_rp b h)
  | _, .ref _ :: _, _, .cons _ _, e => by cases e
  | _, .scr _ :: _, _, .cons _ _, e => by cases e
def dTup (t : TDa) : TD := fun ρ M k => t ρ M fun xs M1 => ∃ ds, datas xs = some ds ∧ ds.length ≤ sizeLine ∧ k (.dat (.tuple ds)) M1
def dLst (t : TDa) : TD := fun ρ M k => t ρ M fun xs M1 => ∃ ds, datas xs = some ds ∧ ds.length ≤ sizeLine ∧ k (.dat (.list ds)) M1
/-- a list that is owned -/
def dOwn (t : TDa) : TD := fun ρ M k => t ρ M fun xs M1 => ∃ ds, datas xs = some ds ∧ ds.length ≤ sizeLine ∧ ∀ a, M1 a = none → k (.ref a) (setM M1 a (.lst ds))
theorem q_tup {es : List Expr} {t : TDa} {x1} (h : QA X es t) : QE X (.Tuple es x1 pos) (dTup t) := by
  refine ⟨PE.weak (pe_tup h.pa) fun σ H Q h => ?_⟩
  obtain ⟨B, ρ, M, k, ok, rs, t, f⟩ := h
  refine bindA ok rs t fun xs M1 vs H1 q e o r rs1 => ?_
  obtain ⟨ds, h1, h2, h3⟩ := q
  have ra := datas_rp r h1
  refine ⟨by rw [RpAll.length ra]; exact h2, fun p hp => f _ M1 h3 _ _ (e.trans (ext_new o hp)) (ok_new o hp) (.tup (SqT.of (fz_new o hp)) (RpAll.ext (ext_new o hp) ra))⟩
theorem q_lst {es : List Expr} {t : TDa} (h : QA X es t) : QE X (.List es pos) (dLst t) := by
  refine ⟨PE.weak (pe_lst h.pa) fun σ H Q h => ?_⟩
  obtain ⟨B, ρ, M, k, ok, rs, t, f⟩ := h
  refine bindA ok rs t fun xs M1 vs H1 q e o r rs1 => ?_
  obtain ⟨ds, h1, h2, h3⟩ := q
  have ra := datas_rp r h1
  refine ⟨by rw [RpAll.length ra]; exact h2, fun p hp => f _ M1 h3 _ _ (e.trans (ext_new o hp)) (ok_new o hp) (.lst (fz_new o hp) (RpAll.ext (ext_new o hp) ra))⟩
theorem q_own {es : List Expr} {t : TDa} (h : QA X es t) : QE X (.List es pos) (dOwn t) := by
  refine ⟨PE.weak (pe_lst h.pa) fun σ H Q h => ?_⟩
  obtain ⟨B, ρ, M, k, ok, rs, t, f⟩ := h
  refine bindA ok rs t fun xs M1 vs H1 q e o r rs1 => ?_
  obtain ⟨ds, h1, h2, h3⟩ := q
  have ra := datas_rp r h1
  exact ⟨by rw [RpAll.length ra]; exact h2, fun p hp => f _ _ (h3 p (o.fresh hp)) _ _ (e.trans (ext_newO o hp)) (ok_newO o hp ⟨vs, upd_same, RpAll.ext (ext_newO o hp) ra⟩) rfl⟩
/-- {} -/
def dDicV : TD := fun ρ M k => ∀ a, M a = none → k (.ref a) (setM M a (.dicV []))
theorem q_dicV : QE X (.Dict [] [] pos) dDicV := by
  refine ⟨PE.weak pe_dnewK fun σ H Q h => ?_⟩
  obtain ⟨B, ρ, M, k, ok, rs, t, f⟩ := h
  exact fun p hp => f _ _ (t p (ok.fresh hp)) _ _ (ext_newO ok hp) (ok_newO ok hp ⟨[], upd_same, .nil⟩) rfl

/-! ### subscripts -/
theorem q_ix {r : P2} (hr : QIx X r) (ha : QE X a ta) (hb : QE X b tb) (hs : PlainIx b := by exact fun _ _ => rfl) : QE X (.Subscript a b pos) (dOp r ta tb) := ⟨PE.weak (pe_ix hr ha.pe hb.pe hs) fun σ H Q h => lift_op h⟩
/-! ### built-in functions by values -/
def dCB (r : PN) (t : TDa) : TD := fun ρ M k => t ρ M fun xs M1 => r M1 xs fun z => k z M1
theorem lift_cb {r : PN} {t : TDa} {σ : L2.St} {H : Hp} {Q : VK} (h : liftE X (dCB r t) σ H Q) : tCB (liftN X r) (liftA X t) σ H Q := by
  obtain ⟨B, ρ, M, k, ok, rs, t, f⟩ := h
  refine bindA ok rs t fun xs M1 vs H1 q e o r rs1 => ?_
  exact ⟨B, M1, xs, _, o, r, q, fun z hz v' H' ex o' r' => f z M1 hz v' H' (e.trans ex) o' r'⟩
theorem q_callB {x : Str} {id : String} {r : PN} {e : Expr} {es : List Expr} {t : TDa} {p : Pos} (hc : QCall X (.builtin id) r) (hg : Gl X x) (hm : X.mg x = none) (hv : bootBuiltins x = some (.builtin id)) (ha : QA X (e :: es) t)
    (hn : x ≠ "__name__" := by decide) (hd : (x == ("__debug__" : Str)) = false := by decide)
    (hs : starEach (e :: es) X.env = (false, eval e X.env) :: starEach es X.env := by rfl) (h2 : (backTo pos (starEach es X.env)).any (·.1) = false := by rfl) : QE X (.Call (.Name x p) (e :: es) [] pos) (dCB r t) :=
  ⟨PE.weak (pe_callB hc hg hm hv ha.pa hn hd hs h2) fun σ H Q h => lift_cb h⟩
theorem q_callTy {x : Str} {T : String} {r : PN} {e : Expr} {es : List Expr} {t : TDa} {p : Pos} (hc : QCall X (.type T) r) (hg : Gl X x) (hm : X.mg x = none) (hv : bootBuiltins x = some (.type T)) (ha : QA X (e :: es) t)
    (hn : x ≠ "__name__" := by decide) (hd : (x == ("__debug__" : Str)) = false := by decide)
    (hs : starEach (e :: es) X.env = (false, eval e X.env) :: starEach es X.env := by rfl) (h2 : (backTo pos (starEach es X.env)).any (·.1) = false := by rfl) : QE X (.Call (.Name x p) (e :: es) [] pos) (dCB r t) :=
  ⟨PE.weak (pe_callTy hc hg hm hv ha.pa hn hd hs h2) fun σ H Q h => lift_cb h⟩
end
end Kf

/-! Kf, operations by data. -/
namespace Kf
open PySem PySem.Spec PyProof.Rows L2

/-! ### values of which something new is made -/
def cview (M : MS) : DV → Option PyData
  | .dat d => some (norm d)
  | .ref a => (ownL M a).map PyData.list
  | .scr _ => none
section
variable {K : PySem.W.Frag} {P : Program} {w : World} {B : List Addr} {M : MS} {H : Hp} {v : V} {x : DV} {d : PyData}
theorem cview_list {ds : List PyData} (ok : OkM K P w B M H) (r : RV K B M H v x) (e : cview M x = some (.list ds)) : ∃ a vs, v = .ref a ∧ H a = some (.lst vs) ∧ RpAll K (fz B M H) vs ds := by
  cases x with
  | dat d' =>
    have r' : Rp K (fz B M H) v (norm d') := Rp.norm r
    rw [show norm d' = .list ds from Option.some.inj e] at r'
    cases r' with
    | lst s q => exact ⟨_, _, rfl, fz_same _ _ s, q⟩
  | ref a =>
    obtain ⟨es, q, h⟩ := Option.map_eq_some_iff.mp (show (ownL M a).map PyData.list = some (.list ds) from e)
    cases h
    exact lview_lst ok r q
  | scr ns => cases e
theorem cview_rp (r : RV K B M H v x) (e : cview M x = some d) (n : ∀ ds, d ≠ .list ds) : Rp K (fz B M H) v d := by
  cases x with
  | dat d' =>
    cases e
    exact Rp.norm r
  | ref a =>
    obtain ⟨es, q, h⟩ := Option.map_eq_some_iff.mp (show (ownL M a).map PyData.list = some d from e)
    exact absurd h.symm (n es)
  | scr ns => cases e
theorem cview_view (e : cview M x = some d) : view M x = some d := by
  cases x with
  | dat d' => exact e
  | ref a => exact e
  | scr ns => cases e
theorem rv_int {i : Int} (r : RV K B M H v x) (e : cview M x = some (.int i)) : v = .int i := by
  have h := cview_rp r e fun _ h => by cases h
  cases h; rfl
theorem rv_str {i : Str} (r : RV K B M H v x) (e : cview M x = some (.str i)) : v = .str i := by
  have h := cview_rp r e fun _ h => by cases h
  cases h; rfl
theorem rv_bl {i : Bool} (r : RV K B M H v x) (e : cview M x = some (.bool i)) : v = .bl i := by
  have h := cview_rp r e fun _ h => by cases h
  cases h; rfl
theorem rv_tup {ds : List PyData} (r : RV K B M H v x) (e : cview M x = some (.tuple ds)) : ∃ a vs, v = .ref a ∧ SqT K H a vs ∧ RpAll K (fz B M H) vs ds := by
  have h := cview_rp r e fun _ h => by cases h
  cases h with
  | tup s q => exact ⟨_, _, rfl, Same.seqT fz_same s, q⟩
end
abbrev F2 := PyData → PyData → (PyData → Prop) → Prop
def opV (f : F2) : P2 := fun M x y q => ∃ d e, cview M x = some d ∧ cview M y = some e ∧ f d e fun z => q (.dat z)
/-- both may be known lists, too: for operations that only read -/
def opR (f : F2) : P2 := fun M x y q => ∃ d e, view M x = some d ∧ view M y = some e ∧ f d e fun z => q (.dat z)
section
variable {X : Cx}
theorem rp_of {q : DV → Prop} {Q : VK} {B : List Addr} {M : MS} {H : Hp} {d : PyData} {v : V} (m : Made X B M H q Q) (ok : OkM X.K X.prog X.w B M H) (h : q (.dat d)) (r : Rp X.K (fz B M H) v d) : Q v H := m.keep ok h r

def addV : F2
  | .int i, .int j, q => q (.int (i + j))
  | .str a, .str b, q => a.length + b.length ≤ sizeLine ∧ q (.str (a ++ b))
  | .tuple a, .tuple b, q => a.length + b.length ≤ sizeLine ∧ q (.tuple (a ++ b))
  | .list a, .list b, q => a.length + b.length ≤ sizeLine ∧ q (.list (a ++ b))
  | _, _, _ => False
theorem qadd : QOp X (binaryOp .Add) (opV addV) := by
  intro pins s σ H v u v' u' Q I rv ru ⟨B, M, x, y, q, ok, rx, ry, ⟨d, e, hd, he, h⟩, m⟩
  unfold addV at h
  split at h
  · cases rv_int rx hd; cases rv_int ry he
    exact op_add pins s σ H _ _ v' u' Q I rv ru ⟨_, _, rfl, rfl, rp_of m ok h (.int _)⟩
  · cases rv_str rx hd; cases rv_str ry he
    exact op_add_str pins s σ H _ _ v' u' Q I rv ru ⟨_, _, rfl, rfl, h.1, rp_of m ok h.2 (.str _)⟩
  · rename_i a b
    obtain ⟨p1, vs1, rfl, s1, r1⟩ := rv_tup rx hd
    obtain ⟨p2, vs2, rfl, s2, r2⟩ := rv_tup ry he
    obtain ⟨h0, h⟩ := h
    refine op_catA pins s σ H _ _ v' u' Q I rv ru ⟨p1, p2, vs1, vs2, rfl, rfl, s1, s2, by rw [RpAll.length r1, RpAll.length r2]; exact h0, fun e1 => ?_, fun _ e2 => ?_, fun _ _ p hp => m.tup ok hp h (RpAll.append r1 r2)⟩
    · have : a = [] := List.eq_nil_of_length_eq_zero (by rw [← RpAll.length r1, e1]; rfl)
      subst this
      exact m.keep ok h (cview_rp ry he fun _ h => by cases h)
    · have : b = [] := List.eq_nil_of_length_eq_zero (by rw [← RpAll.length r2, e2]; rfl)
      subst this
      rw [List.append_nil] at h
      exact m.keep ok h (cview_rp rx hd fun _ h => by cases h)
  · obtain ⟨p1, vs1, rfl, s1, r1⟩ := cview_list ok rx hd
    obtain ⟨p2, vs2, rfl, s2, r2⟩ := cview_list ok ry he
    exact op_cat pins s σ H _ _ v' u' Q I rv ru ⟨p1, p2, vs1, vs2, rfl, rfl, s1, s2, by rw [RpAll.length r1, RpAll.length r2]; exact h.1, fun p hp => m.lst ok hp h.2 (RpAll.append r1 r2)⟩
  · exact h.elim
def intV (C : Int → Int → Prop) (f : Int → Int → Int) : F2
  | .int i, .int j, q => C i j ∧ q (.int (f i j))
  | _, _, _ => False
theorem qint {op : Operator} {C : Int → Int → Prop} {f : Int → Int → Int} (h0 : OpR X (binaryOp op) (rI C fun i j => .int (f i j))) : QOp X (binaryOp op) (opV (intV C f)) := by
  intro pins s σ H v u v' u' Q I rv ru ⟨B, M, x, y, q, ok, rx, ry, ⟨d, e, hd, he, h⟩, m⟩
  unfold intV at h
  split at h
  · cases rv_int rx hd; cases rv_int ry he
    exact h0 pins s σ H _ _ v' u' Q I rv ru ⟨_, _, rfl, rfl, h.1, rp_of m ok h.2 (.int _)⟩
  · exact h.elim
def subV : F2
  | .int i, .int j, q => q (.int (i - j))
  | _, _, _ => False
theorem qsub : QOp X (binaryOp .Sub) (opV subV) := by
  intro pins s σ H v u v' u' Q I rv ru ⟨B, M, x, y, q, ok, rx, ry, ⟨d, e, hd, he, h⟩, m⟩
  unfold subV at h
  split at h
  · cases rv_int rx hd; cases rv_int ry he
    exact op_sub pins s σ H _ _ v' u' Q I rv ru ⟨_, _, rfl, rfl, rp_of m ok h (.int _)⟩
  · exact h.elim
abbrev mulI : F2 := intV CMul fun i j => i * j
abbrev divI : F2 := intV CDiv fun i j => i / j
abbrev modI : F2 := intV (fun _ j => 0 < j) fun i j => i % j
theorem qmulI : QOp X (binaryOp .Mult) (opV mulI) := qint op_mul
theorem qdivI : QOp X (binaryOp .FloorDiv) (opV divI) := qint op_fdiv
theorem qmodI : QOp X (binaryOp .Mod) (opV modI) := qint op_mod
/-- a list times an int -/
def mulL : F2
  | .list ds, .int k, q => -(2 ^ 63) ≤ k ∧ k < 2 ^ 63 ∧ ds.length * k.toNat ≤ sizeLine ∧ q (.list (List.replicate k.toNat ds).flatten)
  | _, _, _ => False
theorem qmulL : QOp X (binaryOp .Mult) (opV mulL) := by
  intro pins s σ H v u v' u' Q I rv ru ⟨B, M, x, y, q, ok, rx, ry, ⟨d, e, hd, he, h⟩, m⟩
  unfold mulL at h
  split at h
  · cases rv_int ry he
    obtain ⟨p1, vs1, rfl, s1, r1⟩ := cview_list ok rx hd
    exact op_rep pins s σ H _ _ v' u' Q I rv ru ⟨p1, _, vs1, rfl, rfl, s1, h.1, h.2.1, by rw [RpAll.length r1]; exact h.2.2.1, fun p hp => m.lst ok hp h.2.2.2 (RpAll.repl r1 _)⟩
  · exact h.elim
/-- a tuple times an int that is 2 or more -/
def mulT : F2
  | .tuple ds, .int k, q => ds ≠ [] ∧ 2 ≤ k ∧ k ≤ 1000 ∧ ds.length ≤ 1000 ∧ q (.tuple (List.replicate k.toNat ds).flatten)
  | _, _, _ => False
theorem qmulT : QOp X (binaryOp .Mult) (opV mulT) := by
  intro pins s σ H v u v' u' Q I rv ru ⟨B, M, x, y, q, ok, rx, ry, ⟨d, e, hd, he, h⟩, m⟩
  unfold mulT at h
  split at h
  · cases rv_int ry he
    obtain ⟨p1, vs1, rfl, s1, r1⟩ := rv_tup rx hd
    have hl := RpAll.length r1
    exact op_repT pins s σ H _ _ v' u' Q I rv ru ⟨p1, _, vs1, rfl, rfl, s1, fun z => h.1 (List.eq_nil_of_length_eq_zero (by rw [← hl, z]; rfl)), h.2.1, h.2.2.1, by rw [hl]; exact h.2.2.2.1, fun p hp => m.tup ok hp h.2.2.2.2 (RpAll.repl r1 _)⟩
  · exact h.elim
def mulS : F2
  | .str x, .int k, q => MulOk x k ∧ q (.str (Txt.mul x k))
  | _, _, _ => False
theorem qmulS : QOp X (binaryOp .Mult) (opV mulS) := by
  intro pins s σ H v u v' u' Q I rv ru ⟨B, M, x, y, q, ok, rx, ry, ⟨d, e, hd, he, h⟩, m⟩
  unfold mulS at h
  split at h
  · cases rv_int ry he; cases rv_str rx hd
    obtain ⟨t, rfl⟩ := rv
    obtain ⟨t', rfl⟩ := ru
    refine SB.mul h.1 fun t2 k => ⟨.str _, H, I.tok _, ⟨_, rfl⟩, rp_of m ok h.2 (.str _)⟩
  · exact h.elim

/-! ### == and != -/
def toV : PyData → Option V
  | .none => some .non
  | .bool b => some (.bl b)
  | .int i => some (.int i)
  | .str x => some (.str x)
  | _ => Option.none
def shp (d e : PyData) : Bool := SeqAt.shaped d && SeqAt.shaped e
def eqOk (d e : PyData) : Bool := match toV d, toV e with
  | some x, some y => scal x y || shp d e
  | _, _ => shp d e
theorem toV_shp {K : PySem.W.Frag} {H : Hp} {v x : V} {d : PyData} (h : Shp K H v d) (e : toV d = some x) : v = x := by
  cases d <;> first | (cases e; exact h) | cases e
theorem scal_eqv {d e : PyData} {x y : V} (hx : toV d = some x) (hy : toV e = some y) (h : scal x y = true) : decide (x = y) = PyData.eqv d e := by
  cases d <;> cases e <;> cases hx <;> cases hy <;> first
    | rfl
    | (rw [dec_int]; simp [PyData.eqv])
    | (rw [dec_str]; simp [PyData.eqv])
    | (rw [dec_bl]; simp [PyData.eqv])
    | (cases h; done)
    | (simp [PyData.eqv]; done)
    | (cases h)
def eqV2 : F2 := fun d e q => eqOk d e = true ∧ q (.bool (PyData.eqv d e))
def neV2 : F2 := fun d e q => eqOk d e = true ∧ q (.bool (!PyData.eqv d e))
theorem eq_run (hu : X.A.units + 64 < cLine) {pins s σ H v u v' u' Q} {d e : PyData} {op : CmpOp} {g : Bool → Bool} (hs : OpR X (compareOp op) fun x y H Q => scal x y = true ∧ Q (.bl (g (decide (x = y)))) H)
    (hD : OpR X (compareOp op) fun x y H Q => ∃ d e, Dp X.K H x d ∧ Dp X.K H y e ∧ SeqAt.shaped d = true ∧ SeqAt.shaped e = true ∧ Q (.bl (g (PyData.eqv d e))) H)
    (I : Inv X pins σ H s) (rv : RelV v v') (ru : RelV u u') (hd : Shp X.K H v d) (he : Shp X.K H u e) (hd' : noDict d = true → Dp X.K H v d) (he' : noDict e = true → Dp X.K H u e) (h : eqOk d e = true) (q : Q (.bl (g (PyData.eqv d e))) H) : wpAny (model X.prog X.w) X.A (compareOp op v' u') (EP X pins σ Q) X.xe s := by
  have deep : shp d e = true → wpAny (model X.prog X.w) X.A (compareOp op v' u') (EP X pins σ Q) X.xe s := fun z => by
    have z := Bool.and_eq_true_iff.mp z
    exact hD pins s σ H v u v' u' Q I rv ru ⟨d, e, hd' (noDict_of d (SeqAt.canLay_of_shaped z.1)), he' (noDict_of e (SeqAt.canLay_of_shaped z.2)), z.1, z.2, q⟩
  unfold eqOk at h
  split at h
  · rename_i x y hx hy
    rcases Bool.or_eq_true_iff.mp h with z | z
    · cases toV_shp hd hx; cases toV_shp he hy
      exact hs pins s σ H v u v' u' Q I rv ru ⟨z, by rw [scal_eqv hx hy z]; exact q⟩
    · exact deep z
  · exact deep h
theorem qeq (hu : X.A.units + 64 < cLine) : QOp X (compareOp .Eq) (opR eqV2) := by
  intro pins s σ H v u v' u' Q I rv ru ⟨B, M, x, y, q, ok, rx, ry, ⟨d, e, hd, he, h, hq⟩, m⟩
  exact eq_run hu (g := id) op_eq (op_eqD hu) I rv ru (view_shp ok rx hd) (view_shp ok ry he) (view_dp ok rx hd) (view_dp ok ry he) h (rp_of m ok hq (.bl _))
theorem qne (hu : X.A.units + 64 < cLine) : QOp X (compareOp .NotEq) (opR neV2) := by
  intro pins s σ H v u v' u' Q I rv ru ⟨B, M, x, y, q, ok, rx, ry, ⟨d, e, hd, he, h, hq⟩, m⟩
  exact eq_run hu (g := not) op_ne (op_neD hu) I rv ru (view_shp ok rx hd) (view_shp ok ry he) (view_dp ok rx hd) (view_dp ok ry he) h (rp_of m ok hq (.bl _))

/-! ### order -/
def ltV2 : F2
  | .int i, .int j, q => q (.bool (decide (i < j)))
  | .str a, .str b, q => q (.bool (decide (a.cps.toList < b.cps.toList)))
  | _, _, _ => False
theorem qlt : QOp X (compareOp .Lt) (opV ltV2) := by
  intro pins s σ H v u v' u' Q I rv ru ⟨B, M, x, y, q, ok, rx, ry, ⟨d, e, hd, he, h⟩, m⟩
  unfold ltV2 at h
  split at h
  · cases rv_int rx hd; cases rv_int ry he
    exact op_lt pins s σ H _ _ v' u' Q I rv ru ⟨_, _, rfl, rfl, rp_of m ok h (.bl _)⟩
  · cases rv_str rx hd; cases rv_str ry he
    exact op_lt_str pins s σ H _ _ v' u' Q I rv ru ⟨_, _, rfl, rfl, rp_of m ok h (.bl _)⟩
  · exact h.elim
def ordV (g : Int → Int → Bool) : F2
  | .int i, .int j, q => q (.bool (g i j))
  | _, _, _ => False
theorem qord {op : CmpOp} {g : Int → Int → Bool} (h0 : OpR X (compareOp op) (rI0 fun i j => .bl (g i j))) : QOp X (compareOp op) (opV (ordV g)) := by
  intro pins s σ H v u v' u' Q I rv ru ⟨B, M, x, y, q, ok, rx, ry, ⟨d, e, hd, he, h⟩, m⟩
  unfold ordV at h
  split at h
  · cases rv_int rx hd; cases rv_int ry he
    exact h0 pins s σ H _ _ v' u' Q I rv ru ⟨_, _, rfl, rfl, rp_of m ok h (.bl _)⟩
  · exact h.elim
abbrev leV2 : F2 := ordV fun i j => decide (i ≤ j)
abbrev gtV2 : F2 := ordV fun i j => decide (j < i)
abbrev geV2 : F2 := ordV fun i j => decide (j ≤ i)
theorem qle : QOp X (compareOp .LtE) (opV leV2) := qord op_le
theorem qgt : QOp X (compareOp .Gt) (opV gtV2) := qord op_gt
theorem qge : QOp X (compareOp .GtE) (opV geV2) := qord op_ge

/-! ### is None -/
def isN : PyData → Bool
  | .none => true
  | _ => false
def isV (g : Bool → Bool) : F2 := fun d e q => e = .none ∧ q (.bool (g (isN d)))
theorem qisN_aux {K : PySem.W.Frag} {H : Hp} {v : V} {d : PyData} (h : Shp K H v d) : decide (v = .non) = isN d := by
  cases d with
  | none => rw [show v = .non from h]; rfl
  | bool b => rw [show v = .bl b from h]; rfl
  | int b => rw [show v = .int b from h]; rfl
  | str b => rw [show v = .str b from h]; rfl
  | list ds => obtain ⟨a, vs, rfl, _⟩ := h; rfl
  | tuple ds => obtain ⟨a, vs, rfl, _⟩ := h; rfl
  | dict ds => obtain ⟨a, rfl⟩ := h; rfl
theorem qis : QOp X (compareOp .Is) (opR (isV id)) := by
  intro pins s σ H v u v' u' Q I rv ru ⟨B, M, x, y, q, ok, rx, ry, ⟨d, e, hd, he, h0, h⟩, m⟩
  subst h0
  obtain rfl : u = .non := view_shp ok ry he
  exact op_isN pins s σ H _ _ v' u' Q I rv ru ⟨rfl, by rw [qisN_aux (view_shp ok rx hd)]; exact rp_of m ok h (.bl _)⟩
theorem qisnot : QOp X (compareOp .IsNot) (opR (isV not)) := by
  intro pins s σ H v u v' u' Q I rv ru ⟨B, M, x, y, q, ok, rx, ry, ⟨d, e, hd, he, h0, h⟩, m⟩
  subst h0
  obtain rfl : u = .non := view_shp ok ry he
  exact op_notN pins s σ H _ _ v' u' Q I rv ru ⟨rfl, by rw [qisN_aux (view_shp ok rx hd)]; exact rp_of m ok h (.bl _)⟩

/-! ### in -/
def flatD : PyData → Bool
  | .none => true
  | .bool _ => true
  | .int _ => true
  | .str _ => true
  | _ => false
def items : PyData → Option (List PyData)
  | .list ds => some ds
  | .tuple ds => some ds
  | _ => none
def inOk (d e : PyData) (ds : List PyData) : Bool := (flatD d && ds.all flatD) || shp d e
def inV2 (g : Bool → Bool) : F2 := fun d e q => match e with
  | .str z => (∃ c, d = .str ⟨#[c]⟩ ∧ q (.bool (g (decide (c ∈ z.cps.toList)))))
  | e => ∃ ds, items e = some ds ∧ inOk d e ds = true ∧ q (.bool (g (ds.any fun z => PyData.eqv z d)))
theorem flat_noDict {d : PyData} (h : flatD d = true) : noDict d = true := by cases d <;> first | rfl | cases h
theorem flats_noDict : ∀ {ds : List PyData}, ds.all flatD = true → noDicts ds = true
  | [], _ => rfl
  | d :: ds, h => by
    rw [List.all_cons, Bool.and_eq_true] at h
    rw [noDicts, flat_noDict h.1, flats_noDict h.2]; rfl
theorem flat_V {K : PySem.W.Frag} {H : Hp} {v : V} {d : PyData} (h : Dp K H v d) (f : flatD d = true) : flatV v = true := by
  cases h <;> first | rfl | cases f
theorem flat_eq {K : PySem.W.Frag} {H : Hp} {v u : V} {d e : PyData} (h : Dp K H v d) (g : Dp K H u e) (f : flatD d = true) (f' : flatD e = true) : L2.eqV v u = PyData.eqv d e := by
  cases h <;> cases g <;> first | rfl | (simp [L2.eqV, PyData.eqv]; done) | (cases f; done) | (cases f'; done)
theorem flat_all {K : PySem.W.Frag} {H : Hp} : ∀ {vs : List V} {ds : List PyData}, DpAll K H vs ds → ds.all flatD = true → vs.all flatV = true
  | _, _, .nil, _ => rfl
  | _, _, .cons a b, h => by
    rw [List.all_cons, Bool.and_eq_true] at h
    rw [List.all_cons, flat_V a h.1, flat_all b h.2]; rfl
theorem flat_any {K : PySem.W.Frag} {H : Hp} {u : V} {e : PyData} (g : Dp K H u e) (f' : flatD e = true) : ∀ {vs : List V} {ds : List PyData}, DpAll K H vs ds → ds.all flatD = true → L2.inV u vs = ds.any fun z => PyData.eqv z e
  | _, _, .nil, _ => rfl
  | _, _, .cons a b, h => by
    rw [List.all_cons, Bool.and_eq_true] at h
    show (L2.eqV _ u || L2.inV u _) = _
    rw [flat_eq a g h.1 f', flat_any g f' b h.2]; rfl
theorem in_run (hu : X.A.units + 65 < cLine) {op : CmpOp} {g : Bool → Bool}
    (hflat : OpR X (compareOp op) fun x y H Q => ∃ p xs, y = .ref p ∧ (SqL X.K H p xs ∨ SqT X.K H p xs) ∧ flatV x = true ∧ xs.all flatV = true ∧ Q (.bl (g (L2.inV x xs))) H)
    (hsign : OpR X (compareOp op) fun x y H Q => ∃ (c : Nat) (z : Str), x = .str ⟨#[c]⟩ ∧ y = .str z ∧ Q (.bl (g (decide (c ∈ z.cps.toList)))) H)
    (hlist : ∀ (A : Around) (E : Value → Shared → Prop) (s : Shared) (c x : Value) (xs : List PyData) (d : PyData) (as bs : List Addr) (Q : Value → Shared → Prop), Reads s.heap c (.list xs) as → Reads s.heap x d bs → PyData.canLayAll0 xs = true → d.canLay0 = true → A.units + 1 + min (PyData.depthAll xs) d.depth < cLine →
      Q (.bool (g (xs.any fun y => PyData.eqv y d))) s → wpAny (model X.prog X.w) A (compareOp op x c) Q E s)
    (htup : ∀ (A : Around) (E : Value → Shared → Prop) (s : Shared) (c x : Value) (xs : List PyData) (d : PyData) (as bs : List Addr) (Q : Value → Shared → Prop), Reads s.heap c (.tuple xs) as → Reads s.heap x d bs → PyData.canLayAll0 xs = true → d.canLay0 = true → A.units + 1 + min (PyData.depthAll xs) d.depth < cLine →
      Q (.bool (g (xs.any fun y => PyData.eqv y d))) s → wpAny (model X.prog X.w) A (compareOp op x c) Q E s) : QOp X (compareOp op) (opR (inV2 g)) := by
  intro pins s σ H v u v' u' Q I rv ru ⟨B, M, x, y, q, ok, rx, ry, ⟨d, e, hd, he, h⟩, m⟩
  have go : ∀ ds, items e = some ds → inOk d e ds = true → q (.dat (.bool (g (ds.any fun z => PyData.eqv z d)))) → wpAny (model X.prog X.w) X.A (compareOp op v' u') (EP X pins σ Q) X.xe s := by
    intro ds hi h1 h2
    have hQ := rp_of m ok h2 (.bl _)
    rcases Bool.or_eq_true_iff.mp h1 with z | z
    · obtain ⟨z1, z2⟩ := Bool.and_eq_true_iff.mp z
      have dx := view_dp ok rx hd (flat_noDict z1)
      have nds := flats_noDict z2
      cases e with
      | list es =>
        cases hi
        have dy := view_dp ok ry he (by rw [noDict]; exact nds)
        cases dy with
        | lst sq r => exact hflat pins s σ H _ _ v' u' Q I rv ru ⟨_, _, rfl, .inl sq, flat_V dx z1, flat_all r z2, by rw [flat_any dx z1 r z2]; exact hQ⟩
      | tuple es =>
        cases hi
        have dy := view_dp ok ry he (by rw [noDict]; exact nds)
        cases dy with
        | tup sq r => exact hflat pins s σ H _ _ v' u' Q I rv ru ⟨_, _, rfl, .inr sq, flat_V dx z1, flat_all r z2, by rw [flat_any dx z1 r z2]; exact hQ⟩
      | _ => cases hi
    · obtain ⟨z1, z2⟩ := Bool.and_eq_true_iff.mp z
      have dx := view_dp ok rx hd (noDict_of d (SeqAt.canLay_of_shaped z1))
      have dy := view_dp ok ry he (noDict_of e (SeqAt.canLay_of_shaped z2))
      obtain ⟨as, r1⟩ := Dp.reads I d v v' dx rv
      obtain ⟨bs, r2⟩ := Dp.reads I e u u' dy ru
      cases e with
      | list es =>
        cases hi
        exact hlist _ _ s u' v' ds d _ _ _ r2 r1 (SeqAt.canLay_of_shaped z2) (SeqAt.canLay_of_shaped z1) (room_in_shaped z1 hu) ⟨.bl _, H, I, rfl, hQ⟩
      | tuple es =>
        cases hi
        exact htup _ _ s u' v' ds d _ _ _ r2 r1 (SeqAt.canLay_of_shaped z2) (SeqAt.canLay_of_shaped z1) (room_in_shaped z1 hu) ⟨.bl _, H, I, rfl, hQ⟩
      | _ => cases hi
  cases e with
  | str z =>
    obtain ⟨c, rfl, h2⟩ := h
    obtain rfl : v = .str ⟨#[c]⟩ := view_shp ok rx hd
    obtain rfl : u = .str z := view_shp ok ry he
    exact hsign pins s σ H _ _ v' u' Q I rv ru ⟨c, z, rfl, rfl, rp_of m ok h2 (.bl _)⟩
  | list es => obtain ⟨ds, a, b, c⟩ := h; exact go ds a b c
  | tuple es => obtain ⟨ds, a, b, c⟩ := h; exact go ds a b c
  | none => obtain ⟨ds, a, b, c⟩ := h; exact go ds a b c
  | bool _ => obtain ⟨ds, a, b, c⟩ := h; exact go ds a b c
  | int _ => obtain ⟨ds, a, b, c⟩ := h; exact go ds a b c
  | dict _ => obtain ⟨ds, a, b, c⟩ := h; exact go ds a b c
theorem qin (hu : X.A.units + 65 < cLine) : QOp X (compareOp .In) (opR (inV2 id)) :=
  in_run hu (fun pins s σ H x y v u Q I rx ry ⟨p, xs, a, b, c, d, e⟩ => op_in_seq pins s σ H x y v u Q I rx ry ⟨p, xs, a, b, c, d, e⟩) op_in_sign
    (fun A E s c x xs d as bs Q r1 r2 h1 h2 h3 h => SeqAt.in_list_reads r1 r2 h1 h2 h3 h)
    (fun A E s c x xs d as bs Q r1 r2 h1 h2 h3 h => by
      cases r1 with
      | tuple e1 e2 e3 e4 => exact SeqAt.in_tupleAt _ ⟨_, e1, e2, _, e3⟩ (SeqAt.items_eqAt e4 r2 h1 h2 h3) (by rw [SeqAt.any_by_data e4 h1]; exact h))
theorem qnotin (hu : X.A.units + 65 < cLine) : QOp X (compareOp .NotIn) (opR (inV2 not)) :=
  in_run hu (fun pins s σ H x y v u Q I rx ry ⟨p, xs, a, b, c, d, e⟩ => op_notIn_seq pins s σ H x y v u Q I rx ry ⟨p, xs, a, b, c, d, e⟩) op_notIn_sign
    (fun A E s c x xs d as bs Q r1 r2 h1 h2 h3 h => SeqAt.notIn_list_reads r1 r2 h1 h2 h3 h)
    (fun A E s c x xs d as bs Q r1 r2 h1 h2 h3 h => by
      cases r1 with
      | tuple e1 e2 e3 e4 => exact SeqAt.notIn_tupleAt _ ⟨_, e1, e2, _, e3⟩ (SeqAt.items_eqAt e4 r2 h1 h2 h3) (by rw [SeqAt.any_by_data e4 h1]; exact h))

/-! ### subscripts, len -/
def ixV : F2
  | .list ds, .int i, q => ∃ z, atI ds i = some z ∧ q z
  | .tuple ds, .int i, q => ∃ z, atI ds i = some z ∧ q z
  | .str x, .int i, q => ∃ c, x.length ≤ sizeLine ∧ atI x.cps.toList i = some c ∧ q (.str ⟨#[c]⟩)
  | _, _, _ => False
theorem atI_dp {K : PySem.W.Frag} {H : Hp} {vs : List V} {ds : List PyData} {i : Int} {z : PyData} (r : RpAll K H vs ds) (h : atI ds i = some z) : ∃ v, atI vs i = some v ∧ Rp K H v z := by
  unfold atI at h ⊢
  rw [RpAll.length r]
  cases e : ixN ds.length i with
  | none => rw [e] at h; cases h
  | some j =>
    rw [e] at h
    exact RpAll.get r h
theorem qix : QIx X (opV ixV) := by
  intro value slice pins s σ H v u v' u' Q I rv ru ⟨B, M, x, y, q, ok, rx, ry, ⟨d, e, hd, he, h⟩, m⟩ hs
  unfold ixV at h
  split at h
  · obtain ⟨z, h1, h2⟩ := h
    cases rv_int ry he
    obtain ⟨p1, vs1, rfl, s1, r1⟩ := cview_list ok rx hd
    obtain ⟨w, h3, h4⟩ := atI_dp r1 h1
    exact ix_list value slice pins s σ H _ _ v' u' Q I rv ru ⟨p1, vs1, _, w, rfl, rfl, SqL.of s1, h3, rp_of m ok h2 h4⟩ hs
  · obtain ⟨z, h1, h2⟩ := h
    cases rv_int ry he
    obtain ⟨p1, vs1, rfl, s1, r1⟩ := rv_tup rx hd
    obtain ⟨w, h3, h4⟩ := atI_dp r1 h1
    exact ix_tup value slice pins s σ H _ _ v' u' Q I rv ru ⟨p1, vs1, _, w, rfl, rfl, s1, h3, rp_of m ok h2 h4⟩ hs
  · obtain ⟨c, h0, h1, h2⟩ := h
    cases rv_int ry he; cases rv_str rx hd
    exact ix_str value slice pins s σ H _ _ v' u' Q I rv ru ⟨_, _, c, rfl, rfl, h0, h1, rp_of m ok h2 (.str _)⟩ hs
  · exact h.elim
/-- the script's item -/
def ixScr : P2 := fun M x y q => ∃ ns i n, x = .scr ns ∧ y = .dat (.int i) ∧ atI ns i = some n ∧ q (.dat (.int n))
theorem qixScr : QIx X ixScr := by
  rintro value slice pins s σ H v u v' u' Q I rv ru ⟨B, M, x, y, q, ok, rx, ry, ⟨ns, i, n, rfl, rfl, h1, h2⟩, m⟩ hs
  cases ry
  obtain ⟨a, rfl, h3⟩ := rx
  refine ix_list value slice pins s σ H _ _ v' u' Q I rv ru ⟨a, _, i, .int n, rfl, rfl, Same.seq fz_same h3, ?_, rp_of m ok h2 (.int n)⟩ hs
  unfold atI at h1 ⊢
  rw [List.length_map]
  cases e : ixN ns.length i with
  | none => rw [e] at h1; cases h1
  | some j =>
    rw [e] at h1
    show (ns.map V.int)[j]? = _
    rw [List.getElem?_map, show ns[j]? = some n from h1]; rfl
def lenV : PyData → Option Nat
  | .list ds => some ds.length
  | .tuple ds => some ds.length
  | .str x => if x.length ≤ sizeLine then some x.length else none
  | _ => none
def lenP : PN := fun M xs q => ∃ x d n, xs = [x] ∧ view M x = some d ∧ lenV d = some n ∧ q (.dat (.int n))
theorem RVs.one {K : PySem.W.Frag} {B : List Addr} {M : MS} {H : Hp} {vs : List V} {x : DV} (h : RVs K B M H vs [x]) : ∃ v, vs = [v] ∧ RV K B M H v x := by
  cases h with
  | cons a b => cases b; exact ⟨_, rfl, a⟩
theorem RVs.two {K : PySem.W.Frag} {B : List Addr} {M : MS} {H : Hp} {vs : List V} {x y : DV} (h : RVs K B M H vs [x, y]) : ∃ v u, vs = [v, u] ∧ RV K B M H v x ∧ RV K B M H u y := by
  cases h with
  | cons a b =>
    obtain ⟨u, rfl, r⟩ := RVs.one b
    exact ⟨_, u, rfl, a, r⟩
theorem dpAll_length {K : PySem.W.Frag} {H : Hp} : ∀ {vs : List V} {ds : List PyData}, DpAll K H vs ds → vs.length = ds.length
  | _, _, .nil => rfl
  | _, _, .cons _ b => congrArg Nat.succ (dpAll_length b)
theorem qlen : QCall X (.builtin "len") lenP := by
  rintro pins s σ H vs us Q I r ⟨B, M, xs, q, ok, rx, ⟨x, d, n, rfl, hv, hl, h⟩, m⟩
  obtain ⟨v, rfl, rv⟩ := RVs.one rx
  have sx := view_shp ok rv hv
  have hQ := rp_of m ok h (.int n)
  cases d with
  | list ds =>
    cases hl
    obtain ⟨a, vs, rfl, sq, le⟩ := sx
    exact call_len_seq pins s σ H _ us Q I r ⟨_, _, rfl, .inl sq, by rw [le]; exact hQ⟩
  | tuple ds =>
    cases hl
    obtain ⟨a, vs, rfl, sq, le⟩ := sx
    exact call_len_seq pins s σ H _ us Q I r ⟨_, _, rfl, .inr sq, by rw [le]; exact hQ⟩
  | str x =>
    obtain rfl : v = .str x := sx
    have hl' : (if x.length ≤ sizeLine then some x.length else none) = some n := hl
    split at hl'
    · rename_i h0
      cases hl'
      exact call_len_str pins s σ H _ us Q I r ⟨x, rfl, h0, hQ⟩
    · cases hl'
  | _ => cases hl
end
end Kf

/-! Kf, statements, loops, comprehensions, defs. -/
namespace Kf
open PySem PySem.Spec PyProof.Rows L2
section
variable {X : Cx}
/-! ### statements -/
theorem qss_nil' : PSs X [] (liftS X fun De ρ M => De.nx ρ M) := PSs.weak pss_nil fun D σ H ⟨B, ρ, M, De, ok, rs, t, f⟩ => f.nx ρ M σ H t Ext.refl ok rs
def dNext : TDs := fun De ρ M => De.nx ρ M
def dSeq (t u : TDs) : TDs := fun De ρ M => t { De with nx := u De } ρ M
theorem qss_nil : QSs X [] dNext := ⟨qss_nil'⟩
theorem qss_cons {st : Stmt} {rest : List Stmt} {t u : TDs} (h1 : QS X st t) (h2 : QSs X rest u) : QSs X (st :: rest) (dSeq t u) := by
  refine ⟨PSs.weak (pss_cons h1.ps h2.pss) fun D σ H h => ?_⟩
  obtain ⟨B, ρ, M, De, ok, rs, t, f⟩ := h
  exact ⟨B, ρ, M, { De with nx := u De }, ok, rs, t, ⟨fun ρ' M' σ' H' q e o r => ⟨B, ρ', M', De, o, r, q, f.of e⟩, f.rt, f.bk, f.ct⟩⟩
theorem qss_one {st : Stmt} {t : TDs} (h1 : QS X st t) : QSs X [st] t := ⟨pss_one h1.ps⟩
theorem qs_pass {pos : Pos} : QS X (.Pass pos) dNext := ⟨PS.weak ps_pass fun D σ H ⟨B, ρ, M, De, ok, rs, t, f⟩ => f.nx ρ M σ H t Ext.refl ok rs⟩
theorem bindS {ta : TD} {De : DEnds} {σ : L2.St} {H : Hp} {Q1 : VK} {B : List Addr} {ρ : Rho} {M : MS} {k1 : KD} (ok : OkM X.K X.prog X.w B M H) (rs : RepS X.K B M H σ ρ) (h : ta ρ M k1)
    (go : ∀ x M1 v H1, k1 x M1 → Ext B M H M1 H1 → OkM X.K X.prog X.w B M1 H1 → RV X.K B M1 H1 v x → RepS X.K B M1 H1 σ ρ → Q1 v H1) : liftE X ta σ H Q1 := bindE ok rs h go
theorem RepS.set {K : PySem.W.Frag} {B : List Addr} {M : MS} {H : Hp} {σ : L2.St} {ρ : Rho} {v : V} {x : DV} (r : RepS K B M H σ ρ) (h : RV K B M H v x) (i : Nat) : RepS K B M H (σ.set i (some v)) (ρ.set i (some x)) := by
  refine ⟨by rw [List.length_set, List.length_set]; exact r.1, fun j d e => ?_⟩
  by_cases n : i = j
  · subst n
    have hl : i < ρ.length := by
      have := (List.getElem?_eq_some_iff.mp e).1
      rwa [List.length_set] at this
    rw [List.getElem?_set_self hl] at e
    cases e
    exact ⟨v, List.getElem?_set_self (by rw [r.1]; exact hl), h⟩
  · rw [List.getElem?_set_ne n] at e
    obtain ⟨u, a, b⟩ := r.2 j d e
    exact ⟨u, by rw [List.getElem?_set_ne n]; exact a, b⟩
def dExpr (t : TD) : TDs := fun De ρ M => t ρ M fun _ M1 => De.nx ρ M1
theorem qs_expr {e : Expr} {pos : Pos} {t : TD} (h : QE X e t) (hs : swapsWith e none pos.line X.env = pure false := by rfl) : QS X (.Expr e pos) (dExpr t) := by
  refine ⟨PS.weak (ps_expr h.pe hs) fun D σ H h => ?_⟩
  obtain ⟨B, ρ, M, De, ok, rs, t, f⟩ := h
  exact bindE ok rs t fun x M1 v H1 q e o r rs1 => f.nx ρ M1 σ H1 q e o rs1
def dRet (t : TD) : TDs := fun De ρ M => t ρ M De.rt
theorem qs_ret {e : Expr} {pos : Pos} {t : TD} (h : QE X e t) : QS X (.Return (some e) pos) (dRet t) := by
  refine ⟨PS.weak (ps_ret h.pe) fun D σ H h => ?_⟩
  obtain ⟨B, ρ, M, De, ok, rs, t, f⟩ := h
  exact bindE ok rs t fun x M1 v H1 q e o r rs1 => f.rt x M1 q v H1 e o r
def dRetN : TDs := fun De _ M => De.rt (.dat .none) M
theorem qs_retN {pos : Pos} : QS X (.Return none pos) dRetN := by
  refine ⟨PS.weak ps_retN fun D σ H h => ?_⟩
  obtain ⟨B, ρ, M, De, ok, rs, t, f⟩ := h
  exact f.rt _ M t _ H Ext.refl ok .non
def dIf (c : TDb) (t u : TDs) : TDs := fun De ρ M => c ρ M fun b M1 => if b = true then t De ρ M1 else u De ρ M1
theorem qs_if {c : Expr} {a b : List Stmt} {pos : Pos} {tc : TDb} {t u : TDs} (hc : QT X c tc) (ha : QSs X a t) (hb : QSs X b u) : QS X (.If c a b pos) (dIf tc t u) := by
  refine ⟨PS.weak (ps_if hc.pt ha.pss hb.pss) fun D σ H h => ?_⟩
  obtain ⟨B, ρ, M, De, ok, rs, t, f⟩ := h
  refine bindT ok rs t fun c M1 H1 q e o rs1 => ?_
  cases c with
  | true => exact ⟨B, ρ, M1, De, o, rs1, q, f.of e⟩
  | false => exact ⟨B, ρ, M1, De, o, rs1, q, f.of e⟩

/-! ### targets -/
abbrev TDg := DV → Rho → MS → (Rho → MS → Prop) → Prop
def liftG (X : Cx) (g : TDg) : TG := fun v σ H Q => ∃ B x ρ M k, OkM X.K X.prog X.w B M H ∧ RepS X.K B M H σ ρ ∧ RV X.K B M H v x ∧ g x ρ M k ∧ PostS X B M H k Q
structure QG (X : Cx) (tg : Expr) (g : TDg) : Prop where
  pg : PG X tg (liftG X g)
theorem PG.weak {e : Expr} {t t' : TG} (h : PG X e t) (i : ∀ v σ H Q, t' v σ H Q → t v σ H Q) : PG X e t' := ⟨fun pins s σ H v u Q I r q => h.run pins s σ H v u Q I r (i v σ H Q q)⟩
def gdName (i : Nat) : TDg := fun x ρ M k => k (ρ.set i (some x)) M
theorem qg_name {i : Nat} {x : Str} {pos : Pos} (hN : X.N.Nodup) (hi : X.N[i]? = some x) (hx : Loc X.env.scope x) (hf : X.fn x = true ∨ X.env.scope.names.lookup x = some .local := by first | exact .inl rfl | exact .inr rfl | assumption) : QG X (.Name x pos) (gdName i) :=
  ⟨PG.weak (pg_name hN hi hx hf) fun v σ H Q ⟨B, x, ρ, M, k, ok, rs, r, t, f⟩ => f _ M _ H t Ext.refl ok (RepS.set rs r i)⟩
abbrev TDgs := List PyData → Rho → MS → (Rho → MS → Prop) → Prop
def liftGs (X : Cx) (g : TDgs) : TGs := fun vs σ H Q => ∃ B ds ρ M k, OkM X.K X.prog X.w B M H ∧ RepS X.K B M H σ ρ ∧ RpAll X.K (fz B M H) vs ds ∧ g ds ρ M k ∧ PostS X B M H k Q
structure QGs (X : Cx) (tgs : List Expr) (g : TDgs) : Prop where
  pgs : PGs X tgs (liftGs X g)
theorem PGs.weak {e : List Expr} {t t' : TGs} (h : PGs X e t) (i : ∀ v σ H Q, t' v σ H Q → t v σ H Q) : PGs X e t' := ⟨fun pins s σ H v u Q I r q => h.run pins s σ H v u Q I r (i v σ H Q q)⟩
def gdNil : TDgs := fun ds ρ M k => ds = [] ∧ k ρ M
def gdCons (t : TDg) (u : TDgs) : TDgs := fun ds ρ M k => ∃ d r, ds = d :: r ∧ t (.dat d) ρ M fun ρ1 M1 => u r ρ1 M1 k
theorem qgs_nil : QGs X [] gdNil := by
  refine ⟨PGs.weak pgs_nil fun vs σ H Q h => ?_⟩
  obtain ⟨B, ds, ρ, M, k, ok, rs, r, ⟨rfl, t⟩, f⟩ := h
  cases r
  exact ⟨rfl, f _ M _ H t Ext.refl ok rs⟩
theorem qgs_cons {e : Expr} {es : List Expr} {t : TDg} {u : TDgs} (h1 : QG X e t) (h2 : QGs X es u)
    (hs : (assignEach (e :: es) X.env).map (·.2) = assign e X.env :: (assignEach es X.env).map (·.2) := by rfl) : QGs X (e :: es) (gdCons t u) := by
  refine ⟨PGs.weak (pgs_cons h1.pg h2.pgs hs) fun vs σ H Q h => ?_⟩
  obtain ⟨B, ds, ρ, M, k, ok, rs, r, ⟨d, rest, rfl, t⟩, f⟩ := h
  cases r with
  | cons a b => exact ⟨_, _, rfl, B, .dat d, ρ, M, _, ok, rs, a, t, fun ρ1 M1 σ1 H1 q e o rs1 => ⟨B, rest, ρ1, M1, k, o, rs1, RpAll.ext e b, q, f.of e⟩⟩
def gdTup (n : Nat) (t : TDgs) : TDg := fun x ρ M k => ∃ ds, cview M x = some (.tuple ds) ∧ ds.length = n ∧ t ds ρ M k
theorem lift_tup {n : Nat} {t : TDgs} {v : V} {σ : L2.St} {H : Hp} {Q : L2.St → Hp → Prop} (h : liftG X (gdTup n t) v σ H Q) : gTup X.K n (liftGs X t) v σ H Q := by
  obtain ⟨B, x, ρ, M, k, ok, rs, r, ⟨ds, hv, hl, t⟩, f⟩ := h
  have r' := cview_rp r hv fun _ h => by cases h
  cases r' with
  | tup s q => exact ⟨_, _, rfl, Same.seqT fz_same s, (RpAll.length q).trans hl, B, ds, ρ, M, k, ok, rs, q, t, f⟩
theorem qg_tup {es : List Expr} {k n : Nat} {t : TDgs} {pos : Pos} (h : QGs X es t) (hc : X.calm = true := by rfl) (hn : (assignEach es X.env).length = n := by rfl)
    (hst : (assignEach es X.env).findIdx? (·.1) = none := by rfl) : QG X (.Tuple es k pos) (gdTup n t) := ⟨PG.weak (pg_tup hc h.pgs hn hst) fun v σ H Q h => lift_tup h⟩
/-- target = e -/
def dAsg (t : TD) (g : TDg) : TDs := fun De ρ M => t ρ M fun x M1 => g x ρ M1 De.nx
theorem lift_asg {t : TD} {g : TDg} {D : Ends} {σ : L2.St} {H : Hp} (h : liftS X (dAsg t g) D σ H) : tAsg (liftE X t) (liftG X g) D σ H := by
  obtain ⟨B, ρ, M, De, ok, rs, t, f⟩ := h
  exact bindE ok rs t fun x M1 v H1 q e o r rs1 => ⟨B, x, ρ, M1, De.nx, o, rs1, r, q, f.nx.of e⟩
theorem qs_asg {tg e : Expr} {pos : Pos} {t : TD} {g : TDg} (he : QE X e t) (hg : QG X tg g) (hs : swapsWithSole [tg] e pos.line X.env = pure false := by rfl) (hw : swappedStores [tg] e X.env = pure none := by rfl)
    (h1 : (assignEach [tg] X.env).map (·.2) = [assign tg X.env] := by rfl) : QS X (.Assign [tg] e pos) (dAsg t g) := ⟨PS.weak (ps_asg he.pe hg.pg hs hw h1) fun D σ H h => lift_asg h⟩
/-- name = e -/
def dSet (i : Nat) (t : TD) : TDs := fun De ρ M => t ρ M fun x M1 => De.nx (ρ.set i (some x)) M1
theorem qs_set {i : Nat} {x : Str} {e : Expr} {t : TD} {pos pos' : Pos} (hN : X.N.Nodup) (hi : X.N[i]? = some x) (hx : Loc X.env.scope x) (he : QE X e t) (hs : swapsWith e (some (.Name x pos')) pos.line X.env = pure false := by rfl) (hf : X.fn x = true ∨ X.env.scope.names.lookup x = some .local := by first | exact .inl rfl | exact .inr rfl | assumption) :
    QS X (.Assign [.Name x pos'] e pos) (dSet i t) := by
  refine ⟨PS.weak (ps_set hN hi hx he.pe hs hf) fun D σ H h => ?_⟩
  obtain ⟨B, ρ, M, De, ok, rs, t, f⟩ := h
  exact bindE ok rs t fun x M1 v H1 q e o r rs1 => f.nx _ M1 _ H1 q e o (RepS.set rs1 r i)

/-! ### what a for walks -/
/-- the items; the owned list that they are, if it is one, which must stay -/
def stay (src : Option (Addr × MO)) (M : MS) : Prop := match src with
  | none => True
  | some (a, o) => M a = some o
abbrev KI := List PyData → Option (Addr × MO) → MS → Prop
abbrev TDi := Rho → MS → KI → Prop
structure ItOk (X : Cx) (B : List Addr) (M1 : MS) (H1 : Hp) (J : It) (its : List PyData) (src : Option (Addr × MO)) : Prop where
  go : ∀ B' M H i, OkM X.K X.prog X.w B' M H → Same (fz B M1 H1) (fz B' M H) → stay src M → i < its.length → J.go i H
  stop : ∀ B' M H i, OkM X.K X.prog X.w B' M H → Same (fz B M1 H1) (fz B' M H) → stay src M → its.length ≤ i → J.stop i H
  yld : ∀ B' M H i x H', OkM X.K X.prog X.w B' M H → Same (fz B M1 H1) (fz B' M H) → stay src M → i < its.length → J.yld i H x H' → ∃ d, its[i]? = some d ∧ Ext B' M H M H' ∧ OkM X.K X.prog X.w B' M H' ∧ Rp X.K (fz B' M H') x d
def liftI (X : Cx) (t : TDi) : TI := fun σ H R => ∃ B ρ M k, OkM X.K X.prog X.w B M H ∧ RepS X.K B M H σ ρ ∧ t ρ M k ∧ ∀ its src M1, k its src M1 → ∀ J H1, Ext B M H M1 H1 → OkM X.K X.prog X.w B M1 H1 → ItOk X B M1 H1 J its src → R J H1
structure QI (X : Cx) (tg iter : Expr) (t : TDi) : Prop where
  pi : PI X tg iter (liftI X t)
theorem PI.weak {tg e : Expr} {t t' : TI} (h : PI X tg e t) (i : ∀ σ H Q, t' σ H Q → t σ H Q) : PI X tg e t' := ⟨fun pins s σ H Q I q => h.run pins s σ H Q I (i σ H Q q)⟩

def forD (g : TDg) (tb : TDs) (De : DEnds) (src : Option (Addr × MO)) : List PyData → Rho → MS → Prop
  | [], ρ, M => stay src M ∧ De.nx ρ M
  | d :: ds, ρ, M => stay src M ∧ g (.dat d) ρ M fun ρ1 M1 => tb { De with nx := forD g tb De src ds, ct := forD g tb De src ds, bk := De.nx } ρ1 M1
def dFor (ti : TDi) (g : TDg) (tb : TDs) : TDs := fun De ρ M => ti ρ M fun its src M1 => forD g tb De src its ρ M1
theorem lift_for {ti : TDi} {g : TDg} {tb : TDs} {D : Ends} {σ : L2.St} {H : Hp} (h : liftS X (dFor ti g tb) D σ H) : tFor (liftI X ti) (liftG X g) (liftS X tb) D σ H := by
  obtain ⟨B, ρ, M, De, ok, rs, t, f⟩ := h
  refine ⟨B, ρ, M, _, ok, rs, t, fun its src M1 q J H1 e o io => ?_⟩
  refine ⟨fun i m σ' H' => ∃ ρ' M', OkM X.K X.prog X.w B M' H' ∧ RepS X.K B M' H' σ' ρ' ∧ Ext B M H M' H' ∧ Ext B M1 H1 M' H' ∧ i + m = its.length ∧ forD g tb De src (its.drop i) ρ' M', ⟨its.length, ρ, M1, o, rs.ext e, e, Ext.refl, by simp, by simpa using q⟩, ?_⟩
  rintro i m σ' H' ⟨ρ', M', ok', rs', e', e1', hm, hf⟩
  by_cases hi : i < its.length
  · have hd : its.drop i = its[i] :: its.drop (i + 1) := List.drop_eq_getElem_cons hi
    rw [hd] at hf
    obtain ⟨st, hg⟩ := hf
    refine .inr ⟨io.go B M' H' i ok' e1'.same st hi, fun σ2 H2 => ∃ ρ2 M2, OkM X.K X.prog X.w B M2 H2 ∧ RepS X.K B M2 H2 σ2 ρ2 ∧ Ext B M H M2 H2 ∧ Ext B M1 H1 M2 H2 ∧ forD g tb De src (its.drop (i + 1)) ρ2 M2, fun σ2 H2 ⟨ρ2, M2, a, b, c, c1, d⟩ => ⟨m - 1, by omega, ρ2, M2, a, b, c, c1, by omega, d⟩, fun x H2 hy => ?_⟩
    obtain ⟨d, hd2, ex, ok2, rp⟩ := io.yld B M' H' i x H2 ok' e1'.same st hi hy
    have hdd : d = its[i] := by rw [List.getElem?_eq_getElem hi] at hd2; exact (Option.some.inj hd2).symm
    subst hdd
    refine ⟨B, .dat its[i], ρ', M', _, ok2, rs'.ext ex, rp, hg, fun ρ3 M3 σ3 H3 q3 e3 o3 rs3 => ?_⟩
    have e4 : Ext B M H M3 H3 := e'.trans (ex.trans e3)
    refine ⟨B, ρ3, M3, _, o3, rs3, q3, ⟨fun ρ4 M4 σ4 H4 q4 e5 o4 rs4 => ⟨ρ4, M4, o4, rs4, e4.trans e5, e1'.trans (ex.trans (e3.trans e5)), q4⟩, fun d M' q => (f.rt d M' q).of e4, f.nx.of e4, fun ρ4 M4 σ4 H4 q4 e5 o4 rs4 => ⟨ρ4, M4, o4, rs4, e4.trans e5, e1'.trans (ex.trans (e3.trans e5)), q4⟩⟩⟩
  · have hd : its.drop i = [] := List.drop_eq_nil_of_le (by omega)
    rw [hd] at hf
    exact .inl ⟨io.stop B M' H' i ok' e1'.same hf.1 (by omega), f.nx ρ' M' σ' H' hf.2 e' ok' rs'⟩
theorem qs_for {tg iter : Expr} {body : List Stmt} {ti : TDi} {g : TDg} {tb : TDs} {pos : Pos} (hi : QI X tg iter ti) (hg : QG X tg g) (hb : QSs X body tb) (hp : PassesOwn (model X.prog X.w) X.A X.env X.xe := by exact PassesOwn.never) (hc : X.calm = true := by rfl)
    (hs : ∀ x, foldedSetIterable iter X.env x = pure x := by intro _; rfl) : QS X (.For tg iter body [] pos) (dFor ti g tb) := ⟨PS.weak (ps_for hp hc hi.pi hg.pg hb.pss hs) fun D σ H h => lift_for h⟩

def whileD (c : TDb) (tb : TDs) (De : DEnds) : Nat → Rho → MS → Prop
  | 0, _, _ => False
  | n + 1, ρ, M => c ρ M fun b M1 => if b = true then tb { De with nx := whileD c tb De n, ct := whileD c tb De n, bk := De.nx } ρ M1 else De.nx ρ M1
def dWhile (c : TDb) (tb : TDs) : TDs := fun De ρ M => ∃ n, whileD c tb De n ρ M
theorem lift_while {c : TDb} {tb : TDs} {D : Ends} {σ : L2.St} {H : Hp} (h : liftS X (dWhile c tb) D σ H) : tWhile (liftT X c) (liftS X tb) D σ H := by
  obtain ⟨B, ρ, M, De, ok, rs, ⟨n, t⟩, f⟩ := h
  refine ⟨fun m σ' H' => ∃ ρ' M', OkM X.K X.prog X.w B M' H' ∧ RepS X.K B M' H' σ' ρ' ∧ Ext B M H M' H' ∧ whileD c tb De m ρ' M', ⟨n, ρ, M, ok, rs, Ext.refl, t⟩, ?_⟩
  rintro m σ' H' ⟨ρ', M', ok', rs', e', hw⟩
  cases m with
  | zero => exact hw.elim
  | succ m =>
    refine bindT ok' rs' hw fun b M1 H1 q e o rs1 => ?_
    cases b with
    | false => exact f.nx ρ' M1 σ' H1 q (e'.trans e) o rs1
    | true =>
      refine ⟨fun σ2 H2 => ∃ ρ2 M2, OkM X.K X.prog X.w B M2 H2 ∧ RepS X.K B M2 H2 σ2 ρ2 ∧ Ext B M H M2 H2 ∧ whileD c tb De m ρ2 M2, fun σ2 H2 h => ⟨m, Nat.lt_succ_self m, h⟩, ?_⟩
      have e4 : Ext B M H M1 H1 := e'.trans e
      exact ⟨B, ρ', M1, _, o, rs1, q, ⟨fun ρ4 M4 σ4 H4 q4 e5 o4 rs4 => ⟨ρ4, M4, o4, rs4, e4.trans e5, q4⟩, fun d M' q => (f.rt d M' q).of e4, f.nx.of e4, fun ρ4 M4 σ4 H4 q4 e5 o4 rs4 => ⟨ρ4, M4, o4, rs4, e4.trans e5, q4⟩⟩⟩
theorem qs_while {c : Expr} {body : List Stmt} {tc : TDb} {tb : TDs} {pos : Pos} (hc : QT X c tc) (hb : QSs X body tb) (hp : PassesOwn (model X.prog X.w) X.A X.env X.xe := by exact PassesOwn.never) : QS X (.While c body [] pos) (dWhile tc tb) := ⟨PS.weak (ps_while hp hc.pt hb.pss) fun D σ H h => lift_while h⟩

/-! ### what is walked: a list or tuple; a range -/
def diSeq (t : TD) : TDi := fun ρ M k => t ρ M fun x M1 => (∃ ds, x = .dat (.list ds) ∧ k ds none M1) ∨ (∃ a ds, x = .ref a ∧ M1 a = some (.lst ds) ∧ k ds (some (a, .lst ds)) M1)
def diTup (t : TD) : TDi := fun ρ M k => t ρ M fun x M1 => ∃ ds, cview M1 x = some (.tuple ds) ∧ k ds none M1
theorem qi_list {tg l : Expr} {t : TD} (h : QE X l t) : QI X tg l (diSeq t) := by
  refine ⟨PI.weak (pi_list h.pe) fun σ H R h => ?_⟩
  obtain ⟨B, ρ, M, k, ok, rs, t, f⟩ := h
  refine bindE ok rs t fun x M1 v H1 q e o r rs1 => ?_
  have inj : ∀ {M2 : MS} {H2 : Hp} {a : Addr} {vs ws : List V}, H2 a = some (.lst vs) → SqL X.K H2 a ws → OkM X.K X.prog X.w B M2 H2 → True := fun _ _ _ => trivial
  rcases q with ⟨ds, rfl, q⟩ | ⟨a, ds, rfl, hm, q⟩
  · cases r with
    | lst s ra =>
      rename_i a vs
      refine ⟨a, rfl, ⟨vs, SqL.of (fz_same _ _ s)⟩, f ds none M1 q _ H1 e o ⟨fun B' M2 H2 i o2 e2 _ hi => ?_, fun B' M2 H2 i o2 e2 _ hi => ?_, fun B' M2 H2 i x H' o2 e2 _ hi hy => ?_⟩⟩
      · obtain ⟨u, hu, _⟩ := RpAll.get ra (List.getElem?_eq_getElem hi)
        exact ⟨vs, u, SqL.of (fz_same _ _ (e2 _ _ s)), hu⟩
      · exact ⟨vs, SqL.of (fz_same _ _ (e2 _ _ s)), by rw [RpAll.length ra]; exact hi⟩
      · obtain ⟨rfl, hall⟩ := hy
        obtain ⟨u, hu, hr⟩ := RpAll.get ra (List.getElem?_eq_getElem hi)
        have := hall vs (SqL.of (fz_same _ _ (e2 _ _ s)))
        rw [hu] at this
        cases this
        exact ⟨_, List.getElem?_eq_getElem hi, Ext.refl, o2, Rp.same e2 _ _ hr⟩
  · cases r
    obtain ⟨vs0, h0, _⟩ := o.rep a _ hm
    refine ⟨a, rfl, ⟨vs0, SqL.of h0⟩, f ds _ M1 q _ H1 e o ⟨fun B' M2 H2 i o2 e2 st hi => ?_, fun B' M2 H2 i o2 e2 st hi => ?_, fun B' M2 H2 i x H' o2 e2 st hi hy => ?_⟩⟩
    · obtain ⟨vs, h1, ra⟩ := o2.rep a _ st
      obtain ⟨u, hu, _⟩ := RpAll.get ra (List.getElem?_eq_getElem hi)
      exact ⟨vs, u, SqL.of h1, hu⟩
    · obtain ⟨vs, h1, ra⟩ := o2.rep a _ st
      exact ⟨vs, SqL.of h1, by rw [RpAll.length ra]; exact hi⟩
    · obtain ⟨vs, h1, ra⟩ := o2.rep a _ st
      obtain ⟨rfl, hall⟩ := hy
      obtain ⟨u, hu, hr⟩ := RpAll.get ra (List.getElem?_eq_getElem hi)
      have := hall vs (SqL.of h1)
      rw [hu] at this
      cases this
      exact ⟨_, List.getElem?_eq_getElem hi, Ext.refl, o2, hr⟩
theorem qi_tup {tg l : Expr} {t : TD} (h : QE X l t) : QI X tg l (diTup t) := by
  refine ⟨PI.weak (pi_tup h.pe) fun σ H R h => ?_⟩
  obtain ⟨B, ρ, M, k, ok, rs, t, f⟩ := h
  refine bindE ok rs t fun x M1 v H1 q e o r rs1 => ?_
  obtain ⟨ds, hv, q⟩ := q
  have r' := cview_rp r hv fun _ h => by cases h
  cases r' with
  | tup s ra =>
    rename_i a vs
    refine ⟨a, rfl, ⟨vs, Same.seqT fz_same s⟩, f ds none M1 q _ H1 e o ⟨fun B' M2 H2 i o2 e2 _ hi => ?_, fun B' M2 H2 i o2 e2 _ hi => ?_, fun B' M2 H2 i x H' o2 e2 _ hi hy => ?_⟩⟩
    · obtain ⟨u, hu, _⟩ := RpAll.get ra (List.getElem?_eq_getElem hi)
      exact ⟨vs, u, Same.seqT fz_same (Same.seqT e2 s), hu⟩
    · exact ⟨vs, Same.seqT fz_same (Same.seqT e2 s), by rw [RpAll.length ra]; exact hi⟩
    · obtain ⟨rfl, hall⟩ := hy
      obtain ⟨u, hu, hr⟩ := RpAll.get ra (List.getElem?_eq_getElem hi)
      have := hall vs (Same.seqT fz_same (Same.seqT e2 s))
      rw [hu] at this
      cases this
      exact ⟨_, List.getElem?_eq_getElem hi, Ext.refl, o2, Rp.same e2 _ _ hr⟩
def rangeD (lo : Int) (n : Nat) : List PyData := (List.range n).map fun i => .int (lo + (i : Nat))
theorem itOk_range {B : List Addr} {M1 : MS} {H1 : Hp} (lo : Int) (n : Nat) : ItOk X B M1 H1 (Itr lo n) (rangeD lo n) none where
  go := fun B' M H i _ _ _ hi => by show i < n; simpa [rangeD] using hi
  stop := fun B' M H i _ _ _ hi => by show n ≤ i; simpa [rangeD] using hi
  yld := fun B' M H i x H' o _ _ hi ⟨e1, e2⟩ => by
    subst e1 e2
    have hi' : i < n := by simpa [rangeD] using hi
    exact ⟨.int (lo + i), by simp [rangeD, hi'], Ext.refl, o, .int _⟩
def diRange1 (t : TDa) : TDi := fun ρ M k => t ρ M fun xs M1 => ∃ j : Int, xs = [.dat (.int j)] ∧ (-(2 ^ 62) ≤ j ∧ j < 2 ^ 62) ∧ k (rangeD 0 j.toNat) none M1
theorem qi_range1 {tg a : Expr} {ta : TDa} {p pos : Pos} (hg : Gl X "range") (hm : X.mg "range" = none) (ha : QA X [a] ta) (hs : starEach [a] X.env = [(false, eval a X.env)] := by rfl) : QI X tg (.Call (.Name "range" p) [a] [] pos) (diRange1 ta) := by
  refine ⟨PI.weak (pi_range1 hg hm ha.pa hs) fun σ H R h => ?_⟩
  obtain ⟨B, ρ, M, k, ok, rs, t, f⟩ := h
  refine bindA ok rs t fun xs M1 vs H1 q e o r rs1 => ?_
  obtain ⟨j, rfl, ⟨h1, h2⟩, q⟩ := q
  obtain ⟨v, rfl, rv⟩ := RVs.one r
  cases rv
  exact ⟨j, rfl, h1, h2, f _ _ M1 q _ H1 e o (itOk_range 0 _)⟩
def diRange2 (t : TDa) : TDi := fun ρ M k => t ρ M fun xs M1 => ∃ i j : Int, xs = [.dat (.int i), .dat (.int j)] ∧ (-(2 ^ 62) ≤ i ∧ i < 2 ^ 62 ∧ -(2 ^ 62) ≤ j ∧ j < 2 ^ 62) ∧ k (rangeD i (j - i).toNat) none M1
end
end Kf

/-! Kf, comprehensions, defs and calls, objects. -/
namespace Kf
open PySem PySem.Spec PyProof.Rows L2
/-! ### what is hidden may change -/
section
variable {K : PySem.W.Frag} {P : Program} {w : World} {B : List Addr} {M : MS} {H : Hp} {D : Addr}
theorem fz_hidden {o : HO} (h : D ∈ B) : fz B M (upd H D o) = fz B M H := by
  funext b
  unfold fz
  by_cases n : b = D
  · subst n; rw [if_pos (Or.inr h), if_pos (Or.inr h)]
  · rw [upd_ne n]
theorem RepO.hidden {o : HO} {a : Addr} {u : MO} (h : D ∈ B) (n : a ≠ D) (r : RepO K P w B M H a u) : RepO K P w B M (upd H D o) a u := by
  cases u with
  | lst ds => obtain ⟨vs, h1, h2⟩ := r; exact ⟨vs, by rw [upd_ne n]; exact h1, by rw [fz_hidden h]; exact h2⟩
  | dicV kvs => obtain ⟨vs, h1, h2⟩ := r; exact ⟨vs, by rw [upd_ne n]; exact h1, by unfold EntV; rw [fz_hidden h]; exact h2⟩
  | dicT kvs => obtain ⟨vs, h1, h2, h3⟩ := r; exact ⟨vs, by rw [upd_ne n]; exact h1, by unfold EntT; rw [fz_hidden h]; exact h2, h3⟩
  | lstR as => exact (upd_ne n).trans r
  | dicF od xs kvs => obtain ⟨h1, h2, h3⟩ := r; exact ⟨(upd_ne n).trans h1, by unfold EntT; rw [fz_hidden h]; exact h2, h3⟩
  | obj C fs =>
    obtain ⟨dx, vs, h1, h2⟩ := r
    refine ⟨dx, vs, by rw [upd_ne n]; exact h1, Paired.mapQ h2 fun p q e => ⟨e.1, ?_⟩⟩
    have e2 := e.2
    cases hp : p.2 with
    | dat d => rw [hp] at e2; show Rp K (fz B M (upd H D o)) q.2 d; rw [fz_hidden h]; exact e2
    | ref a => rw [hp] at e2; exact e2
    | scr ns => rw [hp] at e2; obtain ⟨a, z1, z2⟩ := e2; exact ⟨a, z1, by rw [fz_hidden h]; exact z2⟩
theorem ok_hidden {o : HO} (h : D ∈ B) (ok : OkM K P w B M H) : OkM K P w B M (upd H D o) := ⟨fun a u q => RepO.hidden h (fun z => by rw [z, (ok.hid D h).1] at q; cases q) (ok.rep a u q), fun b hb => ⟨(ok.hid b hb).1, by
  by_cases n : b = D
  · exact ⟨o, by rw [n]; exact upd_same⟩
  · rw [upd_ne n]; exact (ok.hid b hb).2⟩⟩
/-- hidden from here on -/
theorem fz_hide : Same (fz (D :: B) M H) (fz B M H) := fun b o h => fz_mk (fz_some h).1 (fun z => fz_out h (List.mem_cons_of_mem _ z)) (fz_some h).2
theorem Paired.mapI {α β : Type} {F G : α → β → Prop} {l₁ : List α} {l₂ : List β} (h : Paired F l₁ l₂) (f : ∀ a b, F a b → G a b) : Paired G l₁ l₂ := Paired.mapQ h f
theorem RV.unhide {v : V} {x : DV} (h : RV K (D :: B) M H v x) : RV K B M H v x := by
  cases x with
  | dat d => exact Rp.same fz_hide _ _ h
  | ref a => exact h
  | scr ns => obtain ⟨a, h1, h2⟩ := h; exact ⟨a, h1, Same.seq fz_hide h2⟩
theorem ok_unhide (ok : OkM K P w (D :: B) M H) : OkM K P w B M H := ⟨fun a u q => by
  have r := ok.rep a u q
  cases u with
  | lst ds => obtain ⟨vs, h1, h2⟩ := r; exact ⟨vs, h1, RpAll.same fz_hide _ _ h2⟩
  | dicV kvs => obtain ⟨vs, h1, h2⟩ := r; exact ⟨vs, h1, Paired.mapQ h2 fun _ _ e => ⟨e.1, Rp.same fz_hide _ _ e.2⟩⟩
  | dicT kvs => obtain ⟨vs, h1, h2, h3⟩ := r; exact ⟨vs, h1, Paired.mapQ h2 fun _ _ e => ⟨e.1, Rp.same fz_hide _ _ e.2.1, e.2.2.1, let ⟨v, a, b⟩ := e.2.2.2; ⟨v, a, Rp.same fz_hide _ _ b⟩⟩, h3⟩
  | lstR as => exact r
  | dicF od xs kvs => obtain ⟨h1, h2, h3⟩ := r; exact ⟨h1, Paired.mapQ h2 fun _ _ e => ⟨e.1, Rp.same fz_hide _ _ e.2.1, e.2.2.1, let ⟨v, a, b⟩ := e.2.2.2; ⟨v, a, Rp.same fz_hide _ _ b⟩⟩, h3⟩
  | obj C fs => obtain ⟨dx, vs, h1, h2⟩ := r; exact ⟨dx, vs, h1, Paired.mapQ h2 fun _ _ e => ⟨e.1, RV.unhide e.2⟩⟩, fun b hb => ok.hid b (List.mem_cons_of_mem _ hb)⟩
/-- a new object, hidden at once -/
theorem hide_new {o : HO} (ok : OkM K P w B M H) (h : H D = none) : Same (fz B M H) (fz (D :: B) M (upd H D o)) := fun b u q => by
  have n := ne_of_none (fz_some q).2 h
  exact fz_mk (fz_some q).1 (fun z => by rcases List.mem_cons.mp z with z | z; exact n z; exact fz_out q z) (by rw [upd_ne n]; exact (fz_some q).2)
theorem RV.same' {B B' : List Addr} {M M' : MS} {H H' : Hp} (s : Same (fz B M H) (fz B' M' H')) {v : V} {x : DV} (h : RV K B M H v x) : RV K B' M' H' v x := by
  cases x with
  | dat d => exact Rp.same s _ _ h
  | ref a => exact h
  | scr ns => obtain ⟨a, h1, h2⟩ := h; exact ⟨a, h1, Same.seq s h2⟩
theorem ok_hide {o : HO} (ok : OkM K P w B M H) (h : H D = none) : OkM K P w (D :: B) M (upd H D o) := ⟨fun a u q => by
  have r := ok.rep a u q
  have s : Same (fz B M H) (fz (D :: B) M (upd H D o)) := hide_new ok h
  have n : a ≠ D := fun z => by rw [z, ok.fresh h] at q; cases q
  cases u with
  | lst ds => obtain ⟨vs, h1, h2⟩ := r; exact ⟨vs, by rw [upd_ne n]; exact h1, RpAll.same s _ _ h2⟩
  | dicV kvs => obtain ⟨vs, h1, h2⟩ := r; exact ⟨vs, by rw [upd_ne n]; exact h1, Paired.mapQ h2 fun _ _ e => ⟨e.1, Rp.same s _ _ e.2⟩⟩
  | dicT kvs => obtain ⟨vs, h1, h2, h3⟩ := r; exact ⟨vs, by rw [upd_ne n]; exact h1, Paired.mapQ h2 fun _ _ e => ⟨e.1, Rp.same s _ _ e.2.1, e.2.2.1, let ⟨v, a, b⟩ := e.2.2.2; ⟨v, a, Rp.same s _ _ b⟩⟩, h3⟩
  | lstR as => exact (upd_ne n).trans r
  | dicF od xs kvs => obtain ⟨h1, h2, h3⟩ := r; exact ⟨(upd_ne n).trans h1, Paired.mapQ h2 fun _ _ e => ⟨e.1, Rp.same s _ _ e.2.1, e.2.2.1, let ⟨v, a, b⟩ := e.2.2.2; ⟨v, a, Rp.same s _ _ b⟩⟩, h3⟩
  | obj C fs => obtain ⟨dx, vs, h1, h2⟩ := r; exact ⟨dx, vs, by rw [upd_ne n]; exact h1, Paired.mapQ h2 fun _ _ e => ⟨e.1, RV.same' s e.2⟩⟩, fun b hb => by
  rcases List.mem_cons.mp hb with z | z
  · subst z; exact ⟨ok.fresh h, o, upd_same⟩
  · exact ⟨(ok.hid b z).1, by rw [upd_ne (show b ≠ D from fun y => ok.out h (y ▸ z))]; exact (ok.hid b z).2⟩⟩
end
/-! ### comprehensions -/
def wipeD (ρ : Rho) : List Nat → Rho
  | [] => ρ
  | v :: vs => (wipeD ρ vs).set v none
theorem RepS.setN {K : PySem.W.Frag} {B : List Addr} {M : MS} {H : Hp} {σ : L2.St} {ρ : Rho} (r : RepS K B M H σ ρ) (i : Nat) : RepS K B M H (σ.set i none) (ρ.set i none) := by
  refine ⟨by rw [List.length_set, List.length_set]; exact r.1, fun j d e => ?_⟩
  by_cases n : i = j
  · subst n
    have hl : i < ρ.length := by
      have := (List.getElem?_eq_some_iff.mp e).1
      rwa [List.length_set] at this
    rw [List.getElem?_set_self hl] at e
    cases e
  · rw [List.getElem?_set_ne n] at e
    obtain ⟨u, a, b⟩ := r.2 j d e
    exact ⟨u, by rw [List.getElem?_set_ne n]; exact a, b⟩
theorem RepS.wipe {K : PySem.W.Frag} {B : List Addr} {M : MS} {H : Hp} {σ : L2.St} {ρ : Rho} (r : RepS K B M H σ ρ) : ∀ vs : List Nat, RepS K B M H (L2.wipe σ vs) (wipeD ρ vs)
  | [] => r
  | v :: vs => RepS.setN (RepS.wipe r vs) v
/-- a comprehension's target -/
inductive CT where
  | one (i : Nat)
  | two (i j : Nat)
def CT.own : CT → List Nat
  | .one i => [i]
  | .two i j => [i, j]
def CT.put : CT → PyData → Rho → Option Rho
  | .one i, d, ρ => some (ρ.set i (some (.dat d)))
  | .two i j, .tuple [a, b], ρ => some ((ρ.set i (some (.dat a))).set j (some (.dat b)))
  | .two _ _, _, _ => none
def CT.g (K : PySem.W.Frag) : CT → TG
  | .one i => gName i
  | .two i j => gTup K 2 (gCons (gName i) (gCons (gName j) gNil))
theorem CT.run {K : PySem.W.Frag} {P : Program} {w : World} {B : List Addr} {M : MS} {H : Hp} {σ : L2.St} {ρ ρ2 : Rho} {x : V} {d : PyData} {Q : L2.St → Hp → Prop} : ∀ (c : CT), RepS K B M H (L2.wipe σ c.own) (wipeD ρ c.own) → Rp K (fz B M H) x d → c.put d (wipeD ρ c.own) = some ρ2 →
    (∀ σ2, L2.wipe σ2 c.own = L2.wipe σ c.own → RepS K B M H σ2 ρ2 → Q σ2 H) → c.g K x (L2.wipe σ c.own) H Q
  | .one i, rs, r, e, f => by
    cases e
    refine f _ ?_ (RepS.set (x := .dat d) rs r i)
    show (List.set (List.set (List.set σ i none) i (some x)) i none) = List.set σ i none
    rw [List.set_set, List.set_set]
  | .two i j, rs, r, e, f => by
    cases d with
    | tuple ds =>
      match ds, e with
      | [a, b], e =>
        cases e
        cases r with
        | tup s q =>
          rename_i ad vs
          cases q with
          | cons ra q => cases q with
            | cons rb q =>
              cases q
              rename_i va vb
              refine ⟨ad, [va, vb], rfl, Same.seqT fz_same s, rfl, va, [vb], rfl, vb, [], rfl, rfl, ?_⟩
              refine f _ ?_ (RepS.set (x := .dat b) (RepS.set (x := .dat a) rs ra i) rb j)
              show List.set (List.set (List.set (List.set (List.set (List.set σ j none) i none) i (some va)) j (some vb)) j none) i none = List.set (List.set σ j none) i none
              by_cases n : i = j
              · subst n; simp only [List.set_set]
              · rw [List.set_set, List.set_set, List.set_comm _ _ (Ne.symm n), List.set_set, List.set_comm _ _ n, List.set_set]
    | _ => cases e
def compD (c : CT) (tt : TDb) (te : TD) (ρ : Rho) (src : Option (Addr × MO)) : List PyData → List PyData → MS → (List PyData → MS → Prop) → Prop
  | [], acc, M, k => stay src M ∧ k acc M
  | d :: ds, acc, M, k => stay src M ∧ ∃ ρ2, c.put d (wipeD ρ c.own) = some ρ2 ∧ tt ρ2 M fun b M3 => if b = true then te ρ2 M3 fun y M4 => ∃ e, y = .dat e ∧ acc.length < sizeLine ∧ compD c tt te ρ src ds (acc ++ [e]) M4 k else compD c tt te ρ src ds acc M3 k
def dLc (ti : TDi) (c : CT) (tt : TDb) (te : TD) : TD := fun ρ M k => ti ρ M fun its src M1 => compD c tt te ρ src its [] M1 fun ds M2 => k (.dat (.list ds)) M2
section
variable {X : Cx}
theorem lift_lc {ti : TDi} {c : CT} {tt : TDb} {te : TD} {σ : L2.St} {H : Hp} {Q : VK} (h : liftE X (dLc ti c tt te) σ H Q) : tLc (liftI X ti) (c.g X.K) (liftT X tt) (liftE X te) c.own σ H Q := by
  obtain ⟨B, ρ, M, k, ok, rs, t, f⟩ := h
  refine ⟨B, ρ, M, _, ok, rs, t, fun its src M1 q J H1 e o io D hD => ?_⟩
  refine ⟨fun i m H' => ∃ M' acc vacc, H' D = some (.lst vacc) ∧ OkM X.K X.prog X.w (D :: B) M' H' ∧ RepS X.K (D :: B) M' H' (L2.wipe σ c.own) (wipeD ρ c.own) ∧ RpAll X.K (fz (D :: B) M' H') vacc acc ∧ Same (fz B M1 H1) (fz (D :: B) M' H') ∧ (∀ b, b ∈ B → H' b = H1 b) ∧ i + m = its.length ∧ compD c tt te ρ src (its.drop i) acc M' fun ds M2 => k (.dat (.list ds)) M2,
    ⟨its.length, M1, [], [], upd_same, ok_hide o hD, ?_, .nil, hide_new o hD, fun b hb => upd_ne fun z => o.out hD (z ▸ hb), by simp, by simpa using q⟩, ?_⟩
  · have r1 := RepS.wipe (rs.ext e) c.own
    exact ⟨r1.1, fun i d q => let ⟨v, a, b⟩ := r1.2 i d q; ⟨v, a, RV.same' (hide_new o hD) b⟩⟩
  rintro i m H' ⟨M', acc, vacc, hDl, ok', rs', ra, sm, hB, hm, hc⟩
  by_cases hi : i < its.length
  · have hd : its.drop i = its[i] :: its.drop (i + 1) := List.drop_eq_getElem_cons hi
    rw [hd] at hc
    obtain ⟨st, ρ2, hput, hc⟩ := hc
    refine .inr ⟨io.go (D :: B) M' H' i ok' sm st hi, fun H2 => ∃ M2 acc2 vacc2, H2 D = some (.lst vacc2) ∧ OkM X.K X.prog X.w (D :: B) M2 H2 ∧ RepS X.K (D :: B) M2 H2 (L2.wipe σ c.own) (wipeD ρ c.own) ∧ RpAll X.K (fz (D :: B) M2 H2) vacc2 acc2 ∧ Same (fz B M1 H1) (fz (D :: B) M2 H2) ∧ (∀ b, b ∈ B → H2 b = H1 b) ∧ compD c tt te ρ src (its.drop (i + 1)) acc2 M2 fun ds M2 => k (.dat (.list ds)) M2,
      fun H2 ⟨M2, acc2, vacc2, a1, a2, a3, a4, a5, a6, a7⟩ => ⟨m - 1, by omega, M2, acc2, vacc2, a1, a2, a3, a4, a5, a6, by omega, a7⟩, fun x H2 hy => ?_⟩
    obtain ⟨d, hd2, ex, ok2, rp⟩ := io.yld (D :: B) M' H' i x H2 ok' sm st hi hy
    have hdd : d = its[i] := by rw [List.getElem?_eq_getElem hi] at hd2; exact (Option.some.inj hd2).symm
    subst hdd
    refine CT.run (P := X.prog) (w := X.w) c (rs'.ext ex) rp hput fun σ2 hw rs2 => ⟨hw, ?_⟩
    have hin : D ∈ D :: B := List.mem_cons_self
    refine bindT ok2 rs2 hc fun b M3 H3 q3 e3 o3 rs3 => ?_
    have ex3 := ex.trans e3
    have hD3 : H3 D = some (.lst vacc) := (ex3.hid D hin).trans hDl
    cases b with
    | false =>
      rw [if_neg Bool.false_ne_true] at q3 ⊢
      exact ⟨M3, acc, vacc, hD3, o3, rs'.ext ex3, RpAll.ext ex3 ra, Same.trans sm ex3.same, fun b hb => (ex3.hid b (List.mem_cons_of_mem _ hb)).trans (hB b hb), q3⟩
    | true =>
      rw [if_pos rfl] at q3 ⊢
      refine bindE o3 rs3 q3 fun y M4 v4 H4 q4 e4 o4 r4 rs4 => ?_
      obtain ⟨e, rfl, hsz, q4⟩ := q4
      have ex4 := ex3.trans e4
      have hD4 : H4 D = some (.lst vacc) := (ex4.hid D hin).trans hDl
      have hf : ∀ o, fz (D :: B) M4 (upd H4 D o) = fz (D :: B) M4 H4 := fun o => fz_hidden hin
      refine ⟨vacc, hD4, by rw [RpAll.length ra]; exact hsz, M4, acc ++ [e], vacc ++ [v4], upd_same, ok_hidden hin o4, ?_, ?_, ?_, fun b hb => ?_, q4⟩
      · have r1 := rs'.ext ex4
        exact ⟨r1.1, fun i d q => let ⟨v, a, b⟩ := r1.2 i d q; ⟨v, a, RV.same' (by rw [hf]; exact Same.refl _) b⟩⟩
      · rw [hf]; exact RpAll.append (RpAll.ext ex4 ra) (.cons r4 .nil)
      · rw [hf]; exact Same.trans sm ex4.same
      · rw [upd_ne (show b ≠ D from fun z => by
          subst z
          exact o.out hD hb)]
        exact (ex4.hid b (List.mem_cons_of_mem _ hb)).trans (hB b hb)
  · have hd : its.drop i = [] := List.drop_eq_nil_of_le (by omega)
    rw [hd] at hc
    obtain ⟨st, hk⟩ := hc
    have okB := ok_unhide ok'
    have e2 : Ext B M1 H1 M' H' := ⟨Same.trans sm fz_hide, hB⟩
    exact .inl ⟨io.stop (D :: B) M' H' i ok' sm st (by omega), f _ M' hk _ _ (e.trans e2) okB (.lst (fz_mk (ok'.hid D List.mem_cons_self).1 (o.out hD) hDl) (RpAll.same fz_hide _ _ ra))⟩
theorem q_lc1 {elt iter : Expr} {x : Str} {px : Pos} {ifs : List Expr} {scope : Scope} {pos : Pos} {ti : TDi} {tt : TDb} {te : TD} {i : Nat} (hN : X.N.Nodup) (hi : QI X (.Name x px) iter ti) (ok : BlkOk X.N X.env.scope scope [(x, i)])
    (hg : ∀ (s : Shared) (H : Hp) (C : Addr) (cl : List (Str × Addr)) (fp : List Addr), PG (X.blk s H scope (compEnvC scope cl C X.env) fp) (.Name x px) (gName i)) (ht : ∀ (s : Shared) (H : Hp) (C : Addr) (cl : List (Str × Addr)) (fp : List Addr), PTs (X.blk s H scope (compEnvC scope cl C X.env) fp) ifs (liftT X tt))
    (he : ∀ (s : Shared) (H : Hp) (C : Addr) (cl : List (Str × Addr)) (fp : List Addr), PE (X.blk s H scope (compEnvC scope cl C X.env) fp) elt (liftE X te)) (hc : X.calm = true := by rfl) (hs : ∀ y, foldedSetIterable iter X.env y = pure y := by intro _; rfl) :
    QE X (.ListComp elt [⟨.Name x px, iter, ifs, 0⟩] scope pos) (dLc ti (.one i) tt te) :=
  ⟨PE.weak (pe_lc (own := [(x, i)]) hc hN hi.pi ok hg ht he hs) fun σ H Q h => lift_lc h⟩
theorem q_lc2 {elt iter : Expr} {x y : Str} {px py pt : Pos} {kt : Nat} {ifs : List Expr} {scope : Scope} {pos : Pos} {ti : TDi} {tt : TDb} {te : TD} {i j : Nat} (hN : X.N.Nodup) (hi : QI X (.Tuple [.Name x px, .Name y py] kt pt) iter ti) (ok : BlkOk X.N X.env.scope scope [(x, i), (y, j)])
    (hg : ∀ (s : Shared) (H : Hp) (C : Addr) (cl : List (Str × Addr)) (fp : List Addr), PG (X.blk s H scope (compEnvC scope cl C X.env) fp) (.Tuple [.Name x px, .Name y py] kt pt) (gTup X.K 2 (gCons (gName i) (gCons (gName j) gNil)))) (ht : ∀ (s : Shared) (H : Hp) (C : Addr) (cl : List (Str × Addr)) (fp : List Addr), PTs (X.blk s H scope (compEnvC scope cl C X.env) fp) ifs (liftT X tt))
    (he : ∀ (s : Shared) (H : Hp) (C : Addr) (cl : List (Str × Addr)) (fp : List Addr), PE (X.blk s H scope (compEnvC scope cl C X.env) fp) elt (liftE X te)) (hc : X.calm = true := by rfl) (hs : ∀ y, foldedSetIterable iter X.env y = pure y := by intro _; rfl) :
    QE X (.ListComp elt [⟨.Tuple [.Name x px, .Name y py] kt pt, iter, ifs, 0⟩] scope pos) (dLc ti (.two i j) tt te) :=
  ⟨PE.weak (pe_lc (own := [(x, i), (y, j)]) hc hN hi.pi ok hg ht he hs) fun σ H Q h => lift_lc h⟩
/-- no test -/
def dYes : TDb := fun _ M k => k true M
theorem qts_nil : PTs X [] (liftT X dYes) := ⟨fun pins s σ H Q I h => pts_nil.run pins s σ H Q I (by
  obtain ⟨B, ρ, M, k, ok, rs, t, f⟩ := h
  exact f _ M t H Ext.refl ok)⟩
theorem qts_one {e : Expr} {t : TDb} (h : QT X e t) : PTs X [e] (liftT X t) := pts_one h.pt

/-! ### defs and calls -/
abbrev DSp := List DV → MS → KD → Prop
def liftP (K : PySem.W.Frag) (P : Program) (w : World) (sp : DSp) : Sp := fun vs H Q _ => ∃ B ds M k, OkM K P w B M H ∧ RVs K B M H vs ds ∧ sp ds M k ∧ ∀ d M', k d M' → ∀ v H', Ext B M H M' H' → OkM K P w B M' H' → RV K B M' H' v d → Q v H'
def dCall (sp : DSp) (t : TDa) : TD := fun ρ M k => t ρ M fun ds M1 => sp ds M1 k
abbrev FnD (X : Cx) (k : Nat) (f : Addr) (fd : FuncData) (ps : List Str) (sp : DSp) : Prop := FnOk X.prog X.w X.K X.mg X.base CX0 k f fd ps (liftP X.K X.prog X.w sp)
theorem lift_call {sp : DSp} {t : TDa} {σ : L2.St} {H : Hp} {Q : VK} (h : liftE X (dCall sp t) σ H Q) : tCall (liftP X.K X.prog X.w sp) [] E0 (liftA X t) σ H Q := by
  obtain ⟨B, ρ, M, k, ok, rs, t, f⟩ := h
  refine bindA ok rs t fun xs M1 vs H1 q e o r rs1 => ?_
  rw [List.append_nil]
  exact ⟨B, xs, M1, k, o, r, q, fun d M' hk v H' e' o' r' => f d M' hk v H' (e.trans e') o' r'⟩
theorem q_call {k : Nat} {f : Addr} {fd : FuncData} {ps : List Str} {sp : DSp} {x : Str} {p pos : Pos} {e : Expr} {es : List Expr} {t : TDa} (F : FnD X k f fd ps sp) (hr : Room k X.A) (hg : Gl X x) (hm : X.mg x = some (.ref f)) (hk : PySem.W.keepIn X.K (.ref f) = true) (hb : Binds X.K fd ps []) (ha : QA X (e :: es) t)
    (hdb : (x == ("__debug__" : Str)) = false := by decide) (hs : starEach (e :: es) X.env = (false, eval e X.env) :: starEach es X.env := by rfl) (h2 : (backTo pos (starEach es X.env)).any (·.1) = false := by rfl) : QE X (.Call (.Name x p) (e :: es) [] pos) (dCall sp t) :=
  ⟨PE.weak (pe_call F hr hg hm hk hb .nil pass0 ha.pa hdb hs h2) fun σ H Q h => lift_call h⟩

/-! ### objects -/
theorem ent_lookup {K : PySem.W.Frag} {B : List Addr} {M : MS} {H : Hp} {f : Str} : ∀ {fs : List (Str × DV)} {fs' : List (Str × V)}, Paired (EntF K B M H) fs fs' → ∀ d, fs.lookup f = some d → ∃ v, fs'.lookup f = some v ∧ RV K B M H v d
  | _, _, .nil, d, h => by cases h
  | (g, x) :: fs, (g', x') :: fs', .cons ⟨a, b⟩ r, d, h => by
    have a' : g = g' := a
    subst a'
    rw [List.lookup_cons] at h ⊢
    cases e : f == g with
    | true => rw [e] at h; cases h; exact ⟨x', rfl, b⟩
    | false => rw [e] at h; exact ent_lookup r d h
theorem ent_none {K : PySem.W.Frag} {B : List Addr} {M : MS} {H : Hp} {f : Str} : ∀ {fs : List (Str × DV)} {fs' : List (Str × V)}, Paired (EntF K B M H) fs fs' → fs.lookup f = none → fs'.lookup f = none
  | _, _, .nil, h => rfl
  | (g, x) :: fs, (g', x') :: fs', .cons ⟨a, b⟩ r, h => by
    have a' : g = g' := a
    subst a'
    rw [List.lookup_cons] at h ⊢
    cases e : f == g with
    | true => rw [e] at h; cases h
    | false => rw [e] at h; exact ent_none r h
def putD (f : Str) (v : DV) : List (Str × DV) → List (Str × DV)
  | [] => [(f, v)]
  | (g, x) :: r => if g = f then (g, v) :: r else (g, x) :: putD f v r
theorem ent_put {K : PySem.W.Frag} {B : List Addr} {M : MS} {H : Hp} {f : Str} {v : V} {d : DV} (h : RV K B M H v d) : ∀ {fs : List (Str × DV)} {fs' : List (Str × V)}, Paired (EntF K B M H) fs fs' → Paired (EntF K B M H) (putD f d fs) (putF f v fs')
  | _, _, .nil => .cons ⟨rfl, h⟩ .nil
  | (g, x) :: fs, (g', x') :: fs', .cons ⟨a, b⟩ r => by
    have a' : g = g' := a
    subst a'
    unfold putD putF
    by_cases e : g = f
    · rw [if_pos e, if_pos e]; exact .cons ⟨rfl, h⟩ r
    · rw [if_neg e, if_neg e]; exact .cons ⟨rfl, b⟩ (ent_put h r)
theorem Paired.len {α β : Type} {F : α → β → Prop} : ∀ {l₁ : List α} {l₂ : List β}, Paired F l₁ l₂ → l₁.length = l₂.length
  | _, _, .nil => rfl
  | _, _, .cons _ t => congrArg Nat.succ (Paired.len t)
def dFld (C : Addr) (t : TD) (f : Str) : TD := fun ρ M k => t ρ M fun x M1 => ∃ a fs d, x = .ref a ∧ M1 a = some (.obj C fs) ∧ fs.lookup f = some d ∧ k d M1
theorem q_fld {C : Addr} {o : Expr} {f : Str} {pos : Pos} {t : TD} (c : Cls X.K C) (n : NoAttr X.K C f) (h : QE X o t) (hb : attributeBase o f X.env (eval o X.env) = eval o X.env := by rfl) : QE X (.Attribute o f pos) (dFld C t f) := by
  refine ⟨PE.weak (pe_fld h.pe hb) fun σ H Q h => ?_⟩
  obtain ⟨B, ρ, M, k, ok, rs, t, f⟩ := h
  refine bindE ok rs t fun x M1 v H1 q e o r rs1 => ?_
  obtain ⟨a, fs, d, rfl, hm, hl, q⟩ := q
  cases r
  obtain ⟨dx, fs', h1, h2⟩ := o.rep a _ hm
  obtain ⟨v', h3, h4⟩ := ent_lookup h2 d hl
  exact ⟨a, C, dx, fs', v', rfl, h1, c, n, h3, f d M1 q v' H1 e o h4⟩
def dFldS (C : Addr) (to tv : TD) (f : Str) : TDs := fun De ρ M => tv ρ M fun y M1 => to ρ M1 fun x M2 => ∃ a fs, x = .ref a ∧ M2 a = some (.obj C fs) ∧ fs.length < 1000 ∧ De.nx ρ (setM M2 a (.obj C (putD f y fs)))
theorem qs_fld {C : Addr} {o value : Expr} {fl : Str} {pos pos' : Pos} {to tv : TD} (c : Cls X.K C) (n : NoAttr X.K C fl) (ho : QE X o to) (hv : QE X value tv) (hs : swapsWith value (some (.Attribute o fl pos')) pos.line X.env = pure false := by rfl) : QS X (.Assign [.Attribute o fl pos'] value pos) (dFldS C to tv fl) := by
  refine ⟨PS.weak (ps_fld ho.pe hv.pe hs) fun D σ H h => ?_⟩
  obtain ⟨B, ρ, M, De, ok, rs, t, f⟩ := h
  refine bindE ok rs t fun y M1 v H1 q e o ry rs1 => ?_
  refine bindE o rs1 q fun x M2 u H2 q2 e2 o2 r rs2 => ?_
  obtain ⟨a, fs, rfl, hm, hl, q⟩ := q2
  cases r
  obtain ⟨dx, fs', h1, h2⟩ := o2.rep a _ hm
  have ew : Ext B M2 H2 _ _ := ext_write (o := .ins C dx (putF fl v fs')) (u := .obj C (putD fl y fs)) o2 hm
  refine ⟨a, C, dx, fs', rfl, h1, c, n, by rw [← Paired.len h2]; exact hl, f.nx ρ _ σ _ q (e.trans (e2.trans ew)) (ok_write o2 hm ⟨dx, _, upd_same, ?_⟩) (rs2.ext ew)⟩
  exact Paired.mapQ (ent_put (RV.ext e2 ry) h2) fun _ _ z => EntF.ext ew z
def dMeth (C : Addr) (m : Str) (sp : DSp) (to : TD) (t : TDa) : TD := fun ρ M k => to ρ M fun x M1 => ∃ a fs, x = .ref a ∧ M1 a = some (.obj C fs) ∧ fs.lookup m = none ∧ t ρ M1 fun ds M2 => sp (x :: ds) M2 k
theorem q_meth {C f : Addr} {k : Nat} {fd : FuncData} {ps : List Str} {sp : DSp} {m : Str} {o e : Expr} {es : List Expr} {apos pos : Pos} {to : TD} {t : TDa} {pl : Sem Bool} (ho : QE X o to) (c : Cls X.K C) (hm : Meth X.K C m f) (F : FnD X k f fd ps sp) (hr : Room k X.A) (hb : Binds X.K fd ps []) (ha : QA X (e :: es) t)
    (hst : starEach (e :: es) X.env = (false, eval e X.env) :: starEach es X.env := by rfl) (hpl : (backTo pos (starEach es X.env)).any (·.1) = false := by rfl)
    (ht : eval (.Call (.Attribute o m apos) (e :: es) [] pos) X.env = (do
      let ov ← eval o X.env
      standAt apos.atName
      let (f, first) ← holding [ov] (getMethod ov m pl)
      callWith pos f first (backTo pos (starEach (e :: es) X.env)) []) := by rfl) : QE X (.Call (.Attribute o m apos) (e :: es) [] pos) (dMeth C m sp to t) := by
  refine ⟨PE.weak (pe_meth ho.pe c hm F hr hb .nil pass0 ha.pa hst hpl ht) fun σ H Q h => ?_⟩
  obtain ⟨B, ρ, M, k, ok, rs, t, f⟩ := h
  refine bindE ok rs t fun x M1 v H1 q e o r rs1 => ?_
  obtain ⟨a, fs, rfl, hm, hl, q⟩ := q
  cases r
  obtain ⟨dx, fs', h1, h2⟩ := o.rep a _ hm
  refine ⟨a, dx, fs', rfl, h1, ent_none h2 hl, bindA o rs1 q fun xs M2 vs H2 q2 e2 o2 r2 rs2 => ?_⟩
  rw [List.append_nil]
  exact ⟨B, .ref a :: xs, M2, k, o2, .cons (show RV X.K B M2 H2 (.ref a) (.ref a) from rfl) r2, q2, fun d M' hk v H' e' o' r' => f d M' hk v H' (e.trans (e2.trans e')) o' r'⟩
def dMake (C : Addr) (sp : DSp) (t : TDa) : TD := fun ρ M k => t ρ M fun ds M1 => ∀ x, M1 x = none → sp (.ref x :: ds) (setM M1 x (.obj C [])) fun d M' => d = .dat .none ∧ k (.ref x) M'
theorem q_make {C f : Addr} {k : Nat} {fd : FuncData} {ps : List Str} {sp : DSp} {x : Str} {p pos : Pos} {e : Expr} {es : List Expr} {t : TDa} (Mk : Mk X.K C f) (F : FnD X k f fd ps sp) (hr : Room (k + 1) X.A) (hg : Gl X x) (hm : X.mg x = some (.ref C)) (hb : Binds X.K fd ps []) (ha : QA X (e :: es) t)
    (hdb : (x == ("__debug__" : Str)) = false := by decide) (he : starEach (e :: es) X.env = (false, eval e X.env) :: starEach es X.env := by rfl) (hpl : (backTo pos (starEach es X.env)).any (·.1) = false := by rfl) : QE X (.Call (.Name x p) (e :: es) [] pos) (dMake C sp t) := by
  refine ⟨PE.weak (pe_make Mk F hr hg hm hb .nil pass0 ha.pa hdb he hpl) fun σ H Q h => ?_⟩
  obtain ⟨B, ρ, M, k, ok, rs, t, f⟩ := h
  refine bindA ok rs t fun xs M1 vs H1 q e o r rs1 => ?_
  intro x dx nx ndx nex
  rw [List.append_nil]
  have nx' : (upd H1 dx (.own x)) x = none := by rw [upd_ne (Ne.symm nex)]; exact nx
  have o1 := ok_new (o := .own x) o ndx
  have e1 := ext_new (o := .own x) o ndx
  have e2 : Ext B M1 (upd H1 dx (.own x)) (setM M1 x (.obj C [])) (upd (upd H1 dx (.own x)) x (.ins C dx [])) := ext_newO o1 nx'
  refine ⟨B, .ref x :: xs, setM M1 x (.obj C []), _, ok_newO o1 nx' ⟨dx, [], upd_same, .nil⟩, (.cons (show RV X.K B _ _ (.ref x) (.ref x) from rfl) (RVs.ext (e1.trans e2) r)), q x (o.fresh nx), fun d M' hk v H' e' o' r' => ?_⟩
  obtain ⟨rfl, hk⟩ := hk
  cases r'
  exact ⟨rfl, f _ M' hk _ H' (e.trans (e1.trans (e2.trans e'))) o' rfl⟩

/-! ### a def keeps its promise -/
def startD (N : List Str) (ds : List DV) : Rho := ds.map some ++ List.replicate (N.length - ds.length) none
/-- what is handed back may be an owned list, that is given up -/
def conv (M : MS) (d : DV) (d' : DV) (M' : MS) : Prop := Sub M' M ∧ (d' = d ∨ ∃ a ds, d = .ref a ∧ M a = some (.lst ds) ∧ M' a = none ∧ d' = .dat (.list ds))
def rtK (k : KD) : KD := fun d M => ∃ d' M', conv M d d' M' ∧ k d' M'
theorem conv.rv {K : PySem.W.Frag} {P : Program} {w : World} {B : List Addr} {M M' : MS} {H : Hp} {d d' : DV} {v : V} (c : conv M d d' M') (ok : OkM K P w B M H) (r : RV K B M H v d) : RV K B M' H v d' := by
  obtain ⟨s, c⟩ := c
  rcases c with rfl | ⟨a, ds, rfl, hm, hn, rfl⟩
  · exact RV.ext (ext_sub s) r
  · cases r
    obtain ⟨vs, h1, h2⟩ := ok.rep a _ hm
    exact .lst (fz_mk hn (ok.outM hm) h1) (RpAll.ext (ext_sub s) h2)
theorem start_rep {K : PySem.W.Frag} {B : List Addr} {M : MS} {H : Hp} {N : List Str} {vs : List V} {ds : List DV} (r : RVs K B M H vs ds) : RepS K B M H (L2.start N vs) (startD N ds) := by
  have hl := Paired.len r
  unfold L2.start startD
  refine ⟨by simp [hl], fun i d e => ?_⟩
  by_cases hi : i < ds.length
  · rw [List.getElem?_append_left (by simpa using hi), List.getElem?_map] at e
    rw [List.getElem?_append_left (by simpa [hl] using hi), List.getElem?_map]
    have : ∀ {vs : List V} {ds : List DV} {i : Nat}, RVs K B M H vs ds → ∀ d, ds[i]? = some d → ∃ v, vs[i]? = some v ∧ RV K B M H v d := by
      intro vs ds i r
      induction r generalizing i with
      | nil => intro d e; simp at e
      | cons a b ih =>
        intro d e
        cases i with
        | zero => simp at e; subst e; exact ⟨_, rfl, a⟩
        | succ i => obtain ⟨v, h1, h2⟩ := ih (i := i) d (by simpa using e); exact ⟨v, by simpa using h1, h2⟩
    cases q : ds[i]? with
    | none => rw [q] at e; cases e
    | some d0 =>
      rw [q] at e
      cases e
      obtain ⟨v, h1, h2⟩ := this r d q
      exact ⟨v, by rw [h1]; rfl, h2⟩
  · rw [List.getElem?_append_right (by simpa using hi)] at e
    have := List.mem_of_getElem? e
    simp at this
end
section
variable {P : Program} {w : World} {K : PySem.W.Frag} {mg : Str → Option Value} {base : Heap}
/-- THE RULE for a def: its body's reading, and what it says of every call -/
theorem fn_ok {x qual : Str} {st : Stmt} {f : Addr} {fd : FuncData} {N ps : List Str} {k : Nat} {sp : DSp} (F : Fun K x qual st f fd) (S : FnScope N ps (defScope st)) (len : ∀ ds M k, sp ds M k → ds.length = ps.length)
    (hbody : ∀ (cdv : Value) (A : Around) (outer : List Env) (s : Shared) (H : Hp) (E : XK), Room k (A.deeper (envOfC qual (defScope st) s.heap.objs.size f cdv)) →
      ∃ t, QSs (cxOf CX0 P w K mg base N qual (defScope st) f cdv A outer s H E).nox (defBody st) t ∧ ∀ ds M k, sp ds M k → t { nx := fun _ M' => rtK k (.dat .none) M', rt := rtK k } (startD N ds) M) : FnOk P w K mg base CX0 (k + 1) f fd ps (liftP K P w sp) := by
  refine F.ok S (fun vs H Q E ⟨B, ds, M, k, ok, r, h, _⟩ => (Paired.len r).trans (len ds M k h)) fun cdv A outer s H vs Q E hr h => ?_
  obtain ⟨t, ht, hq⟩ := hbody cdv A outer s H E hr
  obtain ⟨B, ds, M, k, ok, r, h, hk⟩ := h
  have fin : ∀ d M1, rtK k d M1 → ∀ v H1, Ext B M H M1 H1 → OkM K P w B M1 H1 → RV K B M1 H1 v d → Q v H1 := fun d M1 ⟨d', M', c, hk'⟩ v H1 e o rv =>
    hk d' M' hk' v H1 (e.trans (ext_sub c.1)) (ok_sub c.1 o) (conv.rv c o rv)
  refine ⟨_, ht.pss, B, startD N ds, M, { nx := fun _ M' => rtK k (.dat .none) M', rt := rtK k }, ok, start_rep r, hq ds M k h, ⟨fun ρ' M' σ' H' q e o _ => fin _ M' q _ H' e o .non, fun d M' q v H' e o rv => fin d M' q v H' e o rv, fun _ _ _ _ q => q.elim, fun _ _ _ _ q => q.elim⟩⟩
end
end Kf

/-! Kf, dicts. -/
namespace Kf
open PySem PySem.Spec PyProof.Rows L2

/-! ### keys -/
def keyOf : PyData → Option Key
  | .int i => some (.inl i)
  | .str x => some (.inr x)
  | _ => none
mutual
def nkOf : PyData → Option NestedKey
  | .none => some .none
  | .int i => some (.num i)
  | .str x => some (.text x)
  | .tuple ds => (nksOf ds).map .tup
  | .bool _ => Option.none
  | .list _ => Option.none
  | .dict _ => Option.none
def nksOf : List PyData → Option (List NestedKey)
  | [] => some []
  | d :: ds => match nkOf d, nksOf ds with
    | some k, some ks => some (k :: ks)
    | _, _ => Option.none
end
mutual
theorem nk_data : ∀ {d : PyData} {k : NestedKey}, nkOf d = some k → k.data = d
  | .none, _, h => by simp only [nkOf, Option.some.injEq] at h; subst h; simp [NestedKey.data]
  | .int i, _, h => by simp only [nkOf, Option.some.injEq] at h; subst h; simp [NestedKey.data]
  | .str x, _, h => by simp only [nkOf, Option.some.injEq] at h; subst h; simp [NestedKey.data]
  | .tuple ds, k, h => by
    rw [nkOf] at h
    obtain ⟨ks, h1, rfl⟩ := Option.map_eq_some_iff.mp h
    rw [NestedKey.data, nks_data h1]
  | .bool _, _, h => by simp [nkOf] at h
  | .list _, _, h => by simp [nkOf] at h
  | .dict _, _, h => by simp [nkOf] at h
theorem nks_data : ∀ {ds : List PyData} {ks : List NestedKey}, nksOf ds = some ks → NestedKey.datas ks = ds
  | [], _, h => by simp only [nksOf, Option.some.injEq] at h; subst h; simp [NestedKey.datas]
  | d :: ds, ks, h => by
    rw [nksOf] at h
    split at h
    · rename_i k ks' h1 h2
      cases h
      rw [NestedKey.datas, nk_data h1, nks_data h2]
    · cases h
end
mutual
theorem nk_nd : ∀ k : NestedKey, noDict k.data = true
  | .none => by rw [NestedKey.data]; rfl
  | .num _ => by rw [NestedKey.data]; rfl
  | .text _ => by rw [NestedKey.data]; rfl
  | .tup ks => by rw [NestedKey.data, noDict]; exact nks_nd ks
theorem nks_nd : ∀ ks : List NestedKey, noDicts (NestedKey.datas ks) = true
  | [] => by rw [NestedKey.datas]; rfl
  | k :: ks => by rw [NestedKey.datas, noDicts, nk_nd k, nks_nd ks]; rfl
end
section
variable {X : Cx} {pins : List (Addr × Obj)} {σ : L2.St} {H : Hp} {s : Shared}
mutual
theorem nk_is (I : Inv X pins σ H s) : ∀ (k : NestedKey) (v : V) (u : Value), Dp X.K H v k.data → RelV v u → NestedIs s.heap k u
  | .none, v, u, h, r => by
    rw [NestedKey.data] at h
    cases h; cases r; exact .none
  | .num i, v, u, h, r => by
    rw [NestedKey.data] at h
    cases h; obtain ⟨t, rfl⟩ := r; exact .int i t
  | .text x, v, u, h, r => by
    rw [NestedKey.data] at h
    cases h; obtain ⟨t, rfl⟩ := r; exact .text x t
  | .tup ks, v, u, h, r => by
    rw [NestedKey.data] at h
    cases h with
    | tup sq ra =>
      cases r
      obtain ⟨its, rv, ⟨o, ho, hc, n, hd⟩, hz⟩ := I.tuple sq
      exact .tup ho hc hd (by simpa using nks_is I ks _ its ra rv)
theorem nks_is (I : Inv X pins σ H s) : ∀ (ks : List NestedKey) (vs : List V) (us : List Value), DpAll X.K H vs (NestedKey.datas ks) → Vals vs us → NestedAll s.heap ks us
  | [], vs, us, h, r => by
    rw [NestedKey.datas] at h
    cases h; cases r; exact .nil
  | k :: ks, vs, us, h, r => by
    rw [NestedKey.datas] at h
    cases h with
    | cons a b => cases r with
      | cons c d => exact .cons (nk_is I k _ _ a c) (nks_is I ks _ _ b d)
end
end
/-! ### look-ups -/
section
variable {κ : Type} [DecidableEq κ] {α β : Type}
def lk (kvs : List (κ × α)) (k : κ) : Option α := (kvs.find? fun kv => decide (kv.1 = k)).map (·.2)
def pk (kvs : List (κ × α)) (k : κ) (v : α) : List (κ × α) := if (lk kvs k).isSome = true then kvs.map (fun kv => if kv.1 = k then (kv.1, v) else kv) else kvs ++ [(k, v)]
theorem lk_nil {k : κ} : lk ([] : List (κ × α)) k = none := rfl
theorem lk_cons (p : κ × α) (r : List (κ × α)) (k : κ) : lk (p :: r) k = if p.1 = k then some p.2 else lk r k := by
  unfold lk
  rw [List.find?_cons]
  by_cases h : p.1 = k
  · rw [decide_eq_true h, if_pos h]; rfl
  · rw [decide_eq_false h, if_neg h]
theorem any_lk (k : κ) : ∀ kvs : List (κ × α), (kvs.any fun kv => decide (kv.1 = k)) = (lk kvs k).isSome
  | [] => rfl
  | p :: r => by
    rw [List.any_cons, lk_cons, any_lk k r]
    by_cases h : p.1 = k
    · rw [decide_eq_true h, if_pos h]; rfl
    · rw [decide_eq_false h, if_neg h]; rfl
theorem lk_append (a b : List (κ × α)) (k : κ) : lk (a ++ b) k = (lk a k).or (lk b k) := by
  induction a with
  | nil => rfl
  | cons p r ih =>
    rw [List.cons_append, lk_cons, lk_cons, ih]
    split <;> rfl
theorem lk_put (k j : κ) (v : α) (kvs : List (κ × α)) : lk (pk kvs k v) j = if j = k then some v else lk kvs j := by
  unfold pk
  split
  · rename_i h
    have h2 : ∀ l : List (κ × α), lk (l.map fun kv => if kv.1 = k then (kv.1, v) else kv) j = if j = k then (lk l k).map fun _ => v else lk l j := by
      intro l
      induction l with
      | nil => simp [lk]
      | cons p r ih =>
        rw [List.map_cons, lk_cons, ih, lk_cons, lk_cons]
        by_cases e1 : p.1 = k
        · by_cases e2 : j = k
          · simp [e1, e2]
          · have : ¬ k = j := fun z => e2 z.symm
            simp [e1, e2, this]
        · by_cases e2 : j = k
          · subst e2; simp [e1]
          · simp [e1, e2]
    rw [h2]
    split
    · obtain ⟨x, hx⟩ := Option.isSome_iff_exists.mp h
      rw [hx]; rfl
    · rfl
  · rename_i h
    have hn : lk kvs k = none := by cases e : lk kvs k with | none => rfl | some x => rw [e] at h; exact absurd rfl h
    rw [lk_append, lk_cons, lk_nil]
    by_cases e2 : j = k
    · subst e2; simp [hn]
    · have : ¬ k = j := fun z => e2 z.symm
      simp [e2, this]
theorem pk_keys_nodup (k : κ) (v : α) {kvs : List (κ × α)} (h : (kvs.map (·.1)).Nodup) : ((pk kvs k v).map (·.1)).Nodup := by
  unfold pk
  split
  · have : (kvs.map (fun kv => if kv.1 = k then (kv.1, v) else kv)).map (·.1) = kvs.map (·.1) := by
      rw [List.map_map]
      refine List.map_congr_left fun x _ => ?_
      show (if x.1 = k then (x.1, v) else x).1 = x.1
      split <;> rfl
    rw [this]; exact h
  · rename_i hn
    rw [List.map_append]
    refine List.nodup_append.mpr ⟨h, by simp, fun a ha b hb => ?_⟩
    have hb' : b = k := by simpa using hb
    subst hb'
    intro e
    subst e
    apply hn
    rw [← any_lk]
    obtain ⟨x, hx, hx2⟩ := List.mem_map.mp ha
    exact List.any_eq_true.mpr ⟨x, hx, decide_eq_true hx2⟩
theorem pk_length (k : κ) (v : α) (kvs : List (κ × α)) : (pk kvs k v).length ≤ kvs.length + 1 := by
  unfold pk
  split
  · rw [List.length_map]; omega
  · rw [List.length_append]; exact Nat.le_refl _
end
/-! ### dicts by value -/
section
variable {K : PySem.W.Frag} {B : List Addr} {M : MS} {H : Hp}
theorem entV_lk {k : Key} : ∀ {kvs : List (Key × PyData)} {kvs' : List (Key × V)}, Paired (EntV K B M H) kvs kvs' → ∀ d, lk kvs k = some d → ∃ v, valV kvs' k = some v ∧ Rp K (fz B M H) v d
  | _, _, .nil, d, h => by cases h
  | p :: r, q :: r', .cons ⟨a, b⟩ t, d, h => by
    rw [lk_cons] at h
    by_cases e : p.1 = k
    · rw [if_pos e] at h; cases h
      exact ⟨q.2, valV_pos (by rw [← a]; exact e), b⟩
    · rw [if_neg e] at h
      obtain ⟨v, h1, h2⟩ := entV_lk t d h
      exact ⟨v, by rw [valV_neg (by rw [← a]; exact e)]; exact h1, h2⟩
theorem entV_none {k : Key} : ∀ {kvs : List (Key × PyData)} {kvs' : List (Key × V)}, Paired (EntV K B M H) kvs kvs' → (valV kvs' k).isSome = (lk kvs k).isSome
  | _, _, .nil => rfl
  | p :: r, q :: r', .cons ⟨a, b⟩ t => by
    rw [lk_cons]
    by_cases e : p.1 = k
    · rw [if_pos e, valV_pos (by rw [← a]; exact e)]; rfl
    · rw [if_neg e, valV_neg (by rw [← a]; exact e), entV_none t]
theorem entV_map {k : Key} {v : V} {d : PyData} (h : Rp K (fz B M H) v d) {kvs : List (Key × PyData)} {kvs' : List (Key × V)} (r : Paired (EntV K B M H) kvs kvs') : Paired (EntV K B M H) (kvs.map (fun kv => if kv.1 = k then (kv.1, d) else kv)) (kvs'.map (fun kv => if kv.1 = k then (kv.1, v) else kv)) := by
  induction r with
  | nil => exact .nil
  | @cons p q r r' e t ih =>
    obtain ⟨a, b⟩ := e
    refine .cons ?_ ih
    show EntV K B M H (if p.1 = k then (p.1, d) else p) (if q.1 = k then (q.1, v) else q)
    by_cases e : p.1 = k
    · rw [if_pos e, if_pos (by rw [← a]; exact e)]; exact ⟨a, h⟩
    · rw [if_neg e, if_neg (by rw [← a]; exact e)]; exact ⟨a, b⟩
theorem paired_append {α β : Type} {F : α → β → Prop} {l₁ l₂ : List α} {m₁ m₂ : List β} (h : Paired F l₁ m₁) (h2 : Paired F l₂ m₂) : Paired F (l₁ ++ l₂) (m₁ ++ m₂) := by
  induction h with
  | nil => exact h2
  | cons a b ih => exact .cons a ih
theorem entV_put {k : Key} {v : V} {d : PyData} (h : Rp K (fz B M H) v d) {kvs : List (Key × PyData)} {kvs' : List (Key × V)} (r : Paired (EntV K B M H) kvs kvs') : Paired (EntV K B M H) (pk kvs k d) (putK kvs' k v) := by
  unfold pk putK
  rw [valV_any, entV_none r]
  split
  · exact entV_map h r
  · exact paired_append r (.cons ⟨rfl, h⟩ .nil)
end
def dDicT : TD := fun ρ M k => ∀ a, M a = none → k (.ref a) (setM M a (.dicT []))
section
variable {X : Cx} {a b : Expr} {ta tb : TD} {pos : Pos}
theorem toKey {K : PySem.W.Frag} {B : List Addr} {M : MS} {H : Hp} {v : V} {d : PyData} {k : Key} (h : Rp K (fz B M H) v d) (e : keyOf d = some k) : v = kV k := by
  cases h <;> cases e <;> rfl
/-- d[k], d a dict by value -/
def ixDV : P2 := fun M x y q => ∃ a kvs d k z, x = .ref a ∧ M a = some (.dicV kvs) ∧ y = .dat d ∧ keyOf d = some k ∧ lk kvs k = some z ∧ q (.dat z)
theorem qixDV (hu : X.A.units + 1 < cLine) : QIx X ixDV := by
  rintro value slice pins s σ H v u v' u' Q I rv ru ⟨B, M, x, y, q, ok, rx, ry, ⟨a, kvs, d, k, z, rfl, hm, rfl, hk, hl, h⟩, m⟩ hs
  cases rx
  cases rv
  obtain ⟨kvs', h1, h2⟩ := ok.rep a _ hm
  obtain ⟨w, h3, h4⟩ := entV_lk h2 z hl
  obtain rfl := toKey ry hk
  have g : DGet H a (kV k) (some w) := by rw [← h3]; exact DGet.k h1
  exact tail_any (dict_typeIs I g) PySem.F.slot_dict_getitem.lookup (d_getItem hu I g ru fun w' s3 I3 rw' => ⟨w, H, I3, rw', rp_of m ok h h4⟩) hs
def inDV (g : Bool → Bool) : P2 := fun M x y q => ∃ a kvs d k, y = .ref a ∧ M a = some (.dicV kvs) ∧ x = .dat d ∧ keyOf d = some k ∧ q (.dat (.bool (g (lk kvs k).isSome)))
theorem qinDV (hu : X.A.units + 1 < cLine) : QOp X (compareOp .In) (inDV id) := by
  rintro pins s σ H v u v' u' Q I rv ru ⟨B, M, x, y, q, ok, rx, ry, ⟨a, kvs, d, k, rfl, hm, rfl, hk, h⟩, m⟩
  cases ry
  cases ru
  obtain ⟨kvs', h1, h2⟩ := ok.rep a _ hm
  obtain rfl := toKey rx hk
  refine d_in hu I (DGet.k h1) rv fun s3 I3 => ⟨.bl _, H, I3, rfl, ?_⟩
  rw [entV_none h2]
  exact rp_of m ok h (.bl _)
theorem qnotinDV (hu : X.A.units + 1 < cLine) : QOp X (compareOp .NotIn) (inDV not) := by
  rintro pins s σ H v u v' u' Q I rv ru ⟨B, M, x, y, q, ok, rx, ry, ⟨a, kvs, d, k, rfl, hm, rfl, hk, h⟩, m⟩
  cases ry
  cases ru
  obtain ⟨kvs', h1, h2⟩ := ok.rep a _ hm
  obtain rfl := toKey rx hk
  refine d_notIn hu I (DGet.k h1) rv fun s3 I3 => ⟨.bl _, H, I3, rfl, ?_⟩
  rw [entV_none h2]
  exact rp_of m ok h (.bl _)
/-- d[k] = v -/
def dPutV (td ty tv : TD) : TDs := fun De ρ M => tv ρ M fun v M1 => td ρ M1 fun x M2 => ty ρ M2 fun y M3 => ∃ a kvs d k z, x = .ref a ∧ M3 a = some (.dicV kvs) ∧ y = .dat d ∧ keyOf d = some k ∧ v = .dat z ∧ kvs.length < sizeLine ∧ De.nx ρ (setM M3 a (.dicV (pk kvs k z)))
theorem qs_putV {o i value : Expr} {td ty tv : TD} {pos' : Pos} (hu : X.A.units + 1 < cLine) (ho : QE X o td) (hi : QE X i ty) (hv : QE X value tv) (hs : swapsWith value (some (.Subscript o i pos')) pos.line X.env = pure false := by rfl) : QS X (.Assign [.Subscript o i pos'] value pos) (dPutV td ty tv) := by
  refine ⟨PS.weak (ps_dput hu ho.pe hi.pe hv.pe hs) fun D σ H h => ?_⟩
  obtain ⟨B, ρ, M, De, ok, rs, t, f⟩ := h
  refine bindE ok rs t fun v M1 vv H1 q e o rv rs1 => bindE o rs1 q fun x M2 vx H2 q2 e2 o2 rx rs2 => bindE o2 rs2 q2 fun y M3 vy H3 q3 e3 o3 ry rs3 => ?_
  obtain ⟨a, kvs, d, k, z, rfl, hm, rfl, hk, rfl, hl, q⟩ := q3
  cases rx
  obtain ⟨kvs', h1, h2⟩ := o3.rep a _ hm
  obtain rfl := toKey ry hk
  have ew : Ext B M3 H3 (setM M3 a (.dicV (pk kvs k z))) (upd H3 a (.dK (putK kvs' k vv))) := ext_write o3 hm
  refine ⟨a, _, rfl, DPut.k h1 (by rw [← Paired.len h2]; exact hl), f.nx ρ _ σ _ q (e.trans (e2.trans (e3.trans ew))) (ok_write o3 hm ⟨_, upd_same, Paired.mapQ (entV_put (Rp.ext (e2.trans e3) rv) h2) fun _ _ => EntV.ext ew⟩) (rs3.ext ew)⟩
/-! ### dicts whose keys are tuples -/
theorem sysMod_new {pins : List (Addr × Obj)} {σ : L2.St} {H : Hp} {s : Shared} (I : Inv X pins σ H s) : (s.heap.objs.size == sysModules) = false := (dk_empty (P := X.prog) (w := X.w) (H := H) s.heap I.big).2.1
theorem q_dicT : QE X (.Dict [] [] pos) dDicT := by
  refine ⟨⟨fun pins s σ H Q I h => ?_⟩⟩
  obtain ⟨B, ρ, M, k, ok, rs, t, f⟩ := h
  have hf : H s.heap.objs.size = none := I.hok.fresh (Nat.le_refl _)
  refine wpAny_Dict_empty ⟨.ref s.heap.objs.size, _, I.laid (a := s.heap.objs.size) (o := DicO X.prog X.w s.heap.objs.size []) (t' := s.toks) (fun _ _ q => Heap.get?_push_of_some _ q) (Nat.le_refl _) ?_, rfl, f _ _ (t _ (ok.fresh hf)) _ _ (ext_newO ok hf) (ok_newO ok hf ⟨[], upd_same, .nil, List.nodup_nil⟩) rfl⟩
  refine ⟨⟨sysMod_new I, _, #[], 0, Heap.get?_push_size _ rfl, ⟨rfl, rfl, rfl⟩, rfl, rfl⟩, ⟨_, Heap.get?_push_size _ rfl⟩, fun h1 h2 hp k => ?_⟩
  obtain ⟨hs, o, es, ep, ho, hx, hd, he⟩ := hp
  exact ⟨hs, o, es, ep, k o ho, hx, hd, he⟩
theorem dicT_at {pins : List (Addr × Obj)} {σ : L2.St} {H : Hp} {s : Shared} {B : List Addr} {M : MS} {a : Addr} {xs : List (NestedKey × Addr × Value)} {kvs : List (NestedKey × PyData)} (I : Inv X pins σ H s) (hH : H a = some (DicO X.prog X.w a xs)) (h2 : Paired (EntT X.K B M H) kvs xs) (nd : (kvs.map (·.1)).Nodup) :
    (a == sysModules) = false ∧ s.heap.DictOfH (nestedKind X.prog X.w) a xs := by
  obtain ⟨⟨hs, o, es, ep, ho, hx, hd, he⟩, hrest⟩ := (show ObjOk X.prog X.w H s.heap a (DicO X.prog X.w a xs) from I.hok a _ hH)
  have all : (∀ x ∈ xs, (nestedKind X.prog X.w).is s.heap x.1 x.2.1) ∧ xs.map (·.1) = kvs.map (·.1) := by
    clear hH he nd hrest
    induction h2 with
    | nil => exact ⟨fun x hx => (List.not_mem_nil hx).elim, rfl⟩
    | @cons p q r r' e t ih =>
      obtain ⟨h1, h3⟩ := ih
      refine ⟨fun x hx => ?_, ?_⟩
      · rcases List.mem_cons.mp hx with z | z
        · subst z
          obtain ⟨e1, e2, e3, _⟩ := e
          rw [← e1]
          exact ⟨nk_is I p.1 _ _ (Rp.dp _ _ (nk_nd p.1) (Rp.un e2)) rfl, e3⟩
        · exact h1 x z
      · rw [List.map_cons, List.map_cons, h3, e.1]
  exact ⟨hs, o, es, ep, ho, hx, hd, he, all.1, by rw [all.2]; exact nd⟩
theorem entT_lk {K : PySem.W.Frag} {B : List Addr} {M : MS} {H : Hp} {k : NestedKey} : ∀ {kvs : List (NestedKey × PyData)} {xs : List (NestedKey × Addr × Value)}, Paired (EntT K B M H) kvs xs → ∀ d, lk kvs k = some d → ∃ p v, atKey xs k = some p ∧ RelV v p.2 ∧ Rp K (fz B M H) v d
  | _, _, .nil, d, h => by cases h
  | p :: r, q :: r', .cons ⟨a, b, c, v, rv, hv⟩ t, d, h => by
    rw [lk_cons] at h
    unfold atKey
    rw [List.find?_cons]
    by_cases e : p.1 = k
    · rw [if_pos e] at h; cases h
      rw [decide_eq_true (show q.1 = k by rw [← a]; exact e)]
      exact ⟨q.2, v, rfl, rv, hv⟩
    · rw [if_neg e] at h
      rw [decide_eq_false (show ¬ q.1 = k by rw [← a]; exact e)]
      exact entT_lk t d h
theorem entT_none {K : PySem.W.Frag} {B : List Addr} {M : MS} {H : Hp} {k : NestedKey} : ∀ {kvs : List (NestedKey × PyData)} {xs : List (NestedKey × Addr × Value)}, Paired (EntT K B M H) kvs xs → (atKey xs k).isSome = (lk kvs k).isSome
  | _, _, .nil => rfl
  | p :: r, q :: r', .cons ⟨a, _⟩ t => by
    rw [lk_cons]
    unfold atKey
    rw [List.find?_cons]
    by_cases e : p.1 = k
    · rw [if_pos e, decide_eq_true (show q.1 = k by rw [← a]; exact e)]; rfl
    · rw [if_neg e, decide_eq_false (show ¬ q.1 = k by rw [← a]; exact e)]
      exact entT_none t
theorem tkey_is {pins : List (Addr × Obj)} {σ : L2.St} {H : Hp} {s : Shared} {B : List Addr} {M : MS} {v : V} {u : Value} {d : PyData} {ks : List NestedKey} (I : Inv X pins σ H s) (h : Rp X.K (fz B M H) v d) (r : RelV v u) (hk : nkOf d = some (.tup ks)) (hd : (NestedKey.tup ks).depth ≤ 8) :
    ∃ b, v = .ref b ∧ u = .ref b ∧ (nestedKind X.prog X.w).is s.heap (.tup ks) b := by
  have e := nk_data hk
  have h' := h
  rw [← e, NestedKey.data] at h'
  cases h' with
  | tup sq ra =>
    rename_i b vs
    cases r
    exact ⟨b, rfl, rfl, nk_is I (.tup ks) (.ref b) (.ref b) (Rp.dp _ _ (nk_nd (.tup ks)) (by rw [e]; exact Rp.un h)) rfl, hd⟩
def isTk (d : PyData) (ks : List NestedKey) : Prop := nkOf d = some (.tup ks) ∧ (NestedKey.tup ks).depth ≤ 8
def ixDT : P2 := fun M x y q => ∃ a kvs d ks z, x = .ref a ∧ M a = some (.dicT kvs) ∧ y = .dat d ∧ isTk d ks ∧ lk kvs (.tup ks) = some z ∧ q (.dat z)
theorem nk_room {A : Around} (hu : A.units + 64 < cLine) : (nestedKind X.prog X.w).room A.in1 := by show A.units + 1 + 8 < cLine; omega
theorem qixDT (hu : X.A.units + 64 < cLine) : QIx X ixDT := by
  rintro value slice pins s σ H v u v' u' Q I rv ru ⟨B, M, x, y, q, ok, rx, ry, ⟨a, kvs, d, ks, z, rfl, hm, rfl, ⟨hk, hk8⟩, hl, h⟩, m⟩ hs
  cases rx
  cases rv
  obtain ⟨xs, h1, h2, nd⟩ := ok.rep a _ hm
  obtain ⟨p, w, h3, h4, h5⟩ := entT_lk h2 z hl
  obtain ⟨b, rfl, rfl, hb⟩ := tkey_is I ry ru hk hk8
  obtain ⟨hsm, dd⟩ := dicT_at I h1 h2 nd
  exact tail_any dd.typeIs PySem.F.slot_dict_getitem.lookup (wpAny_getItem_heap (nk_room hu) hb dd h3 ⟨w, H, I.tok _, h4, rp_of m ok h h5⟩) hs
def inDT (g : Bool → Bool) : P2 := fun M x y q => ∃ a kvs d ks, y = .ref a ∧ M a = some (.dicT kvs) ∧ x = .dat d ∧ isTk d ks ∧ q (.dat (.bool (g (lk kvs (.tup ks)).isSome)))
theorem qinDT (hu : X.A.units + 64 < cLine) : QOp X (compareOp .In) (inDT id) := by
  rintro pins s σ H v u v' u' Q I rv ru ⟨B, M, x, y, q, ok, rx, ry, ⟨a, kvs, d, ks, rfl, hm, rfl, ⟨hk, hk8⟩, h⟩, m⟩
  cases ry
  cases ru
  obtain ⟨xs, h1, h2, nd⟩ := ok.rep a _ hm
  obtain ⟨b, rfl, rfl, hb⟩ := tkey_is I rx rv hk hk8
  obtain ⟨hsm, dd⟩ := dicT_at I h1 h2 nd
  refine wpAny_in_heap (nk_room hu) hb hsm dd ⟨.bl _, H, I.tok _, rfl, ?_⟩
  rw [entT_none h2]
  exact rp_of m ok h (.bl _)
theorem qnotinDT (hu : X.A.units + 64 < cLine) : QOp X (compareOp .NotIn) (inDT not) := by
  rintro pins s σ H v u v' u' Q I rv ru ⟨B, M, x, y, q, ok, rx, ry, ⟨a, kvs, d, ks, rfl, hm, rfl, ⟨hk, hk8⟩, h⟩, m⟩
  cases ry
  cases ru
  obtain ⟨xs, h1, h2, nd⟩ := ok.rep a _ hm
  obtain ⟨b, rfl, rfl, hb⟩ := tkey_is I rx rv hk hk8
  obtain ⟨hsm, dd⟩ := dicT_at I h1 h2 nd
  refine wpAny_notIn_heap (nk_room hu) hb hsm dd ⟨.bl _, H, I.tok _, rfl, ?_⟩
  rw [entT_none h2]
  exact rp_of m ok h (.bl _)
theorem entT_map {K : PySem.W.Frag} {B : List Addr} {M : MS} {H : Hp} {ks : List NestedKey} {v : V} {u : Value} {z : PyData} (rv : RelV v u) (hv : Rp K (fz B M H) v z)
    {kvs : List (NestedKey × PyData)} {xs : List (NestedKey × Addr × Value)} (r : Paired (EntT K B M H) kvs xs) : Paired (EntT K B M H) (kvs.map (fun kv => if kv.1 = .tup ks then (kv.1, z) else kv)) (xs.map (putAt (.tup ks) u)) := by
  induction r with
  | nil => exact .nil
  | @cons p q r r' e t ih =>
    refine .cons ?_ ih
    obtain ⟨a, b', c, w⟩ := e
    show EntT K B M H (if p.1 = .tup ks then (p.1, z) else p) (if q.1 = .tup ks then (q.1, q.2.1, u) else q)
    by_cases e : p.1 = .tup ks
    · rw [if_pos e, if_pos (by rw [← a]; exact e)]; exact ⟨a, b', c, v, rv, hv⟩
    · rw [if_neg e, if_neg (by rw [← a]; exact e)]; exact ⟨a, b', c, w⟩
theorem entT_put {K : PySem.W.Frag} {B : List Addr} {M : MS} {H : Hp} {ks : List NestedKey} {b : Addr} {v : V} {u : Value} {z : PyData} (hb : Rp K (fz B M H) (.ref b) (NestedKey.tup ks).data) (h8 : (NestedKey.tup ks).depth ≤ 8) (rv : RelV v u) (hv : Rp K (fz B M H) v z)
    {kvs : List (NestedKey × PyData)} {xs : List (NestedKey × Addr × Value)} (r : Paired (EntT K B M H) kvs xs) : Paired (EntT K B M H) (pk kvs (.tup ks) z) (storedH xs (.tup ks) b u) := by
  unfold pk storedH
  rw [entT_none r]
  split
  · exact entT_map rv hv r
  · exact paired_append r (.cons ⟨rfl, hb, h8, v, rv, hv⟩ .nil)
theorem QE.run' {e : Expr} {ta : TD} {pins : List (Addr × Obj)} {s : Shared} {σ : L2.St} {H : Hp} {B : List Addr} {ρ : Rho} {M : MS} {k1 : KD} {Q : Value → Shared → Prop} (h : QE X e ta) (I : Inv X pins σ H s) (ok : OkM X.K X.prog X.w B M H) (rs : RepS X.K B M H σ ρ) (t : ta ρ M k1)
    (go : ∀ x M1 v H1 u s1, k1 x M1 → Ext B M H M1 H1 → OkM X.K X.prog X.w B M1 H1 → RV X.K B M1 H1 v x → RepS X.K B M1 H1 σ ρ → Inv X pins σ H1 s1 → RelV v u → Q u s1) : wpAny (model X.prog X.w) X.A (eval e X.env) Q X.xe s :=
  thn (h.pe.run pins s σ H (fun v H1 => ∃ x M1, k1 x M1 ∧ Ext B M H M1 H1 ∧ OkM X.K X.prog X.w B M1 H1 ∧ RV X.K B M1 H1 v x ∧ RepS X.K B M1 H1 σ ρ) I (bindE ok rs t fun x M1 v H1 q e o r rs1 => ⟨x, M1, q, e, o, r, rs1⟩))
    fun u s1 ⟨v, H1, I1, rv, x, M1, q, e, o, r, rs1⟩ => go x M1 v H1 u s1 q e o r rs1 I1 rv
def dPutT (td ty tv : TD) : TDs := fun De ρ M => tv ρ M fun v M1 => td ρ M1 fun x M2 => ty ρ M2 fun y M3 => ∃ a kvs d ks z, x = .ref a ∧ M3 a = some (.dicT kvs) ∧ y = .dat d ∧ isTk d ks ∧ v = .dat z ∧ kvs.length < sizeLine ∧ De.nx ρ (setM M3 a (.dicT (pk kvs (.tup ks) z)))
theorem qs_putT {o i value : Expr} {td ty tv : TD} {pos' : Pos} (hu : X.A.units + 64 < cLine) (ho : QE X o td) (hi : QE X i ty) (hv : QE X value tv) (hs : swapsWith value (some (.Subscript o i pos')) pos.line X.env = pure false := by rfl) : QS X (.Assign [.Subscript o i pos'] value pos) (dPutT td ty tv) := by
  refine ⟨⟨fun pins s σ H D I h => ?_⟩⟩
  obtain ⟨B, ρ, M, De, ok, rs, t, f⟩ := h
  refine wpAny_Assign_Subscript (hv.run' I ok rs t fun v M1 vv H1 r s1 q e o1 rvd rs1 I1 rv => ho.run' I1 o1 rs1 q fun x M2 vx H2 u s2 q2 e2 o2 rx rs2 I2 ru => hi.run' I2 o2 rs2 q2 fun y M3 vy H3 iv s3 q3 e3 o3 ry rs3 I3 ri => ?_) hs
  obtain ⟨a, kvs, d, ks, z, rfl, hm, rfl, ⟨hk, hk8⟩, rfl, hl, q⟩ := q3
  cases rx
  cases ru
  obtain ⟨xs, h1, h2, nd⟩ := o3.rep a _ hm
  obtain ⟨b, rfl, rfl, hb⟩ := tkey_is I3 ry ri hk hk8
  obtain ⟨hsm, dd⟩ := dicT_at I3 h1 h2 nd
  have hlen := Paired.len h2
  refine wpAny_setItem_heap (hsz := by rw [← hlen]; exact Nat.le_of_lt hl) (nk_room hu) hb dd fun h' dd' hs' => ?_
  obtain ⟨o, es, ep, ho', hx, hd, he, _⟩ := dd'
  have ew : Ext B M3 H3 (setM M3 a (.dicT (pk kvs (.tup ks) z))) (upd H3 a (DicO X.prog X.w a (storedH xs (.tup ks) b r))) := ext_write o3 hm
  have hput : Paired (EntT X.K B M3 H3) (pk kvs (.tup ks) z) (storedH xs (.tup ks) b r) := entT_put (by rw [nk_data hk]; exact ry) hk8 rv (Rp.ext (e2.trans e3) rvd) h2
  refine ⟨σ, _, d_write I3 (a := a) (ob := DicO X.prog X.w a (storedH xs (.tup ks) b r)) (by rw [h1]; exact True.intro) hs' ⟨o, ho'⟩ ⟨⟨hsm, o, es, ep, ho', hx, hd, he⟩, ⟨o, ho'⟩, fun g1 g2 hp k => ?_⟩, f.nx ρ _ σ _ q (e.trans (e2.trans (e3.trans ew))) (ok_write o3 hm ⟨_, upd_same, Paired.mapQ hput fun _ _ => EntT.ext ew, pk_keys_nodup _ _ nd⟩) (rs3.ext ew)⟩
  obtain ⟨hs, o, es, ep, ho, hx, hd, he⟩ := hp
  exact ⟨hs, o, es, ep, k o ho, hx, hd, he⟩
end
end Kf

/-! Kf, methods and built-in calls. -/
namespace Kf
open PySem PySem.Spec PyProof.Rows L2
section
variable {X : Cx} {o e : Expr} {es : List Expr} {to te : TD} {t : TDa} {apos cpos pos : Pos}
/-! ### methods of lists that are owned -/
def dAppend (to : TD) (t : TDa) : TD := fun ρ M k => to ρ M fun x M1 => ∃ a ds0, x = .ref a ∧ M1 a = some (.lst ds0) ∧ t ρ M1 fun xs M2 => ∃ d ds, xs = [.dat d] ∧ M2 a = some (.lst ds) ∧ ds.length < sizeLine ∧ k (.dat .none) (setM M2 a (.lst (ds ++ [d])))
theorem q_append (ho : QE X o to) (ha : QA X [e] t)
    (hbase : attributeBase o "append" X.env (eval o X.env) = eval o X.env := by rfl)
    (hfew : ((backTo cpos (starEach [e] X.env)).all (fun x => !x.1) && (backToKw cpos (keywordEach [] X.env)).all (fun x => x.1.isSome)
      && decide ([e].length + ([] : List Keyword).length + (if ([] : List Keyword).isEmpty then 0 else 1) < 30)) = true := by rfl)
    (hline : (apos.endLine == cpos.line) = true := by rfl) (hs : starEach [e] X.env = (false, eval e X.env) :: starEach [] X.env := by rfl) (hplain : (backTo cpos (starEach [] X.env)).any (·.1) = false := by rfl) :
    QE X (.Call (.Attribute o "append" apos) [e] [] cpos) (dAppend to t) := by
  refine ⟨PE.weak (pe_bm PySem.F.plainAttrs_list PySem.F.slot_list_append PySem.F.type_list_append mt_append ho.pe ha.pa hbase hfew hline hs hplain) fun σ H Q h => ?_⟩
  obtain ⟨B, ρ, M, k, ok, rs, t, f⟩ := h
  refine bindE ok rs t fun x M1 v H1 q e o r rs1 => ?_
  obtain ⟨a, ds0, rfl, hm, q⟩ := q
  cases r
  obtain ⟨vs0, h0, _⟩ := o.rep a _ hm
  refine ⟨.inl ⟨rfl, vs0, SqL.of h0⟩, bindA o rs1 q fun xs M2 us H2 q2 e2 o2 r2 rs2 => ?_⟩
  obtain ⟨d, ds, rfl, hm2, hl, q2⟩ := q2
  obtain ⟨u, rfl, ru⟩ := RVs.one r2
  obtain ⟨vs, h1, h2⟩ := o2.rep a _ hm2
  have ew : Ext B M2 H2 (setM M2 a (.lst (ds ++ [d]))) (upd H2 a (.lst (vs ++ [u]))) := ext_write o2 hm2
  exact ⟨a, vs, u, rfl, rfl, h1, by rw [RpAll.length h2]; exact hl, f _ _ q2 _ _ (e.trans (e2.trans ew)) (ok_write o2 hm2 ⟨_, upd_same, RpAll.ext ew (RpAll.append h2 (.cons ru .nil))⟩) .non⟩
def dPop (to : TD) : TD := fun ρ M k => to ρ M fun x M1 => ∃ a ds d, x = .ref a ∧ M1 a = some (.lst ds) ∧ ds[ds.length - 1]? = some d ∧ k (.dat d) (setM M1 a (.lst ds.dropLast))
theorem q_pop (ho : QE X o to) (hbase : attributeBase o "pop" X.env (eval o X.env) = eval o X.env := by rfl) (hline : (apos.endLine == cpos.line) = true := by rfl) : QE X (.Call (.Attribute o "pop" apos) [] [] cpos) (dPop to) := by
  refine ⟨PE.weak (pe_bm0 PySem.F.plainAttrs_list PySem.F.slot_list_pop PySem.F.type_list_pop mt_pop ho.pe hbase hline) fun σ H Q h => ?_⟩
  obtain ⟨B, ρ, M, k, ok, rs, t, f⟩ := h
  refine bindE ok rs t fun x M1 v H1 q e o r rs1 => ?_
  obtain ⟨a, ds, d, rfl, hm, hd, q⟩ := q
  cases r
  obtain ⟨vs, h1, h2⟩ := o.rep a _ hm
  obtain ⟨u, hu, ru⟩ := RpAll.get h2 hd
  have ew : Ext B M1 H1 (setM M1 a (.lst ds.dropLast)) (upd H1 a (.lst vs.dropLast)) := ext_write o hm
  exact ⟨.inl ⟨rfl, vs, SqL.of h1⟩, a, vs, u, rfl, rfl, h1, by rw [RpAll.length h2]; exact hu, f _ _ q _ _ (e.trans ew) (ok_write o hm ⟨_, upd_same, RpAll.ext ew (RpAll.dropLast h2)⟩) (Rp.ext ew ru)⟩
/-- o[i] = v, o an owned list -/
def gdSubL (to ti : TD) : TDg := fun v ρ M k => to ρ M fun o M1 => ti ρ M1 fun i M2 => ∃ a ds j n d, o = .ref a ∧ i = .dat (.int j) ∧ v = .dat d ∧ M2 a = some (.lst ds) ∧ ixN ds.length j = some n ∧ k ρ (setM M2 a (.lst (ds.set n d)))
theorem qg_subL {i : Expr} {ti : TD} (ho : QE X o to) (hi : QE X i ti)
    (ha : ∀ v, assign (.Subscript o i pos) X.env v = (do
      let ov ← holding [v] (eval o X.env)
      let iv ← holding [v, ov] (eval i X.env)
      standAt pos
      holding [v, ov, iv] (setItem ov iv v)
      release [v, ov, iv] []) := by intro _; rfl) : QG X (.Subscript o i pos) (gdSubL to ti) := by
  refine ⟨PG.weak (pg_sub ho.pe hi.pe set_list ha) fun v σ H Q h => ?_⟩
  obtain ⟨B, x, ρ, M, k, ok, rs, r, t, f⟩ := h
  refine bindE ok rs t fun ov M1 vo H1 q e o ro rs1 => bindE o rs1 q fun iv M2 vi H2 q2 e2 o2 ri rs2 => ?_
  obtain ⟨a, ds, j, n, d, rfl, rfl, rfl, hm, hn, q⟩ := q2
  cases ro; cases ri
  obtain ⟨vs, h1, h2⟩ := o2.rep a _ hm
  have ew : Ext B M2 H2 (setM M2 a (.lst (ds.set n d))) (upd H2 a (.lst (vs.set n v))) := ext_write o2 hm
  exact ⟨a, vs, j, n, rfl, rfl, h1, by rw [RpAll.length h2]; exact hn, f ρ _ σ _ q (e.trans (e2.trans ew)) (ok_write o2 hm ⟨_, upd_same, RpAll.ext ew (RpAll.set (Rp.ext (e.trans e2) r) n h2)⟩) (rs2.ext ew)⟩

/-! ### slices -/
def cutL (xs : List PyData) (lo hi : Option Int) : List PyData := (xs.drop (HT.sIx xs.length 0 lo)).take (HT.sIx xs.length xs.length hi - HT.sIx xs.length 0 lo)
abbrev TDo := Rho → MS → (Option Int → MS → Prop) → Prop
def liftO (X : Cx) (t : TDo) : TO := fun σ H Q => ∃ B ρ M k, OkM X.K X.prog X.w B M H ∧ RepS X.K B M H σ ρ ∧ t ρ M k ∧ ∀ b M', k b M' → ∀ H', Ext B M H M' H' → OkM X.K X.prog X.w B M' H' → Q b H'
structure QO (X : Cx) (e : Option Expr) (t : TDo) : Prop where
  po : PO X e (liftO X t)
theorem PO.weak {e : Option Expr} {t t' : TO} (h : PO X e t) (i : ∀ σ H Q, t' σ H Q → t σ H Q) : PO X e t' := ⟨fun pins s σ H Q I q => h.run pins s σ H Q I (i σ H Q q)⟩
def doNone : TDo := fun _ M k => k none M
def doSome (t : TD) : TDo := fun ρ M k => t ρ M fun x M1 => ∃ i, x = .dat (.int i) ∧ k (some i) M1
theorem qo_none : QO X none doNone := ⟨PO.weak po_none fun σ H Q ⟨B, ρ, M, k, ok, rs, t, f⟩ => f _ M t H Ext.refl ok⟩
theorem qo_some (h : QE X e te) : QO X (some e) (doSome te) := by
  refine ⟨PO.weak (po_some h.pe) fun σ H Q h => ?_⟩
  obtain ⟨B, ρ, M, k, ok, rs, t, f⟩ := h
  refine bindE ok rs t fun x M1 v H1 q e o r rs1 => ?_
  obtain ⟨i, rfl, q⟩ := q
  cases r
  exact ⟨i, rfl, f _ M1 q H1 e o⟩
theorem bindO {t : TDo} {σ : L2.St} {H : Hp} {Q1 : Option Int → Hp → Prop} {B : List Addr} {ρ : Rho} {M : MS} {k1 : Option Int → MS → Prop} (ok : OkM X.K X.prog X.w B M H) (rs : RepS X.K B M H σ ρ) (h : t ρ M k1)
    (go : ∀ b M1 H1, k1 b M1 → Ext B M H M1 H1 → OkM X.K X.prog X.w B M1 H1 → RepS X.K B M1 H1 σ ρ → Q1 b H1) : liftO X t σ H Q1 :=
  ⟨B, ρ, M, k1, ok, rs, h, fun b M1 q H1 e o => go b M1 H1 q e o (rs.ext e)⟩
def slV : PyData → Option Int → Option Int → (PyData → Prop) → Prop
  | .list ds, lo, hi, q => q (.list (cutL ds lo hi))
  | .tuple ds, lo, hi, q => q (.tuple (cutL ds lo hi))
  | .str z, lo, hi, q => z.length ≤ sizeLine ∧ q (.str (cutS z lo hi))
  | _, _, _, _ => False
def dSl (te : TD) (tl th : TDo) : TD := fun ρ M k => te ρ M fun x M1 => tl ρ M1 fun l M2 => th ρ M2 fun u M3 => ∃ d, cview M3 x = some d ∧ slV d l u fun z => k (.dat z) M3
theorem cut_rp {K : PySem.W.Frag} {H : Hp} {vs : List V} {ds : List PyData} (r : RpAll K H vs ds) (lo hi : Option Int) : RpAll K H (cutV vs lo hi) (cutL ds lo hi) := by
  unfold cutV cutL
  rw [RpAll.length r]
  exact RpAll.take _ (RpAll.drop _ r)
theorem sl_any : SlR X fun v lo hi H Q => ∃ B M x d q, OkM X.K X.prog X.w B M H ∧ RV X.K B M H v x ∧ cview M x = some d ∧ slV d lo hi q ∧ Made X B M H (fun z => ∃ y, z = .dat y ∧ q y) Q := by
  rintro pins s σ H x v vl vu lo hi sl Q I rx hs pl pu ⟨B, M, xx, d, q, ok, r, hv, h, m⟩
  cases d with
  | list ds =>
    obtain ⟨a, vs, rfl, h1, h2⟩ := cview_list ok r hv
    exact sl_list pins s σ H _ v vl vu lo hi sl Q I rx hs pl pu ⟨a, vs, rfl, SqL.of h1, fun p hp => m.lst ok hp ⟨_, rfl, h⟩ (cut_rp h2 lo hi)⟩
  | tuple ds =>
    obtain ⟨a, vs, rfl, h1, h2⟩ := rv_tup r hv
    have hl := RpAll.length h2
    refine sl_tupA pins s σ H _ v vl vu lo hi sl Q I rx hs pl pu ⟨a, vs, rfl, h1, fun hw => ?_, fun _ p hp => m.tup ok hp ⟨_, rfl, h⟩ (cut_rp h2 lo hi)⟩
    have hc : cutL ds lo hi = ds := by
      unfold cutL
      rw [hl] at hw
      rw [hw.1, hw.2]
      simp
    refine m.keep ok (z := .dat (.tuple ds)) ⟨_, rfl, ?_⟩ (cview_rp r hv fun _ h => by cases h)
    rw [← hc]; exact h
  | str z =>
    cases rv_str r hv
    exact sl_str pins s σ H _ v vl vu lo hi sl Q I rx hs pl pu ⟨z, rfl, h.1, m.keep ok ⟨_, rfl, h.2⟩ (.str _)⟩
  | _ => exact h.elim
theorem q_slice {lo hi : Option Expr} {tl th : TDo} {p2 : Pos} (he : QE X e te) (hl : QO X lo tl) (hu : QO X hi th) : QE X (.Subscript e (.Slice lo hi none p2) pos) (dSl te tl th) := by
  refine ⟨PE.weak (pe_slice sl_any he.pe hl.po hu.po) fun σ H Q h => ?_⟩
  obtain ⟨B, ρ, M, k, ok, rs, t, f⟩ := h
  refine bindE ok rs t fun x M1 v H1 q e o r rs1 => bindO o rs1 q fun l M2 H2 q2 e2 o2 rs2 => bindO o2 rs2 q2 fun u M3 H3 q3 e3 o3 rs3 => ?_
  obtain ⟨d, hv, q⟩ := q3
  exact ⟨B, M3, x, d, _, o3, RV.ext (e2.trans e3) r, hv, q, fun z ⟨y, hy, hz⟩ v' H' ex o' r' => by subst hy; exact f _ M3 hz v' H' (e.trans (e2.trans (e3.trans ex))) o' r'⟩

/-! ### calls -/
def tupleP : PN := fun M xs q => ∃ x, xs = [x] ∧ ((∃ ds, cview M x = some (.list ds) ∧ q (.dat (.tuple ds))) ∨ (∃ ds, x = .dat (.tuple ds) ∧ q x))
theorem qtuple : QCall X (.type "tuple") tupleP := by
  rintro pins s σ H vs us Q I r ⟨B, M, xs, q, ok, rx, ⟨x, rfl, h⟩, m⟩
  obtain ⟨v, rfl, rv⟩ := RVs.one rx
  rcases h with ⟨ds, hv, h⟩ | ⟨ds, rfl, h⟩
  · obtain ⟨a, vs, rfl, h1, h2⟩ := cview_list ok rv hv
    exact call_tuple_of pins s σ H _ us Q I r ⟨a, vs, rfl, .inl ⟨SqL.of h1, fun l hl => m.tup ok hl h h2⟩⟩
  · have rv0 := rv
    cases rv with
    | tup sq ra => exact call_tuple_of pins s σ H _ us Q I r ⟨_, _, rfl, .inr ⟨Same.seqT fz_same sq, m.keep ok h rv0⟩⟩
def listP : PN := fun M xs q => ∃ x d ds, xs = [x] ∧ cview M x = some d ∧ items d = some ds ∧ q (.dat (.list ds))
theorem list_src {K : PySem.W.Frag} {P : Program} {w : World} {B : List Addr} {M : MS} {H : Hp} {v : V} {x : DV} {d : PyData} {ds : List PyData} (ok : OkM K P w B M H) (rv : RV K B M H v x) (hv : cview M x = some d) (hi : items d = some ds) : ∃ a vs, v = .ref a ∧ (SqL K H a vs ∨ SqT K H a vs) ∧ RpAll K (fz B M H) vs ds := by
  cases d with
  | list es =>
    cases hi
    obtain ⟨a, vs, rfl, h1, h2⟩ := cview_list ok rv hv
    exact ⟨a, vs, rfl, .inl (SqL.of h1), h2⟩
  | tuple es =>
    cases hi
    obtain ⟨a, vs, rfl, h1, h2⟩ := rv_tup rv hv
    exact ⟨a, vs, rfl, .inr h1, h2⟩
  | _ => cases hi
theorem qlist : QCall X (.type "list") listP := by
  rintro pins s σ H vs us Q I r ⟨B, M, xs, q, ok, rx, ⟨x, d, ds, rfl, hv, hi, h⟩, m⟩
  obtain ⟨v, rfl, rv⟩ := RVs.one rx
  obtain ⟨a, vs, rfl, h1, h2⟩ := list_src ok rv hv hi
  exact call_list_of pins s σ H _ us Q I r ⟨a, vs, rfl, h1, fun l hl => m.lst ok hl h h2⟩
/-- isinstance(x, T), T a built-in type -/
def tyName : PyData → String
  | .none => "NoneType"
  | .bool _ => "bool"
  | .int _ => "int"
  | .str _ => "str"
  | .list _ => "list"
  | .tuple _ => "tuple"
  | .dict _ => "dict"
theorem ty_of {K : PySem.W.Frag} {P : Program} {w : World} {B : List Addr} {M : MS} {H : Hp} {v : V} {x : DV} {d : PyData} (ok : OkM K P w B M H) (rv : RV K B M H v x) (hv : cview M x = some d) (nd : ∀ kv, d ≠ .dict kv) : TyX K H v (.type (tyName d)) := by
  cases d with
  | none => have := cview_rp rv hv fun _ h => (by cases h); cases this; exact .base .non
  | bool b => have := cview_rp rv hv fun _ h => (by cases h); cases this; exact .base (.bl _)
  | int b => have := cview_rp rv hv fun _ h => (by cases h); cases this; exact .base (.int _)
  | str b => have := cview_rp rv hv fun _ h => (by cases h); cases this; exact .base (.str _)
  | list ds => obtain ⟨a, vs, rfl, h1, h2⟩ := cview_list ok rv hv; exact .base (.lst h1)
  | tuple ds =>
    obtain ⟨a, vs, rfl, h1, h2⟩ := rv_tup rv hv
    rcases h1 with (h | ⟨o, h⟩) | h
    · exact .base (.tup h)
    · exact .fTuple h
    · obtain ⟨o, _, _, hk, hc, _⟩ := h
      exact .kTuple hk hc
  | dict kv => exact absurd rfl (nd kv)
def isiT (T n : String) : Bool := n == T || (T == "int" && n == "bool")
def dIsi (T : String) (t : TD) : TD := fun ρ M k => t ρ M fun x M1 => ∃ d, cview M1 x = some d ∧ (∀ kv, d ≠ .dict kv) ∧ k (.dat (.bool (isiT T (tyName d)))) M1
theorem tyName_mem {d : PyData} (nd : ∀ kv, d ≠ .dict kv) : tyName d ∈ ["NoneType", "bool", "int", "str", "list", "tuple"] := by
  cases d <;> first | (simp [tyName]; done) | exact absurd rfl (nd _)
theorem q_isi {T : String} {x : Str} {p p2 : Pos} (hg : Gl X "isinstance") (hm : X.mg "isinstance" = none) (hT : Gl X x) (hmT : X.mg x = none) (hv : bootBuiltins x = some (.type T))
    (hk : ∀ n, n ∈ ["NoneType", "bool", "int", "str", "list", "tuple"] → kitB n T = some (isiT T n)) (he : QE X e te) (hb : bootBuiltins "isinstance" = some (.builtin "isinstance") := by decide +kernel) (hn : x ≠ "__name__" := by decide) (hd : (x == ("__debug__" : Str)) = false := by decide)
    (hs : starEach [e, .Name x p2] X.env = (false, eval e X.env) :: starEach [.Name x p2] X.env := by rfl) (hs2 : starEach [.Name x p2] X.env = (false, eval (.Name x p2) X.env) :: starEach [] X.env := by rfl) (h2 : (backTo pos (starEach [.Name x p2] X.env)).any (·.1) = false := by rfl) :
    QE X (.Call (.Name "isinstance" p) [e, .Name x p2] [] pos) (dIsi T te) := by
  refine ⟨PE.weak (pe_callB call_isi hg hm hb (pa_cons he.pe (pa_cons (pe_bltn (v := .ty T) hT hmT hv rfl hn hd) pa_nil hs2) hs) (by decide) (by decide) hs h2) fun σ H Q h => ?_⟩
  obtain ⟨B, ρ, M, k, ok, rs, t, f⟩ := h
  refine bindE ok rs t fun x M1 v H1 q e o r rs1 => ?_
  obtain ⟨d, hv, nd, q⟩ := q
  exact ⟨v, .ty T, _, _, _, rfl, .ty T, ty_of o r hv nd, kit_ty (hk _ (tyName_mem nd)), f _ M1 q _ H1 e o (.bl _)⟩
theorem kit_int : ∀ n, n ∈ ["NoneType", "bool", "int", "str", "list", "tuple"] → kitB n "int" = some (isiT "int" n) := by decide +kernel
theorem kit_bool : ∀ n, n ∈ ["NoneType", "bool", "int", "str", "list", "tuple"] → kitB n "bool" = some (isiT "bool" n) := by decide +kernel
theorem kit_str : ∀ n, n ∈ ["NoneType", "bool", "int", "str", "list", "tuple"] → kitB n "str" = some (isiT "str" n) := by decide +kernel
theorem kit_tuple : ∀ n, n ∈ ["NoneType", "bool", "int", "str", "list", "tuple"] → kitB n "tuple" = some (isiT "tuple" n) := by decide +kernel
/-- int(x), x an int or a truth -/
def intP : PN := fun M xs q => (∃ i, xs = [.dat (.int i)] ∧ q (.dat (.int i))) ∨ ∃ b, xs = [.dat (.bool b)] ∧ q (.dat (.int (if b then 1 else 0)))
theorem qint1 : QCall X (.type "int") intP := by
  rintro pins s σ H vs us Q I r ⟨B, M, xs, q, ok, rx, h, m⟩
  rcases h with ⟨i, rfl, h⟩ | ⟨b, rfl, h⟩
  · obtain ⟨v, rfl, rv⟩ := RVs.one rx
    cases rv
    exact call_int1 pins s σ H _ us Q I r (.inl ⟨i, rfl, rp_of m ok h (.int _)⟩)
  · obtain ⟨v, rfl, rv⟩ := RVs.one rx
    cases rv
    exact call_int1 pins s σ H _ us Q I r (.inr ⟨b, rfl, rp_of m ok h (.int _)⟩)
def max2P : PN := fun M xs q => ∃ i j, xs = [.dat (.int i), .dat (.int j)] ∧ q (.dat (.int (if j > i then j else i)))
theorem qmax2 (hc : X.calm = true) : QCall X (.builtin "max") max2P := by
  rintro pins s σ H vs us Q I r ⟨B, M, xs, q, ok, rx, ⟨i, j, rfl, h⟩, m⟩
  obtain ⟨v, u, rfl, rv, ru⟩ := RVs.two rx
  cases rv; cases ru
  exact call_max2 hc pins s σ H _ us Q I r ⟨i, j, rfl, rp_of m ok h (.int _)⟩
def min2P : PN := fun M xs q => ∃ i j, xs = [.dat (.int i), .dat (.int j)] ∧ q (.dat (.int (if j < i then j else i)))
theorem qmin2 (hc : X.calm = true) : QCall X (.builtin "min") min2P := by
  rintro pins s σ H vs us Q I r ⟨B, M, xs, q, ok, rx, ⟨i, j, rfl, h⟩, m⟩
  obtain ⟨v, u, rfl, rv, ru⟩ := RVs.two rx
  cases rv; cases ru
  exact call_min2 hc pins s σ H _ us Q I r ⟨i, j, rfl, rp_of m ok h (.int _)⟩
/-- sum, any, all of a list -/
def intsOf : List PyData → Option (List Int)
  | [] => some []
  | .int i :: r => (intsOf r).map (i :: ·)
  | _ :: _ => none
def boolsOf : List PyData → Option (List Bool)
  | [] => some []
  | .bool i :: r => (boolsOf r).map (i :: ·)
  | _ :: _ => none
theorem ints_rp {K : PySem.W.Frag} {H : Hp} : ∀ {ds : List PyData} {vs : List V} {ns : List Int}, RpAll K H vs ds → intsOf ds = some ns → vs = ns.map V.int
  | [], _, _, .nil, e => by cases e; rfl
  | .int i :: r, _, ns, .cons a b, e => by
    obtain ⟨ms, h, rfl⟩ := Option.map_eq_some_iff.mp (show (intsOf r).map (i :: ·) = some ns from e)
    cases a
    rw [ints_rp b h]; rfl
  | .none :: _, _, _, _, e => by cases e
  | .bool _ :: _, _, _, _, e => by cases e
  | .str _ :: _, _, _, _, e => by cases e
  | .list _ :: _, _, _, _, e => by cases e
  | .tuple _ :: _, _, _, _, e => by cases e
  | .dict _ :: _, _, _, _, e => by cases e
theorem bools_rp {K : PySem.W.Frag} {H : Hp} : ∀ {ds : List PyData} {vs : List V} {ns : List Bool}, RpAll K H vs ds → boolsOf ds = some ns → vs = ns.map V.bl
  | [], _, _, .nil, e => by cases e; rfl
  | .bool i :: r, _, ns, .cons a b, e => by
    obtain ⟨ms, h, rfl⟩ := Option.map_eq_some_iff.mp (show (boolsOf r).map (i :: ·) = some ns from e)
    cases a
    rw [bools_rp b h]; rfl
  | .none :: _, _, _, _, e => by cases e
  | .int _ :: _, _, _, _, e => by cases e
  | .str _ :: _, _, _, _, e => by cases e
  | .list _ :: _, _, _, _, e => by cases e
  | .tuple _ :: _, _, _, _, e => by cases e
  | .dict _ :: _, _, _, _, e => by cases e
def boolsP (g : List Bool → Bool) : PN := fun M xs q => ∃ x ds bs, xs = [x] ∧ cview M x = some (.list ds) ∧ boolsOf ds = some bs ∧ q (.dat (.bool (g bs)))
theorem qall (hc : X.calm = true) : QCall X (.builtin "all") (boolsP fun bs => bs.all id) := by
  rintro pins s σ H vs us Q I r ⟨B, M, xs, q, ok, rx, ⟨x, ds, bs, rfl, hv, hb, h⟩, m⟩
  obtain ⟨v, rfl, rv⟩ := RVs.one rx
  obtain ⟨a, vs, rfl, h1, h2⟩ := cview_list ok rv hv
  cases bools_rp h2 hb
  exact cr_all hc pins s σ H _ us Q I r ⟨a, bs, rfl, SqL.of h1, rp_of m ok h (.bl _)⟩
theorem qany (hc : X.calm = true) : QCall X (.builtin "any") (boolsP fun bs => bs.any id) := by
  rintro pins s σ H vs us Q I r ⟨B, M, xs, q, ok, rx, ⟨x, ds, bs, rfl, hv, hb, h⟩, m⟩
  obtain ⟨v, rfl, rv⟩ := RVs.one rx
  obtain ⟨a, vs, rfl, h1, h2⟩ := cview_list ok rv hv
  cases bools_rp h2 hb
  exact cr_any hc pins s σ H _ us Q I r ⟨a, bs, rfl, SqL.of h1, rp_of m ok h (.bl _)⟩
def sumP : PN := fun M xs q => ∃ x ds ns, xs = [x] ∧ cview M x = some (.list ds) ∧ intsOf ds = some ns ∧ q (.dat (.int ns.sum))
theorem qsum (hc : X.calm = true) : QCall X (.builtin "sum") sumP := by
  rintro pins s σ H vs us Q I r ⟨B, M, xs, q, ok, rx, ⟨x, ds, bs, rfl, hv, hb, h⟩, m⟩
  obtain ⟨v, rfl, rv⟩ := RVs.one rx
  obtain ⟨a, vs, rfl, h1, h2⟩ := cview_list ok rv hv
  cases ints_rp h2 hb
  exact cr_sum hc pins s σ H _ us Q I r ⟨a, bs, rfl, SqL.of h1, rp_of m ok h (.int _)⟩
/-- sorted of a list of alike things -/
def sortedP : PN := fun M xs q => ∃ x ds, xs = [x] ∧ cview M x = some (.list ds) ∧ noDicts ds = true ∧ PySem.W.AllAlike ds ∧ PySem.W.Sortable ds ∧ ds.length ≤ sizeLine ∧ (∀ d, d ∈ ds → d.depth ≤ 60) ∧ q (.dat (.list (ds.mergeSort (PySem.W.dataLe false id))))
theorem each_src {K : PySem.W.Frag} {H : Hp} : ∀ {vs : List V} {ds : List PyData} {us : List Value}, RpAll K H vs ds → Vals vs us → PySem.W.EachIs (fun (u : Value) (p : V × PyData) => RelV p.1 u) us (vs.zip ds) ∧ ∀ p, p ∈ vs.zip ds → Rp K H p.1 p.2
  | _, _, _, .nil, .nil => ⟨.nil, fun p hp => by cases hp⟩
  | _, _, _, .cons a b, .cons c d => by
    obtain ⟨h1, h2⟩ := each_src b d
    refine ⟨.cons c h1, fun p hp => ?_⟩
    rw [List.zip_cons_cons] at hp
    rcases List.mem_cons.mp hp with z | z
    · subst z; exact a
    · exact h2 p z
theorem each_vals : ∀ {us : List Value} {ps : List (V × PyData)}, PySem.W.EachIs (fun (u : Value) (p : V × PyData) => RelV p.1 u) us ps → Vals (ps.map (·.1)) us
  | _, _, .nil => .nil
  | _, _, .cons a b => .cons a (each_vals b)
theorem each_rp {K : PySem.W.Frag} {H : Hp} : ∀ {ps : List (V × PyData)}, (∀ p, p ∈ ps → Rp K H p.1 p.2) → RpAll K H (ps.map (·.1)) (ps.map (·.2))
  | [], _ => .nil
  | p :: r, h => .cons (h p List.mem_cons_self) (each_rp fun q hq => h q (List.mem_cons_of_mem _ hq))
theorem noDicts_mem : ∀ {ds : List PyData} {d : PyData}, noDicts ds = true → d ∈ ds → noDict d = true
  | _ :: _, d, n, h => by
    rw [noDicts, Bool.and_eq_true] at n
    rcases List.mem_cons.mp h with z | z
    · subst z; exact n.1
    · exact noDicts_mem n.2 z
theorem each_reads {pins : List (Addr × Obj)} {s : Shared} {σ : L2.St} {H : Hp} (I : Inv X pins σ H s) : ∀ {us : List Value} {ps : List (V × PyData)}, PySem.W.EachIs (fun (u : Value) (p : V × PyData) => RelV p.1 u) us ps → (∀ p, p ∈ ps → Dp X.K H p.1 p.2) → PySem.W.EachIs (fun (u : Value) (p : V × PyData) => ∃ as, Reads s.heap u p.2 as) us ps
  | _, _, .nil, _ => .nil
  | _, _, .cons a b, h => .cons (Dp.reads I _ _ _ (h _ List.mem_cons_self) a) (each_reads I b fun p hp => h p (List.mem_cons_of_mem _ hp))
theorem qsorted (hu : X.A.units + 64 < cLine) : QCall X (.builtin "sorted") sortedP := by
  rintro pins s σ H vs us Q I r ⟨B, M, xs, q, ok, rx, ⟨x, ds, rfl, hv, hnd, hal, hk, hL, hdep, h⟩, m⟩
  obtain ⟨v, rfl, rv⟩ := RVs.one rx
  obtain ⟨a, vs, rfl, h1, h2⟩ := cview_list ok rv hv
  obtain ⟨its, rvs, hl, hz⟩ := I.list (SqL.of h1)
  rw [Vals.ref1 r]
  obtain ⟨e1, e2⟩ := each_src h2 rvs
  have hmap : (vs.zip ds).map (·.2) = ds := List.map_snd_zip (by rw [RpAll.length h2]; exact Nat.le_refl _)
  have hlen : (vs.zip ds).length = ds.length := by rw [List.length_zip, RpAll.length h2]; omega
  have hd2 : ∀ p, p ∈ vs.zip ds → p.2 ∈ ds := fun p hp => by rw [← hmap]; exact List.mem_map.mpr ⟨p, hp, rfl⟩
  refine PySem.W.sorted_data (enc := fun p : V × PyData => p.2) hl.isList e1 (each_reads I e1 fun p hp => Rp.dp _ _ (noDicts_mem hnd (hd2 p hp)) (Rp.un (e2 p hp))) (by rw [hmap]; exact hal) (by rw [hmap]; exact hk) (by rw [hlen]; exact hL) (fun p hp => by have := hdep p.2 (hd2 p hp); omega) fun out hol hout => ?_
  obtain ⟨ep, he'⟩ := PyProof.Rows.sortedAll_at s.heap its out.toArray
  have hv2 := each_vals hout
  have hrp := each_rp (K := X.K) (H := fz B M H) (ps := (vs.zip ds).mergeSort (PySem.W.dataLe false fun p : V × PyData => p.2)) fun p hp => e2 p (List.mem_mergeSort.mp hp)
  have hm2 : ((vs.zip ds).mergeSort (PySem.W.dataLe false fun p : V × PyData => p.2)).map (·.2) = ds.mergeSort (PySem.W.dataLe false id) := by
    have h0 := PySem.W.sort_maps (r := PySem.W.dataLe false fun p : V × PyData => p.2) (s := PySem.W.dataLe false id) (fun p : V × PyData => p.2) (l := vs.zip ds) (fun _ _ _ _ => rfl)
    rw [hmap] at h0
    exact h0
  rw [hm2] at hrp
  have hf : H (s.heap.objs.size + 1) = none := I.hok.fresh (Nat.le_succ _)
  exact ⟨.ref _, _, I.laid (t' := s.toks) (o := .lst _) (fun _ _ => PyProof.Rows.sortedAll_old) (Nat.le_succ _) ⟨by rw [RpAll.length hrp, List.length_mergeSort]; exact hL, out, ep, hv2, he'⟩, rfl, m.lst ok hf h hrp⟩
end
end Kf

/-! Kf, more of what is walked; orders; least of two. -/
namespace PySem
set_option maxHeartbeats 2000000 in
theorem kf_enum_new {v : Value} {o : Obj} {Hs : Heap → Prop} (Bg : Begins v o Hs) :
    Meets (Builtin.«enumerate.__new__» ⟨[.type "enumerate", v], []⟩) (fun _ R s => Hs s.heap ∧
      R (.ok (.ret (.ref (s.heap.push o).objs.size))) { s with heap := (s.heap.push o).push { cls := .type "enumerate", data := .fields #[.none, .bool false, .ref s.heap.objs.size, rawInt 0, .none, .none] } }) :=
  .of_wp fun prog w A R s hh => by
    obtain ⟨hp, gn, dr, tk, os⟩ := s
    obtain ⟨h1, hR⟩ := hh
    have sb := sub_enumerate
    have it1 : ∀ {A' : Around} {E : Value → Shared → Prop} {Q : Value → Shared → Prop}, Q (.ref hp.objs.size) ⟨hp.push o, gn, dr, tk, os⟩ → wpAny (model prog w) A' (pyIter v) Q E ⟨hp, gn, dr, tk, os⟩ := fun z => Bg.iter prog w _ _ ⟨hp, gn, dr, tk, os⟩ _ h1 z
    wp_walk using it1
    refine wpAny_stack_any fun st => wpAny_pure ?_
    split
    · rename_i c _ _ _ _ _
      cases (c == Value.type "enumerate") <;> (wp_walk using it1; exact ⟨_, rfl, hR⟩)
    · wp_walk using it1
      exact ⟨_, rfl, hR⟩
theorem kf_call_enum {prog : Program} {w : World} {A : Around} {E : Value → Shared → Prop} {s : Shared} {v : Value} {o : Obj} {Hs : Heap → Prop} {Q : Value → Shared → Prop} (Bg : Begins v o Hs) (h1 : Hs s.heap)
    (k : ∀ h', IsEnum h' (s.heap.objs.size + 1) s.heap.objs.size 0 .none → h'.get? s.heap.objs.size = some o → (∀ b ob, s.heap.get? b = some ob → h'.get? b = some ob) → Q (.ref (s.heap.objs.size + 1)) { s with heap := h' }) :
    wpAny (model prog w) A (call (.type "enumerate") [v]) Q E s := by
  refine callType_new F.called_enumerate (by decide) (F.typeCall_enumerate_1 _) (F.newCall_enumerate_1 _) (fun obj => F.args_object_init_2 obj _) F.entry_enumerate_new (kf_enum_new Bg) ⟨h1, ?_⟩
  have sz : (s.heap.push o).objs.size = s.heap.objs.size + 1 := Heap.size_push ..
  show _ ∧ _
  rw [sz]
  have en : IsEnum ((s.heap.push o).push { cls := .type "enumerate", data := .fields #[.none, .bool false, .ref s.heap.objs.size, rawInt 0, .none, .none] }) (s.heap.objs.size + 1) s.heap.objs.size 0 .none := by
    have z := Heap.get?_push_size (s.heap.push o) (o := { cls := .type "enumerate", data := .fields #[.none, .bool false, .ref s.heap.objs.size, rawInt 0, .none, .none] }) rfl
    rwa [sz] at z
  exact ⟨⟨_, en, rfl⟩, k _ en (Heap.get?_push_of_some _ (Heap.get?_push_size _ Bg.free)) fun b ob z => Heap.get?_push_of_some _ (Heap.get?_push_of_some _ z)⟩
end PySem
namespace Kf
open PySem PySem.Spec PyProof.Rows L2
/-- enumerate(tuple) -/
def ItEt (K : PySem.W.Frag) (a : Addr) : It :=
  ⟨fun i H => ∃ (xs : List V) (x : V), SqT K H a xs ∧ xs[i]? = some x,
   fun i H v H' => ∃ T x, v = .ref T ∧ H T = none ∧ H' = upd H T (.tup [.int (i : Nat), x]) ∧ ∀ xs, SqT K H a xs → xs[i]? = some x,
   fun i H => ∃ xs : List V, SqT K H a xs ∧ xs.length ≤ i⟩
theorem turn_et {P : Program} {w : World} {K : PySem.W.Frag} {elts : List Expr} {kk : Nat} {tpos : Pos} (a e it : Addr) :
    Turn P w K (.Tuple elts kk tpos) (ItEt K a) [e, it] e (fun i h => (∃ old, IsEnum h e it ((i : Nat) : Int) old) ∧ h.IsTupleIter it a i ∧ e ≠ it ∧ a ≠ e ∧ a ≠ it) where
  mem := List.mem_cons_self
  obj := fun i h st b hb => by
    obtain ⟨⟨old, he⟩, ⟨o, ho, hc, hd⟩, _⟩ := st
    rcases List.mem_cons.mp hb with z | z
    · subst z; exact ⟨_, he, fun v q => nomatch q⟩
    · obtain rfl : b = it := by simpa using z
      exact ⟨o, ho, fun v q => by rw [hd] at q; cases q⟩
  keep := fun i h h' st k => by
    obtain ⟨⟨old, he⟩, hi, ne⟩ := st
    exact ⟨⟨old, k e List.mem_cons_self _ he⟩, hi.at fun o q => k it (List.mem_cons_of_mem _ List.mem_cons_self) o q, ne⟩
  item := by
    intro X eP ew eK hc i pins s σ H E I hf st hg
    subst eP ew eK
    obtain ⟨⟨old, he⟩, hit, ne, nae, nai⟩ := st
    obtain ⟨xs, x, hq, hx⟩ := hg
    obtain ⟨its, rv, p, hz⟩ := I.tuple hq
    have tp : s.heap.IsTuple a its.toArray := p
    have hel : e < s.heap.objs.size := Heap.lt_size he
    have hil : it < s.heap.objs.size := let ⟨_, q, _⟩ := hit; Heap.lt_size q
    obtain ⟨u0, hu0, ru0⟩ := rv.get hx
    have hlt : i < its.toArray.size := by
      have := (List.getElem?_eq_some_iff.mp hu0).1
      simpa using this
    refine wpAny_pyNext_enum_itemD (Draws.tuple (A := X.A.in1) (I.ok.hd hc) it a nai its.toArray) he ⟨hit, tp⟩ hlt ne (by simp [ne, Ne.symm nae]) fun u h' tk hP hout hst hT hsz hk => ?_
    obtain rfl : u0 = u := by
      have z : its[i]? = some u := by simpa using hP
      rw [hu0] at z; exact Option.some.inj z
    refine ⟨_, rfl, wpAny_letOwnedTupleGo_enum (s := { s with heap := h', toks := tk + 1 }) hout fun h'' he' sb => ?_⟩
    have hT2 : h''.get? s.heap.objs.size = some { cls := .type "tuple", data := .seq #[.int i tk, u0] } := (sb.2 _ (Nat.ne_of_gt hel)).trans hT
    have nw : ObjOk X.prog X.w (upd H s.heap.objs.size (.tup [.int (i : Nat), x])) h'' s.heap.objs.size (.tup [.int (i : Nat), x]) :=
      ⟨show 2 ≤ sizeLine by decide, [.int i tk, u0], .cons ⟨_, rfl⟩ (.cons ru0 .nil), ⟨_, hT2, rfl, _, rfl⟩⟩
    have J : Inv X pins σ (upd H s.heap.objs.size (.tup [.int (i : Nat), x])) { s with heap := h'', toks := tk + 1 } :=
      I.turnedNew (ch := [e, it]) (fun b ob hb q => (sb.2 b (fun z => hb (by simp [z]))).trans (hk b ob (fun z => hb (by simp [z])) (fun z => hb (by simp [z])) q)) hf (Nat.le_refl _) nw
    refine ⟨.ref s.heap.objs.size, _, J, rfl, ⟨_, x, rfl, I.hok.fresh (Nat.le_refl _), rfl, fun ys hy => by rw [I.tuple_inj hy hq]; exact hx⟩, ⟨⟨u0, ?_⟩, hst.1.at fun o q => (sb.2 it (Ne.symm ne)).trans q, ne, nae, nai⟩, fun b hb => ?_⟩
    · rw [show ((i + 1 : Nat) : Int) = (i : Int) + 1 by omega]; exact he'
    · have lt : b < s.heap.objs.size := by
        rcases List.mem_cons.mp hb with z | z
        · rw [z]; exact hel
        · rw [show b = it by simpa using z]; exact hil
      rw [upd_ne (Nat.ne_of_lt lt)]
      exact (hf b hb).1
  done := by
    intro X eP ew eK hc i pins s σ H E I hf st hg
    subst eP ew eK
    obtain ⟨⟨old, he⟩, hit, ne, nae, nai⟩ := st
    obtain ⟨xs, hq, hx⟩ := hg
    obtain ⟨its, rv, p, hz⟩ := I.tuple hq
    have tp : s.heap.IsTuple a its.toArray := p
    obtain ⟨f0, f1, f2, f3, f4, f5⟩ := hf it (List.mem_cons_of_mem _ List.mem_cons_self)
    have hl := rv.length
    obtain ⟨o, ho, hcl, hd⟩ := hit
    by_cases hi : i = its.toArray.size
    · subst hi
      exact wpAny_pyNext_enum_endD (Draws.tuple (A := X.A.in1) (I.ok.hd hc) it a nai its.toArray) he ⟨⟨o, ho, hcl, hd⟩, tp⟩ fun h' eb => ⟨rfl, I.turned (t' := s.toks) (fun b ob hb q => eb b ob hb q) f0 f1 f3 f4 f5⟩
    · have D0 := Draws.tuple (prog := X.prog) (w := X.w) (A := X.A.in1) (I.ok.hd hc) it a nai its.toArray
      exact wpAny_pyNext_enum_endD (n := i) (St := fun j h => j = i ∧ h.IsTupleIter it a i ∧ h.IsTuple a its.toArray) (P := fun _ _ => False) (fp := [it, a]) ⟨fun _ _ st => let ⟨o, ho, _⟩ := st.2.1; ⟨o, ho⟩, fun _ _ _ st hk => ⟨st.1, st.2.1.at fun o e => hk it (by simp) o e, st.2.2.at fun o e => hk a (by simp) o e⟩, fun j s Q E hlt st _ => by
        obtain ⟨rfl, _⟩ := st
        exact absurd hlt (Nat.lt_irrefl _), fun s Q E st hQ => wpAny_nextOf_tuple_end (I.ok.hd hc) st.2.1 st.2.2 (by simp; omega) hQ⟩ he ⟨rfl, ⟨o, ho, hcl, hd⟩, tp⟩ fun h' eb => ⟨rfl, I.turned (t' := s.toks) (fun b ob hb q => eb b ob hb q) f0 f1 f3 f4 f5⟩
  self := fun A i s Q E st h => let ⟨⟨_, he⟩, _⟩ := st; wpAny_pyIter_enum he h
end Kf

/-! Kf: enumerate, zip, orders, least of a tuple, sorted of a dict. -/
namespace Kf
open PySem PySem.Spec PyProof.Rows L2
section
variable {X : Cx} {e e2 : Expr} {es : List Expr} {to te : TD} {t ta : TDa} {p pos tpos : Pos} {elts : List Expr} {kk : Nat}
def enumD (ds : List PyData) : List PyData := (List.range ds.length).map fun i => .tuple [.int (i : Nat), ds.getD i .none]
theorem enumD_get {ds : List PyData} {i : Nat} {d : PyData} (h : ds[i]? = some d) : (enumD ds)[i]? = some (.tuple [.int (i : Nat), d]) := by
  have hi : i < ds.length := (List.getElem?_eq_some_iff.mp h).1
  unfold enumD
  rw [List.getElem?_map, List.getElem?_range hi]
  simp [List.getD_eq_getElem?_getD, h]
theorem enumD_length (ds : List PyData) : (enumD ds).length = ds.length := by simp [enumD]
def diEnumT (t : TDa) : TDi := fun ρ M k => t ρ M fun xs M1 => ∃ x ds, xs = [x] ∧ cview M1 x = some (.tuple ds) ∧ k (enumD ds) none M1
theorem kt_enum {A : Around} {E : Value → Shared → Prop} {s : Shared} {P : Program} {w : World} {a : Addr} {its : Array Value} {Q : Value → Shared → Prop} (h : s.heap.IsTuple a its)
    (k : ∀ h', IsEnum h' (s.heap.objs.size + 1) s.heap.objs.size 0 .none → h'.IsTupleIter s.heap.objs.size a 0 → (∀ b ob, s.heap.get? b = some ob → h'.get? b = some ob) → Q (.ref (s.heap.objs.size + 1)) { s with heap := h' }) : wpAny (model P w) A (call (.type "enumerate") [.ref a]) Q E s :=
  kf_call_enum (begins_tuple a its) h fun h' h1 h2 h3 => k h' h1 ⟨_, h2, rfl, rfl⟩ h3
theorem qi_enumT (hg : Gl X "enumerate") (hm : X.mg "enumerate" = none) (ha : QA X [e] ta) (hs : starEach [e] X.env = [(false, eval e X.env)] := by rfl) : QI X (.Tuple elts kk tpos) (.Call (.Name "enumerate" p) [e] [] pos) (diEnumT ta) := by
  refine ⟨⟨fun pins s σ H R I h => ?_⟩⟩
  obtain ⟨B, ρ, M, k, ok, rs, t, f⟩ := h
  refine Call_ (ld_blt I hg hm boot_enumerate (PyProof.Rows.callWith_type1 (thn (ha.pa.run pos pins s σ H (fun vs H1 => ∃ x ds M1, k (enumD ds) none M1 ∧ cview M1 x = some (.tuple ds) ∧ Ext B M H M1 H1 ∧ OkM X.K X.prog X.w B M1 H1 ∧ RVs X.K B M1 H1 vs [x]) I (bindA ok rs t fun xs M1 vs H1 q e o r _ => ?_)) fun us s1 ⟨vs, H1, I1, r1, x, ds, M1, q, hv, ex, o1, rx⟩ => ?_) hs rfl))
  · obtain ⟨x, ds, rfl, hv, q⟩ := q
    exact ⟨x, ds, M1, q, hv, e, o, r⟩
  · obtain ⟨v, rfl, rv⟩ := RVs.one rx
    obtain ⟨a, vs, rfl, sq, ra⟩ := rv_tup rv hv
    rw [Vals.ref1 r1]
    obtain ⟨its, rvs, p', hz⟩ := I1.tuple sq
    refine kt_enum (show s1.heap.IsTuple a its.toArray from p') fun h' he hit hk => wpAny_pyIter_enum he ?_
    have I2 : Inv X pins σ H1 { s1 with heap := h' } := I1.kept (t' := s1.toks) hk
    have hal : a < s1.heap.objs.size := let ⟨_, q, _⟩ := p'; Heap.lt_size q
    have sqf : SqT X.K (fz B M1 H1) a vs := by
      have hr' := cview_rp rv hv fun _ h => by cases h
      cases hr' with
      | tup s q =>
        have := Inv.tuple_inj I1 (Same.seqT fz_same s) sq
        subst this
        exact s
    refine ⟨s1.heap.objs.size + 1, [s1.heap.objs.size + 1, s1.heap.objs.size], _, _, H1, rfl, I2, turn_et a (s1.heap.objs.size + 1) s1.heap.objs.size, ⟨⟨.none, he⟩, hit, Nat.succ_ne_self _, Nat.ne_of_lt (Nat.lt_succ_of_lt hal), Nat.ne_of_lt hal⟩, fun b hb => ?_, f _ none M1 q _ H1 ex o1 ⟨fun B' M2 H2 i o2 e2 _ hi => ?_, fun B' M2 H2 i o2 e2 _ hi => ?_, fun B' M2 H2 i x' H' o2 e2 _ hi hy => ?_⟩⟩
    · have le : s1.heap.objs.size ≤ b := by
        rcases List.mem_cons.mp hb with z | z
        · rw [z]; exact Nat.le_succ _
        · rw [show b = s1.heap.objs.size by simpa using z]; exact Nat.le_refl _
      exact I1.fpOk le (I1.hok.fresh le)
    · rw [enumD_length] at hi
      obtain ⟨u, hu, _⟩ := RpAll.get ra (List.getElem?_eq_getElem hi)
      exact ⟨vs, u, Same.seqT fz_same (Same.seqT e2 sqf), hu⟩
    · rw [enumD_length] at hi
      exact ⟨vs, Same.seqT fz_same (Same.seqT e2 sqf), by rw [RpAll.length ra]; exact hi⟩
    · rw [enumD_length] at hi
      obtain ⟨T, u, rfl, hT, rfl, hall⟩ := hy
      obtain ⟨u', hu, hr⟩ := RpAll.get ra (List.getElem?_eq_getElem hi)
      have z := hall vs (Same.seqT fz_same (Same.seqT e2 sqf))
      rw [hu] at z
      cases z
      exact ⟨_, enumD_get (List.getElem?_eq_getElem hi), ext_new o2 hT, ok_new o2 hT, .tup (SqT.of (fz_new o2 hT)) (.cons (.int _) (.cons (Rp.ext (ext_new o2 hT) (Rp.same e2 _ _ hr)) .nil))⟩
/-! ### zip of two tuples or two lists -/
def zipD (ds es : List PyData) : List PyData := (ds.zip es).map fun q => .tuple [q.1, q.2]
theorem zipD_get {ds es : List PyData} {i : Nat} {d f : PyData} (h : ds[i]? = some d) (h2 : es[i]? = some f) : (zipD ds es)[i]? = some (.tuple [d, f]) := by
  unfold zipD
  rw [List.getElem?_map, List.getElem?_zip_eq_some.mpr (show ds[i]? = some (d, f).1 ∧ es[i]? = some (d, f).2 from ⟨h, h2⟩)]; rfl
theorem zipD_length (ds es : List PyData) : (zipD ds es).length = min ds.length es.length := by simp [zipD]
def diZip (t : TDa) : TDi := fun ρ M k => t ρ M fun xs M1 => ∃ x y ds es, xs = [x, y] ∧ ((cview M1 x = some (.tuple ds) ∧ cview M1 y = some (.tuple es)) ∨ (x = .dat (.list ds) ∧ y = .dat (.list es))) ∧ k (zipD ds es) none M1
theorem qi_zip (hg : Gl X "zip") (hm : X.mg "zip" = none) (ha : QA X [e, e2] ta) (hs : starEach [e, e2] X.env = (false, eval e X.env) :: starEach [e2] X.env := by rfl) (hpl : (backTo pos (starEach [e2] X.env)).any (·.1) = false := by rfl) :
    QI X (.Tuple elts kk tpos) (.Call (.Name "zip" p) [e, e2] [] pos) (diZip ta) := by
  refine ⟨PI.weak (RZ.pi_zipA hg hm ha.pa hs hpl) fun σ H R h => ?_⟩
  obtain ⟨B, ρ, M, k, ok, rs, t, f⟩ := h
  refine bindA ok rs t fun xs M1 vs0 H1 q e o r rs1 => ?_
  obtain ⟨x, y, ds, es, rfl, hc, q⟩ := q
  obtain ⟨v, u, rfl, rv, ru⟩ := RVs.two r
  rcases hc with ⟨hx, hy⟩ | ⟨rfl, rfl⟩
  · have r1 := cview_rp rv hx fun _ h => by cases h
    have r2 := cview_rp ru hy fun _ h => by cases h
    cases r1 with
    | tup s1 ra => cases r2 with
      | tup s2 rb =>
        rename_i a vs b ws
        refine ⟨a, b, vs, ws, rfl, .inr ⟨Same.seqT fz_same s1, Same.seqT fz_same s2, f _ none M1 q _ H1 e o ⟨fun B' M2 H2 i o2 e2 _ hi => ?_, fun B' M2 H2 i o2 e2 _ hi => ?_, fun B' M2 H2 i x' H' o2 e2 _ hi hy => ?_⟩⟩⟩
        · rw [zipD_length] at hi
          obtain ⟨u1, hu1, _⟩ := RpAll.get ra (List.getElem?_eq_getElem (show i < ds.length by omega))
          obtain ⟨u2, hu2, _⟩ := RpAll.get rb (List.getElem?_eq_getElem (show i < es.length by omega))
          exact ⟨vs, ws, u1, u2, Same.seqT fz_same (Same.seqT e2 s1), Same.seqT fz_same (Same.seqT e2 s2), hu1, hu2⟩
        · rw [zipD_length] at hi
          exact ⟨vs, ws, Same.seqT fz_same (Same.seqT e2 s1), Same.seqT fz_same (Same.seqT e2 s2), by rw [RpAll.length ra, RpAll.length rb]; omega⟩
        · rw [zipD_length] at hi
          have h1 := List.getElem?_eq_getElem (show i < ds.length by omega)
          have h2 := List.getElem?_eq_getElem (show i < es.length by omega)
          obtain ⟨T, u1, u2, rfl, hT, rfl, hall, hall2⟩ := hy
          obtain ⟨w1, hu1, hr1⟩ := RpAll.get ra h1
          obtain ⟨w2, hu2, hr2⟩ := RpAll.get rb h2
          have z := hall vs (Same.seqT fz_same (Same.seqT e2 s1))
          have z2 := hall2 ws (Same.seqT fz_same (Same.seqT e2 s2))
          rw [hu1] at z; rw [hu2] at z2
          cases z; cases z2
          exact ⟨_, zipD_get h1 h2, ext_new o2 hT, ok_new o2 hT, .tup (SqT.of (fz_new o2 hT)) (.cons (Rp.ext (ext_new o2 hT) (Rp.same e2 _ _ hr1)) (.cons (Rp.ext (ext_new o2 hT) (Rp.same e2 _ _ hr2)) .nil))⟩
  · cases rv with
    | lst s1 ra => cases ru with
      | lst s2 rb =>
        rename_i a vs b ws
        refine ⟨a, b, vs, ws, rfl, .inl ⟨SqL.of (fz_same _ _ s1), SqL.of (fz_same _ _ s2), f _ none M1 q _ H1 e o ⟨fun B' M2 H2 i o2 e2 _ hi => ?_, fun B' M2 H2 i o2 e2 _ hi => ?_, fun B' M2 H2 i x' H' o2 e2 _ hi hy => ?_⟩⟩⟩
        · rw [zipD_length] at hi
          obtain ⟨u1, hu1, _⟩ := RpAll.get ra (List.getElem?_eq_getElem (show i < ds.length by omega))
          obtain ⟨u2, hu2, _⟩ := RpAll.get rb (List.getElem?_eq_getElem (show i < es.length by omega))
          exact ⟨vs, ws, u1, u2, SqL.of (fz_same _ _ (e2 _ _ s1)), SqL.of (fz_same _ _ (e2 _ _ s2)), hu1, hu2⟩
        · rw [zipD_length] at hi
          exact ⟨vs, ws, SqL.of (fz_same _ _ (e2 _ _ s1)), SqL.of (fz_same _ _ (e2 _ _ s2)), by rw [RpAll.length ra, RpAll.length rb]; omega⟩
        · rw [zipD_length] at hi
          have h1 := List.getElem?_eq_getElem (show i < ds.length by omega)
          have h2 := List.getElem?_eq_getElem (show i < es.length by omega)
          obtain ⟨T, u1, u2, rfl, hT, rfl, hall, hall2⟩ := hy
          obtain ⟨w1, hu1, hr1⟩ := RpAll.get ra h1
          obtain ⟨w2, hu2, hr2⟩ := RpAll.get rb h2
          have z := hall vs (SqL.of (fz_same _ _ (e2 _ _ s1)))
          have z2 := hall2 ws (SqL.of (fz_same _ _ (e2 _ _ s2)))
          rw [hu1] at z; rw [hu2] at z2
          cases z; cases z2
          exact ⟨_, zipD_get h1 h2, ext_new o2 hT, ok_new o2 hT, .tup (SqT.of (fz_new o2 hT)) (.cons (Rp.ext (ext_new o2 hT) (Rp.same e2 _ _ hr1)) (.cons (Rp.ext (ext_new o2 hT) (Rp.same e2 _ _ hr2)) .nil))⟩
/-! ### a tuple of ints made of a list: its methods may be called -/
def tupOrdP : PN := fun M xs q => ∃ x ds ns, xs = [x] ∧ cview M x = some (.list ds) ∧ intsOf ds = some ns ∧ q (.dat (ordD ns))
theorem qtupOrd : QCall X (.type "tuple") tupOrdP := by
  rintro pins s σ H vs us Q I r ⟨B, M, xs, q, ok, rx, ⟨x, ds, ns, rfl, hv, hn, h⟩, m⟩
  obtain ⟨v, rfl, rv⟩ := RVs.one rx
  obtain ⟨a, vs, rfl, h1, h2⟩ := cview_list ok rv hv
  cases ints_rp h2 hn
  rw [Vals.ref1 r]
  obtain ⟨its, rvs, pl, hz⟩ := I.list (SqL.of h1)
  have hlen := rvs.length
  refine call_tuple_list pl.isList (fun h' kp => ?_) (by rw [List.size_toArray]; omega)
  have I1 : Inv X pins σ H { s with heap := h' } := I.kept (t' := s.toks) kp
  have fr : H h'.objs.size = none := I1.hok.fresh (Nat.le_refl _)
  have nw : ObjOk X.prog X.w (upd H h'.objs.size (.frz { cls := .type "tuple", data := .seq its.toArray } (.tup (ns.map V.int)))) (h'.push { cls := .type "tuple", data := .seq its.toArray }) h'.objs.size (.frz { cls := .type "tuple", data := .seq its.toArray } (.tup (ns.map V.int))) :=
    ⟨Heap.get?_push_size _ rfl, hz, its, rvs, IsTup.new _ _⟩
  exact ⟨.ref h'.objs.size, _, I1.laid (t' := s.toks) (fun b o z => Heap.get?_push_of_some _ z) (Nat.le_refl _) nw, rfl, m.new ok fr h (.ord (fz_new ok fr) rfl)⟩
theorem ints_inj : ∀ {ns ms : List Int}, ns.map PyData.int = ms.map PyData.int → ns = ms
  | [], [], _ => rfl
  | n :: ns, m :: ms, h => by
    rw [List.map_cons, List.map_cons] at h
    injection h with h1 h2
    injection h1 with h1
    rw [h1, ints_inj h2]
  | [], _ :: _, h => by cases h
  | _ :: _, [], h => by cases h
theorem rp_ord {K : PySem.W.Frag} {H : Hp} {v : V} {ns : List Int} (r : Rp K H v (ordD ns)) : ∃ a o, v = .ref a ∧ H a = some (.frz o (.tup (ns.map V.int))) ∧ o.dict = none := by
  generalize hd : ordD ns = d at r
  cases r with
  | ord h n =>
    rename_i a o ms
    have : ns = ms := by
      unfold ordD at hd
      injection hd with hd
      injection hd with hd
      injection hd with _ hd
      injection hd with hd
      exact ints_inj hd
    subst this
    exact ⟨_, _, rfl, h, n⟩
  | _ => cases hd
theorem pe_bmT {T id : String} {name : Str} {o : Expr} {apos cpos : Pos} {r : V → List V → Hp → VK → Prop} {too : TE} {tt : TA} (ty : V → Hp → Prop) (pa : PlainAttrs T) (slot : Slot T name id) (hty : typeOf (.builtin id) = pure (.type "method_descriptor")) (hm : MtR X id r)
    (hT : ∀ (pins : List (Addr × Obj)) (s : Shared) (σ : L2.St) (H : Hp) (x : V) (v : Value), Inv X pins σ H s → RelV x v → ty x H → s.TypeIs v T ∧ ∀ a, v = .ref a → ∃ ob, s.heap.get? a = some ob ∧ ob.dict = none) (ho : PE X o too) (ha : PA X (e :: es) tt)
    (hbase : attributeBase o name X.env (eval o X.env) = eval o X.env := by rfl)
    (hfew : ((backTo cpos (starEach (e :: es) X.env)).all (fun x => !x.1) && (backToKw cpos (keywordEach [] X.env)).all (fun x => x.1.isSome)
      && decide ((e :: es).length + ([] : List Keyword).length + (if ([] : List Keyword).isEmpty then 0 else 1) < 30)) = true := by rfl)
    (hline : (apos.endLine == cpos.line) = true := by rfl) (hs : starEach (e :: es) X.env = (false, eval e X.env) :: starEach es X.env := by rfl) (hplain : (backTo cpos (starEach es X.env)).any (·.1) = false := by rfl) :
    PE X (.Call (.Attribute o name apos) (e :: es) [] cpos) (fun σ H Q => too σ H fun x H1 => ty x H1 ∧ tt σ H1 fun xs H2 => r x xs H2 Q) := by
  refine ⟨fun pins s σ H Q I h => wpAny_Call_method_late hbase hfew hline rfl (thn (ho.run pins s σ H _ I h) fun v s1 ⟨x, H1, I1, r1, hx, q1⟩ => ?_)⟩
  have args := ha.run cpos pins s1 σ H1 _ I1 q1
  rw [hs] at args ⊢
  exact ⟨T, id, pa, slot, hty, (hT pins s1 σ H1 x v I1 r1 hx).1, (hT pins s1 σ H1 x v I1 r1 hx).2, Calls.callWith_builtin (by
    show (false || (backTo cpos (starEach es X.env)).any (·.1)) = false
    rw [hplain]; rfl) (Calls.evalArgs_plain (thn args fun us s2 ⟨vs, H2, I2, r2, q2⟩ => hm pins s2 σ H2 x vs v us Q I2 r1 r2 q2))⟩
def ordTy : V → Hp → Prop := fun x H => ∃ a o ys, x = .ref a ∧ H a = some (.frz o (.tup ys)) ∧ o.dict = none
theorem ordTy_is (pins : List (Addr × Obj)) (s : Shared) (σ : L2.St) (H : Hp) (x : V) (v : Value) (I : Inv X pins σ H s) (r : RelV x v) (h : ordTy x H) : s.TypeIs v "tuple" ∧ ∀ a, v = .ref a → ∃ ob, s.heap.get? a = some ob ∧ ob.dict = none := by
  obtain ⟨a, o, ys, rfl, hH, hd⟩ := h
  cases r
  obtain ⟨he, z, its, rvs, ob', he', hc', n, hd'⟩ := (show ObjOk X.prog X.w H s.heap a (.frz o (.tup ys)) from I.hok a _ hH)
  rw [he] at he'
  cases he'
  exact ⟨⟨o, he, hc'⟩, fun b e => by cases e; exact ⟨o, he, hd⟩⟩
def rOrdIx : V → List V → Hp → VK → Prop := fun x xs H Q => ∃ (a : Addr) (o : Obj) (ns : List Int) (i : Int) (j : Nat), x = .ref a ∧ xs = [.int i] ∧ H a = some (.frz o (.tup (ns.map V.int))) ∧ ns[j]? = some i ∧ (∀ m, m < j → ns[m]? ≠ some i) ∧ Q (.int (j : Nat)) H
theorem mt_ordIx : MtR X "tuple.index" rOrdIx := by
  rintro pins s σ H x xs v us Q I rx rs ⟨a, ob, ns, i, j, rfl, rfl, hH, hj, hno, q⟩
  cases rx
  obtain ⟨u, rfl, ru⟩ := vals1 rs
  obtain ⟨he2, z2, its2, rv2, ob2, he2', hc2, n2, hd2⟩ := (show ObjOk X.prog X.w H s.heap a (.frz ob (.tup (ns.map V.int))) from I.hok a _ hH)
  rw [he2] at he2'
  cases he2'
  obtain ⟨cls, dd, dt, sl⟩ := ob
  simp only at hc2 hd2
  subst hc2
  subst hd2
  have hl2 := rv2.length
  rw [List.length_map] at hl2
  have flat : (ns.map V.int).all flatV = true := List.all_eq_true.mpr fun y hy => by
    obtain ⟨z, _, rfl⟩ := List.mem_map.mp hy
    rfl
  have hjl : j < ns.length := (List.getElem?_eq_some_iff.mp hj).1
  have at' : ∀ (m : Nat) (hm : m < its2.toArray.size), ∃ y, ns[m]? = some y ∧ eqU (.int i) its2.toArray[m] = (y == i) := fun m hm => by
    have hm' : m < ns.length := by rw [hl2]; simpa using hm
    obtain ⟨w, hw, rw'⟩ := rv2.get (i := m) (x := .int ns[m]) (by simp [hm'])
    refine ⟨ns[m], List.getElem?_eq_getElem hm', ?_⟩
    have e := (List.getElem?_eq_some_iff.mp hw).2
    have : its2.toArray[m] = w := by rw [← e]; simp
    rw [this, eqU_of (y := .int ns[m]) rw' rfl]; rfl
  have hj2 : j < its2.toArray.size := by rw [List.size_toArray, ← hl2]; exact hjl
  refine call_meets PySem.F.slot_tuple_index ⟨_, he2, rfl⟩ PySem.F.entry_tuple_index (PySem.F.args_tuple_index_2 _ _) (TI.tuple_indexAt a its2.toArray n2 dd sl u (eqU (.int i)) j hj2 ?_ ?_)
    ⟨he2, fun y hy => mem_eqAt (x := .int i) ru rfl rv2 flat y (by simpa using hy), ⟨.int (j : Nat), H, I.tok _, ⟨_, rfl⟩, q⟩⟩
  · obtain ⟨y, h1, h2⟩ := at' j hj2
    rw [h2]
    rw [hj] at h1; cases h1
    exact beq_self_eq_true _
  · intro m hm hmj
    obtain ⟨y, h1, h2⟩ := at' m hm
    rw [h2]
    exact beq_eq_false_iff_ne.mpr fun z => hno m hmj (by rw [h1, z])
/-- o.index(i), o an order -/
def dOrdIx (to : TD) (t : TDa) : TD := fun ρ M k => to ρ M fun x M1 => ∃ ns, x = .dat (ordD ns) ∧ t ρ M1 fun xs M2 => ∃ (i : Int) (j : Nat), xs = [.dat (.int i)] ∧ ns[j]? = some i ∧ (∀ m, m < j → ns[m]? ≠ some i) ∧ k (.dat (.int (j : Nat))) M2
theorem q_ordIx {o : Expr} {apos cpos : Pos} (ho : QE X o to) (ha : QA X [e] t)
    (hbase : attributeBase o "index" X.env (eval o X.env) = eval o X.env := by rfl)
    (hfew : ((backTo cpos (starEach [e] X.env)).all (fun x => !x.1) && (backToKw cpos (keywordEach [] X.env)).all (fun x => x.1.isSome)
      && decide ([e].length + ([] : List Keyword).length + (if ([] : List Keyword).isEmpty then 0 else 1) < 30)) = true := by rfl)
    (hline : (apos.endLine == cpos.line) = true := by rfl) (hs : starEach [e] X.env = (false, eval e X.env) :: starEach [] X.env := by rfl) (hplain : (backTo cpos (starEach [] X.env)).any (·.1) = false := by rfl) :
    QE X (.Call (.Attribute o "index" apos) [e] [] cpos) (dOrdIx to t) := by
  refine ⟨PE.weak (pe_bmT ordTy PySem.F.plainAttrs_tuple PySem.F.slot_tuple_index PySem.F.type_tuple_index mt_ordIx ordTy_is ho.pe ha.pa hbase hfew hline hs hplain) fun σ H Q h => ?_⟩
  obtain ⟨B, ρ, M, k, ok, rs, t, f⟩ := h
  refine bindE ok rs t fun x M1 v H1 q e o r rs1 => ?_
  obtain ⟨ns, rfl, q⟩ := q
  obtain ⟨a, ob, rfl, hH, hd⟩ := rp_ord r
  refine ⟨⟨a, ob, _, rfl, fz_same _ _ hH, hd⟩, bindA o rs1 q fun xs M2 vs H2 q2 e2 o2 r2 rs2 => ?_⟩
  obtain ⟨i, j, rfl, hj, hno, hk⟩ := q2
  obtain ⟨w, rfl, rw'⟩ := RVs.one r2
  cases rw'
  exact ⟨a, ob, ns, i, j, rfl, rfl, fz_same _ _ (e2.same _ _ hH), hj, hno, f _ M2 hk _ H2 (e.trans e2) o2 (.int _)⟩
/-- l.index(d): the first place -/
def dLstIx (to : TD) (t : TDa) : TD := fun ρ M k => to ρ M fun x M1 => ∃ ds, cview M1 x = some (.list ds) ∧ t ρ M1 fun xs M2 => ∃ d ds, ∃ (j : Nat), ∃ z, xs = [.dat d] ∧ cview M2 x = some (.list ds) ∧ flatD d = true ∧ ds.all flatD = true ∧ ds[j]? = some z ∧ PyData.eqv z d = true ∧ (∀ m z', m < j → ds[m]? = some z' → PyData.eqv z' d = false) ∧ k (.dat (.int (j : Nat))) M2
theorem q_lstIx {o : Expr} {apos cpos : Pos} (ho : QE X o to) (ha : QA X [e] t)
    (hbase : attributeBase o "index" X.env (eval o X.env) = eval o X.env := by rfl)
    (hfew : ((backTo cpos (starEach [e] X.env)).all (fun x => !x.1) && (backToKw cpos (keywordEach [] X.env)).all (fun x => x.1.isSome)
      && decide ([e].length + ([] : List Keyword).length + (if ([] : List Keyword).isEmpty then 0 else 1) < 30)) = true := by rfl)
    (hline : (apos.endLine == cpos.line) = true := by rfl) (hs : starEach [e] X.env = (false, eval e X.env) :: starEach [] X.env := by rfl) (hplain : (backTo cpos (starEach [] X.env)).any (·.1) = false := by rfl) :
    QE X (.Call (.Attribute o "index" apos) [e] [] cpos) (dLstIx to t) := by
  refine ⟨PE.weak (pe_bm PySem.F.plainAttrs_list PySem.F.slot_list_index PySem.F.type_list_index mt_index ho.pe ha.pa hbase hfew hline hs hplain) fun σ H Q h => ?_⟩
  obtain ⟨B, ρ, M, k, ok, rs, t, f⟩ := h
  refine bindE ok rs t fun x M1 v H1 q e o r rs1 => ?_
  obtain ⟨ds0, hv0, q⟩ := q
  obtain ⟨a, vs0, rfl, h1, _⟩ := cview_list o r hv0
  refine ⟨.inl ⟨rfl, vs0, SqL.of h1⟩, bindA o rs1 q fun xs M2 us H2 q2 e2 o2 r2 rs2 => ?_⟩
  obtain ⟨d, ds, j, z, rfl, hv, fd, fds, hj, hz, hno, hk⟩ := q2
  obtain ⟨u, rfl, ru⟩ := RVs.one r2
  obtain ⟨a', vs, ea, h2, ra⟩ := cview_list o2 (RV.ext e2 r) hv
  cases ea
  have da : DpAll X.K H2 vs ds := RpAll.dp ds vs (flats_noDict fds) (RpAll.un ra)
  have dd : Dp X.K H2 u d := Rp.dp d u (flat_noDict fd) (Rp.un ru)
  obtain ⟨w, hw, rw'⟩ := RpAll.get ra hj
  have fz' : flatD z = true := List.all_eq_true.mp fds z (List.mem_of_getElem? hj)
  refine ⟨a, vs, u, j, w, rfl, rfl, SqL.of h2, flat_V dd fd, flat_all da fds, hw, ?_, fun m z' hm hz' => ?_, f _ M2 hk _ H2 (e.trans e2) o2 (.int _)⟩
  · rw [flat_eq (Rp.dp z w (flat_noDict fz') (Rp.un rw')) dd fz' fd]; exact hz
  · obtain ⟨y, hy, ry⟩ := RpAll.get' ra hz'
    have fy : flatD y = true := List.all_eq_true.mp fds y (List.mem_of_getElem? hy)
    rw [flat_eq (Rp.dp y z' (flat_noDict fy) (Rp.un ry)) dd fy fd]
    exact hno m y hm hy
/-- sorted(d), d a dict whose keys are texts -/
def strKeys : List (Key × PyData) → Option (List Str)
  | [] => some []
  | (.inr x, _) :: r => (strKeys r).map (x :: ·)
  | _ :: _ => none
theorem strKeys_keys : ∀ {kvs : List (Key × PyData)} {ks : List Str}, strKeys kvs = some ks → kvs.map (·.1) = ks.map Sum.inr
  | [], _, h => by cases h; rfl
  | (.inr x, _) :: r, ks, h => by
    obtain ⟨ms, h1, rfl⟩ := Option.map_eq_some_iff.mp (show (strKeys r).map (x :: ·) = some ks from h)
    rw [List.map_cons, List.map_cons, strKeys_keys h1]
  | (.inl _, _) :: _, _, h => by cases h
def sortedDP : PN := fun M xs q => ∃ a kvs ks, xs = [.ref a] ∧ M a = some (.dicV kvs) ∧ strKeys kvs = some ks ∧ ks.length < 64 ∧ ∀ ys, ys.Perm ks → sortedS ys = true → q (.dat (.list (ys.map PyData.str)))
theorem strs_rp {K : PySem.W.Frag} {H : Hp} : ∀ ys : List Str, RpAll K H (ys.map V.str) (ys.map PyData.str)
  | [] => .nil
  | y :: ys => .cons (.str y) (strs_rp ys)
theorem qsortedD (hc : X.calm = true) : QCall X (.builtin "sorted") sortedDP := by
  rintro pins s σ H vs us Q I r ⟨B, M, xs, q, ok, rx, ⟨a, kvs, ks, rfl, hm, hk, h64, h⟩, m⟩
  obtain ⟨v, rfl, rv⟩ := RVs.one rx
  cases rv
  obtain ⟨kvs', h1, h2⟩ := ok.rep a _ hm
  have keys : kvs'.map (·.1) = ks.map Sum.inr := by
    rw [← strKeys_keys hk]
    clear h1 hk h hm
    induction h2 with
    | nil => rfl
    | cons e t ih => rw [List.map_cons, List.map_cons, ih, e.1]
  exact call_sortedD hc pins s σ H _ us Q I r ⟨a, kvs', ks, rfl, .inl h1, keys, h64, fun ys p h3 h4 hp => m.lst ok hp (h ys h3 h4) (strs_rp ys)⟩
/-- min of a tuple of ints -/
def minTP : PN := fun M xs q => ∃ x ds n ns, xs = [x] ∧ cview M x = some (.tuple ds) ∧ intsOf ds = some (n :: ns) ∧ q (.dat (.int (ns.foldl min n)))
theorem ints_eq : ∀ {ds : List PyData} {ns : List Int}, intsOf ds = some ns → ds = ns.map PyData.int
  | [], _, e => by cases e; rfl
  | .int i :: r, ns, e => by
    obtain ⟨ms, h, rfl⟩ := Option.map_eq_some_iff.mp (show (intsOf r).map (i :: ·) = some ns from e)
    rw [ints_eq h]; rfl
  | .none :: _, _, e => by cases e
  | .bool _ :: _, _, e => by cases e
  | .str _ :: _, _, e => by cases e
  | .list _ :: _, _, e => by cases e
  | .tuple _ :: _, _, e => by cases e
  | .dict _ :: _, _, e => by cases e
theorem alike_mapInts (ns : List Int) : PySem.W.AlikeAll (ns.map PyData.int) := by
  refine ⟨fun d hd d' hd' => ?_, fun d hd => ?_⟩
  · obtain ⟨x, _, rfl⟩ := List.mem_map.mp hd
    obtain ⟨y, _, rfl⟩ := List.mem_map.mp hd'
    rfl
  · obtain ⟨x, _, rfl⟩ := List.mem_map.mp hd
    exact fun z => by cases z
theorem qminT (hc : X.calm = true) (hu : X.A.units + 64 < cLine) : QCall X (.builtin "min") minTP := by
  rintro pins s σ H vs us Q I r ⟨B, M, xs, q, ok, rx, ⟨x, ds, n, ns, rfl, hv, hn, h⟩, m⟩
  obtain ⟨v, rfl, rv⟩ := RVs.one rx
  obtain ⟨a, vs, rfl, sq, ra⟩ := rv_tup rv hv
  have hds := ints_eq hn
  rw [Vals.ref1 r]
  obtain ⟨its, rvs, p, hz⟩ := I.tuple sq
  have nd : noDicts ds = true := by
    rw [hds]
    exact flats_noDict (List.all_eq_true.mpr fun y hy => by
      obtain ⟨z, _, rfl⟩ := List.mem_map.mp hy
      rfl)
  obtain ⟨as, hr⟩ := Dp.readsAll I ds _ its (RpAll.dp ds vs nd (RpAll.un ra)) rvs
  rw [hds] at hr
  have dep : PyData.depthAll ((n :: ns).map PyData.int) = 0 := PySem.W.depth_ints _
  refine PySem.W.min_tuple_data (x := .int n) (xs := ns.map PyData.int) (I.ok.hd hc) (show s.heap.IsTuple a its.toArray from p) (by simpa using hr) (alike_mapInts (n :: ns)) (by
    rw [show (PyData.int n :: ns.map PyData.int) = (n :: ns).map PyData.int from rfl, dep]; omega) fun i w h' tk bs hw hrd hk => ?_
  rw [PySem.W.minD_ints] at hrd
  cases hrd with
  | int j t => exact ⟨.int _, H, I.kept hk, ⟨t, rfl⟩, rp_of m ok h (.int _)⟩
end
end Kf

/-! Kf: what stands of defs and classes; short words for derivations. -/
namespace Kf
open PySem PySem.Spec PyProof.Rows L2
/-! ### products -/
def mulV : F2
  | .int i, .int j, q => CMul i j ∧ q (.int (i * j))
  | .str x, .int k, q => MulOk x k ∧ q (.str (Txt.mul x k))
  | .list ds, .int k, q => -(2 ^ 63) ≤ k ∧ k < 2 ^ 63 ∧ ds.length * k.toNat ≤ sizeLine ∧ q (.list (List.replicate k.toNat ds).flatten)
  | .tuple ds, .int k, q => ds ≠ [] ∧ 2 ≤ k ∧ k ≤ 1000 ∧ ds.length ≤ 1000 ∧ q (.tuple (List.replicate k.toNat ds).flatten)
  | _, _, _ => False
section
variable {X : Cx}
theorem qmul : QOp X (binaryOp .Mult) (opV mulV) := by
  rintro pins s σ H v u v' u' Q I rv ru ⟨B, M, x, y, q, ok, rx, ry, ⟨d, e, hd, he, h⟩, m⟩
  unfold mulV at h
  split at h
  · exact qmulI pins s σ H v u v' u' Q I rv ru ⟨B, M, x, y, q, ok, rx, ry, ⟨_, _, hd, he, h⟩, m⟩
  · exact qmulS pins s σ H v u v' u' Q I rv ru ⟨B, M, x, y, q, ok, rx, ry, ⟨_, _, hd, he, h⟩, m⟩
  · exact qmulL pins s σ H v u v' u' Q I rv ru ⟨B, M, x, y, q, ok, rx, ry, ⟨_, _, hd, he, h⟩, m⟩
  · exact qmulT pins s σ H v u v' u' Q I rv ru ⟨B, M, x, y, q, ok, rx, ry, ⟨_, _, hd, he, h⟩, m⟩
  · exact h.elim
def negP : P1 := fun M x q => ∃ i, x = .dat (.int i) ∧ q (.dat (.int (-i)))
theorem qneg : QUn X (unaryOp .USub) negP := by
  rintro pins s σ H v u Q I rv ⟨B, M, x, q, ok, rx, ⟨i, rfl, h⟩, m⟩
  cases rx
  exact un_neg pins s σ H _ u Q I rv ⟨i, rfl, rp_of m ok h (.int _)⟩
/-! ### room -/
theorem u64 {k : Nat} {A : Around} (r : Room k A) : A.units + 64 < cLine := r.units
theorem u65 {k : Nat} {A : Around} (r : Room k A) : A.units + 65 < cLine := by have := r.un; omega
theorem u1 {k : Nat} {A : Around} (r : Room k A) : A.units + 1 < cLine := by have := r.un; omega
end
/-! ### defs -/
structure Has (P : Program) (w : World) (K : PySem.W.Frag) (mg : Str → Option Value) (base : Heap) (x : Str) (k : Nat) (ps : List Str) (sp : DSp) : Prop where
  ex : ∃ f fd, FnOk P w K mg base CX0 k f fd ps (liftP K P w sp) ∧ mg x = some (.ref f) ∧ PySem.W.keepIn K (.ref f) = true ∧ Binds K fd ps []
structure HasM (P : Program) (w : World) (K : PySem.W.Frag) (mg : Str → Option Value) (base : Heap) (C : Addr) (m : Str) (k : Nat) (ps : List Str) (sp : DSp) : Prop where
  ex : ∃ f fd, FnOk P w K mg base CX0 k f fd ps (liftP K P w sp) ∧ Meth K C m f ∧ Binds K fd ps []
structure HasC (P : Program) (w : World) (K : PySem.W.Frag) (mg : Str → Option Value) (base : Heap) (x : Str) (C : Addr) (k : Nat) (ps : List Str) (sp : DSp) : Prop where
  ex : ∃ f fd, FnOk P w K mg base CX0 k f fd ps (liftP K P w sp) ∧ Mk K C f ∧ mg x = some (.ref C) ∧ Binds K fd ps []
section
variable {X : Cx} {k : Nat} {ps : List Str} {sp : DSp} {x m : Str} {C : Addr} {p pos apos : Pos} {o e : Expr} {es : List Expr} {t : TDa} {to : TD}
theorem q_callH (F : Has X.prog X.w X.K X.mg X.base x k ps sp) (hr : Room k X.A) (hg : Gl X x) (ha : QA X (e :: es) t)
    (hdb : (x == ("__debug__" : Str)) = false := by decide) (hs : starEach (e :: es) X.env = (false, eval e X.env) :: starEach es X.env := by rfl) (h2 : (backTo pos (starEach es X.env)).any (·.1) = false := by rfl) : QE X (.Call (.Name x p) (e :: es) [] pos) (dCall sp t) := by
  obtain ⟨f, fd, F, hm, hk, hb⟩ := F.ex
  exact q_call F hr hg hm hk hb ha hdb hs h2
theorem q_methH {pl : Sem Bool} (F : HasM X.prog X.w X.K X.mg X.base C m k ps sp) (c : Cls X.K C) (hr : Room k X.A) (ho : QE X o to) (ha : QA X (e :: es) t)
    (hst : starEach (e :: es) X.env = (false, eval e X.env) :: starEach es X.env := by rfl) (hpl : (backTo pos (starEach es X.env)).any (·.1) = false := by rfl)
    (ht : eval (.Call (.Attribute o m apos) (e :: es) [] pos) X.env = (do
      let ov ← eval o X.env
      standAt apos.atName
      let (f, first) ← holding [ov] (getMethod ov m pl)
      callWith pos f first (backTo pos (starEach (e :: es) X.env)) []) := by rfl) : QE X (.Call (.Attribute o m apos) (e :: es) [] pos) (dMeth C m sp to t) := by
  obtain ⟨f, fd, F, hm, hb⟩ := F.ex
  exact q_meth ho c hm F hr hb ha hst hpl ht
theorem q_makeH (F : HasC X.prog X.w X.K X.mg X.base x C k ps sp) (hr : Room (k + 1) X.A) (hg : Gl X x) (ha : QA X (e :: es) t)
    (hdb : (x == ("__debug__" : Str)) = false := by decide) (he : starEach (e :: es) X.env = (false, eval e X.env) :: starEach es X.env := by rfl) (hpl : (backTo pos (starEach es X.env)).any (·.1) = false := by rfl) : QE X (.Call (.Name x p) (e :: es) [] pos) (dMake C sp t) := by
  obtain ⟨f, fd, F, hM, hm, hb⟩ := F.ex
  exact q_make hM F hr hg hm hb ha hdb he hpl
end
section
variable {P : Program} {w : World} {K : PySem.W.Frag} {mg : Str → Option Value} {base : Heap} {x qual : Str} {params : Arguments} {body : List Stmt} {scope : Scope} {f : Addr} {fd : FuncData} {N ps : List Str} {k : Nat} {sp : DSp} {t : TDs}
/-- THE RULE for a def: its body's reading, and what it says of every call -/
theorem fn_okD (F : FunD K x qual params body scope [] [] f fd) (S : FnScope N ps scope) (len : ∀ ds M k, sp ds M k → ds.length = ps.length)
    (ht : ∀ (cdv : Value) (A : Around) (outer : List Env) (s : Shared) (H : Hp) (E : XK), Room k (A.deeper (envOfC qual scope s.heap.objs.size f cdv)) → QSs (cxOf CX0 P w K mg base N qual scope f cdv A outer s H E).nox body t)
    (hq : ∀ ds M k, sp ds M k → t { nx := fun _ M' => rtK k (.dat .none) M', rt := rtK k } (startD N ds) M) : FnOk P w K mg base CX0 (k + 1) f fd ps (liftP K P w sp) := by
  refine F.ok S (fun vs H Q E ⟨B, ds, M, k, ok, r, h, _⟩ => (Paired.len r).trans (len ds M k h)) fun cdv A outer s H vs Q E hr h => ?_
  obtain ⟨B, ds, M, k, ok, r, h, hk⟩ := h
  have fin : ∀ d M1, rtK k d M1 → ∀ v H1, Ext B M H M1 H1 → OkM K P w B M1 H1 → RV K B M1 H1 v d → Q v H1 := fun d M1 ⟨d', M', c, hk'⟩ v H1 e o rv =>
    hk d' M' hk' v H1 (e.trans (ext_sub c.1)) (ok_sub c.1 o) (conv.rv c o rv)
  refine ⟨_, ((ht cdv A outer s H E hr).pss).nox, B, startD N ds, M, { nx := fun _ M' => rtK k (.dat .none) M', rt := rtK k }, ok, start_rep r, hq ds M k h, ⟨fun ρ' M' σ' H' q e o _ => fin _ M' q _ H' e o .non, fun d M' q v H' e o rv => fin d M' q v H' e o rv, fun _ _ _ _ q => q.elim, fun _ _ _ _ q => q.elim⟩⟩
/-- a def of which nothing is wanted -/
def spNo : DSp := fun _ _ _ => False
theorem fn_no : FnOk P w K mg base CX0 k f fd ps (liftP K P w spNo) := ⟨fun vs H Q E ⟨B, ds, M, k, ok, r, h, _⟩ => h.elim, fun A outer s H args us vs Q E hr he hb hv ⟨B, ds, M, k, ok, r, h, _⟩ => h.elim⟩
/-- the promise one call deeper -/
def spPrev (sp : Nat → DSp) : Nat → DSp
  | 0 => spNo
  | n + 1 => sp n
theorem Has.mono {j : Nat} {y : Str} (h : Has P w K mg base y j ps sp) (hj : j ≤ k) : Has P w K mg base y k ps sp := let ⟨f, fd, a, b, c, d⟩ := h.ex; ⟨f, fd, a.mono hj, b, c, d⟩
theorem HasM.mono {j : Nat} {y : Str} {C : Addr} (h : HasM P w K mg base C y j ps sp) (hj : j ≤ k) : HasM P w K mg base C y k ps sp := let ⟨f, fd, a, b, c⟩ := h.ex; ⟨f, fd, a.mono hj, b, c⟩
theorem HasC.mono {j : Nat} {y : Str} {C : Addr} (h : HasC P w K mg base y C j ps sp) (hj : j ≤ k) : HasC P w K mg base y C k ps sp := let ⟨f, fd, a, b, c, d⟩ := h.ex; ⟨f, fd, a.mono hj, b, c, d⟩
end
section
variable {X : Cx} {s : Shared} {H : Hp} {scope : Scope} {C : Addr} {cl : List (Str × Addr)} {fp : List Addr} {e : Expr} {t : TD} {tt : TDb} {i j : Nat}
theorem QE.blk (h : QE (X.blk s H scope (compEnvC scope cl C X.env) fp) e t) : PE (X.blk s H scope (compEnvC scope cl C X.env) fp) e (liftE X t) := h.pe
theorem QT.blk (h : QT (X.blk s H scope (compEnvC scope cl C X.env) fp) e tt) : PTs (X.blk s H scope (compEnvC scope cl C X.env) fp) [e] (liftT X tt) := pts_one h.pt
theorem no_blk : PTs (X.blk s H scope (compEnvC scope cl C X.env) fp) [] (liftT X dYes) := qts_nil (X := X.blk s H scope (compEnvC scope cl C X.env) fp)
end
/-- the law: a script is handed in, True comes out -/
def spLaw : DSp := fun ds M k => ∃ ns : List Int, ds = [.scr ns] ∧ ns.length ≤ 63 ∧ M = (fun _ => none) ∧ k (.dat (.bool true)) M
theorem law_sp {K : PySem.W.Frag} {P : Program} {w : World} {H : Hp} {a : Addr} {ns : List Int} (hl : ns.length ≤ 63) (h : SqL K H a (ns.map V.int)) : liftP K P w spLaw [.ref a] H (fun v _ => v = .bl true) fun _ _ _ => False := by
  have e : fz [] (fun _ => none) H = H := by
    funext b; unfold fz
    rw [if_neg (by simp)]
  refine ⟨[], [.scr ns], fun _ => none, fun d _ => d = .dat (.bool true), ⟨fun a o q => (by cases q), fun b hb => (by cases hb)⟩, .cons ⟨a, rfl, by rw [e]; exact h⟩ .nil, ⟨ns, rfl, hl, rfl, rfl⟩, ?_⟩
  rintro d M' rfl v H' _ _ r
  cases r
  rfl
end Kf

/-! Ks: keys, rows, trees; what the defs of rows.py do. -/
namespace Ks
open PySem PySem.Spec PyProof.Rows L2 Kf

/-- a key, and what a row of a fold comes to -/
inductive Tr where
  | leaf (ns : List Str)
  | node (c : Nat) (a b : Tr)
  deriving DecidableEq
inductive Row where
  | leaf (ns : List Str)
  | node (c i j : Nat)
  deriving DecidableEq
def encNames (ns : List Str) : PyData := .tuple (ns.map PyData.str)
def encRow : Row → PyData
  | .leaf ns => .tuple [.str "names", encNames ns]
  | .node c i j => .tuple [.int (c : Nat), .int (i : Nat), .int (j : Nat)]
def encKey : Tr → PyData
  | .leaf ns => .tuple [.str "names", encNames ns]
  | .node c a b => .tuple [.str "ask", .int (c : Nat), encKey a, encKey b]
def Row.isLeaf : Row → Bool
  | .leaf _ => true
  | .node _ _ _ => false
def encFold (F : List Row) : PyData := .tuple (F.map encRow)
theorem szb {n : Nat} (h : Nat.ble n 1000 = true) : n ≤ sizeLine := Nat.le_trans (Nat.le_of_ble_eq_true h) (by decide)
theorem rt_same {k : KD} {d : DV} {M : MS} (h : k d M) : rtK k d M := ⟨d, M, ⟨Sub.refl M, .inl rfl⟩, h⟩
abbrev rtE (k : KD) : DEnds := { nx := fun _ M' => rtK k (.dat .none) M', rt := rtK k }
theorem eqv_int (a b : Int) : PyData.eqv (.int a) (.int b) = (a == b) := rfl
theorem eqv_nat (a b : Nat) : PyData.eqv (.int (a : Nat)) (.int (b : Nat)) = (a == b) := by
  show ((a : Int) == (b : Int)) = (a == b)
  by_cases h : a = b
  · subst h; rw [beq_self_eq_true, beq_self_eq_true]
  · rw [beq_eq_false_iff_ne.mpr h, beq_eq_false_iff_ne.mpr (show (a : Int) ≠ (b : Int) by omega)]
theorem if_t {P Q : Prop} {b : Bool} (h : b = true) (p : P) : if b = true then P else Q := by rw [if_pos h]; exact p
theorem if_f {P Q : Prop} {b : Bool} (h : b = false) (p : Q) : if b = true then P else Q := by rw [if_neg (by rw [h]; exact Bool.false_ne_true)]; exact p
theorem if_b {P Q : Prop} {b : Bool} (h1 : b = true → P) (h2 : b = false → Q) : if b = true then P else Q := by
  cases b with
  | true => exact if_t rfl (h1 rfl)
  | false => exact if_f rfl (h2 rfl)

/-! ### is_leaf -/
def t_is_leaf : TDs := (dRet (dOp (opR eqV2) (dOp (opV ixV) (dVar 0) (dC (.int 0))) (dC (.str "names"))))
def sp_is_leaf : DSp := fun ds M k => ∃ r : Row, ds = [.dat (encRow r)] ∧ k (.dat (.bool r.isLeaf)) M
theorem rd_is_leaf : ∀ ds M k, sp_is_leaf ds M k → t_is_leaf (rtE k) (startD ["row"] ds) M := by
  rintro _ M k ⟨r, rfl, h⟩
  cases r with
  | leaf ns => exact ⟨_, rfl, _, _, rfl, rfl, _, rfl, _, _, rfl, rfl, rfl, rt_same h⟩
  | node c i j => exact ⟨_, rfl, _, _, rfl, rfl, _, rfl, _, _, rfl, rfl, rfl, rt_same h⟩
/-! ### goals_at -/
def rowsOf (M : MS) (x : DV) (R : List Row) : Prop := ∃ d, cview M x = some d ∧ items d = some (R.map encRow)
def t_goals_at : TDs := (dSeq (dSet 3 (dOp (opV ixV) (dVar 0) (dVar 1)))
  (dSeq (dIf (dOr (dB (dCall sp_is_leaf (daCons (dVar 3) daNil))) (dB (dOp (opR neV2) (dOp (opV ixV) (dVar 3) (dC (.int 0))) (dVar 2)))) (dRet (dTup (daCons (dVar 1) (daCons (dVar 1) daNil)))) dNext)
  (dRet (dTup (daCons (dOp (opV ixV) (dVar 3) (dC (.int 1))) (daCons (dOp (opV ixV) (dVar 3) (dC (.int 2))) daNil))))))
def goalsAt (r : Row) (i c : Nat) : Nat × Nat := match r with
  | .leaf _ => (i, i)
  | .node c' a b => if c' = c then (a, b) else (i, i)
def sp_goals_at : DSp := fun ds M k => ∃ (R : List Row) (F : DV) (i c : Nat) (r : Row), ds = [F, .dat (.int (i : Nat)), .dat (.int (c : Nat))] ∧ rowsOf M F R ∧ R[i]? = some r ∧ k (.dat (.tuple [.int ((goalsAt r i c).1 : Nat), .int ((goalsAt r i c).2 : Nat)])) M
theorem ix_row {M : MS} {F : DV} {R : List Row} {i : Nat} {r : Row} {q : DV → Prop} (hR : rowsOf M F R) (hr : R[i]? = some r) (h : q (.dat (encRow r))) : opV ixV M F (.dat (.int (i : Nat))) q := by
  obtain ⟨d, h1, h2⟩ := hR
  have e : (R.map encRow)[i]? = some (encRow r) := by rw [List.getElem?_map, hr]; rfl
  refine ⟨d, _, h1, rfl, ?_⟩
  cases d with
  | list ds => cases h2; exact ⟨_, atI_nat e, h⟩
  | tuple ds => cases h2; exact ⟨_, atI_nat e, h⟩
  | _ => cases h2
theorem rd_goals_at : ∀ ds M k, sp_goals_at ds M k → t_goals_at (rtE k) (startD ["fold", "at", "character", "row"] ds) M := by
  rintro _ M k ⟨R, F, i, c, r, rfl, hR, hr, h⟩
  refine ⟨F, rfl, _, rfl, ix_row hR hr ?_⟩
  refine ⟨_, rfl, r, rfl, _, rfl, ?_⟩
  cases r with
  | leaf ns => exact ⟨_, rfl, _, rfl, _, rfl, szb rfl, rt_same h⟩
  | node c' a b =>
    refine ⟨_, rfl, _, _, rfl, rfl, _, rfl, _, rfl, _, _, rfl, rfl, rfl, _, rfl, ?_⟩
    refine if_b (fun e => ?_) fun e => ?_
    · have e : (!PyData.eqv (.int (c' : Nat)) (.int (c : Nat))) = true := e
      rw [eqv_nat] at e
      have hn : ¬ c' = c := fun z => by subst z; simp at e
      refine ⟨_, rfl, _, rfl, _, rfl, szb rfl, rt_same ?_⟩
      simpa [goalsAt, hn] using h
    · have e : (!PyData.eqv (.int (c' : Nat)) (.int (c : Nat))) = false := e
      rw [eqv_nat] at e
      have hn : c' = c := by simpa using e
      refine ⟨_, rfl, _, _, rfl, rfl, _, rfl, _, rfl, _, _, rfl, rfl, _, rfl, _, rfl, szb rfl, rt_same ?_⟩
      simpa [goalsAt, hn] using h

/-! ### what a row comes to -/
inductive Den (R : List Row) : Nat → Tr → Prop
  | leaf {i ns} : R[i]? = some (.leaf ns) → Den R i (.leaf ns)
  | node {i c a b ta tb} : R[i]? = some (.node c a b) → Den R a ta → Den R b tb → Den R i (.node c ta tb)
theorem Den.row_leaf {R : List Row} {i : Nat} {ns : List Str} (h : Den R i (.leaf ns)) : R[i]? = some (.leaf ns) := by cases h with | leaf h => exact h
theorem Den.row_node {R : List Row} {i c : Nat} {ta tb : Tr} (h : Den R i (.node c ta tb)) : ∃ a b, R[i]? = some (.node c a b) ∧ Den R a ta ∧ Den R b tb := by cases h with | node h1 h2 h3 => exact ⟨_, _, h1, h2, h3⟩
theorem Den.fn {R : List Row} : ∀ {t t' : Tr} {i : Nat}, Den R i t → Den R i t' → t = t'
  | .leaf ns, .leaf ms, i, h, h' => by
    have := h.row_leaf; rw [h'.row_leaf] at this; cases this; rfl
  | .leaf ns, .node c a b, i, h, h' => by
    obtain ⟨x, y, e, _⟩ := h'.row_node
    rw [h.row_leaf] at e; cases e
  | .node c a b, .leaf ns, i, h, h' => by
    obtain ⟨x, y, e, _⟩ := h.row_node
    rw [h'.row_leaf] at e; cases e
  | .node c a b, .node c' a' b', i, h, h' => by
    obtain ⟨x, y, e, h1, h2⟩ := h.row_node
    obtain ⟨x', y', e', h1', h2'⟩ := h'.row_node
    rw [e] at e'; cases e'
    rw [Den.fn h1 h1', Den.fn h2 h2']
theorem nodup_at {α : Type} {R : List α} (h : R.Nodup) {i j : Nat} {x : α} (hi : R[i]? = some x) (hj : R[j]? = some x) : i = j := by
  obtain ⟨hi1, hi2⟩ := List.getElem?_eq_some_iff.mp hi
  obtain ⟨hj1, hj2⟩ := List.getElem?_eq_some_iff.mp hj
  have pw := List.pairwise_iff_getElem.mp h
  rcases Nat.lt_trichotomy i j with z | z | z
  · exact absurd (hi2.trans hj2.symm) (pw i j hi1 hj1 z)
  · exact z
  · exact absurd (hj2.trans hi2.symm) (pw j i hj1 hi1 z)
theorem at_app {α : Type} {R : List α} {i : Nat} {x : α} (h : R[i]? = some x) (R' : List α) : (R ++ R')[i]? = some x := by
  rw [List.getElem?_append_left (List.getElem?_eq_some_iff.mp h).1]; exact h
theorem Den.inj {R : List Row} (nd : R.Nodup) : ∀ {t : Tr} {i j : Nat}, Den R i t → Den R j t → i = j
  | .leaf ns, i, j, h, h' => nodup_at nd h.row_leaf h'.row_leaf
  | .node c a b, i, j, h, h' => by
    obtain ⟨x, y, e, h1, h2⟩ := h.row_node
    obtain ⟨x', y', e', h1', h2'⟩ := h'.row_node
    rw [Den.inj nd h1 h1', Den.inj nd h2 h2'] at e
    exact nodup_at nd e e'
theorem Den.ext {R : List Row} (R' : List Row) : ∀ {t : Tr} {i : Nat}, Den R i t → Den (R ++ R') i t
  | .leaf ns, i, h => .leaf (at_app h.row_leaf R')
  | .node c a b, i, h => by
    obtain ⟨x, y, e, h1, h2⟩ := h.row_node
    exact .node (at_app e R') (Den.ext R' h1) (Den.ext R' h2)
def Tr.depth : Tr → Nat
  | .leaf _ => 0
  | .node _ a b => max a.depth b.depth + 1
def Tr.size : Tr → Nat
  | .leaf _ => 1
  | .node _ a b => a.size + b.size + 1
theorem Tr.size_le : ∀ t : Tr, t.size + 1 ≤ 2 ^ (t.depth + 1)
  | .leaf _ => show 1 + 1 ≤ 2 ^ 1 by decide
  | .node _ a b => by
    have h1 := Tr.size_le a
    have h2 := Tr.size_le b
    have h3 : 2 ^ (a.depth + 1) ≤ 2 ^ (max a.depth b.depth + 1) := Nat.pow_le_pow_right (by decide) (by omega)
    have h4 : 2 ^ (b.depth + 1) ≤ 2 ^ (max a.depth b.depth + 1) := Nat.pow_le_pow_right (by decide) (by omega)
    show a.size + b.size + 1 + 1 ≤ 2 ^ (max a.depth b.depth + 1 + 1)
    rw [Nat.pow_succ]
    omega

/-! ### left_from -/
def t_left_from (self : DSp) : TDs := (dSeq (dIf (dB (dOp (opR (inV2 id)) (dVar 1) (dVar 2))) dRetN dNext)
  (dSeq (dIf (dNot (dB (dCall sp_is_leaf (daCons (dOp (opV ixV) (dVar 0) (dVar 1)) daNil)))) (dSeq (dExpr (dCall self (daCons (dVar 0) (daCons (dOp (opV ixV) (dOp (opV ixV) (dVar 0) (dVar 1)) (dC (.int 1))) (daCons (dVar 2) daNil)))))
  (dExpr (dCall self (daCons (dVar 0) (daCons (dOp (opV ixV) (dOp (opV ixV) (dVar 0) (dVar 1)) (dC (.int 2))) (daCons (dVar 2) daNil)))))) dNext)
  (dExpr (dAppend (dVar 2) (daCons (dVar 1) daNil)))))
/-- the rows in the order in which they are left -/
def post : Tr → List Tr → List Tr
  | .leaf ns, m => if Tr.leaf ns ∈ m then m else m ++ [.leaf ns]
  | .node c a b, m => if Tr.node c a b ∈ m then m else post b (post a m) ++ [.node c a b]
def ixs (l : List Nat) : List PyData := l.map fun i => .int (i : Nat)
inductive Dens (R : List Row) : List Nat → List Tr → Prop
  | nil : Dens R [] []
  | cons {i t l ts} : Den R i t → Dens R l ts → Dens R (i :: l) (t :: ts)
theorem Dens.snoc {R : List Row} {l : List Nat} {ts : List Tr} (h : Dens R l ts) {i : Nat} {t : Tr} (d : Den R i t) : Dens R (l ++ [i]) (ts ++ [t]) := by
  induction h with
  | nil => exact .cons d .nil
  | cons a b ih => exact .cons a ih
theorem Dens.len {R : List Row} {l : List Nat} {ts : List Tr} (h : Dens R l ts) : l.length = ts.length := by
  induction h with
  | nil => rfl
  | cons a b ih => rw [List.length_cons, List.length_cons, ih]
theorem Dens.mem {R : List Row} (nd : R.Nodup) {l : List Nat} {ts : List Tr} (h : Dens R l ts) {i : Nat} {t : Tr} (d : Den R i t) : i ∈ l ↔ t ∈ ts := by
  induction h with
  | nil => simp
  | cons a b ih =>
    rw [List.mem_cons, List.mem_cons, ih]
    constructor
    · rintro (rfl | h)
      · exact .inl (Den.fn d a)
      · exact .inr h
    · rintro (rfl | h)
      · exact .inl (Den.inj nd d a)
      · exact .inr h
theorem Dens.ext {R : List Row} (R' : List Row) {l : List Nat} {ts : List Tr} (h : Dens R l ts) : Dens (R ++ R') l ts := by
  induction h with
  | nil => exact .nil
  | cons a b ih => exact .cons (Den.ext R' a) ih
theorem post_len : ∀ (t : Tr) (m : List Tr), (post t m).length ≤ m.length + t.size
  | .leaf ns, m => by
    unfold post Tr.size
    split
    · omega
    · rw [List.length_append]; exact Nat.le_refl _
  | .node c a b, m => by
    unfold post Tr.size
    split
    · omega
    · have h1 := post_len a m
      have h2 := post_len b (post a m)
      rw [List.length_append, List.length_singleton]
      omega
def sp_left_from (n : Nat) : DSp := fun ds M k => ∃ (R : List Row) (F : DV) (i : Nat) (t : Tr) (m : Addr) (l : List Nat) (ts : List Tr), ds = [F, .dat (.int (i : Nat)), .ref m] ∧ rowsOf M F R ∧ (∀ a, F = .ref a → a ≠ m) ∧ R.Nodup ∧ Den R i t ∧ t.depth ≤ n ∧ M m = some (.lst (ixs l)) ∧ Dens R l ts ∧ ts.length + t.size ≤ 1000000 ∧
  ∀ l', Dens R l' (post t ts) → k (.dat .none) (setM M m (.lst (ixs l')))
theorem setM_self {M : MS} {a : Addr} {o : MO} (h : M a = some o) : setM M a o = M := by
  funext b; unfold setM; split
  · rename_i e; rw [e, h]
  · rfl
theorem setM_set {M : MS} {a : Addr} {o u : MO} : setM (setM M a o) a u = setM M a u := by
  funext b; unfold setM; split <;> rfl
theorem setM_comm {M : MS} {a b : Addr} {o u : MO} (h : a ≠ b) : setM (setM M a o) b u = setM (setM M b u) a o := by
  funext c; unfold setM
  by_cases h1 : c = a
  · by_cases h2 : c = b
    · exact absurd (h1.symm.trans h2) h
    · simp [h1, h]
  · simp [h1]
theorem cview_set {M : MS} {F : DV} {m : Addr} {o : MO} (h : ∀ a, F = .ref a → a ≠ m) : cview (setM M m o) F = cview M F := by
  cases F with
  | dat d => rfl
  | ref a => show (ownL (setM M m o) a).map _ = (ownL M a).map _; unfold ownL; rw [setM_ne (h a rfl)]
  | scr ns => rfl
theorem rowsOf.set {M : MS} {F : DV} {R : List Row} {m : Addr} {o : MO} (h : rowsOf M F R) (hm : ∀ a, F = .ref a → a ≠ m) : rowsOf (setM M m o) F R := by
  obtain ⟨d, h1, h2⟩ := h
  exact ⟨d, by rw [cview_set hm]; exact h1, h2⟩
theorem ints_flat (l : List Nat) : (ixs l).all flatD = true := List.all_eq_true.mpr fun y hy => by
  obtain ⟨z, _, rfl⟩ := List.mem_map.mp hy
  rfl
theorem ints_any (l : List Nat) (i : Nat) : ((ixs l).any fun z => PyData.eqv z (.int (i : Nat))) = decide (i ∈ l) := by
  induction l with
  | nil => rfl
  | cons a l ih =>
    show (PyData.eqv (.int (a : Nat)) (.int (i : Nat)) || (ixs l).any fun z => PyData.eqv z (.int (i : Nat))) = _
    rw [ih, eqv_nat]
    by_cases h : a = i
    · subst h; simp
    · have : ¬ i = a := fun z => h z.symm
      simp [h, this]
theorem ints_snoc (l : List Nat) (i : Nat) : ixs l ++ [.int (i : Nat)] = ixs (l ++ [i]) := by simp [ixs]
theorem ints_len (l : List Nat) : (ixs l).length = l.length := by simp [ixs]
/-- x in a list of numbers that is owned -/
theorem in_ints {M : MS} {m : Addr} {l : List Nat} {i : Nat} {q : DV → Prop} (hm : M m = some (.lst (ixs l))) (h : q (.dat (.bool (decide (i ∈ l))))) : opR (inV2 id) M (.dat (.int (i : Nat))) (.ref m) q := by
  refine ⟨_, .list (ixs l), rfl, by show (ownL M m).map _ = _; rw [ownL_mk hm]; rfl, ixs l, rfl, ?_, ?_⟩
  · unfold inOk
    rw [ints_flat]; rfl
  · show q (.dat (.bool (id ((ixs l).any fun z => PyData.eqv z (.int (i : Nat))))))
    rw [ints_any]; exact h
theorem rd_left_from (n : Nat) : ∀ ds M k, sp_left_from n ds M k → t_left_from (spPrev sp_left_from n) (rtE k) (startD ["fold", "at", "met"] ds) M := by
  rintro _ M k ⟨R, F, i, t, m, l, ts, rfl, hR, hF, nd, hd, hn, hm, hl, hsz, h⟩
  have hmem := hl.mem nd hd
  refine ⟨_, rfl, _, rfl, in_ints hm ⟨_, rfl, ?_⟩⟩
  refine if_b (fun e => ?_) fun e => ?_
  · have e' : t ∈ ts := hmem.mp (of_decide_eq_true e)
    refine rt_same ?_
    have := h l (by
      cases t with
      | leaf ns => rw [post, if_pos e']; exact hl
      | node c a b => rw [post, if_pos e']; exact hl)
    rw [setM_self hm] at this
    exact this
  · have e' : ¬ t ∈ ts := fun z => by
      have := decide_eq_true (hmem.mpr z)
      rw [this] at e; cases e
    cases t with
    | leaf ns =>
      refine ⟨F, rfl, _, rfl, ix_row hR hd.row_leaf ⟨_, rfl, _, rfl, ?_⟩⟩
      refine ⟨_, rfl, m, _, rfl, hm, _, rfl, _, _, rfl, hm, ?_, ?_⟩
      · rw [ints_len, hl.len]; exact Nat.lt_of_lt_of_le (show ts.length < 1000001 by omega) (by decide)
      · rw [ints_snoc]
        exact rt_same (h _ (by rw [post, if_neg e']; exact hl.snoc hd))
    | node c a b =>
      obtain ⟨x, y, er, h1, h2⟩ := hd.row_node
      have hda : a.depth + 1 ≤ n ∧ b.depth + 1 ≤ n := by
        have : max a.depth b.depth + 1 ≤ n := hn
        omega
      have hsz' : ts.length + (a.size + b.size + 1) ≤ 1000000 := hsz
      obtain ⟨n, rfl⟩ : ∃ n', n = n' + 1 := ⟨n - 1, by omega⟩
      refine ⟨F, rfl, _, rfl, ix_row hR er ⟨_, rfl, _, rfl, ?_⟩⟩
      refine ⟨F, rfl, F, rfl, _, rfl, ix_row hR er ⟨_, _, rfl, rfl, _, rfl, _, rfl, ?_⟩⟩
      refine ⟨R, F, x, a, m, l, ts, rfl, hR, hF, nd, h1, by omega, hm, hl, by omega, fun l1 hl1 => ?_⟩
      have hR1 := hR.set (o := .lst (ixs l1)) hF
      have hm1 : setM M m (.lst (ixs l1)) m = some (.lst (ixs l1)) := setM_same
      refine ⟨F, rfl, F, rfl, _, rfl, ix_row hR1 er ⟨_, _, rfl, rfl, _, rfl, _, rfl, ?_⟩⟩
      have hp := post_len a ts
      refine ⟨R, F, y, b, m, l1, post a ts, rfl, hR1, hF, nd, h2, by omega, hm1, hl1, by omega, fun l2 hl2 => ?_⟩
      rw [setM_set]
      have hm2 : setM M m (.lst (ixs l2)) m = some (.lst (ixs l2)) := setM_same
      have hp2 := post_len b (post a ts)
      refine ⟨_, rfl, m, _, rfl, hm2, _, rfl, _, _, rfl, hm2, ?_, ?_⟩
      · rw [ints_len, hl2.len]; exact Nat.lt_of_lt_of_le (show _ < 1000001 by omega) (by decide)
      · rw [ints_snoc, setM_set]
        exact rt_same (h _ (by rw [post, if_neg e']; exact hl2.snoc hd))
end Ks

/-! Ks: rows laid down. -/
namespace Ks
open PySem PySem.Spec PyProof.Rows L2 Kf

def nkRow : Row → List NestedKey
  | .leaf ns => [.text "names", .tup (ns.map NestedKey.text)]
  | .node c i j => [.num (c : Nat), .num (i : Nat), .num (j : Nat)]
theorem nks_texts : ∀ ns : List Str, nksOf (ns.map PyData.str) = some (ns.map NestedKey.text)
  | [] => by rw [List.map_nil, nksOf]; rfl
  | n :: ns => by rw [List.map_cons, nksOf, nks_texts ns]; simp [nkOf]
theorem texts_depth : ∀ ns : List Str, NestedKey.depthAll (ns.map NestedKey.text) ≤ 1
  | [] => by simp [NestedKey.depthAll]
  | n :: ns => by
    have := texts_depth ns
    simp only [List.map_cons, NestedKey.depthAll, NestedKey.depth]
    omega
theorem row_key : ∀ r : Row, isTk (encRow r) (nkRow r)
  | .leaf ns => by
    have := texts_depth ns
    refine ⟨by simp [encRow, encNames, nkRow, nkOf, nksOf, nks_texts], ?_⟩
    simp only [nkRow, NestedKey.depth, NestedKey.depthAll]
    omega
  | .node c i j => ⟨by simp [encRow, nkRow, nkOf, nksOf], by simp [nkRow, NestedKey.depth, NestedKey.depthAll]⟩
theorem nk_row_inj {r r' : Row} (h : NestedKey.tup (nkRow r) = NestedKey.tup (nkRow r')) : r = r' := by
  have hi : ∀ a b : List Str, a.map NestedKey.text = b.map NestedKey.text → a = b := fun a b => (List.map_inj_right fun x y e => by cases e; rfl).mp
  cases r <;> cases r' <;> simp [nkRow] at h
  · rw [hi _ _ h]
  · obtain ⟨a, b, c⟩ := h
    cases Int.ofNat.inj a; cases Int.ofNat.inj b; cases Int.ofNat.inj c; rfl
def knownFrom : Nat → List Row → List (NestedKey × PyData)
  | _, [] => []
  | n, r :: R => (.tup (nkRow r), .int (n : Nat)) :: knownFrom (n + 1) R
def knownOf (R : List Row) : List (NestedKey × PyData) := knownFrom 0 R
theorem known_snoc (r : Row) : ∀ (R : List Row) (n : Nat), knownFrom n (R ++ [r]) = knownFrom n R ++ [(.tup (nkRow r), .int ((n + R.length : Nat) : Int))]
  | [], n => rfl
  | x :: R, n => by
    rw [List.cons_append, knownFrom, known_snoc r R, knownFrom, List.cons_append, List.length_cons, show n + 1 + R.length = n + (R.length + 1) by omega]
theorem known_len : ∀ (R : List Row) (n : Nat), (knownFrom n R).length = R.length
  | [], _ => rfl
  | x :: R, n => by rw [knownFrom, List.length_cons, known_len R, List.length_cons]
theorem known_no (r : Row) : ∀ (R : List Row) (n : Nat), r ∉ R → lk (knownFrom n R) (.tup (nkRow r)) = none
  | [], _, _ => rfl
  | x :: R, n, h => by
    rw [knownFrom, lk_cons, if_neg fun e => h (by rw [nk_row_inj e]; exact List.mem_cons_self), known_no r R _ fun z => h (List.mem_cons_of_mem _ z)]
theorem known_at (r : Row) : ∀ (R : List Row) (n : Nat), r ∈ R → ∃ i, R[i]? = some r ∧ lk (knownFrom n R) (.tup (nkRow r)) = some (.int ((n + i : Nat) : Int))
  | [], _, h => absurd h List.not_mem_nil
  | x :: R, n, h => by
    rw [knownFrom, lk_cons]
    by_cases e : x = r
    · subst e
      exact ⟨0, rfl, by rw [if_pos rfl]; rfl⟩
    · obtain ⟨i, h1, h2⟩ := known_at r R (n + 1) ((List.mem_cons.mp h).resolve_left fun z => e z.symm)
      exact ⟨i + 1, h1, by rw [if_neg fun z => e (nk_row_inj z), h2, show n + 1 + i = n + (i + 1) by omega]⟩
def nz (l : List Nat) : List Int := l.map fun c => ((c : Nat) : Int)
/-- Rows, with what is laid down -/
structure RowsAt (C : Addr) (ord : List Nat) (r l kn : Addr) (M : MS) (R : List Row) : Prop where
  ob : M r = some (.obj C [("order", .dat (ordD (nz ord))), ("laid", .ref l), ("known", .ref kn)])
  la : M l = some (.lst (R.map encRow))
  kn : M kn = some (.dicT (knownOf R))
  nd : R.Nodup
section
variable {C : Addr} {ord : List Nat} {r l kn : Addr} {M : MS} {R R' : List Row}
theorem RowsAt.ne1 (h : RowsAt C ord r l kn M R) : r ≠ l := fun e => by have := h.la; rw [← e, h.ob] at this; cases this
theorem RowsAt.ne2 (h : RowsAt C ord r l kn M R) : r ≠ kn := fun e => by have := h.kn; rw [← e, h.ob] at this; cases this
theorem RowsAt.ne3 (h : RowsAt C ord r l kn M R) : l ≠ kn := fun e => by have := h.kn; rw [← e, h.la] at this; cases this
/-- the rows are others -/
def pr (l kn : Addr) (M : MS) (R : List Row) : MS := setM (setM M l (.lst (R.map encRow))) kn (.dicT (knownOf R))
theorem pr_ne {a : Addr} (h1 : a ≠ l) (h2 : a ≠ kn) : pr l kn M R a = M a := by unfold pr; rw [setM_ne h2, setM_ne h1]
theorem RowsAt.pr (h : RowsAt C ord r l kn M R) (nd : R'.Nodup) : RowsAt C ord r l kn (pr l kn M R') R' := by
  refine ⟨by rw [pr_ne h.ne1 h.ne2]; exact h.ob, ?_, setM_same, nd⟩
  unfold Ks.pr
  rw [setM_ne h.ne3]; exact setM_same
theorem pr_self (h : RowsAt C ord r l kn M R) : pr l kn M R = M := by
  unfold pr
  rw [setM_self h.la, setM_self h.kn]
theorem pr_pr {R1 R2 : List Row} (h : l ≠ kn) : pr l kn (pr l kn M R1) R2 = pr l kn M R2 := by
  unfold pr
  rw [setM_comm (a := kn) (b := l) (Ne.symm h), setM_set, setM_set]
theorem RowsAt.set {a : Addr} {o : MO} (h : RowsAt C ord r l kn M R) (h1 : r ≠ a) (h2 : l ≠ a) (h3 : kn ≠ a) : RowsAt C ord r l kn (setM M a o) R :=
  ⟨by rw [setM_ne h1]; exact h.ob, by rw [setM_ne h2]; exact h.la, by rw [setM_ne h3]; exact h.kn, h.nd⟩
theorem pr_set {a : Addr} {o : MO} (h2 : l ≠ a) (h3 : kn ≠ a) : pr l kn (setM M a o) R = setM (pr l kn M R) a o := by
  unfold pr
  rw [setM_comm (Ne.symm h2), setM_comm (Ne.symm h3)]
end
theorem ltb {n : Nat} (h : Nat.blt n 1000 = true) : n < 1000 := Nat.le_of_ble_eq_true h
/-! ### Rows.__init__ -/
def t_m_init (C : Addr) : TDs := (dSeq (dFldS C (dVar 0) (dVar 1) "order")
  (dSeq (dFldS C (dVar 0) (dOwn daNil) "laid")
  (dFldS C (dVar 0) dDicT "known")))
def sp_m_init (C : Addr) : DSp := fun ds M k => ∃ x ord, ds = [.ref x, .dat (ordD (nz ord))] ∧ M x = some (.obj C []) ∧
  ∀ M' l kn, RowsAt C ord x l kn M' [] → M l = none → M kn = none → (∀ a, a ≠ x → a ≠ l → a ≠ kn → M' a = M a) → k (.dat .none) M'
theorem rd_m_init (C : Addr) : ∀ ds M k, sp_m_init C ds M k → t_m_init C (rtE k) (startD ["self", "order"] ds) M := by
  rintro _ M k ⟨x, ord, rfl, hx, h⟩
  refine ⟨_, rfl, _, rfl, x, _, rfl, hx, ltb rfl, ?_⟩
  refine ⟨[], rfl, szb rfl, fun l hl => ?_⟩
  have xl : x ≠ l := fun e => by subst e; rw [setM_same] at hl; cases hl
  refine ⟨_, rfl, x, _, rfl, (setM_ne xl).trans setM_same, ltb rfl, ?_⟩
  intro kn hk
  have xk : x ≠ kn := fun e => by subst e; rw [setM_same] at hk; cases hk
  have lk : l ≠ kn := fun e => by subst e; rw [setM_ne (Ne.symm xk), setM_same] at hk; cases hk
  refine ⟨_, rfl, x, _, rfl, (setM_ne xk).trans setM_same, ltb rfl, ?_⟩
  rw [setM_ne (Ne.symm xl)] at hl
  rw [setM_ne (Ne.symm xk), setM_ne (Ne.symm lk), setM_ne (Ne.symm xk)] at hk
  refine rt_same (h _ l kn ⟨setM_same, ?_, ?_, List.nodup_nil⟩ hl hk fun a h1 h2 h3 => ?_)
  · rw [setM_ne (Ne.symm xl), setM_ne lk, setM_ne (Ne.symm xl)]; exact setM_same
  · rw [setM_ne (Ne.symm xk)]; exact setM_same
  · rw [setM_ne h1, setM_ne h3, setM_ne h1, setM_ne h2, setM_ne h1]
/-! ### Rows.lay -/
/-- rows grown by at most so many -/
def Gr (n : Nat) (R R' : List Row) : Prop := R'.Nodup ∧ ∃ S, R' = R ++ S ∧ S.length ≤ n
theorem Gr.refl {R : List Row} (h : R.Nodup) : Gr 0 R R := ⟨h, [], (List.append_nil R).symm, Nat.le_refl _⟩
theorem Gr.trans {R R' R'' : List Row} {n m : Nat} (h : Gr n R R') (h2 : Gr m R' R'') : Gr (n + m) R R'' := by
  obtain ⟨_, S, rfl, a⟩ := h
  obtain ⟨nd, T, rfl, b⟩ := h2
  exact ⟨nd, S ++ T, List.append_assoc _ _ _, by rw [List.length_append]; omega⟩
theorem Gr.le {R R' : List Row} {n m : Nat} (h : Gr n R R') (hm : n ≤ m) : Gr m R R' := let ⟨a, S, b, c⟩ := h; ⟨a, S, b, Nat.le_trans c hm⟩
theorem Gr.len {R R' : List Row} {n : Nat} (h : Gr n R R') : R'.length ≤ R.length + n := by
  obtain ⟨_, S, rfl, a⟩ := h
  rw [List.length_append]; omega
theorem Gr.den {R R' : List Row} {n i : Nat} {t : Tr} (h : Gr n R R') (d : Den R i t) : Den R' i t := by
  obtain ⟨_, S, rfl, a⟩ := h
  exact d.ext S
def t_m_lay (C : Addr) : TDs := (dSeq (dIf (dB (dOp (inDT not) (dVar 1) (dFld C (dVar 0) "known"))) (dSeq (dPutT (dFld C (dVar 0) "known") (dVar 1) (dCB lenP (daCons (dFld C (dVar 0) "laid") daNil)))
  (dExpr (dAppend (dFld C (dVar 0) "laid") (daCons (dVar 1) daNil)))) dNext)
  (dRet (dOp ixDT (dFld C (dVar 0) "known") (dVar 1))))
def sp_m_lay (C : Addr) : DSp := fun ds M k => ∃ ord r l kn R row, ds = [.ref r, .dat (encRow row)] ∧ RowsAt C ord r l kn M R ∧ R.length < 1000000 ∧
  ∀ R' i, Gr 1 R R' → R'[i]? = some row → k (.dat (.int (i : Nat))) (pr l kn M R')
theorem rd_m_lay (C : Addr) : ∀ ds M k, sp_m_lay C ds M k → t_m_lay C (rtE k) (startD ["self", "row"] ds) M := by
  rintro _ M k ⟨ord, r, l, kn, R, row, rfl, hR, hsz, h⟩
  refine ⟨_, rfl, _, rfl, r, _, _, rfl, hR.ob, rfl, kn, _, _, _, rfl, hR.kn, rfl, row_key row, _, rfl, ?_⟩
  refine if_b (fun e => ?_) fun e => ?_
  · have hn : row ∉ R := fun z => by
      obtain ⟨i, h1, h2⟩ := known_at row R 0 z
      have : lk (knownOf R) (.tup (nkRow row)) = _ := h2
      rw [this] at e; cases e
    have nd : (R ++ [row]).Nodup := List.nodup_append.mpr ⟨hR.nd, by simp, fun a ha b hb => by
      rw [List.mem_singleton] at hb; subst hb; exact fun z => hn (z ▸ ha)⟩
    have hno : lk (knownOf R) (.tup (nkRow row)) = none := known_no row R 0 hn
    have hput : pk (knownOf R) (.tup (nkRow row)) (.int ((R.map encRow).length : Nat)) = knownOf (R ++ [row]) := by
      unfold pk
      rw [hno]
      show knownOf R ++ _ = _
      unfold knownOf
      rw [known_snoc, List.length_map, Nat.zero_add]
    refine ⟨_, rfl, r, _, _, rfl, hR.ob, rfl, _, .list (R.map encRow), _, rfl, by show (ownL M l).map _ = _; rw [ownL_mk hR.la]; rfl, rfl, ?_⟩
    refine ⟨_, rfl, r, _, _, rfl, hR.ob, rfl, _, rfl, kn, _, _, _, _, rfl, hR.kn, rfl, row_key row, rfl, ?_, ?_⟩
    · rw [knownOf, known_len]; exact Nat.lt_trans hsz (by decide)
    rw [hput]
    have ob' : setM M kn (.dicT (knownOf (R ++ [row]))) r = _ := (setM_ne hR.ne2).trans hR.ob
    have la' : setM M kn (.dicT (knownOf (R ++ [row]))) l = _ := (setM_ne hR.ne3).trans hR.la
    refine ⟨_, rfl, r, _, _, rfl, ob', rfl, l, _, rfl, la', _, rfl, _, _, rfl, la', ?_, ?_⟩
    · rw [List.length_map]; exact Nat.lt_trans hsz (by decide)
    have e2 : setM (setM M kn (.dicT (knownOf (R ++ [row])))) l (.lst (R.map encRow ++ [encRow row])) = pr l kn M (R ++ [row]) := by
      unfold pr
      rw [setM_comm (Ne.symm hR.ne3), List.map_append]; rfl
    rw [e2]
    have hR' := hR.pr (R' := R ++ [row]) nd
    refine ⟨_, rfl, r, _, _, rfl, hR'.ob, rfl, _, rfl, kn, _, _, _, _, rfl, hR'.kn, rfl, row_key row, ?_, rt_same (h (R ++ [row]) R.length ⟨nd, [row], rfl, Nat.le_refl _⟩ ?_)⟩
    · unfold knownOf at hno ⊢
      rw [known_snoc, lk_append, hno, lk_cons, if_pos rfl, Nat.zero_add]; rfl
    · rw [List.getElem?_append_right (Nat.le_refl _), Nat.sub_self]; rfl
  · have hm : row ∈ R := by
      by_cases z : row ∈ R
      · exact z
      · have := known_no row R 0 z
        have this : lk (knownOf R) (.tup (nkRow row)) = none := this
        rw [this] at e; cases e
    obtain ⟨i, h1, h2⟩ := known_at row R 0 hm
    rw [Nat.zero_add] at h2
    refine ⟨_, rfl, r, _, _, rfl, hR.ob, rfl, _, rfl, kn, _, _, _, _, rfl, hR.kn, rfl, row_key row, h2, rt_same ?_⟩
    have := h R i (Gr.refl hR.nd |>.le (by decide)) h1
    rw [pr_self hR] at this
    exact this
/-! ### Rows.leaf, Rows.node -/
def t_m_leaf (C : Addr) : TDs := (dRet (dMeth C "lay" (sp_m_lay C) (dVar 0) (daCons (dTup (daCons (dC (.str "names")) (daCons (dVar 1) daNil))) daNil)))
def sp_m_leaf (C : Addr) : DSp := fun ds M k => ∃ ord r l kn R ns, ds = [.ref r, .dat (encNames ns)] ∧ RowsAt C ord r l kn M R ∧ R.length < 1000000 ∧
  ∀ R' i, Gr 1 R R' → Den R' i (.leaf ns) → k (.dat (.int (i : Nat))) (pr l kn M R')
theorem rd_m_leaf (C : Addr) : ∀ ds M k, sp_m_leaf C ds M k → t_m_leaf C (rtE k) (startD ["self", "names"] ds) M := by
  rintro _ M k ⟨ord, r, l, kn, R, ns, rfl, hR, hsz, h⟩
  refine ⟨_, rfl, r, _, rfl, hR.ob, rfl, _, rfl, _, rfl, szb rfl, ?_⟩
  exact ⟨ord, r, l, kn, R, .leaf ns, rfl, hR, hsz, fun R' i g e => rt_same (h R' i g (.leaf e))⟩
/-- what asks a character, if it must be asked -/
def mk (c : Nat) (a b : Tr) : Tr := if a = b then a else .node c a b
def t_m_node (C : Addr) : TDs := (dSeq (dIf (dB (dOp (opR eqV2) (dVar 2) (dVar 3))) (dRet (dVar 2)) dNext)
  (dRet (dMeth C "lay" (sp_m_lay C) (dVar 0) (daCons (dTup (daCons (dVar 1) (daCons (dVar 2) (daCons (dVar 3) daNil)))) daNil))))
def sp_m_node (C : Addr) : DSp := fun ds M k => ∃ ord r l kn R c i j a b, ds = [.ref r, .dat (.int ((c : Nat) : Int)), .dat (.int ((i : Nat) : Int)), .dat (.int ((j : Nat) : Int))] ∧ RowsAt C ord r l kn M R ∧ R.length < 1000000 ∧ Den R i a ∧ Den R j b ∧
  ∀ R' n, Gr 1 R R' → Den R' n (mk c a b) → k (.dat (.int (n : Nat))) (pr l kn M R')
theorem rd_m_node (C : Addr) : ∀ ds M k, sp_m_node C ds M k → t_m_node C (rtE k) (startD ["self", "character", "no", "yes"] ds) M := by
  rintro _ M k ⟨ord, r, l, kn, R, c, i, j, a, b, rfl, hR, hsz, da, db, h⟩
  refine ⟨_, rfl, _, rfl, _, _, rfl, rfl, rfl, _, rfl, ?_⟩
  refine if_b (fun e => ?_) fun e => ?_
  · have e : PyData.eqv (.int (i : Nat)) (.int (j : Nat)) = true := e
    rw [eqv_nat] at e
    have e : i = j := by simpa using e
    subst e
    have := h R i (Gr.refl hR.nd |>.le (by decide)) (by rw [mk, if_pos (Den.fn da db)]; exact da)
    rw [pr_self hR] at this
    exact ⟨_, rfl, rt_same this⟩
  · have e : PyData.eqv (.int (i : Nat)) (.int (j : Nat)) = false := e
    rw [eqv_nat] at e
    have e : ¬ i = j := by simpa using e
    refine ⟨_, rfl, r, _, rfl, hR.ob, rfl, _, rfl, _, rfl, _, rfl, _, rfl, szb rfl, ?_⟩
    refine ⟨ord, r, l, kn, R, .node c i j, rfl, hR, hsz, fun R' n g en => rt_same (h R' n g ?_)⟩
    have hab : ¬ a = b := fun z => by subst z; exact e (Den.inj hR.nd da db)
    rw [mk, if_neg hab]
    exact .node en (g.den da) (g.den db)
/-! ### Rows.rank -/
def rk (ord : List Nat) : Tr → Nat
  | .leaf _ => ord.length
  | .node c _ _ => ord.idxOf c
def rkR (ord : List Nat) : Row → Nat
  | .leaf _ => ord.length
  | .node c _ _ => ord.idxOf c
theorem Den.row {R : List Row} {i : Nat} {t : Tr} (d : Den R i t) : ∃ row, R[i]? = some row ∧ row.isLeaf = (match t with | .leaf _ => true | _ => false) ∧ ∀ ord, rkR ord row = rk ord t := by
  cases d with
  | leaf h => exact ⟨_, h, rfl, fun _ => rfl⟩
  | node h _ _ => exact ⟨_, h, rfl, fun _ => rfl⟩
def inOrd (ord : List Nat) : Row → Prop
  | .leaf _ => True
  | .node c _ _ => c ∈ ord
theorem idx_first {x : Nat} : ∀ (ord : List Nat) (m : Nat), ord[m]? = some x → ord.idxOf x ≤ m
  | [], m, h => by simp at h
  | y :: ord, m, h => by
    rw [List.idxOf_cons]
    by_cases e : y = x
    · rw [beq_iff_eq.mpr e]; exact Nat.zero_le _
    · rw [beq_eq_false_iff_ne.mpr e]
      cases m with
      | zero => simp at h; exact absurd h e
      | succ m => exact Nat.succ_le_succ (idx_first ord m (by simpa using h))
theorem idx_at {ord : List Nat} {c : Nat} (h : c ∈ ord) : (nz ord)[ord.idxOf c]? = some (c : Int) ∧ ∀ m, m < ord.idxOf c → (nz ord)[m]? ≠ some (c : Int) := by
  constructor
  · unfold nz
    rw [List.getElem?_map, List.getElem?_eq_getElem (List.idxOf_lt_length_of_mem h), List.getElem_idxOf]; rfl
  · intro m hm e
    unfold nz at e
    rw [List.getElem?_map] at e
    obtain ⟨x, hx, hc⟩ := Option.map_eq_some_iff.mp e
    have hc : x = c := by omega
    subst hc
    obtain ⟨h1, h2⟩ := List.getElem?_eq_some_iff.mp hx
    exact absurd (idx_first ord m hx) (Nat.not_le_of_lt hm)
def t_m_rank (C : Addr) : TDs := (dSeq (dIf (dB (dCall sp_is_leaf (daCons (dOp (opV ixV) (dVar 1) (dVar 2)) daNil))) (dRet (dCB lenP (daCons (dFld C (dVar 0) "order") daNil))) dNext)
  (dRet (dOrdIx (dFld C (dVar 0) "order") (daCons (dOp (opV ixV) (dOp (opV ixV) (dVar 1) (dVar 2)) (dC (.int 0))) daNil))))
def sp_m_rank (C : Addr) : DSp := fun ds M k => ∃ ord r l kn R F FR i row, ds = [.ref r, F, .dat (.int ((i : Nat) : Int))] ∧ RowsAt C ord r l kn M R ∧ rowsOf M F FR ∧ FR[i]? = some row ∧ inOrd ord row ∧ k (.dat (.int (rkR ord row : Nat))) M
theorem rd_m_rank (C : Addr) : ∀ ds M k, sp_m_rank C ds M k → t_m_rank C (rtE k) (startD ["self", "fold", "at"] ds) M := by
  rintro _ M k ⟨ord, r, l, kn, R, F, FR, i, row, rfl, hR, hF, hi, hc, h⟩
  refine ⟨F, rfl, _, rfl, ix_row hF hi ⟨row, rfl, _, rfl, ?_⟩⟩
  cases row with
  | leaf ns => 
    refine if_t rfl ⟨_, rfl, r, _, _, rfl, hR.ob, rfl, _, .tuple ((nz ord).map PyData.int), _, rfl, rfl, rfl, ?_⟩
    have : ((nz ord).map PyData.int).length = rkR ord (.leaf ns) := by simp [nz, rkR]
    rw [this]
    exact rt_same h
  | node c a b =>
    refine if_f rfl ⟨_, rfl, r, _, _, rfl, hR.ob, rfl, _, rfl, ?_⟩
    have hx := idx_at hc
    refine ⟨F, rfl, _, rfl, ix_row hF hi ⟨_, _, rfl, rfl, _, rfl, _, ord.idxOf c, rfl, hx.1, hx.2, rt_same h⟩⟩
end Ks

/-! Ks: the fold of rows. -/
namespace Ks
open PySem PySem.Spec PyProof.Rows L2 Kf

def rowIn (P : List Tr) : Tr → Row
  | .leaf ns => .leaf ns
  | .node c a b => .node c (P.idxOf a) (P.idxOf b)
/-- the fold that stands for a tree -/
def foldOf (t : Tr) : List Row := (post t []).map (rowIn (post t []))
def Cl (m : List Tr) : Prop := ∀ c a b, Tr.node c a b ∈ m → a ∈ m ∧ b ∈ m
theorem post_cl : ∀ (t : Tr) (m : List Tr), Cl m → Cl (post t m) ∧ t ∈ post t m ∧ ∀ x, x ∈ m → x ∈ post t m
  | .leaf ns, m, h => by
    unfold post
    split
    · rename_i e; exact ⟨h, e, fun _ z => z⟩
    · refine ⟨fun c a b z => ?_, List.mem_append_right _ (List.mem_singleton.mpr rfl), fun x z => List.mem_append_left _ z⟩
      rcases List.mem_append.mp z with z | z
      · exact ⟨List.mem_append_left _ (h c a b z).1, List.mem_append_left _ (h c a b z).2⟩
      · cases List.mem_singleton.mp z
  | .node c a b, m, h => by
    unfold post
    split
    · rename_i e; exact ⟨h, e, fun _ z => z⟩
    · obtain ⟨h1, h2, h3⟩ := post_cl a m h
      obtain ⟨g1, g2, g3⟩ := post_cl b _ h1
      refine ⟨fun c' a' b' z => ?_, List.mem_append_right _ (List.mem_singleton.mpr rfl), fun x z => List.mem_append_left _ (g3 x (h3 x z))⟩
      rcases List.mem_append.mp z with z | z
      · exact ⟨List.mem_append_left _ (g1 c' a' b' z).1, List.mem_append_left _ (g1 c' a' b' z).2⟩
      · cases List.mem_singleton.mp z
        exact ⟨List.mem_append_left _ (g3 a h2), List.mem_append_left _ g2⟩
theorem Dens.idx {R : List Row} (nd : R.Nodup) {L : List Nat} {P : List Tr} (h : Dens R L P) {i : Nat} {a : Tr} (d : Den R i a) (ha : a ∈ P) : L[P.idxOf a]? = some i ∧ ∀ m, m < P.idxOf a → L[m]? ≠ some i := by
  induction h with
  | nil => exact absurd ha List.not_mem_nil
  | @cons j t l ts e r ih =>
    rw [List.idxOf_cons]
    by_cases z : t = a
    · subst z
      rw [beq_self_eq_true]
      exact ⟨congrArg some (Den.inj nd e d), fun m hm => absurd hm (Nat.not_lt_zero m)⟩
    · rw [beq_eq_false_iff_ne.mpr z]
      obtain ⟨h1, h2⟩ := ih ((List.mem_cons.mp ha).resolve_left fun y => z y.symm)
      refine ⟨h1, fun m hm => ?_⟩
      cases m with
      | zero => intro y; cases y; exact z (Den.fn e d)
      | succ m => exact h2 m (Nat.lt_of_succ_lt_succ hm)
def t_fold_body (C : Addr) : TDs := (dSeq (dSet 5 (dOp (opV ixV) (dFld C (dVar 0) "laid") (dVar 4)))
  (dSeq (dIf (dNot (dB (dCall sp_is_leaf (daCons (dVar 5) daNil)))) (dSet 5 (dTup (daCons (dOp (opV ixV) (dVar 5) (dC (.int 0))) (daCons (dLstIx (dVar 2) (daCons (dOp (opV ixV) (dVar 5) (dC (.int 1))) daNil)) (daCons (dLstIx (dVar 2) (daCons (dOp (opV ixV) (dVar 5) (dC (.int 2))) daNil)) daNil))))) dNext)
  (dExpr (dAppend (dVar 3) (daCons (dVar 5) daNil)))))
def t_m_fold (C : Addr) (N : Nat) : TDs := (dSeq (dSet 2 (dOwn daNil))
  (dSeq (dExpr (dCall (sp_left_from N) (daCons (dFld C (dVar 0) "laid") (daCons (dVar 1) (daCons (dVar 2) daNil)))))
  (dSeq (dSet 3 (dOwn daNil))
  (dSeq (dFor (diSeq (dVar 2)) (gdName 4) (t_fold_body C))
  (dRet (dCB tupleP (daCons (dVar 3) daNil)))))))
theorem ixs_at {L : List Nat} {j i : Nat} (h : L[j]? = some i) : (ixs L)[j]? = some (.int (i : Nat)) := by
  unfold ixs; rw [List.getElem?_map, h]; rfl
theorem ixs_not {L : List Nat} {i n : Nat} (h : ∀ m, m < n → L[m]? ≠ some i) : ∀ m z', m < n → (ixs L)[m]? = some z' → PyData.eqv z' (.int (i : Nat)) = false := by
  intro m z' hm hz
  unfold ixs at hz
  rw [List.getElem?_map] at hz
  obtain ⟨x, hx, rfl⟩ := Option.map_eq_some_iff.mp hz
  rw [eqv_nat]
  exact beq_eq_false_iff_ne.mpr fun e => h m hm (e ▸ hx)
section
variable {C : Addr} {ord : List Nat} {r l kn m f : Addr} {M : MS} {R : List Row} {L : List Nat} {P : List Tr} {tp : DV} {De : DEnds}
theorem fold_loop (hR : RowsAt C ord r l kn M R) (hrf : r ≠ f) (hlf : l ≠ f) (hmf : m ≠ f) (hm : M m = some (.lst (ixs L))) (hP : Dens R L P) : ∀ (rest : List Nat) (prest : List Tr) (done : List Row) (x4 x5 : Option DV),
    Dens R rest prest → (∀ c a b, Tr.node c a b ∈ prest → a ∈ P ∧ b ∈ P) → done.length + prest.length ≤ 1000000 →
    (∀ y4 y5, De.nx [some (.ref r), some tp, some (.ref m), some (.ref f), y4, y5] (setM M f (.lst ((done ++ prest.map (rowIn P)).map encRow)))) →
    forD (gdName 4) (t_fold_body C) De (some (m, .lst (ixs L))) (ixs rest) [some (.ref r), some tp, some (.ref m), some (.ref f), x4, x5] (setM M f (.lst (done.map encRow)))
  | [], prest, done, x4, x5, hd, hc, hs, fin => by
    cases hd
    have := fin x4 x5
    rw [List.map_nil, List.append_nil] at this
    exact ⟨(setM_ne hmf).trans hm, this⟩
  | i :: rest, prest, done, x4, x5, hd, hc, hs, fin => by
    cases hd with
    | @cons _ t _ ts d hd =>
    rw [List.length_cons] at hs
    have ih := fold_loop hR hrf hlf hmf hm hP rest ts (done ++ [rowIn P t])
    have hob : setM M f (.lst (done.map encRow)) r = _ := (setM_ne hrf).trans hR.ob
    have hla : setM M f (.lst (done.map encRow)) l = _ := (setM_ne hlf).trans hR.la
    have hmm : setM M f (.lst (done.map encRow)) m = _ := (setM_ne hmf).trans hm
    have hv : rowsOf (setM M f (.lst (done.map encRow))) (.ref l) R := ⟨.list (R.map encRow), by show (ownL _ l).map _ = _; rw [ownL_mk hla]; rfl, rfl⟩
    have hcv : cview (setM M f (.lst (done.map encRow))) (.ref m) = some (.list (ixs L)) := by show (ownL _ m).map _ = _; rw [ownL_mk hmm]; rfl
    have hnext : ∀ y4 y5, forD (gdName 4) (t_fold_body C) De (some (m, .lst (ixs L))) (ixs rest) [some (.ref r), some tp, some (.ref m), some (.ref f), y4, y5] (setM (setM M f (.lst (done.map encRow))) f (.lst (done.map encRow ++ [encRow (rowIn P t)]))) := by
      intro y4 y5
      rw [setM_set]
      have e : done.map encRow ++ [encRow (rowIn P t)] = (done ++ [rowIn P t]).map encRow := by rw [List.map_append]; rfl
      rw [e]
      refine ih y4 y5 hd (fun c a b z => hc c a b (List.mem_cons_of_mem _ z)) (by rw [List.length_append, List.length_singleton]; omega) fun y4 y5 => ?_
      have := fin y4 y5
      rw [List.map_cons] at this
      rw [List.append_assoc]
      exact this
    have hlt : (done.map encRow).length < sizeLine := by rw [List.length_map]; exact Nat.lt_of_lt_of_le (show done.length < 1000001 by omega) (by decide)
    refine ⟨hmm, ?_⟩
    cases t with
    | leaf ns =>
      refine ⟨_, rfl, r, _, _, rfl, hob, rfl, _, rfl, ix_row hv d.row_leaf ?_⟩
      refine ⟨_, rfl, _, rfl, _, rfl, ?_⟩
      exact ⟨_, rfl, f, _, rfl, setM_same, _, rfl, _, _, rfl, setM_same, hlt, hnext _ _⟩
    | node c a b =>
      obtain ⟨x, y, er, h1, h2⟩ := d.row_node
      obtain ⟨ca, cb⟩ := hc c a b List.mem_cons_self
      obtain ⟨g1, g2⟩ := hP.idx hR.nd h1 ca
      obtain ⟨g3, g4⟩ := hP.idx hR.nd h2 cb
      refine ⟨_, rfl, r, _, _, rfl, hob, rfl, _, rfl, ix_row hv er ?_⟩
      refine ⟨_, rfl, _, rfl, _, rfl, ?_⟩
      refine ⟨_, rfl, _, _, rfl, rfl, _, rfl, _, rfl, _, hcv, ?_⟩
      refine ⟨_, rfl, _, _, rfl, rfl, _, rfl, _, _, P.idxOf a, _, rfl, hcv, rfl, ints_flat L, ixs_at g1, by rw [eqv_nat]; exact beq_self_eq_true _, ixs_not g2, ?_⟩
      refine ⟨_, rfl, _, hcv, ?_⟩
      refine ⟨_, rfl, _, _, rfl, rfl, _, rfl, _, _, P.idxOf b, _, rfl, hcv, rfl, ints_flat L, ixs_at g3, by rw [eqv_nat]; exact beq_self_eq_true _, ixs_not g4, ?_⟩
      refine ⟨_, rfl, szb rfl, ?_⟩
      exact ⟨_, rfl, f, _, rfl, setM_same, _, rfl, _, _, rfl, setM_same, hlt, hnext _ _⟩
end
def sp_m_fold (C : Addr) (N : Nat) : DSp := fun ds M k => ∃ ord r l kn R i t, ds = [.ref r, .dat (.int ((i : Nat) : Int))] ∧ RowsAt C ord r l kn M R ∧ Den R i t ∧ t.depth ≤ N ∧ t.size ≤ 1000000 ∧ k (.dat (encFold (foldOf t))) M
theorem sub_new {M : MS} {a : Addr} {o : MO} (h : M a = none) : Sub M (setM M a o) := fun b u hb => by
  have : b ≠ a := fun e => by rw [e, h] at hb; cases hb
  rw [setM_ne this]; exact hb
theorem sub_tr {M M' M'' : MS} (h : Sub M M') (h2 : Sub M' M'') : Sub M M'' := fun a o z => h2 a o (h a o z)
theorem rt_sub {k : KD} {d : DV} {M M' : MS} (s : Sub M M') (h : k d M) : rtK k d M' := ⟨d, M, ⟨s, .inl rfl⟩, h⟩
theorem rd_m_fold (C : Addr) (N : Nat) : ∀ ds M k, sp_m_fold C N ds M k → t_m_fold C N (rtE k) (startD ["self", "top", "met", "found", "at", "row"] ds) M := by
  rintro _ M k ⟨ord, r, l, kn, R, i, t, rfl, hR, hd, hn, hsz, h⟩
  refine ⟨[], rfl, szb rfl, fun m hm => ?_⟩
  have rm : r ≠ m := fun e => by subst e; rw [hR.ob] at hm; cases hm
  have lm : l ≠ m := fun e => by subst e; rw [hR.la] at hm; cases hm
  have km : kn ≠ m := fun e => by subst e; rw [hR.kn] at hm; cases hm
  have hR1 := hR.set (o := .lst []) rm lm km
  refine ⟨_, rfl, r, _, _, rfl, hR1.ob, rfl, _, rfl, _, rfl, ?_⟩
  refine ⟨R, .ref l, i, t, m, [], [], rfl, ⟨.list (R.map encRow), by show (ownL _ l).map _ = _; rw [ownL_mk hR1.la]; rfl, rfl⟩, fun a e => by cases e; exact lm, hR.nd, hd, hn, setM_same, .nil, by rw [List.length_nil]; omega, fun L hL => ?_⟩
  rw [setM_set]
  have hR2 := hR.set (o := .lst (ixs L)) rm lm km
  refine ⟨[], rfl, szb rfl, fun f hf => ?_⟩
  have mf : m ≠ f := fun e => by subst e; rw [setM_same] at hf; cases hf
  have rf : r ≠ f := fun e => by subst e; rw [hR2.ob] at hf; cases hf
  have lf : l ≠ f := fun e => by subst e; rw [hR2.la] at hf; cases hf
  obtain ⟨hcl, hin, _⟩ := post_cl t [] fun c a b z => absurd z List.not_mem_nil
  have hlen := post_len t []
  refine ⟨_, rfl, .inr ⟨m, ixs L, rfl, (setM_ne mf).trans setM_same, ?_⟩⟩
  refine fold_loop (done := []) hR2 rf lf mf setM_same hL L _ _ _ hL hcl (by rw [List.length_nil] at *; omega) fun y4 y5 => ?_
  refine ⟨_, rfl, _, rfl, .inl ⟨_, by show (ownL _ f).map _ = _; rw [ownL_mk setM_same]; rfl, ?_⟩⟩
  exact rt_sub (sub_tr (sub_new hm) (sub_new hf)) h
end Ks

/-! Ks: copied, switched, folded. -/
namespace Ks
open PySem PySem.Spec PyProof.Rows L2 Kf

/-- asked ahead by the order, nothing asked in vain -/
def Ordd (ord : List Nat) : Tr → Prop
  | .leaf _ => True
  | .node c a b => c ∈ ord ∧ ord.idxOf c < rk ord a ∧ ord.idxOf c < rk ord b ∧ a ≠ b ∧ Ordd ord a ∧ Ordd ord b
theorem rk_le (ord : List Nat) : ∀ t : Tr, rk ord t ≤ ord.length
  | .leaf _ => Nat.le_refl _
  | .node c _ _ => List.idxOf_le_length
theorem Ordd.depth {ord : List Nat} : ∀ {t : Tr}, Ordd ord t → t.depth + rk ord t ≤ ord.length
  | .leaf _, _ => by show 0 + ord.length ≤ _; omega
  | .node c a b, h => by
    obtain ⟨h1, h2, h3, h4, h5, h6⟩ := h
    have a1 := h5.depth
    have a2 := h6.depth
    have := List.idxOf_lt_length_of_mem h1
    show max a.depth b.depth + 1 + ord.idxOf c ≤ _
    omega
theorem Ordd.inO {ord : List Nat} {R : List Row} {i : Nat} {t : Tr} (h : Ordd ord t) (d : Den R i t) {row : Row} (e : R[i]? = some row) : inOrd ord row := by
  cases d with
  | leaf q => rw [q] at e; cases e; exact True.intro
  | node q _ _ => rw [q] at e; cases e; exact h.1
/-- the rows, and one thing beside -/
def st (l kn mt : Addr) (M : MS) (R : List Row) (o : MO) : MS := setM (pr l kn M R) mt o
section
variable {C : Addr} {ord : List Nat} {r l kn mt : Addr} {M : MS} {R R' : List Row} {o o' : MO}
theorem st_at : st l kn mt M R o mt = some o := setM_same
theorem st_ne {a : Addr} (h1 : a ≠ l) (h2 : a ≠ kn) (h3 : a ≠ mt) : st l kn mt M R o a = M a := (setM_ne h3).trans (pr_ne h1 h2)
theorem st_put : setM (st l kn mt M R o) mt o' = st l kn mt M R o' := setM_set
theorem st_pr (h1 : l ≠ kn) (h2 : l ≠ mt) (h3 : kn ≠ mt) : pr l kn (st l kn mt M R o) R' = st l kn mt M R' o := by
  unfold st
  rw [pr_set h2 h3, pr_pr h1]
theorem st_st (h1 : l ≠ kn) (h2 : l ≠ mt) (h3 : kn ≠ mt) : st l kn mt (st l kn mt M R o) R' o' = st l kn mt M R' o' := by
  show setM (pr l kn (st l kn mt M R o) R') mt o' = _
  rw [st_pr h1 h2 h3, st_put]
theorem RowsAt.st (h : RowsAt C ord r l kn M R) (nd : R'.Nodup) (h1 : r ≠ mt) (h2 : l ≠ mt) (h3 : kn ≠ mt) : RowsAt C ord r l kn (st l kn mt M R' o) R' := (h.pr nd).set h1 h2 h3
theorem st_self (h : RowsAt C ord r l kn M R) (hm : M mt = some o) : st l kn mt M R o = M := by
  unfold Ks.st; rw [pr_self h, setM_self hm]
end
def MemV (Q : Tr → Tr → Prop) (kvs : List (Key × PyData)) (F R : List Row) : Prop := ∀ (i : Nat) t z, Den F i t → lk kvs (.inl (i : Int)) = some z → ∃ (j : Nat) (u : Tr), z = .int j ∧ Q t u ∧ Den R j u
theorem MemV.nil {Q : Tr → Tr → Prop} {F R : List Row} : MemV Q [] F R := fun i t z _ h => by cases h
theorem MemV.gr {Q : Tr → Tr → Prop} {kvs : List (Key × PyData)} {F R R' : List Row} {n : Nat} (h : MemV Q kvs F R) (g : Gr n R R') : MemV Q kvs F R' := fun i t z d e => let ⟨j, u, a, b, c⟩ := h i t z d e; ⟨j, u, a, b, g.den c⟩
theorem MemV.put {Q : Tr → Tr → Prop} {kvs : List (Key × PyData)} {F R : List Row} {i j : Nat} {t u : Tr} (h : MemV Q kvs F R) (d : Den F i t) (q : Q t u) (dj : Den R j u) : MemV Q (pk kvs (.inl (i : Int)) (.int (j : Nat))) F R := by
  intro i' t' z d' e
  rw [lk_put] at e
  by_cases e2 : i' = i
  · subst e2
    rw [if_pos rfl] at e; cases e
    exact ⟨j, u, rfl, Den.fn d d' ▸ q, dj⟩
  · have ne : ¬ (Sum.inl (i' : Int) : Key) = Sum.inl (i : Int) := fun y => e2 (Int.ofNat.inj (Sum.inl.inj y))
    rw [if_neg ne] at e
    exact h i' t' z d' e
theorem rowsF {M : MS} (F : List Row) : rowsOf M (.dat (encFold F)) F := ⟨_, rfl, rfl⟩
/-! ### copied -/
def t_copied (C : Addr) (self : DSp) : TDs := (dSeq (dIf (dB (dOp (inDV id) (dVar 2) (dVar 3))) (dRet (dOp ixDV (dVar 3) (dVar 2))) dNext)
  (dSeq (dSet 4 (dOp (opV ixV) (dVar 1) (dVar 2)))
  (dSeq (dIf (dB (dCall sp_is_leaf (daCons (dVar 4) daNil))) (dSet 5 (dMeth C "leaf" (sp_m_leaf C) (dVar 0) (daCons (dOp (opV ixV) (dVar 4) (dC (.int 1))) daNil))) (dSeq (dSet 6 (dCall self (daCons (dVar 0) (daCons (dVar 1) (daCons (dOp (opV ixV) (dVar 4) (dC (.int 1))) (daCons (dVar 3) daNil))))))
  (dSet 5 (dMeth C "node" (sp_m_node C) (dVar 0) (daCons (dOp (opV ixV) (dVar 4) (dC (.int 0))) (daCons (dVar 6) (daCons (dCall self (daCons (dVar 0) (daCons (dVar 1) (daCons (dOp (opV ixV) (dVar 4) (dC (.int 2))) (daCons (dVar 3) daNil))))) daNil)))))))
  (dSeq (dPutV (dVar 3) (dVar 2) (dVar 5))
  (dRet (dVar 5))))))
def sp_copied (C : Addr) (n : Nat) : DSp := fun ds M k => ∃ ord r l kn R F i t mt kvs, ds = [.ref r, .dat (encFold F), .dat (.int ((i : Nat) : Int)), .ref mt] ∧ RowsAt C ord r l kn M R ∧ Den F i t ∧ Ordd ord t ∧ t.depth ≤ n ∧ M mt = some (.dicV kvs) ∧ MemV Eq kvs F R ∧
  R.length + t.size ≤ 1000000 ∧ kvs.length + t.size ≤ 1000000 ∧ ∀ R' kvs' j, Gr t.size R R' → Den R' j t → MemV Eq kvs' F R' → kvs'.length ≤ kvs.length + t.size → k (.dat (.int ((j : Nat) : Int))) (st l kn mt M R' (.dicV kvs'))
theorem Tr.size_pos : ∀ t : Tr, 1 ≤ t.size
  | .leaf _ => Nat.le_refl _
  | .node _ a b => Nat.le_add_left _ _
theorem slt {n : Nat} (h : n < 1000000) : n < sizeLine := Nat.lt_trans h (by decide)
theorem rd_copied (C : Addr) (n : Nat) : ∀ ds M k, sp_copied C n ds M k → t_copied C (spPrev (sp_copied C) n) (rtE k) (startD ["rows", "fold", "at", "met", "row", "found", "low"] ds) M := by
  rintro _ M k ⟨ord, r, l, kn, R, F, i, t, mt, kvs, rfl, hR, hd, ho, hn, hm, hmem, hs1, hs2, h⟩
  have rm : r ≠ mt := fun e => by subst e; rw [hR.ob] at hm; cases hm
  have lm : l ≠ mt := fun e => by subst e; rw [hR.la] at hm; cases hm
  have km : kn ≠ mt := fun e => by subst e; rw [hR.kn] at hm; cases hm
  have lk' := hR.ne3
  refine ⟨_, rfl, _, rfl, mt, kvs, _, _, rfl, hm, rfl, rfl, _, rfl, ?_⟩
  refine if_b (fun e => ?_) fun e => ?_
  · have e : (lk kvs (.inl (i : Int))).isSome = true := e
    obtain ⟨z, hz⟩ := Option.isSome_iff_exists.mp e
    obtain ⟨j, u, rfl, rfl, dj⟩ := hmem i t z hd hz
    have := h R kvs j ((Gr.refl hR.nd).le (Nat.zero_le _)) dj hmem (Nat.le_add_right _ _)
    rw [st_self hR hm] at this
    exact ⟨_, rfl, _, rfl, mt, kvs, _, _, _, rfl, hm, rfl, rfl, hz, rt_same this⟩
  · have hpos := t.size_pos
    cases t with
    | leaf ns =>
      refine ⟨_, rfl, _, rfl, ix_row (rowsF F) hd.row_leaf ?_⟩
      refine ⟨_, rfl, .leaf ns, rfl, _, rfl, if_t rfl ?_⟩
      refine ⟨_, rfl, r, _, rfl, hR.ob, rfl, _, rfl, _, _, rfl, rfl, _, rfl, ?_⟩
      refine ⟨ord, r, l, kn, R, ns, rfl, hR, by omega, fun R' j g dj => ?_⟩
      have hm' : pr l kn M R' mt = _ := (pr_ne (Ne.symm lm) (Ne.symm km)).trans hm
      refine ⟨_, rfl, _, rfl, _, rfl, mt, _, _, _, _, rfl, hm', rfl, rfl, rfl, slt (by omega), ?_⟩
      exact ⟨_, rfl, rt_same (h R' _ j g dj ((hmem.gr g).put hd rfl dj) (pk_length _ _ _))⟩
    | node c a b =>
      obtain ⟨x, y, er, h1, h2⟩ := hd.row_node
      obtain ⟨o1, o2, o3, o4, o5, o6⟩ := ho
      have hda : a.depth + 1 ≤ n ∧ b.depth + 1 ≤ n := by
        have : max a.depth b.depth + 1 ≤ n := hn
        omega
      have es : (Tr.node c a b).size = a.size + b.size + 1 := rfl
      rw [es] at hs1 hs2 h
      obtain ⟨n, rfl⟩ : ∃ n', n = n' + 1 := ⟨n - 1, by omega⟩
      refine ⟨_, rfl, _, rfl, ix_row (rowsF F) er ?_⟩
      refine ⟨_, rfl, .node c x y, rfl, _, rfl, if_f rfl ?_⟩
      refine ⟨_, rfl, _, rfl, _, rfl, _, _, rfl, rfl, _, rfl, _, rfl, ?_⟩
      refine ⟨ord, r, l, kn, R, F, x, a, mt, kvs, rfl, hR, h1, o5, by omega, hm, hmem, by omega, by omega, fun R1 kvs1 j1 g1 d1 m1 k1 => ?_⟩
      have hR1 := hR.st (R' := R1) (o := .dicV kvs1) g1.1 rm lm km
      have l1 := g1.len
      refine ⟨_, rfl, r, _, rfl, hR1.ob, rfl, _, rfl, _, _, rfl, rfl, _, rfl, _, rfl, ?_⟩
      refine ⟨_, rfl, _, rfl, _, rfl, _, _, rfl, rfl, _, rfl, _, rfl, ?_⟩
      refine ⟨ord, r, l, kn, R1, F, y, b, mt, kvs1, rfl, hR1, h2, o6, by omega, st_at, m1, by omega, by omega, fun R2 kvs2 j2 g2 d2 m2 k2 => ?_⟩
      rw [st_st lk' lm km]
      have hR2 := hR.st (R' := R2) (o := .dicV kvs2) g2.1 rm lm km
      have l2 := g2.len
      refine ⟨ord, r, l, kn, R2, c, j1, j2, a, b, rfl, hR2, by omega, g2.den d1, d2, fun R3 j3 g3 d3 => ?_⟩
      rw [st_pr lk' lm km]
      have em : mk c a b = .node c a b := by rw [mk, if_neg o4]
      rw [em] at d3
      refine ⟨_, rfl, _, rfl, _, rfl, mt, _, _, _, _, rfl, st_at, rfl, rfl, rfl, slt (by omega), ?_⟩
      rw [st_put]
      have kp := pk_length (.inl (i : Int)) (PyData.int j3) kvs2
      exact ⟨_, rfl, rt_same (h R3 _ j3 ((g1.trans (g2.trans g3)).le (by omega)) d3 ((m2.gr g3).put hd rfl d3) (by omega))⟩
end Ks

/-! Ks: switched, folded. -/
namespace Ks
open PySem PySem.Spec PyProof.Rows L2 Kf

def goalT (t : Tr) (c : Nat) : Tr × Tr := match t with
  | .leaf _ => (t, t)
  | .node c' a b => if c' = c then (a, b) else (t, t)
theorem Den.goal {R : List Row} {i : Nat} {t : Tr} (d : Den R i t) {row : Row} (e : R[i]? = some row) (c : Nat) : Den R (goalsAt row i c).1 (goalT t c).1 ∧ Den R (goalsAt row i c).2 (goalT t c).2 := by
  cases d with
  | leaf q => rw [q] at e; cases e; exact ⟨.leaf q, .leaf q⟩
  | @node _ c' a b ta tb q d1 d2 =>
    rw [q] at e; cases e
    unfold goalsAt goalT
    by_cases h : c' = c
    · simp only [h, if_true]; exact ⟨d1, d2⟩
    · simp only [h, if_false]; exact ⟨.node q d1 d2, .node q d1 d2⟩
theorem Ordd.goal {ord : List Nat} {t : Tr} (h : Ordd ord t) (c : Nat) : Ordd ord (goalT t c).1 ∧ Ordd ord (goalT t c).2 := by
  cases t with
  | leaf ns => exact ⟨h, h⟩
  | node c' a b =>
    unfold goalT
    by_cases e : c' = c
    · simp only [e, if_true]; exact ⟨h.2.2.2.2.1, h.2.2.2.2.2⟩
    · simp only [e, if_false]; exact ⟨h, h⟩
theorem rk_goal {ord : List Nat} {t : Tr} (h : Ordd ord t) {c : Nat} (hc : c ∈ ord) (hr : ord.idxOf c ≤ rk ord t) : ord.idxOf c < rk ord (goalT t c).1 ∧ ord.idxOf c < rk ord (goalT t c).2 := by
  have hl := List.idxOf_lt_length_of_mem hc
  cases t with
  | leaf ns => exact ⟨hl, hl⟩
  | node c' a b =>
    unfold goalT
    by_cases e : c' = c
    · simp only [e, if_true]; subst e; exact ⟨h.2.1, h.2.2.1⟩
    · simp only [e, if_false]
      have : ord.idxOf c < ord.idxOf c' := by
        refine Nat.lt_of_le_of_ne hr fun z => e ?_
        have h1 := List.getElem_idxOf (List.idxOf_lt_length_of_mem h.1)
        have h2 := List.getElem_idxOf hl
        rw [← h1, ← h2]
        simp [z]
      exact ⟨this, this⟩
theorem rk_ge {ord : List Nat} {t : Tr} (h : Ordd ord t) (c : Nat) : rk ord t ≤ rk ord (goalT t c).1 ∧ rk ord t ≤ rk ord (goalT t c).2 := by
  cases t with
  | leaf ns => exact ⟨Nat.le_refl _, Nat.le_refl _⟩
  | node c' a b =>
    unfold goalT
    by_cases e : c' = c
    · simp only [e, if_true]; subst e; exact ⟨Nat.le_of_lt h.2.1, Nat.le_of_lt h.2.2.1⟩
    · simp only [e, if_false]; exact ⟨Nat.le_refl _, Nat.le_refl _⟩
theorem rk_at {ord : List Nat} (nd : ord.Nodup) {n : Nat} {c : Nat} (h : ord[n]? = some c) : c ∈ ord ∧ ord.idxOf c = n := by
  have hm : c ∈ ord := List.mem_of_getElem? h
  refine ⟨hm, ?_⟩
  have h1 : ord[ord.idxOf c]? = some c := by rw [List.getElem?_eq_getElem (List.idxOf_lt_length_of_mem hm), List.getElem_idxOf]
  exact nodup_at nd h1 h
/-- what goes on as one of two by a character -/
inductive Sw (ord : List Nat) (c : Nat) : Tr → Tr → Tr → Prop
  | here {a b} : ord.idxOf c ≤ min (rk ord a) (rk ord b) → Sw ord c a b (mk c (goalT a c).1 (goalT b c).2)
  | down {a b h lo hi} : min (rk ord a) (rk ord b) < ord.idxOf c → ord[min (rk ord a) (rk ord b)]? = some h → Sw ord c (goalT a h).1 (goalT b h).1 lo → Sw ord c (goalT a h).2 (goalT b h).2 hi → Sw ord c a b (mk h lo hi)
theorem mk_ordd {ord : List Nat} {c : Nat} {a b : Tr} (hc : c ∈ ord) (ha : Ordd ord a) (hb : Ordd ord b) (h1 : ord.idxOf c < rk ord a) (h2 : ord.idxOf c < rk ord b) : Ordd ord (mk c a b) ∧ ord.idxOf c ≤ rk ord (mk c a b) := by
  unfold mk
  by_cases e : a = b
  · rw [if_pos e]; exact ⟨ha, Nat.le_of_lt h1⟩
  · rw [if_neg e]; exact ⟨⟨hc, h1, h2, e, ha, hb⟩, Nat.le_refl _⟩
theorem Sw.ordd {ord : List Nat} {c : Nat} (nd : ord.Nodup) (hc : c ∈ ord) {a b u : Tr} (s : Sw ord c a b u) : Ordd ord a → Ordd ord b → Ordd ord u ∧ min (ord.idxOf c) (min (rk ord a) (rk ord b)) ≤ rk ord u := by
  induction s with
  | here h =>
    intro ha hb
    obtain ⟨h1, h2⟩ := mk_ordd hc (ha.goal c).1 (hb.goal c).2 (rk_goal ha hc (by omega)).1 (rk_goal hb hc (by omega)).2
    exact ⟨h1, by omega⟩
  | @down a b x lo hi h hx _ _ ih1 ih2 =>
    intro ha hb
    obtain ⟨hm, hi'⟩ := rk_at nd hx
    have ga := ha.goal x
    have gb := hb.goal x
    have ra := rk_goal ha hm (by omega)
    have rb := rk_goal hb hm (by omega)
    obtain ⟨o1, l1⟩ := ih1 ga.1 gb.1
    obtain ⟨o2, l2⟩ := ih2 ga.2 gb.2
    obtain ⟨h1, h2⟩ := mk_ordd hm o1 o2 (by omega) (by omega)
    exact ⟨h1, by omega⟩
theorem st_st' {l kn mt : Addr} {M : MS} {R' : List Row} {o o' : MO} (h1 : l ≠ kn) (h2 : l ≠ mt) (h3 : kn ≠ mt) : st l kn mt (setM M mt o) R' o' = st l kn mt M R' o' := by
  unfold st
  rw [pr_set h2 h3, setM_set]
theorem ix_ord {ord : List Nat} {n x : Nat} (h : ord[n]? = some x) : atI ((nz ord).map PyData.int) ((n : Nat) : Int) = some (.int ((x : Nat) : Int)) := by
  refine atI_nat ?_
  unfold nz
  rw [List.getElem?_map, List.getElem?_map, h]; rfl
def MemT (Q : Tr → Tr → Tr → Prop) (kvs : List (NestedKey × PyData)) (F G R : List Row) : Prop := ∀ (i i' : Nat) t t' z, Den F i t → Den G i' t' → lk kvs (.tup [.num (i : Int), .num (i' : Int)]) = some z → ∃ (j : Nat) (u : Tr), z = .int j ∧ Q t t' u ∧ Den R j u
theorem MemT.nil {Q : Tr → Tr → Tr → Prop} {F G R : List Row} : MemT Q [] F G R := fun i _ t _ z _ _ h => by cases h
theorem MemT.gr {Q : Tr → Tr → Tr → Prop} {kvs : List (NestedKey × PyData)} {F G R R' : List Row} {n : Nat} (h : MemT Q kvs F G R) (g : Gr n R R') : MemT Q kvs F G R' := fun i i' t t' z d d' e => let ⟨j, u, a, b, c⟩ := h i i' t t' z d d' e; ⟨j, u, a, b, g.den c⟩
theorem MemT.put {Q : Tr → Tr → Tr → Prop} {kvs : List (NestedKey × PyData)} {F G R : List Row} {i i' j : Nat} {t t' u : Tr} (h : MemT Q kvs F G R) (d : Den F i t) (d' : Den G i' t') (q : Q t t' u) (dj : Den R j u) : MemT Q (pk kvs (.tup [.num (i : Int), .num (i' : Int)]) (.int (j : Nat))) F G R := by
  intro x x' s s' z e e' hz
  rw [lk_put] at hz
  by_cases e2 : x = i ∧ x' = i'
  · obtain ⟨rfl, rfl⟩ := e2
    rw [if_pos rfl] at hz; cases hz
    exact ⟨j, u, rfl, Den.fn d e ▸ Den.fn d' e' ▸ q, dj⟩
  · have ne : ¬ NestedKey.tup [.num (x : Int), .num (x' : Int)] = NestedKey.tup [.num (i : Int), .num (i' : Int)] := fun y => e2 (by
      simp only [NestedKey.tup.injEq, List.cons.injEq, NestedKey.num.injEq, and_true] at y
      exact ⟨Int.ofNat.inj y.1, Int.ofNat.inj y.2⟩)
    rw [if_neg ne] at hz
    exact h x x' s s' z e e' hz
theorem pair_key (i j : Int) : isTk (.tuple [.int i, .int j]) [.num i, .num j] := ⟨by simp [nkOf, nksOf], by simp [NestedKey.depth, NestedKey.depthAll]⟩
theorem min_nat (a b : Nat) : [((b : Nat) : Int)].foldl min ((a : Nat) : Int) = ((min a b : Nat) : Int) := by
  show min (a : Int) (b : Int) = _
  omega
def t_switched_from (C : Addr) (N : Nat) (self : DSp) : TDs := (dSeq (dIf (dB (dOp (inDT id) (dVar 3) (dVar 4))) (dRet (dOp ixDT (dVar 4) (dVar 3))) dNext)
  (dSeq (dAsg (dVar 2) (gdTup 2 (gdCons (gdName 5) (gdCons (gdName 6) gdNil))))
  (dSeq (dSet 7 (dTup (daCons (dMeth C "rank" (sp_m_rank C) (dVar 0) (daCons (dVar 5) (daCons (dOp (opV ixV) (dVar 3) (dC (.int 0))) daNil))) (daCons (dMeth C "rank" (sp_m_rank C) (dVar 0) (daCons (dVar 6) (daCons (dOp (opV ixV) (dVar 3) (dC (.int 1))) daNil))) daNil))))
  (dSeq (dSet 8 (dOrdIx (dFld C (dVar 0) "order") (daCons (dVar 1) daNil)))
  (dSeq (dIf (dB (dOp (opV leV2) (dVar 8) (dCB minTP (daCons (dVar 7) daNil)))) (dSeq (dSet 9 (dCall (sp_copied C N) (daCons (dVar 0) (daCons (dVar 5) (daCons (dOp (opV ixV) (dCall sp_goals_at (daCons (dVar 5) (daCons (dOp (opV ixV) (dVar 3) (dC (.int 0))) (daCons (dVar 1) daNil)))) (dC (.int 0))) (daCons dDicV daNil))))))
  (dSeq (dSet 10 (dCall (sp_copied C N) (daCons (dVar 0) (daCons (dVar 6) (daCons (dOp (opV ixV) (dCall sp_goals_at (daCons (dVar 6) (daCons (dOp (opV ixV) (dVar 3) (dC (.int 1))) (daCons (dVar 1) daNil)))) (dC (.int 1))) (daCons dDicV daNil))))))
  (dSet 11 (dMeth C "node" (sp_m_node C) (dVar 0) (daCons (dVar 1) (daCons (dVar 9) (daCons (dVar 10) daNil))))))) (dSeq (dSet 12 (dOp (opV ixV) (dFld C (dVar 0) "order") (dCB minTP (daCons (dVar 7) daNil))))
  (dSeq (dSet 13 (dCall sp_goals_at (daCons (dVar 5) (daCons (dOp (opV ixV) (dVar 3) (dC (.int 0))) (daCons (dVar 12) daNil)))))
  (dSeq (dSet 14 (dCall sp_goals_at (daCons (dVar 6) (daCons (dOp (opV ixV) (dVar 3) (dC (.int 1))) (daCons (dVar 12) daNil)))))
  (dSeq (dSet 15 (dCall self (daCons (dVar 0) (daCons (dVar 1) (daCons (dVar 2) (daCons (dTup (daCons (dOp (opV ixV) (dVar 13) (dC (.int 0))) (daCons (dOp (opV ixV) (dVar 14) (dC (.int 0))) daNil))) (daCons (dVar 4) daNil)))))))
  (dSet 11 (dMeth C "node" (sp_m_node C) (dVar 0) (daCons (dVar 12) (daCons (dVar 15) (daCons (dCall self (daCons (dVar 0) (daCons (dVar 1) (daCons (dVar 2) (daCons (dTup (daCons (dOp (opV ixV) (dVar 13) (dC (.int 1))) (daCons (dOp (opV ixV) (dVar 14) (dC (.int 1))) daNil))) (daCons (dVar 4) daNil)))))) daNil))))))))))
  (dSeq (dPutT (dVar 4) (dVar 3) (dVar 11))
  (dRet (dVar 11))))))))
def sp_switched_from (C : Addr) (N n : Nat) : DSp := fun ds M k => ∃ ord r l kn R F G c i i' t t' mt kvs, ds = [.ref r, .dat (.int ((c : Nat) : Int)), .dat (.tuple [encFold F, encFold G]), .dat (.tuple [.int ((i : Nat) : Int), .int ((i' : Nat) : Int)]), .ref mt] ∧ RowsAt C ord r l kn M R ∧ ord.Nodup ∧ c ∈ ord ∧
  Den F i t ∧ Den G i' t' ∧ Ordd ord t ∧ Ordd ord t' ∧ ord.length ≤ n + min (rk ord t) (rk ord t') ∧ ord.length ≤ N ∧ M mt = some (.dicT kvs) ∧ kn ≠ mt ∧ MemT (Sw ord c) kvs F G R ∧
  R.length + 2 ^ (n + 2) ≤ 1000000 ∧ kvs.length + 2 ^ (n + 2) ≤ 1000000 ∧ ∀ R' kvs' j u, Gr (2 ^ (n + 2) - 1) R R' → Sw ord c t t' u → Den R' j u → MemT (Sw ord c) kvs' F G R' → kvs'.length + 1 ≤ kvs.length + 2 ^ (n + 2) → k (.dat (.int ((j : Nat) : Int))) (st l kn mt M R' (.dicT kvs'))
set_option maxHeartbeats 2000000 in
theorem rd_switched_from (C : Addr) (N n : Nat) : ∀ ds M k, sp_switched_from C N n ds M k → t_switched_from C N (spPrev (sp_switched_from C N) n) (rtE k) (startD ["rows", "character", "pair", "ats", "met", "no", "yes", "ranks", "mine", "one", "other", "found", "here", "ones", "others", "low"] ds) M := by
  rintro _ M k ⟨ord, r, l, kn, R, F, G, c, i, i', t, t', mt, kvs, rfl, hR, nd, hc, hd, hd', ho, ho', hn, hN, hm, km, hmem, hs1, hs2, h⟩
  have rm : r ≠ mt := fun e => by subst e; rw [hR.ob] at hm; cases hm
  have lm : l ≠ mt := fun e => by subst e; rw [hR.la] at hm; cases hm
  have lk' := hR.ne3
  have hE : 4 ≤ 2 ^ (n + 2) := Nat.pow_le_pow_right (n := 2) (by decide) (show 2 ≤ n + 2 by omega)
  refine ⟨_, rfl, _, rfl, mt, kvs, _, _, rfl, hm, rfl, pair_key _ _, _, rfl, ?_⟩
  refine if_b (fun e => ?_) fun e => ?_
  · have e : (lk kvs (.tup [.num (i : Int), .num (i' : Int)])).isSome = true := e
    obtain ⟨z, hz⟩ := Option.isSome_iff_exists.mp e
    obtain ⟨j, u, rfl, hu, dj⟩ := hmem i i' t t' z hd hd' hz
    have := h R kvs j u ((Gr.refl hR.nd).le (Nat.zero_le _)) hu dj hmem (by omega)
    rw [st_self hR hm] at this
    exact ⟨_, rfl, _, rfl, mt, kvs, _, _, _, rfl, hm, rfl, pair_key _ _, hz, rt_same this⟩
  obtain ⟨row, hrow, _, hrk⟩ := hd.row
  obtain ⟨row', hrow', _, hrk'⟩ := hd'.row
  refine ⟨_, rfl, _, rfl, rfl, _, _, rfl, _, _, rfl, rfl, ?_⟩
  refine ⟨_, rfl, r, _, rfl, hR.ob, rfl, _, rfl, _, rfl, _, _, rfl, rfl, _, rfl, ?_⟩
  refine ⟨ord, r, l, kn, R, _, F, i, row, rfl, hR, rowsF F, hrow, ho.inO hd hrow, ?_⟩
  refine ⟨_, rfl, r, _, rfl, hR.ob, rfl, _, rfl, _, rfl, _, _, rfl, rfl, _, rfl, ?_⟩
  refine ⟨ord, r, l, kn, R, _, G, i', row', rfl, hR, rowsF G, hrow', ho'.inO hd' hrow', ?_⟩
  refine ⟨_, rfl, szb rfl, ?_⟩
  have hx := idx_at hc
  refine ⟨_, rfl, r, _, _, rfl, hR.ob, rfl, _, rfl, _, rfl, _, ord.idxOf c, rfl, hx.1, hx.2, ?_⟩
  refine ⟨_, rfl, _, rfl, _, _, ((rkR ord row : Nat) : Int), [((rkR ord row' : Nat) : Int)], rfl, rfl, rfl, ?_⟩
  rw [min_nat, hrk, hrk']
  refine ⟨_, _, rfl, rfl, _, rfl, ?_⟩
  have g1 := hd.goal hrow
  have g2 := hd'.goal hrow'
  refine if_b (fun e => ?_) fun e => ?_
  · have hle : ord.idxOf c ≤ min (rk ord t) (rk ord t') := by have := of_decide_eq_true e; omega
    have gd := (ho.goal c).1.depth
    have gd' := (ho'.goal c).2.depth
    have gr := (rk_ge ho c).1
    have gr' := (rk_ge ho' c).2
    have sz := (goalT t c).1.size_le
    have sz' := (goalT t' c).2.size_le
    have p1 : 2 ^ ((goalT t c).1.depth + 1) ≤ 2 ^ (n + 1) := Nat.pow_le_pow_right (by decide) (by omega)
    have p2 : 2 ^ ((goalT t' c).2.depth + 1) ≤ 2 ^ (n + 1) := Nat.pow_le_pow_right (by decide) (by omega)
    have p3 : 2 ^ (n + 2) = 2 * 2 ^ (n + 1) := by rw [Nat.pow_succ]; omega
    refine ⟨_, rfl, _, rfl, _, rfl, _, rfl, _, _, rfl, rfl, _, rfl, _, rfl, ?_⟩
    refine ⟨F, _, i, c, row, rfl, rowsF F, hrow, ?_⟩
    refine ⟨_, _, rfl, rfl, _, rfl, fun a ha => ?_⟩
    have ra : r ≠ a := fun e => by subst e; rw [hR.ob] at ha; cases ha
    have la : l ≠ a := fun e => by subst e; rw [hR.la] at ha; cases ha
    have ka : kn ≠ a := fun e => by subst e; rw [hR.kn] at ha; cases ha
    have ma : mt ≠ a := fun e => by subst e; rw [hm] at ha; cases ha
    have hRa := hR.set (o := .dicV []) ra la ka
    refine ⟨ord, r, l, kn, R, F, _, _, a, [], rfl, hRa, (g1 c).1, (ho.goal c).1, by omega, setM_same, .nil, by omega, by rw [List.length_nil]; omega, fun R1 kv1 j1 gr1 d1 _ _ => ?_⟩
    rw [st_st' lk' la ka]
    have hR1 := hR.st (R' := R1) (o := .dicV kv1) gr1.1 ra la ka
    have l1 := gr1.len
    refine ⟨_, rfl, _, rfl, _, rfl, _, rfl, _, _, rfl, rfl, _, rfl, _, rfl, ?_⟩
    refine ⟨G, _, i', c, row', rfl, rowsF G, hrow', ?_⟩
    refine ⟨_, _, rfl, rfl, _, rfl, fun b hb => ?_⟩
    have rb : r ≠ b := fun e => by subst e; rw [hR1.ob] at hb; cases hb
    have lb : l ≠ b := fun e => by subst e; rw [hR1.la] at hb; cases hb
    have kb : kn ≠ b := fun e => by subst e; rw [hR1.kn] at hb; cases hb
    have ab : a ≠ b := fun e => by subst e; rw [st_at] at hb; cases hb
    have mb : mt ≠ b := fun e => by subst e; rw [st_ne (Ne.symm lm) (Ne.symm km) ma, hm] at hb; cases hb
    have hb0 : M b = none := by rw [st_ne (Ne.symm lb) (Ne.symm kb) (Ne.symm ab)] at hb; exact hb
    have hRb := hR1.set (o := .dicV []) rb lb kb
    refine ⟨ord, r, l, kn, R1, G, _, _, b, [], rfl, hRb, (g2 c).2, (ho'.goal c).2, by omega, setM_same, .nil, by omega, by rw [List.length_nil]; omega, fun R2 kv2 j2 gr2 d2 _ _ => ?_⟩
    have hR2 := hRb.st (R' := R2) (o := .dicV kv2) gr2.1 rb lb kb
    have l2 := gr2.len
    refine ⟨_, rfl, r, _, rfl, hR2.ob, rfl, _, rfl, _, rfl, _, rfl, ?_⟩
    refine ⟨ord, r, l, kn, R2, c, j1, j2, _, _, rfl, hR2, by omega, gr2.den d1, d2, fun R3 j3 gr3 d3 => ?_⟩
    refine ⟨_, rfl, _, rfl, _, rfl, mt, _, _, _, _, rfl, ?_, rfl, pair_key _ _, rfl, slt (show kvs.length < _ by omega), ?_⟩
    · rw [pr_ne (Ne.symm lm) (Ne.symm km), st_ne (Ne.symm lm) (Ne.symm km) mb, setM_ne mb, st_ne (Ne.symm lm) (Ne.symm km) ma]
      exact hm
    have gg := gr1.trans (gr2.trans gr3)
    have hsw : Sw ord c t t' _ := .here hle
    refine ⟨_, rfl, rt_sub ?_ (h R3 _ j3 _ (gg.le (by omega)) hsw d3 ((hmem.gr gg).put hd hd' hsw d3) (by have := pk_length (.tup [.num (i : Int), .num (i' : Int)]) (PyData.int j3) kvs; omega))⟩
    intro x o hx
    by_cases e1 : x = mt
    · subst e1
      rw [st_at] at hx
      rw [setM_same]; exact hx
    rw [setM_ne e1]
    unfold Ks.st at hx
    rw [setM_ne e1] at hx
    by_cases e2 : x = kn
    · subst e2
      unfold pr at hx ⊢
      rw [setM_same] at hx ⊢
      exact hx
    by_cases e3 : x = l
    · subst e3
      unfold pr at hx ⊢
      rw [setM_ne e2] at hx ⊢
      rw [setM_same] at hx ⊢
      exact hx
    rw [pr_ne e3 e2] at hx
    have xa : x ≠ a := fun e => by subst e; rw [ha] at hx; cases hx
    have xb : x ≠ b := fun e => by subst e; rw [hb0] at hx; cases hx
    rw [pr_ne e3 e2, st_ne e3 e2 xb, setM_ne xb, st_ne e3 e2 xa]
    exact hx
  · have hlt : min (rk ord t) (rk ord t') < ord.idxOf c := by have := of_decide_eq_false e; omega
    have hl := List.idxOf_lt_length_of_mem hc
    obtain ⟨x, hx⟩ : ∃ x, ord[min (rk ord t) (rk ord t')]? = some x := ⟨_, List.getElem?_eq_getElem (by omega)⟩
    obtain ⟨xm, xi⟩ := rk_at nd hx
    have q1 := ho.goal x
    have q2 := ho'.goal x
    have r1 := rk_goal ho xm (by omega)
    have r2 := rk_goal ho' xm (by omega)
    obtain ⟨n, rfl⟩ : ∃ n', n = n' + 1 := ⟨n - 1, by omega⟩
    have p3 : 2 ^ (n + 1 + 2) = 2 * 2 ^ (n + 2) := by rw [show n + 1 + 2 = n + 2 + 1 by omega, Nat.pow_succ]; omega
    have hE2 : 4 ≤ 2 ^ (n + 2) := Nat.pow_le_pow_right (n := 2) (by decide) (show 2 ≤ n + 2 by omega)
    refine ⟨_, rfl, r, _, _, rfl, hR.ob, rfl, _, rfl, _, _, ((rk ord t : Nat) : Int), [((rk ord t' : Nat) : Int)], rfl, rfl, rfl, ?_⟩
    rw [min_nat]
    refine ⟨_, _, rfl, rfl, _, ix_ord hx, ?_⟩
    refine ⟨_, rfl, _, rfl, _, _, rfl, rfl, _, rfl, _, rfl, ?_⟩
    refine ⟨F, _, i, x, row, rfl, rowsF F, hrow, ?_⟩
    refine ⟨_, rfl, _, rfl, _, _, rfl, rfl, _, rfl, _, rfl, ?_⟩
    refine ⟨G, _, i', x, row', rfl, rowsF G, hrow', ?_⟩
    refine ⟨_, rfl, _, rfl, _, rfl, _, rfl, _, _, rfl, rfl, _, rfl, _, rfl, _, _, rfl, rfl, _, rfl, _, rfl, szb rfl, _, rfl, ?_⟩
    refine ⟨ord, r, l, kn, R, F, G, c, _, _, _, _, mt, kvs, rfl, hR, nd, hc, (g1 x).1, (g2 x).1, q1.1, q2.1, by omega, hN, hm, km, hmem, by omega, by omega, fun R1 kvs1 j1 u1 gr1 s1 d1 m1 k1 => ?_⟩
    have hR1 := hR.st (R' := R1) (o := .dicT kvs1) gr1.1 rm lm km
    have l1 := gr1.len
    refine ⟨_, rfl, r, _, rfl, hR1.ob, rfl, _, rfl, _, rfl, ?_⟩
    refine ⟨_, rfl, _, rfl, _, rfl, _, rfl, _, _, rfl, rfl, _, rfl, _, rfl, _, _, rfl, rfl, _, rfl, _, rfl, szb rfl, _, rfl, ?_⟩
    refine ⟨ord, r, l, kn, R1, F, G, c, _, _, _, _, mt, kvs1, rfl, hR1, nd, hc, (g1 x).2, (g2 x).2, q1.2, q2.2, by omega, hN, st_at, km, m1, by omega, by omega, fun R2 kvs2 j2 u2 gr2 s2 d2 m2 k2 => ?_⟩
    rw [st_st lk' lm km]
    have hR2 := hR.st (R' := R2) (o := .dicT kvs2) gr2.1 rm lm km
    have l2 := gr2.len
    refine ⟨ord, r, l, kn, R2, x, j1, j2, u1, u2, rfl, hR2, by omega, gr2.den d1, d2, fun R3 j3 gr3 d3 => ?_⟩
    rw [st_pr lk' lm km]
    have hsw : Sw ord c t t' _ := .down hlt hx s1 s2
    refine ⟨_, rfl, _, rfl, _, rfl, mt, _, _, _, _, rfl, st_at, rfl, pair_key _ _, rfl, slt (show kvs2.length < _ by omega), ?_⟩
    rw [st_put]
    exact ⟨_, rfl, rt_same (h R3 _ j3 _ ((gr1.trans (gr2.trans gr3)).le (by omega)) hsw d3 ((m2.gr gr3).put hd hd' hsw d3) (by have := pk_length (.tup [.num (i : Int), .num (i' : Int)]) (PyData.int j3) kvs2; omega))⟩
end Ks

/-! Ks: switched, folded, what they answer. -/
namespace Ks
open PySem PySem.Spec PyProof.Rows L2 Kf

theorem post_mem : ∀ (t : Tr) (m : List Tr) (x : Tr), x ∈ post t m → x ∈ m ∨ x.size ≤ t.size
  | .leaf ns, m, x, h => by
    unfold post at h
    split at h
    · exact .inl h
    · rcases List.mem_append.mp h with h | h
      · exact .inl h
      · rw [List.mem_singleton.mp h]; exact .inr (Nat.le_refl _)
  | .node c a b, m, x, h => by
    unfold post at h
    have es : (Tr.node c a b).size = a.size + b.size + 1 := rfl
    split at h
    · exact .inl h
    · rcases List.mem_append.mp h with h | h
      · rcases post_mem b _ x h with h | h
        · rcases post_mem a _ x h with h | h
          · exact .inl h
          · exact .inr (by omega)
        · exact .inr (by omega)
      · rw [List.mem_singleton.mp h]; exact .inr (Nat.le_refl _)
theorem nodup_snoc {α : Type} {l : List α} {x : α} (h : l.Nodup) (hx : x ∉ l) : (l ++ [x]).Nodup :=
  List.nodup_append.mpr ⟨h, by simp, fun a ha b hb e => hx (by rw [List.mem_singleton] at hb; rw [← hb, ← e]; exact ha)⟩
theorem post_fresh {c : Nat} {a b : Tr} {m : List Tr} (h : Tr.node c a b ∉ m) : Tr.node c a b ∉ post b (post a m) := by
  intro z
  have es : (Tr.node c a b).size = a.size + b.size + 1 := rfl
  rcases post_mem b _ _ z with z | z
  · rcases post_mem a _ _ z with z | z
    · exact h z
    · omega
  · omega
theorem post_nodup : ∀ (t : Tr) (m : List Tr), m.Nodup → (post t m).Nodup
  | .leaf ns, m, h => by
    unfold post
    split
    · exact h
    · rename_i e; exact nodup_snoc h e
  | .node c a b, m, h => by
    unfold post
    split
    · exact h
    · rename_i e
      exact nodup_snoc (post_nodup b _ (post_nodup a m h)) (post_fresh e)
theorem post_top (t : Tr) : ∃ Q, post t [] = Q ++ [t] ∧ t ∉ Q := by
  cases t with
  | leaf ns => exact ⟨[], by unfold post; rw [if_neg List.not_mem_nil], List.not_mem_nil⟩
  | node c a b => exact ⟨post b (post a []), by rw [post, if_neg List.not_mem_nil], post_fresh List.not_mem_nil⟩
theorem den_in {P : List Tr} (h : Cl P) : ∀ x, x ∈ P → Den (P.map (rowIn P)) (P.idxOf x) x
  | .leaf ns, hx => .leaf (by
      rw [List.getElem?_map, List.getElem?_eq_getElem (List.idxOf_lt_length_of_mem hx), List.getElem_idxOf]; rfl)
  | .node c a b, hx => .node (by
      rw [List.getElem?_map, List.getElem?_eq_getElem (List.idxOf_lt_length_of_mem hx), List.getElem_idxOf]; rfl) (den_in h a (h c a b hx).1) (den_in h b (h c a b hx).2)
theorem post_cl0 (t : Tr) : Cl (post t []) := (post_cl t [] fun c a b z => absurd z List.not_mem_nil).1
theorem post_idx (t : Tr) : (post t []).idxOf t + 1 = (post t []).length := by
  obtain ⟨Q, e, h⟩ := post_top t
  rw [e, List.idxOf_append, if_neg h, List.length_append]
  simp
theorem fold_len (t : Tr) : (foldOf t).length = (post t []).length := by unfold foldOf; rw [List.length_map]
theorem fold_pos (t : Tr) : 1 ≤ (foldOf t).length := by rw [fold_len, ← post_idx]; omega
theorem den_fold (t : Tr) : Den (foldOf t) ((foldOf t).length - 1) t := by
  have h := den_in (post_cl0 t) t (post_cl t [] fun c a b z => absurd z List.not_mem_nil).2.1
  have e : (foldOf t).length - 1 = (post t []).idxOf t := by rw [fold_len, ← post_idx]; omega
  rw [e]; exact h
/-! ### switched -/
def t_switched (C : Addr) : TDs := (dSeq (dSet 4 (dMake C (sp_m_init C) (daCons (dVar 3) daNil)))
  (dSeq (dSet 5 (dCall (sp_switched_from C 10 10) (daCons (dVar 4) (daCons (dVar 0) (daCons (dTup (daCons (dVar 1) (daCons (dVar 2) daNil))) (daCons (dTup (daCons (dOp (opV subV) (dCB lenP (daCons (dVar 1) daNil)) (dC (.int 1))) (daCons (dOp (opV subV) (dCB lenP (daCons (dVar 2) daNil)) (dC (.int 1))) daNil))) (daCons dDicT daNil)))))))
  (dRet (dMeth C "fold" (sp_m_fold C 10) (dVar 4) (daCons (dVar 5) daNil)))))
def sp_switched (C : Addr) : DSp := fun ds M k => ∃ (ord : List Nat) (c : Nat) (t t' : Tr), ds = [.dat (.int ((c : Nat) : Int)), .dat (encFold (foldOf t)), .dat (encFold (foldOf t')), .dat (ordD (nz ord))] ∧ ord.Nodup ∧ c ∈ ord ∧ ord.length ≤ 10 ∧ Ordd ord t ∧ Ordd ord t' ∧ ∀ u, Sw ord c t t' u → k (.dat (encFold (foldOf u))) M
theorem len_fold (F : List Row) : lenV (encFold F) = some F.length := by
  show some (F.map encRow).length = _
  rw [List.length_map]
theorem size_b {ord : List Nat} {t : Tr} (h : Ordd ord t) (hl : ord.length ≤ 10) : t.depth ≤ 10 ∧ t.size ≤ 1000000 := by
  have h1 := h.depth
  have h2 := t.size_le
  have h3 : 2 ^ (t.depth + 1) ≤ 2 ^ 11 := Nat.pow_le_pow_right (by decide) (by omega)
  have h4 : (2 : Nat) ^ 11 = 2048 := rfl
  omega
/-- the top of a fold that was handed in -/
theorem top_ix (t : Tr) : (((foldOf t).length : Nat) : Int) - 1 = (((foldOf t).length - 1 : Nat) : Int) := by
  have := fold_pos t
  omega
theorem sub_back {x l kn : Addr} {M M' : MS} (hx : M x = none) (hl : M l = none) (hk : M kn = none) (f : ∀ a, a ≠ x → a ≠ l → a ≠ kn → M' a = M a) : Sub M M' := fun a o h => by
  rw [f a (fun e => by rw [e, hx] at h; cases h) (fun e => by rw [e, hl] at h; cases h) (fun e => by rw [e, hk] at h; cases h)]; exact h
theorem rd_switched (C : Addr) : ∀ ds M k, sp_switched C ds M k → t_switched C (rtE k) (startD ["character", "no", "yes", "order", "rows", "top"] ds) M := by
  rintro _ M k ⟨ord, c, t, t', rfl, nd, hc, hl, ho, ho', h⟩
  refine ⟨_, rfl, fun x hx => ⟨x, ord, rfl, setM_same, fun M' l kn hR hl0 hk0 hf => ⟨rfl, ?_⟩⟩⟩
  have xl := hR.ne1
  have xk := hR.ne2
  have lk' := hR.ne3
  have hl1 : M l = none := by rw [setM_ne (Ne.symm xl)] at hl0; exact hl0
  have hk1 : M kn = none := by rw [setM_ne (Ne.symm xk)] at hk0; exact hk0
  have hf1 : ∀ a, a ≠ x → a ≠ l → a ≠ kn → M' a = M a := fun a h1 h2 h3 => (hf a h1 h2 h3).trans (setM_ne h1)
  have hsub := sub_back hx hl1 hk1 hf1
  refine ⟨_, rfl, _, rfl, _, rfl, _, rfl, _, rfl, szb rfl, ?_⟩
  refine ⟨_, rfl, _, encFold (foldOf t), _, rfl, rfl, len_fold _, _, _, rfl, rfl, ?_⟩
  refine ⟨_, rfl, _, encFold (foldOf t'), _, rfl, rfl, len_fold _, _, _, rfl, rfl, ?_⟩
  refine ⟨_, rfl, szb rfl, fun a ha => ?_⟩
  have xa : x ≠ a := fun e => by subst e; rw [hR.ob] at ha; cases ha
  have la : l ≠ a := fun e => by subst e; rw [hR.la] at ha; cases ha
  have ka : kn ≠ a := fun e => by subst e; rw [hR.kn] at ha; cases ha
  have hRa := hR.set (o := .dicT []) xa la ka
  have ha0 : M a = none := by
    rw [hf1 a (Ne.symm xa) (Ne.symm la) (Ne.symm ka)] at ha; exact ha
  rw [top_ix, top_ix]
  have p12 : (2 : Nat) ^ (10 + 2) = 4096 := rfl
  refine ⟨ord, x, l, kn, [], foldOf t, foldOf t', c, _, _, t, t', a, [], rfl, hRa, nd, hc, den_fold t, den_fold t', ho, ho', by omega, hl, setM_same, ka, .nil, by rw [List.length_nil, p12]; omega, by rw [List.length_nil, p12]; omega, fun R' kvs' j u gr hu du _ _ => ?_⟩
  have hR' := hRa.st (R' := R') (o := .dicT kvs') gr.1 xa la ka
  obtain ⟨ou, _⟩ := hu.ordd nd hc ho ho'
  obtain ⟨b1, b2⟩ := size_b ou hl
  refine ⟨_, rfl, x, _, rfl, hR'.ob, rfl, _, rfl, ?_⟩
  refine ⟨ord, x, l, kn, R', j, u, rfl, hR', du, b1, b2, rt_sub ?_ (h u hu)⟩
  intro y o hy
  have y1 : y ≠ x := fun e => by rw [e, hx] at hy; cases hy
  have y2 : y ≠ l := fun e => by rw [e, hl1] at hy; cases hy
  have y3 : y ≠ kn := fun e => by rw [e, hk1] at hy; cases hy
  have y4 : y ≠ a := fun e => by rw [e, ha0] at hy; cases hy
  rw [st_ne y2 y3 y4, setM_ne y4, hf1 y y1 y2 y3]
  exact hy
/-! ### folded -/
inductive Fo (ord : List Nat) : Tr → Tr → Prop
  | leaf {ns} : Fo ord (.leaf ns) (.leaf ns)
  | node {c a b ta tb u} : Fo ord a ta → Fo ord b tb → Sw ord c ta tb u → Fo ord (.node c a b) u
def KeyIn (ord : List Nat) : Tr → Prop
  | .leaf _ => True
  | .node c a b => c ∈ ord ∧ KeyIn ord a ∧ KeyIn ord b
theorem Fo.ordd {ord : List Nat} (nd : ord.Nodup) {key t : Tr} (h : Fo ord key t) : KeyIn ord key → Ordd ord t := by
  induction h with
  | leaf => exact fun _ => True.intro
  | node _ _ s ih1 ih2 => exact fun h => (s.ordd nd h.1 (ih1 h.2.1) (ih2 h.2.2)).1
def t_folded (C : Addr) (self : DSp) : TDs := (dSeq (dIf (dB (dOp (opR eqV2) (dOp (opV ixV) (dVar 0) (dC (.int 0))) (dC (.str "names")))) (dRet (dTup (daCons (dTup (daCons (dC (.str "names")) (daCons (dOp (opV ixV) (dVar 0) (dC (.int 1))) daNil))) daNil))) dNext)
  (dRet (dCall (sp_switched C) (daCons (dOp (opV ixV) (dVar 0) (dC (.int 1))) (daCons (dCall self (daCons (dOp (opV ixV) (dVar 0) (dC (.int 2))) (daCons (dVar 1) daNil))) (daCons (dCall self (daCons (dOp (opV ixV) (dVar 0) (dC (.int 3))) (daCons (dVar 1) daNil))) (daCons (dVar 1) daNil)))))))
def sp_folded (C : Addr) (n : Nat) : DSp := fun ds M k => ∃ (ord : List Nat) (key : Tr), ds = [.dat (encKey key), .dat (ordD (nz ord))] ∧ ord.Nodup ∧ ord.length ≤ 10 ∧ KeyIn ord key ∧ key.depth ≤ n ∧ ∀ u, Fo ord key u → k (.dat (encFold (foldOf u))) M
theorem fold_leaf (ns : List Str) : foldOf (.leaf ns) = [.leaf ns] := by
  unfold foldOf post; rw [if_neg List.not_mem_nil]; rfl
theorem rd_folded (C : Addr) (n : Nat) : ∀ ds M k, sp_folded C n ds M k → t_folded C (spPrev (sp_folded C) n) (rtE k) (startD ["key", "order"] ds) M := by
  rintro _ M k ⟨ord, key, rfl, nd, hl, hk, hn, h⟩
  cases key with
  | leaf ns =>
    refine ⟨_, rfl, _, _, rfl, rfl, _, rfl, _, _, rfl, rfl, rfl, _, rfl, if_t rfl ?_⟩
    refine ⟨_, rfl, _, _, rfl, rfl, _, rfl, _, rfl, szb rfl, _, rfl, szb rfl, ?_⟩
    have := h _ .leaf
    rw [fold_leaf] at this
    exact rt_same this
  | node c a b =>
    have hda : a.depth + 1 ≤ n ∧ b.depth + 1 ≤ n := by
      have : max a.depth b.depth + 1 ≤ n := hn
      omega
    obtain ⟨n, rfl⟩ : ∃ n', n = n' + 1 := ⟨n - 1, by omega⟩
    refine ⟨_, rfl, _, _, rfl, rfl, _, rfl, _, _, rfl, rfl, rfl, _, rfl, if_f rfl ?_⟩
    refine ⟨_, rfl, _, _, rfl, rfl, _, rfl, ?_⟩
    refine ⟨_, rfl, _, _, rfl, rfl, _, rfl, _, rfl, ?_⟩
    refine ⟨ord, a, rfl, nd, hl, hk.2.1, by omega, fun ta fa => ?_⟩
    refine ⟨_, rfl, _, _, rfl, rfl, _, rfl, _, rfl, ?_⟩
    refine ⟨ord, b, rfl, nd, hl, hk.2.2, by omega, fun tb fb => ?_⟩
    refine ⟨_, rfl, ?_⟩
    exact ⟨ord, c, ta, tb, rfl, nd, hk.1, hl, fa.ordd nd hk.2.1, fb.ordd nd hk.2.2, fun u hu => rt_same (h u (.node fa fb hu))⟩
end Ks

/-! Ks: what keys and folds answer. -/
namespace Ks
open PySem PySem.Spec PyProof.Rows L2 Kf

def encBits (bs : List Nat) : PyData := .tuple (bs.map fun b => PyData.int ((b : Nat) : Int))
def Bits (m : Nat) (bs : List Nat) : Prop := bs.length = m ∧ ∀ b, b ∈ bs → b = 0 ∨ b = 1
def Tr.ans (bs : List Nat) : Tr → List Str
  | .leaf ns => ns
  | .node c a b => if bs.getD c 0 = 0 then a.ans bs else b.ans bs
def CharLt (m : Nat) : Tr → Prop
  | .leaf _ => True
  | .node c a b => c < m ∧ CharLt m a ∧ CharLt m b
theorem Bits.at {m : Nat} {bs : List Nat} (h : Bits m bs) {c : Nat} (hc : c < m) : ∃ v, bs[c]? = some v ∧ (v = 0 ∨ v = 1) ∧ bs.getD c 0 = v := by
  have hc' : c < bs.length := by rw [h.1]; exact hc
  refine ⟨bs[c], List.getElem?_eq_getElem hc', h.2 _ (List.getElem_mem hc'), ?_⟩
  rw [List.getD_eq_getElem?_getD, List.getElem?_eq_getElem hc']; rfl
theorem bits_ix {bs : List Nat} {c v : Nat} (h : bs[c]? = some v) : atI (bs.map fun b => PyData.int ((b : Nat) : Int)) ((c : Nat) : Int) = some (.int ((v : Nat) : Int)) :=
  atI_nat (by rw [List.getElem?_map, h]; rfl)
/-! ### answer -/
def t_answer_loop : TDs := (dWhile (dB (dOp (opR neV2) (dOp (opV ixV) (dVar 2) (dC (.int 0))) (dC (.str "names")))) (dSet 2 (dOp (opV ixV) (dVar 2) (dOp (opV addV) (dC (.int 2)) (dOp (opV ixV) (dVar 1) (dOp (opV ixV) (dVar 2) (dC (.int 1))))))))
def t_answer : TDs := (dSeq (dSet 2 (dVar 0)) (dSeq t_answer_loop (dRet (dOp (opV ixV) (dVar 2) (dC (.int 1))))))
def sp_answer : DSp := fun ds M k => ∃ (m : Nat) (key : Tr) (bs : List Nat), ds = [.dat (encKey key), .dat (encBits bs)] ∧ Bits m bs ∧ CharLt m key ∧ k (.dat (encNames (key.ans bs))) M
theorem answer_loop {m : Nat} {bs : List Nat} (hb : Bits m bs) {De : DEnds} {M : MS} {x : DV} : ∀ (t : Tr), CharLt m t → De.nx [some x, some (.dat (encBits bs)), some (.dat (encKey (.leaf (t.ans bs))))] M →
    t_answer_loop De [some x, some (.dat (encBits bs)), some (.dat (encKey t))] M
  | .leaf ns, _, h => ⟨1, _, rfl, _, _, rfl, rfl, _, rfl, _, _, rfl, rfl, rfl, _, rfl, if_f rfl h⟩
  | .node c a b, hc, h => by
    obtain ⟨v, hv, h01, hg⟩ := hb.at hc.1
    rcases h01 with rfl | rfl
    · have e : (Tr.node c a b).ans bs = a.ans bs := by rw [Tr.ans, if_pos hg]
      rw [e] at h
      obtain ⟨n, hn⟩ := answer_loop hb a hc.2.1 h
      refine ⟨n + 1, _, rfl, _, _, rfl, rfl, _, rfl, _, _, rfl, rfl, rfl, _, rfl, if_t rfl ?_⟩
      exact ⟨_, rfl, _, rfl, _, rfl, _, _, rfl, rfl, _, rfl, _, _, rfl, rfl, _, bits_ix hv, _, _, rfl, rfl, _, _, rfl, rfl, _, rfl, hn⟩
    · have e : (Tr.node c a b).ans bs = b.ans bs := by rw [Tr.ans, if_neg (by rw [hg]; decide)]
      rw [e] at h
      obtain ⟨n, hn⟩ := answer_loop hb b hc.2.2 h
      refine ⟨n + 1, _, rfl, _, _, rfl, rfl, _, rfl, _, _, rfl, rfl, rfl, _, rfl, if_t rfl ?_⟩
      exact ⟨_, rfl, _, rfl, _, rfl, _, _, rfl, rfl, _, rfl, _, _, rfl, rfl, _, bits_ix hv, _, _, rfl, rfl, _, _, rfl, rfl, _, rfl, hn⟩
theorem rd_answer : ∀ ds M k, sp_answer ds M k → t_answer (rtE k) (startD ["key", "thing", "at"] ds) M := by
  rintro _ M k ⟨m, key, bs, rfl, hb, hc, h⟩
  refine ⟨_, rfl, answer_loop hb key hc ?_⟩
  exact ⟨_, rfl, _, _, rfl, rfl, _, rfl, rt_same h⟩
/-! ### answer_of -/
def t_answer_of_loop : TDs := (dWhile (dNot (dB (dCall sp_is_leaf (daCons (dVar 2) daNil)))) (dSet 2 (dOp (opV ixV) (dVar 0) (dOp (opV ixV) (dVar 2) (dOp (opV addV) (dC (.int 1)) (dOp (opV ixV) (dVar 1) (dOp (opV ixV) (dVar 2) (dC (.int 0)))))))))
def t_answer_of : TDs := (dSeq (dSet 2 (dOp (opV ixV) (dVar 0) (dUn negP (dC (.int 1))))) (dSeq t_answer_of_loop (dRet (dOp (opV ixV) (dVar 2) (dC (.int 1))))))
def t_L_at_loop : TDs := (dWhile (dB (dOp (opR neV2) (dOp (opV ixV) (dVar 2) (dC (.int 0))) (dC (.str "names")))) (dSet 2 (dOp (opV ixV) (dVar 0) (dOp (opV ixV) (dVar 2) (dOp (opV addV) (dC (.int 1)) (dOp (opV ixV) (dVar 1) (dOp (opV ixV) (dVar 2) (dC (.int 0)))))))))
def t_L_at : TDs := (dSeq (dSet 2 (dOp (opV ixV) (dVar 0) (dUn negP (dC (.int 1))))) (dSeq t_L_at_loop (dRet (dOp (opV ixV) (dVar 2) (dC (.int 1))))))
def sp_answer_of : DSp := fun ds M k => ∃ (m : Nat) (F : List Row) (t : Tr) (bs : List Nat), ds = [.dat (encFold F), .dat (encBits bs)] ∧ Den F (F.length - 1) t ∧ Bits m bs ∧ CharLt m t ∧ k (.dat (encNames (t.ans bs))) M
theorem row_at {F : List Row} {i : Nat} {r : Row} (h : F[i]? = some r) : atI (F.map encRow) ((i : Nat) : Int) = some (encRow r) := atI_nat (by rw [List.getElem?_map, h]; rfl)
theorem row_last {F : List Row} {r : Row} (h : F[F.length - 1]? = some r) : atI (F.map encRow) (-1) = some (encRow r) := by
  have hl := (List.getElem?_eq_some_iff.mp h).1
  have e : F = F.dropLast ++ [r] := by
    have hn : F ≠ [] := fun z => by subst z; simp at hl
    have h2 : F.getLast hn = r := by
      rw [List.getLast_eq_getElem]
      exact (List.getElem?_eq_some_iff.mp h).2
    rw [← h2]; exact (List.dropLast_concat_getLast hn).symm
  rw [e, List.map_append]
  exact atI_last _ _
theorem answer_of_loop {m : Nat} {bs : List Nat} (hb : Bits m bs) {F : List Row} {De : DEnds} {M : MS} : ∀ (t : Tr) (i : Nat) (row : Row), Den F i t → F[i]? = some row → CharLt m t → De.nx [some (.dat (encFold F)), some (.dat (encBits bs)), some (.dat (encRow (.leaf (t.ans bs))))] M →
    t_answer_of_loop De [some (.dat (encFold F)), some (.dat (encBits bs)), some (.dat (encRow row))] M
  | .leaf ns, i, row, d, hr, _, h => by
    rw [d.row_leaf] at hr; cases hr
    exact ⟨1, _, rfl, .leaf ns, rfl, _, rfl, if_f rfl h⟩
  | .node c a b, i, row, d, hr, hc, h => by
    obtain ⟨x, y, er, h1, h2⟩ := d.row_node
    rw [er] at hr; cases hr
    obtain ⟨v, hv, h01, hg⟩ := hb.at hc.1
    rcases h01 with rfl | rfl
    · have e : (Tr.node c a b).ans bs = a.ans bs := by rw [Tr.ans, if_pos hg]
      rw [e] at h
      obtain ⟨r', hr', _⟩ := h1.row
      obtain ⟨n, hn⟩ := answer_of_loop hb a x r' h1 hr' hc.2.1 h
      refine ⟨n + 1, _, rfl, .node c x y, rfl, _, rfl, if_t rfl ?_⟩
      exact ⟨_, rfl, _, rfl, _, rfl, _, rfl, _, _, rfl, rfl, _, rfl, _, _, rfl, rfl, _, bits_ix hv, _, _, rfl, rfl, _, _, rfl, rfl, _, rfl, _, _, rfl, rfl, _, row_at hr', hn⟩
    · have e : (Tr.node c a b).ans bs = b.ans bs := by rw [Tr.ans, if_neg (by rw [hg]; decide)]
      rw [e] at h
      obtain ⟨r', hr', _⟩ := h2.row
      obtain ⟨n, hn⟩ := answer_of_loop hb b y r' h2 hr' hc.2.2 h
      refine ⟨n + 1, _, rfl, .node c x y, rfl, _, rfl, if_t rfl ?_⟩
      exact ⟨_, rfl, _, rfl, _, rfl, _, rfl, _, _, rfl, rfl, _, rfl, _, _, rfl, rfl, _, bits_ix hv, _, _, rfl, rfl, _, _, rfl, rfl, _, rfl, _, _, rfl, rfl, _, row_at hr', hn⟩
theorem rd_answer_of : ∀ ds M k, sp_answer_of ds M k → t_answer_of (rtE k) (startD ["fold", "thing", "row"] ds) M := by
  rintro _ M k ⟨m, F, t, bs, rfl, d, hb, hc, h⟩
  obtain ⟨row, hr, _⟩ := d.row
  refine ⟨_, rfl, _, rfl, _, _, rfl, rfl, _, row_last hr, answer_of_loop hb t _ row d hr hc ?_⟩
  exact ⟨_, rfl, _, _, rfl, rfl, _, rfl, rt_same h⟩
theorem L_at_loop {m : Nat} {bs : List Nat} (hb : Bits m bs) {F : List Row} {De : DEnds} {M : MS} : ∀ (t : Tr) (i : Nat) (row : Row), Den F i t → F[i]? = some row → CharLt m t → De.nx [some (.dat (encFold F)), some (.dat (encBits bs)), some (.dat (encRow (.leaf (t.ans bs))))] M →
    t_L_at_loop De [some (.dat (encFold F)), some (.dat (encBits bs)), some (.dat (encRow row))] M
  | .leaf ns, i, row, d, hr, _, h => by
    rw [d.row_leaf] at hr; cases hr
    exact ⟨1, _, rfl, _, _, rfl, rfl, _, rfl, _, _, rfl, rfl, rfl, _, rfl, if_f rfl h⟩
  | .node c a b, i, row, d, hr, hc, h => by
    obtain ⟨x, y, er, h1, h2⟩ := d.row_node
    rw [er] at hr; cases hr
    obtain ⟨v, hv, h01, hg⟩ := hb.at hc.1
    rcases h01 with rfl | rfl
    · have e : (Tr.node c a b).ans bs = a.ans bs := by rw [Tr.ans, if_pos hg]
      rw [e] at h
      obtain ⟨r', hr', _⟩ := h1.row
      obtain ⟨n, hn⟩ := L_at_loop hb a x r' h1 hr' hc.2.1 h
      refine ⟨n + 1, _, rfl, _, _, rfl, rfl, _, rfl, _, _, rfl, rfl, rfl, _, rfl, if_t rfl ?_⟩
      exact ⟨_, rfl, _, rfl, _, rfl, _, rfl, _, _, rfl, rfl, _, rfl, _, _, rfl, rfl, _, bits_ix hv, _, _, rfl, rfl, _, _, rfl, rfl, _, rfl, _, _, rfl, rfl, _, row_at hr', hn⟩
    · have e : (Tr.node c a b).ans bs = b.ans bs := by rw [Tr.ans, if_neg (by rw [hg]; decide)]
      rw [e] at h
      obtain ⟨r', hr', _⟩ := h2.row
      obtain ⟨n, hn⟩ := L_at_loop hb b y r' h2 hr' hc.2.2 h
      refine ⟨n + 1, _, rfl, _, _, rfl, rfl, _, rfl, _, _, rfl, rfl, rfl, _, rfl, if_t rfl ?_⟩
      exact ⟨_, rfl, _, rfl, _, rfl, _, rfl, _, _, rfl, rfl, _, rfl, _, _, rfl, rfl, _, bits_ix hv, _, _, rfl, rfl, _, _, rfl, rfl, _, rfl, _, _, rfl, rfl, _, row_at hr', hn⟩
theorem rd_L_at : ∀ ds M k, sp_answer_of ds M k → t_L_at (rtE k) (startD ["_law_fold", "_law_thing", "_law_row"] ds) M := by
  rintro _ M k ⟨m, F, t, bs, rfl, d, hb, hc, h⟩
  obtain ⟨row, hr, _⟩ := d.row
  refine ⟨_, rfl, _, rfl, _, _, rfl, rfl, _, row_last hr, L_at_loop hb t _ row d hr hc ?_⟩
  exact ⟨_, rfl, _, _, rfl, rfl, _, rfl, rt_same h⟩
/-! ### _law_answer -/
def t_L_answer (self : DSp) : TDs := (dSeq (dIf (dB (dOp (opR eqV2) (dOp (opV ixV) (dVar 0) (dC (.int 0))) (dC (.str "names")))) (dRet (dOp (opV ixV) (dVar 0) (dC (.int 1)))) dNext)
  (dRet (dCall self (daCons (dOp (opV ixV) (dVar 0) (dOp (opV addV) (dC (.int 2)) (dOp (opV ixV) (dVar 1) (dOp (opV ixV) (dVar 0) (dC (.int 1)))))) (daCons (dVar 1) daNil)))))
def sp_L_answer (n : Nat) : DSp := fun ds M k => ∃ (m : Nat) (key : Tr) (bs : List Nat), ds = [.dat (encKey key), .dat (encBits bs)] ∧ Bits m bs ∧ CharLt m key ∧ key.depth ≤ n ∧ k (.dat (encNames (key.ans bs))) M
theorem rd_L_answer (n : Nat) : ∀ ds M k, sp_L_answer n ds M k → t_L_answer (spPrev sp_L_answer n) (rtE k) (startD ["_law_key_here", "_law_thing"] ds) M := by
  rintro _ M k ⟨m, key, bs, rfl, hb, hc, hn, h⟩
  cases key with
  | leaf ns => exact ⟨_, rfl, _, _, rfl, rfl, _, rfl, _, _, rfl, rfl, rfl, _, rfl, if_t rfl ⟨_, rfl, _, _, rfl, rfl, _, rfl, rt_same h⟩⟩
  | node c a b =>
    have hda : a.depth + 1 ≤ n ∧ b.depth + 1 ≤ n := by
      have : max a.depth b.depth + 1 ≤ n := hn
      omega
    obtain ⟨n, rfl⟩ : ∃ n', n = n' + 1 := ⟨n - 1, by omega⟩
    obtain ⟨v, hv, h01, hg⟩ := hb.at hc.1
    refine ⟨_, rfl, _, _, rfl, rfl, _, rfl, _, _, rfl, rfl, rfl, _, rfl, if_f rfl ?_⟩
    rcases h01 with rfl | rfl
    · have e : (Tr.node c a b).ans bs = a.ans bs := by rw [Tr.ans, if_pos hg]
      rw [e] at h
      refine ⟨_, rfl, _, rfl, _, rfl, _, _, rfl, rfl, _, rfl, _, _, rfl, rfl, _, bits_ix hv, _, _, rfl, rfl, _, _, rfl, rfl, _, rfl, _, rfl, ?_⟩
      exact ⟨m, a, bs, rfl, hb, hc.2.1, by omega, rt_same h⟩
    · have e : (Tr.node c a b).ans bs = b.ans bs := by rw [Tr.ans, if_neg (by rw [hg]; decide)]
      rw [e] at h
      refine ⟨_, rfl, _, rfl, _, rfl, _, _, rfl, rfl, _, rfl, _, _, rfl, rfl, _, bits_ix hv, _, _, rfl, rfl, _, _, rfl, rfl, _, rfl, _, rfl, ?_⟩
      exact ⟨m, b, bs, rfl, hb, hc.2.2, by omega, rt_same h⟩
end Ks

/-! Ks: what a law draws. -/
namespace Ks
open PySem PySem.Spec PyProof.Rows L2 Kf

/-! ### numbers -/
def t_L_cell : TDs := (dSeq (dIf (dB (dOp (opV ltV2) (dVar 1) (dCB lenP (daCons (dVar 0) daNil)))) (dRet (dOp ixScr (dVar 0) (dVar 1))) dNext)
  (dRet (dC (.int 0))))
def sp_L_cell : DSp := fun ds M k => ∃ (ns : List Int) (j : Nat), ds = [.scr ns, .dat (.int ((j : Nat) : Int))] ∧ k (.dat (.int (ns.getD j 0))) M
theorem rd_L_cell : ∀ ds M k, sp_L_cell ds M k → t_L_cell (rtE k) (startD ["_law_script", "_law_k"] ds) M := by
  rintro _ M k ⟨ns, j, rfl, h⟩
  refine ⟨_, rfl, _, rfl, _, .list (ns.map PyData.int), _, rfl, rfl, rfl, _, _, rfl, rfl, _, rfl, ?_⟩
  refine if_b (fun e => ?_) fun e => ?_
  · have e := of_decide_eq_true e
    rw [List.length_map] at e
    have e : j < ns.length := by omega
    refine ⟨_, rfl, _, rfl, ns, _, ns[j], rfl, rfl, atI_nat (List.getElem?_eq_getElem e), ?_⟩
    rw [List.getD_eq_getElem?_getD, List.getElem?_eq_getElem e] at h
    exact rt_same h
  · have e := of_decide_eq_false e
    rw [List.length_map] at e
    rw [List.getD_eq_getElem?_getD, List.getElem?_eq_none (by omega)] at h
    exact rt_same h
def mixA (i : Int) (j : Int) : Int := (i + 7919 * j + 1) * 48271 % 2147483647
def mixI (ns : List Int) (j : Nat) : Int := (mixA (ns.getD j 0) j * mixA (ns.getD j 0) j + 7 * mixA (ns.getD j 0) j + j) % 2147483629
def mixN (ns : List Int) (j : Nat) : Nat := (mixI ns j).toNat
theorem mix_eq (ns : List Int) (j : Nat) : mixI ns j = ((mixN ns j : Nat) : Int) := (Int.toNat_of_nonneg (Int.emod_nonneg _ (by decide))).symm
theorem mix_lt (ns : List Int) (j : Nat) : mixN ns j < 2147483629 := by
  have h1 := mix_eq ns j
  have h2 : mixI ns j < 2147483629 := Int.emod_lt_of_pos _ (by decide)
  omega
theorem p31 : (0 : Int) < 2147483647 := by decide
theorem p32 : (0 : Int) < 2147483629 := by decide
theorem p4 : (0 : Int) < 4 := by decide
theorem div_ok {i : Int} {n : Nat} (h : n ≤ 1000) : CDiv i (3 * (n : Int) + 1) := ⟨by omega, by omega⟩
theorem mixA_c (i j : Int) : -(2 ^ 64) < mixA i j ∧ mixA i j < 2 ^ 64 := by
  have h1 : 0 ≤ mixA i j := Int.emod_nonneg _ (by decide)
  have h2 : mixA i j < 2147483647 := Int.emod_lt_of_pos _ (by decide)
  omega
theorem mixA_b (i j : Int) : 0 ≤ mixA i j ∧ mixA i j < 2147483647 := ⟨Int.emod_nonneg _ (by decide), Int.emod_lt_of_pos _ (by decide)⟩
def t_L_mixed : TDs := (dSeq (dSet 2 (dOp (opV modI) (dOp (opV mulV) (dOp (opV addV) (dOp (opV addV) (dCall sp_L_cell (daCons (dVar 0) (daCons (dVar 1) daNil))) (dOp (opV mulV) (dC (.int 7919)) (dVar 1))) (dC (.int 1))) (dC (.int 48271))) (dC (.int 2147483647))))
  (dRet (dOp (opV modI) (dOp (opV addV) (dOp (opV addV) (dOp (opV mulV) (dVar 2) (dVar 2)) (dOp (opV mulV) (dC (.int 7)) (dVar 2))) (dVar 1)) (dC (.int 2147483629)))))
def sp_L_mixed : DSp := fun ds M k => ∃ (ns : List Int) (j : Nat), ds = [.scr ns, .dat (.int ((j : Nat) : Int))] ∧ k (.dat (.int ((mixN ns j : Nat) : Int))) M
theorem mulL' {i j : Int} (h : -(2 ^ 64) < i ∧ i < 2 ^ 64) : CMul i j := .inl h
theorem mulR' {i j : Int} (h : -(2 ^ 64) < j ∧ j < 2 ^ 64) : CMul i j := .inr h
theorem rd_L_mixed : ∀ ds M k, sp_L_mixed ds M k → t_L_mixed (rtE k) (startD ["_law_script", "_law_k", "_law_drawn_here"] ds) M := by
  rintro _ M k ⟨ns, j, rfl, h⟩
  refine ⟨_, rfl, _, rfl, ns, j, rfl, _, rfl, _, _, rfl, rfl, mulL' (by decide), _, _, rfl, rfl, _, _, rfl, rfl, _, _, rfl, rfl, mulR' (by decide), _, _, rfl, rfl, p31, ?_⟩
  refine ⟨_, rfl, _, rfl, _, _, rfl, rfl, mulL' (mixA_c (ns.getD j 0) j), _, rfl, _, _, rfl, rfl, mulL' (by decide), _, _, rfl, rfl, _, rfl, _, _, rfl, rfl, _, _, rfl, rfl, p32, ?_⟩
  have := mix_eq ns j
  rw [← this] at h
  exact rt_same h
def drawA (n : Nat) (j : Nat) : Int := ((n : Int) + 104729 * (j : Int) + 17) * 69621 % 2147483647
def drawI (n : Nat) (j : Nat) : Int := (drawA n j * drawA n j + 3 * drawA n j + j) % 2147483629
def drawN (n : Nat) (j : Nat) : Nat := (drawI n j).toNat
theorem draw_eq (n j : Nat) : drawI n j = ((drawN n j : Nat) : Int) := (Int.toNat_of_nonneg (Int.emod_nonneg _ (by decide))).symm
theorem drawA_c (n j : Nat) : -(2 ^ 64) < drawA n j ∧ drawA n j < 2 ^ 64 := by
  have h1 : 0 ≤ drawA n j := Int.emod_nonneg _ (by decide)
  have h2 : drawA n j < 2147483647 := Int.emod_lt_of_pos _ (by decide)
  omega
theorem drawA_b (n j : Nat) : 0 ≤ drawA n j ∧ drawA n j < 2147483647 := ⟨Int.emod_nonneg _ (by decide), Int.emod_lt_of_pos _ (by decide)⟩
def t_L_drawn : TDs := (dSeq (dSet 2 (dOp (opV modI) (dOp (opV mulV) (dOp (opV addV) (dOp (opV addV) (dVar 0) (dOp (opV mulV) (dC (.int 104729)) (dVar 1))) (dC (.int 17))) (dC (.int 69621))) (dC (.int 2147483647))))
  (dRet (dOp (opV modI) (dOp (opV addV) (dOp (opV addV) (dOp (opV mulV) (dVar 2) (dVar 2)) (dOp (opV mulV) (dC (.int 3)) (dVar 2))) (dVar 1)) (dC (.int 2147483629)))))
def sp_L_drawn : DSp := fun ds M k => ∃ (n j : Nat), ds = [.dat (.int ((n : Nat) : Int)), .dat (.int ((j : Nat) : Int))] ∧ k (.dat (.int ((drawN n j : Nat) : Int))) M
theorem rd_L_drawn : ∀ ds M k, sp_L_drawn ds M k → t_L_drawn (rtE k) (startD ["_law_number", "_law_k", "_law_drawn_here"] ds) M := by
  rintro _ M k ⟨n, j, rfl, h⟩
  refine ⟨_, rfl, _, rfl, _, _, rfl, rfl, mulL' (by decide), _, _, rfl, rfl, _, _, rfl, rfl, _, _, rfl, rfl, mulR' (by decide), _, _, rfl, rfl, p31, ?_⟩
  refine ⟨_, rfl, _, rfl, _, _, rfl, rfl, mulL' (drawA_c n j), _, rfl, _, _, rfl, rfl, mulL' (by decide), _, _, rfl, rfl, _, rfl, _, _, rfl, rfl, _, _, rfl, rfl, p32, ?_⟩
  rw [← draw_eq n j] at h
  exact rt_same h
/-! ### names -/
theorem nat_div (a b : Nat) : ((a : Nat) : Int) / ((b : Nat) : Int) = ((a / b : Nat) : Int) := rfl
theorem nat_mod (a b : Nat) : ((a : Nat) : Int) % ((b : Nat) : Int) = ((a % b : Nat) : Int) := rfl
def t_L_names : TDs := (dRet (dCB tupleP (daCons (dLc (diEnumT (daCons (dVar 1) daNil)) (.two 2 3) (dB (dOp (opR eqV2) (dOp (opV modI) (dOp (opV divI) (dVar 0) (dOp (opV addV) (dOp (opV mulV) (dC (.int 3)) (dVar 2)) (dC (.int 1)))) (dC (.int 4))) (dC (.int 0)))) (dVar 3)) daNil)))
def sp_L_names : DSp := fun ds M k => ∃ (n : Nat) (ws : List Str), ds = [.dat (.int ((n : Nat) : Int)), .dat (encNames ws)] ∧ ws.length ≤ 1000 ∧ ∀ sub : List Str, sub.Sublist ws → k (.dat (encNames sub)) M
theorem names_loop {n : Nat} {wsD : DV} {M : MS} {k : List PyData → MS → Prop} {x2 x3 : Option DV} : ∀ (l : List (Nat × Str)) (acc : List Str),
    acc.length + l.length ≤ 1000 → (∀ p, p ∈ l → p.1 ≤ 1000) → (∀ sub : List Str, sub.Sublist (l.map (·.2)) → k ((acc ++ sub).map PyData.str) M) →
    compD (.two 2 3) (dB (dOp (opR eqV2) (dOp (opV modI) (dOp (opV divI) (dVar 0) (dOp (opV addV) (dOp (opV mulV) (dC (.int 3)) (dVar 2)) (dC (.int 1)))) (dC (.int 4))) (dC (.int 0)))) (dVar 3) [some (.dat (.int ((n : Nat) : Int))), some wsD, x2, x3] none
      (l.map fun p => .tuple [.int ((p.1 : Nat) : Int), .str p.2]) (acc.map PyData.str) M k
  | [], acc, _, _, h => ⟨True.intro, by have := h [] .slnil; rw [List.append_nil] at this; exact this⟩
  | p :: l, acc, hl, hp, h => by
    rw [List.length_cons] at hl
    have hp1 := hp p List.mem_cons_self
    have hp' : ∀ q, q ∈ l → q.1 ≤ 1000 := fun q hq => hp q (List.mem_cons_of_mem _ hq)
    refine ⟨True.intro, _, rfl, ?_⟩
    refine ⟨_, rfl, _, rfl, _, _, rfl, rfl, mulL' (by decide), _, _, rfl, rfl, _, _, rfl, rfl, div_ok hp1, _, _, rfl, rfl, p4, _, _, rfl, rfl, rfl, _, rfl, ?_⟩
    refine if_b (fun _ => ?_) fun _ => ?_
    · refine ⟨_, rfl, _, rfl, by rw [List.length_map]; exact slt (by omega), ?_⟩
      have e : acc.map PyData.str ++ [PyData.str p.2] = (acc ++ [p.2]).map PyData.str := by rw [List.map_append]; rfl
      rw [e]
      refine names_loop l (acc ++ [p.2]) (by rw [List.length_append, List.length_singleton]; omega) hp' fun sub hs => ?_
      rw [List.append_assoc]
      exact h (p.2 :: sub) (.cons_cons _ hs)
    · exact names_loop l acc (by omega) hp' fun sub hs => h sub (.cons _ hs)
theorem enum_strs (ws : List Str) : enumD (ws.map PyData.str) = ((List.range ws.length).zip ws).map fun p => .tuple [.int ((p.1 : Nat) : Int), .str p.2] := by
  unfold enumD
  rw [List.length_map]
  refine List.ext_getElem (by simp) fun i h1 h2 => ?_
  simp only [List.length_map, List.length_range] at h1
  simp [h1]
theorem rd_L_names : ∀ ds M k, sp_L_names ds M k → t_L_names (rtE k) (startD ["_law_number", "_law_words_here", "_law_k", "_law_word"] ds) M := by
  rintro _ M k ⟨n, ws, rfl, hl, h⟩
  refine ⟨_, rfl, _, ws.map PyData.str, rfl, rfl, ?_⟩
  rw [enum_strs]
  refine names_loop (acc := []) _ ?_ (fun p hp => ?_) fun sub hs => ?_
  · simp; exact hl
  · have := (List.of_mem_zip hp).1
    rw [List.mem_range] at this
    omega
  · rw [List.map_snd_zip (by simp)] at hs
    exact ⟨_, rfl, .inl ⟨_, rfl, rt_same (h sub hs)⟩⟩
end Ks

/-! Ks: the words that a law draws. -/
namespace Ks
open PySem PySem.Spec PyProof.Rows L2 Kf

abbrev ABC : Str := "abcdefghijklmnopqrstuvwxyz"
def keptL : List Str := ["names", "ask", "end"]
def isL (w : Str) : Prop := ∀ c, c ∈ w.cps.toList → 97 ≤ c ∧ c ≤ 122
structure WordOk (w : Str) : Prop where
  abc : isL w
  pos : 1 ≤ w.length
  len : w.length ≤ 8
  not : w ∉ keptL
abbrev ltS (a b : Str) : Prop := a.cps.toList < b.cps.toList
/-- what a law draws its names from -/
structure WsOk (ws : List Str) : Prop where
  few : ws.length ≤ 6
  ok : ∀ w, w ∈ ws → WordOk w
  asc : ws.Pairwise ltS
theorem abc_at : ∀ j : Fin 26, ∃ c, ABC.cps.toList[j.1]? = some c ∧ 97 ≤ c ∧ c ≤ 122 := by
  intro j
  have h : ABC.cps.toList = (List.range 26).map (· + 97) := by decide
  rw [h]
  refine ⟨j.1 + 97, ?_, by omega, by omega⟩
  rw [List.getElem?_map, List.getElem?_range j.2]; rfl
theorem letter_at (d : Nat) : ∃ c, atI ABC.cps.toList ((d : Int) % 26) = some c ∧ 97 ≤ c ∧ c ≤ 122 := by
  obtain ⟨c, h1, h2⟩ := abc_at ⟨d % 26, Nat.mod_lt _ (by decide)⟩
  refine ⟨c, ?_, h2⟩
  have e : (d : Int) % 26 = ((d % 26 : Nat) : Int) := by omega
  rw [e]; exact atI_nat h1
theorem eqv_str (a b : Str) : PyData.eqv (.str a) (.str b) = decide (a = b) := by
  by_cases h : a = b <;> simp [PyData.eqv, h]
theorem kept_any (w : Str) : ([PyData.str "names", .str "ask", .str "end"].any fun z => PyData.eqv z (.str w)) = decide (w ∈ keptL) := by
  simp only [List.any_cons, List.any_nil, eqv_str, keptL, List.mem_cons, List.not_mem_nil, or_false, Bool.or_false]
  by_cases h1 : w = "names"
  · subst h1; simp
  by_cases h2 : w = "ask"
  · subst h2; simp
  by_cases h3 : w = "end"
  · subst h3; simp
  have a1 : ¬ ("names" : Str) = w := fun z => h1 z.symm
  have a2 : ¬ ("ask" : Str) = w := fun z => h2 z.symm
  have a3 : ¬ ("end" : Str) = w := fun z => h3 z.symm
  simp [h1, h2, h3, a1, a2, a3]
theorem isL.app {w v : Str} (h : isL w) (h2 : isL v) : isL (w ++ v) := fun c hc => by
  have e : (w ++ v).cps = w.cps ++ v.cps := rfl
  rw [e, Array.toList_append] at hc
  exact (List.mem_append.mp hc).elim (h c) (h2 c)
theorem len_app (w v : Str) : (w ++ v).length = w.length + v.length := by
  show (w.cps ++ v.cps).size = _
  rw [Array.size_append]; rfl
/-- the word that is kept apart from the kept ones -/
def apart (w : Str) : Str := w ++ Txt.mul "q" (if decide (w ∈ keptL) = true then 1 else 0)
theorem apart_ok {w : Str} (h : isL w) (h1 : 1 ≤ w.length) (h2 : w.length ≤ 8) : WordOk (apart w) := by
  unfold apart
  by_cases k : w ∈ keptL
  · rw [if_pos (decide_eq_true k)]
    have : w = "names" ∨ w = "ask" ∨ w = "end" := by simpa [keptL] using k
    have hq : ∀ u : Str, u ++ Txt.mul "q" 1 = ⟨u.cps ++ ("q" : Str).cps⟩ := fun u => rfl
    have hl : ∀ u : Str, isL u → isL (u ++ Txt.mul "q" 1) := fun u hu => hu.app (by unfold isL; decide)
    rcases this with rfl | rfl | rfl
    · exact ⟨hl _ h, by decide, by decide, by decide⟩
    · exact ⟨hl _ h, by decide, by decide, by decide⟩
    · exact ⟨hl _ h, by decide, by decide, by decide⟩
  · rw [if_neg (by rw [decide_eq_false k]; exact Bool.false_ne_true)]
    have e : w ++ Txt.mul "q" 0 = w := by
      show Str.mk (w.cps ++ #[]) = w
      rw [Array.append_empty]
    rw [e]
    exact ⟨h, h1, h2, k⟩
theorem mul_q (b : Bool) : MulOk "q" (if b = true then 1 else 0) := by
  cases b
  · exact ⟨by decide, fun h => absurd (by decide) h, fun h => absurd (by decide) h⟩
  · exact ⟨by decide, fun _ h => absurd h (by decide), fun _ h => absurd h (by decide)⟩
theorem range_nat (n : Nat) : rangeD 0 n = (List.range n).map fun i => .int ((i : Nat) : Int) := by
  unfold rangeD
  refine List.map_congr_left fun i _ => ?_
  rw [Int.zero_add]
def t_word : TDs := (dSet 5 (dOp (opV addV) (dVar 5) (dOp (opV ixV) (dVar 1) (dOp (opV modI) (dOp (opV divI) (dVar 4) (dOp (opV addV) (dOp (opV mulV) (dC (.int 31)) (dVar 6)) (dC (.int 29)))) (dC (.int 26))))))
def t_words_body : TDs := (dSeq (dSet 4 (dCall sp_L_drawn (daCons (dVar 0) (daCons (dVar 3) daNil))))
  (dSeq (dSet 5 (dOp (opV ixV) (dVar 1) (dOp (opV modI) (dVar 4) (dC (.int 26)))))
  (dSeq (dFor (diRange1 (daCons (dOp (opV mulV) (dOp (opV modI) (dOp (opV divI) (dVar 4) (dC (.int 26))) (dC (.int 8))) (dOp (opV modI) (dVar 0) (dC (.int 2)))) daNil)) (gdName 6) t_word)
  (dPutV (dVar 2) (dOp (opV addV) (dVar 5) (dOp (opV mulV) (dC (.str "q")) (dCB intP (daCons (dOp (opR (inV2 id)) (dVar 5) (dTup (daCons (dC (.str "names")) (daCons (dC (.str "ask")) (daCons (dC (.str "end")) daNil))))) daNil)))) (dC (.bool true))))))
def t_L_words : TDs := (dSeq (dSet 1 (dC (.str "abcdefghijklmnopqrstuvwxyz")))
  (dSeq (dSet 2 dDicV)
  (dSeq (dFor (diRange1 (daCons (dC (.int 6)) daNil)) (gdName 3) t_words_body)
  (dRet (dCB tupleP (daCons (dCB sortedDP (daCons (dVar 2) daNil)) daNil))))))
theorem p26 : (0 : Int) < 26 := by decide
theorem div31 {i : Int} {n : Nat} (h : n ≤ 1000) : CDiv i (31 * (n : Int) + 29) := ⟨by omega, by omega⟩
theorem nat_dm (d n : Nat) : ((d : Int) / (31 * (n : Int) + 29)) % 26 = (((d / (31 * n + 29) : Nat) : Int)) % 26 := by
  have : (31 * (n : Int) + 29) = ((31 * n + 29 : Nat) : Int) := by omega
  rw [this]; rfl
theorem word_loop {De : DEnds} {M : MS} {x0 x2 x3 : Option DV} {d : Nat} : ∀ (l : List Nat) (w : Str) (x6 : Option DV), (∀ i, i ∈ l → i ≤ 1000) → isL w → 1 ≤ w.length → w.length + l.length ≤ 8 →
    (∀ w' y6, isL w' → 1 ≤ w'.length → w'.length ≤ 8 → De.nx [x0, some (.dat (.str ABC)), x2, x3, some (.dat (.int ((d : Nat) : Int))), some (.dat (.str w')), y6] M) →
    forD (gdName 6) t_word De none (l.map fun i => .int ((i : Nat) : Int)) [x0, some (.dat (.str ABC)), x2, x3, some (.dat (.int ((d : Nat) : Int))), some (.dat (.str w)), x6] M
  | [], w, x6, _, h1, h2, h3, h => ⟨True.intro, h w x6 h1 h2 (by rw [List.length_nil] at h3; omega)⟩
  | i :: l, w, x6, hi, h1, h2, h3, h => by
    rw [List.length_cons] at h3
    obtain ⟨c, hc, hc2⟩ := letter_at (d / (31 * i + 29))
    rw [← nat_dm] at hc
    refine ⟨True.intro, ?_⟩
    refine ⟨_, rfl, _, rfl, _, rfl, _, rfl, _, _, rfl, rfl, mulL' (by decide), _, _, rfl, rfl, _, _, rfl, rfl, div31 (hi i List.mem_cons_self), _, _, rfl, rfl, p26, _, _, rfl, rfl, c, by decide, hc, ?_⟩
    have hl : (w ++ (⟨#[c]⟩ : Str)).length = w.length + 1 := len_app _ _
    refine ⟨_, _, rfl, rfl, Nat.le_of_lt (slt (show w.length + 1 < 1000000 by omega)), ?_⟩
    refine word_loop l (w ++ ⟨#[c]⟩) _ (fun j hj => hi j (List.mem_cons_of_mem _ hj)) (h1.app fun x hx => ?_) (by omega) (by omega) h
    have : x = c := by simpa using hx
    subst this; exact hc2
theorem strKeys_pk {x : Str} {v : PyData} : ∀ {kvs : List (Key × PyData)} {ks : List Str}, strKeys kvs = some ks → strKeys (pk kvs (.inr x) v) = some (if x ∈ ks then ks else ks ++ [x]) := by
  intro kvs ks h
  have isx : ∀ (kvs : List (Key × PyData)) (ks : List Str), strKeys kvs = some ks → ((lk kvs (.inr x)).isSome = true ↔ x ∈ ks) := by
    intro kvs
    induction kvs with
    | nil => intro ks h; cases h; simp [lk]
    | cons p r ih =>
      intro ks h
      obtain ⟨kk, vv⟩ := p
      cases kk with
      | inl i => cases h
      | inr y =>
        obtain ⟨ms, h1, rfl⟩ := Option.map_eq_some_iff.mp (show (strKeys r).map (y :: ·) = some ks from h)
        rw [lk_cons, List.mem_cons, ← ih ms h1]
        by_cases e : y = x
        · subst e; simp
        · have e1 : ¬ (Sum.inr y : Key) = Sum.inr x := fun z => e (Sum.inr.inj z)
          have e2 : ¬ x = y := fun z => e z.symm
          simp [e1, e2]
  unfold pk
  by_cases e : (lk kvs (.inr x)).isSome = true
  · rw [if_pos e, if_pos ((isx kvs ks h).mp e)]
    clear e
    induction kvs generalizing ks with
    | nil => exact h
    | cons p r ih =>
      obtain ⟨kk, vv⟩ := p
      cases kk with
      | inl i => cases h
      | inr y =>
        obtain ⟨ms, h1, rfl⟩ := Option.map_eq_some_iff.mp (show (strKeys r).map (y :: ·) = some ks from h)
        have := ih h1
        rw [List.map_cons]
        by_cases e : (Sum.inr y : Key) = Sum.inr x
        · simp only [e, if_true]
          cases e
          show (strKeys (List.map _ r)).map _ = _
          rw [this]; rfl
        · simp only [e, if_false]
          show (strKeys (List.map _ r)).map _ = _
          rw [this]; rfl
  · rw [if_neg e, if_neg fun z => e ((isx kvs ks h).mpr z)]
    clear e isx
    induction kvs generalizing ks with
    | nil => cases h; rfl
    | cons p r ih =>
      obtain ⟨kk, vv⟩ := p
      cases kk with
      | inl i => cases h
      | inr y =>
        obtain ⟨ms, h1, rfl⟩ := Option.map_eq_some_iff.mp (show (strKeys r).map (y :: ·) = some ks from h)
        show (strKeys (r ++ _)).map _ = _
        rw [ih h1]; rfl
theorem count_b (d n : Nat) : ((((d : Int) / 26) % 8) * ((n : Int) % 2)).toNat ≤ 7 ∧ 0 ≤ (((d : Int) / 26) % 8) * ((n : Int) % 2) ∧ (((d : Int) / 26) % 8) * ((n : Int) % 2) ≤ 7 := by
  have h : (n : Int) % 2 = 0 ∨ (n : Int) % 2 = 1 := by omega
  rcases h with h | h <;> rw [h] <;> omega
theorem cnt_b (d n : Nat) : -(2 ^ 62) ≤ (((d : Int) / 26) % 8) * ((n : Int) % 2) ∧ (((d : Int) / 26) % 8) * ((n : Int) % 2) < 2 ^ 62 := by
  have := count_b d n
  omega
theorem p8 : (0 : Int) < 8 := by decide
theorem p2 : (0 : Int) < 2 := by decide
theorem cdiv26 (i : Int) : CDiv i 26 := ⟨by omega, by omega⟩
theorem mul8 (i j : Int) : CMul (i % 8) j := .inl ⟨by omega, by omega⟩
theorem words_loop {De : DEnds} {M : MS} {a : Addr} {n : Nat} : ∀ (l : List Nat) (kvs : List (Key × PyData)) (ks : List Str) (x3 x4 x5 x6 : Option DV), (∀ i, i ∈ l → i ≤ 1000) → strKeys kvs = some ks → (∀ w, w ∈ ks → WordOk w) → ks.Nodup → ks.length + l.length ≤ 6 → kvs.length + l.length ≤ 6 →
    (∀ kvs' ks' y3 y4 y5 y6, strKeys kvs' = some ks' → (∀ w, w ∈ ks' → WordOk w) → ks'.Nodup → ks'.length ≤ 6 → De.nx [some (.dat (.int ((n : Nat) : Int))), some (.dat (.str ABC)), some (.ref a), y3, y4, y5, y6] (setM M a (.dicV kvs'))) →
    forD (gdName 3) t_words_body De none (l.map fun i => .int ((i : Nat) : Int)) [some (.dat (.int ((n : Nat) : Int))), some (.dat (.str ABC)), some (.ref a), x3, x4, x5, x6] (setM M a (.dicV kvs))
  | [], kvs, ks, x3, x4, x5, x6, _, h1, h2, h3, h4, _, h => ⟨True.intro, h kvs ks x3 x4 x5 x6 h1 h2 h3 (by rw [List.length_nil] at h4; omega)⟩
  | i :: l, kvs, ks, x3, x4, x5, x6, hi, h1, h2, h3, h4, h5, h => by
    rw [List.length_cons] at h4 h5
    obtain ⟨c, hc, hc2⟩ := letter_at (drawN n i)
    obtain ⟨b1, b2, b3⟩ := count_b (drawN n i) n
    refine ⟨True.intro, _, rfl, _, rfl, n, i, rfl, ?_⟩
    refine ⟨_, rfl, _, rfl, _, _, rfl, rfl, p26, _, _, rfl, rfl, c, by decide, hc, ?_⟩
    refine ⟨_, rfl, _, _, rfl, rfl, cdiv26 _, _, _, rfl, rfl, p8, _, rfl, _, _, rfl, rfl, p2, _, _, rfl, rfl, mul8 _ _, _, rfl, cnt_b (drawN n i) n, ?_⟩
    rw [range_nat]
    refine word_loop _ ⟨#[c]⟩ _ (fun j hj => ?_) (fun x hx => ?_) (Nat.le_refl 1) ?_ fun w' y6 g1 g2 g3 => ?_
    · have hj' : j < ((((drawN n i : Nat) : Int) / 26 % 8) * ((n : Int) % 2)).toNat := List.mem_range.mp hj
      omega
    · have : x = c := by simpa using hx
      subst this; exact hc2
    · rw [List.length_range]
      show 1 + ((((drawN n i : Nat) : Int) / 26 % 8) * ((n : Int) % 2)).toNat ≤ 8
      omega
    have hw := apart_ok g1 g2 g3
    have hlen : w'.length + (Txt.mul "q" (if decide (w' ∈ keptL) = true then 1 else 0)).length ≤ 8 := by
      have := hw.len
      unfold apart at this
      rw [len_app] at this
      exact this
    refine ⟨_, rfl, _, rfl, _, rfl, _, rfl, szb rfl, _, _, rfl, rfl, _, rfl, rfl, .inr ⟨_, rfl, ?_⟩⟩
    refine ⟨_, _, rfl, rfl, mul_q _, ?_⟩
    have e : (id ([PyData.str "names", .str "ask", .str "end"].any fun z => PyData.eqv z (.str w'))) = decide (w' ∈ keptL) := kept_any w'
    refine ⟨_, _, rfl, rfl, Nat.le_of_lt (slt ?_), a, kvs, _, _, _, rfl, setM_same, rfl, rfl, rfl, slt (by omega), ?_⟩
    · show w'.length + (Txt.mul "q" (if (id ([PyData.str "names", .str "ask", .str "end"].any fun z => PyData.eqv z (.str w'))) = true then 1 else 0)).length < _
      rw [e]; omega
    rw [setM_set]
    have hk := strKeys_pk (x := apart w') (v := .bool true) h1
    show forD _ _ _ _ _ _ (setM M a (.dicV (pk kvs (.inr (w' ++ Txt.mul "q" (if (id ([PyData.str "names", .str "ask", .str "end"].any fun z => PyData.eqv z (.str w'))) = true then 1 else 0))) (.bool true))))
    rw [e]
    have pl := pk_length (Sum.inr (apart w') : Key) (PyData.bool true) kvs
    by_cases hm : apart w' ∈ ks
    · rw [if_pos hm] at hk
      exact words_loop l _ ks _ _ _ _ (fun j hj => hi j (List.mem_cons_of_mem _ hj)) hk h2 h3 (by omega) (by show (pk kvs (Sum.inr (apart w')) _).length + _ ≤ 6; omega) h
    · rw [if_neg hm] at hk
      refine words_loop l _ (ks ++ [apart w']) _ _ _ _ (fun j hj => hi j (List.mem_cons_of_mem _ hj)) hk (fun w hw' => ?_) (nodup_snoc h3 hm) (by rw [List.length_append, List.length_singleton]; omega) (by show (pk kvs (Sum.inr (apart w')) _).length + _ ≤ 6; omega) h
      rcases List.mem_append.mp hw' with z | z
      · exact h2 w z
      · rw [List.mem_singleton] at z; subst z; exact hw
theorem ltCps_iff : ∀ a b : List Nat, ltCps a b = true ↔ a < b
  | [], [] => by simp [ltCps]
  | [], _ :: _ => by simp [ltCps]
  | _ :: _, [] => by simp [ltCps]
  | a :: r, b :: t => by
    rw [ltCps, List.cons_lt_cons_iff, ← ltCps_iff r t]
    simp
theorem rising_le : ∀ (l : List Str) (p : Str), risingS p l = true → (∀ y, y ∈ l → ¬ ltS y p) ∧ l.Pairwise fun a b => ¬ ltS b a
  | [], p, _ => ⟨fun y h => absurd h List.not_mem_nil, .nil⟩
  | x :: l, p, h => by
    have h' : (!ltCps x.cps.toList p.cps.toList && risingS x l) = true := h
    rw [Bool.and_eq_true] at h'
    have hx : ¬ ltS x p := fun z => by rw [(ltCps_iff _ _).mpr z] at h'; exact absurd h'.1 (by decide)
    obtain ⟨g1, g2⟩ := rising_le l x h'.2
    refine ⟨fun y hy => ?_, .cons (fun y hy => g1 y hy) g2⟩
    rcases List.mem_cons.mp hy with z | z
    · subst z; exact hx
    · intro q
      have le1 : p.cps.toList ≤ x.cps.toList := hx
      have le2 : x.cps.toList ≤ y.cps.toList := g1 y z
      exact List.not_lt.mpr (List.le_trans le1 le2) q
theorem asc_of {l : List Str} (h : sortedS l = true) (nd : l.Nodup) : l.Pairwise ltS := by
  cases l with
  | nil => exact .nil
  | cons x r =>
    obtain ⟨g1, g2⟩ := rising_le r x h
    have le : (x :: r).Pairwise fun a b => ¬ ltS b a := .cons g1 g2
    refine List.Pairwise.imp₂ (fun a b p q => ?_) le nd
    by_cases z : ltS a b
    · exact z
    · exact absurd (by
        have : a.cps.toList = b.cps.toList := List.le_antisymm (List.not_lt.mp p) (List.not_lt.mp z)
        cases a; cases b
        simp only at this
        rw [Array.toList_inj.mp this]) q
def sp_L_words : DSp := fun ds M k => ∃ (n : Nat), ds = [.dat (.int ((n : Nat) : Int))] ∧ ∀ ws : List Str, WsOk ws → k (.dat (encNames ws)) M
theorem rd_L_words : ∀ ds M k, sp_L_words ds M k → t_L_words (rtE k) (startD ["_law_number", "_law_letters", "_law_found", "_law_k", "_law_drawn_here", "_law_word", "_law_at_here"] ds) M := by
  rintro _ M k ⟨n, rfl, h⟩
  refine fun a ha => ⟨_, rfl, ⟨by decide, by decide⟩, ?_⟩
  show forD _ _ _ _ (rangeD 0 6) _ _
  rw [range_nat]
  refine words_loop _ [] [] _ _ _ _ (fun i hi => by rw [List.mem_range] at hi; omega) rfl (fun w hw => absurd hw List.not_mem_nil) List.nodup_nil (by decide) (by decide) fun kvs ks y3 y4 y5 y6 h1 h2 h3 h4 => ?_
  refine ⟨_, rfl, a, kvs, ks, rfl, setM_same, h1, by omega, fun ys hp hs => ?_⟩
  refine ⟨_, rfl, .inl ⟨_, rfl, rt_sub (sub_new ha) (h ys ⟨?_, fun w hw => h2 w (hp.mem_iff.mp hw), asc_of hs (hp.nodup_iff.mpr h3)⟩)⟩⟩
  rw [hp.length_eq]; exact h4
end Ks

/-! Ks: the key, the order, the things that a law draws. -/
namespace Ks
open PySem PySem.Spec PyProof.Rows L2 Kf

/-! ### keys -/
def NamesIn (ws : List Str) : Tr → Prop
  | .leaf ns => ns.Sublist ws
  | .node _ a b => NamesIn ws a ∧ NamesIn ws b
def t_L_key (self : DSp) : TDs := (dSeq (dIf (dOr (dB (dOp (opR eqV2) (dVar 3) (dC (.int 0)))) (dB (dOp (opR eqV2) (dOp (opV modI) (dVar 0) (dC (.int 7))) (dC (.int 0))))) (dRet (dTup (daCons (dC (.str "names")) (daCons (dCall sp_L_names (daCons (dOp (opV divI) (dVar 0) (dC (.int 7))) (daCons (dVar 1) daNil))) daNil)))) dNext)
  (dSeq (dSet 4 (dCall self (daCons (dCall sp_L_drawn (daCons (dVar 0) (daCons (dC (.int 1)) daNil))) (daCons (dVar 1) (daCons (dVar 2) (daCons (dOp (opV subV) (dVar 3) (dC (.int 1))) daNil))))))
  (dSeq (dSet 5 (dCall self (daCons (dCall sp_L_drawn (daCons (dVar 0) (daCons (dC (.int 2)) daNil))) (daCons (dVar 1) (daCons (dVar 2) (daCons (dOp (opV subV) (dVar 3) (dC (.int 1))) daNil))))))
  (dRet (dTup (daCons (dC (.str "ask")) (daCons (dOp (opV modI) (dOp (opV divI) (dVar 0) (dC (.int 7))) (dVar 2)) (daCons (dVar 4) (daCons (dVar 5) daNil)))))))))
def sp_L_key (n : Nat) : DSp := fun ds M k => ∃ (num m deep : Nat) (ws : List Str), ds = [.dat (.int ((num : Nat) : Int)), .dat (encNames ws), .dat (.int ((m : Nat) : Int)), .dat (.int ((deep : Nat) : Int))] ∧ 1 ≤ m ∧ deep ≤ n ∧ ws.length ≤ 1000 ∧
  ∀ key : Tr, CharLt m key → NamesIn ws key → key.depth ≤ deep → k (.dat (encKey key)) M
theorem p7 : (0 : Int) < 7 := by decide
theorem cdiv7 (i : Int) : CDiv i 7 := ⟨by omega, by omega⟩
theorem sub1 {d : Nat} {q : PyData → Prop} (h : q (.int ((d : Nat) : Int))) : subV (.int ((d + 1 : Nat) : Int)) (.int 1) q := by
  have es : (((d + 1 : Nat) : Int) - 1) = ((d : Nat) : Int) := by omega
  show q (.int _)
  rw [es]; exact h
theorem add1 {n : Nat} {q : PyData → Prop} (h : q (.int ((n + 1 : Nat) : Int))) : addV (.int (n : Int)) (.int 1) q := h
theorem modq {a n : Nat} {q : PyData → Prop} (hn : 0 < n) (h : q (.int ((a % n : Nat) : Int))) : modI (.int (a : Int)) (.int ((n : Nat) : Int)) q := ⟨by omega, h⟩
theorem rd_L_key (n : Nat) : ∀ ds M k, sp_L_key n ds M k → t_L_key (spPrev sp_L_key n) (rtE k) (startD ["_law_number", "_law_words_here", "_law_many", "_law_deep", "_law_no", "_law_yes"] ds) M := by
  rintro _ M k ⟨num, m, deep, ws, rfl, hm, hn, hl, h⟩
  have leaf : (dRet (dTup (daCons (dC (.str "names")) (daCons (dCall sp_L_names (daCons (dOp (opV divI) (dVar 0) (dC (.int 7))) (daCons (dVar 1) daNil))) daNil)))) (rtE k) (startD ["_law_number", "_law_words_here", "_law_many", "_law_deep", "_law_no", "_law_yes"] [.dat (.int ((num : Nat) : Int)), .dat (encNames ws), .dat (.int ((m : Nat) : Int)), .dat (.int ((deep : Nat) : Int))]) M := by
    refine ⟨_, rfl, _, _, rfl, rfl, cdiv7 _, _, rfl, num / 7, ws, rfl, hl, fun sub hs => ⟨_, rfl, szb rfl, rt_same ?_⟩⟩
    exact h (.leaf sub) True.intro hs (Nat.zero_le _)
  refine ⟨_, rfl, _, _, rfl, rfl, rfl, _, rfl, ?_⟩
  refine if_b (fun _ => if_t rfl leaf) fun e => ?_
  refine ⟨_, rfl, _, _, rfl, rfl, p7, _, _, rfl, rfl, rfl, _, rfl, ?_⟩
  refine if_b (fun _ => leaf) fun _ => ?_
  have hd : deep ≠ 0 := fun z => by subst z; cases e
  obtain ⟨d, rfl⟩ : ∃ d, deep = d + 1 := ⟨deep - 1, by omega⟩
  obtain ⟨n, rfl⟩ : ∃ z, n = z + 1 := ⟨n - 1, by omega⟩
  refine ⟨_, rfl, num, 1, rfl, _, rfl, _, rfl, _, rfl, _, _, rfl, rfl, sub1 ?_⟩
  refine ⟨_, m, d, ws, rfl, hm, by omega, hl, fun a a1 a2 a3 => ?_⟩
  refine ⟨_, rfl, num, 2, rfl, _, rfl, _, rfl, _, rfl, _, _, rfl, rfl, sub1 ?_⟩
  refine ⟨_, m, d, ws, rfl, hm, by omega, hl, fun b b1 b2 b3 => ?_⟩
  have hm' : 0 < (m : Int) := by omega
  refine ⟨_, rfl, _, _, rfl, rfl, cdiv7 _, _, rfl, _, _, rfl, rfl, hm', _, rfl, _, rfl, _, rfl, szb rfl, rt_same ?_⟩
  exact h (.node (num / 7 % m) a b) ⟨Nat.mod_lt _ hm, a1, b1⟩ ⟨a2, b2⟩ (by show max a.depth b.depth + 1 ≤ _; omega)
/-! ### orders -/
def t_order_body : TDs := (dSeq (dSet 4 (dOp (opV modI) (dCall sp_L_drawn (daCons (dVar 0) (daCons (dVar 3) daNil))) (dOp (opV addV) (dCB lenP (daCons (dVar 2) daNil)) (dC (.int 1)))))
  (dSet 2 (dOp (opV addV) (dOp (opV addV) (dSl (dVar 2) doNone (doSome (dVar 4))) (dLst (daCons (dVar 3) daNil))) (dSl (dVar 2) (doSome (dVar 4)) doNone))))
def t_L_order : TDs := (dSeq (dSet 2 (dLst daNil))
  (dSeq (dFor (diRange1 (daCons (dVar 1) daNil)) (gdName 3) t_order_body)
  (dRet (dCB tupOrdP (daCons (dVar 2) daNil)))))
def sp_L_order : DSp := fun ds M k => ∃ (num m : Nat), ds = [.dat (.int ((num : Nat) : Int)), .dat (.int ((m : Nat) : Int))] ∧ m ≤ 1000 ∧ ∀ ord : List Nat, ord.Perm (List.range m) → k (.dat (ordD (nz ord))) M
theorem cut_to {xs : List PyData} {j : Nat} (h : j ≤ xs.length) : cutL xs none (some (j : Int)) = xs.take j := by
  unfold cutL
  rw [HT.sIx_none, HT.sIx_nat, List.drop_zero, Nat.sub_zero, Nat.min_eq_left h]
theorem cut_from {xs : List PyData} {j : Nat} (h : j ≤ xs.length) : cutL xs (some (j : Int)) none = xs.drop j := by
  unfold cutL
  rw [HT.sIx_none, HT.sIx_nat, Nat.min_eq_left h]
  exact List.take_of_length_le (by rw [List.length_drop]; exact Nat.le_refl _)
theorem ixs_take (l : List Nat) (j : Nat) : (ixs l).take j = ixs (l.take j) := by unfold ixs; rw [List.map_take]
theorem ixs_drop (l : List Nat) (j : Nat) : (ixs l).drop j = ixs (l.drop j) := by unfold ixs; rw [List.map_drop]
theorem ixs_app (l l' : List Nat) : ixs l ++ ixs l' = ixs (l ++ l') := by unfold ixs; rw [List.map_append]
theorem nz_ints : ∀ l : List Nat, intsOf (ixs l) = some (nz l)
  | [] => rfl
  | x :: l => by
    show (intsOf (ixs l)).map _ = _
    rw [nz_ints l]; rfl
theorem order_loop {De : DEnds} {M : MS} {num : Nat} {xm : Option DV} : ∀ (l acc : List Nat) (x3 x4 : Option DV), acc.length + l.length ≤ 1000 →
    (∀ r y3 y4, r.Perm (acc ++ l) → De.nx [some (.dat (.int ((num : Nat) : Int))), xm, some (.dat (.list (ixs r))), y3, y4] M) →
    forD (gdName 3) t_order_body De none (l.map fun i => .int ((i : Nat) : Int)) [some (.dat (.int ((num : Nat) : Int))), xm, some (.dat (.list (ixs acc))), x3, x4] M
  | [], acc, x3, x4, _, h => ⟨True.intro, h acc x3 x4 (by rw [List.append_nil])⟩
  | i :: l, acc, x3, x4, hl, h => by
    rw [List.length_cons] at hl
    have hlen : (ixs acc).length = acc.length := ints_len acc
    refine ⟨True.intro, _, rfl, _, rfl, num, i, rfl, _, rfl, _, .list (ixs acc), _, rfl, rfl, rfl, _, _, rfl, rfl, add1 ⟨_, _, rfl, rfl, modq (Nat.succ_pos _) ?_⟩⟩
    have hj := Nat.le_of_lt_succ (Nat.mod_lt (drawN num i) (Nat.succ_pos (ixs acc).length))
    generalize drawN num i % ((ixs acc).length + 1) = j at hj ⊢
    refine ⟨_, rfl, _, rfl, _, rfl, _, rfl, ?_⟩
    have b1 : (cutL (ixs acc) none (some (j : Int))).length + [PyData.int ((i : Nat) : Int)].length ≤ sizeLine := by
      rw [cut_to hj, List.length_take, List.length_singleton]
      exact Nat.le_of_lt (slt (by omega))
    refine ⟨_, rfl, _, rfl, szb rfl, _, _, rfl, rfl, b1, ?_⟩
    have b2 : (cutL (ixs acc) none (some (j : Int)) ++ [PyData.int ((i : Nat) : Int)]).length + (cutL (ixs acc) (some (j : Int)) none).length ≤ sizeLine := by
      rw [cut_to hj, cut_from hj, List.length_append, List.length_take, List.length_drop, List.length_singleton]
      exact Nat.le_of_lt (slt (by omega))
    refine ⟨_, rfl, _, rfl, _, rfl, _, rfl, _, _, rfl, rfl, b2, ?_⟩
    have e : cutL (ixs acc) none (some (j : Int)) ++ [PyData.int ((i : Nat) : Int)] ++ cutL (ixs acc) (some (j : Int)) none = ixs (acc.take j ++ [i] ++ acc.drop j) := by
      rw [cut_to hj, cut_from hj, ixs_take, ixs_drop, ints_snoc, ixs_app]
    rw [e]
    refine order_loop l (acc.take j ++ [i] ++ acc.drop j) _ _ ?_ fun r y3 y4 hr => h r y3 y4 (hr.trans ?_)
    · rw [List.length_append, List.length_append, List.length_take, List.length_drop, List.length_singleton]; omega
    · rw [List.append_assoc, List.append_assoc]
      refine (List.perm_append_comm_assoc _ _ _).trans ?_
      rw [← List.append_assoc (List.take j acc), List.take_append_drop]
      exact List.perm_append_comm_assoc _ _ _
theorem rd_L_order : ∀ ds M k, sp_L_order ds M k → t_L_order (rtE k) (startD ["_law_number", "_law_many", "_law_found", "_law_k", "_law_at_here"] ds) M := by
  rintro _ M k ⟨num, m, rfl, hm, h⟩
  refine ⟨[], rfl, szb rfl, _, rfl, _, rfl, ⟨by omega, by omega⟩, ?_⟩
  rw [range_nat]
  refine order_loop _ [] _ _ (by rw [List.length_range, List.length_nil, Int.toNat_natCast]; omega) fun r y3 y4 hr => ?_
  rw [List.nil_append, Int.toNat_natCast] at hr
  exact ⟨_, rfl, _, _, nz r, rfl, rfl, nz_ints r, rt_same (h r hr)⟩
/-! ### things -/
def gen : Nat → List (List Nat)
  | 0 => [[]]
  | n + 1 => (gen n).map (· ++ [0]) ++ (gen n).map (· ++ [1])
/-- all things, the least one first -/
def allT : Nat → List (List Nat)
  | 0 => [[]]
  | n + 1 => (allT n).map (0 :: ·) ++ (allT n).map (1 :: ·)
theorem mem_allT : ∀ (n : Nat) (bs : List Nat), bs ∈ allT n ↔ Bits n bs
  | 0, bs => by
    rw [allT, List.mem_singleton]
    constructor
    · rintro rfl; exact ⟨rfl, fun b h => absurd h List.not_mem_nil⟩
    · exact fun h => List.eq_nil_of_length_eq_zero h.1
  | n + 1, bs => by
    rw [allT, List.mem_append, List.mem_map, List.mem_map]
    constructor
    · rintro (⟨x, hx, rfl⟩ | ⟨x, hx, rfl⟩) <;> have hx := (mem_allT n x).mp hx
      · exact ⟨by rw [List.length_cons, hx.1], fun b hb => by
          rcases List.mem_cons.mp hb with z | z
          · exact .inl z
          · exact hx.2 b z⟩
      · exact ⟨by rw [List.length_cons, hx.1], fun b hb => by
          rcases List.mem_cons.mp hb with z | z
          · exact .inr z
          · exact hx.2 b z⟩
    · intro h
      cases bs with
      | nil => cases h.1
      | cons b r =>
        have hr : r ∈ allT n := (mem_allT n r).mpr ⟨Nat.succ.inj h.1, fun x hx => h.2 x (List.mem_cons_of_mem _ hx)⟩
        rcases h.2 b List.mem_cons_self with rfl | rfl
        · exact .inl ⟨r, hr, rfl⟩
        · exact .inr ⟨r, hr, rfl⟩
theorem mem_gen : ∀ (n : Nat) (bs : List Nat), bs ∈ gen n ↔ Bits n bs
  | 0, bs => by
    rw [gen, List.mem_singleton]
    constructor
    · rintro rfl; exact ⟨rfl, fun b h => absurd h List.not_mem_nil⟩
    · exact fun h => List.eq_nil_of_length_eq_zero h.1
  | n + 1, bs => by
    rw [gen, List.mem_append, List.mem_map, List.mem_map]
    constructor
    · rintro (⟨x, hx, rfl⟩ | ⟨x, hx, rfl⟩) <;> have hx := (mem_gen n x).mp hx
      · exact ⟨by rw [List.length_append, hx.1]; rfl, fun b hb => by
          rcases List.mem_append.mp hb with z | z
          · exact hx.2 b z
          · exact .inl (List.mem_singleton.mp z)⟩
      · exact ⟨by rw [List.length_append, hx.1]; rfl, fun b hb => by
          rcases List.mem_append.mp hb with z | z
          · exact hx.2 b z
          · exact .inr (List.mem_singleton.mp z)⟩
    · intro h
      have hn : bs ≠ [] := fun z => by subst z; cases h.1
      have e := List.dropLast_concat_getLast hn
      have hr : bs.dropLast ∈ gen n := (mem_gen n _).mpr ⟨by rw [List.length_dropLast, h.1]; rfl, fun x hx => h.2 x (List.dropLast_subset bs hx)⟩
      rcases h.2 _ (List.getLast_mem hn) with z | z
      · exact .inl ⟨_, hr, by rw [z] at e; exact e⟩
      · exact .inr ⟨_, hr, by rw [z] at e; exact e⟩
theorem map_nodup {α β : Type} {f : α → β} (hf : ∀ x y, f x = f y → x = y) {l : List α} (h : l.Nodup) : (l.map f).Nodup :=
  List.pairwise_map.mpr (List.Pairwise.imp (fun hab e => hab (hf _ _ e)) h)
theorem gen_nodup : ∀ n, (gen n).Nodup
  | 0 => by rw [gen]; simp
  | n + 1 => by
    rw [gen]
    refine List.nodup_append.mpr ⟨map_nodup (fun x y e => (List.append_inj' e rfl).1) (gen_nodup n), map_nodup (fun x y e => (List.append_inj' e rfl).1) (gen_nodup n), ?_⟩
    intro a ha b hb e
    obtain ⟨x, _, rfl⟩ := List.mem_map.mp ha
    obtain ⟨y, _, rfl⟩ := List.mem_map.mp hb
    cases (List.append_inj' e rfl).2
theorem allT_nodup : ∀ n, (allT n).Nodup
  | 0 => by rw [allT]; simp
  | n + 1 => by
    rw [allT]
    refine List.nodup_append.mpr ⟨map_nodup (fun x y e => (List.cons.inj e).2) (allT_nodup n), map_nodup (fun x y e => (List.cons.inj e).2) (allT_nodup n), ?_⟩
    intro a ha b hb e
    obtain ⟨x, _, rfl⟩ := List.mem_map.mp ha
    obtain ⟨y, _, rfl⟩ := List.mem_map.mp hb
    cases (List.cons.inj e).1
theorem gen_len : ∀ n, (gen n).length = 2 ^ n
  | 0 => rfl
  | n + 1 => by rw [gen, List.length_append, List.length_map, List.length_map, gen_len n, Nat.pow_succ]; omega
abbrev Tok1 := Int ⊕ List Nat
def tk : List Nat → List Tok1
  | [] => [.inl 0]
  | b :: r => .inl 1 :: .inl (b : Nat) :: tk r
theorem tk_eq : ∀ bs : List Nat, PySem.W.keyToks (encBits bs) = tk bs := by
  have h : ∀ bs : List Nat, PySem.W.keyToksAll (bs.map fun b => PyData.int ((b : Nat) : Int)) = tk bs := by
    intro bs
    induction bs with
    | nil => simp [PySem.W.keyToksAll, tk]
    | cons b r ih => rw [List.map_cons, PySem.W.keyToksAll, ih]; simp [PySem.W.keyToks, tk]
  intro bs
  show PySem.W.keyToks (.tuple _) = _
  rw [PySem.W.keyToks]; exact h bs
theorem tk_inj : ∀ {a b : List Nat}, tk a = tk b → a = b
  | [], [], _ => rfl
  | [], b :: r, h => by simp [tk] at h
  | a :: r, [], h => by simp [tk] at h
  | a :: r, b :: s, h => by
    simp only [tk, List.cons.injEq, true_and, Sum.inl.injEq] at h
    rw [Int.ofNat.inj h.1, tk_inj h.2]
abbrev lx := PyProof.Rows.lexLt PyProof.Rows.itemOrd
theorem lx_self (x : Tok1) (a b : List Tok1) : lx (x :: a) (x :: b) = lx a b := PyProof.Rows.lex_self (O := PyProof.Rows.itemOrd) x a b
theorem allT_asc : ∀ n, (allT n).Pairwise fun a b => lx (tk a) (tk b) = true
  | 0 => by rw [allT]; exact List.pairwise_singleton _ _
  | n + 1 => by
    rw [allT]
    refine List.pairwise_append.mpr ⟨List.pairwise_map.mpr (List.Pairwise.imp (fun h => ?_) (allT_asc n)), List.pairwise_map.mpr (List.Pairwise.imp (fun h => ?_) (allT_asc n)), ?_⟩
    · rw [tk, tk, lx_self, lx_self]; exact h
    · rw [tk, tk, lx_self, lx_self]; exact h
    · intro a ha b hb
      obtain ⟨x, _, rfl⟩ := List.mem_map.mp ha
      obtain ⟨y, _, rfl⟩ := List.mem_map.mp hb
      rw [tk, tk, lx_self]
      rfl
theorem things_sorted (n : Nat) : ((gen n).map encBits).mergeSort (PySem.W.dataLe false id) = (allT n).map encBits := by
  have T := PySem.W.sortLe_total (PyProof.Rows.listOrd PyProof.Rows.itemOrd) false fun b : PyData => PySem.W.keyToks b
  have hp : ((gen n).map encBits).Perm ((allT n).map encBits) := ((List.perm_ext_iff_of_nodup (gen_nodup n) (allT_nodup n)).mpr fun bs => (mem_gen n bs).trans (mem_allT n bs).symm).map _
  refine List.Perm.eq_of_pairwise (le := fun a b => PySem.W.dataLe false id a b = true) (fun a b ha hb h1 h2 => ?_) (List.pairwise_mergeSort T.trans (fun a b => by
    rcases T.total a b with z | z
    · rw [z]; rfl
    · rw [z, Bool.or_true]) _) ?_ ((List.mergeSort_perm _ _).trans hp)
  · obtain ⟨x, _, rfl⟩ := List.mem_map.mp (hp.mem_iff.mp ((List.mergeSort_perm _ _).mem_iff.mp ha))
    obtain ⟨y, _, rfl⟩ := List.mem_map.mp hb
    have h1 : (!lx (PySem.W.keyToks (encBits y)) (PySem.W.keyToks (encBits x))) = true := h1
    have h2 : (!lx (PySem.W.keyToks (encBits x)) (PySem.W.keyToks (encBits y))) = true := h2
    rw [tk_eq, tk_eq] at h1 h2
    have e := PyProof.Rows.lex_total (O := PyProof.Rows.itemOrd) (tk x) (tk y) (by simpa using h2) (by simpa using h1)
    rw [tk_inj e]
  · refine List.pairwise_map.mpr (List.Pairwise.imp (fun {a b} h => ?_) (allT_asc n))
    show (!lx (PySem.W.keyToks (encBits b)) (PySem.W.keyToks (encBits a))) = true
    rw [tk_eq, tk_eq]
    cases e : lx (tk b) (tk a) with
    | false => rfl
    | true =>
      have := PyProof.Rows.lex_trans (O := PyProof.Rows.itemOrd) _ _ _ h e
      rw [PyProof.Rows.lex_irrefl] at this; cases this
theorem bits_alike : ∀ (a b : List Nat), PySem.W.alike (encBits a) (encBits b) = true := by
  have h : ∀ a b : List Nat, PySem.W.alikeAll (a.map fun b => PyData.int ((b : Nat) : Int)) (b.map fun b => PyData.int ((b : Nat) : Int)) = true := by
    intro a
    induction a with
    | nil => intro b; simp [PySem.W.alikeAll]
    | cons x r ih =>
      intro b
      cases b with
      | nil => simp [PySem.W.alikeAll]
      | cons y s => rw [List.map_cons, List.map_cons, PySem.W.alikeAll, ih s]; simp [PySem.W.alike]
  intro a b
  show PySem.W.alike (.tuple _) (.tuple _) = true
  rw [PySem.W.alike]; exact h a b
theorem bits_nd : ∀ bs : List Nat, noDict (encBits bs) = true := by
  intro bs
  show noDict (.tuple _) = true
  rw [noDict]
  induction bs with
  | nil => rfl
  | cons b r ih => rw [List.map_cons, noDicts, ih]; rfl
theorem nds_of : ∀ {ds : List PyData}, (∀ d, d ∈ ds → noDict d = true) → noDicts ds = true
  | [], _ => rfl
  | d :: ds, h => by rw [noDicts, h d List.mem_cons_self, nds_of fun x hx => h x (List.mem_cons_of_mem _ hx)]; rfl
theorem bits_depth (bs : List Nat) : (encBits bs).depth ≤ 60 := by
  have h : ∀ bs : List Nat, PyData.depthAll (bs.map fun b => PyData.int ((b : Nat) : Int)) ≤ 1 := by
    intro bs
    induction bs with
    | nil => simp [PyData.depthAll]
    | cons b r ih => rw [List.map_cons, PyData.depthAll]; simp [PyData.depth]; omega
  have := h bs
  show PyData.depth (.tuple _) ≤ 60
  rw [PyData.depth]
  omega
theorem app_bits (bs : List Nat) (v : Nat) : encBits (bs ++ [v]) = .tuple (bs.map (fun b => PyData.int ((b : Nat) : Int)) ++ [.int ((v : Nat) : Int)]) := by
  unfold encBits; rw [List.map_append]; rfl
def t_L_things : TDs := (dSeq (dSet 1 (dLst (daCons (dTup daNil) daNil)))
  (dSeq (dFor (diRange1 (daCons (dVar 0) daNil)) (gdName 2) (dSet 1 (dOp (opV addV) (dLc (diSeq (dVar 1)) (.one 3) dYes (dOp (opV addV) (dVar 3) (dTup (daCons (dC (.int 0)) daNil)))) (dLc (diSeq (dVar 1)) (.one 3) dYes (dOp (opV addV) (dVar 3) (dTup (daCons (dC (.int 1)) daNil)))))))
  (dRet (dCB sortedP (daCons (dVar 1) daNil)))))
theorem comp_bits {v n : Nat} {M : MS} {k : List PyData → MS → Prop} {x0 x1 x2 : Option DV} : ∀ (l : List (List Nat)) (acc : List PyData) (x3 : Option DV), (∀ bs, bs ∈ l → bs.length ≤ 1000) → acc.length + l.length ≤ 100000 → k (acc ++ (l.map (· ++ [v])).map encBits) M →
    compD (.one 3) dYes (dOp (opV addV) (dVar 3) (dTup (daCons (dC (.int ((v : Nat) : Int))) daNil))) [x0, x1, x2, x3] none (l.map encBits) acc M k
  | [], acc, x3, _, _, h => ⟨True.intro, by rw [List.map_nil, List.map_nil, List.append_nil] at h; exact h⟩
  | bs :: l, acc, x3, hb, hl, h => by
    rw [List.length_cons] at hl
    have hb1 := hb bs List.mem_cons_self
    refine ⟨True.intro, _, rfl, ?_⟩
    unfold dYes
    refine if_t rfl ?_
    refine ⟨_, rfl, _, rfl, szb rfl, _, _, rfl, rfl, ?_, _, rfl, slt (by omega), ?_⟩
    · rw [List.length_map]; exact Nat.le_of_lt (slt (show bs.length + 1 < _ by omega))
    refine comp_bits (n := n) l _ _ (fun b h => hb b (List.mem_cons_of_mem _ h)) (by rw [List.length_append]; show acc.length + 1 + _ ≤ _; omega) ?_
    rw [List.append_assoc]
    rw [List.map_cons, List.map_cons, app_bits] at h
    exact h
theorem things_loop {De : DEnds} {M : MS} {x0 : Option DV} : ∀ (l : List Nat) (n : Nat) (x2 x3 : Option DV), n + l.length ≤ 10 →
    (∀ y2 y3, De.nx [x0, some (.dat (.list ((gen (n + l.length)).map encBits))), y2, y3] M) →
    forD (gdName 2) (dSet 1 (dOp (opV addV) (dLc (diSeq (dVar 1)) (.one 3) dYes (dOp (opV addV) (dVar 3) (dTup (daCons (dC (.int 0)) daNil)))) (dLc (diSeq (dVar 1)) (.one 3) dYes (dOp (opV addV) (dVar 3) (dTup (daCons (dC (.int 1)) daNil)))))) De none (l.map fun i => .int ((i : Nat) : Int)) [x0, some (.dat (.list ((gen n).map encBits))), x2, x3] M
  | [], n, x2, x3, _, h => ⟨True.intro, h x2 x3⟩
  | i :: l, n, x2, x3, hl, h => by
    rw [List.length_cons] at hl
    have hg := gen_len n
    have h3 : 2 ^ n ≤ 2 ^ 10 := Nat.pow_le_pow_right (by decide) (by omega)
    have h4 : (2 : Nat) ^ 10 = 1024 := rfl
    have hb : ∀ bs, bs ∈ gen n → bs.length ≤ 1000 := fun bs hbs => by have := ((mem_gen n bs).mp hbs).1; omega
    refine ⟨True.intro, _, rfl, .inl ⟨_, rfl, ?_⟩⟩
    refine comp_bits (n := n) (v := 0) (gen n) [] _ hb (by rw [List.length_nil]; omega) ?_
    refine ⟨_, rfl, .inl ⟨_, rfl, ?_⟩⟩
    refine comp_bits (n := n) (v := 1) (gen n) [] _ hb (by rw [List.length_nil]; omega) ?_
    refine ⟨_, _, rfl, rfl, ?_, ?_⟩
    · simp only [List.nil_append, List.length_map]; exact Nat.le_of_lt (slt (by omega))
    rw [List.nil_append, List.nil_append, ← List.map_append]
    refine things_loop l (n + 1) _ _ (by omega) fun y2 y3 => ?_
    have := h y2 y3
    rw [List.length_cons, show n + (l.length + 1) = n + 1 + l.length by omega] at this
    exact this
def sp_L_things : DSp := fun ds M k => ∃ (m : Nat), ds = [.dat (.int ((m : Nat) : Int))] ∧ 1 ≤ m ∧ m ≤ 10 ∧ k (.dat (.list ((allT m).map encBits))) M
theorem rd_L_things : ∀ ds M k, sp_L_things ds M k → t_L_things (rtE k) (startD ["_law_many", "_law_found", "_law_k", "_law_thing"] ds) M := by
  rintro _ M k ⟨m, rfl, h1, h2, h⟩
  refine ⟨_, rfl, szb rfl, _, rfl, szb rfl, _, rfl, _, rfl, ⟨by omega, by omega⟩, ?_⟩
  rw [range_nat, Int.toNat_natCast]
  refine things_loop (List.range m) 0 _ _ (by rw [List.length_range]; omega) fun y2 y3 => ?_
  rw [List.length_range, Nat.zero_add]
  have hg := gen_len m
  have h3 : 2 ^ m ≤ 2 ^ 10 := Nat.pow_le_pow_right (by decide) h2
  have h4 : (2 : Nat) ^ 10 = 1024 := rfl
  refine ⟨_, rfl, _, _, rfl, rfl, nds_of fun d hd => ?_, fun d hd e he => ?_, .inl fun d hd => ?_, ?_, fun d hd => ?_, ?_⟩
  · obtain ⟨x, _, rfl⟩ := List.mem_map.mp hd; exact bits_nd x
  · obtain ⟨x, _, rfl⟩ := List.mem_map.mp hd
    obtain ⟨y, _, rfl⟩ := List.mem_map.mp he
    exact bits_alike x y
  · obtain ⟨x, hx, rfl⟩ := List.mem_map.mp hd
    have hx := ((mem_gen m x).mp hx).1
    cases x with
    | nil => rw [List.length_nil] at hx; omega
    | cons b r => exact ⟨_, _, rfl⟩
  · rw [List.length_map]; exact Nat.le_of_lt (slt (by omega))
  · obtain ⟨x, _, rfl⟩ := List.mem_map.mp hd; exact bits_depth x
  · rw [things_sorted]; exact rt_same h
/-! ### what a law makes -/
def t_L_made : TDs := (dSeq (dSet 2 (dOp (opV addV) (dC (.int 1)) (dOp (opV modI) (dCall sp_L_mixed (daCons (dVar 0) (daCons (dC (.int 0)) daNil))) (dVar 1))))
  (dSeq (dSet 3 (dCall sp_L_words (daCons (dCall sp_L_mixed (daCons (dVar 0) (daCons (dC (.int 1)) daNil))) daNil)))
  (dSeq (dSet 4 (dCall (sp_L_key 5) (daCons (dCall sp_L_mixed (daCons (dVar 0) (daCons (dC (.int 2)) daNil))) (daCons (dVar 3) (daCons (dVar 2) (daCons (dOp (opV addV) (dC (.int 1)) (dOp (opV modI) (dCall sp_L_mixed (daCons (dVar 0) (daCons (dC (.int 3)) daNil))) (dC (.int 5)))) daNil))))))
  (dRet (dTup (daCons (dVar 2) (daCons (dVar 3) (daCons (dVar 4) (daCons (dCall sp_L_order (daCons (dCall sp_L_mixed (daCons (dVar 0) (daCons (dC (.int 4)) daNil))) (daCons (dVar 2) daNil))) daNil)))))))))
def sp_L_made : DSp := fun ds M k => ∃ (ns : List Int) (most : Nat), ds = [.scr ns, .dat (.int ((most : Nat) : Int))] ∧ 1 ≤ most ∧ most ≤ 10 ∧
  ∀ (m : Nat) (ws : List Str) (key : Tr) (ord : List Nat), 1 ≤ m → m ≤ most → WsOk ws → CharLt m key → NamesIn ws key → key.depth ≤ 5 → ord.Perm (List.range m) → k (.dat (.tuple [.int ((m : Nat) : Int), encNames ws, encKey key, ordD (nz ord)])) M
theorem add1' {n : Nat} {q : PyData → Prop} (h : q (.int ((n + 1 : Nat) : Int))) : addV (.int 1) (.int (n : Int)) q := by
  show q (.int (1 + (n : Int)))
  rw [show (1 + (n : Int)) = ((n + 1 : Nat) : Int) by omega]; exact h
theorem p5 : (0 : Int) < 5 := by decide
theorem modq5 {a : Nat} {q : PyData → Prop} (h : q (.int ((a % 5 : Nat) : Int))) : modI (.int (a : Int)) (.int 5) q := ⟨p5, h⟩
theorem rd_L_made : ∀ ds M k, sp_L_made ds M k → t_L_made (rtE k) (startD ["_law_script", "_law_most", "_law_many", "_law_words_here", "_law_key_here"] ds) M := by
  rintro _ M k ⟨ns, most, rfl, hm, hm2, h⟩
  refine ⟨_, rfl, ns, 0, rfl, _, rfl, _, _, rfl, rfl, modq hm ⟨_, _, rfl, rfl, add1' ?_⟩⟩
  have h1 := Nat.mod_lt (mixN ns 0) hm
  generalize mixN ns 0 % most = j at h1 ⊢
  refine ⟨_, rfl, ns, 1, rfl, _, rfl, fun ws hw => ?_⟩
  refine ⟨_, rfl, ns, 2, rfl, _, rfl, _, rfl, _, rfl, ns, 3, rfl, _, _, rfl, rfl, modq5 ⟨_, _, rfl, rfl, add1' ?_⟩⟩
  have h2 := Nat.mod_lt (mixN ns 3) (show 0 < 5 by decide)
  have hf := hw.few
  refine ⟨_, j + 1, _, ws, rfl, by omega, by omega, by omega, fun key k1 k2 k3 => ?_⟩
  refine ⟨_, rfl, _, rfl, _, rfl, _, rfl, ns, 4, rfl, _, rfl, _, j + 1, rfl, by omega, fun ord ho => ⟨_, rfl, szb rfl, rt_same ?_⟩⟩
  exact h (j + 1) ws key ord (by omega) (by omega) hw k1 k2 (by omega) ho
end Ks

/-! Ks: the law of answers. -/
namespace Ks
open PySem PySem.Spec PyProof.Rows L2 Kf

def t_k10_for : TDs := (dFor (diRange1 (daCons (dC (.int 7)) daNil)) (gdName 5) (dSet 3 (dOp (opV ixV) (dLst (daCons (dTup (daCons (dC (.str "ask")) (daCons (dOp (opV modI) (dVar 5) (dVar 1)) (daCons (dVar 3) (daCons (dTup (daCons (dC (.str "names")) (daCons (dTup daNil) daNil))) daNil))))) (daCons (dTup (daCons (dC (.str "ask")) (daCons (dOp (opV modI) (dVar 5) (dVar 1)) (daCons (dTup (daCons (dC (.str "names")) (daCons (dSl (dVar 2) doNone (doSome (dC (.int 1)))) daNil))) (daCons (dVar 3) daNil))))) daNil))) (dOp (opV modI) (dVar 5) (dC (.int 2))))))
def t_k10_body : TDs := (dSeq (dSet 8 (dCall sp_answer (daCons (dVar 3) (daCons (dVar 7) daNil))))
  (dSeq (dSet 9 (dCall sp_answer_of (daCons (dVar 6) (daCons (dVar 7) daNil))))
  (dSeq (dIf (dOr (dNot (dB (dIsi "tuple" (dVar 8)))) (dOr (dB (dOp (opR neV2) (dVar 8) (dCall (sp_L_answer 12) (daCons (dVar 3) (daCons (dVar 7) daNil))))) (dB (dOp (opR neV2) (dCall sp_answer (daCons (dVar 3) (daCons (dVar 7) daNil))) (dVar 8))))) (dRet (dC (.bool false))) dNext)
  (dIf (dOr (dNot (dB (dIsi "tuple" (dVar 9)))) (dB (dOp (opR neV2) (dVar 9) (dCall sp_answer_of (daCons (dVar 6) (daCons (dVar 7) daNil)))))) (dRet (dC (.bool false))) dNext))))
def t_law_k10 (C : Addr) : TDs := (dSeq (dAsg (dCall sp_L_made (daCons (dVar 0) (daCons (dC (.int 7)) daNil))) (gdTup 4 (gdCons (gdName 1) (gdCons (gdName 2) (gdCons (gdName 3) (gdCons (gdName 4) gdNil))))))
  (dSeq (dIf (dB (dOp (opR eqV2) (dOp (opV modI) (dCall sp_L_mixed (daCons (dVar 0) (daCons (dC (.int 5)) daNil))) (dC (.int 8))) (dC (.int 1)))) t_k10_for dNext)
  (dSeq (dSet 6 (dCall (sp_folded C 12) (daCons (dVar 3) (daCons (dVar 4) daNil))))
  (dSeq (dFor (diSeq (dCall sp_L_things (daCons (dVar 1) daNil))) (gdName 7) t_k10_body)
  (dRet (dC (.bool true)))))))
/-- of all names of the leaves -/
def Tr.allL (P : List Str → Prop) : Tr → Prop
  | .leaf ns => P ns
  | .node _ a b => a.allL P ∧ b.allL P
section
variable {P : List Str → Prop}
theorem allL_in {ws : List Str} (h : ∀ ns : List Str, ns.Sublist ws → P ns) : ∀ {t : Tr}, NamesIn ws t → t.allL P
  | .leaf ns, q => h ns q
  | .node _ a b, q => ⟨allL_in h q.1, allL_in h q.2⟩
theorem allL_ans {bs : List Nat} : ∀ {t : Tr}, t.allL P → P (t.ans bs)
  | .leaf ns, h => h
  | .node c a b, h => by
    rw [Tr.ans]
    split
    · exact allL_ans h.1
    · exact allL_ans h.2
theorem allL_goal {t : Tr} (h : t.allL P) (c : Nat) : (goalT t c).1.allL P ∧ (goalT t c).2.allL P := by
  cases t with
  | leaf ns => exact ⟨h, h⟩
  | node c' a b =>
    unfold goalT
    by_cases e : c' = c
    · simp only [e, if_true]; exact h
    · simp only [e, if_false]; exact ⟨h, h⟩
theorem allL_mk {c : Nat} {a b : Tr} (h : a.allL P) (h2 : b.allL P) : (mk c a b).allL P := by
  unfold mk
  split
  · exact h
  · exact ⟨h, h2⟩
theorem Sw.allL {ord : List Nat} {c : Nat} {a b u : Tr} (s : Sw ord c a b u) : a.allL P → b.allL P → u.allL P := by
  induction s with
  | here h => exact fun ha hb => allL_mk (allL_goal ha c).1 (allL_goal hb c).2
  | down h hx _ _ ih1 ih2 => exact fun ha hb => allL_mk (ih1 (allL_goal ha _).1 (allL_goal hb _).1) (ih2 (allL_goal ha _).2 (allL_goal hb _).2)
theorem Fo.allL {ord : List Nat} {key u : Tr} (h : Fo ord key u) : key.allL P → u.allL P := by
  induction h with
  | leaf => exact id
  | node _ _ s ih1 ih2 => exact fun h => s.allL (ih1 h.1) (ih2 h.2)
end
theorem perm_nd {ord : List Nat} {m : Nat} (h : ord.Perm (List.range m)) : ord.Nodup := h.nodup_iff.mpr List.nodup_range
theorem perm_mem {ord : List Nat} {m : Nat} (h : ord.Perm (List.range m)) {c : Nat} : c ∈ ord ↔ c < m := h.mem_iff.trans List.mem_range
theorem perm_len {ord : List Nat} {m : Nat} (h : ord.Perm (List.range m)) : ord.length = m := h.length_eq.trans List.length_range
theorem key_in {ord : List Nat} {m : Nat} (h : ord.Perm (List.range m)) : ∀ {t : Tr}, CharLt m t → KeyIn ord t
  | .leaf _, _ => True.intro
  | .node _ a b, q => ⟨(perm_mem h).mpr q.1, key_in h q.2.1, key_in h q.2.2⟩
theorem ordd_lt {ord : List Nat} {m : Nat} (h : ord.Perm (List.range m)) : ∀ {t : Tr}, Ordd ord t → CharLt m t
  | .leaf _, _ => True.intro
  | .node _ a b, q => ⟨(perm_mem h).mp q.1, ordd_lt h q.2.2.2.2.1, ordd_lt h q.2.2.2.2.2⟩
/-- names that can be looked at -/
def StrsOk (ns : List Str) : Prop := ∀ x, x ∈ ns → isL x
theorem strs_sub {ws ns : List Str} (hw : WsOk ws) (h : ns.Sublist ws) : StrsOk ns := fun x hx => (hw.ok x (h.subset hx)).abc
theorem isL_ok {x : Str} (h : isL x) : PyData.strOk x = true := by
  unfold PyData.strOk
  rw [← Array.all_toList]
  exact List.all_eq_true.mpr fun c hc => by
    have := h c (by simpa using hc)
    exact decide_eq_true (by omega)
theorem names_shaped {ns : List Str} (h : StrsOk ns) : SeqAt.shaped (encNames ns) = true := by
  have h1 : ∀ ns : List Str, StrsOk ns → PyData.canLayAll0 (ns.map PyData.str) = true ∧ PyData.depthAll (ns.map PyData.str) ≤ 1 := by
    intro ns
    induction ns with
    | nil => intro _; exact ⟨by simp [PyData.canLayAll0], by simp [PyData.depthAll]⟩
    | cons x r ih =>
      intro h
      obtain ⟨i1, i2⟩ := ih fun y hy => h y (List.mem_cons_of_mem _ hy)
      refine ⟨?_, ?_⟩
      · rw [List.map_cons, PyData.canLayAll0, i1]
        simp [PyData.canLay0, isL_ok (h x List.mem_cons_self)]
      · rw [List.map_cons, PyData.depthAll]; simp [PyData.depth]; omega
  obtain ⟨a, b⟩ := h1 ns h
  unfold SeqAt.shaped
  show (PyData.canLay0 (.tuple _) && decide (PyData.depth (.tuple _) ≤ 64)) = true
  rw [PyData.canLay0, a, PyData.depth]
  simp; omega
theorem ne_names {ns : List Str} (h : StrsOk ns) {q : PyData → Prop} (hq : q (.bool false)) : neV2 (encNames ns) (encNames ns) q := by
  refine ⟨?_, ?_⟩
  · show shp _ _ = true
    unfold shp
    rw [names_shaped h]; rfl
  · have : PyData.eqv (encNames ns) (encNames ns) = true := SeqAt.eqv_refl _ (Bool.and_eq_true_iff.mp (names_shaped h)).1
    rw [this]; exact hq
theorem ne_bits {ns : List Str} (h : StrsOk ns) {M : MS} {q : DV → Prop} (hq : q (.dat (.bool false))) : opR neV2 M (.dat (encNames ns)) (.dat (encNames ns)) q := ⟨_, _, rfl, rfl, ne_names h hq⟩
theorem cut1 (ws : List Str) : cutL (ws.map PyData.str) none (some 1) = (ws.take 1).map PyData.str := by
  cases ws with
  | nil => rfl
  | cons x r => exact cut_to (j := 1) (Nat.le_add_left 1 _)
theorem mod2 (k : Nat) : ((k : Nat) : Int) % 2 = ((0 : Nat) : Int) ∨ ((k : Nat) : Int) % 2 = ((1 : Nat) : Int) := by omega
theorem modm {k m : Nat} (hm : 1 ≤ m) : (0 : Int) < (m : Int) := by omega
theorem k10_loop {De : DEnds} {M : MS} {x0 x4 x6 x7 x8 x9 : Option DV} {m : Nat} {ws : List Str} (hm : 1 ≤ m) (hw : WsOk ws) : ∀ (l : List Nat) (key : Tr) (x5 : Option DV), CharLt m key → key.allL StrsOk → key.depth + l.length ≤ 12 →
    (∀ key' y5, CharLt m key' → key'.allL StrsOk → key'.depth ≤ 12 → De.nx [x0, some (.dat (.int ((m : Nat) : Int))), some (.dat (encNames ws)), some (.dat (encKey key')), x4, y5, x6, x7, x8, x9] M) →
    forD (gdName 5) (dSet 3 (dOp (opV ixV) (dLst (daCons (dTup (daCons (dC (.str "ask")) (daCons (dOp (opV modI) (dVar 5) (dVar 1)) (daCons (dVar 3) (daCons (dTup (daCons (dC (.str "names")) (daCons (dTup daNil) daNil))) daNil))))) (daCons (dTup (daCons (dC (.str "ask")) (daCons (dOp (opV modI) (dVar 5) (dVar 1)) (daCons (dTup (daCons (dC (.str "names")) (daCons (dSl (dVar 2) doNone (doSome (dC (.int 1)))) daNil))) (daCons (dVar 3) daNil))))) daNil))) (dOp (opV modI) (dVar 5) (dC (.int 2))))) De none (l.map fun i => .int ((i : Nat) : Int))
      [x0, some (.dat (.int ((m : Nat) : Int))), some (.dat (encNames ws)), some (.dat (encKey key)), x4, x5, x6, x7, x8, x9] M
  | [], key, x5, h1, h2, h3, h => ⟨True.intro, h key x5 h1 h2 (by rw [List.length_nil] at h3; omega)⟩
  | k :: l, key, x5, h1, h2, h3, h => by
    rw [List.length_cons] at h3
    have hs1 : StrsOk (ws.take 1) := fun x hx => (hw.ok x (List.mem_of_mem_take hx)).abc
    have hpos : (0 : Int) < (m : Int) := by omega
    have hc := cut1 ws
    refine ⟨True.intro, _, rfl, _, rfl, _, _, rfl, rfl, hpos, _, rfl, _, rfl, szb rfl, _, rfl, szb rfl, _, rfl, szb rfl, ?_⟩
    refine ⟨_, rfl, _, rfl, _, _, rfl, rfl, hpos, _, rfl, _, rfl, _, rfl, _, rfl, szb rfl, _, rfl, _, rfl, szb rfl, _, rfl, szb rfl, ?_⟩
    have i1 : Ks.CharLt m (.node (k % m) key (.leaf [])) := ⟨Nat.mod_lt _ hm, h1, True.intro⟩
    have i2 : Ks.CharLt m (.node (k % m) (.leaf (ws.take 1)) key) := ⟨Nat.mod_lt _ hm, True.intro, h1⟩
    rcases mod2 k with e | e
    · refine ⟨_, rfl, _, _, rfl, rfl, p2, _, _, rfl, rfl, encKey (.node (k % m) key (.leaf [])), ?_, ?_⟩
      · show atI _ (((k : Nat) : Int) % 2) = _
        rw [e]; exact atI_nat rfl
      · exact k10_loop hm hw l (.node (k % m) key (.leaf [])) _ i1 ⟨h2, fun x hx => absurd hx List.not_mem_nil⟩ (by show max key.depth 0 + 1 + _ ≤ 12; omega) h
    · refine ⟨_, rfl, _, _, rfl, rfl, p2, _, _, rfl, rfl, encKey (.node (k % m) (.leaf (ws.take 1)) key), ?_, ?_⟩
      · show atI _ (((k : Nat) : Int) % 2) = _
        rw [e, hc]; exact atI_nat rfl
      · exact k10_loop hm hw l (.node (k % m) (.leaf (ws.take 1)) key) _ i2 ⟨hs1, h2⟩ (by show max 0 key.depth + 1 + _ ≤ 12; omega) h
theorem k10_things {De : DEnds} {M : MS} {x0 x1 x2 x4 x5 : Option DV} {m : Nat} {key u : Tr} (hk : CharLt m key) (hs : key.allL StrsOk) (hd : key.depth ≤ 12) (hu : CharLt m u) (hus : u.allL StrsOk) : ∀ (l : List (List Nat)) (x7 x8 x9 : Option DV), (∀ bs, bs ∈ l → Bits m bs) →
    (∀ y7 y8 y9, De.nx [x0, x1, x2, some (.dat (encKey key)), x4, x5, some (.dat (encFold (foldOf u))), y7, y8, y9] M) →
    forD (gdName 7) t_k10_body De none (l.map encBits) [x0, x1, x2, some (.dat (encKey key)), x4, x5, some (.dat (encFold (foldOf u))), x7, x8, x9] M
  | [], x7, x8, x9, _, h => ⟨True.intro, h x7 x8 x9⟩
  | bs :: l, x7, x8, x9, hb, h => by
    have hb1 := hb bs List.mem_cons_self
    have o1 : StrsOk (key.ans bs) := allL_ans hs
    have o2 : StrsOk (u.ans bs) := allL_ans hus
    refine ⟨True.intro, _, rfl, _, rfl, m, key, bs, rfl, hb1, hk, ?_⟩
    refine ⟨_, rfl, _, rfl, m, foldOf u, u, bs, rfl, den_fold u, hb1, hu, ?_⟩
    refine ⟨_, rfl, _, rfl, (fun kv e => by cases e), _, rfl, if_f rfl ?_⟩
    refine ⟨_, rfl, _, rfl, _, rfl, m, key, bs, rfl, hb1, hk, hd, ne_bits o1 ⟨_, rfl, if_f rfl ?_⟩⟩
    refine ⟨_, rfl, _, rfl, m, key, bs, rfl, hb1, hk, _, rfl, ne_bits o1 ⟨_, rfl, if_f rfl ?_⟩⟩
    refine ⟨_, rfl, _, rfl, (fun kv e => by cases e), _, rfl, if_f rfl ?_⟩
    refine ⟨_, rfl, _, rfl, _, rfl, m, foldOf u, u, bs, rfl, den_fold u, hb1, hu, ne_bits o2 ⟨_, rfl, if_f rfl ?_⟩⟩
    exact k10_things hk hs hd hu hus l _ _ _ (fun b q => hb b (List.mem_cons_of_mem _ q)) h
theorem rd_k10 (C : Addr) : ∀ ds M k, spLaw ds M k → t_law_k10 C (rtE k) (startD ["_law_script", "_law_many", "_law_words_here", "_law_key_here", "_law_order_here", "_law_k", "_law_fold", "_law_thing", "_law_one", "_law_other"] ds) M := by
  rintro _ M k ⟨ns, rfl, hn, rfl, h⟩
  refine ⟨_, rfl, ns, 7, rfl, by decide, by decide, fun m ws key ord hm hm7 hw hc hk hd ho => ?_⟩
  refine ⟨_, rfl, rfl, _, _, rfl, _, _, rfl, _, _, rfl, _, _, rfl, rfl, ?_⟩
  have hs : key.allL StrsOk := allL_in (fun ns h => strs_sub hw h) hk
  have rest : ∀ (key : Tr) (y5 : Option DV), CharLt m key → key.allL StrsOk → key.depth ≤ 12 → ((dSeq (dSet 6 (dCall (sp_folded C 12) (daCons (dVar 3) (daCons (dVar 4) daNil))))
      (dSeq (dFor (diSeq (dCall sp_L_things (daCons (dVar 1) daNil))) (gdName 7) t_k10_body) (dRet (dC (.bool true))))) (rtE k)
      [some (.scr ns), some (.dat (.int ((m : Nat) : Int))), some (.dat (encNames ws)), some (.dat (encKey key)), some (.dat (ordD (nz ord))), y5, none, none, none, none] fun _ => none) := by
    intro key y5 hc hs hd
    refine ⟨_, rfl, _, rfl, ord, key, rfl, perm_nd ho, by rw [perm_len ho]; omega, key_in ho hc, hd, fun u fu => ?_⟩
    have ou := fu.ordd (perm_nd ho) (key_in ho hc)
    refine ⟨_, rfl, m, rfl, hm, by omega, .inl ⟨_, rfl, ?_⟩⟩
    exact k10_things hc hs hd (ordd_lt ho ou) (fu.allL hs) (allT m) _ _ _ (fun bs hb => (mem_allT m bs).mp hb) fun y7 y8 y9 => rt_same h
  refine ⟨_, rfl, ns, 5, rfl, _, _, rfl, rfl, p8, _, _, rfl, rfl, rfl, _, rfl, ?_⟩
  refine if_b (fun _ => ?_) fun _ => rest key none hc hs (by omega)
  refine ⟨_, rfl, ⟨by decide, by decide⟩, ?_⟩
  show forD _ _ _ _ (rangeD 0 7) _ _
  rw [range_nat]
  exact k10_loop hm hw _ key none hc hs (by rw [List.length_range]; omega) fun key' y5 g1 g2 g3 => rest key' y5 g1 g2 g3
end Ks

/-! Ks: trees that answer alike. -/
namespace Ks
open PySem PySem.Spec PyProof.Rows L2 Kf

theorem ans_node (c : Nat) (a b : Tr) (bs : List Nat) : (Tr.node c a b).ans bs = if bs.getD c 0 = 0 then a.ans bs else b.ans bs := by rw [Tr.ans]
theorem ans_mk (c : Nat) (a b : Tr) (bs : List Nat) : (mk c a b).ans bs = if bs.getD c 0 = 0 then a.ans bs else b.ans bs := by
  unfold mk
  by_cases h : a = b
  · rw [if_pos h, h]; split <;> rfl
  · rw [if_neg h, ans_node]
theorem ans_goal0 (t : Tr) {c : Nat} {bs : List Nat} (h : bs.getD c 0 = 0) : (goalT t c).1.ans bs = t.ans bs := by
  cases t with
  | leaf ns => rfl
  | node c' a b =>
    unfold goalT
    by_cases e : c' = c
    · subst e; simp only [if_true]; rw [ans_node, if_pos h]
    · simp only [e, if_false]
theorem ans_goal1 (t : Tr) {c : Nat} {bs : List Nat} (h : ¬ bs.getD c 0 = 0) : (goalT t c).2.ans bs = t.ans bs := by
  cases t with
  | leaf ns => rfl
  | node c' a b =>
    unfold goalT
    by_cases e : c' = c
    · subst e; simp only [if_true]; rw [ans_node, if_neg h]
    · simp only [e, if_false]
theorem Sw.ans {ord : List Nat} {c : Nat} {a b u : Tr} (s : Sw ord c a b u) (bs : List Nat) : u.ans bs = if bs.getD c 0 = 0 then a.ans bs else b.ans bs := by
  induction s with
  | here h =>
    rw [ans_mk]
    by_cases z : bs.getD c 0 = 0
    · rw [if_pos z, if_pos z, ans_goal0 _ z]
    · rw [if_neg z, if_neg z, ans_goal1 _ z]
  | @down a b x lo hi h hx _ _ ih1 ih2 =>
    rw [ans_mk]
    by_cases z : bs.getD x 0 = 0
    · rw [if_pos z, ih1, ans_goal0 _ z, ans_goal0 _ z]
    · rw [if_neg z, ih2, ans_goal1 _ z, ans_goal1 _ z]
theorem Fo.ans {ord : List Nat} {key u : Tr} (h : Fo ord key u) (bs : List Nat) : u.ans bs = key.ans bs := by
  induction h with
  | leaf => rfl
  | node _ _ s ih1 ih2 => rw [s.ans, ih1, ih2, ans_node]
theorem getD_set {bs : List Nat} {c c' v : Nat} (h : c' ≠ c) : (bs.set c v).getD c' 0 = bs.getD c' 0 := by
  rw [List.getD_eq_getElem?_getD, List.getD_eq_getElem?_getD, List.getElem?_set_ne (Ne.symm h)]
theorem getD_same {m : Nat} {bs : List Nat} {c v : Nat} (hb : Bits m bs) (hc : c < m) : (bs.set c v).getD c 0 = v := by
  rw [List.getD_eq_getElem?_getD, List.getElem?_set_self (by rw [hb.1]; exact hc)]; rfl
theorem Bits.set {m : Nat} {bs : List Nat} (hb : Bits m bs) {c v : Nat} (hv : v = 0 ∨ v = 1) : Bits m (bs.set c v) :=
  ⟨by rw [List.length_set]; exact hb.1, fun b h => (List.mem_or_eq_of_mem_set h).elim (hb.2 b) fun e => e ▸ hv⟩
/-- what stands behind a character does not ask it -/
theorem ans_set {ord : List Nat} {c v : Nat} {bs : List Nat} : ∀ {t : Tr}, Ordd ord t → ord.idxOf c < rk ord t → t.ans (bs.set c v) = t.ans bs
  | .leaf ns, _, _ => rfl
  | .node c' a b, h, hr => by
    have ne : c' ≠ c := fun e => by subst e; exact absurd hr (Nat.lt_irrefl _)
    have h1 : ord.idxOf c < ord.idxOf c' := hr
    rw [ans_node, ans_node, getD_set ne, ans_set h.2.2.2.2.1 (Nat.lt_trans h1 h.2.1), ans_set h.2.2.2.2.2 (Nat.lt_trans h1 h.2.2.1)]
theorem idx_inj {ord : List Nat} {a b : Nat} (ha : a ∈ ord) (hb : b ∈ ord) (h : ord.idxOf a = ord.idxOf b) : a = b := by
  have h1 := List.getElem_idxOf (List.idxOf_lt_length_of_mem ha)
  have h2 := List.getElem_idxOf (List.idxOf_lt_length_of_mem hb)
  rw [← h1, ← h2]
  simp [h]
section
variable {ord : List Nat} {m : Nat}
theorem ans_ways (hp : ord.Perm (List.range m)) {c : Nat} {x y t : Tr} (h : Ordd ord (.node c x y)) (f : ∀ bs, Bits m bs → (Tr.node c x y).ans bs = t.ans bs) (ht : ∀ bs v, t.ans (bs.set c v) = t.ans bs) :
    (∀ bs, Bits m bs → x.ans bs = t.ans bs) ∧ ∀ bs, Bits m bs → y.ans bs = t.ans bs := by
  have hc := (perm_mem hp).mp h.1
  constructor
  · intro bs hb
    have := f (bs.set c 0) (hb.set (.inl rfl))
    rw [ans_node, getD_same hb hc, if_pos rfl, ans_set h.2.2.2.2.1 h.2.1, ht] at this
    exact this
  · intro bs hb
    have := f (bs.set c 1) (hb.set (.inr rfl))
    rw [ans_node, getD_same hb hc, if_neg (by decide), ans_set h.2.2.2.2.2 h.2.2.1, ht] at this
    exact this
/-- THE law of the rows: what answers alike is the same -/
theorem same_of (hp : ord.Perm (List.range m)) : ∀ (n : Nat) (a b : Tr), a.size + b.size ≤ n → Ordd ord a → Ordd ord b → (∀ bs, Bits m bs → a.ans bs = b.ans bs) → a = b := by
  intro n
  induction n with
  | zero => intro a b h; have := a.size_pos; omega
  | succ n ih =>
    have front : ∀ (c : Nat) (x y t : Tr), (Tr.node c x y).size + t.size ≤ n + 1 → Ordd ord (.node c x y) → Ordd ord t → ord.idxOf c < rk ord t → (∀ bs, Bits m bs → (Tr.node c x y).ans bs = t.ans bs) → False := by
      intro c x y t hs ho ht hr f
      have es : (Tr.node c x y).size = x.size + y.size + 1 := rfl
      have px := x.size_pos
      have py := y.size_pos
      obtain ⟨f1, f2⟩ := ans_ways hp ho f fun bs v => ans_set ht hr
      have e1 := ih x t (by omega) ho.2.2.2.2.1 ht f1
      have e2 := ih y t (by omega) ho.2.2.2.2.2 ht f2
      exact ho.2.2.2.1 (e1.trans e2.symm)
    intro a b hs ha hb f
    cases a with
    | leaf ns =>
      cases b with
      | leaf ms =>
        have := f (List.replicate m 0) ⟨List.length_replicate, fun b h => .inl (List.eq_of_mem_replicate h)⟩
        show Tr.leaf ns = Tr.leaf ms
        exact congrArg _ this
      | node c x y => exact (front c x y (.leaf ns) (by omega) hb ha (List.idxOf_lt_length_of_mem hb.1) fun bs h => (f bs h).symm).elim
    | node c x y =>
      cases b with
      | leaf ms => exact (front c x y (.leaf ms) hs ha hb (List.idxOf_lt_length_of_mem ha.1) f).elim
      | node c' x' y' =>
        rcases Nat.lt_trichotomy (ord.idxOf c) (ord.idxOf c') with z | z | z
        · exact (front c x y (.node c' x' y') hs ha hb z f).elim
        · have e := idx_inj ha.1 hb.1 z
          subst e
          have es : (Tr.node c x y).size = x.size + y.size + 1 := rfl
          have es' : (Tr.node c x' y').size = x'.size + y'.size + 1 := rfl
          have hc := (perm_mem hp).mp ha.1
          have g1 : ∀ bs, Bits m bs → x.ans bs = x'.ans bs := fun bs h => by
            have := f (bs.set c 0) (h.set (.inl rfl))
            rw [ans_node, ans_node, getD_same h hc, if_pos rfl, if_pos rfl, ans_set ha.2.2.2.2.1 ha.2.1, ans_set hb.2.2.2.2.1 hb.2.1] at this
            exact this
          have g2 : ∀ bs, Bits m bs → y.ans bs = y'.ans bs := fun bs h => by
            have := f (bs.set c 1) (h.set (.inr rfl))
            rw [ans_node, ans_node, getD_same h hc, if_neg (by decide), if_neg (by decide), ans_set ha.2.2.2.2.2 ha.2.2.1, ans_set hb.2.2.2.2.2 hb.2.2.1] at this
            exact this
          rw [ih x x' (by omega) ha.2.2.2.2.1 hb.2.2.2.2.1 g1, ih y y' (by omega) ha.2.2.2.2.2 hb.2.2.2.2.2 g2]
        · exact (front c' x' y' (.node c x y) (by omega) hb ha z fun bs h => (f bs h).symm).elim
theorem Tr.same (hp : ord.Perm (List.range m)) {a b : Tr} (ha : Ordd ord a) (hb : Ordd ord b) (f : ∀ bs, Bits m bs → a.ans bs = b.ans bs) : a = b := same_of hp _ a b (Nat.le_refl _) ha hb f
end
end Ks

/-! Kf, more calls. -/
namespace Kf
open PySem PySem.Spec PyProof.Rows L2
section
variable {X : Cx}
/-- what is never come to -/
def dNoE : TD := fun _ _ _ => False
theorem q_noE {e : Expr} : QE X e dNoE := ⟨⟨fun pins s σ H Q I h => by
  obtain ⟨B, ρ, M, k, ok, rs, t, f⟩ := h
  exact t.elim⟩⟩
/-- dict(d) -/
def dDictOf (t : TDa) : TD := fun ρ M k => t ρ M fun xs M1 => ∃ a kvs, xs = [.ref a] ∧ M1 a = some (.dicV kvs) ∧ ∀ b, M1 b = none → k (.ref b) (setM M1 b (.dicV kvs))
theorem q_dictOf {x : Str} {e : Expr} {es : List Expr} {t : TDa} {p pos : Pos} (hg : Gl X x) (hm : X.mg x = none) (hv : bootBuiltins x = some (.type "dict")) (ha : QA X (e :: es) t)
    (hn : x ≠ "__name__" := by decide) (hd : (x == ("__debug__" : Str)) = false := by decide)
    (hs : starEach (e :: es) X.env = (false, eval e X.env) :: starEach es X.env := by rfl) (h2 : (backTo pos (starEach es X.env)).any (·.1) = false := by rfl) : QE X (.Call (.Name x p) (e :: es) [] pos) (dDictOf t) := by
  refine ⟨PE.weak (pe_callTy call_dictD hg hm hv ha.pa hn hd hs h2) fun σ H Q h => ?_⟩
  obtain ⟨B, ρ, M, k, ok, rs, t, f⟩ := h
  refine bindA ok rs t fun xs M1 vs H1 q e o r rs1 => ?_
  obtain ⟨a, kvs, rfl, h1, h3⟩ := q
  obtain ⟨v, rfl, rv⟩ := RVs.one r
  cases rv
  obtain ⟨kvs', g1, g2⟩ := o.rep a _ h1
  refine ⟨a, kvs', rfl, .inl g1, fun p hp => f _ _ (h3 p (o.fresh hp)) _ _ (e.trans (ext_newO o hp)) (ok_newO o hp ⟨kvs', upd_same, Paired.mapQ g2 fun _ _ => EntV.ext (ext_newO o hp)⟩) rfl⟩
/-- len(d) -/
def lenDV : PN := fun M xs q => ∃ a kvs, xs = [.ref a] ∧ M a = some (.dicV kvs) ∧ q (.dat (.int ((kvs.length : Nat) : Int)))
theorem qlenDV : QCall X (.builtin "len") lenDV := by
  rintro pins s σ H vs us Q I r ⟨B, M, xs, q, ok, rx, ⟨a, kvs, rfl, hm, h⟩, m⟩
  obtain ⟨v, rfl, rv⟩ := RVs.one rx
  cases rv
  obtain ⟨kvs', g1, g2⟩ := ok.rep a _ hm
  refine call_lenD pins s σ H _ us Q I r ⟨a, kvs', rfl, g1, ?_⟩
  rw [← Paired.len g2]
  exact rp_of m ok h (.int _)
end
end Kf

/-! Ks: data that are alike are the same; folds as data. -/
namespace Ks
open PySem PySem.Spec PyProof.Rows L2 Kf

mutual
def pln : PyData → Bool
  | .none => true
  | .int _ => true
  | .str _ => true
  | .tuple ds => plns ds
  | .bool _ => false
  | .list ds => plns ds
  | .dict _ => false
def plns : List PyData → Bool
  | [] => true
  | d :: ds => pln d && plns ds
end
mutual
theorem eqv_same : ∀ (d e : PyData), pln d = true → pln e = true → PyData.eqv d e = true → d = e
  | .none, e, _, he, h => by cases e <;> simp [PyData.eqv, pln] at h he ⊢
  | .int i, e, _, he, h => by cases e <;> simp [PyData.eqv, pln] at h he ⊢; exact h
  | .str i, e, _, he, h => by cases e <;> simp [PyData.eqv, pln] at h he ⊢; exact h
  | .bool i, e, hd, _, _ => by simp [pln] at hd
  | .dict i, e, hd, _, _ => by simp [pln] at hd
  | .tuple ds, e, hd, he, h => by
    cases e with
    | tuple es => rw [pln] at hd he; rw [PyData.eqv] at h; rw [eqv_sames ds es hd he h]
    | _ => simp [PyData.eqv] at h
  | .list ds, e, hd, he, h => by
    cases e with
    | list es => rw [pln] at hd he; rw [PyData.eqv] at h; rw [eqv_sames ds es hd he h]
    | _ => simp [PyData.eqv] at h
theorem eqv_sames : ∀ (ds es : List PyData), plns ds = true → plns es = true → PyData.eqvAll ds es = true → ds = es
  | [], [], _, _, _ => rfl
  | [], _ :: _, _, _, h => by simp [PyData.eqvAll] at h
  | _ :: _, [], _, _, h => by simp [PyData.eqvAll] at h
  | d :: ds, e :: es, hd, he, h => by
    rw [plns, Bool.and_eq_true] at hd he
    rw [PyData.eqvAll, Bool.and_eq_true] at h
    rw [eqv_same d e hd.1 he.1 h.1, eqv_sames ds es hd.2 he.2 h.2]
end
theorem plns_of : ∀ {ds : List PyData}, (∀ d, d ∈ ds → pln d = true) → plns ds = true
  | [], _ => by rw [plns]
  | d :: ds, h => by rw [plns, h d List.mem_cons_self, plns_of fun x hx => h x (List.mem_cons_of_mem _ hx)]; rfl
/-- what may be compared: shaped, and plain -/
structure Cmp (d : PyData) : Prop where
  sh : SeqAt.shaped d = true
  pl : pln d = true
theorem Cmp.eq_t {d : PyData} (hd : Cmp d) : PyData.eqv d d = true := SeqAt.eqv_refl _ (Bool.and_eq_true_iff.mp hd.sh).1
theorem Cmp.eq_f {d e : PyData} (hd : Cmp d) (he : Cmp e) (h : d ≠ e) : PyData.eqv d e = false := by
  cases z : PyData.eqv d e with
  | false => rfl
  | true => exact absurd (eqv_same d e hd.pl he.pl z) h
theorem Cmp.ok {d e : PyData} (hd : Cmp d) (he : Cmp e) : shp d e = true := by unfold shp; rw [hd.sh, he.sh]; rfl
theorem eqOk_of {d e : PyData} (h : shp d e = true) : eqOk d e = true := by
  unfold eqOk
  split
  · rw [h, Bool.or_true]
  · exact h
theorem Cmp.eq2 {d e : PyData} (hd : Cmp d) (he : Cmp e) {q : PyData → Prop} (h1 : d = e → q (.bool true)) (h2 : d ≠ e → q (.bool false)) : eqV2 d e q := by
  refine ⟨eqOk_of (hd.ok he), ?_⟩
  by_cases h : d = e
  · have := h1 h
    subst h; rw [hd.eq_t]; exact this
  · rw [hd.eq_f he h]; exact h2 h
theorem Cmp.ne2 {d e : PyData} (hd : Cmp d) (he : Cmp e) {q : PyData → Prop} (h1 : d = e → q (.bool false)) (h2 : d ≠ e → q (.bool true)) : neV2 d e q := by
  refine ⟨eqOk_of (hd.ok he), ?_⟩
  by_cases h : d = e
  · have := h1 h
    subst h; rw [hd.eq_t]; exact this
  · rw [hd.eq_f he h]; exact h2 h
/-- the depth and the shape apart -/
theorem shaped_mk {d : PyData} (h1 : d.canLay0 = true) (h2 : d.depth ≤ 64) : SeqAt.shaped d = true := by
  unfold SeqAt.shaped
  rw [h1, decide_eq_true h2]; rfl
theorem lays_of : ∀ {ds : List PyData}, (∀ d, d ∈ ds → d.canLay0 = true) → PyData.canLayAll0 ds = true
  | [], _ => by rw [PyData.canLayAll0]
  | d :: ds, h => by rw [PyData.canLayAll0, h d List.mem_cons_self, lays_of fun x hx => h x (List.mem_cons_of_mem _ hx)]; rfl
theorem depths_of {n : Nat} : ∀ {ds : List PyData}, (∀ d, d ∈ ds → d.depth ≤ n) → PyData.depthAll ds ≤ n
  | [], _ => by rw [PyData.depthAll]; exact Nat.zero_le _
  | d :: ds, h => by
    have h1 := h d List.mem_cons_self
    have h2 := depths_of fun x hx => h x (List.mem_cons_of_mem _ hx)
    rw [PyData.depthAll]; omega
/-- data that are plain, with texts that can be laid, of a depth -/
structure Pl (n : Nat) (d : PyData) : Prop where
  lay : d.canLay0 = true
  dep : d.depth ≤ n
  pl : pln d = true
theorem Pl.cmp {n : Nat} {d : PyData} (h : Pl n d) (hn : n ≤ 64) : Cmp d := ⟨shaped_mk h.lay (Nat.le_trans h.dep hn), h.pl⟩
theorem Pl.tup {n : Nat} {ds : List PyData} (h : ∀ d, d ∈ ds → Pl n d) : Pl (n + 1) (.tuple ds) :=
  ⟨by rw [PyData.canLay0]; exact lays_of fun d hd => (h d hd).lay, by rw [PyData.depth]; have := depths_of fun d hd => (h d hd).dep; omega, by rw [pln]; exact plns_of fun d hd => (h d hd).pl⟩
theorem Pl.lst {n : Nat} {ds : List PyData} (h : ∀ d, d ∈ ds → Pl n d) : Pl (n + 1) (.list ds) :=
  ⟨by rw [PyData.canLay0]; exact lays_of fun d hd => (h d hd).lay, by rw [PyData.depth]; have := depths_of fun d hd => (h d hd).dep; omega, by rw [pln]; exact plns_of fun d hd => (h d hd).pl⟩
theorem Pl.le {n m : Nat} {d : PyData} (h : Pl n d) (hm : n ≤ m) : Pl m d := ⟨h.lay, Nat.le_trans h.dep hm, h.pl⟩
theorem pl_int (i : Int) : Pl 1 (.int i) := ⟨by simp [PyData.canLay0], by simp [PyData.depth], by simp [pln]⟩
theorem pl_none : Pl 1 .none := ⟨by simp [PyData.canLay0], by simp [PyData.depth], by simp [pln]⟩
theorem pl_str {x : Str} (h : isL x) : Pl 1 (.str x) := ⟨by rw [PyData.canLay0]; exact isL_ok h, by simp [PyData.depth], by simp [pln]⟩
theorem pl_names {ns : List Str} (h : StrsOk ns) : Pl 2 (encNames ns) := Pl.tup fun d hd => by
  obtain ⟨x, hx, rfl⟩ := List.mem_map.mp hd
  exact pl_str (h x hx)
theorem pl_bits (bs : List Nat) : Pl 2 (encBits bs) := Pl.tup fun d hd => by
  obtain ⟨x, hx, rfl⟩ := List.mem_map.mp hd
  exact pl_int _
theorem isL_names : isL "names" := by unfold isL; decide
theorem isL_ask : isL "ask" := by unfold isL; decide
def Row.good : Row → Prop
  | .leaf ns => StrsOk ns
  | .node _ _ _ => True
theorem pl_row {r : Row} (h : r.good) : Pl 3 (encRow r) := by
  cases r with
  | leaf ns =>
    refine Pl.tup fun d hd => ?_
    rcases List.mem_cons.mp hd with rfl | hd
    · exact (pl_str isL_names).le (by decide)
    · rw [List.mem_singleton] at hd; subst hd; exact pl_names h
  | node c i j =>
    refine (Pl.tup (n := 1) fun d hd => ?_).le (by decide)
    rcases List.mem_cons.mp hd with rfl | hd
    · exact pl_int _
    rcases List.mem_cons.mp hd with rfl | hd
    · exact pl_int _
    rw [List.mem_singleton] at hd; subst hd; exact pl_int _
theorem post_sub : ∀ (t : Tr) (m : List Tr) (P : List Str → Prop), t.allL P → (∀ x, x ∈ m → x.allL P) → ∀ x, x ∈ post t m → x.allL P
  | .leaf ns, m, P, h, hm, x, hx => by
    unfold post at hx
    split at hx
    · exact hm x hx
    · rcases List.mem_append.mp hx with z | z
      · exact hm x z
      · rw [List.mem_singleton.mp z]; exact h
  | .node c a b, m, P, h, hm, x, hx => by
    unfold post at hx
    split at hx
    · exact hm x hx
    · rcases List.mem_append.mp hx with z | z
      · exact post_sub b _ P h.2 (post_sub a m P h.1 hm) x z
      · rw [List.mem_singleton.mp z]; exact h
theorem fold_good {t : Tr} (h : t.allL StrsOk) : ∀ r, r ∈ foldOf t → r.good := by
  intro r hr
  obtain ⟨x, hx, rfl⟩ := List.mem_map.mp hr
  have := post_sub t [] StrsOk h (fun x hx => absurd hx List.not_mem_nil) x hx
  cases x with
  | leaf ns => exact this
  | node c a b => exact True.intro
theorem pl_fold {t : Tr} (h : t.allL StrsOk) : Pl 4 (encFold (foldOf t)) := Pl.tup fun d hd => by
  obtain ⟨x, hx, rfl⟩ := List.mem_map.mp hd
  exact pl_row (fold_good h x hx)
theorem names_inj {a b : List Str} (h : encNames a = encNames b) : a = b := by
  have h : a.map PyData.str = b.map PyData.str := by injection h
  exact (List.map_inj_right fun x y e => by cases e; rfl).mp h
theorem row_inj {r r' : Row} (h : encRow r = encRow r') : r = r' := by
  cases r with
  | leaf ns =>
    cases r' with
    | leaf ms => simp only [encRow, PyData.tuple.injEq, List.cons.injEq, and_true, true_and] at h; rw [names_inj h]
    | node c i j => simp [encRow] at h
  | node c i j =>
    cases r' with
    | leaf ms => simp [encRow] at h
    | node c' i' j' =>
      simp only [encRow, PyData.tuple.injEq, List.cons.injEq, and_true, PyData.int.injEq] at h
      obtain ⟨a, b, d⟩ := h
      cases Int.ofNat.inj a; cases Int.ofNat.inj b; cases Int.ofNat.inj d; rfl
theorem encFold_inj {F G : List Row} (h : encFold F = encFold G) : F = G := by
  have h : F.map encRow = G.map encRow := by injection h
  exact (List.map_inj_right fun x y e => row_inj e).mp h
theorem foldOf_inj {a b : Tr} (h : foldOf a = foldOf b) : a = b := by
  have d := den_fold a
  rw [h] at d
  exact Den.fn d (den_fold b)
theorem bits_inj {a b : List Nat} (h : encBits a = encBits b) : a = b := by
  have h : a.map (fun b => PyData.int ((b : Nat) : Int)) = b.map (fun b => PyData.int ((b : Nat) : Int)) := by injection h
  exact (List.map_inj_right fun x y e => by injection e with e; exact Int.ofNat.inj e).mp h
theorem encKey_inj : ∀ {a b : Tr}, encKey a = encKey b → a = b
  | .leaf ns, .leaf ms, h => by
    simp only [encKey, PyData.tuple.injEq, List.cons.injEq, and_true, true_and] at h; rw [names_inj h]
  | .leaf ns, .node c a b, h => by simp [encKey] at h
  | .node c a b, .leaf ms, h => by simp [encKey] at h
  | .node c a b, .node c' a' b', h => by
    simp only [encKey, PyData.tuple.injEq, List.cons.injEq, and_true, PyData.int.injEq, true_and] at h
    obtain ⟨x, y, z⟩ := h
    cases Int.ofNat.inj x
    rw [encKey_inj y, encKey_inj z]
end Ks

/-! Kf, sets of whole numbers and texts: set(xs), sorted(set(xs)). -/
namespace Kf
open PySem PySem.Spec PyProof PyProof.Rows L2
def keyX (e : Int × Value) : Key := match e.2 with | .int k _ => .inl k | .str x _ => .inr x | _ => .inl 0
def GoodX (w : World) (e : Int × Value) : Prop := ∃ k : Key, keyIs k e.2 = true ∧ e.1 = keyH w k
def addK (ks : List Key) (k : Key) : List Key := if (ks.any fun j => decide (j = k)) = true then ks else k :: ks
theorem addK_in {ks : List Key} {k : Key} (h : k ∈ ks) : addK ks k = ks := if_pos (List.any_eq_true.mpr ⟨k, h, decide_eq_true rfl⟩)
theorem addK_no {ks : List Key} {k : Key} (h : k ∉ ks) : addK ks k = k :: ks := if_neg fun z => by
  obtain ⟨j, hj, e⟩ := List.any_eq_true.mp z
  exact h (of_decide_eq_true e ▸ hj)
/-- the set at a: its members, up to their order -/
def SetX (w : World) (h : Heap) (a : Addr) (ks : List Key) : Prop := ∃ o es ep t, h.get? a = some o ∧ (o.ExactSet ∧ o.data = .set es ep t) ∧ ((∀ e ∈ es.toList, GoodX w e) ∧ (es.toList.map keyX).Perm ks ∧ ks.Nodup) ∧
  (es.size < scanBound ∧ t.fits es.size = true ∧ Ris t.place.toList) ∧ (w.params.followText "set-order" = true ∨ t.led = true)
theorem goodX_is {w : World} {e : Int × Value} (g : GoodX w e) (k : Key) : keyIs k e.2 = true ↔ keyX e = k := by
  obtain ⟨j, hj, _⟩ := g
  obtain ⟨eh, ev⟩ := e
  rcases keyIs_shape hj with ⟨i, t, rfl, e2⟩ | ⟨x, t, rfl, e2⟩ <;> (cases e2; constructor)
  · intro z
    rcases keyIs_shape z with ⟨i', t', rfl, e3⟩ | ⟨x, t', rfl, e3⟩ <;> cases e3
    rfl
  · rintro rfl; exact hj
  · intro z
    rcases keyIs_shape z with ⟨i', t', rfl, e3⟩ | ⟨x, t', rfl, e3⟩ <;> cases e3
    rfl
  · rintro rfl; exact hj
theorem goodX_el {P : Program} {w : World} {l : List (Int × Value)} (g : ∀ e ∈ l, GoodX w e) : ElemsOf (mixKind P w) l := fun e he => by
  obtain ⟨k, h1, h2⟩ := g e he
  refine ⟨⟨k, h1, h2⟩, ?_⟩
  rcases keyIs_shape h1 with ⟨i, t, rfl, e3⟩ | ⟨x, t, rfl, e3⟩ <;> (rw [e3]; rfl)
section
variable {P : Program} {w : World} {A : Around} {E : Value → Shared → Prop} {s : Shared} {a : Addr} {ks : List Key}
theorem SetX.keep {h h' : Heap} (R : SetX w h a ks) (k : ∀ o, h.get? a = some o → h'.get? a = some o) : SetX w h' a ks := let ⟨o, es, ep, t, ho, r⟩ := R; ⟨o, es, ep, t, k o ho, r⟩
theorem SetX.typ {h : Heap} (R : SetX w h a ks) : ∃ o, h.get? a = some o ∧ o.cls = .type "set" := let ⟨o, es, ep, t, ho, r⟩ := R; ⟨o, ho, r.1.1.1⟩
theorem tailX {g : Bool → Sem Unit} (hg : ∀ (b : Bool) (s₁ : Shared) (Q' : Unit → Shared → Prop), Q' () s₁ → wpAny (model P w) A (g b) Q' E s₁) {o : Obj} {es es1 : Array (Int × Value)} {ep : Nat} {t t2 : SetTable}
    (ho : s.heap.get? a = some o) (hex : o.ExactSet ∧ o.data = .set es ep t) (g1 : (∀ e ∈ es1.toList, GoodX w e) ∧ (es1.toList.map keyX).Perm ks ∧ ks.Nodup) (hb1 : es1.size < scanBound ∧ t2.fits es1.size = true ∧ Ris t2.place.toList)
    (hl : w.params.followText "set-order" = true ∨ t2.led = true) {wasDummy : Bool} {R : Option Bool → Shared → Prop} (hR : ∀ h', Heap.SameBut a s.heap h' → SetX w h' a ks → R (some true) { s with heap := h' }) :
    wpAny (model P w) A (do storeSet a es1 t2; if (!wasDummy && t2.tooFull) = true then do { g (relayAll t2 es1 (SetTable.grown es1.size)).2.2; storeSet a (relayAll t2 es1 (SetTable.grown es1.size)).1 (relayAll t2 es1 (SetTable.grown es1.size)).2.1; pure (some true) } else pure (some true)) R E s := by
  refine wpAny_bind (wpAny_storeSet_of ho hex.2 ?_ (fits_of_scanBound hb1.1))
  have ho1 := store_at (es' := es1) (t' := t2) ho hex.2; have sb1 := Heap.SameBut.update s.heap a (Obj.putSet es1 t2)
  split
  · have pm := relayAll_perm t2 es1 (SetTable.grown es1.size); have hf3 := relayAll_fits t2 es1 (SetTable.grown es1.size)
    have hr3 := relayAll_ris t2 es1 (SetTable.grown es1.size); have hl3 := relayAll_led t2 es1 (SetTable.grown es1.size)
    generalize relayAll t2 es1 (SetTable.grown es1.size) = Z at *
    obtain ⟨es2, t3, gave⟩ := Z
    dsimp only at *
    have hsz : es2.size = es1.size := by simpa using pm.length_eq
    have hb2 : es2.size < scanBound := hsz ▸ hb1.1
    refine wpAny_bind (hg _ _ _ (wpAny_bind (wpAny_storeSet_of ho1 rfl ?_ (fits_of_scanBound hb2))))
    have ho2 := store_at (es' := es2) (t' := t3) ho1 rfl
    refine wpAny_pure (hR _ (sb1.trans (Heap.SameBut.update _ a _)) ⟨_, es2, _, t3, ho2, ⟨hex.1, rfl⟩, ⟨fun e he => g1.1 e (pm.mem_iff.mp he), (pm.map keyX).trans g1.2.1, g1.2.2⟩, ⟨hb2, hf3, hr3⟩, ?_⟩)
    exact hl.imp id fun z => hl3.trans z
  · exact wpAny_pure (hR _ sb1 ⟨_, es1, _, t2, ho1, ⟨hex.1, rfl⟩, g1, hb1, hl⟩)
theorem addX_hashed {k : Key} {v : Value} {Q : Bool → Shared → Prop} (hv : keyIs k v = true) (R : SetX w s.heap a ks) (room : ks.length + 1 < scanBound) (hQ : ∀ b h', Heap.SameBut a s.heap h' → SetX w h' a (addK ks k) → Q b { s with heap := h' }) :
    wpAny (model P w) A (setAddHashed a v ((mixKind P w).hash k)) Q E s := by
  obtain ⟨o, es, ep, t, ho, ⟨hex, hd⟩, ⟨g, pm0, nd⟩, ⟨hb, hf, hr⟩, hl⟩ := R
  have hkey : (mixKind P w).is k v = true := hv
  have hsc : v.scannable = true := by rcases keyIs_shape hv with ⟨i, t, rfl, e3⟩ | ⟨x, t, rfl, e3⟩ <;> (rw [e3]; rfl)
  have hel : ElemsOf (mixKind P w) es.toList := goodX_el g
  have hmem : ∀ j : Key, j ∈ ks ↔ ∃ e ∈ es.toList, keyIs j e.2 = true := fun j => by
    rw [← pm0.mem_iff, List.mem_map]
    exact ⟨fun ⟨e, he, q⟩ => ⟨e, he, (goodX_is (g e he) j).mpr q⟩, fun ⟨e, he, q⟩ => ⟨e, he, (goodX_is (g e he) j).mp q⟩⟩
  unfold setAddHashed setAddHashedIn; refine wpAny_holding (wpAny_bind (wpAny_setState_of ho hd hf ?_)); dsimp only
  rw [byScan_of hsc hb hel]; simp only [↓reduceIte]; unfold setAddByScan
  refine wpAny_bind (wpAny_bind (wpAny_rule (wpAny_bind (wpAny_setScan_of hkey ho hd hf hel ?_))))
  cases hfi : List.findIdx? (fun e => (mixKind P w).is k e.2) es.toList with
  | some j =>
    dsimp only
    obtain ⟨hj, pj, _⟩ := List.findIdx?_eq_some_iff_getElem.mp hfi
    have hin : k ∈ ks := (hmem k).mpr ⟨es.toList[j], List.getElem_mem hj, pj⟩
    refine wpAny_pure (wpAny_pure (hQ _ s.heap (Heap.SameBut.refl a s.heap) ?_))
    rw [addK_in hin]
    exact ⟨o, es, ep, t, ho, ⟨hex, hd⟩, ⟨g, pm0, nd⟩, ⟨hb, hf, hr⟩, hl⟩
  | none =>
    dsimp only
    have hnk : k ∉ ks := fun z => by
      obtain ⟨e, he, q⟩ := (hmem k).mp z
      have c := List.findIdx?_eq_none_iff.mp hfi e he
      exact absurd (c.symm.trans q) Bool.false_ne_true
    have hgw : ∀ (b : Bool) {s₁ : Shared} {Q' : Unit → Shared → Prop}, Q' () s₁ → wpAny (model P w) A (match b with | true => rule "set.scan.the-table-gave-way" | false => pure ()) Q' E s₁ := by
      intro b s₁ Q' q; cases b
      · exact wpAny_pure q
      · exact wpAny_rule q
    have pm := layNew_perm t es ((mixKind P w).hash k) v; have hf1 := layNew_fits t es ((mixKind P w).hash k) v
    have hr1 := layNew_ris t es ((mixKind P w).hash k) v hr; have hl1 := layNew_led t es ((mixKind P w).hash k) v
    generalize layNew t es ((mixKind P w).hash k) v = Z at *
    obtain ⟨es1, t1, wasDummy, gave⟩ := Z
    dsimp only at *; rw [Array.toList_push] at pm
    have pc : es1.toList.Perm (((mixKind P w).hash k, v) :: es.toList) := pm.trans (List.perm_append_singleton _ _)
    have gk : GoodX w ((mixKind P w).hash k, v) := ⟨k, hv, rfl⟩
    have kk : keyX ((mixKind P w).hash k, v) = k := (goodX_is gk k).mp hv
    have g1 : (∀ e ∈ es1.toList, GoodX w e) ∧ (es1.toList.map keyX).Perm (addK ks k) ∧ (addK ks k).Nodup := by
      rw [addK_no hnk]
      refine ⟨fun e he => (List.mem_cons.mp (pc.mem_iff.mp he)).elim (fun z => z ▸ gk) (g e), ?_, List.nodup_cons.mpr ⟨hnk, nd⟩⟩
      have := pc.map keyX
      rw [List.map_cons, kk] at this
      exact this.trans (pm0.cons k)
    have hsz : es1.size = ks.length + 1 := by
      have q := g1.2.1.length_eq
      rw [addK_no hnk, List.length_map, Array.length_toList, List.length_cons] at q
      exact q
    have hb1 : es1.size < scanBound := by rw [hsz]; exact room
    have hled : w.params.followText "set-order" = true ∨ t1.led = true := hl.imp id fun z => hl1.trans z
    refine wpAny_bind (hgw _ ?_)
    split
    · refine wpAny_bind ?_
      rw [hashByValue_scannable 8 hsc]; refine wpAny_pure (tailX ?_ ho ⟨hex, hd⟩ g1 ⟨hb1, ?_, ?_⟩ ?_ ?_)
      · intro b s₁ Q' q; exact hgw b q
      · first | (split <;> first | exact hf1 | exact SetTable.fits_plain_off hf1) | exact hf1
      · first | (split <;> exact hr1) | exact hr1
      · first | (split <;> exact hled) | exact hled
      · intro h' sb r; dsimp only; exact wpAny_pure (hQ _ h' sb r)
    · refine wpAny_bind (wpAny_pure ?_); simp only [↓reduceIte]
      refine tailX (fun b s₁ Q' q => hgw b q) ho ⟨hex, hd⟩ g1 ⟨hb1, hf1, hr1⟩ hled ?_
      intro h' sb r; dsimp only; exact wpAny_pure (hQ _ h' sb r)
end
end Kf

/-! Kf, sets: set(xs) of whole numbers and texts. -/
namespace Kf
open PySem PySem.Spec PySem.Calls PyProof PyProof.Rows L2
def dedK (l : List Key) : List Key := l.foldl addK []
theorem mem_addK {ks : List Key} {k j : Key} : j ∈ addK ks k ↔ j ∈ ks ∨ j = k := by
  by_cases h : k ∈ ks
  · rw [addK_in h]; exact ⟨.inl, fun z => z.elim id fun e => e ▸ h⟩
  · rw [addK_no h, List.mem_cons]; exact Or.comm
theorem nd_addK {ks : List Key} {k : Key} (h : ks.Nodup) : (addK ks k).Nodup := by
  by_cases z : k ∈ ks
  · rw [addK_in z]; exact h
  · rw [addK_no z]; exact List.nodup_cons.mpr ⟨z, h⟩
theorem len_addK {ks : List Key} {k : Key} : (addK ks k).length ≤ ks.length + 1 := by
  by_cases z : k ∈ ks
  · rw [addK_in z]; exact Nat.le_succ _
  · rw [addK_no z]; exact Nat.le_refl _
theorem ded_facts : ∀ (l acc : List Key), acc.Nodup → (l.foldl addK acc).Nodup ∧ (∀ j, j ∈ l.foldl addK acc ↔ j ∈ acc ∨ j ∈ l) ∧ (l.foldl addK acc).length ≤ acc.length + l.length
  | [], acc, h => ⟨h, fun j => by simp, Nat.le_refl _⟩
  | k :: l, acc, h => by
    obtain ⟨a, b, c⟩ := ded_facts l (addK acc k) (nd_addK h)
    refine ⟨a, fun j => ?_, ?_⟩
    · rw [List.foldl_cons, b j, mem_addK, List.mem_cons, or_assoc]
    · have := len_addK (ks := acc) (k := k)
      rw [List.foldl_cons, List.length_cons]; omega
theorem ded_next {ks : List Key} {i : Nat} {k : Key} (h : ks[i]? = some k) : dedK (ks.take (i + 1)) = addK (dedK (ks.take i)) k := by
  obtain ⟨h1, h2⟩ := List.getElem?_eq_some_iff.mp h
  unfold dedK
  rw [List.take_succ, List.foldl_append, h]
  rfl
theorem setX_new_at {w : World} {h : Heap} {a : Addr} (ho : h.get? a = some { cls := .type "set", dict := none, data := .set #[] 0 (.fresh 0 0 (!w.params.followText "set-order")) }) : SetX w h a [] := by
  obtain ⟨o, es, ep, t, h1, h2, h3, h4, h5, h6, h7, h8, h9, h10, h11⟩ := setR_new_at (ns := []) ho
  have e : es = #[] := Array.eq_empty_of_size_eq_zero h9
  subst e
  exact ⟨o, #[], ep, t, h1, ⟨h2, h3⟩, ⟨fun e he => (by simp at he), by simp, List.nodup_nil⟩, ⟨h7, h8, h10⟩, h11⟩
section
variable {prog : Program} {w : World} {A : Around} {R : Result → Shared → Prop} {I : Addr} {fp wr : List Addr} {G : Array GenState → Array GenState → Prop} {n : Nat} {P : Nat → Value → Prop} {St : Nat → Shared → Prop}
theorem update_keys (W : WalksS prog w A.in1 I fp wr G n P St) (S : Addr) (hSf : S ∉ fp) (ks : List Key) (hval : ∀ i v, P i v → ∃ k, ks[i]? = some k ∧ keyIs k v = true) (hks : ks.length = n) (hb : n + 1 < scanBound) : ∀ (f i : Nat) (s : Shared), n - i = f → i ≤ n → St i s →
    SetX w s.heap S (dedK (ks.take i)) → (∀ s', Moved (S :: wr) G s s' → SetX w s'.heap S (dedK ks) → R (.ok (.ret .none)) s') → codeAny (model prog w) A (.builtin "set.update.loop" ⟨[.ref S, .ref I], []⟩) R s := by
  have nS : S ∉ wr := fun h => hSf (W.sub _ h)
  have up : ∀ b ∈ wr, b ∈ S :: wr := fun b hb => List.mem_cons_of_mem _ hb
  intro f
  induction f with
  | zero =>
    intro i s hf hi hst hS hR
    obtain rfl : i = n := by omega
    refine codeAny_builtin PyProof.Rows.F.entry_set_update_loop ?_; rw [Around.under_plainId PyProof.Rows.F.plain_set_update_loop _]
    refine wpAny_bind (m := pyNext (.ref I)) (W.done s _ _ hst fun s' hm => ?_)
    refine wpAny_pure (hR s' (hm.mono up) ?_)
    rw [List.take_of_length_le (by omega)] at hS
    exact hS.keep fun o ho => hm.heap S _ nS ho
  | succ f ih =>
    intro i s hf hi hst hS hR
    have lt : i < n := by omega
    refine codeAny_builtin PyProof.Rows.F.entry_set_update_loop ?_; rw [Around.under_plainId PyProof.Rows.F.plain_set_update_loop _]
    refine wpAny_bind (m := pyNext (.ref I)) (W.item i s _ _ lt hst fun v s' hP hst' hm => ?_)
    obtain ⟨k, hk, kv⟩ := hval i v hP
    have hS2 : SetX w s'.heap S (dedK (ks.take i)) := hS.keep fun o ho => hm.heap S _ nS ho
    have room : (dedK (ks.take i)).length + 1 < scanBound := by
      have := (ded_facts (ks.take i) [] List.nodup_nil).2.2
      rw [List.length_take, List.length_nil] at this
      unfold dedK; omega
    show wpAny _ A.in1 (holding [v] (setAdd S v) >>= _) _ _ s'
    unfold setAdd
    refine wpAny_bind (wpAny_holding (wpAny_holding (wpAny_bind ((mixKind prog w).pyHash (k := k) kv ?_))))
    refine addX_hashed (s := { s' with toks := s'.toks + 1 }) kv hS2 room fun b h' sb hS3 => ?_
    rw [← ded_next hk] at hS3
    refine wpAny_pure ⟨plainId_quiet PyProof.Rows.F.plain_set_update_loop _, ih (i + 1) _ (by omega) lt (W.frame _ s' _ _ hst' (Nat.le_succ _) fun b hb o e => ?_) hS3 fun s'' hm'' hS'' => ?_⟩
    · exact (sb.2 b fun z => hSf (z ▸ hb)).trans e
    · refine hR s'' (Moved.trans W.gtrans ((hm.mono up).then_heap (Nat.le_succ _) fun b o hb e => ?_) hm'') hS''
      exact (sb.2 b fun z => hb (z ▸ List.mem_cons_self)).trans e
end
abbrev freshS (w : World) : Obj := { cls := .type "set", dict := none, data := .set #[] 0 (.fresh 0 0 (!w.params.followText "set-order")) }
section
variable {P : Program} {w : World} {A : Around} {E : Value → Shared → Prop} {s : Shared}
set_option maxHeartbeats 3200000 in
theorem call_setX_list {l : Addr} {items : Array Value} (ks : List Key) {Q : Value → Shared → Prop} (hh : A.handled = none) (hl : s.heap.IsList l items) (hit : ∀ (i : Nat) v, items[i]? = some v → ∃ k, ks[i]? = some k ∧ keyIs k v = true) (hks : ks.length = items.size)
    (hb : items.size + 1 < scanBound) (h : ∀ (h' : Heap) (tk : Nat), SetX w h' s.heap.objs.size (dedK ks) → (∀ b o, s.heap.get? b = some o → h'.get? b = some o) → Q (.ref s.heap.objs.size) { s with heap := h', toks := tk }) : wpAny (model P w) A (call (.type "set") [.ref l]) Q E s := by
  obtain ⟨c, tl, hmro⟩ := F.called_set.mro; have hmade := F.called_set.made; have hsub := F.called_set.sub
  refine wpAny_call (codeAny_of_tree (show wpAny _ _ (callAny (.type "set") _) _ _ _ from ?_))
  refine wpAny_pure ⟨Code.quiet_builtin _ (by decide +kernel), codeAny_builtin F.entry_type_call ?_⟩; rw [Around.under_plain (weight_type_call_type "set" [.ref l] []) rfl]
  have h1 := F.called_set.notType; have h2 := F.called_set.canCreate; have hct := F.typeCall_set_1 (.ref l)
  all_goals (repeat (any_goals (first | assumption | wp_step)))
  refine codeAny_mono (code_set_led1 (.ref l) (E := E) (Q₁ := fun obj s₁ => obj = .ref s.heap.objs.size ∧ s₁ = { s with heap := s.heap.push (freshS w) }) ⟨rfl, rfl⟩) fun r s₁ hr => ?_
  match r, hr with
  | .error e, hr => exact hr
  | .ok (.ret obj), hr =>
    obtain ⟨rfl, rfl⟩ := hr
    have hS : (s.heap.push (freshS w)).get? s.heap.objs.size = some (freshS w) := Heap.get?_push_size _ rfl
    have hT : Shared.TypeIs { s with heap := s.heap.push (freshS w) } (.ref s.heap.objs.size) "set" := ⟨_, hS, rfl⟩
    have hli := F.called_set.init.lookup; have hbi := F.called_set.init.bind (.ref s.heap.objs.size)
    all_goals (repeat (any_goals (first | assumption | wp_step)))
    refine codeAny_mono (codeAny_call_builtin (R := wants (fun r s₂ => r = .none ∧ ∃ h' tk, s₂ = { s with heap := h', toks := tk } ∧ SetX w h' s.heap.objs.size (dedK ks) ∧ (∀ b o, s.heap.get? b = some o → h'.get? b = some o)) E) F.called_set.init.plain F.entry_set_init (check_set_init_1 hT ?_)) fun r₂ s₂ hr₂ => ?_
    · obtain ⟨⟨ocls, odict, odata, oslots⟩, hol, hcl, nl, hdl⟩ := hl
      dsimp only at hcl hdl; subst hcl; subst hdl
      have hol' : (s.heap.push (freshS w)).get? l = some { cls := .type "list", dict := odict, data := .seq items nl, slots := oslots } := Heap.get?_push_of_some _ hol
      have hsls := F.sub_list_set; have hslf := F.sub_list_frozenset; have hne : (Value.type "list" == Value.type "dict") = false := by decide
      have hl1 : (s.heap.push (freshS w)).IsList l items := ⟨_, hol', rfl, nl, rfl⟩
      unfold Builtin.«set.__init__» noKeywords Builtin.Frozenset.updateFrom; generalize hPI : pyIter = PI; wp_walk; subst hPI
      refine wpAny_pyIter_list hl1 (wpAny_bind (wpAny_runValue ?_))
      have hlS : l < s.heap.objs.size := Heap.lt_size hol; have hh3 : A.in1.in1.in1.handled = none := by simp [hh]
      have hz1 : (s.heap.push (freshS w)).objs.size = s.heap.objs.size + 1 := Heap.size_push ..
      have hneI : l ≠ (s.heap.push (freshS w)).objs.size := by rw [hz1]; exact Nat.ne_of_lt (Nat.lt_succ_of_lt hlS)
      have hSf : s.heap.objs.size ∉ [(s.heap.push (freshS w)).objs.size, l] := by
        rw [hz1]; simp only [List.mem_cons, List.mem_singleton, List.not_mem_nil, or_false, not_or]; exact ⟨Nat.ne_of_lt (Nat.lt_succ_self _), Nat.ne_of_gt hlS⟩
      refine update_keys ((Walks.list hh3 _ l hneI items).toS) s.heap.objs.size hSf ks hit hks hb (items.size - 0) 0 _ (by omega) (Nat.zero_le _) ⟨⟨_, Heap.get?_push_size _ rfl, rfl, rfl⟩, (hl1.push _)⟩ (setX_new_at (Heap.get?_push_of_some _ hS)) ?_
      rintro ⟨h', g2, d', tk', os'⟩ hm hS'
      have eg : g2 = s.gens := hm.gens; have ed : d' = s.drawn := hm.drawn; have eo : os' = s.os := hm.os
      subst eg; subst ed; subst eo
      show wpAny _ _ _ _ _ _; refine wpAny_pure ?_; show wpAny _ _ (ret Value.none) _ _ _; refine wpAny_pure ⟨rfl, h', tk', rfl, hS', fun b o e => ?_⟩
      have hb0 : b < s.heap.objs.size := Heap.lt_size e
      exact hm.heap b o (by rw [hz1]; simp only [List.mem_cons, List.mem_singleton, List.not_mem_nil, or_false, not_or]; exact ⟨Nat.ne_of_lt hb0, Nat.ne_of_lt (Nat.lt_succ_of_lt hb0)⟩) (Heap.get?_push_of_some _ (Heap.get?_push_of_some _ e))
    · match r₂, hr₂ with
      | .error e, hr₂ => exact hr₂
      | .ok (.ret r), hr₂ =>
        obtain ⟨rfl, h', tk, rfl, hS', hk'⟩ := hr₂
        all_goals (repeat (any_goals (first | assumption | wp_step)))
        exact h _ _ hS' hk'
set_option maxHeartbeats 3200000 in
theorem call_setX_tuple {l : Addr} {items : Array Value} (ks : List Key) {Q : Value → Shared → Prop} (hh : A.handled = none) (hl : s.heap.IsTuple l items) (hit : ∀ (i : Nat) v, items[i]? = some v → ∃ k, ks[i]? = some k ∧ keyIs k v = true) (hks : ks.length = items.size)
    (hb : items.size + 1 < scanBound) (h : ∀ (h' : Heap) (tk : Nat), SetX w h' s.heap.objs.size (dedK ks) → (∀ b o, s.heap.get? b = some o → h'.get? b = some o) → Q (.ref s.heap.objs.size) { s with heap := h', toks := tk }) : wpAny (model P w) A (call (.type "set") [.ref l]) Q E s := by
  obtain ⟨c, tl, hmro⟩ := F.called_set.mro; have hmade := F.called_set.made; have hsub := F.called_set.sub
  refine wpAny_call (codeAny_of_tree (show wpAny _ _ (callAny (.type "set") _) _ _ _ from ?_))
  refine wpAny_pure ⟨Code.quiet_builtin _ (by decide +kernel), codeAny_builtin F.entry_type_call ?_⟩; rw [Around.under_plain (weight_type_call_type "set" [.ref l] []) rfl]
  have h1 := F.called_set.notType; have h2 := F.called_set.canCreate; have hct := F.typeCall_set_1 (.ref l)
  all_goals (repeat (any_goals (first | assumption | wp_step)))
  refine codeAny_mono (code_set_led1 (.ref l) (E := E) (Q₁ := fun obj s₁ => obj = .ref s.heap.objs.size ∧ s₁ = { s with heap := s.heap.push (freshS w) }) ⟨rfl, rfl⟩) fun r s₁ hr => ?_
  match r, hr with
  | .error e, hr => exact hr
  | .ok (.ret obj), hr =>
    obtain ⟨rfl, rfl⟩ := hr
    have hS : (s.heap.push (freshS w)).get? s.heap.objs.size = some (freshS w) := Heap.get?_push_size _ rfl
    have hT : Shared.TypeIs { s with heap := s.heap.push (freshS w) } (.ref s.heap.objs.size) "set" := ⟨_, hS, rfl⟩
    have hli := F.called_set.init.lookup; have hbi := F.called_set.init.bind (.ref s.heap.objs.size)
    all_goals (repeat (any_goals (first | assumption | wp_step)))
    refine codeAny_mono (codeAny_call_builtin (R := wants (fun r s₂ => r = .none ∧ ∃ h' tk, s₂ = { s with heap := h', toks := tk } ∧ SetX w h' s.heap.objs.size (dedK ks) ∧ (∀ b o, s.heap.get? b = some o → h'.get? b = some o)) E) F.called_set.init.plain F.entry_set_init (check_set_init_1 hT ?_)) fun r₂ s₂ hr₂ => ?_
    · obtain ⟨⟨ocls, odict, odata, oslots⟩, hol, hcl, nl, hdl⟩ := hl
      dsimp only at hcl hdl; subst hcl; subst hdl
      have hol' : (s.heap.push (freshS w)).get? l = some { cls := .type "tuple", dict := odict, data := .seq items nl, slots := oslots } := Heap.get?_push_of_some _ hol
      have hsls := F.sub_tuple_set; have hslf := F.sub_tuple_frozenset; have hne : (Value.type "tuple" == Value.type "dict") = false := by decide
      have hl1 : (s.heap.push (freshS w)).IsTuple l items := ⟨_, hol', rfl, nl, rfl⟩
      unfold Builtin.«set.__init__» noKeywords Builtin.Frozenset.updateFrom; generalize hPI : pyIter = PI; wp_walk; subst hPI
      refine wpAny_pyIter_tuple hl1 (wpAny_bind (wpAny_runValue ?_))
      have hlS : l < s.heap.objs.size := Heap.lt_size hol; have hh3 : A.in1.in1.in1.handled = none := by simp [hh]
      have hz1 : (s.heap.push (freshS w)).objs.size = s.heap.objs.size + 1 := Heap.size_push ..
      have hneI : l ≠ (s.heap.push (freshS w)).objs.size := by rw [hz1]; exact Nat.ne_of_lt (Nat.lt_succ_of_lt hlS)
      have hSf : s.heap.objs.size ∉ [(s.heap.push (freshS w)).objs.size, l] := by
        rw [hz1]; simp only [List.mem_cons, List.mem_singleton, List.not_mem_nil, or_false, not_or]; exact ⟨Nat.ne_of_lt (Nat.lt_succ_self _), Nat.ne_of_gt hlS⟩
      refine update_keys ((Walks.tuple hh3 _ l hneI items).toS) s.heap.objs.size hSf ks hit hks hb (items.size - 0) 0 _ (by omega) (Nat.zero_le _) ⟨⟨_, Heap.get?_push_size _ rfl, rfl, rfl⟩, (hl1.push _)⟩ (setX_new_at (Heap.get?_push_of_some _ hS)) ?_
      rintro ⟨h', g2, d', tk', os'⟩ hm hS'
      have eg : g2 = s.gens := hm.gens; have ed : d' = s.drawn := hm.drawn; have eo : os' = s.os := hm.os
      subst eg; subst ed; subst eo
      show wpAny _ _ _ _ _ _; refine wpAny_pure ?_; show wpAny _ _ (ret Value.none) _ _ _; refine wpAny_pure ⟨rfl, h', tk', rfl, hS', fun b o e => ?_⟩
      have hb0 : b < s.heap.objs.size := Heap.lt_size e
      exact hm.heap b o (by rw [hz1]; simp only [List.mem_cons, List.mem_singleton, List.not_mem_nil, or_false, not_or]; exact ⟨Nat.ne_of_lt hb0, Nat.ne_of_lt (Nat.lt_succ_of_lt hb0)⟩) (Heap.get?_push_of_some _ (Heap.get?_push_of_some _ e))
    · match r₂, hr₂ with
      | .error e, hr₂ => exact hr₂
      | .ok (.ret r), hr₂ =>
        obtain ⟨rfl, h', tk, rfl, hS', hk'⟩ := hr₂
        all_goals (repeat (any_goals (first | assumption | wp_step)))
        exact h _ _ hS' hk'
end
end Kf

/-! Kf, sets: sorted(set(xs)). -/
namespace Kf
open PySem PySem.Spec PySem.Calls PyProof PyProof.Rows L2
def valS : Value → Str | .str x _ => x | _ => Str.empty
def valI : Value → Int | .int i _ => i | _ => 0
def keyS : Key → Str | .inr x => x | .inl _ => Str.empty
def keyN : Key → Int | .inl i => i | .inr _ => 0
section
variable {P : Program} {w : World} {A : Around} {E : Value → Shared → Prop} {s : Shared} {a : Addr} {ks : List Key}
theorem keyS_val {e : Int × Value} (g : GoodX w e) : keyS (keyX e) = valS e.2 := by
  obtain ⟨j, hj, _⟩ := g
  obtain ⟨eh, ev⟩ := e
  rcases keyIs_shape hj with ⟨i, t, rfl, e2⟩ | ⟨x, t, rfl, e2⟩ <;> (cases e2; rfl)
theorem keyN_val {e : Int × Value} (g : GoodX w e) : keyN (keyX e) = valI e.2 := by
  obtain ⟨j, hj, _⟩ := g
  obtain ⟨eh, ev⟩ := e
  rcases keyIs_shape hj with ⟨i, t, rfl, e2⟩ | ⟨x, t, rfl, e2⟩ <;> (cases e2; rfl)
theorem sortedX_str {xs : List Str} {Q : Value → Shared → Prop} (R : SetX w s.heap a ks) (hks : ks.Perm (xs.map Sum.inr)) (hh : A.handled = none) (h64 : xs.length < 64)
    (hQ : ∀ s' p (out : Array Value) (c : Nat) (ys : List Str), (∀ b o, s.heap.get? b = some o → s'.heap.get? b = some o) → s'.gens = s.gens → s'.os = s.os → s.heap.objs.size ≤ p → s'.heap.get? p = some (seqObj "list" out c) → StrsAre out.toList ys → ys.Perm xs → sortedS ys = true → Q (.ref p) s') :
    wpAny (model P w) A (call (.builtin "sorted") [.ref a]) Q E s := by
  obtain ⟨o, es, ep, t, ho, ⟨hex, hd⟩, ⟨g, pm0, nd⟩, ⟨hb, hf, hr⟩, hl⟩ := R
  refine Calls.call_function_entry PyProof.Rows.kind_sorted PyProof.Rows.plain_sorted PyProof.Rows.entry_sorted (PyProof.Rows.args_sorted1 _) ?_; unfold Builtin.«sorted»
  refine wpAny_bind (m := checkCount "sorted" 1 1 _) (wpAny_pure ?_)
  refine wpAny_bind (collect_set (A := A.in1) hh ⟨o, ho, hex.1, hd⟩ hf hb hr hl fun s1 vs k1 hz g1 o1 pm => ?_)
  have pk := pm0.trans hks
  have px : (es.toList.map fun e => valS e.2).Perm xs := by
    have q := pk.map keyS
    rw [List.map_map, List.map_map] at q
    have e1 : es.toList.map (keyS ∘ keyX) = es.toList.map fun e => valS e.2 := List.map_congr_left fun e he => keyS_val (g e he)
    have e2 : xs.map (keyS ∘ Sum.inr) = xs := by
      have : (keyS ∘ Sum.inr : Str → Str) = id := rfl
      rw [this, List.map_id]
    rw [e1, e2] at q
    exact q
  have pv : (vs.map valS).Perm xs := by
    have q := pm.map valS
    rw [List.map_map] at q
    exact q.trans px
  have hlen : vs.length = xs.length := by have := pv.length_eq; rw [List.length_map] at this; exact this
  have hS : StrsAre vs (vs.map valS) := L2.strs_at (List.length_map ..).symm fun j v e => by
    obtain ⟨e', he', q⟩ := List.mem_map.mp (pm.mem_iff.mp (List.mem_of_getElem? e))
    obtain ⟨k, hk, _⟩ := id (g e' he')
    have kin : keyX e' ∈ xs.map (Sum.inr : Str → Key) := pk.mem_iff.mp (List.mem_map.mpr ⟨e', he', rfl⟩)
    obtain ⟨x, _, ex⟩ := List.mem_map.mp kin
    have ek := (goodX_is (g e' he') k).mp hk
    rcases keyIs_shape hk with ⟨i, t, rfl, e2⟩ | ⟨y, t, rfl, e2⟩
    · rw [← ex] at ek; cases ek
    · rw [q] at e2; subst e2
      exact ⟨y, t, by rw [List.getElem?_map, e]; rfl, rfl⟩
  refine wpAny_bind (wpAny_newList ?_ (by rw [hlen, sizeLine_eq]; omega))
  have hoL : (s1.heap.push (seqObj "list" vs.toArray 0)).get? s1.heap.objs.size = some (seqObj "list" vs.toArray 0) := Heap.get?_push_size _ rfl
  refine wpAny_bind (wpAny_holding (wpAny_call_entry PyProof.Rows.slot_list_sort ⟨_, hoL, rfl⟩ PyProof.Rows.entry_list_sort (list_sort_treeK strKind_oneLt hoL hS.keysOf (fun v₁ v₂ rest e => keyKind_strs (by rw [← e]; exact hS)) (by rw [hlen]; exact h64) fun st' hp hs => ⟨_, rfl, ?_⟩) (PyProof.Rows.args_list_sort _)))
  obtain ⟨ys, y1, y2, y3⟩ := sorted_out_str hS hp hs
  obtain ⟨c, hc⟩ := PyProof.Rows.sortedHeap_at (vs := vs) (out := (arrOf st').map (·.2)) hoL
  refine wpAny_pure ⟨_, rfl, hQ _ s1.heap.objs.size _ c ys (fun b u e => ?_) g1 o1 hz hc y1 (y2.trans pv) y3⟩
  have q := k1 b u e; have hlt := Heap.lt_size q
  show (sortedHeap (s1.heap.push (seqObj "list" vs.toArray 0)) s1.heap.objs.size vs _).get? b = some u
  rw [PyProof.Rows.sortedHeap_old (Nat.ne_of_lt hlt) (by rw [size_push']; exact Nat.lt_succ_of_lt hlt)]; exact Heap.get?_push_of_some _ q
end
end Kf

/-! Kf: sorted(set(xs)) of texts. -/
namespace Kf
open PySem PySem.Spec PySem.Calls PyProof PyProof.Rows L2
def SetXO (w : World) (a : Addr) (ks : List Key) : HO := .ext fun h => SetX w h a ks
theorem setXO_new {w : World} {P : Program} {H : Hp} {h : Heap} {a : Addr} {ks : List Key} (R : SetX w h a ks) : ObjOk P w H h a (SetXO w a ks) := by
  obtain ⟨o, ho, _⟩ := R.typ
  exact ⟨R, ⟨o, ho⟩, fun h1 h2 p k => SetX.keep p k⟩
theorem keys_at {P : Program} {w : World} : ∀ {ks : List Key} {us : List Value}, Vals (ks.map kV) us → ∀ (i : Nat) u, us[i]? = some u → ∃ k, ks[i]? = some k ∧ keyIs k u = true
  | [], _, .nil, i, u, h => by simp at h
  | k :: ks, _, .cons a b, 0, u, h => by
    cases h
    exact ⟨k, rfl, kV_is (P := P) (w := w) a⟩
  | k :: ks, _, .cons a b, i + 1, u, h => keys_at (P := P) (w := w) b i u (by simpa using h)
section
variable {X : Cx}
theorem cr_setX (hc : X.calm = true) : CallR X (.type "set") fun xs H Q => ∃ (l : Addr) (ks : List Key), xs = [V.ref l] ∧ (SqL X.K H l (ks.map kV) ∨ SqT X.K H l (ks.map kV)) ∧ ks.length + 1 < scanBound ∧ ∀ a, H a = none → Q (.ref a) (upd H a (SetXO X.w a (dedK ks))) := by
  intro pins s σ H xs us Q I r ⟨l, ks, ex, hl, hf, q⟩
  subst ex
  rw [Vals.ref1 r]
  have hn : H s.heap.objs.size = none := I.hok.fresh (Nat.le_refl _)
  rcases hl with hl | hl
  · obtain ⟨its, rv, pl, hz⟩ := I.list hl
    have hsz : ks.length = its.toArray.size := by have := rv.length; simpa using this
    exact call_setX_list (P := X.prog) (w := X.w) ks (I.ok.hd hc) pl.isList (fun i v e => keys_at (P := X.prog) (w := X.w) rv i v (by simpa using e)) hsz (by rw [← hsz]; exact hf)
      fun h' tk R k => ⟨.ref s.heap.objs.size, upd H s.heap.objs.size (SetXO X.w s.heap.objs.size (dedK ks)), I.laid (t' := tk) k (Nat.le_refl _) (setXO_new R), rfl, q _ hn⟩
  · obtain ⟨its, rv, pl, hz⟩ := I.tuple hl
    have hsz : ks.length = its.toArray.size := by have := rv.length; simpa using this
    exact call_setX_tuple (P := X.prog) (w := X.w) ks (I.ok.hd hc) pl (fun i v e => keys_at (P := X.prog) (w := X.w) rv i v (by simpa using e)) hsz (by rw [← hsz]; exact hf)
      fun h' tk R k => ⟨.ref s.heap.objs.size, upd H s.heap.objs.size (SetXO X.w s.heap.objs.size (dedK ks)), I.laid (t' := tk) k (Nat.le_refl _) (setXO_new R), rfl, q _ hn⟩
theorem cr_sortedX (hc : X.calm = true) : CallR X (.builtin "sorted") fun vs H Q => ∃ (a : Addr) (ks : List Key) (xs : List Str), vs = [V.ref a] ∧ H a = some (SetXO X.w a ks) ∧ ks.Perm (xs.map Sum.inr) ∧ xs.length < 64 ∧ ∀ ys p, ys.Perm xs → sortedS ys = true → H p = none → Q (.ref p) (upd H p (.lst (ys.map V.str))) := by
  intro pins s σ H vs us Q I r ⟨a, ks, xs, ex, ha, hks, h64, q⟩
  subst ex
  rw [Vals.ref1 r]
  have R : SetX X.w s.heap a ks := (I.hok a _ ha).1
  refine sortedX_str (P := X.prog) R hks (I.ok.hd hc) h64 fun s' p out c ys k g o hp hg hi pm hs => ?_
  have hlen : (ys.map V.str).length ≤ sizeLine := by rw [List.length_map, pm.length_eq]; exact Nat.le_trans (Nat.le_of_lt h64) (by decide)
  have hn : H p = none := I.hok.fresh hp
  have J : Inv X pins σ (upd H p (.lst (ys.map V.str))) { s with heap := s'.heap, gens := s'.gens, drawn := s'.drawn, toks := s'.toks } :=
    I.call (ch := []) (Un.laid k hp hn) (I.hok.laid k hp ⟨hlen, out.toList, c, vals_of_strs hi, hg⟩) (by rw [g]; exact I.bare) (fun _ z => nomatch z)
  have e : s' = { s with heap := s'.heap, gens := s'.gens, drawn := s'.drawn, toks := s'.toks } := by
    obtain ⟨_, _, _, _, _⟩ := s'; cases o; rfl
  rw [e]; exact ⟨.ref p, _, J, rfl, q ys p pm hs hn⟩
end
end Kf

/-! Kf: sorted(set(xs)) of texts, by data. -/
namespace Kf
open PySem PySem.Spec PySem.Calls PyProof PyProof.Rows L2
theorem rpS {K : PySem.W.Frag} {H : Hp} : ∀ {zs : List Str} {vs : List V}, RpAll K H vs (zs.map PyData.str) → vs = zs.map V.str
  | [], _, .nil => rfl
  | z :: zs, _, .cons a b => by
    cases a
    rw [rpS b]; rfl
theorem nodup_len {α : Type} [DecidableEq α] : ∀ (l ps : List α), l.Nodup → (∀ x, x ∈ l → x ∈ ps) → l.length ≤ ps.length
  | [], _, _, _ => Nat.zero_le _
  | x :: l, ps, nd, h => by
    have hx := h x List.mem_cons_self
    have ih := nodup_len l (ps.erase x) (List.nodup_cons.mp nd).2 fun y hy => (List.mem_erase_of_ne (show y ≠ x from fun e => by subst e; exact (List.nodup_cons.mp nd).1 hy)).mpr (h y (List.mem_cons_of_mem _ hy))
    rw [List.length_erase_of_mem hx] at ih
    have := List.length_pos_of_mem hx
    rw [List.length_cons]; omega
section
variable {X : Cx}
def dSortSet (t : TDa) : TD := fun ρ M k => t ρ M fun xs M1 => ∃ x d, ∃ (zs : List Str), xs = [x] ∧ cview M1 x = some d ∧ items d = some (zs.map PyData.str) ∧ zs.length < 4000 ∧ (∃ ps : List Str, ps.length < 64 ∧ ∀ z, z ∈ zs → z ∈ ps) ∧
  ∀ ys : List Str, ys.Nodup → (∀ z, z ∈ ys ↔ z ∈ zs) → sortedS ys = true → k (.dat (.list (ys.map PyData.str))) M1
theorem q_sortSet {x y : Str} {e : Expr} {es : List Expr} {t : TDa} {p p2 pos pos2 : Pos} (hc : X.calm = true) (hg : Gl X x) (hm : X.mg x = none) (hv : bootBuiltins x = some (.builtin "sorted")) (hg2 : Gl X y) (hm2 : X.mg y = none) (hv2 : bootBuiltins y = some (.type "set")) (ha : QA X (e :: es) t)
    (hn : x ≠ "__name__" := by decide) (hd : (x == ("__debug__" : Str)) = false := by decide) (hn2 : y ≠ "__name__" := by decide) (hd2 : (y == ("__debug__" : Str)) = false := by decide)
    (hs2 : starEach (e :: es) X.env = (false, eval e X.env) :: starEach es X.env := by rfl) (h22 : (backTo pos2 (starEach es X.env)).any (·.1) = false := by rfl)
    (hs : starEach [Expr.Call (.Name y p2) (e :: es) [] pos2] X.env = (false, eval (Expr.Call (.Name y p2) (e :: es) [] pos2) X.env) :: starEach [] X.env := by rfl) (h2 : (backTo pos (starEach [] X.env)).any (·.1) = false := by rfl) :
    QE X (.Call (.Name x p) [.Call (.Name y p2) (e :: es) [] pos2] [] pos) (dSortSet t) := by
  refine ⟨PE.weak (pe_callB (cr_sortedX hc) hg hm hv (pa_cons (pe_callTy (cr_setX hc) hg2 hm2 hv2 ha.pa hn2 hd2 hs2 h22) pa_nil) hn hd hs h2) fun σ H Q h => ?_⟩
  obtain ⟨B, ρ, M, k, ok, rs, t, f⟩ := h
  refine bindA ok rs t fun xs M1 vs H1 q e o r rs1 => ?_
  obtain ⟨x, d, zs, rfl, hv, hi, hl, ⟨ps, hp1, hp2⟩, hk⟩ := q
  obtain ⟨v, rfl, rv⟩ := RVs.one r
  have ek : (zs.map (Sum.inr : Str → Key)).map kV = zs.map V.str := by rw [List.map_map]; rfl
  obtain ⟨f1, f2, f3⟩ := ded_facts (zs.map (Sum.inr : Str → Key)) [] List.nodup_nil
  have all : ∀ j, j ∈ dedK (zs.map Sum.inr) → Sum.inr (keyS j) = j := fun j hj => by
    rcases (f2 j).mp hj with z | z
    · exact absurd z List.not_mem_nil
    · obtain ⟨w, _, rfl⟩ := List.mem_map.mp z; rfl
  have back : ((dedK (zs.map Sum.inr)).map keyS).map Sum.inr = dedK (zs.map Sum.inr) := by
    rw [List.map_map]
    exact (List.map_congr_left fun j hj => all j hj).trans (List.map_id _)
  have mem0 : ∀ z, z ∈ (dedK (zs.map Sum.inr)).map keyS ↔ z ∈ zs := fun z => by
    rw [List.mem_map]
    constructor
    · rintro ⟨j, hj, rfl⟩
      rcases (f2 j).mp hj with w | w
      · exact absurd w List.not_mem_nil
      · obtain ⟨w, hw, rfl⟩ := List.mem_map.mp w; exact hw
    · exact fun hz => ⟨.inr z, (f2 _).mpr (.inr (List.mem_map.mpr ⟨z, hz, rfl⟩)), rfl⟩
  have nd0 : ((dedK (zs.map Sum.inr)).map keyS).Nodup := by
    have q : (((dedK (zs.map Sum.inr)).map keyS).map (Sum.inr : Str → Key)).Nodup := by rw [back]; exact f1
    exact List.Pairwise.of_map _ (fun a b hne e => hne (congrArg _ e)) q
  have len0 : ((dedK (zs.map Sum.inr)).map keyS).length < 64 := Nat.lt_of_le_of_lt (nodup_len _ ps nd0 fun z hz => hp2 z ((mem0 z).mp hz)) hp1
  have hroom : (zs.map (Sum.inr : Str → Key)).length + 1 < scanBound := by rw [List.length_map]; unfold scanBound; omega
  have sq : ∃ a, v = .ref a ∧ (SqL X.K H1 a ((zs.map (Sum.inr : Str → Key)).map kV) ∨ SqT X.K H1 a ((zs.map (Sum.inr : Str → Key)).map kV)) := by
    rw [ek]
    cases d with
    | list ds =>
      obtain ⟨a, ws, rfl, g1, g2⟩ := cview_list o rv hv
      cases hi
      rw [rpS g2] at g1
      exact ⟨a, rfl, .inl (SqL.of g1)⟩
    | tuple ds =>
      obtain ⟨a, ws, rfl, g1, g2⟩ := rv_tup rv hv
      cases hi
      rw [rpS g2] at g1
      exact ⟨a, rfl, .inr g1⟩
    | _ => cases hi
  obtain ⟨a, rfl, sq⟩ := sq
  refine ⟨a, zs.map Sum.inr, rfl, sq, hroom, fun b hb => ⟨b, _, (dedK (zs.map Sum.inr)).map keyS, rfl, upd_same, by rw [back], len0, fun ys q pm hs hq => ?_⟩⟩
  have o1 := ok_new (o := SetXO X.w b (dedK (zs.map Sum.inr))) o hb
  exact f _ M1 (hk ys (pm.nodup_iff.mpr nd0) (fun z => pm.mem_iff.trans (mem0 z)) hs) _ _ (e.trans ((ext_new o hb).trans (ext_new o1 hq))) (ok_new o1 hq) (.lst (fz_new o1 hq) (strs_rp ys))
end
end Kf

/-! Kf: a list times a number, that is written to later. -/
namespace Kf
open PySem PySem.Spec PyProof.Rows L2
section
variable {X : Cx} {a b : Expr} {ta tb : TD} {pos : Pos}
def dRepOwn (tl tn : TD) : TD := fun ρ M k => tl ρ M fun x M1 => tn ρ M1 fun y M2 => ∃ ds, ∃ (j : Int), cview M2 x = some (.list ds) ∧ y = .dat (.int j) ∧ -(2 ^ 63) ≤ j ∧ j < 2 ^ 63 ∧ ds.length * j.toNat ≤ sizeLine ∧ ∀ p, M2 p = none → k (.ref p) (setM M2 p (.lst (List.replicate j.toNat ds).flatten))
theorem q_repOwn (ha : QE X a ta) (hb : QE X b tb) : QE X (.BinOp a .Mult b pos) (dRepOwn ta tb) := by
  refine ⟨PE.weak (pe_op op_rep ha.pe hb.pe) fun σ H Q h => ?_⟩
  obtain ⟨B, ρ, M, k, ok, rs, t, f⟩ := h
  refine bindE ok rs t fun x M1 v H1 q e o r rs1 => bindE o rs1 q fun y M2 u H2 q2 e2 o2 r2 rs2 => ?_
  obtain ⟨ds, j, hx, rfl, b1, b2, b3, hk⟩ := q2
  cases r2
  obtain ⟨p1, vs1, rfl, s1, ra⟩ := cview_list o2 (RV.ext e2 r) hx
  exact ⟨p1, j, vs1, rfl, rfl, s1, b1, b2, by rw [RpAll.length ra]; exact b3, fun p hp => f _ _ (hk p (o2.fresh hp)) _ _ (e.trans (e2.trans (ext_newO o2 hp))) (ok_newO o2 hp ⟨_, upd_same, RpAll.ext (ext_newO o2 hp) (RpAll.repl ra _)⟩) rfl⟩
end
end Kf

/-! Kf: a list taken apart. -/
namespace Kf
open PySem PySem.Spec PyProof.Rows L2
section
variable {X : Cx}
def gdLst (n : Nat) (t : TDgs) : TDg := fun x ρ M k => ∃ ds, cview M x = some (.list ds) ∧ ds.length = n ∧ t ds ρ M k
theorem qg_lst {es : List Expr} {k n : Nat} {t : TDgs} {pos : Pos} (h : QGs X es t) (hc : X.calm = true := by rfl) (hn : (assignEach es X.env).length = n := by rfl)
    (hst : (assignEach es X.env).findIdx? (·.1) = none := by rfl) : QG X (.Tuple es k pos) (gdLst n t) := by
  refine ⟨PG.weak (pg_unl hc h.pgs hn hst) fun v σ H Q h => ?_⟩
  obtain ⟨B, x, ρ, M, k, ok, rs, r, ⟨ds, hv, hl, t⟩, f⟩ := h
  obtain ⟨a, xs, rfl, h1, h2⟩ := cview_list ok r hv
  exact ⟨a, xs, rfl, SqL.of h1, (RpAll.length h2).trans hl, B, ds, ρ, M, k, ok, rs, h2, t, f⟩
end
end Kf

/-! Kf: texts walked and searched; list(range(n)); defs that a name holds. -/
namespace Kf
open PySem PySem.Spec PyProof.Rows L2
section
variable {X : Cx} {o e a : Expr} {es : List Expr} {to te ta : TD} {t : TDa} {apos cpos pos : Pos}
/-! ### a text, sign by sign -/
def signsD (x : Str) : List PyData := x.cps.toList.map fun c => .str ⟨#[c]⟩
theorem signs_get {x : Str} {i c : Nat} (h : x.cps[i]? = some c) : (signsD x)[i]? = some (.str ⟨#[c]⟩) := by
  unfold signsD
  rw [List.getElem?_map, Array.getElem?_toList, h]; rfl
theorem signs_len (x : Str) : (signsD x).length = x.cps.size := by unfold signsD; rw [List.length_map, Array.length_toList]
def diStr (t : TD) : TDi := fun ρ M k => t ρ M fun x M1 => ∃ z, x = .dat (.str z) ∧ k (signsD z) none M1
theorem qi_str {tg : Expr} (h : QE X e te) : QI X tg e (diStr te) := by
  refine ⟨PI.weak (pi_str h.pe) fun σ H R h => ?_⟩
  obtain ⟨B, ρ, M, k, ok, rs, t, f⟩ := h
  refine bindE ok rs t fun x M1 v H1 q e o r rs1 => ?_
  obtain ⟨z, rfl, q⟩ := q
  cases r
  refine ⟨z, rfl, f _ _ M1 q _ H1 e o ⟨fun B' M2 H2 i _ _ _ hi => ?_, fun B' M2 H2 i _ _ _ hi => ?_, fun B' M2 H2 i x H' o2 _ _ hi hy => ?_⟩⟩
  · rw [signs_len] at hi; exact hi
  · rw [signs_len] at hi; exact hi
  · obtain ⟨rfl, c, hc, rfl⟩ := hy
    exact ⟨_, signs_get hc, Ext.refl, o2, .str _⟩
/-! ### find -/
def dFind (to : TD) (t : TDa) : TD := fun ρ M k => to ρ M fun x M1 => ∃ a, x = .dat (.str a) ∧ t ρ M1 fun xs M2 => ∃ b, xs = [.dat (.str b)] ∧ k (.dat (.int (Txt.find a b))) M2
theorem q_find (ho : QE X o to) (ha : QA X [e] t)
    (hbase : attributeBase o "find" X.env (eval o X.env) = eval o X.env := by rfl)
    (hfew : ((backTo cpos (starEach [e] X.env)).all (fun x => !x.1) && (backToKw cpos (keywordEach [] X.env)).all (fun x => x.1.isSome)
      && decide ([e].length + ([] : List Keyword).length + (if ([] : List Keyword).isEmpty then 0 else 1) < 30)) = true := by rfl)
    (hline : (apos.endLine == cpos.line) = true := by rfl) (hs : starEach [e] X.env = (false, eval e X.env) :: starEach [] X.env := by rfl) (hplain : (backTo cpos (starEach [] X.env)).any (·.1) = false := by rfl) :
    QE X (.Call (.Attribute o "find" apos) [e] [] cpos) (dFind to t) := by
  refine ⟨PE.weak (pe_bm PySem.F.plainAttrs_str PySem.F.slot_str_find PySem.F.type_str_find mt_find ho.pe ha.pa hbase hfew hline hs hplain) fun σ H Q h => ?_⟩
  obtain ⟨B, ρ, M, k, ok, rs, t, f⟩ := h
  refine bindE ok rs t fun x M1 v H1 q e o r rs1 => ?_
  obtain ⟨a, rfl, q⟩ := q
  cases r
  refine ⟨rfl, bindA o rs1 q fun xs M2 us H2 q2 e2 o2 r2 rs2 => ?_⟩
  obtain ⟨b, rfl, q2⟩ := q2
  obtain ⟨u, rfl, ru⟩ := RVs.one r2
  cases ru
  exact ⟨a, b, rfl, rfl, f _ M2 q2 _ _ (e.trans e2) o2 (.int _)⟩
/-! ### list(range(n)) -/
def dListRange (t : TD) : TD := fun ρ M k => t ρ M fun x M1 => ∃ j : Int, x = .dat (.int j) ∧ 0 ≤ j ∧ j ≤ 16777216 ∧ k (.dat (.list (rangeD 0 j.toNat))) M1
theorem rg_rp {K : PySem.W.Frag} {H : Hp} {j : Int} : RpAll K H (rgV 0 j) (rangeD 0 j.toNat) := by
  unfold rgV rangeD
  rw [Int.sub_zero]
  generalize List.range j.toNat = l
  induction l with
  | nil => exact .nil
  | cons i l ih => exact .cons (.int _) ih
theorem q_listRange {p p2 pos2 : Pos} (hc : X.calm = true) (hg : Gl X "list") (hm : X.mg "list" = none) (hg2 : Gl X "range") (hm2 : X.mg "range" = none) (ha : QE X a ta)
    (na2 : starEach [a] X.env = (false, eval a X.env) :: starEach [] X.env := by rfl)
    (na : starEach [Expr.Call (.Name "range" p2) [a] [] pos2] X.env = (false, eval (Expr.Call (.Name "range" p2) [a] [] pos2) X.env) :: starEach [] X.env := by rfl) :
    QE X (.Call (.Name "list" p) [.Call (.Name "range" p2) [a] [] pos2] [] pos) (dListRange ta) := by
  refine ⟨PE.weak (pe_listRg hc hg hm (prg_1 hg2 hm2 ha.pe na2) na) fun σ H Q h => ?_⟩
  obtain ⟨B, ρ, M, k, ok, rs, t, f⟩ := h
  refine bindE ok rs t fun x M1 v H1 q e o r rs1 => ?_
  obtain ⟨j, rfl, h1, h2, q⟩ := q
  cases r
  refine ⟨j, rfl, RgOk.of_le (Int.le_refl _) h2 (by decide) h1, fun p hp => ?_⟩
  exact f _ M1 q _ _ (e.trans (ext_new o hp)) (ok_new o hp) (.lst (fz_new o hp) rg_rp)
/-! ### a def that a name holds -/
def dCallL (i : Nat) (S : Addr → DSp → Prop) (t : TDa) : TD := fun ρ M k => ∃ f sp, ρ[i]? = some (some (.ref f)) ∧ S f sp ∧ t ρ M fun ds M1 => sp ds M1 k
theorem q_callL {k i : Nat} {S : Addr → DSp → Prop} {x : Str} {p : Pos} (A : ∀ f sp, S f sp → Held X.prog X.w X.K X.mg X.base k f (liftP X.K X.prog X.w sp)) (hr : Room k X.A) (hN : X.N[i]? = some x := by rfl) (hv : Vis X.env.scope x := by first | exact Or.inl rfl | exact Or.inr (Or.inl rfl) | exact Or.inr (Or.inr rfl)) (ha : QA X (e :: es) t)
    (hdb : (x == ("__debug__" : Str)) = false := by decide) (hcd : (x == ("__classdict__" : Str)) = false := by decide)
    (he : starEach (e :: es) X.env = (false, eval e X.env) :: starEach es X.env := by rfl) (hpl : (backTo pos (starEach es X.env)).any (·.1) = false := by rfl) : QE X (.Call (.Name x p) (e :: es) [] pos) (dCallL i S t) := by
  refine ⟨⟨fun pins s σ H Q I h => ?_⟩⟩
  obtain ⟨B, ρ, M, k1, ok, rs, ⟨f, sp, hi, hS, t⟩, g⟩ := h
  obtain ⟨v, hv1, hv2⟩ := rs.2 i _ hi
  cases hv2
  refine (pe_callA (S := fun a => if a = f then some (liftP X.K X.prog X.w sp) else none) (fun a sp' h' => ?_) hr hN hv ha.pa hdb hcd he hpl).run pins s σ H Q I ⟨f, _, hv1, if_pos rfl, ?_⟩
  · split at h'
    · rename_i e; cases h'; rw [e]; exact A f sp hS
    · cases h'
  · refine bindA ok rs t fun xs M1 vs H1 q e o r rs1 => ?_
    exact ⟨B, xs, M1, k1, o, r, q, fun d M' hk v H' e' o' r' => g d M' hk v H' (e.trans e') o' r'⟩
theorem held_of {P : Program} {w : World} {K : PySem.W.Frag} {mg : Str → Option Value} {base : Heap} {f : Addr} {fd : FuncData} {ps : List Str} {sp : DSp} {j k : Nat} (F : FnOk P w K mg base CX0 j f fd ps (liftP K P w sp)) (hj : j ≤ k) (hk : PySem.W.keepIn K (.ref f) = true) (hb : Binds K fd ps []) : Held P w K mg base k f (liftP K P w sp) := ⟨fd, ps, F.mono hj, hk, hb⟩
/-! ### for over a written tuple of defs -/
def forV (g : TDg) (tb : TDs) (De : DEnds) : List DV → Rho → MS → Prop
  | [], ρ, M => De.nx ρ M
  | d :: ds, ρ, M => g d ρ M fun ρ1 M1 => tb { De with nx := forV g tb De ds, ct := forV g tb De ds, bk := De.nx } ρ1 M1
def dForV (ta : TDa) (g : TDg) (tb : TDs) : TDs := fun De ρ M => ta ρ M fun xs M1 => (∀ x, x ∈ xs → ∃ f, x = .ref f) ∧ xs.length ≤ sizeLine ∧ forV g tb De xs ρ M1
theorem refs_at {K : PySem.W.Frag} {B : List Addr} {M : MS} {H : Hp} {vs : List V} {xs : List DV} (r : RVs K B M H vs xs) (hx : ∀ x, x ∈ xs → ∃ f, x = .ref f) {i : Nat} {x : DV} (h : xs[i]? = some x) : ∃ f, x = .ref f ∧ vs[i]? = some (.ref f) := by
  induction r generalizing i with
  | nil => simp at h
  | @cons a b l l' rv t ih =>
    cases i with
    | zero =>
      simp at h; subst h
      obtain ⟨f, rfl⟩ := hx _ List.mem_cons_self
      cases rv
      exact ⟨f, rfl, rfl⟩
    | succ i =>
      obtain ⟨f, h1, h2⟩ := ih (fun x q => hx x (List.mem_cons_of_mem _ q)) (i := i) (by simpa using h)
      exact ⟨f, h1, by simpa using h2⟩
theorem lift_forV {ta : TDa} {g : TDg} {tb : TDs} {D : Ends} {σ : L2.St} {H : Hp} (h : liftS X (dForV ta g tb) D σ H) : tFor (iTup X.K (tTup (liftA X ta))) (liftG X g) (liftS X tb) D σ H := by
  obtain ⟨B, ρ, M, De, ok, rs, t, f⟩ := h
  refine bindA ok rs t fun xs M1 vs H1 q e o r rs1 => ?_
  obtain ⟨hx, hl, q⟩ := q
  refine ⟨by rw [Paired.len r]; exact hl, fun p hp => ⟨p, rfl, ⟨vs, SqT.of upd_same⟩, ?_⟩⟩
  have en := ext_new (o := .tup vs) o hp
  have on := ok_new (o := .tup vs) o hp
  have hfz : fz B M1 (upd H1 p (.tup vs)) p = some (.tup vs) := fz_new o hp
  have rn : RVs X.K B M1 (upd H1 p (.tup vs)) vs xs := RVs.ext en r
  refine ⟨fun i m σ' H' => ∃ ρ' M', OkM X.K X.prog X.w B M' H' ∧ RepS X.K B M' H' σ' ρ' ∧ Ext B M H M' H' ∧ Ext B M1 (upd H1 p (.tup vs)) M' H' ∧ i + m = xs.length ∧ forV g tb De (xs.drop i) ρ' M', ⟨xs.length, ρ, M1, on, rs1.ext en, e.trans en, Ext.refl, by simp, by simpa using q⟩, ?_⟩
  rintro i m σ' H' ⟨ρ', M', ok', rs', e', e1', hm, hf⟩
  have hsq : SqT X.K H' p vs := Same.seqT fz_same (Same.seqT e1'.same (SqT.of hfz))
  by_cases hi : i < xs.length
  · have hd : xs.drop i = xs[i] :: xs.drop (i + 1) := List.drop_eq_getElem_cons hi
    rw [hd] at hf
    obtain ⟨fa, hfa, hv⟩ := refs_at rn hx (List.getElem?_eq_getElem hi)
    refine .inr ⟨⟨vs, _, hsq, hv⟩, fun σ2 H2 => ∃ ρ2 M2, OkM X.K X.prog X.w B M2 H2 ∧ RepS X.K B M2 H2 σ2 ρ2 ∧ Ext B M H M2 H2 ∧ Ext B M1 (upd H1 p (.tup vs)) M2 H2 ∧ forV g tb De (xs.drop (i + 1)) ρ2 M2, fun σ2 H2 ⟨ρ2, M2, a, b, c, c1, d⟩ => ⟨m - 1, by omega, ρ2, M2, a, b, c, c1, by omega, d⟩, fun x H2 hy => ?_⟩
    obtain ⟨rfl, hall⟩ := hy
    have hxx := hall vs hsq
    rw [hv] at hxx
    cases hxx
    refine ⟨B, xs[i], ρ', M', _, ok', rs', by rw [hfa]; exact rfl, hf, fun ρ3 M3 σ3 H3 q3 e3 o3 rs3 => ?_⟩
    have e4 : Ext B M H M3 H3 := e'.trans e3
    refine ⟨B, ρ3, M3, _, o3, rs3, q3, ⟨fun ρ4 M4 σ4 H4 q4 e5 o4 rs4 => ⟨ρ4, M4, o4, rs4, e4.trans e5, e1'.trans (e3.trans e5), q4⟩, fun d M' q => (f.rt d M' q).of e4, f.nx.of e4, fun ρ4 M4 σ4 H4 q4 e5 o4 rs4 => ⟨ρ4, M4, o4, rs4, e4.trans e5, e1'.trans (e3.trans e5), q4⟩⟩⟩
  · have hd : xs.drop i = [] := List.drop_eq_nil_of_le (by omega)
    rw [hd] at hf
    exact .inl ⟨⟨vs, hsq, by rw [Paired.len rn]; omega⟩, f.nx ρ' M' σ' H' hf e' ok' rs'⟩
theorem qs_forV {tg : Expr} {body : List Stmt} {kk : Nat} {tpos : Pos} {g : TDg} {tb : TDs} (ha : QA X es t) (hg : QG X tg g) (hb : QSs X body tb) (hp : PassesOwn (model X.prog X.w) X.A X.env X.xe := by exact PassesOwn.never) (hc : X.calm = true := by rfl)
    (hs : ∀ x, foldedSetIterable (.Tuple es kk tpos) X.env x = pure x := by intro _; rfl) : QS X (.For tg (.Tuple es kk tpos) body [] pos) (dForV t g tb) := ⟨PS.weak (ps_for hp hc (pi_tup (pe_tup ha.pa)) hg.pg hb.pss hs) fun D σ H h => lift_forV h⟩
/-- a def by its name -/
def dFn (f : Addr) : TD := fun _ M k => k (.ref f) M
theorem q_fn {x : Str} {f : Addr} (hg : Gl X x) (hm : X.mg x = some (.ref f)) (hd : (x == ("__debug__" : Str)) = false := by decide) : QE X (.Name x pos) (dFn f) := ⟨PE.weak (pe_glob (v := .ref f) hg hm rfl hd) fun σ H Q ⟨B, ρ, M, k, ok, rs, q, g⟩ => g _ M q _ H Ext.refl ok rfl⟩
end
end Kf

/-! Ks: the law's own numbers and names, for any data. -/
namespace Ks
open PySem PySem.Spec PyProof.Rows L2 Kf

/-! ### data that may be looked at -/
mutual
def shortD : PyData → Bool
  | .none => true
  | .bool _ => true
  | .int _ => true
  | .str x => Nat.ble x.length 1000000
  | .list ds => Nat.ble ds.length 1000000 && shortDs ds
  | .tuple ds => Nat.ble ds.length 1000000 && shortDs ds
  | .dict _ => true
def shortDs : List PyData → Bool
  | [] => true
  | d :: ds => shortD d && shortDs ds
end
structure Gd (d : PyData) : Prop where
  lay : d.canLay0 = true
  sh : shortD d = true
  dep : d.depth ≤ 60
theorem shortDs_mem : ∀ {ds : List PyData}, shortDs ds = true → ∀ d, d ∈ ds → shortD d = true
  | [], _, d, h => absurd h List.not_mem_nil
  | x :: ds, hs, d, h => by
    rw [shortDs, Bool.and_eq_true] at hs
    rcases List.mem_cons.mp h with rfl | h
    · exact hs.1
    · exact shortDs_mem hs.2 d h
theorem lays_mem : ∀ {ds : List PyData}, PyData.canLayAll0 ds = true → ∀ d, d ∈ ds → d.canLay0 = true
  | [], _, d, h => absurd h List.not_mem_nil
  | x :: ds, hs, d, h => by
    rw [PyData.canLayAll0, Bool.and_eq_true] at hs
    rcases List.mem_cons.mp h with rfl | h
    · exact hs.1
    · exact lays_mem hs.2 d h
theorem depths_mem : ∀ {ds : List PyData} (d : PyData), d ∈ ds → d.depth ≤ PyData.depthAll ds
  | [], d, h => absurd h List.not_mem_nil
  | x :: ds, d, h => by
    rw [PyData.depthAll]
    rcases List.mem_cons.mp h with rfl | h
    · exact Nat.le_max_left _ _
    · exact Nat.le_trans (depths_mem d h) (Nat.le_max_right _ _)
theorem Gd.tup {ds : List PyData} (h : Gd (.tuple ds)) : ∀ d, d ∈ ds → Gd d := fun d hd => by
  have h1 := h.lay
  have h2 := h.sh
  have h3 := h.dep
  rw [PyData.canLay0] at h1
  rw [shortD, Bool.and_eq_true] at h2
  rw [PyData.depth] at h3
  have := depths_mem d hd
  exact ⟨lays_mem h1 d hd, shortDs_mem h2.2 d hd, by omega⟩
theorem Gd.lst {ds : List PyData} (h : Gd (.list ds)) : ∀ d, d ∈ ds → Gd d := fun d hd => by
  have h1 := h.lay
  have h2 := h.sh
  have h3 := h.dep
  rw [PyData.canLay0] at h1
  rw [shortD, Bool.and_eq_true] at h2
  rw [PyData.depth] at h3
  have := depths_mem d hd
  exact ⟨lays_mem h1 d hd, shortDs_mem h2.2 d hd, by omega⟩
theorem Gd.len {ds : List PyData} (h : Gd (.tuple ds)) : ds.length ≤ 1000000 := by
  have h2 := h.sh
  rw [shortD, Bool.and_eq_true] at h2
  exact Nat.le_of_ble_eq_true h2.1
theorem Gd.str {x : Str} (h : Gd (.str x)) : x.length ≤ 1000000 := by
  have h2 := h.sh
  rw [shortD] at h2
  exact Nat.le_of_ble_eq_true h2
theorem Gd.nd {d : PyData} (h : Gd d) : ∀ kv, d ≠ .dict kv := fun kv e => by
  have := h.lay
  rw [e] at this
  simp [PyData.canLay0] at this
theorem norm_of {d : PyData} (h : ∀ kv, d ≠ .dict kv) : norm d = d := by
  cases d <;> first | rfl | exact absurd rfl (h _)
theorem Gd.cv {d : PyData} (h : Gd d) {M : MS} : cview M (.dat d) = some d := congrArg some (norm_of h.nd)
theorem Gd.sp {d : PyData} (h : Gd d) : SeqAt.shaped d = true := shaped_mk h.lay (Nat.le_trans h.dep (by decide))
theorem szm {n : Nat} (h : n ≤ 1000000) : n ≤ sizeLine := Nat.le_trans h (by decide)
/-! ### _law_number -/
def numD : PyData → Int → Bool
  | .int i, h => decide (0 ≤ i) && decide (i ≤ h)
  | _, _ => false
def t_L_number : TDs := (dRet (dAndV (dIsi "int" (dVar 0)) (dAndV (dNotV (dIsi "bool" (dVar 0))) (dChain (opV leV2) (opV leV2) (dC (.int 0)) (dVar 0) (dVar 1)))))
def sp_L_number : DSp := fun ds M k => ∃ (d : PyData) (h : Int), ds = [.dat d, .dat (.int h)] ∧ (∀ kv, d ≠ .dict kv) ∧ k (.dat (.bool (numD d h))) M
theorem rd_L_number : ∀ ds M k, sp_L_number ds M k → t_L_number (rtE k) (startD ["_law_thing", "_law_high"] ds) M := by
  rintro _ M k ⟨d, h, rfl, nd, hk⟩
  cases d with
  | int i =>
    refine ⟨_, rfl, _, rfl, nd, _, rfl, if_t rfl ⟨_, rfl, _, rfl, nd, _, rfl, _, rfl, if_t rfl ⟨_, rfl, _, _, rfl, rfl, _, rfl, if_b (fun e => ?_) fun e => ?_⟩⟩⟩
    · have e : decide (0 ≤ i) = true := e
      have hn : numD (.int i) h = decide (i ≤ h) := by show (decide (0 ≤ i) && decide (i ≤ h)) = _; rw [e, Bool.true_and]
      rw [hn] at hk
      exact ⟨_, rfl, _, _, rfl, rfl, rt_same hk⟩
    · have e : decide (0 ≤ i) = false := e
      have hn : numD (.int i) h = false := by show (decide (0 ≤ i) && decide (i ≤ h)) = _; rw [e, Bool.false_and]
      rw [hn] at hk
      exact rt_same hk
  | bool b => exact ⟨_, rfl, _, rfl, nd, _, rfl, if_t rfl ⟨_, rfl, _, rfl, nd, _, rfl, _, rfl, if_f rfl (rt_same hk)⟩⟩
  | dict kv => exact absurd rfl (nd kv)
  | none => exact ⟨_, rfl, _, rfl, nd, _, rfl, if_f rfl (rt_same hk)⟩
  | str x => exact ⟨_, rfl, _, rfl, nd, _, rfl, if_f rfl (rt_same hk)⟩
  | list x => exact ⟨_, rfl, _, rfl, nd, _, rfl, if_f rfl (rt_same hk)⟩
  | tuple x => exact ⟨_, rfl, _, rfl, nd, _, rfl, if_f rfl (rt_same hk)⟩
/-! ### _law_are_names -/
def letterB (c : Nat) : Bool := decide (97 ≤ c) && decide (c ≤ 122)
theorem abc_in (c : Nat) : decide (c ∈ ABC.cps.toList) = letterB c := by
  have h : ABC.cps.toList = (List.range 26).map (· + 97) := by decide
  rw [h]
  unfold letterB
  by_cases h1 : 97 ≤ c
  · by_cases h2 : c ≤ 122
    · rw [decide_eq_true h1, decide_eq_true h2]
      refine decide_eq_true (List.mem_map.mpr ⟨c - 97, List.mem_range.mpr (by omega), by omega⟩)
    · rw [decide_eq_false h2, Bool.and_false]
      refine decide_eq_false fun z => ?_
      obtain ⟨x, hx, rfl⟩ := List.mem_map.mp z
      have := List.mem_range.mp hx
      omega
  · rw [decide_eq_false h1, Bool.false_and]
    refine decide_eq_false fun z => ?_
    obtain ⟨x, hx, rfl⟩ := List.mem_map.mp z
    omega
theorem find_sign (x : Str) (c : Nat) : decide (Txt.find x ⟨#[c]⟩ < 0) = !decide (c ∈ x.cps.toList) := by
  rw [← PySem.StrLaws.found_one]
  unfold Txt.find
  cases Builtin.Str.occurrences x ⟨#[c]⟩ 0 x.length 1 with
  | nil => rfl
  | cons i r =>
    show decide ((i : Int) < 0) = _
    rw [decide_eq_false (by omega)]; rfl
/-- letters alone -/
def lettersB (w : Str) : Bool := w.cps.toList.all letterB
def wordB (w : Str) : Bool := decide (0 < w.length) && decide (w.length < 9) && !decide (w ∈ keptL) && lettersB w
def behindB (p : Option Str) (w : Str) : Bool := match p with
  | none => true
  | some q => decide (ltS q w)
/-- names from a place on, p being the one ahead -/
def namesFrom : Option Str → List PyData → Bool
  | _, [] => true
  | p, .str w :: ds => wordB w && behindB p w && namesFrom (some w) ds
  | _, .none :: _ => false
  | _, .bool _ :: _ => false
  | _, .int _ :: _ => false
  | _, .list _ :: _ => false
  | _, .tuple _ :: _ => false
  | _, .dict _ :: _ => false
def areNamesD : PyData → Bool
  | .tuple ds => namesFrom none ds
  | _ => false
def t_signs : TD := (dLc (diStr (dVar 2)) (.one 3) (dB (dOp (opV ltV2) (dFind (dC (.str "abcdefghijklmnopqrstuvwxyz")) (daCons (dVar 3) daNil)) (dC (.int 0)))) (dVar 3))
def t_are_body : TDs := (dSeq (dIf (dOr (dNot (dB (dIsi "str" (dVar 2)))) (dOr (dNot (dB (dChain (opV ltV2) (opV ltV2) (dC (.int 0)) (dCB lenP (daCons (dVar 2) daNil)) (dC (.int 9))))) (dAnd (dB (dOp (opV gtV2) (dVar 1) (dC (.int 0)))) (dNot (dB (dOp (opV ltV2) (dOp (opV ixV) (dVar 0) (dOp (opV subV) (dVar 1) (dC (.int 1)))) (dVar 2))))))) (dRet (dC (.bool false))) dNext)
  (dSeq (dIf (dB (dOp (opR (inV2 id)) (dVar 2) (dTup (daCons (dC (.str "names")) (daCons (dC (.str "ask")) (daCons (dC (.str "end")) daNil)))))) (dRet (dC (.bool false))) dNext)
  (dIf (dB (dOp (opR neV2) t_signs (dLst daNil))) (dRet (dC (.bool false))) dNext)))
def t_L_are_names : TDs := (dSeq (dIf (dNot (dB (dIsi "tuple" (dVar 0)))) (dRet (dC (.bool false))) dNext)
  (dSeq (dFor (diEnumT (daCons (dVar 0) daNil)) (gdTup 2 (gdCons (gdName 1) (gdCons (gdName 2) gdNil))) t_are_body)
  (dRet (dC (.bool true)))))
def sp_L_are_names : DSp := fun ds M k => ∃ (d : PyData), ds = [.dat d] ∧ Gd d ∧ k (.dat (.bool (areNamesD d))) M
theorem signs_comp {M : MS} {k : List PyData → MS → Prop} {x0 x1 x2 : Option DV} : ∀ (l acc : List Nat) (x3 : Option DV), acc.length + l.length ≤ 1000000 → k ((acc ++ l.filter fun c => !letterB c).map fun c => .str ⟨#[c]⟩) M →
    compD (.one 3) (dB (dOp (opV ltV2) (dFind (dC (.str "abcdefghijklmnopqrstuvwxyz")) (daCons (dVar 3) daNil)) (dC (.int 0)))) (dVar 3) [x0, x1, x2, x3] none (l.map fun c => .str ⟨#[c]⟩) (acc.map fun c => .str ⟨#[c]⟩) M k
  | [], acc, x3, _, h => ⟨True.intro, by rw [List.filter_nil, List.append_nil] at h; exact h⟩
  | c :: l, acc, x3, hl, h => by
    rw [List.length_cons] at hl
    rw [List.filter_cons] at h
    refine ⟨True.intro, _, rfl, ?_⟩
    refine ⟨_, rfl, _, rfl, _, rfl, _, _, rfl, rfl, _, rfl, ?_⟩
    rw [find_sign, abc_in]
    refine if_b (fun e => ?_) fun e => ?_
    · rw [if_pos e] at h
      refine ⟨_, rfl, _, rfl, by rw [List.length_map]; exact slt (by omega), ?_⟩
      have ea : acc.map (fun c => PyData.str ⟨#[c]⟩) ++ [PyData.str ⟨#[c]⟩] = (acc ++ [c]).map fun c => PyData.str ⟨#[c]⟩ := by rw [List.map_append]; rfl
      rw [ea]
      refine signs_comp l (acc ++ [c]) _ (by rw [List.length_append, List.length_singleton]; omega) ?_
      rw [List.append_assoc]; exact h
    · rw [if_neg (by rw [e]; exact Bool.false_ne_true)] at h
      exact signs_comp l acc _ (by omega) h
theorem filt_nil {w : Str} : (w.cps.toList.filter fun c => !letterB c) = [] ↔ lettersB w = true := by
  unfold lettersB
  rw [List.filter_eq_nil_iff, List.all_eq_true]
  exact ⟨fun h c hc => by have := h c hc; simpa using this, fun h c hc => by rw [h c hc]; simp⟩
theorem signs_shaped {l : List Nat} (h : ∀ c, c ∈ l → c < 0x110000) : SeqAt.shaped (.list (l.map fun c => PyData.str ⟨#[c]⟩)) = true := by
  refine shaped_mk ?_ ?_
  · rw [PyData.canLay0]
    refine lays_of fun d hd => ?_
    obtain ⟨c, hc, rfl⟩ := List.mem_map.mp hd
    rw [PyData.canLay0]
    unfold PyData.strOk
    simp [h c hc]
  · rw [PyData.depth]
    have : PyData.depthAll (l.map fun c => PyData.str ⟨#[c]⟩) ≤ 1 := depths_of fun d hd => by
      obtain ⟨c, hc, rfl⟩ := List.mem_map.mp hd
      simp [PyData.depth]
    omega
theorem str_codes {w : Str} (h : Gd (.str w)) : ∀ c, c ∈ w.cps.toList → c < 0x110000 := fun c hc => by
  have h1 := h.lay
  rw [PyData.canLay0] at h1
  unfold PyData.strOk at h1
  rw [← Array.all_toList] at h1
  exact of_decide_eq_true (List.all_eq_true.mp h1 c hc)
theorem enum_drop {ds : List PyData} {i : Nat} (h : i < ds.length) : (enumD ds).drop i = .tuple [.int ((i : Nat) : Int), ds[i]] :: (enumD ds).drop (i + 1) := by
  have hl : i < (enumD ds).length := by rw [enumD_length]; exact h
  rw [List.drop_eq_getElem_cons hl]
  congr 1
  have := enumD_get (List.getElem?_eq_getElem h)
  rw [List.getElem?_eq_getElem hl] at this
  exact Option.some.inj this
theorem str3 : ([PyData.str "names", .str "ask", .str "end"] : List PyData).all flatD = true := rfl
theorem are_loop {k : KD} {M : MS} {De : DEnds} (hrt : De.rt = rtK k) {ds : List PyData} (hg : Gd (.tuple ds)) : ∀ (n i : Nat) (p : Option Str) (x1 x2 x3 : Option DV), ds.length = i + n → (i = 0 ↔ p = none) → (∀ q, p = some q → ds[i - 1]? = some (.str q)) →
    (namesFrom p (ds.drop i) = false → k (.dat (.bool false)) M) → (namesFrom p (ds.drop i) = true → ∀ y1 y2 y3, De.nx [some (.dat (.tuple ds)), y1, y2, y3] M) →
    forD (gdTup 2 (gdCons (gdName 1) (gdCons (gdName 2) gdNil))) t_are_body De none ((enumD ds).drop i) [some (.dat (.tuple ds)), x1, x2, x3] M
  | 0, i, p, x1, x2, x3, hn, hp, hq, h1, h2 => by
    have e1 : (enumD ds).drop i = [] := List.drop_eq_nil_of_le (by rw [enumD_length]; omega)
    have e2 : ds.drop i = [] := List.drop_eq_nil_of_le (by omega)
    rw [e1]
    rw [e2] at h2
    exact ⟨True.intro, h2 (by rw [namesFrom]) x1 x2 x3⟩
  | n + 1, i, p, x1, x2, x3, hn, hp, hq, h1, h2 => by
    have hi : i < ds.length := by omega
    rw [enum_drop hi]
    rw [List.drop_eq_getElem_cons hi] at h1 h2
    have gi := hg.tup ds[i] (List.getElem_mem hi)
    have no : ∀ d, ds[i] = d → (∀ w, d ≠ .str w) → namesFrom p (ds[i] :: ds.drop (i + 1)) = false := fun d e hd => by
      rw [e]
      cases d <;> first | rfl | exact absurd rfl (hd _)
    refine ⟨True.intro, _, rfl, rfl, _, _, rfl, _, _, rfl, rfl, ?_⟩
    have hcv : ∀ M : MS, cview M (.dat ds[i]) = some ds[i] := fun M => gi.cv
    by_cases hs : ∃ w, ds[i] = .str w
    · obtain ⟨w, ew⟩ := hs
      rw [ew] at h1 h2 gi ⊢
      have hw := gi.str
      have hnf : namesFrom p (.str w :: ds.drop (i + 1)) = (wordB w && behindB p w && namesFrom (some w) (ds.drop (i + 1))) := by rw [namesFrom]
      rw [hnf] at h1 h2
      have hl : lenV (.str w) = some w.length := if_pos (szm hw)
      have done : (wordB w && behindB p w) = false → De.rt (.dat (.bool false)) M := fun e => by rw [hrt]; exact rt_same (h1 (by rw [e, Bool.false_and]))
      -- isinstance
      refine ⟨_, rfl, _, rfl, (fun kv e => by cases e), _, rfl, if_f rfl ?_⟩
      -- 0 < len < 9
      have aft : (decide (0 < w.length) && decide (w.length < 9)) = true → (dAnd (dB (dOp (opV gtV2) (dVar 1) (dC (.int 0)))) (dNot (dB (dOp (opV ltV2) (dOp (opV ixV) (dVar 0) (dOp (opV subV) (dVar 1) (dC (.int 1)))) (dVar 2))))) [some (.dat (.tuple ds)), some (.dat (.int ((i : Nat) : Int))), some (.dat (.str w)), x3] M fun b M1 => if b = true then (dRet (dC (.bool false))) { De with nx := forD (gdTup 2 (gdCons (gdName 1) (gdCons (gdName 2) gdNil))) t_are_body De none ((enumD ds).drop (i + 1)), ct := forD (gdTup 2 (gdCons (gdName 1) (gdCons (gdName 2) gdNil))) t_are_body De none ((enumD ds).drop (i + 1)), bk := De.nx } [some (.dat (.tuple ds)), some (.dat (.int ((i : Nat) : Int))), some (.dat (.str w)), x3] M1 else (dSeq (dIf (dB (dOp (opR (inV2 id)) (dVar 2) (dTup (daCons (dC (.str "names")) (daCons (dC (.str "ask")) (daCons (dC (.str "end")) daNil)))))) (dRet (dC (.bool false))) dNext)
  (dIf (dB (dOp (opR neV2) t_signs (dLst daNil))) (dRet (dC (.bool false))) dNext)) { De with nx := forD (gdTup 2 (gdCons (gdName 1) (gdCons (gdName 2) gdNil))) t_are_body De none ((enumD ds).drop (i + 1)), ct := forD (gdTup 2 (gdCons (gdName 1) (gdCons (gdName 2) gdNil))) t_are_body De none ((enumD ds).drop (i + 1)), bk := De.nx } [some (.dat (.tuple ds)), some (.dat (.int ((i : Nat) : Int))), some (.dat (.str w)), x3] M1 := by
        intro hlen
        have rest : behindB p w = true → (dSeq (dIf (dB (dOp (opR (inV2 id)) (dVar 2) (dTup (daCons (dC (.str "names")) (daCons (dC (.str "ask")) (daCons (dC (.str "end")) daNil)))))) (dRet (dC (.bool false))) dNext)
  (dIf (dB (dOp (opR neV2) t_signs (dLst daNil))) (dRet (dC (.bool false))) dNext)) { De with nx := forD (gdTup 2 (gdCons (gdName 1) (gdCons (gdName 2) gdNil))) t_are_body De none ((enumD ds).drop (i + 1)), ct := forD (gdTup 2 (gdCons (gdName 1) (gdCons (gdName 2) gdNil))) t_are_body De none ((enumD ds).drop (i + 1)), bk := De.nx } [some (.dat (.tuple ds)), some (.dat (.int ((i : Nat) : Int))), some (.dat (.str w)), x3] M := by
          intro hb
          refine ⟨_, rfl, _, rfl, szb rfl, _, _, rfl, rfl, _, rfl, rfl, _, rfl, ?_⟩
          show if (id ([PyData.str "names", .str "ask", .str "end"].any fun z => PyData.eqv z (.str w))) = true then _ else _
          rw [show (id ([PyData.str "names", .str "ask", .str "end"].any fun z => PyData.eqv z (.str w))) = decide (w ∈ keptL) from kept_any w]
          refine if_b (fun e => ?_) fun e => ?_
          · exact done (by unfold wordB; rw [e]; simp)
          · refine ⟨_, rfl, w, rfl, ?_⟩
            refine signs_comp w.cps.toList [] _ ?_ ?_
            · rw [List.length_nil, Array.length_toList]; have : w.cps.size = w.length := rfl; omega
            · rw [List.nil_append]
              refine ⟨[], rfl, szb rfl, _, _, rfl, rfl, eqOk_of ?_, _, rfl, ?_⟩
              · unfold shp
                show (SeqAt.shaped (.list ((w.cps.toList.filter fun c => !letterB c).map fun c => PyData.str ⟨#[c]⟩)) && SeqAt.shaped (.list [])) = true
                rw [signs_shaped fun c hc => str_codes gi c (List.mem_filter.mp hc).1]
                rfl
              have hev : (!PyData.eqv (.list ((w.cps.toList.filter fun c => !letterB c).map fun c => PyData.str ⟨#[c]⟩)) (.list [])) = !lettersB w := by
                congr 1
                cases hf : w.cps.toList.filter fun c => !letterB c with
                | nil => rw [filt_nil.mp hf]; simp [PyData.eqv, PyData.eqvAll]
                | cons a r =>
                  have : lettersB w = false := by
                    cases z : lettersB w with
                    | false => rfl
                    | true => rw [filt_nil.mpr z] at hf; cases hf
                  rw [this]; simp [PyData.eqv, PyData.eqvAll]
              show if (!PyData.eqv (.list ((w.cps.toList.filter fun c => !letterB c).map fun c => PyData.str ⟨#[c]⟩)) (.list [])) = true then _ else _
              rw [hev]
              have hw2 : wordB w = lettersB w := by unfold wordB; rw [hlen, e]; simp
              refine if_b (fun e2 => ?_) fun e2 => ?_
              · refine done ?_
                rw [hw2]
                have : lettersB w = false := by simpa using e2
                rw [this]; rfl
              · have e3 : lettersB w = true := by simpa using e2
                rw [hw2, e3, hb, Bool.true_and, Bool.true_and] at h1 h2
                exact are_loop hrt hg n (i + 1) (some w) _ _ _ (by omega) ⟨fun z => by omega, fun z => by cases z⟩ (fun q e => by cases e; rw [Nat.add_sub_cancel, List.getElem?_eq_getElem hi, ew]) h1 h2
        refine ⟨_, rfl, _, _, rfl, rfl, _, rfl, if_b (fun e => ?_) fun e => ?_⟩
        · have e : decide ((0 : Int) < ((i : Nat) : Int)) = true := e
          have hi0 : i ≠ 0 := fun z => by subst z; simp at e
          cases hpp : p with
          | none => exact absurd (hp.mpr hpp) hi0
          | some q =>
            have hqq := hq q hpp
            refine ⟨_, rfl, _, rfl, _, _, rfl, rfl, ?_⟩
            have es : (((i : Nat) : Int) - 1) = ((i - 1 : Nat) : Int) := by omega
            refine ⟨_, _, rfl, rfl, .str q, ?_, _, rfl, _, _, rfl, rfl, _, rfl, ?_⟩
            · show atI ds (((i : Nat) : Int) - 1) = _
              rw [es]; exact atI_nat hqq
            have hbb : behindB p w = decide (ltS q w) := by rw [hpp]; rfl
            show if (!decide (ltS q w)) = true then _ else _
            refine if_b (fun e2 => ?_) fun e2 => ?_
            · refine done ?_
              rw [hbb]
              have : decide (ltS q w) = false := by simpa using e2
              rw [this, Bool.and_false]
            · exact rest (by rw [hbb]; simpa using e2)
        · have e : decide ((0 : Int) < ((i : Nat) : Int)) = false := e
          have hi0 : i = 0 := by
            have := of_decide_eq_false e
            omega
          refine if_f rfl (rest ?_)
          rw [hp.mp hi0]; rfl
      refine ⟨_, rfl, _, .str w, _, rfl, rfl, hl, _, _, rfl, rfl, _, rfl, ?_⟩
      refine if_b (fun e => ?_) fun e => ?_
      · have e : decide ((0 : Int) < ((w.length : Nat) : Int)) = true := e
        have e' : decide (0 < w.length) = true := by simpa using e
        refine ⟨_, _, rfl, rfl, _, rfl, ?_⟩
        show if (!decide (((w.length : Nat) : Int) < 9)) = true then _ else _
        refine if_b (fun e2 => ?_) fun e2 => ?_
        · refine if_t rfl (done ?_)
          have : decide (w.length < 9) = false := by
            have : ¬ ((w.length : Nat) : Int) < 9 := by simpa using e2
            exact decide_eq_false (by omega)
          unfold wordB; rw [this]; simp
        · have : decide (w.length < 9) = true := by
            have : ((w.length : Nat) : Int) < 9 := by simpa using e2
            exact decide_eq_true (by omega)
          exact aft (by rw [e', this]; rfl)
      · have e : decide ((0 : Int) < ((w.length : Nat) : Int)) = false := e
        have e' : decide (0 < w.length) = false := by
          have := of_decide_eq_false e
          exact decide_eq_false (by omega)
        refine ⟨_, rfl, if_t rfl (if_t rfl (done ?_))⟩
        unfold wordB; rw [e']; simp
    · have hno := no ds[i] rfl fun w e => hs ⟨w, e⟩
      have hk := h1 hno
      have hty : isiT "str" (tyName ds[i]) = false := by
        cases e : ds[i] with
        | str w => exact absurd ⟨w, e⟩ hs
        | dict kv => exact absurd e (gi.nd kv)
        | _ => rfl
      refine ⟨_, rfl, ds[i], hcv M, gi.nd, _, rfl, ?_⟩
      rw [hty]
      refine if_t rfl (if_t rfl ?_)
      rw [hrt]
      exact rt_same hk
theorem rd_L_are_names : ∀ ds M k, sp_L_are_names ds M k → t_L_are_names (rtE k) (startD ["_law_thing", "_law_k", "_law_part", "_law_sign"] ds) M := by
  rintro _ M k ⟨d, rfl, hg, hk⟩
  cases d with
  | tuple ds =>
    refine ⟨_, rfl, _, rfl, hg.nd, _, rfl, if_f rfl ?_⟩
    refine ⟨_, rfl, _, ds, rfl, rfl, ?_⟩
    refine are_loop (k := k) rfl hg ds.length 0 none _ _ _ (by omega) ⟨fun _ => rfl, fun _ => rfl⟩ (fun q e => by cases e) (fun e => ?_) fun e y1 y2 y3 => ?_
    · rw [List.drop_zero] at e
      have : areNamesD (.tuple ds) = false := e
      rw [this] at hk; exact hk
    · rw [List.drop_zero] at e
      have : areNamesD (.tuple ds) = true := e
      rw [this] at hk
      exact rt_same hk
  | dict kv => exact absurd rfl (hg.nd kv)
  | none => exact ⟨_, rfl, _, rfl, hg.nd, _, rfl, if_t rfl (rt_same hk)⟩
  | bool b => exact ⟨_, rfl, _, rfl, hg.nd, _, rfl, if_t rfl (rt_same hk)⟩
  | int b => exact ⟨_, rfl, _, rfl, hg.nd, _, rfl, if_t rfl (rt_same hk)⟩
  | str b => exact ⟨_, rfl, _, rfl, hg.nd, _, rfl, if_t rfl (rt_same hk)⟩
  | list b => exact ⟨_, rfl, _, rfl, hg.nd, _, rfl, if_t rfl (rt_same hk)⟩
end Ks

/-! Ks: what a fold by an order is, by its rows. -/
namespace Ks
open PySem PySem.Spec PyProof.Rows L2 Kf

/-! ### names -/
def NmP (ns : List Str) : Prop := namesFrom none (ns.map PyData.str) = true
theorem namesFrom_strs : ∀ {ds : List PyData} {p : Option Str}, namesFrom p ds = true → ∃ ns : List Str, ds = ns.map PyData.str
  | [], _, _ => ⟨[], rfl⟩
  | .str w :: ds, p, h => by
    rw [namesFrom, Bool.and_eq_true] at h
    obtain ⟨ns, e⟩ := namesFrom_strs h.2
    exact ⟨w :: ns, by rw [e]; rfl⟩
  | .none :: _, _, h => by rw [namesFrom] at h; cases h
  | .bool _ :: _, _, h => by rw [namesFrom] at h; cases h
  | .int _ :: _, _, h => by rw [namesFrom] at h; cases h
  | .list _ :: _, _, h => by rw [namesFrom] at h; cases h
  | .tuple _ :: _, _, h => by rw [namesFrom] at h; cases h
  | .dict _ :: _, _, h => by rw [namesFrom] at h; cases h
theorem are_iff {d : PyData} : areNamesD d = true ↔ ∃ ns, d = encNames ns ∧ NmP ns := by
  constructor
  · intro h
    cases d with
    | tuple ds =>
      obtain ⟨ns, e⟩ := namesFrom_strs (p := none) h
      subst e
      exact ⟨ns, rfl, h⟩
    | _ => cases h
  · rintro ⟨ns, rfl, h⟩
    exact h
theorem namesFrom_ok : ∀ {ns : List Str} {p : Option Str}, (∀ w, w ∈ ns → wordB w = true) → ns.Pairwise ltS → (∀ q, p = some q → ∀ w, w ∈ ns → ltS q w) → namesFrom p (ns.map PyData.str) = true
  | [], p, _, _, _ => by rw [List.map_nil, namesFrom]
  | w :: ns, p, h1, h2, h3 => by
    rw [List.map_cons, namesFrom, h1 w List.mem_cons_self, Bool.true_and]
    have hb : behindB p w = true := by
      cases p with
      | none => rfl
      | some q => exact decide_eq_true (h3 q rfl w List.mem_cons_self)
    rw [hb, Bool.true_and]
    obtain ⟨h4, h5⟩ := List.pairwise_cons.mp h2
    exact namesFrom_ok (fun x hx => h1 x (List.mem_cons_of_mem _ hx)) h5 fun q e x hx => by cases e; exact h4 x hx
theorem letters_of {w : Str} : isL w ↔ lettersB w = true := by
  unfold isL lettersB letterB
  rw [List.all_eq_true]
  constructor
  · intro h c hc
    obtain ⟨a, b⟩ := h c hc
    rw [decide_eq_true a, decide_eq_true b]; rfl
  · intro h c hc
    have := h c hc
    rw [Bool.and_eq_true] at this
    exact ⟨of_decide_eq_true this.1, of_decide_eq_true this.2⟩
theorem word_of {w : Str} : WordOk w ↔ wordB w = true := by
  unfold wordB
  constructor
  · intro h
    rw [decide_eq_true (show 0 < w.length from h.pos), decide_eq_true (show w.length < 9 from Nat.lt_succ_of_le h.len), decide_eq_false h.not, letters_of.mp h.abc]; rfl
  · intro h
    simp only [Bool.and_eq_true, Bool.not_eq_true', decide_eq_true_eq, decide_eq_false_iff_not] at h
    obtain ⟨⟨⟨h1, h2⟩, h3⟩, h4⟩ := h
    exact ⟨letters_of.mpr h4, h1, by omega, h3⟩
theorem namesFrom_has : ∀ {ns : List Str} {p : Option Str}, namesFrom p (ns.map PyData.str) = true → (∀ w, w ∈ ns → WordOk w) ∧ ns.Pairwise ltS ∧ (∀ q, p = some q → ∀ w, w ∈ ns → ltS q w)
  | [], p, _ => ⟨fun w h => absurd h List.not_mem_nil, .nil, fun q _ w h => absurd h List.not_mem_nil⟩
  | w :: ns, p, h => by
    rw [List.map_cons, namesFrom, Bool.and_eq_true, Bool.and_eq_true] at h
    obtain ⟨⟨h1, h2⟩, h3⟩ := h
    obtain ⟨g1, g2, g3⟩ := namesFrom_has h3
    refine ⟨fun x hx => ?_, List.pairwise_cons.mpr ⟨fun x hx => g3 w rfl x hx, g2⟩, fun q e x hx => ?_⟩
    · rcases List.mem_cons.mp hx with rfl | hx
      · exact word_of.mpr h1
      · exact g1 x hx
    · subst e
      have hq : ltS q w := of_decide_eq_true h2
      rcases List.mem_cons.mp hx with rfl | hx
      · exact hq
      · exact List.lt_trans hq (g3 w rfl x hx)
theorem nmP_iff {ns : List Str} : NmP ns ↔ (∀ w, w ∈ ns → WordOk w) ∧ ns.Pairwise ltS :=
  ⟨fun h => let ⟨a, b, _⟩ := namesFrom_has h; ⟨a, b⟩, fun ⟨a, b⟩ => namesFrom_ok (fun w hw => word_of.mp (a w hw)) b fun q e => by cases e⟩
theorem NmP.strs {ns : List Str} (h : NmP ns) : StrsOk ns := fun x hx => ((nmP_iff.mp h).1 x hx).abc
/-! ### rows -/
/-- whether a row may stand behind some -/
def RowFit (ord : List Nat) (F : List Row) : Row → Prop
  | .leaf ns => NmP ns
  | .node c a b => c ∈ ord ∧ a < F.length ∧ b < F.length ∧ a ≠ b ∧ (∀ g, g = a ∨ g = b → ∀ c' x y, F[g]? = some (.node c' x y) → ord.idxOf c < ord.idxOf c')
def RowP (ord : List Nat) (F : List Row) (d : PyData) : Prop := ∃ r, d = encRow r ∧ r ∉ F ∧ RowFit ord F r
/-- rows, each fits behind those ahead -/
inductive RowsP (ord : List Nat) : List Row → Prop
  | nil : RowsP ord []
  | snoc {F r} : RowsP ord F → r ∉ F → RowFit ord F r → RowsP ord (F ++ [r])
theorem RowsP.nodup {ord : List Nat} {F : List Row} (h : RowsP ord F) : F.Nodup := by
  induction h with
  | nil => exact List.nodup_nil
  | snoc _ hn _ ih => exact nodup_snoc ih hn
theorem RowsP.good {ord : List Nat} {F : List Row} (h : RowsP ord F) : ∀ r, r ∈ F → r.good := by
  induction h with
  | nil => exact fun r h => absurd h List.not_mem_nil
  | @snoc F r _ _ hf ih =>
    intro x hx
    rcases List.mem_append.mp hx with z | z
    · exact ih x z
    · rw [List.mem_singleton] at z; subst z
      cases x with
      | leaf ns => exact NmP.strs hf
      | node c a b => exact True.intro
theorem RowsP.at {ord : List Nat} {F : List Row} (h : RowsP ord F) : ∀ i r, F[i]? = some r → RowFit ord (F.take i) r := by
  induction h with
  | nil => intro i r e; simp at e
  | @snoc F r _ _ hf ih =>
    intro i x e
    have hl := (List.getElem?_eq_some_iff.mp e).1
    rw [List.length_append, List.length_singleton] at hl
    by_cases hi : i < F.length
    · rw [List.getElem?_append_left hi] at e
      rw [List.take_append_of_le_length (Nat.le_of_lt hi)]
      exact ih i x e
    · have hi : i = F.length := by omega
      subst hi
      rw [List.getElem?_append_right (Nat.le_refl _), Nat.sub_self] at e
      have e : r = x := Option.some.inj e
      subst e
      rw [List.take_left']
      · exact hf
      · rfl
theorem RowsP.den {ord : List Nat} {F : List Row} (h : RowsP ord F) : ∀ i, i < F.length → ∃ t, Den F i t ∧ Ordd ord t ∧ t.allL NmP := by
  induction h with
  | nil => intro i hi; exact absurd hi (Nat.not_lt_zero i)
  | @snoc F r hF hn hf ih =>
    have old : ∀ i, i < F.length → ∃ t, Den (F ++ [r]) i t ∧ Ordd ord t ∧ t.allL NmP := fun i hi => let ⟨t, a, b, c⟩ := ih i hi; ⟨t, a.ext [r], b, c⟩
    intro i hi
    rw [List.length_append, List.length_singleton] at hi
    by_cases hi' : i < F.length
    · exact old i hi'
    · have e : i = F.length := by omega
      subst e
      have er : (F ++ [r])[F.length]? = some r := by rw [List.getElem?_append_right (Nat.le_refl _), Nat.sub_self]; rfl
      cases r with
      | leaf ns => exact ⟨.leaf ns, .leaf er, True.intro, hf⟩
      | node c a b =>
        obtain ⟨h1, h2, h3, h4, h5⟩ := hf
        obtain ⟨ta, da, oa, na⟩ := ih a h2
        obtain ⟨tb, db, ob, nb⟩ := ih b h3
        have hlt := List.idxOf_lt_length_of_mem h1
        have rka : ∀ (g : Nat) (t : Tr), (g = a ∨ g = b) → Den F g t → ord.idxOf c < rk ord t := by
          intro g t hg d
          cases t with
          | leaf ns => exact hlt
          | node c' x y =>
            obtain ⟨u, v, e, _⟩ := d.row_node
            exact h5 g hg c' u v e
        refine ⟨.node c ta tb, .node er (da.ext _) (db.ext _), ⟨h1, rka a ta (.inl rfl) da, rka b tb (.inr rfl) db, fun e => h4 ?_, oa, ob⟩, na, nb⟩
        subst e
        exact Den.inj hF.nodup da db
/-! ### the order in which rows are left -/
theorem post_any (P : List Tr → Prop) : ∀ (t : Tr) (m : List Tr), t ∈ m → post t m = m
  | .leaf ns, m, h => by unfold post; rw [if_pos h]
  | .node c a b, m, h => by unfold post; rw [if_pos h]
def Tr.subs : Tr → Tr → Prop := fun x t => x ∈ post t []
theorem post_sub_mem : ∀ (t : Tr) (m : List Tr), Cl m → t ∈ m → ∀ x, x ∈ post t [] → x ∈ m := by
  intro t
  have key : ∀ (t : Tr) (m n : List Tr), Cl m → t ∈ m → (∀ x, x ∈ n → x ∈ m) → ∀ x, x ∈ post t n → x ∈ m := by
    intro t
    induction t with
    | leaf ns =>
      intro m n hm ht hn x hx
      unfold post at hx
      split at hx
      · exact hn x hx
      · rcases List.mem_append.mp hx with z | z
        · exact hn x z
        · rw [List.mem_singleton] at z; subst z; exact ht
    | node c a b ih1 ih2 =>
      intro m n hm ht hn x hx
      obtain ⟨ha, hb⟩ := hm c a b ht
      unfold post at hx
      split at hx
      · exact hn x hx
      · rcases List.mem_append.mp hx with z | z
        · exact ih2 m _ hm hb (ih1 m n hm ha hn) x z
        · rw [List.mem_singleton] at z; subst z; exact ht
  exact fun m hm ht => key t m [] hm ht fun x hx => absurd hx List.not_mem_nil
theorem cl_nil : Cl [] := fun c a b z => absurd z List.not_mem_nil
theorem filter_out {m l : List Tr} (h : ∀ x, x ∈ l → x ∈ m) : l.filter (fun x => decide (x ∉ m)) = [] :=
  List.filter_eq_nil_iff.mpr fun x hx => by simp [h x hx]
theorem post_filter : ∀ (t : Tr) (m : List Tr), Cl m → post t m = m ++ (post t []).filter fun x => decide (x ∉ m) := by
  intro t
  induction t with
  | leaf ns =>
    intro m hm
    unfold post
    rw [if_neg List.not_mem_nil]
    by_cases h : Tr.leaf ns ∈ m
    · rw [if_pos h]; simp [h]
    · rw [if_neg h]; simp [h]
  | node c a b ih1 ih2 =>
    intro m hm
    by_cases h : Tr.node c a b ∈ m
    · rw [post_any (fun _ => True) _ _ h, filter_out (post_sub_mem _ m hm h), List.append_nil]
    · have e0 : post (.node c a b) [] = post b (post a []) ++ [.node c a b] := by rw [post, if_neg List.not_mem_nil]
      have e1 : post (.node c a b) m = post b (post a m) ++ [.node c a b] := by rw [post, if_neg h]
      obtain ⟨c1, _, _⟩ := post_cl a m hm
      obtain ⟨c2, _, _⟩ := post_cl a [] cl_nil
      have ha := ih1 m hm
      have hs : [Tr.node c a b].filter (fun x => decide (x ∉ m)) = [Tr.node c a b] := by simp [h]
      have key : (post b []).filter (fun x => decide (x ∉ post a m)) = ((post b []).filter fun x => decide (x ∉ post a [])).filter fun x => decide (x ∉ m) := by
        rw [List.filter_filter]
        refine List.filter_congr fun x _ => ?_
        have hx : x ∈ post a m ↔ x ∈ m ∨ x ∈ post a [] := by
          rw [ha, List.mem_append, List.mem_filter]
          by_cases h1 : x ∈ m <;> simp [h1]
        by_cases h1 : x ∈ m <;> by_cases h2 : x ∈ post a [] <;> simp [hx, h1, h2]
      rw [e0, e1, ih2 (post a m) c1, key, ha, ih2 (post a []) c2, List.filter_append, List.filter_append, hs, List.append_assoc, List.append_assoc, List.append_assoc]
/-- a fold by an order -/
def IsFold (ord : List Nat) (d : PyData) : Prop := ∃ t, Ordd ord t ∧ t.allL NmP ∧ d = encFold (foldOf t)
theorem idx_self {P : List Tr} (nd : P.Nodup) {i : Nat} {x : Tr} (h : P[i]? = some x) : P.idxOf x = i := by
  have hm : x ∈ P := List.mem_of_getElem? h
  have h1 : P[P.idxOf x]? = some x := by rw [List.getElem?_eq_getElem (List.idxOf_lt_length_of_mem hm), List.getElem_idxOf]
  exact nodup_at nd h1 h
theorem Dens.get {R : List Row} {L : List Nat} {P : List Tr} (h : Dens R L P) : ∀ {j : Nat} {i : Nat}, L[j]? = some i → ∃ t, P[j]? = some t ∧ Den R i t := by
  induction h with
  | nil => intro j i e; simp at e
  | @cons i t l ts d r ih =>
    intro j x e
    cases j with
    | zero => simp at e; subst e; exact ⟨t, rfl, d⟩
    | succ j => obtain ⟨u, h1, h2⟩ := ih (j := j) (by simpa using e); exact ⟨u, by simpa using h1, h2⟩
theorem Dens.get' {R : List Row} {L : List Nat} {P : List Tr} (h : Dens R L P) : ∀ {j : Nat} {t : Tr}, P[j]? = some t → ∃ i, L[j]? = some i ∧ Den R i t := by
  induction h with
  | nil => intro j i e; simp at e
  | @cons i t l ts d r ih =>
    intro j x e
    cases j with
    | zero => simp at e; subst e; exact ⟨i, rfl, d⟩
    | succ j => obtain ⟨u, h1, h2⟩ := ih (j := j) (by simpa using e); exact ⟨u, by simpa using h1, h2⟩
/-- the rows stand in the order in which they are left just if they are the fold of their top -/
theorem left_iff {F : List Row} (nd : F.Nodup) {t : Tr} (d : Den F (F.length - 1) t) {L : List Nat} (hL : Dens F L (post t [])) : L = List.range F.length ↔ F = foldOf t := by
  have hnp := post_nodup t [] List.nodup_nil
  constructor
  · intro e
    subst e
    have hlen : (post t []).length = F.length := by have := hL.len; rw [List.length_range] at this; exact this.symm
    refine List.ext_getElem? fun j => ?_
    by_cases hj : j < F.length
    · have hr : (List.range F.length)[j]? = some j := List.getElem?_range hj
      obtain ⟨x, hx, dx⟩ := hL.get hr
      unfold foldOf
      rw [List.getElem?_map, hx]
      have hm : x ∈ post t [] := List.mem_of_getElem? hx
      cases x with
      | leaf ns => rw [dx.row_leaf]; rfl
      | node c a b =>
        obtain ⟨u, v, er, da, db⟩ := dx.row_node
        obtain ⟨ca, cb⟩ := post_cl0 t c a b hm
        have ia := (hL.idx nd da ca).1
        have ib := (hL.idx nd db cb).1
        have ra : ∀ {n k : Nat}, (List.range F.length)[n]? = some k → n = k := fun {n k} e => by
          obtain ⟨h1, h2⟩ := List.getElem?_eq_some_iff.mp e
          rw [List.getElem_range] at h2
          exact h2
        rw [er]
        show _ = some (Row.node c ((post t []).idxOf a) ((post t []).idxOf b))
        rw [ra ia, ra ib]
    · rw [List.getElem?_eq_none (by omega), List.getElem?_eq_none (by rw [fold_len, hlen]; omega)]
  · intro e
    have hlen : (post t []).length = F.length := by rw [e, fold_len]
    refine List.ext_getElem? fun j => ?_
    by_cases hj : j < F.length
    · rw [List.getElem?_range hj]
      obtain ⟨x, hx⟩ : ∃ x, (post t [])[j]? = some x := ⟨_, List.getElem?_eq_getElem (by omega)⟩
      obtain ⟨i, hi, di⟩ := hL.get' hx
      have dj : Den (foldOf t) ((post t []).idxOf x) x := den_in (post_cl0 t) _ (List.mem_of_getElem? hx)
      rw [idx_self hnp hx, ← e] at dj
      rw [hi, Den.inj nd di dj]
    · rw [List.getElem?_eq_none (by rw [hL.len, hlen]; omega), List.getElem?_eq_none (by rw [List.length_range]; omega)]
theorem fold_nodup (t : Tr) : (foldOf t).Nodup := by
  have hnp := post_nodup t [] List.nodup_nil
  unfold foldOf
  refine List.pairwise_map.mpr ?_
  refine List.Pairwise.imp_of_mem (fun {x y} hx hy hne e => hne ?_) hnp
  have dx := den_in (post_cl0 t) x hx
  have dy := den_in (post_cl0 t) y hy
  cases x with
  | leaf ns =>
    cases y with
    | leaf ms => simp only [rowIn, Row.leaf.injEq] at e; rw [e]
    | node c a b => simp [rowIn] at e
  | node c a b =>
    cases y with
    | leaf ms => simp [rowIn] at e
    | node c' a' b' =>
      simp only [rowIn, Row.node.injEq] at e
      obtain ⟨e1, e2, e3⟩ := e
      obtain ⟨ca, cb⟩ := post_cl0 t c a b hx
      obtain ⟨ca', cb'⟩ := post_cl0 t c' a' b' hy
      have inj : ∀ {u v : Tr}, u ∈ post t [] → v ∈ post t [] → (post t []).idxOf u = (post t []).idxOf v → u = v := fun {u v} hu hv h => by
        have h1 := List.getElem_idxOf (List.idxOf_lt_length_of_mem hu)
        have h2 := List.getElem_idxOf (List.idxOf_lt_length_of_mem hv)
        rw [← h1, ← h2]
        simp [h]
      rw [e1, inj ca ca' e2, inj cb cb' e3]
theorem post_ordd {ord : List Nat} : ∀ (t : Tr) (m : List Tr), Ordd ord t → (∀ x, x ∈ m → Ordd ord x) → ∀ x, x ∈ post t m → Ordd ord x
  | .leaf ns, m, h, hm, x, hx => by
    unfold post at hx
    split at hx
    · exact hm x hx
    · rcases List.mem_append.mp hx with z | z
      · exact hm x z
      · rw [List.mem_singleton.mp z]; exact h
  | .node c a b, m, h, hm, x, hx => by
    unfold post at hx
    split at hx
    · exact hm x hx
    · rcases List.mem_append.mp hx with z | z
      · exact post_ordd b _ h.2.2.2.2.2 (post_ordd a m h.2.2.2.2.1 hm) x z
      · rw [List.mem_singleton.mp z]; exact h
/-- each of a tree's parts stands behind its own -/
def Bh (P : List Tr) : Prop := ∀ i c a b, P[i]? = some (.node c a b) → a ∈ P.take i ∧ b ∈ P.take i
theorem bh_snoc {P : List Tr} {x : Tr} (h : Bh P) (hx : ∀ c a b, x = .node c a b → a ∈ P ∧ b ∈ P) : Bh (P ++ [x]) := by
  intro i c a b e
  have hl := (List.getElem?_eq_some_iff.mp e).1
  rw [List.length_append, List.length_singleton] at hl
  by_cases hi : i < P.length
  · rw [List.getElem?_append_left hi] at e
    rw [List.take_append_of_le_length (Nat.le_of_lt hi)]
    exact h i c a b e
  · have hi : i = P.length := by omega
    subst hi
    rw [List.getElem?_append_right (Nat.le_refl _), Nat.sub_self] at e
    rw [List.take_left' rfl]
    exact hx c a b (Option.some.inj e)
theorem post_bh : ∀ (t : Tr) (m : List Tr), Cl m → Bh m → Bh (post t m)
  | .leaf ns, m, hc, hm => by
    unfold post
    split
    · exact hm
    · exact bh_snoc hm fun c a b e => by cases e
  | .node c a b, m, hc, hm => by
    unfold post
    split
    · exact hm
    · obtain ⟨c1, m1, k1⟩ := post_cl a m hc
      obtain ⟨c2, m2, k2⟩ := post_cl b _ c1
      refine bh_snoc (post_bh b _ c1 (post_bh a m hc hm)) fun c' a' b' e => ?_
      cases e
      exact ⟨k2 _ m1, m2⟩
theorem idx_take {P : List Tr} {i : Nat} {x : Tr} (h : x ∈ P.take i) : P.idxOf x < i := by
  have h1 : (P.take i).idxOf x < (P.take i).length := List.idxOf_lt_length_of_mem h
  have e : P = P.take i ++ P.drop i := (List.take_append_drop i P).symm
  have h2 : P.idxOf x = (P.take i).idxOf x := by
    conv => lhs; rw [e]
    rw [List.idxOf_append, if_pos h]
  rw [h2]
  rw [List.length_take] at h1
  omega
/-- the fold of a tree is made of rows that fit -/
theorem fold_rows {ord : List Nat} {t : Tr} (ho : Ordd ord t) (hn : t.allL NmP) : ∀ i, i ≤ (foldOf t).length → RowsP ord ((foldOf t).take i) := by
  have hnp := post_nodup t [] List.nodup_nil
  have hbh := post_bh t [] cl_nil fun i c a b e => by simp at e
  have hor := post_ordd t [] ho fun x hx => absurd hx List.not_mem_nil
  have hnm := post_sub t [] NmP hn fun x hx => absurd hx List.not_mem_nil
  have hnd := fold_nodup t
  intro i
  induction i with
  | zero => intro _; rw [List.take_zero]; exact .nil
  | succ i ih =>
    intro hi
    have hi' : i < (foldOf t).length := hi
    have hil : i < (post t []).length := by rw [← fold_len]; exact hi'
    rw [List.take_succ_eq_append_getElem hi']
    refine .snoc (ih (Nat.le_of_lt hi')) ?_ ?_
    · intro z
      obtain ⟨j, hj, e⟩ := List.mem_iff_getElem.mp z
      rw [List.length_take] at hj
      rw [List.getElem_take] at e
      have := nodup_at hnd (List.getElem?_eq_getElem (show j < (foldOf t).length by omega)) ((List.getElem?_eq_getElem hi').trans (congrArg some e.symm))
      omega
    · have er' : (foldOf t)[i]? = some (rowIn (post t []) (post t [])[i]) := by unfold foldOf; rw [List.getElem?_map, List.getElem?_eq_getElem hil]; rfl
      have er : (foldOf t)[i] = rowIn (post t []) (post t [])[i] := Option.some.inj ((List.getElem?_eq_getElem hi').symm.trans er')
      have hm := List.getElem_mem hil
      have hx := List.getElem?_eq_getElem hil
      rw [er]
      cases e : (post t [])[i] with
      | leaf ns =>
        have := hnm _ hm
        rw [e] at this
        exact this
      | node c a b =>
        rw [e] at hx hm
        have o := hor _ hm
        obtain ⟨h1, h2⟩ := hbh i c a b hx
        have la := idx_take h1
        have lb := idx_take h2
        have hlt : ((foldOf t).take i).length = i := by rw [List.length_take]; omega
        have ma : a ∈ post t [] := List.mem_of_mem_take h1
        have mb : b ∈ post t [] := List.mem_of_mem_take h2
        refine ⟨o.1, by rw [hlt]; exact la, by rw [hlt]; exact lb, fun z => o.2.2.2.1 ?_, ?_⟩
        · have e1 := List.getElem_idxOf (List.idxOf_lt_length_of_mem ma)
          have e2 := List.getElem_idxOf (List.idxOf_lt_length_of_mem mb)
          rw [← e1, ← e2]
          simp [z]
        · have go : ∀ u, u ∈ post t [] → (post t []).idxOf u < i → ord.idxOf c < rk ord u → ∀ c' x y, ((foldOf t).take i)[(post t []).idxOf u]? = some (.node c' x y) → ord.idxOf c < ord.idxOf c' := by
            intro u hu hlu hr c' x y hrow
            rw [List.getElem?_take_of_lt hlu] at hrow
            unfold foldOf at hrow
            rw [List.getElem?_map, List.getElem?_eq_getElem (List.idxOf_lt_length_of_mem hu), List.getElem_idxOf] at hrow
            cases u with
            | leaf ns => simp [rowIn] at hrow
            | node c2 a2 b2 =>
              simp only [Option.map_some, rowIn, Option.some.injEq, Row.node.injEq] at hrow
              rw [← hrow.1]
              exact hr
          rintro g (rfl | rfl)
          · exact go a ma la o.2.1
          · exact go b mb lb o.2.2.1
theorem isFold_iff {ord : List Nat} {F : List Row} (h : RowsP ord F) (hp : 0 < F.length) {t : Tr} (d : Den F (F.length - 1) t) : IsFold ord (encFold F) ↔ F = foldOf t := by
  obtain ⟨t', d', o', n'⟩ := h.den (F.length - 1) (by omega)
  have := Den.fn d d'
  subst this
  constructor
  · rintro ⟨u, _, _, e⟩
    have e : F = foldOf u := by
      have e : F.map encRow = (foldOf u).map encRow := by injection e
      exact (List.map_inj_right fun x y e => row_inj e).mp e
    have du := den_fold u
    rw [← e] at du
    rw [Den.fn d du]; exact e
  · intro e
    exact ⟨t, o', n', by rw [← e]⟩
end Ks

/-! Ks: the law's own look at a fold. -/
namespace Ks
open PySem PySem.Spec PyProof.Rows L2 Kf

theorem if_c {P Q : Prop} {b c : Bool} (e : b = c) (h1 : c = true → P) (h2 : c = false → Q) : if b = true then P else Q := by subst e; exact if_b h1 h2
theorem slT {ds e : List PyData} {lo hi : Option Int} {q : PyData → Prop} (h : cutL ds lo hi = e) (hq : q (.tuple e)) : slV (.tuple ds) lo hi q := by subst h; exact hq
theorem subN {x y j : Int} {q : PyData → Prop} (e : x - y = j) (h : q (.int j)) : subV (.int x) (.int y) q := by subst e; exact h
theorem at0 {ds : List PyData} {d : PyData} (h : ds[0]? = some d) : atI ds 0 = some d := atI_nat (j := 0) h
theorem at1 {ds : List PyData} {d : PyData} (h : ds[1]? = some d) : atI ds 1 = some d := atI_nat (j := 1) h
theorem at2 {ds : List PyData} {d : PyData} (h : ds[2]? = some d) : atI ds 2 = some d := atI_nat (j := 2) h
theorem nz_ixs (l : List Nat) : (nz l).map PyData.int = ixs l := by
  unfold nz ixs
  rw [List.map_map]; rfl
theorem row_good {ord : List Nat} {F : List Row} {r : Row} (h : RowFit ord F r) : r.good := by
  cases r with
  | leaf ns => exact NmP.strs h
  | node c a b => exact True.intro
theorem pl_ints (l : List Nat) : Pl 2 (.list (ixs l)) := Pl.lst fun d hd => by
  obtain ⟨x, _, rfl⟩ := List.mem_map.mp hd
  exact pl_int _
theorem ixs_inj {a b : List Nat} (h : ixs a = ixs b) : a = b := (List.map_inj_right fun x y e => by injection e with e; exact Int.ofNat.inj e).mp h
theorem enc_not {d : PyData} (h : ∀ ds, d ≠ .tuple ds) (r : Row) : d ≠ encRow r := by
  cases r <;> exact h _
theorem beh_iff {ord : List Nat} (nd : ord.Nodup) {c c' : Nat} (hc : c ∈ ord) (hc' : c' ∈ ord) : c' ∈ ord.drop (ord.idxOf c + 1) ↔ ord.idxOf c < ord.idxOf c' := by
  have h2 : ord[ord.idxOf c']? = some c' := by rw [List.getElem?_eq_getElem (List.idxOf_lt_length_of_mem hc'), List.getElem_idxOf]
  constructor
  · intro h
    obtain ⟨j, hj⟩ := List.mem_iff_getElem?.mp h
    rw [List.getElem?_drop] at hj
    have := nodup_at nd h2 hj
    omega
  · intro h
    refine List.mem_iff_getElem?.mpr ⟨ord.idxOf c' - (ord.idxOf c + 1), ?_⟩
    rw [List.getElem?_drop, show ord.idxOf c + 1 + (ord.idxOf c' - (ord.idxOf c + 1)) = ord.idxOf c' by omega]
    exact h2
def t_goal_test : TDb := (dAnd (dB (dOp (opR neV2) (dOp (opV ixV) (dOp (opV ixV) (dVar 0) (dVar 5)) (dC (.int 0))) (dC (.str "names")))) (dB (dOp (opR (inV2 not)) (dOp (opV ixV) (dOp (opV ixV) (dVar 0) (dVar 5)) (dC (.int 0))) (dVar 4))))
def t_L_is_row : TDs := (dSeq (dSet 3 (dOp (opV ixV) (dVar 0) (dVar 1)))
  (dSeq (dIf (dOr (dNot (dB (dIsi "tuple" (dVar 3)))) (dOr (dB (dOp (opR eqV2) (dCB lenP (daCons (dVar 3) daNil)) (dC (.int 0)))) (dB (dOp (opR (inV2 id)) (dVar 3) (dSl (dVar 0) doNone (doSome (dVar 1))))))) (dRet (dC (.bool false))) dNext)
  (dSeq (dIf (dB (dIsi "str" (dOp (opV ixV) (dVar 3) (dC (.int 0))))) (dRet (dAndV (dOp (opR eqV2) (dOp (opV ixV) (dVar 3) (dC (.int 0))) (dC (.str "names"))) (dAndV (dOp (opR eqV2) (dCB lenP (daCons (dVar 3) daNil)) (dC (.int 2))) (dCall sp_L_are_names (daCons (dOp (opV ixV) (dVar 3) (dC (.int 1))) daNil))))) dNext)
  (dSeq (dIf (dOr (dB (dOp (opR neV2) (dCB lenP (daCons (dVar 3) daNil)) (dC (.int 3)))) (dNot (dB (dCall sp_L_number (daCons (dOp (opV ixV) (dVar 3) (dC (.int 0))) (daCons (dOp (opV subV) (dCB lenP (daCons (dVar 2) daNil)) (dC (.int 1))) daNil)))))) (dRet (dC (.bool false))) dNext)
  (dSeq (dIf (dOr (dNot (dB (dCall sp_L_number (daCons (dOp (opV ixV) (dVar 3) (dC (.int 1))) (daCons (dOp (opV subV) (dVar 1) (dC (.int 1))) daNil))))) (dOr (dNot (dB (dCall sp_L_number (daCons (dOp (opV ixV) (dVar 3) (dC (.int 2))) (daCons (dOp (opV subV) (dVar 1) (dC (.int 1))) daNil))))) (dB (dOp (opR eqV2) (dOp (opV ixV) (dVar 3) (dC (.int 1))) (dOp (opV ixV) (dVar 3) (dC (.int 2))))))) (dRet (dC (.bool false))) dNext)
  (dSeq (dSet 4 (dSl (dVar 2) (doSome (dOp (opV addV) (dLstIx (dCB listP (daCons (dVar 2) daNil)) (daCons (dOp (opV ixV) (dVar 3) (dC (.int 0))) daNil)) (dC (.int 1)))) doNone))
  (dRet (dOp (opR eqV2) (dLc (diTup (dSl (dVar 3) (doSome (dC (.int 1))) doNone)) (.one 5) t_goal_test (dVar 5)) (dLst daNil)))))))))
def sp_L_is_row : DSp := fun ds M k => ∃ (m : Nat) (ord : List Nat) (fs : List PyData) (F : List Row) (d : PyData), ds = [.dat (.tuple fs), .dat (.int ((F.length : Nat) : Int)), .dat (ordD (nz ord))] ∧ ord.Perm (List.range m) ∧ Gd (.tuple fs) ∧ fs[F.length]? = some d ∧ fs.take F.length = F.map encRow ∧ RowsP ord F ∧
  ∀ b : Bool, (b = true ↔ RowP ord F d) → k (.dat (.bool b)) M
def badG (F : List Row) (beh : List Nat) (g : Nat) : Bool := match F[g]? with
  | some (.node c _ _) => decide (c ∉ beh)
  | _ => false
theorem in_ixs {l : List Nat} {c : Nat} : inOk (.int ((c : Nat) : Int)) (.tuple (ixs l)) (ixs l) = true := by
  unfold inOk; rw [ints_flat]; rfl
theorem goal_comp {M : MS} {k : List PyData → MS → Prop} {fs : List PyData} {F : List Row} {beh : List Nat} {x1 x2 x3 : Option DV} (hfs : ∀ (g : Nat) (r : Row), F[g]? = some r → fs[g]? = some (encRow r)) : ∀ (l acc : List Nat) (x5 : Option DV), acc.length + l.length ≤ 1000000 → (∀ g, g ∈ l → g < F.length) → k ((acc ++ l.filter (badG F beh)).map fun i => .int ((i : Nat) : Int)) M →
    compD (.one 5) t_goal_test (dVar 5) [some (.dat (.tuple fs)), x1, x2, x3, some (.dat (.tuple (ixs beh))), x5] none (l.map fun i => .int ((i : Nat) : Int)) (acc.map fun i => .int ((i : Nat) : Int)) M k
  | [], acc, x5, _, _, h => ⟨True.intro, by rw [List.filter_nil, List.append_nil] at h; exact h⟩
  | g :: l, acc, x5, hl, hg, h => by
    rw [List.length_cons] at hl
    rw [List.filter_cons] at h
    have hlt := hg g List.mem_cons_self
    have hrow : F[g]? = some F[g] := List.getElem?_eq_getElem hlt
    have hat := atI_nat (hfs g _ hrow)
    refine ⟨True.intro, _, rfl, ?_⟩
    refine ⟨_, rfl, _, rfl, _, _, rfl, rfl, _, hat, ?_⟩
    cases e : F[g] with
    | leaf ns =>
      rw [e] at hrow hat
      have hb : badG F beh g = false := by unfold badG; rw [hrow]
      rw [if_neg (by rw [hb]; exact Bool.false_ne_true)] at h
      exact ⟨_, _, rfl, rfl, _, rfl, _, _, rfl, rfl, rfl, _, rfl, if_f rfl (if_f rfl (goal_comp hfs l acc _ (by omega) (fun x hx => hg x (List.mem_cons_of_mem _ hx)) h))⟩
    | node c x y =>
      rw [e] at hrow hat
      have hb : badG F beh g = decide (c ∉ beh) := by unfold badG; rw [hrow]
      rw [hb] at h
      refine ⟨_, _, rfl, rfl, _, rfl, _, _, rfl, rfl, rfl, _, rfl, if_t rfl ?_⟩
      refine ⟨_, rfl, _, rfl, _, _, rfl, rfl, _, hat, _, _, rfl, rfl, _, rfl, _, rfl, _, _, rfl, rfl, ixs beh, rfl, in_ixs, _, rfl, ?_⟩
      have hn : (!decide (c ∈ beh)) = decide (c ∉ beh) := by by_cases z : c ∈ beh <;> simp [z]
      show if (!((ixs beh).any fun z => PyData.eqv z (.int ((c : Nat) : Int)))) = true then _ else _
      rw [ints_any, hn]
      refine if_b (fun e => ?_) fun e => ?_
      · rw [if_pos e] at h
        refine ⟨_, rfl, _, rfl, by rw [List.length_map]; exact slt (by omega), ?_⟩
        have ea : acc.map (fun i => PyData.int ((i : Nat) : Int)) ++ [PyData.int ((g : Nat) : Int)] = (acc ++ [g]).map fun i => PyData.int ((i : Nat) : Int) := by rw [List.map_append]; rfl
        rw [ea]
        refine goal_comp hfs l (acc ++ [g]) _ (by rw [List.length_append, List.length_singleton]; omega) (fun x hx => hg x (List.mem_cons_of_mem _ hx)) ?_
        rw [List.append_assoc]; exact h
      · rw [if_neg (by rw [e]; exact Bool.false_ne_true)] at h
        exact goal_comp hfs l acc _ (by omega) (fun x hx => hg x (List.mem_cons_of_mem _ hx)) h
theorem numD_of {d : PyData} {n : Nat} (h : numD d ((n : Nat) - 1 : Int) = true) : ∃ c : Nat, d = .int ((c : Nat) : Int) ∧ c < n := by
  cases d with
  | int i =>
    have h : (decide (0 ≤ i) && decide (i ≤ (n : Nat) - 1)) = true := h
    rw [Bool.and_eq_true] at h
    have h1 := of_decide_eq_true h.1
    have h2 := of_decide_eq_true h.2
    exact ⟨i.toNat, by rw [Int.toNat_of_nonneg h1], by omega⟩
  | _ => cases h
theorem numD_nat {c n : Nat} (h : c < n) : numD (.int ((c : Nat) : Int)) ((n : Nat) - 1 : Int) = true := by
  show (decide ((0 : Int) ≤ ((c : Nat) : Int)) && decide (((c : Nat) : Int) ≤ (n : Nat) - 1)) = true
  rw [decide_eq_true (by omega), decide_eq_true (by omega)]; rfl
theorem cut_1 (x y z : PyData) : cutL [x, y, z] (some 1) none = [y, z] := cut_from (j := 1) (by simp)
set_option maxHeartbeats 2000000 in
theorem rd_L_is_row : ∀ ds M k, sp_L_is_row ds M k → t_L_is_row (rtE k) (startD ["_law_fold", "_law_at_here", "_law_order_here", "_law_row", "_law_behind", "_law_goal"] ds) M := by
  rintro _ M k ⟨m, ord, fs, F, d, rfl, hp, hg, hd, htk, hF, h⟩
  have gd := hg.tup d (List.mem_of_getElem? hd)
  have nd := perm_nd hp
  have hlen : F.length ≤ fs.length := Nat.le_of_lt (List.getElem?_eq_some_iff.mp hd).1
  have fail : ¬ RowP ord F d → rtK k (.dat (.bool false)) M := fun n => rt_same (h false ⟨fun z => (by cases z), fun z => absurd z n⟩)
  have hcut : cutL fs none (some ((F.length : Nat) : Int)) = F.map encRow := (cut_to hlen).trans htk
  have hfs : ∀ g r, F[g]? = some r → fs[g]? = some (encRow r) := fun g r e => by
    have hl := (List.getElem?_eq_some_iff.mp e).1
    have : (fs.take F.length)[g]? = some (encRow r) := by rw [htk, List.getElem?_map, e]; rfl
    rw [List.getElem?_take_of_lt hl] at this
    exact this
  refine ⟨_, rfl, _, rfl, _, _, rfl, rfl, d, atI_nat hd, ?_⟩
  refine ⟨_, rfl, d, gd.cv, gd.nd, _, rfl, ?_⟩
  by_cases ht : ¬ ∃ ds, d = .tuple ds
  · have hty : isiT "tuple" (tyName d) = false := by
      cases d with
      | tuple ds => exact absurd ⟨ds, rfl⟩ ht
      | dict kv => exact absurd rfl (gd.nd kv)
      | _ => rfl
    rw [hty]
    exact if_t rfl (if_t rfl (fail fun ⟨r, e, _⟩ => enc_not (fun ds e => ht ⟨ds, e⟩) r e))
  obtain ⟨ds, rfl⟩ := Classical.not_not.mp ht
  refine if_f rfl ?_
  refine ⟨_, rfl, _, .tuple ds, _, rfl, rfl, rfl, _, _, rfl, rfl, rfl, _, rfl, ?_⟩
  cases ds with
  | nil => exact if_t rfl (if_t rfl (fail fun ⟨r, e, _⟩ => by cases r <;> simp [encRow] at e))
  | cons r0 rs =>
  refine if_f (beq_eq_false_iff_ne.mpr (by rw [List.length_cons]; omega)) ?_
  have hsF : SeqAt.shaped (.tuple (F.map encRow)) = true := ((Pl.tup (n := 3) fun d hd => by
    obtain ⟨r, hr, rfl⟩ := List.mem_map.mp hd
    exact pl_row (hF.good r hr)).cmp (by decide)).sh
  refine ⟨_, rfl, _, rfl, _, rfl, _, rfl, _, rfl, _, _, rfl, rfl, _, rfl, ?_, _, rfl, ?_⟩
  · rw [hcut]
    unfold inOk shp
    show (_ || (SeqAt.shaped (.tuple (r0 :: rs)) && SeqAt.shaped (.tuple (F.map encRow)))) = true
    rw [gd.sp, hsF, Bool.true_and, Bool.or_true]
  show (if (id ((cutL fs none (some ((F.length : Nat) : Int))).any fun z => PyData.eqv z (.tuple (r0 :: rs)))) = true then _ else _)
  rw [hcut]
  refine if_b (fun e => ?_) fun e => ?_
  · refine fail fun ⟨r, er, hn, hfit⟩ => ?_
    obtain ⟨z, hz, ez⟩ := List.any_eq_true.mp e
    obtain ⟨r', hr', rfl⟩ := List.mem_map.mp hz
    rw [er] at ez
    have := eqv_same _ _ (pl_row (hF.good r' hr')).pl (pl_row (row_good hfit)).pl ez
    rw [row_inj this] at hr'
    exact hn hr'
  have hnew : ∀ r, PyData.tuple (r0 :: rs) = encRow r → r.good → r ∉ F := fun r er hr z => by
    have e : ((F.map encRow).any fun z => PyData.eqv z (.tuple (r0 :: rs))) = false := e
    have h1 : PyData.eqv (encRow r) (.tuple (r0 :: rs)) = true := by rw [er]; exact ((pl_row hr).cmp (by decide)).eq_t
    have : ((F.map encRow).any fun z => PyData.eqv z (.tuple (r0 :: rs))) = true := List.any_eq_true.mpr ⟨encRow r, List.mem_map.mpr ⟨r, z, rfl⟩, h1⟩
    rw [e] at this
    cases this
  have g0 := gd.tup r0 List.mem_cons_self
  refine ⟨_, rfl, _, _, rfl, rfl, r0, at0 rfl, r0, g0.cv, g0.nd, _, rfl, ?_⟩
  by_cases hstr : ∃ s, r0 = .str s
  · obtain ⟨s, rfl⟩ := hstr
    refine if_t rfl ?_
    refine ⟨_, rfl, _, _, rfl, rfl, .str s, at0 rfl, _, _, rfl, rfl, rfl, _, rfl, ?_⟩
    refine if_c (eqv_str s "names") (fun e => ?_) fun e => fail fun ⟨r, er, _⟩ => by
      cases r with
      | leaf ns =>
        simp only [encRow, PyData.tuple.injEq, List.cons.injEq, PyData.str.injEq] at er
        exact of_decide_eq_false e er.1
      | node c a b => simp [encRow] at er
    have es := of_decide_eq_true e
    subst es
    refine ⟨_, rfl, _, .tuple (.str "names" :: rs), _, rfl, rfl, rfl, _, _, rfl, rfl, rfl, _, rfl, ?_⟩
    match rs, gd, hd, fail, hnew, h with
    | [r1], gd, hd, fail, hnew, h =>
      have g1 := gd.tup r1 (List.mem_cons_of_mem _ List.mem_cons_self)
      refine if_t rfl ⟨_, rfl, _, _, rfl, rfl, r1, at1 rfl, r1, rfl, g1, rt_same (h _ ?_)⟩
      constructor
      · intro z
        obtain ⟨ns, rfl, hn⟩ := are_iff.mp z
        exact ⟨.leaf ns, rfl, hnew (.leaf ns) rfl hn.strs, hn⟩
      · rintro ⟨r, er, _, hfit⟩
        cases r with
        | leaf ns =>
          simp only [encRow, PyData.tuple.injEq, List.cons.injEq, and_true, true_and] at er
          exact are_iff.mpr ⟨ns, er, hfit⟩
        | node c a b => simp [encRow] at er
    | [], gd, hd, fail, hnew, h => exact if_f rfl (fail fun ⟨r, er, _⟩ => by cases r <;> simp [encRow] at er)
    | r1 :: r2 :: rs, gd, hd, fail, hnew, h =>
      refine if_f (beq_eq_false_iff_ne.mpr (by simp only [List.length_cons]; omega)) (fail fun ⟨r, er, _⟩ => ?_)
      cases r <;> simp [encRow] at er
  have hty : isiT "str" (tyName r0) = false := by
    cases r0 with
    | str s => exact absurd ⟨s, rfl⟩ hstr
    | dict kv => exact absurd rfl (g0.nd kv)
    | _ => rfl
  rw [hty]
  refine if_f rfl ?_
  have nl : ∀ ns, PyData.tuple (r0 :: rs) ≠ encRow (.leaf ns) := fun ns z => by
    simp only [encRow, PyData.tuple.injEq, List.cons.injEq] at z
    exact hstr ⟨_, z.1⟩
  refine ⟨_, rfl, _, .tuple (r0 :: rs), _, rfl, rfl, rfl, _, _, rfl, rfl, rfl, _, rfl, ?_⟩
  match rs, gd, hd, fail, hnew, h, nl with
  | [], gd, hd, fail, hnew, h, nl => exact if_t rfl (if_t rfl (fail fun ⟨r, er, _⟩ => by cases r <;> simp [encRow] at er))
  | [_], gd, hd, fail, hnew, h, nl =>
    refine if_t rfl (if_t rfl (fail fun ⟨r, er, _⟩ => ?_))
    cases r with
    | leaf ns => exact nl ns er
    | node c a b => simp [encRow] at er
  | a1 :: a2 :: a3 :: rs, gd, hd, fail, hnew, h, nl =>
    have hne : (!PyData.eqv (.int (((r0 :: a1 :: a2 :: a3 :: rs).length : Nat) : Int)) (.int 3)) = true := by
      rw [eqv_int, beq_eq_false_iff_ne.mpr (by simp only [List.length_cons]; omega)]; rfl
    refine if_t hne (if_t rfl (fail fun ⟨r, er, _⟩ => ?_))
    cases r <;> simp [encRow] at er
  | [r1, r2], gd, hd, fail, hnew, h, nl =>
  refine if_f rfl ?_
  have g1 := gd.tup r1 (List.mem_cons_of_mem _ List.mem_cons_self)
  have g2 := gd.tup r2 (List.mem_cons_of_mem _ (List.mem_cons_of_mem _ List.mem_cons_self))
  have hm : (((nz ord).map PyData.int).length : Nat) = m := by rw [nz_ixs, ints_len, perm_len hp]
  refine ⟨_, rfl, _, _, rfl, rfl, r0, at0 rfl, _, rfl, _, .tuple ((nz ord).map PyData.int), _, rfl, rfl, rfl, _, _, rfl, rfl, r0, _, rfl, g0.nd, _, rfl, ?_⟩
  rw [hm]
  have node : ∀ {P : Prop}, (∀ c a b, r0 = .int ((c : Nat) : Int) → r1 = .int ((a : Nat) : Int) → r2 = .int ((b : Nat) : Int) → RowFit ord F (.node c a b) → P) → RowP ord F (.tuple [r0, r1, r2]) → P := fun {P} z ⟨r, er, _, hfit⟩ => by
    cases r with
    | leaf ns => exact absurd er (nl ns)
    | node c a b =>
      simp only [encRow, PyData.tuple.injEq, List.cons.injEq, and_true] at er
      exact z c a b er.1 er.2.1 er.2.2 hfit
  cases hn0 : numD r0 ((m : Nat) - 1 : Int) with
  | false =>
    refine if_t rfl (fail (node fun c a b e0 e1 e2 hf => ?_))
    rw [e0, numD_nat ((perm_mem hp).mp hf.1)] at hn0
    cases hn0
  | true =>
  obtain ⟨c, rfl, hc⟩ := numD_of hn0
  refine if_f rfl ?_
  refine ⟨_, rfl, _, _, rfl, rfl, r1, at1 rfl, _, rfl, _, _, rfl, rfl, r1, _, rfl, g1.nd, _, rfl, ?_⟩
  cases hn1 : numD r1 ((F.length : Nat) - 1 : Int) with
  | false =>
    refine if_t rfl (if_t rfl (fail (node fun c a b e0 e1 e2 hf => ?_)))
    rw [e1, numD_nat hf.2.1] at hn1
    cases hn1
  | true =>
  obtain ⟨a, rfl, ha⟩ := numD_of hn1
  refine if_f rfl ?_
  refine ⟨_, rfl, _, _, rfl, rfl, r2, at2 rfl, _, rfl, _, _, rfl, rfl, r2, _, rfl, g2.nd, _, rfl, ?_⟩
  cases hn2 : numD r2 ((F.length : Nat) - 1 : Int) with
  | false =>
    refine if_t rfl (if_t rfl (fail (node fun c a b e0 e1 e2 hf => ?_)))
    rw [e2, numD_nat hf.2.2.1] at hn2
    cases hn2
  | true =>
  obtain ⟨b, rfl, hb⟩ := numD_of hn2
  refine if_f rfl ?_
  refine ⟨_, rfl, _, _, rfl, rfl, _, at1 rfl, _, rfl, _, _, rfl, rfl, _, at2 rfl, _, _, rfl, rfl, rfl, _, rfl, ?_⟩
  refine if_c (eqv_nat a b) (fun e => ?_) fun e => ?_
  · refine fail (node fun c' a' b' e0 e1 e2 hf => hf.2.2.2.1 ?_)
    simp only [PyData.int.injEq] at e1 e2
    have := beq_iff_eq.mp e
    omega
  have hab : a ≠ b := beq_eq_false_iff_ne.mp e
  have hco : c ∈ ord := (perm_mem hp).mpr hc
  have hcl := List.idxOf_lt_length_of_mem hco
  have hix : ord[ord.idxOf c]? = some c := by rw [List.getElem?_eq_getElem hcl, List.getElem_idxOf]
  refine ⟨_, rfl, _, rfl, _, .tuple ((nz ord).map PyData.int), _, rfl, rfl, rfl, _, rfl, _, rfl, _, _, rfl, rfl, _, at0 rfl, _, _, ord.idxOf c, _, rfl, rfl, rfl, by rw [nz_ixs]; exact ints_flat ord, by rw [nz_ixs]; exact ixs_at hix, by rw [eqv_nat]; exact beq_self_eq_true _, by rw [nz_ixs]; exact ixs_not fun m hm e => absurd (idx_first ord m e) (Nat.not_le_of_lt hm), _, _, rfl, rfl, _, rfl, _, rfl, ?_⟩
  have hbeh : cutL ((nz ord).map PyData.int) (some (((ord.idxOf c : Nat) : Int) + 1)) none = ixs (ord.drop (ord.idxOf c + 1)) := by
    rw [nz_ixs, ← ixs_drop]
    exact cut_from (j := ord.idxOf c + 1) (by rw [ints_len]; exact hcl)
  refine slT (ds := (nz ord).map PyData.int) hbeh ?_
  refine ⟨_, rfl, _, rfl, _, rfl, _, rfl, ?_⟩
  rw [cut_1]
  refine goal_comp hfs [a, b] [] _ (by simp) (fun g hg => ?_) ?_
  · rcases List.mem_cons.mp hg with rfl | hg
    · exact ha
    · rw [List.mem_singleton] at hg; subst hg; exact hb
  rw [List.nil_append]
  have hfit : (∀ g, g = a ∨ g = b → badG F (ord.drop (ord.idxOf c + 1)) g = false) ↔ RowFit ord F (.node c a b) := by
    constructor
    · intro z
      refine ⟨hco, ha, hb, hab, fun g hg c' x y e => ?_⟩
      have := z g hg
      unfold badG at this
      rw [e] at this
      have : ¬ ¬ c' ∈ ord.drop (ord.idxOf c + 1) := of_decide_eq_false this
      have := Classical.not_not.mp this
      exact (beh_iff nd hco (List.mem_of_mem_drop this)).mp this
    · intro z g hg
      unfold badG
      cases e : F[g]? with
      | none => rfl
      | some r =>
        cases r with
        | leaf ns => rfl
        | node c' x y =>
          have h5 := z.2.2.2.2 g hg c' x y e
          have hc' : c' ∈ ord := by
            have hf := (hF.at g _ e).1
            exact hf
          refine decide_eq_false fun q => q ((beh_iff nd hco hc').mpr h5)
  have hiff : ([a, b].filter (badG F (ord.drop (ord.idxOf c + 1)))) = [] ↔ RowP ord F (.tuple [.int ((c : Nat) : Int), .int ((a : Nat) : Int), .int ((b : Nat) : Int)]) := by
    rw [List.filter_eq_nil_iff]
    constructor
    · intro z
      have hf := hfit.mp fun g hg => by
        have : g ∈ [a, b] := by rcases hg with rfl | rfl <;> simp
        simpa using z g this
      exact ⟨.node c a b, rfl, hnew (.node c a b) rfl True.intro, hf⟩
    · intro z
      refine node (fun c' a' b' e0 e1 e2 hf => ?_) z
      simp only [PyData.int.injEq] at e0 e1 e2
      cases Int.ofNat.inj e0
      cases Int.ofNat.inj e1
      cases Int.ofNat.inj e2
      intro g hg
      have := hfit.mpr hf g (by simpa using hg)
      rw [this]; exact Bool.false_ne_true
  refine ⟨[], rfl, szb rfl, _, _, rfl, rfl, Cmp.eq2 ((pl_ints _).cmp (by decide)) ((pl_ints []).cmp (by decide)) (fun e => ?_) fun e => ?_⟩
  · have e : ixs ([a, b].filter (badG F (ord.drop (ord.idxOf c + 1)))) = ixs [] := by injection e
    exact rt_same (h true ⟨fun _ => hiff.mp (ixs_inj e), fun _ => rfl⟩)
  · refine fail fun z => e ?_
    rw [hiff.mpr z]
/-! ### _law_left -/
def t_left_turn (self : DSp) : TDs := (dSet 3 (dOp (opV addV) (dVar 3) (dLc (diSeq (dCall self (daCons (dVar 0) (daCons (dVar 4) daNil)))) (.one 5) (dB (dOp (opR (inV2 not)) (dVar 5) (dVar 3))) (dVar 5))))
def t_L_left (self : DSp) : TDs := (dSeq (dSet 2 (dOp (opV ixV) (dVar 0) (dVar 1)))
  (dSeq (dSet 3 (dLst daNil))
  (dSeq (dIf (dB (dOp (opR neV2) (dOp (opV ixV) (dVar 2) (dC (.int 0))) (dC (.str "names")))) (dFor (diTup (dSl (dVar 2) (doSome (dC (.int 1))) doNone)) (gdName 4) (t_left_turn self)) dNext)
  (dRet (dOp (opV addV) (dVar 3) (dLst (daCons (dVar 1) daNil)))))))
def sp_L_left (n : Nat) : DSp := fun ds M k => ∃ (F : List Row) (i : Nat) (t : Tr), ds = [.dat (encFold F), .dat (.int ((i : Nat) : Int))] ∧ F.Nodup ∧ Den F i t ∧ t.depth ≤ n ∧ t.size ≤ 100000 ∧ ∀ L, Dens F L (post t []) → k (.dat (.list (ixs L))) M
theorem out_comp {M : MS} {k : List PyData → MS → Prop} {K : List Nat} {x0 x1 x2 x4 : Option DV} : ∀ (l acc : List Nat) (x5 : Option DV), acc.length + l.length ≤ 1000000 → k (ixs (acc ++ l.filter fun i => decide (i ∉ K))) M →
    compD (.one 5) (dB (dOp (opR (inV2 not)) (dVar 5) (dVar 3))) (dVar 5) [x0, x1, x2, some (.dat (.list (ixs K))), x4, x5] none (ixs l) (ixs acc) M k
  | [], acc, x5, _, h => ⟨True.intro, by rw [List.filter_nil, List.append_nil] at h; exact h⟩
  | g :: l, acc, x5, hl, h => by
    rw [List.length_cons] at hl
    rw [List.filter_cons] at h
    have iok : inOk (.int ((g : Nat) : Int)) (.list (ixs K)) (ixs K) = true := by unfold inOk; rw [ints_flat]; rfl
    refine ⟨True.intro, _, rfl, _, rfl, _, rfl, _, _, rfl, rfl, ixs K, rfl, iok, _, rfl, ?_⟩
    have hn : (!decide (g ∈ K)) = decide (g ∉ K) := by by_cases z : g ∈ K <;> simp [z]
    show if (!((ixs K).any fun z => PyData.eqv z (.int ((g : Nat) : Int)))) = true then _ else _
    rw [ints_any, hn]
    refine if_b (fun e => ?_) fun e => ?_
    · rw [if_pos e] at h
      refine ⟨_, rfl, _, rfl, by rw [ints_len]; exact slt (by omega), ?_⟩
      rw [ints_snoc]
      refine out_comp l (acc ++ [g]) _ (by rw [List.length_append, List.length_singleton]; omega) ?_
      rw [List.append_assoc]; exact h
    · rw [if_neg (by rw [e]; exact Bool.false_ne_true)] at h
      exact out_comp l acc _ (by omega) h
theorem Dens.app {R : List Row} {l l' : List Nat} {ts ts' : List Tr} (h : Dens R l ts) (h' : Dens R l' ts') : Dens R (l ++ l') (ts ++ ts') := by
  induction h with
  | nil => exact h'
  | cons d _ ih => exact .cons d ih
theorem Dens.out {R : List Row} (nd : R.Nodup) {K : List Nat} {m : List Tr} (hK : Dens R K m) {l : List Nat} {ts : List Tr} (h : Dens R l ts) : Dens R (l.filter fun i => decide (i ∉ K)) (ts.filter fun x => decide (x ∉ m)) := by
  induction h with
  | nil => exact .nil
  | @cons i t l ts d r ih =>
    have e : decide (i ∉ K) = decide (t ∉ m) := by
      have := hK.mem nd d
      by_cases z : t ∈ m <;> simp [z, this]
    rw [List.filter_cons, List.filter_cons, e]
    split
    · exact .cons d ih
    · exact ih
theorem rd_L_left (n : Nat) : ∀ ds M k, sp_L_left n ds M k → t_L_left (spPrev sp_L_left n) (rtE k) (startD ["_law_fold", "_law_at_here", "_law_row", "_law_found", "_law_goal", "_law_one"] ds) M := by
  rintro _ M k ⟨F, i, t, rfl, nd, hd, hn, hs, h⟩
  cases t with
  | leaf ns =>
    refine ⟨_, rfl, _, rfl, ix_row (rowsF F) hd.row_leaf ?_⟩
    refine ⟨[], rfl, szb rfl, ?_⟩
    refine ⟨_, rfl, _, _, rfl, rfl, _, rfl, _, _, rfl, rfl, rfl, _, rfl, if_f rfl ?_⟩
    refine ⟨_, rfl, _, rfl, _, rfl, szb rfl, _, _, rfl, rfl, szb rfl, rt_same (h [i] ?_)⟩
    have e : post (.leaf ns) [] = [.leaf ns] := by unfold post; rw [if_neg List.not_mem_nil]; rfl
    rw [e]
    exact .cons hd .nil
  | node c a b =>
    obtain ⟨x, y, er, h1, h2⟩ := hd.row_node
    have ed : (Tr.node c a b).depth = max a.depth b.depth + 1 := rfl
    have es : (Tr.node c a b).size = a.size + b.size + 1 := rfl
    obtain ⟨n, rfl⟩ : ∃ n', n = n' + 1 := ⟨n - 1, by omega⟩
    have ep : post (.node c a b) [] = post b (post a []) ++ [.node c a b] := by rw [post, if_neg List.not_mem_nil]
    obtain ⟨ca, _, _⟩ := post_cl a [] cl_nil
    have l1 := post_len a []
    have l2 := post_len b []
    rw [List.length_nil] at l1 l2
    refine ⟨_, rfl, _, rfl, ix_row (rowsF F) er ?_⟩
    refine ⟨[], rfl, szb rfl, ?_⟩
    refine ⟨_, rfl, _, _, rfl, rfl, _, rfl, _, _, rfl, rfl, rfl, _, rfl, if_t rfl ?_⟩
    refine ⟨_, rfl, _, rfl, _, rfl, _, rfl, ?_⟩
    rw [cut_1]
    refine ⟨True.intro, _, rfl, _, rfl, _, rfl, F, x, a, rfl, nd, h1, by omega, by omega, fun L1 hL1 => .inl ⟨_, rfl, ?_⟩⟩
    have n1 := hL1.len
    refine out_comp (K := []) L1 [] _ (by rw [List.length_nil]; omega) ?_
    have d1 : Dens F ([] ++ L1.filter fun i => decide (i ∉ [])) (post a []) := by
      have := Dens.out nd (K := []) (m := []) .nil hL1
      rw [post_filter a [] cl_nil]
      exact this
    generalize [] ++ L1.filter (fun i => decide (i ∉ [])) = K1 at d1 ⊢
    have nk := d1.len
    refine ⟨_, _, rfl, rfl, szm (by rw [List.length_nil, ints_len]; omega), ?_⟩
    rw [List.nil_append]
    refine ⟨True.intro, _, rfl, _, rfl, _, rfl, F, y, b, rfl, nd, h2, by omega, by omega, fun L2 hL2 => .inl ⟨_, rfl, ?_⟩⟩
    have n2 := hL2.len
    refine out_comp (K := K1) L2 [] _ (by rw [List.length_nil]; omega) ?_
    have d2 : Dens F (K1 ++ L2.filter fun i => decide (i ∉ K1)) (post b (post a [])) := by
      rw [post_filter b _ ca]
      exact d1.app (Dens.out nd d1 hL2)
    have n3 : (L2.filter fun i => decide (i ∉ K1)).length ≤ L2.length := List.length_filter_le _ _
    rw [List.nil_append]
    refine ⟨_, _, rfl, rfl, szm (by rw [ints_len, ints_len]; omega), ?_⟩
    rw [ixs_app]
    refine ⟨True.intro, ?_⟩
    refine ⟨_, rfl, _, rfl, _, rfl, szb rfl, _, _, rfl, rfl, szm (by rw [ints_len, List.length_append, List.length_singleton]; omega), ?_⟩
    rw [ints_snoc]
    refine rt_same (h _ ?_)
    rw [ep]
    exact d2.snoc hd
/-! ### _law_is_fold -/
def t_fold_turn : TDs := (dIf (dNot (dB (dCall sp_L_is_row (daCons (dVar 0) (daCons (dVar 2) (daCons (dVar 1) daNil)))))) (dRet (dC (.bool false))) dNext)
def t_L_is_fold : TDs := (dSeq (dIf (dOr (dNot (dB (dIsi "tuple" (dVar 0)))) (dB (dOp (opR eqV2) (dCB lenP (daCons (dVar 0) daNil)) (dC (.int 0))))) (dRet (dC (.bool false))) dNext)
  (dSeq (dFor (diRange1 (daCons (dCB lenP (daCons (dVar 0) daNil)) daNil)) (gdName 2) t_fold_turn)
  (dRet (dOp (opR eqV2) (dCall (sp_L_left 10) (daCons (dVar 0) (daCons (dOp (opV subV) (dCB lenP (daCons (dVar 0) daNil)) (dC (.int 1))) daNil))) (dListRange (dCB lenP (daCons (dVar 0) daNil)))))))
def sp_L_is_fold : DSp := fun ds M k => ∃ (m : Nat) (ord : List Nat) (d : PyData), ds = [.dat d, .dat (ordD (nz ord))] ∧ ord.Perm (List.range m) ∧ m ≤ 10 ∧ Gd d ∧ ∀ b : Bool, (b = true ↔ IsFold ord d) → k (.dat (.bool b)) M
theorem take_snoc {α : Type} {l : List α} {i : Nat} {x : α} (h : l[i]? = some x) : l.take (i + 1) = l.take i ++ [x] := by
  obtain ⟨h1, h2⟩ := List.getElem?_eq_some_iff.mp h
  rw [List.take_succ_eq_append_getElem h1, h2]
theorem fold_turns {k : KD} {M : MS} {De : DEnds} (hrt : De.rt = rtK k) {m : Nat} {ord : List Nat} (hp : ord.Perm (List.range m)) {fs : List PyData} (hg : Gd (.tuple fs)) (hno : ¬ IsFold ord (.tuple fs) → k (.dat (.bool false)) M) : ∀ (n : Nat) (F : List Row) (x2 : Option DV), fs.length = F.length + n → fs.take F.length = F.map encRow → RowsP ord F →
    (∀ F' y2, fs = F'.map encRow → RowsP ord F' → De.nx [some (.dat (.tuple fs)), some (.dat (ordD (nz ord))), y2] M) →
    forD (gdName 2) t_fold_turn De none ((rangeD 0 fs.length).drop F.length) [some (.dat (.tuple fs)), some (.dat (ordD (nz ord))), x2] M
  | 0, F, x2, hn, htk, hF, h => by
    have e1 : (rangeD 0 fs.length).drop F.length = [] := List.drop_eq_nil_of_le (by simp [rangeD]; omega)
    rw [e1]
    refine ⟨True.intro, h F x2 ?_ hF⟩
    rw [← htk, List.take_of_length_le (by omega)]
  | n + 1, F, x2, hn, htk, hF, h => by
    have hi : F.length < fs.length := by omega
    have hd : fs[F.length]? = some fs[F.length] := List.getElem?_eq_getElem hi
    have hl : F.length < (rangeD 0 fs.length).length := by simp [rangeD]; omega
    have e1 : (rangeD 0 fs.length).drop F.length = .int ((F.length : Nat) : Int) :: (rangeD 0 fs.length).drop (F.length + 1) := by
      rw [List.drop_eq_getElem_cons hl]
      congr 1
      simp [rangeD]
    rw [e1]
    refine ⟨True.intro, _, rfl, _, rfl, _, rfl, m, ord, fs, F, _, rfl, hp, hg, hd, htk, hF, fun b hb => ?_⟩
    refine ⟨_, rfl, ?_⟩
    cases b with
    | false =>
      refine if_t rfl ?_
      rw [hrt]
      refine rt_same (hno fun ⟨t, ho, hn', e⟩ => ?_)
      have e : fs = (foldOf t).map encRow := by injection e
      have hlen : fs.length = (foldOf t).length := by rw [e, List.length_map]
      have eF : F = (foldOf t).take F.length := by
        have : F.map encRow = ((foldOf t).take F.length).map encRow := by rw [← htk, e, List.map_take]
        exact (List.map_inj_right fun x y e => row_inj e).mp this
      have hlt : F.length < (foldOf t).length := by omega
      have hr := fold_rows ho hn' (F.length + 1) hlt
      obtain ⟨x, hat⟩ : ∃ x, (foldOf t)[F.length]? = some x := ⟨_, List.getElem?_eq_getElem hlt⟩
      have hP : RowP ord F fs[F.length] := by
        refine ⟨x, ?_, ?_, ?_⟩
        · have : fs[F.length]? = some (encRow x) := by rw [e, List.getElem?_map, hat]; rfl
          rw [hd] at this
          exact Option.some.inj this
        · intro z
          rw [eF] at z
          obtain ⟨j, hj, ej⟩ := List.mem_iff_getElem.mp z
          rw [List.length_take] at hj
          rw [List.getElem_take] at ej
          have := nodup_at (fold_nodup t) (List.getElem?_eq_getElem (show j < (foldOf t).length by omega)) (hat.trans (congrArg some ej.symm))
          omega
        · have := hr.at F.length _ (by rw [List.getElem?_take_of_lt (Nat.lt_succ_self _)]; exact hat)
          rw [List.take_take, Nat.min_eq_left (Nat.le_succ _), ← eF] at this
          exact this
      have := hb.mpr hP
      cases this
    | true =>
      refine if_f rfl ?_
      obtain ⟨r, er, hn', hfit⟩ := hb.mp rfl
      have := fold_turns hrt hp hg hno n (F ++ [r]) (some (.dat (.int ((F.length : Nat) : Int)))) (by rw [List.length_append, List.length_singleton]; omega) (by
        rw [List.length_append, List.length_singleton, take_snoc hd, htk, er, List.map_append]; rfl) (.snoc hF hn' hfit) h
      rw [List.length_append, List.length_singleton] at this
      exact this
theorem rd_L_is_fold : ∀ ds M k, sp_L_is_fold ds M k → t_L_is_fold (rtE k) (startD ["_law_fold", "_law_order_here", "_law_at_here"] ds) M := by
  rintro _ M k ⟨m, ord, d, rfl, hp, hm, hg, h⟩
  have fail : ¬ IsFold ord d → k (.dat (.bool false)) M := fun n => h false ⟨fun z => (by cases z), fun z => absurd z n⟩
  refine ⟨_, rfl, d, hg.cv, hg.nd, _, rfl, ?_⟩
  by_cases ht : ¬ ∃ fs, d = .tuple fs
  · have hty : isiT "tuple" (tyName d) = false := by
      cases d with
      | tuple ds => exact absurd ⟨ds, rfl⟩ ht
      | dict kv => exact absurd rfl (hg.nd kv)
      | _ => rfl
    rw [hty]
    exact if_t rfl (if_t rfl (rt_same (fail fun ⟨t, _, _, e⟩ => ht ⟨_, e⟩)))
  obtain ⟨fs, rfl⟩ := Classical.not_not.mp ht
  refine if_f rfl ?_
  refine ⟨_, rfl, _, .tuple fs, _, rfl, rfl, rfl, _, _, rfl, rfl, rfl, _, rfl, ?_⟩
  cases hfs : fs with
  | nil =>
    refine if_t rfl (rt_same ?_)
    rw [hfs] at fail
    refine fail fun ⟨t, _, _, e⟩ => ?_
    have e : [] = (foldOf t).map encRow := by injection e
    have := fold_pos t
    have := congrArg List.length e
    rw [List.length_map] at this
    simp at this
    omega
  | cons f0 fr =>
  rw [← hfs]
  have hpos : 0 < fs.length := by rw [hfs]; exact Nat.succ_pos _
  refine if_f (beq_eq_false_iff_ne.mpr (by omega)) ?_
  have hln := hg.len
  refine ⟨_, rfl, _, .tuple fs, _, rfl, rfl, rfl, _, rfl, ⟨by omega, by omega⟩, ?_⟩
  rw [Int.toNat_natCast]
  refine fold_turns (k := k) rfl hp hg fail fs.length [] _ (by rw [List.length_nil]; omega) (by rw [List.length_nil, List.take_zero]; rfl) .nil fun F y2 e hF => ?_
  subst e
  rw [List.length_map] at hpos hln
  obtain ⟨t, dt, ot, nt⟩ := hF.den (F.length - 1) (by omega)
  obtain ⟨b1, b2⟩ := size_b ot (by rw [perm_len hp]; omega)
  have b3 : t.size ≤ 100000 := by
    have h2 := t.size_le
    have h3 : 2 ^ (t.depth + 1) ≤ 2 ^ 11 := Nat.pow_le_pow_right (by decide) (by omega)
    have h4 : (2 : Nat) ^ 11 = 2048 := rfl
    omega
  have ei : ((((F.map encRow).length : Nat) : Int) - 1) = ((F.length - 1 : Nat) : Int) := by rw [List.length_map]; omega
  refine ⟨_, rfl, _, rfl, _, .tuple (F.map encRow), _, rfl, rfl, rfl, _, _, rfl, rfl, subN ei ?_⟩
  refine ⟨F, F.length - 1, t, rfl, hF.nodup, dt, b1, b3, fun L hL => ?_⟩
  refine ⟨_, rfl, _, .tuple (F.map encRow), _, rfl, rfl, rfl, _, rfl, by omega, by rw [List.length_map]; omega, ?_⟩
  rw [Int.toNat_natCast, List.length_map, range_nat]
  have hiff := (left_iff hF.nodup dt hL).trans (isFold_iff hF hpos dt).symm
  refine ⟨_, _, rfl, rfl, Cmp.eq2 ((pl_ints L).cmp (by decide)) ((pl_ints (List.range F.length)).cmp (by decide)) (fun e => ?_) fun e => ?_⟩
  · have e : ixs L = ixs (List.range F.length) := by injection e
    exact rt_same (h true ⟨fun _ => hiff.mp (ixs_inj e), fun _ => rfl⟩)
  · refine rt_same (fail fun z => e ?_)
    rw [hiff.mpr z]
end Ks

/-! Ks: the law of folded keys. -/
namespace Ks
open PySem PySem.Spec PyProof.Rows L2 Kf

theorem nmP_sub {ws ns : List Str} (hw : WsOk ws) (h : ns.Sublist ws) : NmP ns := nmP_iff.mpr ⟨fun w q => hw.ok w (h.subset q), hw.asc.sublist h⟩
theorem allL_mono {P Q : List Str → Prop} (h : ∀ ns, P ns → Q ns) : ∀ {t : Tr}, t.allL P → t.allL Q
  | .leaf ns, q => h ns q
  | .node _ a b, q => ⟨allL_mono h q.1, allL_mono h q.2⟩
theorem shortDs_of : ∀ {ds : List PyData}, (∀ d, d ∈ ds → shortD d = true) → shortDs ds = true
  | [], _ => by rw [shortDs]
  | d :: ds, h => by rw [shortDs, h d List.mem_cons_self, shortDs_of fun x hx => h x (List.mem_cons_of_mem _ hx)]; rfl
theorem short_tup {ds : List PyData} (hl : ds.length ≤ 1000000) (h : ∀ d, d ∈ ds → shortD d = true) : shortD (.tuple ds) = true := by
  rw [shortD, shortDs_of h, Bool.and_true]
  exact Nat.ble_eq_true_of_le hl
theorem word_short {w : Str} (h : WordOk w) : shortD (.str w) = true := by
  rw [shortD]
  exact Nat.ble_eq_true_of_le (Nat.le_trans h.len (by decide))
theorem nmP_len : ∀ {ns : List Str}, NmP ns → ∀ w, w ∈ ns → WordOk w := fun h => (nmP_iff.mp h).1
theorem names_short {ns : List Str} (h : NmP ns) (hl : ns.length ≤ 1000000) : shortD (encNames ns) = true :=
  short_tup (by rw [List.length_map]; exact hl) fun d hd => by
    obtain ⟨w, hw, rfl⟩ := List.mem_map.mp hd
    exact word_short (nmP_len h w hw)
/-- names by the alphabet, few -/
def NmF (ns : List Str) : Prop := NmP ns ∧ ns.length ≤ 1000000
theorem row_short {r : Row} (h : ∀ ns, r = .leaf ns → NmF ns) : shortD (encRow r) = true := by
  cases r with
  | leaf ns =>
    refine short_tup (by simp) fun d hd => ?_
    rcases List.mem_cons.mp hd with rfl | hd
    · rw [shortD]; decide
    · rw [List.mem_singleton] at hd; subst hd
      exact names_short (h ns rfl).1 (h ns rfl).2
  | node c i j =>
    refine short_tup (by simp) fun d hd => ?_
    rcases List.mem_cons.mp hd with rfl | hd
    · rw [shortD]
    rcases List.mem_cons.mp hd with rfl | hd
    · rw [shortD]
    rw [List.mem_singleton] at hd; subst hd
    rw [shortD]
theorem gd_fold {t : Tr} (h : t.allL NmF) (hs : t.size ≤ 1000000) : Gd (encFold (foldOf t)) := by
  have p := pl_fold (allL_mono (fun ns q => q.1.strs) h)
  refine ⟨p.lay, short_tup ?_ fun d hd => ?_, Nat.le_trans p.dep (by decide)⟩
  · rw [List.length_map, fold_len]
    have := post_len t []
    rw [List.length_nil] at this
    omega
  · obtain ⟨r, hr, rfl⟩ := List.mem_map.mp hd
    obtain ⟨x, hx, rfl⟩ := List.mem_map.mp hr
    refine row_short fun ns e => ?_
    have := post_sub t [] NmF h (fun x hx => absurd hx List.not_mem_nil) x hx
    cases x with
    | leaf ms => simp only [rowIn, Row.leaf.injEq] at e; subst e; exact this
    | node c a b => simp [rowIn] at e
theorem nmF_sub {ws ns : List Str} (hw : WsOk ws) (h : ns.Sublist ws) : NmF ns := ⟨nmP_sub hw h, by have := h.length_le; have := hw.few; omega⟩
/-- the law's look at a fold says yes -/
theorem is_fold_yes {ord : List Nat} {t : Tr} {b : Bool} (ho : Ordd ord t) (hn : t.allL NmF) (hb : b = true ↔ IsFold ord (encFold (foldOf t))) : b = true := hb.mpr ⟨t, ho, allL_mono (fun ns q => q.1) hn, rfl⟩
theorem gd_ord {m : Nat} {ord : List Nat} (hp : ord.Perm (List.range m)) (hm : m ≤ 10) {t : Tr} (ho : Ordd ord t) (hn : t.allL NmF) : Gd (encFold (foldOf t)) := gd_fold hn (size_b ho (by rw [perm_len hp]; omega)).2
theorem ne_bits' {a b : List Str} (h : StrsOk a) (e : a = b) {M : MS} {q : DV → Prop} (hq : q (.dat (.bool false))) : opR neV2 M (.dat (encNames a)) (.dat (encNames b)) q := by subst e; exact ne_bits h hq
/-- a key folded again is the same fold -/
theorem Fo.fn {ord : List Nat} {m : Nat} (hp : ord.Perm (List.range m)) {key u v : Tr} (hk : KeyIn ord key) (hu : Fo ord key u) (hv : Fo ord key v) : u = v :=
  Tr.same hp (hu.ordd (perm_nd hp) hk) (hv.ordd (perm_nd hp) hk) fun bs _ => (hu.ans bs).trans (hv.ans bs).symm
def t_k11_more : TDs := (dFor (diRange1 (daCons (dC (.int 7)) daNil)) (gdName 5) (dSet 3 (dOp (opV ixV) (dLst (daCons (dTup (daCons (dC (.str "ask")) (daCons (dOp (opV modI) (dVar 5) (dVar 1)) (daCons (dVar 3) (daCons (dTup (daCons (dC (.str "names")) (daCons (dTup daNil) daNil))) daNil))))) (daCons (dTup (daCons (dC (.str "ask")) (daCons (dOp (opV modI) (dVar 5) (dVar 1)) (daCons (dTup (daCons (dC (.str "names")) (daCons (dSl (dVar 2) doNone (doSome (dC (.int 1)))) daNil))) (daCons (dVar 3) daNil))))) daNil))) (dOp (opV modI) (dVar 5) (dC (.int 2))))))
def t_k11_turn : TDs := (dIf (dB (dOp (opR neV2) (dCall sp_answer_of (daCons (dVar 6) (daCons (dVar 7) daNil))) (dCall (sp_L_answer 12) (daCons (dVar 3) (daCons (dVar 7) daNil))))) (dRet (dC (.bool false))) dNext)
def t_law_k11 (C : Addr) : TDs := (dSeq (dAsg (dCall sp_L_made (daCons (dVar 0) (daCons (dC (.int 7)) daNil))) (gdTup 4 (gdCons (gdName 1) (gdCons (gdName 2) (gdCons (gdName 3) (gdCons (gdName 4) gdNil))))))
  (dSeq (dIf (dB (dOp (opR eqV2) (dOp (opV modI) (dCall sp_L_mixed (daCons (dVar 0) (daCons (dC (.int 5)) daNil))) (dC (.int 8))) (dC (.int 1)))) t_k11_more dNext)
  (dSeq (dSet 6 (dCall (sp_folded C 12) (daCons (dVar 3) (daCons (dVar 4) daNil))))
  (dSeq (dIf (dOr (dNot (dB (dCall sp_L_is_fold (daCons (dVar 6) (daCons (dVar 4) daNil))))) (dB (dOp (opR neV2) (dCall (sp_folded C 12) (daCons (dVar 3) (daCons (dVar 4) daNil))) (dVar 6)))) (dRet (dC (.bool false))) dNext)
  (dSeq (dFor (diSeq (dCall sp_L_things (daCons (dVar 1) daNil))) (gdName 7) t_k11_turn)
  (dRet (dC (.bool true))))))))
theorem k11_more {De : DEnds} {M : MS} {x0 x4 x6 x7 : Option DV} {m : Nat} {ws : List Str} (hm : 1 ≤ m) (hw : WsOk ws) : ∀ (l : List Nat) (key : Tr) (x5 : Option DV), CharLt m key → key.allL NmF → key.depth + l.length ≤ 12 →
    (∀ key' y5, CharLt m key' → key'.allL NmF → key'.depth ≤ 12 → De.nx [x0, some (.dat (.int ((m : Nat) : Int))), some (.dat (encNames ws)), some (.dat (encKey key')), x4, y5, x6, x7] M) →
    forD (gdName 5) (dSet 3 (dOp (opV ixV) (dLst (daCons (dTup (daCons (dC (.str "ask")) (daCons (dOp (opV modI) (dVar 5) (dVar 1)) (daCons (dVar 3) (daCons (dTup (daCons (dC (.str "names")) (daCons (dTup daNil) daNil))) daNil))))) (daCons (dTup (daCons (dC (.str "ask")) (daCons (dOp (opV modI) (dVar 5) (dVar 1)) (daCons (dTup (daCons (dC (.str "names")) (daCons (dSl (dVar 2) doNone (doSome (dC (.int 1)))) daNil))) (daCons (dVar 3) daNil))))) daNil))) (dOp (opV modI) (dVar 5) (dC (.int 2))))) De none (l.map fun i => .int ((i : Nat) : Int))
      [x0, some (.dat (.int ((m : Nat) : Int))), some (.dat (encNames ws)), some (.dat (encKey key)), x4, x5, x6, x7] M
  | [], key, x5, h1, h2, h3, h => ⟨True.intro, h key x5 h1 h2 (by rw [List.length_nil] at h3; omega)⟩
  | k :: l, key, x5, h1, h2, h3, h => by
    rw [List.length_cons] at h3
    have hs1 : NmF (ws.take 1) := nmF_sub hw (List.take_sublist 1 ws)
    have hs0 : NmF [] := nmF_sub hw (List.nil_sublist ws)
    have hpos : (0 : Int) < (m : Int) := by omega
    have hc := cut1 ws
    refine ⟨True.intro, _, rfl, _, rfl, _, _, rfl, rfl, hpos, _, rfl, _, rfl, szb rfl, _, rfl, szb rfl, _, rfl, szb rfl, ?_⟩
    refine ⟨_, rfl, _, rfl, _, _, rfl, rfl, hpos, _, rfl, _, rfl, _, rfl, _, rfl, szb rfl, _, rfl, _, rfl, szb rfl, _, rfl, szb rfl, ?_⟩
    have i1 : Ks.CharLt m (.node (k % m) key (.leaf [])) := ⟨Nat.mod_lt _ hm, h1, True.intro⟩
    have i2 : Ks.CharLt m (.node (k % m) (.leaf (ws.take 1)) key) := ⟨Nat.mod_lt _ hm, True.intro, h1⟩
    rcases mod2 k with e | e
    · refine ⟨_, rfl, _, _, rfl, rfl, p2, _, _, rfl, rfl, encKey (.node (k % m) key (.leaf [])), ?_, ?_⟩
      · show atI _ (((k : Nat) : Int) % 2) = _
        rw [e]; exact atI_nat rfl
      · exact k11_more hm hw l (.node (k % m) key (.leaf [])) _ i1 ⟨h2, hs0⟩ (by show max key.depth 0 + 1 + _ ≤ 12; omega) h
    · refine ⟨_, rfl, _, _, rfl, rfl, p2, _, _, rfl, rfl, encKey (.node (k % m) (.leaf (ws.take 1)) key), ?_, ?_⟩
      · show atI _ (((k : Nat) : Int) % 2) = _
        rw [e, hc]; exact atI_nat rfl
      · exact k11_more hm hw l (.node (k % m) (.leaf (ws.take 1)) key) _ i2 ⟨hs1, h2⟩ (by show max 0 key.depth + 1 + _ ≤ 12; omega) h
theorem k11_things {De : DEnds} {M : MS} {x0 x1 x2 x4 x5 : Option DV} {m : Nat} {key u : Tr} (hk : CharLt m key) (hd : key.depth ≤ 12) (hu : CharLt m u) (hus : u.allL StrsOk) (ha : ∀ bs, u.ans bs = key.ans bs) : ∀ (l : List (List Nat)) (x7 : Option DV), (∀ bs, bs ∈ l → Bits m bs) →
    (∀ y7, De.nx [x0, x1, x2, some (.dat (encKey key)), x4, x5, some (.dat (encFold (foldOf u))), y7] M) →
    forD (gdName 7) t_k11_turn De none (l.map encBits) [x0, x1, x2, some (.dat (encKey key)), x4, x5, some (.dat (encFold (foldOf u))), x7] M
  | [], x7, _, h => ⟨True.intro, h x7⟩
  | bs :: l, x7, hb, h => by
    have hb1 := hb bs List.mem_cons_self
    refine ⟨True.intro, _, rfl, _, rfl, m, foldOf u, u, bs, rfl, den_fold u, hb1, hu, ?_⟩
    refine ⟨_, rfl, _, rfl, m, key, bs, rfl, hb1, hk, hd, ne_bits' (allL_ans hus) (ha bs) ⟨_, rfl, if_f rfl ?_⟩⟩
    exact k11_things hk hd hu hus ha l _ (fun b q => hb b (List.mem_cons_of_mem _ q)) h
theorem rd_k11 (C : Addr) : ∀ ds M k, spLaw ds M k → t_law_k11 C (rtE k) (startD ["_law_script", "_law_many", "_law_words_here", "_law_key_here", "_law_order_here", "_law_k", "_law_fold", "_law_thing"] ds) M := by
  rintro _ M k ⟨ns, rfl, hn, rfl, h⟩
  refine ⟨_, rfl, ns, 7, rfl, by decide, by decide, fun m ws key ord hm hm7 hw hc hk hd ho => ?_⟩
  refine ⟨_, rfl, rfl, _, _, rfl, _, _, rfl, _, _, rfl, _, _, rfl, rfl, ?_⟩
  have hs : key.allL NmF := allL_in (fun ns h => nmF_sub hw h) hk
  have rest : ∀ (key : Tr) (y5 : Option DV), CharLt m key → key.allL NmF → key.depth ≤ 12 → ((dSeq (dSet 6 (dCall (sp_folded C 12) (daCons (dVar 3) (daCons (dVar 4) daNil))))
  (dSeq (dIf (dOr (dNot (dB (dCall sp_L_is_fold (daCons (dVar 6) (daCons (dVar 4) daNil))))) (dB (dOp (opR neV2) (dCall (sp_folded C 12) (daCons (dVar 3) (daCons (dVar 4) daNil))) (dVar 6)))) (dRet (dC (.bool false))) dNext)
  (dSeq (dFor (diSeq (dCall sp_L_things (daCons (dVar 1) daNil))) (gdName 7) t_k11_turn)
  (dRet (dC (.bool true)))))) (rtE k)
      [some (.scr ns), some (.dat (.int ((m : Nat) : Int))), some (.dat (encNames ws)), some (.dat (encKey key)), some (.dat (ordD (nz ord))), y5, none, none] fun _ => none) := by
    intro key y5 hc hs hd
    have hki := key_in ho hc
    refine ⟨_, rfl, _, rfl, ord, key, rfl, perm_nd ho, by rw [perm_len ho]; omega, hki, hd, fun u fu => ?_⟩
    have ou := fu.ordd (perm_nd ho) hki
    have nu : u.allL NmF := fu.allL hs
    have su : u.allL StrsOk := allL_mono (fun ns q => q.1.strs) nu
    refine ⟨_, rfl, _, rfl, m, ord, _, rfl, ho, by omega, gd_ord ho (by omega) ou nu, fun b hb => ?_⟩
    obtain rfl := is_fold_yes ou nu hb
    refine ⟨_, rfl, if_f rfl ?_⟩
    refine ⟨_, rfl, _, rfl, ord, key, rfl, perm_nd ho, by rw [perm_len ho]; omega, hki, hd, fun v fv => ?_⟩
    have e := Fo.fn ho hki fv fu
    subst e
    refine ⟨_, rfl, _, _, rfl, rfl, Cmp.ne2 ((pl_fold su).cmp (by decide)) ((pl_fold su).cmp (by decide)) (fun _ => ⟨_, rfl, if_f rfl ?_⟩) fun z => absurd rfl z⟩
    refine ⟨_, rfl, m, rfl, hm, by omega, .inl ⟨_, rfl, ?_⟩⟩
    exact k11_things hc hd (ordd_lt ho ou) su fu.ans (allT m) _ (fun bs hb => (mem_allT m bs).mp hb) fun y7 => rt_same h
  refine ⟨_, rfl, ns, 5, rfl, _, _, rfl, rfl, p8, _, _, rfl, rfl, rfl, _, rfl, ?_⟩
  refine if_b (fun _ => ?_) fun _ => rest key none hc hs (by omega)
  refine ⟨_, rfl, ⟨by decide, by decide⟩, ?_⟩
  show forD _ _ _ _ (rangeD 0 7) _ _
  rw [range_nat]
  exact k11_more hm hw _ key none hc hs (by rw [List.length_range]; omega) fun key' y5 g1 g2 g3 => rest key' y5 g1 g2 g3
end Ks

/-! Ks: two folds put together. -/
namespace Ks
open PySem PySem.Spec PyProof.Rows L2 Kf

/-- the names that may stand -/
structure Pool (pl : List Str) : Prop where
  few : pl.length ≤ 30
  ok : StrsOk pl
/-- names by the alphabet, out of some -/
structure Names (pl ns : List Str) : Prop where
  asc : ns.Pairwise ltS
  sub : ∀ x, x ∈ ns → x ∈ pl
inductive Rule
  | join
  | meet
  | less
def Rule.word : Rule → Str
  | .join => "join"
  | .meet => "meet"
  | .less => "less"
def Rule.has (r : Rule) (p q : Prop) : Prop := match r with
  | .join => p ∨ q
  | .meet => p ∧ q
  | .less => p ∧ ¬ q
/-- the names that a rule makes of two -/
structure Nb (pl : List Str) (r : Rule) (a b c : List Str) : Prop where
  nm : Names pl c
  mem : ∀ x, x ∈ c ↔ r.has (x ∈ a) (x ∈ b)
inductive Pr (ord : List Nat) (pl : List Str) (r : Rule) : Tr → Tr → Tr → Prop
  | leaf {a b c} : Nb pl r a b c → Pr ord pl r (.leaf a) (.leaf b) (.leaf c)
  | node {a b h lo hi} : ord[min (rk ord a) (rk ord b)]? = some h → Pr ord pl r (goalT a h).1 (goalT b h).1 lo → Pr ord pl r (goalT a h).2 (goalT b h).2 hi → Pr ord pl r a b (mk h lo hi)
theorem Pr.ordd {ord : List Nat} {pl : List Str} {r : Rule} (nd : ord.Nodup) {a b u : Tr} (s : Pr ord pl r a b u) : Ordd ord a → Ordd ord b → Ordd ord u ∧ min (rk ord a) (rk ord b) ≤ rk ord u := by
  induction s with
  | leaf h => exact fun _ _ => ⟨True.intro, Nat.min_le_left _ _⟩
  | @node a b x lo hi hx _ _ ih1 ih2 =>
    intro ha hb
    obtain ⟨hm, hi'⟩ := rk_at nd hx
    have ga := ha.goal x
    have gb := hb.goal x
    have ra := rk_goal ha hm (by omega)
    have rb := rk_goal hb hm (by omega)
    obtain ⟨o1, l1⟩ := ih1 ga.1 gb.1
    obtain ⟨o2, l2⟩ := ih2 ga.2 gb.2
    obtain ⟨h1, h2⟩ := mk_ordd hm o1 o2 (by omega) (by omega)
    exact ⟨h1, by omega⟩
theorem Pr.ans {ord : List Nat} {pl : List Str} {r : Rule} {a b u : Tr} (s : Pr ord pl r a b u) (bs : List Nat) : Nb pl r (a.ans bs) (b.ans bs) (u.ans bs) := by
  induction s with
  | leaf h => exact h
  | @node a b x lo hi hx _ _ ih1 ih2 =>
    rw [ans_mk]
    by_cases z : bs.getD x 0 = 0
    · rw [if_pos z]; rw [ans_goal0 _ z, ans_goal0 _ z] at ih1; exact ih1
    · rw [if_neg z]; rw [ans_goal1 _ z, ans_goal1 _ z] at ih2; exact ih2
theorem Pr.names {ord : List Nat} {pl : List Str} {r : Rule} {a b u : Tr} (s : Pr ord pl r a b u) : u.allL (Names pl) := by
  induction s with
  | leaf h => exact h.nm
  | node hx _ _ ih1 ih2 => exact allL_mk ih1 ih2
def sp_names_by : DSp := fun ds M k => ∃ (pl : List Str) (r : Rule) (a b : List Str), ds = [.dat (.str r.word), .dat (encNames a), .dat (encNames b)] ∧ Pool pl ∧ Names pl a ∧ Names pl b ∧ ∀ c, Nb pl r a b c → k (.dat (encNames c)) M
def t_paired_from (C : Addr) (self : DSp) : TDs := (dSeq (dIf (dB (dOp (inDT id) (dVar 3) (dVar 4))) (dRet (dOp ixDT (dVar 4) (dVar 3))) dNext)
  (dSeq (dAsg (dVar 2) (gdTup 2 (gdCons (gdName 5) (gdCons (gdName 6) gdNil))))
  (dSeq (dSet 7 (dCB min2P (daCons (dMeth C "rank" (sp_m_rank C) (dVar 0) (daCons (dVar 5) (daCons (dOp (opV ixV) (dVar 3) (dC (.int 0))) daNil))) (daCons (dMeth C "rank" (sp_m_rank C) (dVar 0) (daCons (dVar 6) (daCons (dOp (opV ixV) (dVar 3) (dC (.int 1))) daNil))) daNil))))
  (dSeq (dIf (dAnd (dB (dCall sp_is_leaf (daCons (dOp (opV ixV) (dVar 5) (dOp (opV ixV) (dVar 3) (dC (.int 0)))) daNil))) (dB (dCall sp_is_leaf (daCons (dOp (opV ixV) (dVar 6) (dOp (opV ixV) (dVar 3) (dC (.int 1)))) daNil)))) (dSet 8 (dMeth C "leaf" (sp_m_leaf C) (dVar 0) (daCons (dCall (sp_names_by) (daCons (dVar 1) (daCons (dOp (opV ixV) (dOp (opV ixV) (dVar 5) (dOp (opV ixV) (dVar 3) (dC (.int 0)))) (dC (.int 1))) (daCons (dOp (opV ixV) (dOp (opV ixV) (dVar 6) (dOp (opV ixV) (dVar 3) (dC (.int 1)))) (dC (.int 1))) daNil)))) daNil))) (dSeq (dSet 9 (dOp (opV ixV) (dFld C (dVar 0) "order") (dVar 7)))
  (dSeq (dSet 10 (dCall sp_goals_at (daCons (dVar 5) (daCons (dOp (opV ixV) (dVar 3) (dC (.int 0))) (daCons (dVar 9) daNil)))))
  (dSeq (dSet 11 (dCall sp_goals_at (daCons (dVar 6) (daCons (dOp (opV ixV) (dVar 3) (dC (.int 1))) (daCons (dVar 9) daNil)))))
  (dSeq (dSet 12 (dCall self (daCons (dVar 0) (daCons (dVar 1) (daCons (dVar 2) (daCons (dTup (daCons (dOp (opV ixV) (dVar 10) (dC (.int 0))) (daCons (dOp (opV ixV) (dVar 11) (dC (.int 0))) daNil))) (daCons (dVar 4) daNil)))))))
  (dSet 8 (dMeth C "node" (sp_m_node C) (dVar 0) (daCons (dVar 9) (daCons (dVar 12) (daCons (dCall self (daCons (dVar 0) (daCons (dVar 1) (daCons (dVar 2) (daCons (dTup (daCons (dOp (opV ixV) (dVar 10) (dC (.int 1))) (daCons (dOp (opV ixV) (dVar 11) (dC (.int 1))) daNil))) (daCons (dVar 4) daNil)))))) daNil))))))))))
  (dSeq (dPutT (dVar 4) (dVar 3) (dVar 8))
  (dRet (dVar 8)))))))
def sp_paired_from (C : Addr) (n : Nat) : DSp := fun ds M k => ∃ ord pl r l kn R F G rl i i' t t' mt kvs, ds = [.ref r, .dat (.str (Rule.word rl)), .dat (.tuple [encFold F, encFold G]), .dat (.tuple [.int ((i : Nat) : Int), .int ((i' : Nat) : Int)]), .ref mt] ∧ RowsAt C ord r l kn M R ∧ ord.Nodup ∧
  Den F i t ∧ Den G i' t' ∧ Ordd ord t ∧ Ordd ord t' ∧ Pool pl ∧ t.allL (Names pl) ∧ t'.allL (Names pl) ∧ ord.length ≤ n + min (rk ord t) (rk ord t') ∧ M mt = some (.dicT kvs) ∧ kn ≠ mt ∧ MemT (Pr ord pl rl) kvs F G R ∧
  R.length + 2 ^ (n + 2) ≤ 1000000 ∧ kvs.length + 2 ^ (n + 2) ≤ 1000000 ∧ ∀ R' kvs' j u, Gr (2 ^ (n + 2) - 1) R R' → Pr ord pl rl t t' u → Den R' j u → MemT (Pr ord pl rl) kvs' F G R' → kvs'.length + 1 ≤ kvs.length + 2 ^ (n + 2) → k (.dat (.int ((j : Nat) : Int))) (st l kn mt M R' (.dicT kvs'))
theorem min2_nat {a b : Nat} {M : MS} {q : DV → Prop} (h : q (.dat (.int ((min a b : Nat) : Int)))) : min2P M [.dat (.int ((a : Nat) : Int)), .dat (.int ((b : Nat) : Int))] q := by
  refine ⟨_, _, rfl, ?_⟩
  have e : (if (b : Int) < (a : Int) then (b : Int) else (a : Int)) = ((min a b : Nat) : Int) := by split <;> omega
  rw [e]; exact h
theorem leaf_rk {ord : List Nat} {t : Tr} (h : Ordd ord t) (e : rk ord t = ord.length) : ∃ ns, t = .leaf ns := by
  cases t with
  | leaf ns => exact ⟨ns, rfl⟩
  | node c a b => exact absurd e (Nat.ne_of_lt (List.idxOf_lt_length_of_mem h.1))
set_option maxHeartbeats 2000000 in
theorem rd_paired_from (C : Addr) (n : Nat) : ∀ ds M k, sp_paired_from C n ds M k → t_paired_from C (spPrev (sp_paired_from C) n) (rtE k) (startD ["rows", "rule", "pair", "ats", "met", "one", "other", "rank", "found", "here", "ones", "others", "low"] ds) M := by
  rintro _ M k ⟨ord, pl, r, l, kn, R, F, G, rl, i, i', t, t', mt, kvs, rfl, hR, nd, hd, hd', ho, ho', hpl, hN, hN', hn, hm, km, hmem, hs1, hs2, h⟩
  have rm : r ≠ mt := fun e => by subst e; rw [hR.ob] at hm; cases hm
  have lm : l ≠ mt := fun e => by subst e; rw [hR.la] at hm; cases hm
  have lk' := hR.ne3
  have hE : 4 ≤ 2 ^ (n + 2) := Nat.pow_le_pow_right (n := 2) (by decide) (show 2 ≤ n + 2 by omega)
  refine ⟨_, rfl, _, rfl, mt, kvs, _, _, rfl, hm, rfl, pair_key _ _, _, rfl, ?_⟩
  refine if_b (fun e => ?_) fun e => ?_
  · have e : (lk kvs (.tup [.num (i : Int), .num (i' : Int)])).isSome = true := e
    obtain ⟨z, hz⟩ := Option.isSome_iff_exists.mp e
    obtain ⟨j, u, rfl, hu, dj⟩ := hmem i i' t t' z hd hd' hz
    have := h R kvs j u ((Gr.refl hR.nd).le (Nat.zero_le _)) hu dj hmem (by omega)
    rw [st_self hR hm] at this
    exact ⟨_, rfl, _, rfl, mt, kvs, _, _, _, rfl, hm, rfl, pair_key _ _, hz, rt_same this⟩
  obtain ⟨row, hrow, hlf, hrk⟩ := hd.row
  obtain ⟨row', hrow', hlf', hrk'⟩ := hd'.row
  refine ⟨_, rfl, _, rfl, rfl, _, _, rfl, _, _, rfl, rfl, ?_⟩
  refine ⟨_, rfl, r, _, rfl, hR.ob, rfl, _, rfl, _, rfl, _, _, rfl, rfl, _, rfl, ?_⟩
  refine ⟨ord, r, l, kn, R, _, F, i, row, rfl, hR, rowsF F, hrow, ho.inO hd hrow, ?_⟩
  refine ⟨_, rfl, r, _, rfl, hR.ob, rfl, _, rfl, _, rfl, _, _, rfl, rfl, _, rfl, ?_⟩
  refine ⟨ord, r, l, kn, R, _, G, i', row', rfl, hR, rowsF G, hrow', ho'.inO hd' hrow', ?_⟩
  rw [hrk, hrk']
  refine ⟨_, _, rfl, ?_⟩
  have em : (if ((rk ord t' : Nat) : Int) < ((rk ord t : Nat) : Int) then ((rk ord t' : Nat) : Int) else ((rk ord t : Nat) : Int)) = ((min (rk ord t) (rk ord t') : Nat) : Int) := by split <;> omega
  rw [em]
  have g1 := hd.goal hrow
  have g2 := hd'.goal hrow'
  have noden : ∀ (nl : ¬ ((∃ a, t = .leaf a) ∧ ∃ b, t' = .leaf b)) (M' : MS) (hM : M' = M), (dSeq (dSet 9 (dOp (opV ixV) (dFld C (dVar 0) "order") (dVar 7)))
  (dSeq (dSet 10 (dCall sp_goals_at (daCons (dVar 5) (daCons (dOp (opV ixV) (dVar 3) (dC (.int 0))) (daCons (dVar 9) daNil)))))
  (dSeq (dSet 11 (dCall sp_goals_at (daCons (dVar 6) (daCons (dOp (opV ixV) (dVar 3) (dC (.int 1))) (daCons (dVar 9) daNil)))))
  (dSeq (dSet 12 (dCall (spPrev (sp_paired_from C) n) (daCons (dVar 0) (daCons (dVar 1) (daCons (dVar 2) (daCons (dTup (daCons (dOp (opV ixV) (dVar 10) (dC (.int 0))) (daCons (dOp (opV ixV) (dVar 11) (dC (.int 0))) daNil))) (daCons (dVar 4) daNil)))))))
  (dSet 8 (dMeth C "node" (sp_m_node C) (dVar 0) (daCons (dVar 9) (daCons (dVar 12) (daCons (dCall (spPrev (sp_paired_from C) n) (daCons (dVar 0) (daCons (dVar 1) (daCons (dVar 2) (daCons (dTup (daCons (dOp (opV ixV) (dVar 10) (dC (.int 1))) (daCons (dOp (opV ixV) (dVar 11) (dC (.int 1))) daNil))) (daCons (dVar 4) daNil)))))) daNil))))))))) ({ rtE k with nx := dSeq (dPutT (dVar 4) (dVar 3) (dVar 8)) (dRet (dVar 8)) (rtE k) } : DEnds) [some (.ref r), some (.dat (.str (Rule.word rl))), some (.dat (.tuple [encFold F, encFold G])), some (.dat (.tuple [.int ((i : Nat) : Int), .int ((i' : Nat) : Int)])), some (.ref mt), some (.dat (encFold F)), some (.dat (encFold G)), some (.dat (.int ((min (rk ord t) (rk ord t') : Nat) : Int))), none, none, none, none, none] M' := by
    rintro nl _ rfl
    have hlt : min (rk ord t) (rk ord t') < ord.length := by
      have h1 := rk_le ord t
      have h2 := rk_le ord t'
      rcases Nat.lt_or_ge (min (rk ord t) (rk ord t')) ord.length with z | z
      · exact z
      · exact absurd ⟨leaf_rk ho (by omega), leaf_rk ho' (by omega)⟩ nl
    obtain ⟨x, hx⟩ : ∃ x, ord[min (rk ord t) (rk ord t')]? = some x := ⟨_, List.getElem?_eq_getElem hlt⟩
    obtain ⟨xm, xi⟩ := rk_at nd hx
    have q1 := ho.goal x
    have q2 := ho'.goal x
    have r1 := rk_goal ho xm (by omega)
    have r2 := rk_goal ho' xm (by omega)
    have n1 := allL_goal hN x
    have n2 := allL_goal hN' x
    obtain ⟨n, rfl⟩ : ∃ n', n = n' + 1 := ⟨n - 1, by omega⟩
    have p3 : 2 ^ (n + 1 + 2) = 2 * 2 ^ (n + 2) := by rw [show n + 1 + 2 = n + 2 + 1 by omega, Nat.pow_succ]; omega
    have hE2 : 4 ≤ 2 ^ (n + 2) := Nat.pow_le_pow_right (n := 2) (by decide) (show 2 ≤ n + 2 by omega)
    refine ⟨_, rfl, r, _, _, rfl, hR.ob, rfl, _, rfl, _, _, rfl, rfl, _, ix_ord hx, ?_⟩
    refine ⟨_, rfl, _, rfl, _, _, rfl, rfl, _, rfl, _, rfl, ?_⟩
    refine ⟨F, _, i, x, row, rfl, rowsF F, hrow, ?_⟩
    refine ⟨_, rfl, _, rfl, _, _, rfl, rfl, _, rfl, _, rfl, ?_⟩
    refine ⟨G, _, i', x, row', rfl, rowsF G, hrow', ?_⟩
    refine ⟨_, rfl, _, rfl, _, rfl, _, rfl, _, _, rfl, rfl, _, rfl, _, rfl, _, _, rfl, rfl, _, rfl, _, rfl, szb rfl, _, rfl, ?_⟩
    refine ⟨ord, pl, r, l, kn, R, F, G, rl, _, _, _, _, mt, kvs, rfl, hR, nd, (g1 x).1, (g2 x).1, q1.1, q2.1, hpl, n1.1, n2.1, by omega, hm, km, hmem, by omega, by omega, fun R1 kvs1 j1 u1 gr1 s1 d1 m1 k1 => ?_⟩
    have hR1 := hR.st (R' := R1) (o := .dicT kvs1) gr1.1 rm lm km
    have l1 := gr1.len
    refine ⟨_, rfl, r, _, rfl, hR1.ob, rfl, _, rfl, _, rfl, ?_⟩
    refine ⟨_, rfl, _, rfl, _, rfl, _, rfl, _, _, rfl, rfl, _, rfl, _, rfl, _, _, rfl, rfl, _, rfl, _, rfl, szb rfl, _, rfl, ?_⟩
    refine ⟨ord, pl, r, l, kn, R1, F, G, rl, _, _, _, _, mt, kvs1, rfl, hR1, nd, (g1 x).2, (g2 x).2, q1.2, q2.2, hpl, n1.2, n2.2, by omega, st_at, km, m1, by omega, by omega, fun R2 kvs2 j2 u2 gr2 s2 d2 m2 k2 => ?_⟩
    rw [st_st lk' lm km]
    have hR2 := hR.st (R' := R2) (o := .dicT kvs2) gr2.1 rm lm km
    have l2 := gr2.len
    refine ⟨ord, r, l, kn, R2, x, j1, j2, u1, u2, rfl, hR2, by omega, gr2.den d1, d2, fun R3 j3 gr3 d3 => ?_⟩
    rw [st_pr lk' lm km]
    have hsw : Pr ord pl rl t t' _ := .node hx s1 s2
    refine ⟨_, rfl, _, rfl, _, rfl, mt, _, _, _, _, rfl, st_at, rfl, pair_key _ _, rfl, slt (show kvs2.length < _ by omega), ?_⟩
    rw [st_put]
    exact ⟨_, rfl, rt_same (h R3 _ j3 _ ((gr1.trans (gr2.trans gr3)).le (by omega)) hsw d3 ((m2.gr gr3).put hd hd' hsw d3) (by have := pk_length (.tup [.num (i : Int), .num (i' : Int)]) (PyData.int j3) kvs2; omega))⟩
  refine ⟨_, rfl, _, rfl, _, _, rfl, rfl, _, rfl, ix_row (rowsF F) hrow ⟨row, rfl, _, rfl, if_b (fun e1 => ?_) fun e1 => ?_⟩⟩
  · refine ⟨_, rfl, _, rfl, _, _, rfl, rfl, _, rfl, ix_row (rowsF G) hrow' ⟨row', rfl, _, rfl, if_b (fun e2 => ?_) fun e2 => ?_⟩⟩
    · rw [hlf] at e1
      rw [hlf'] at e2
      cases t with
      | node c a b => cases e1
      | leaf a =>
      cases t' with
      | node c a b => cases e2
      | leaf b =>
        rw [hd.row_leaf] at hrow; cases hrow
        rw [hd'.row_leaf] at hrow'; cases hrow'
        refine ⟨_, rfl, r, _, rfl, hR.ob, rfl, _, rfl, ?_⟩
        refine ⟨_, rfl, _, rfl, _, _, rfl, rfl, _, rfl, ix_row (rowsF F) hd.row_leaf ⟨_, _, rfl, rfl, _, rfl, ?_⟩⟩
        refine ⟨_, rfl, _, rfl, _, _, rfl, rfl, _, rfl, ix_row (rowsF G) hd'.row_leaf ⟨_, _, rfl, rfl, _, rfl, ?_⟩⟩
        refine ⟨pl, rl, a, b, rfl, hpl, hN, hN', fun c hc => ?_⟩
        refine ⟨ord, r, l, kn, R, c, rfl, hR, by omega, fun R' j gr dj => ?_⟩
        have hsw : Pr ord pl rl (.leaf a) (.leaf b) _ := .leaf hc
        refine ⟨_, rfl, _, rfl, _, rfl, mt, _, _, _, _, rfl, (pr_ne (Ne.symm lm) (Ne.symm km)).trans hm, rfl, pair_key _ _, rfl, slt (show kvs.length < _ by omega), ?_⟩
        exact ⟨_, rfl, rt_same (h R' _ j _ (gr.le (by omega)) hsw dj ((hmem.gr gr).put hd hd' hsw dj) (by have := pk_length (.tup [.num (i : Int), .num (i' : Int)]) (PyData.int j) kvs; omega))⟩
    · refine noden (fun ⟨_, b, hb⟩ => ?_) M rfl
      subst hb
      rw [hlf'] at e2; cases e2
  · refine noden (fun ⟨⟨a, ha⟩, _⟩ => ?_) M rfl
    subst ha
    rw [hlf] at e1; cases e1
end Ks

/-! Ks: names put together; joined, common, less. -/
namespace Ks
open PySem PySem.Spec PyProof.Rows L2 Kf

theorem flat_strsD (b : List Str) : (b.map PyData.str).all flatD = true := List.all_eq_true.mpr fun y hy => by
  obtain ⟨z, _, rfl⟩ := List.mem_map.mp hy
  rfl
theorem any_str (b : List Str) (x : Str) : ((b.map PyData.str).any fun z => PyData.eqv z (.str x)) = decide (x ∈ b) := by
  induction b with
  | nil => rfl
  | cons y b ih =>
    rw [List.map_cons, List.any_cons, ih, eqv_str]
    by_cases h : y = x
    · subst h; simp
    · have : ¬ x = y := fun z => h z.symm
      simp [h, this]
theorem flt_comp {M : MS} {k : List PyData → MS → Prop} {g : Bool → Bool} {b : List Str} {x0 x1 : Option DV} : ∀ (l acc : List Str) (x3 : Option DV), acc.length + l.length ≤ 100000 → k ((acc ++ l.filter fun x => g (decide (x ∈ b))).map PyData.str) M →
    compD (.one 3) (dB (dOp (opR (inV2 g)) (dVar 3) (dVar 2))) (dVar 3) [x0, x1, some (.dat (encNames b)), x3] none (l.map PyData.str) (acc.map PyData.str) M k
  | [], acc, x3, _, h => ⟨True.intro, by rw [List.filter_nil, List.append_nil] at h; exact h⟩
  | x :: l, acc, x3, hl, h => by
    rw [List.length_cons] at hl
    rw [List.filter_cons] at h
    have iok : inOk (.str x) (.tuple (b.map PyData.str)) (b.map PyData.str) = true := by
      unfold inOk; rw [flat_strsD]; rfl
    refine ⟨True.intro, _, rfl, ?_⟩
    refine ⟨_, rfl, _, rfl, _, _, rfl, rfl, b.map PyData.str, rfl, iok, _, rfl, ?_⟩
    show if g ((b.map PyData.str).any fun z => PyData.eqv z (.str x)) = true then _ else _
    rw [any_str]
    refine if_b (fun e => ?_) fun e => ?_
    · rw [if_pos e] at h
      refine ⟨_, rfl, _, rfl, by rw [List.length_map]; exact slt (by omega), ?_⟩
      have ea : acc.map PyData.str ++ [PyData.str x] = (acc ++ [x]).map PyData.str := by rw [List.map_append]; rfl
      rw [ea]
      refine flt_comp l (acc ++ [x]) _ (by rw [List.length_append, List.length_singleton]; omega) ?_
      rw [List.append_assoc]; exact h
    · rw [if_neg (by rw [e]; exact Bool.false_ne_true)] at h
      exact flt_comp l acc _ (by omega) h
def t_names_by : TDs := (dSeq (dIf (dB (dOp (opR eqV2) (dVar 0) (dC (.str "join")))) (dRet (dCB tupleP (daCons (dSortSet (daCons (dOp (opV addV) (dVar 1) (dVar 2)) daNil)) daNil))) dNext)
  (dSeq (dIf (dB (dOp (opR eqV2) (dVar 0) (dC (.str "meet")))) (dRet (dCB tupleP (daCons (dLc (diTup (dVar 1)) (.one 3) (dB (dOp (opR (inV2 id)) (dVar 3) (dVar 2))) (dVar 3)) daNil))) dNext)
  (dRet (dCB tupleP (daCons (dLc (diTup (dVar 1)) (.one 3) (dB (dOp (opR (inV2 not)) (dVar 3) (dVar 2))) (dVar 3)) daNil)))))
theorem asc_nd {ns : List Str} (h : ns.Pairwise ltS) : ns.Nodup := List.Pairwise.imp (fun {a b} q e => by subst e; exact List.lt_irrefl _ q) h
theorem Names.len {pl ns : List Str} (h : Names pl ns) : ns.length ≤ pl.length := nodup_len ns pl (asc_nd h.asc) h.sub
theorem nb_filter {pl : List Str} {r : Rule} {a b : List Str} {g : Str → Bool} (h : Names pl a) (hg : ∀ x, x ∈ a ∧ g x = true ↔ r.has (x ∈ a) (x ∈ b)) : Nb pl r a b (a.filter g) :=
  ⟨⟨h.asc.sublist List.filter_sublist, fun x hx => h.sub x (List.mem_filter.mp hx).1⟩, fun x => List.mem_filter.trans (hg x)⟩
theorem rd_names_by : ∀ ds M k, sp_names_by ds M k → t_names_by (rtE k) (startD ["rule", "ones", "others", "name"] ds) M := by
  rintro _ M k ⟨pl, r, a, b, rfl, hp, ha, hb, h⟩
  have la := ha.len
  have lb := hb.len
  have lp := hp.few
  cases r with
  | join =>
    refine ⟨_, rfl, _, _, rfl, rfl, rfl, _, rfl, if_t rfl ?_⟩
    refine ⟨_, rfl, _, rfl, _, _, rfl, rfl, by rw [List.length_map, List.length_map]; exact Nat.le_of_lt (slt (by omega)), ?_⟩
    refine ⟨_, _, a ++ b, rfl, rfl, by rw [List.map_append]; rfl, by rw [List.length_append]; omega, ⟨pl, by omega, fun z hz => (List.mem_append.mp hz).elim (ha.sub z) (hb.sub z)⟩, fun ys nd hm hs => ?_⟩
    refine ⟨_, rfl, .inl ⟨_, rfl, rt_same (h ys ⟨⟨asc_of hs nd, fun x hx => ?_⟩, fun x => (hm x).trans List.mem_append⟩)⟩⟩
    exact (List.mem_append.mp ((hm x).mp hx)).elim (ha.sub x) (hb.sub x)
  | meet =>
    refine ⟨_, rfl, _, _, rfl, rfl, rfl, _, rfl, if_f rfl ?_⟩
    refine ⟨_, rfl, _, _, rfl, rfl, rfl, _, rfl, if_t rfl ?_⟩
    refine ⟨_, rfl, a.map PyData.str, rfl, ?_⟩
    refine flt_comp a [] _ (by rw [List.length_nil]; omega) ?_
    refine ⟨_, rfl, .inl ⟨_, rfl, rt_same (h _ (nb_filter ha fun x => ?_))⟩⟩
    show x ∈ a ∧ id (decide (x ∈ b)) = true ↔ x ∈ a ∧ x ∈ b
    simp
  | less =>
    refine ⟨_, rfl, _, _, rfl, rfl, rfl, _, rfl, if_f rfl ?_⟩
    refine ⟨_, rfl, _, _, rfl, rfl, rfl, _, rfl, if_f rfl ?_⟩
    refine ⟨_, rfl, a.map PyData.str, rfl, ?_⟩
    refine flt_comp a [] _ (by rw [List.length_nil]; omega) ?_
    refine ⟨_, rfl, .inl ⟨_, rfl, rt_same (h _ (nb_filter ha fun x => ?_))⟩⟩
    show x ∈ a ∧ (!decide (x ∈ b)) = true ↔ x ∈ a ∧ ¬ x ∈ b
    simp
/-! ### paired -/
def t_paired (C : Addr) : TDs := (dSeq (dSet 4 (dMake C (sp_m_init C) (daCons (dVar 3) daNil)))
  (dSeq (dSet 5 (dCall (sp_paired_from C 10) (daCons (dVar 4) (daCons (dVar 0) (daCons (dTup (daCons (dVar 1) (daCons (dVar 2) daNil))) (daCons (dTup (daCons (dOp (opV subV) (dCB lenP (daCons (dVar 1) daNil)) (dC (.int 1))) (daCons (dOp (opV subV) (dCB lenP (daCons (dVar 2) daNil)) (dC (.int 1))) daNil))) (daCons dDicT daNil)))))))
  (dRet (dMeth C "fold" (sp_m_fold C 10) (dVar 4) (daCons (dVar 5) daNil)))))
def sp_paired (C : Addr) : DSp := fun ds M k => ∃ (ord : List Nat) (pl : List Str) (r : Rule) (t t' : Tr), ds = [.dat (.str r.word), .dat (encFold (foldOf t)), .dat (encFold (foldOf t')), .dat (ordD (nz ord))] ∧ ord.Nodup ∧ ord.length ≤ 10 ∧ Ordd ord t ∧ Ordd ord t' ∧ Pool pl ∧ t.allL (Names pl) ∧ t'.allL (Names pl) ∧
  ∀ u, Pr ord pl r t t' u → k (.dat (encFold (foldOf u))) M
theorem rd_paired (C : Addr) : ∀ ds M k, sp_paired C ds M k → t_paired C (rtE k) (startD ["rule", "one", "other", "order", "rows", "top"] ds) M := by
  rintro _ M k ⟨ord, pl, r, t, t', rfl, nd, hl, ho, ho', hp, hN, hN', h⟩
  refine ⟨_, rfl, fun x hx => ⟨x, ord, rfl, setM_same, fun M' l kn hR hl0 hk0 hf => ⟨rfl, ?_⟩⟩⟩
  have xl := hR.ne1
  have xk := hR.ne2
  have hl1 : M l = none := by rw [setM_ne (Ne.symm xl)] at hl0; exact hl0
  have hk1 : M kn = none := by rw [setM_ne (Ne.symm xk)] at hk0; exact hk0
  have hf1 : ∀ a, a ≠ x → a ≠ l → a ≠ kn → M' a = M a := fun a h1 h2 h3 => (hf a h1 h2 h3).trans (setM_ne h1)
  refine ⟨_, rfl, _, rfl, _, rfl, _, rfl, _, rfl, szb rfl, ?_⟩
  refine ⟨_, rfl, _, encFold (foldOf t), _, rfl, rfl, len_fold _, _, _, rfl, rfl, ?_⟩
  refine ⟨_, rfl, _, encFold (foldOf t'), _, rfl, rfl, len_fold _, _, _, rfl, rfl, ?_⟩
  refine ⟨_, rfl, szb rfl, fun a ha => ?_⟩
  have xa : x ≠ a := fun e => by subst e; rw [hR.ob] at ha; cases ha
  have la : l ≠ a := fun e => by subst e; rw [hR.la] at ha; cases ha
  have ka : kn ≠ a := fun e => by subst e; rw [hR.kn] at ha; cases ha
  have hRa := hR.set (o := .dicT []) xa la ka
  have ha0 : M a = none := by
    rw [hf1 a (Ne.symm xa) (Ne.symm la) (Ne.symm ka)] at ha; exact ha
  rw [top_ix, top_ix]
  have p12 : (2 : Nat) ^ (10 + 2) = 4096 := rfl
  refine ⟨ord, pl, x, l, kn, [], foldOf t, foldOf t', r, _, _, t, t', a, [], rfl, hRa, nd, den_fold t, den_fold t', ho, ho', hp, hN, hN', by omega, setM_same, ka, .nil, by rw [List.length_nil, p12]; omega, by rw [List.length_nil, p12]; omega, fun R' kvs' j u gr hu du _ _ => ?_⟩
  have hR' := hRa.st (R' := R') (o := .dicT kvs') gr.1 xa la ka
  obtain ⟨ou, _⟩ := hu.ordd nd ho ho'
  obtain ⟨b1, b2⟩ := size_b ou hl
  refine ⟨_, rfl, x, _, rfl, hR'.ob, rfl, _, rfl, ?_⟩
  refine ⟨ord, x, l, kn, R', j, u, rfl, hR', du, b1, b2, rt_sub ?_ (h u hu)⟩
  intro y o hy
  have y1 : y ≠ x := fun e => by rw [e, hx] at hy; cases hy
  have y2 : y ≠ l := fun e => by rw [e, hl1] at hy; cases hy
  have y3 : y ≠ kn := fun e => by rw [e, hk1] at hy; cases hy
  have y4 : y ≠ a := fun e => by rw [e, ha0] at hy; cases hy
  rw [st_ne y2 y3 y4, setM_ne y4, hf1 y y1 y2 y3]
  exact hy
def sp_pair2 (r : Rule) : DSp := fun ds M k => ∃ (ord : List Nat) (pl : List Str) (t t' : Tr), ds = [.dat (encFold (foldOf t)), .dat (encFold (foldOf t')), .dat (ordD (nz ord))] ∧ ord.Nodup ∧ ord.length ≤ 10 ∧ Ordd ord t ∧ Ordd ord t' ∧ Pool pl ∧ t.allL (Names pl) ∧ t'.allL (Names pl) ∧
  ∀ u, Pr ord pl r t t' u → k (.dat (encFold (foldOf u))) M
def t_pair2 (C : Addr) (r : Rule) : TDs := (dRet (dCall (sp_paired C) (daCons (dC (.str r.word)) (daCons (dVar 0) (daCons (dVar 1) (daCons (dVar 2) daNil))))))
theorem rd_pair2 (C : Addr) (r : Rule) : ∀ ds M k, sp_pair2 r ds M k → t_pair2 C r (rtE k) (startD ["one", "other", "order"] ds) M := by
  rintro _ M k ⟨ord, pl, t, t', rfl, nd, hl, ho, ho', hp, hN, hN', h⟩
  exact ⟨_, rfl, _, rfl, _, rfl, ord, pl, r, t, t', rfl, nd, hl, ho, ho', hp, hN, hN', fun u hu => rt_same (h u hu)⟩
end Ks

/-! Ks: the law of reckoning with folds. -/
namespace Ks
open PySem PySem.Spec PyProof.Rows L2 Kf

def t_k21_tests : TDs := (dSeq (dIf (dOr (dB (dOp (opR neV2) (dVar 10) (dCall (sp_pair2 .join) (daCons (dVar 6) (daCons (dVar 5) (daCons (dVar 4) daNil)))))) (dB (dOp (opR neV2) (dVar 11) (dCall (sp_pair2 .meet) (daCons (dVar 6) (daCons (dVar 5) (daCons (dVar 4) daNil))))))) (dRet (dC (.bool false))) dNext)
  (dSeq (dIf (dB (dOp (opR neV2) (dCall (sp_pair2 .join) (daCons (dVar 10) (daCons (dVar 7) (daCons (dVar 4) daNil)))) (dCall (sp_pair2 .join) (daCons (dVar 5) (daCons (dCall (sp_pair2 .join) (daCons (dVar 6) (daCons (dVar 7) (daCons (dVar 4) daNil)))) (daCons (dVar 4) daNil)))))) (dRet (dC (.bool false))) dNext)
  (dSeq (dIf (dB (dOp (opR neV2) (dCall (sp_pair2 .meet) (daCons (dVar 11) (daCons (dVar 7) (daCons (dVar 4) daNil)))) (dCall (sp_pair2 .meet) (daCons (dVar 5) (daCons (dCall (sp_pair2 .meet) (daCons (dVar 6) (daCons (dVar 7) (daCons (dVar 4) daNil)))) (daCons (dVar 4) daNil)))))) (dRet (dC (.bool false))) dNext)
  (dSeq (dIf (dB (dOp (opR neV2) (dCall (sp_pair2 .meet) (daCons (dVar 10) (daCons (dVar 7) (daCons (dVar 4) daNil)))) (dCall (sp_pair2 .join) (daCons (dCall (sp_pair2 .meet) (daCons (dVar 5) (daCons (dVar 7) (daCons (dVar 4) daNil)))) (daCons (dCall (sp_pair2 .meet) (daCons (dVar 6) (daCons (dVar 7) (daCons (dVar 4) daNil)))) (daCons (dVar 4) daNil)))))) (dRet (dC (.bool false))) dNext)
  (dSeq (dIf (dB (dOp (opR neV2) (dCall (sp_pair2 .join) (daCons (dVar 11) (daCons (dVar 7) (daCons (dVar 4) daNil)))) (dCall (sp_pair2 .meet) (daCons (dCall (sp_pair2 .join) (daCons (dVar 5) (daCons (dVar 7) (daCons (dVar 4) daNil)))) (daCons (dCall (sp_pair2 .join) (daCons (dVar 6) (daCons (dVar 7) (daCons (dVar 4) daNil)))) (daCons (dVar 4) daNil)))))) (dRet (dC (.bool false))) dNext)
  (dSeq (dIf (dOr (dB (dOp (opR neV2) (dCall (sp_pair2 .join) (daCons (dVar 5) (daCons (dVar 5) (daCons (dVar 4) daNil)))) (dVar 5))) (dOr (dB (dOp (opR neV2) (dCall (sp_pair2 .meet) (daCons (dVar 5) (daCons (dVar 5) (daCons (dVar 4) daNil)))) (dVar 5))) (dB (dOp (opR neV2) (dCall (sp_pair2 .less) (daCons (dVar 5) (daCons (dVar 5) (daCons (dVar 4) daNil)))) (dVar 8))))) (dRet (dC (.bool false))) dNext)
  (dSeq (dIf (dOr (dB (dOp (opR neV2) (dCall (sp_pair2 .join) (daCons (dVar 5) (daCons (dVar 8) (daCons (dVar 4) daNil)))) (dVar 5))) (dOr (dB (dOp (opR neV2) (dCall (sp_pair2 .meet) (daCons (dVar 5) (daCons (dVar 9) (daCons (dVar 4) daNil)))) (dVar 5))) (dB (dOp (opR neV2) (dCall (sp_pair2 .less) (daCons (dVar 5) (daCons (dVar 8) (daCons (dVar 4) daNil)))) (dVar 5))))) (dRet (dC (.bool false))) dNext)
  (dSeq (dIf (dOr (dB (dOp (opR neV2) (dCall (sp_pair2 .join) (daCons (dCall (sp_pair2 .less) (daCons (dVar 5) (daCons (dVar 6) (daCons (dVar 4) daNil)))) (daCons (dVar 11) (daCons (dVar 4) daNil)))) (dVar 5))) (dB (dOp (opR neV2) (dCall (sp_pair2 .join) (daCons (dVar 11) (daCons (dVar 5) (daCons (dVar 4) daNil)))) (dVar 5)))) (dRet (dC (.bool false))) dNext)
  (dRet (dOp (opR eqV2) (dCall (sp_pair2 .less) (daCons (dVar 9) (daCons (dVar 10) (daCons (dVar 4) daNil)))) (dCall (sp_pair2 .meet) (daCons (dCall (sp_pair2 .less) (daCons (dVar 9) (daCons (dVar 5) (daCons (dVar 4) daNil)))) (daCons (dCall (sp_pair2 .less) (daCons (dVar 9) (daCons (dVar 6) (daCons (dVar 4) daNil)))) (daCons (dVar 4) daNil))))))))))))))
def t_law_k21 (C : Addr) : TDs := (dSeq (dAsg (dCall sp_L_made (daCons (dVar 0) (daCons (dC (.int 8)) daNil))) (gdTup 4 (gdCons (gdName 1) (gdCons (gdName 2) (gdCons (gdName 3) (gdCons (gdName 4) gdNil))))))
  (dSeq (dSet 5 (dCall (sp_folded C 12) (daCons (dVar 3) (daCons (dVar 4) daNil))))
  (dSeq (dSet 6 (dCall (sp_folded C 12) (daCons (dCall (sp_L_key 5) (daCons (dCall sp_L_mixed (daCons (dVar 0) (daCons (dC (.int 7)) daNil))) (daCons (dVar 2) (daCons (dVar 1) (daCons (dOp (opV addV) (dC (.int 1)) (dOp (opV modI) (dCall sp_L_mixed (daCons (dVar 0) (daCons (dC (.int 6)) daNil))) (dC (.int 5)))) daNil))))) (daCons (dVar 4) daNil))))
  (dSeq (dSet 7 (dCall (sp_folded C 12) (daCons (dCall (sp_L_key 5) (daCons (dCall sp_L_mixed (daCons (dVar 0) (daCons (dC (.int 8)) daNil))) (daCons (dVar 2) (daCons (dVar 1) (daCons (dOp (opV addV) (dC (.int 1)) (dOp (opV modI) (dOp (opV divI) (dCall sp_L_mixed (daCons (dVar 0) (daCons (dC (.int 6)) daNil))) (dC (.int 5))) (dC (.int 5)))) daNil))))) (daCons (dVar 4) daNil))))
  (dSeq (dSet 8 (dTup (daCons (dTup (daCons (dC (.str "names")) (daCons (dTup daNil) daNil))) daNil)))
  (dSeq (dSet 9 (dTup (daCons (dTup (daCons (dC (.str "names")) (daCons (dVar 2) daNil))) daNil)))
  (dSeq (dSet 10 (dCall (sp_pair2 .join) (daCons (dVar 5) (daCons (dVar 6) (daCons (dVar 4) daNil)))))
  (dSeq (dSet 11 (dCall (sp_pair2 .meet) (daCons (dVar 5) (daCons (dVar 6) (daCons (dVar 4) daNil)))))
  t_k21_tests))))))))
/-- a fold's tree -/
structure Gt (ord : List Nat) (pl : List Str) (t : Tr) : Prop where
  ord : Ordd ord t
  nm : t.allL (Names pl)
theorem Pr.gt {ord : List Nat} {pl : List Str} {r : Rule} {a b u : Tr} (nd : ord.Nodup) (s : Pr ord pl r a b u) (ha : Gt ord pl a) (hb : Gt ord pl b) : Gt ord pl u := ⟨(s.ordd nd ha.ord hb.ord).1, s.names⟩
theorem names_eq {pl a b : List Str} (ha : Names pl a) (hb : Names pl b) (h : ∀ x, x ∈ a ↔ x ∈ b) : a = b := by
  refine List.Perm.eq_of_pairwise (le := ltS) (fun x y _ _ h1 h2 => absurd (List.lt_trans h1 h2) (List.lt_irrefl _)) ha.asc hb.asc ?_
  exact (List.perm_ext_iff_of_nodup (asc_nd ha.asc) (asc_nd hb.asc)).mpr h
theorem tree_eq {ord : List Nat} {m : Nat} {pl : List Str} (hp : ord.Perm (List.range m)) {u v : Tr} (gu : Gt ord pl u) (gv : Gt ord pl v) (h : ∀ bs x, x ∈ u.ans bs ↔ x ∈ v.ans bs) : u = v :=
  Tr.same hp gu.ord gv.ord fun bs _ => names_eq (allL_ans gu.nm) (allL_ans gv.nm) (h bs)
theorem pl_gt {ord : List Nat} {pl : List Str} (hp : Pool pl) {t : Tr} (g : Gt ord pl t) : Cmp (encFold (foldOf t)) := by
  have : ∀ t : Tr, t.allL (Names pl) → t.allL StrsOk := by
    intro t
    induction t with
    | leaf ns => exact fun h x hx => hp.ok x (h.sub x hx)
    | node c a b ih1 ih2 => exact fun h => ⟨ih1 h.1, ih2 h.2⟩
  exact (pl_fold (this t g.nm)).cmp (by decide)
theorem ne_fold {ord : List Nat} {m : Nat} {pl : List Str} (hp : ord.Perm (List.range m)) (pp : Pool pl) {u v : Tr} (gu : Gt ord pl u) (gv : Gt ord pl v) (h : ∀ bs x, x ∈ u.ans bs ↔ x ∈ v.ans bs) {M : MS} {q : DV → Prop} (hq : q (.dat (.bool false))) : opR neV2 M (.dat (encFold (foldOf u))) (.dat (encFold (foldOf v))) q := by
  have e := tree_eq hp gu gv h
  subst e
  exact ⟨_, _, rfl, rfl, Cmp.ne2 (pl_gt pp gu) (pl_gt pp gu) (fun _ => hq) fun z => absurd rfl z⟩
theorem eq_fold {ord : List Nat} {m : Nat} {pl : List Str} (hp : ord.Perm (List.range m)) (pp : Pool pl) {u v : Tr} (gu : Gt ord pl u) (gv : Gt ord pl v) (h : ∀ bs x, x ∈ u.ans bs ↔ x ∈ v.ans bs) {M : MS} {q : DV → Prop} (hq : q (.dat (.bool true))) : opR eqV2 M (.dat (encFold (foldOf u))) (.dat (encFold (foldOf v))) q := by
  have e := tree_eq hp gu gv h
  subst e
  exact ⟨_, _, rfl, rfl, Cmp.eq2 (pl_gt pp gu) (pl_gt pp gu) (fun _ => hq) fun z => absurd rfl z⟩
end Ks

/-! Ks: the law of reckoning with folds, whole. -/
namespace Ks
open PySem PySem.Spec PyProof.Rows L2 Kf

theorem sub_nil (M : MS) : Kf.Sub (fun _ => none) M := fun a o h => by cases h
theorem Pr.mm {ord : List Nat} {pl : List Str} {r : Rule} {a b u : Tr} (s : Pr ord pl r a b u) (bs : List Nat) (x : Str) : x ∈ u.ans bs ↔ r.has (x ∈ a.ans bs) (x ∈ b.ans bs) := (s.ans bs).mem x
set_option maxHeartbeats 4000000 in
theorem k21_tests {k : KD} {m : Nat} {ord : List Nat} {ws : List Str} {one two three both shared : Tr} {d8 d9 : PyData} {x0 x1 x2 x3 : Option DV} {M : MS} (h : k (.dat (.bool true)) fun _ => none) (hp : ord.Perm (List.range m)) (hl : ord.length ≤ 10) (pp : Pool ws) (hw : ws.Pairwise ltS)
    (g1 : Gt ord ws one) (g2 : Gt ord ws two) (g3 : Gt ord ws three) (hb : Pr ord ws .join one two both) (hs : Pr ord ws .meet one two shared) (e8 : d8 = encFold (foldOf (.leaf []))) (e9 : d9 = encFold (foldOf (.leaf ws))) :
    t_k21_tests (rtE k) [x0, x1, x2, x3, some (.dat (ordD (nz ord))), some (.dat (encFold (foldOf one))), some (.dat (encFold (foldOf two))), some (.dat (encFold (foldOf three))), some (.dat d8), some (.dat d9), some (.dat (encFold (foldOf both))), some (.dat (encFold (foldOf shared)))] M := by
  subst e8
  subst e9
  have nd := perm_nd hp
  have gb := hb.gt nd g1 g2
  have gs := hs.gt nd g1 g2
  have g0 : Gt ord ws (.leaf []) := ⟨True.intro, ⟨.nil, fun x hx => absurd hx List.not_mem_nil⟩⟩
  have ge : Gt ord ws (.leaf ws) := ⟨True.intro, ⟨hw, fun x hx => hx⟩⟩
  have a0 : ∀ bs x, ¬ x ∈ (Tr.leaf []).ans bs := fun bs x hx => absurd hx List.not_mem_nil
  have ae : ∀ bs x, x ∈ (Tr.leaf ws).ans bs ↔ x ∈ ws := fun bs x => Iff.rfl
  have s1 : ∀ bs x, x ∈ one.ans bs → x ∈ ws := fun bs x hx => (allL_ans g1.nm).sub x hx
  have s2 : ∀ bs x, x ∈ two.ans bs → x ∈ ws := fun bs x hx => (allL_ans g2.nm).sub x hx
  refine ⟨_, rfl, _, rfl, _, rfl, _, rfl, ord, ws, two, one, rfl, nd, hl, g2.ord, g1.ord, pp, g2.nm, g1.nm, fun u hu => ne_fold hp pp gb (hu.gt nd g2 g1) (fun bs x => ?_) ⟨_, rfl, if_f rfl ?_⟩⟩
  · rw [hb.mm, hu.mm]; exact Or.comm
  refine ⟨_, rfl, _, rfl, _, rfl, _, rfl, ord, ws, two, one, rfl, nd, hl, g2.ord, g1.ord, pp, g2.nm, g1.nm, fun u hu => ne_fold hp pp gs (hu.gt nd g2 g1) (fun bs x => ?_) ⟨_, rfl, if_f rfl ?_⟩⟩
  · rw [hs.mm, hu.mm]; exact And.comm
  refine ⟨_, rfl, _, rfl, _, rfl, ord, ws, both, three, rfl, nd, hl, gb.ord, g3.ord, pp, gb.nm, g3.nm, fun u hu => ?_⟩
  refine ⟨_, rfl, _, rfl, _, rfl, _, rfl, ord, ws, two, three, rfl, nd, hl, g2.ord, g3.ord, pp, g2.nm, g3.nm, fun v hv => ?_⟩
  have gv := hv.gt nd g2 g3
  refine ⟨_, rfl, ord, ws, one, v, rfl, nd, hl, g1.ord, gv.ord, pp, g1.nm, gv.nm, fun y hy => ne_fold hp pp (hu.gt nd gb g3) (hy.gt nd g1 gv) (fun bs x => ?_) ⟨_, rfl, if_f rfl ?_⟩⟩
  · simp only [hu.mm, hy.mm, hv.mm, hb.mm, Rule.has]; exact or_assoc
  clear hu hv gv hy u v y
  refine ⟨_, rfl, _, rfl, _, rfl, ord, ws, shared, three, rfl, nd, hl, gs.ord, g3.ord, pp, gs.nm, g3.nm, fun u hu => ?_⟩
  refine ⟨_, rfl, _, rfl, _, rfl, _, rfl, ord, ws, two, three, rfl, nd, hl, g2.ord, g3.ord, pp, g2.nm, g3.nm, fun v hv => ?_⟩
  have gv := hv.gt nd g2 g3
  refine ⟨_, rfl, ord, ws, one, v, rfl, nd, hl, g1.ord, gv.ord, pp, g1.nm, gv.nm, fun y hy => ne_fold hp pp (hu.gt nd gs g3) (hy.gt nd g1 gv) (fun bs x => ?_) ⟨_, rfl, if_f rfl ?_⟩⟩
  · simp only [hu.mm, hy.mm, hv.mm, hs.mm, Rule.has]; exact and_assoc
  clear hu hv gv hy u v y
  refine ⟨_, rfl, _, rfl, _, rfl, ord, ws, both, three, rfl, nd, hl, gb.ord, g3.ord, pp, gb.nm, g3.nm, fun u hu => ?_⟩
  refine ⟨_, rfl, _, rfl, _, rfl, ord, ws, one, three, rfl, nd, hl, g1.ord, g3.ord, pp, g1.nm, g3.nm, fun v hv => ?_⟩
  refine ⟨_, rfl, _, rfl, _, rfl, ord, ws, two, three, rfl, nd, hl, g2.ord, g3.ord, pp, g2.nm, g3.nm, fun v2 hv2 => ?_⟩
  have gv := hv.gt nd g1 g3
  have gv2 := hv2.gt nd g2 g3
  refine ⟨_, rfl, ord, ws, v, v2, rfl, nd, hl, gv.ord, gv2.ord, pp, gv.nm, gv2.nm, fun y hy => ne_fold hp pp (hu.gt nd gb g3) (hy.gt nd gv gv2) (fun bs x => ?_) ⟨_, rfl, if_f rfl ?_⟩⟩
  · simp only [hu.mm, hy.mm, hv.mm, hv2.mm, hb.mm, Rule.has]; exact or_and_right
  clear hu hv gv hy hv2 gv2 u v v2 y
  refine ⟨_, rfl, _, rfl, _, rfl, ord, ws, shared, three, rfl, nd, hl, gs.ord, g3.ord, pp, gs.nm, g3.nm, fun u hu => ?_⟩
  refine ⟨_, rfl, _, rfl, _, rfl, ord, ws, one, three, rfl, nd, hl, g1.ord, g3.ord, pp, g1.nm, g3.nm, fun v hv => ?_⟩
  refine ⟨_, rfl, _, rfl, _, rfl, ord, ws, two, three, rfl, nd, hl, g2.ord, g3.ord, pp, g2.nm, g3.nm, fun v2 hv2 => ?_⟩
  have gv := hv.gt nd g1 g3
  have gv2 := hv2.gt nd g2 g3
  refine ⟨_, rfl, ord, ws, v, v2, rfl, nd, hl, gv.ord, gv2.ord, pp, gv.nm, gv2.nm, fun y hy => ne_fold hp pp (hu.gt nd gs g3) (hy.gt nd gv gv2) (fun bs x => ?_) ⟨_, rfl, if_f rfl ?_⟩⟩
  · simp only [hu.mm, hy.mm, hv.mm, hv2.mm, hs.mm, Rule.has]; exact and_or_right
  clear hu hv gv hy hv2 gv2 u v v2 y
  refine ⟨_, rfl, _, rfl, _, rfl, ord, ws, one, one, rfl, nd, hl, g1.ord, g1.ord, pp, g1.nm, g1.nm, fun u hu => ⟨_, rfl, ne_fold hp pp (hu.gt nd g1 g1) g1 (fun bs x => ?_) ⟨_, rfl, if_f rfl ?_⟩⟩⟩
  · rw [hu.mm]; exact or_self_iff
  clear hu u
  refine ⟨_, rfl, _, rfl, _, rfl, ord, ws, one, one, rfl, nd, hl, g1.ord, g1.ord, pp, g1.nm, g1.nm, fun u hu => ⟨_, rfl, ne_fold hp pp (hu.gt nd g1 g1) g1 (fun bs x => ?_) ⟨_, rfl, if_f rfl ?_⟩⟩⟩
  · rw [hu.mm]; exact and_self_iff
  clear hu u
  refine ⟨_, rfl, _, rfl, _, rfl, ord, ws, one, one, rfl, nd, hl, g1.ord, g1.ord, pp, g1.nm, g1.nm, fun u hu => ⟨_, rfl, ne_fold hp pp (hu.gt nd g1 g1) g0 (fun bs x => ?_) ⟨_, rfl, if_f rfl ?_⟩⟩⟩
  · rw [hu.mm]; exact ⟨fun z => absurd z.1 z.2, fun z => absurd z (a0 bs x)⟩
  clear hu u
  refine ⟨_, rfl, _, rfl, _, rfl, ord, ws, one, .leaf [], rfl, nd, hl, g1.ord, g0.ord, pp, g1.nm, g0.nm, fun u hu => ⟨_, rfl, ne_fold hp pp (hu.gt nd g1 g0) g1 (fun bs x => ?_) ⟨_, rfl, if_f rfl ?_⟩⟩⟩
  · rw [hu.mm]; exact ⟨fun z => z.elim id fun q => absurd q (a0 bs x), .inl⟩
  clear hu u
  refine ⟨_, rfl, _, rfl, _, rfl, ord, ws, one, .leaf ws, rfl, nd, hl, g1.ord, ge.ord, pp, g1.nm, ge.nm, fun u hu => ⟨_, rfl, ne_fold hp pp (hu.gt nd g1 ge) g1 (fun bs x => ?_) ⟨_, rfl, if_f rfl ?_⟩⟩⟩
  · rw [hu.mm]; exact ⟨fun z => z.1, fun z => ⟨z, s1 bs x z⟩⟩
  clear hu u
  refine ⟨_, rfl, _, rfl, _, rfl, ord, ws, one, .leaf [], rfl, nd, hl, g1.ord, g0.ord, pp, g1.nm, g0.nm, fun u hu => ⟨_, rfl, ne_fold hp pp (hu.gt nd g1 g0) g1 (fun bs x => ?_) ⟨_, rfl, if_f rfl ?_⟩⟩⟩
  · rw [hu.mm]; exact ⟨fun z => z.1, fun z => ⟨z, a0 bs x⟩⟩
  clear hu u
  refine ⟨_, rfl, _, rfl, _, rfl, ord, ws, one, two, rfl, nd, hl, g1.ord, g2.ord, pp, g1.nm, g2.nm, fun v hv => ?_⟩
  have gv := hv.gt nd g1 g2
  refine ⟨_, rfl, _, rfl, ord, ws, v, shared, rfl, nd, hl, gv.ord, gs.ord, pp, gv.nm, gs.nm, fun u hu => ⟨_, rfl, ne_fold hp pp (hu.gt nd gv gs) g1 (fun bs x => ?_) ⟨_, rfl, if_f rfl ?_⟩⟩⟩
  · simp only [hu.mm, hv.mm, hs.mm, Rule.has]
    by_cases z : x ∈ two.ans bs <;> simp [z]
  clear hu hv gv u v
  refine ⟨_, rfl, _, rfl, _, rfl, ord, ws, shared, one, rfl, nd, hl, gs.ord, g1.ord, pp, gs.nm, g1.nm, fun u hu => ⟨_, rfl, ne_fold hp pp (hu.gt nd gs g1) g1 (fun bs x => ?_) ⟨_, rfl, if_f rfl ?_⟩⟩⟩
  · simp only [hu.mm, hs.mm, Rule.has]
    exact ⟨fun z => z.elim (·.1) id, .inr⟩
  clear hu u
  refine ⟨_, rfl, _, rfl, _, rfl, ord, ws, .leaf ws, both, rfl, nd, hl, ge.ord, gb.ord, pp, ge.nm, gb.nm, fun u hu => ?_⟩
  refine ⟨_, rfl, _, rfl, _, rfl, ord, ws, .leaf ws, one, rfl, nd, hl, ge.ord, g1.ord, pp, ge.nm, g1.nm, fun v hv => ?_⟩
  refine ⟨_, rfl, _, rfl, _, rfl, ord, ws, .leaf ws, two, rfl, nd, hl, ge.ord, g2.ord, pp, ge.nm, g2.nm, fun v2 hv2 => ?_⟩
  have gv := hv.gt nd ge g1
  have gv2 := hv2.gt nd ge g2
  refine ⟨_, rfl, ord, ws, v, v2, rfl, nd, hl, gv.ord, gv2.ord, pp, gv.nm, gv2.nm, fun y hy => eq_fold hp pp (hu.gt nd ge gb) (hy.gt nd gv gv2) (fun bs x => ?_) (rt_sub (sub_nil M) h)⟩
  simp only [hu.mm, hy.mm, hv.mm, hv2.mm, hb.mm, Rule.has]
  by_cases z : x ∈ two.ans bs <;> by_cases z1 : x ∈ one.ans bs <;> simp [z, z1]
theorem cdiv5' (i : Int) : CDiv i 5 := ⟨by omega, by omega⟩
theorem names_in {ws : List Str} (hw : WsOk ws) {t : Tr} (h : NamesIn ws t) : t.allL (Names ws) := allL_in (fun ns q => ⟨hw.asc.sublist q, fun x hx => q.subset hx⟩) h
theorem ws_pool {ws : List Str} (hw : WsOk ws) : Pool ws := ⟨Nat.le_trans hw.few (by decide), fun x hx => (hw.ok x hx).abc⟩
theorem rd_k21 (C : Addr) : ∀ ds M k, spLaw ds M k → t_law_k21 C (rtE k) (startD ["_law_script", "_law_many", "_law_words_here", "_law_key_here", "_law_order_here", "_law_one", "_law_two", "_law_three", "_law_none", "_law_every", "_law_both", "_law_shared"] ds) M := by
  rintro _ M k ⟨ns, rfl, hn, rfl, h⟩
  refine ⟨_, rfl, ns, 8, rfl, by decide, by decide, fun m ws key ord hm hm8 hw hc hk hd ho => ?_⟩
  refine ⟨_, rfl, rfl, _, _, rfl, _, _, rfl, _, _, rfl, _, _, rfl, rfl, ?_⟩
  have nd := perm_nd ho
  have hl : ord.length ≤ 10 := by rw [perm_len ho]; omega
  have hf := hw.few
  have pp := ws_pool hw
  refine ⟨_, rfl, _, rfl, ord, key, rfl, nd, hl, key_in ho hc, by omega, fun one f1 => ?_⟩
  have g1 : Gt ord ws one := ⟨f1.ordd nd (key_in ho hc), f1.allL (names_in hw hk)⟩
  refine ⟨_, rfl, ns, 7, rfl, _, rfl, _, rfl, _, rfl, ns, 6, rfl, _, _, rfl, rfl, modq5 ⟨_, _, rfl, rfl, add1' ?_⟩⟩
  have m1 := Nat.mod_lt (mixN ns 6) (show 0 < 5 by decide)
  refine ⟨_, m, _, ws, rfl, hm, by omega, by omega, fun key2 c2 k2 d2 => ?_⟩
  refine ⟨_, rfl, ord, key2, rfl, nd, hl, key_in ho c2, by omega, fun two f2 => ?_⟩
  have g2 : Gt ord ws two := ⟨f2.ordd nd (key_in ho c2), f2.allL (names_in hw k2)⟩
  refine ⟨_, rfl, ns, 8, rfl, _, rfl, _, rfl, _, rfl, ns, 6, rfl, _, _, rfl, rfl, cdiv5' _, _, _, rfl, rfl, modq5 (a := mixN ns 6 / 5) ⟨_, _, rfl, rfl, add1' ?_⟩⟩
  have m2 := Nat.mod_lt (mixN ns 6 / 5) (show 0 < 5 by decide)
  refine ⟨_, m, _, ws, rfl, hm, by omega, by omega, fun key3 c3 k3 d3 => ?_⟩
  refine ⟨_, rfl, ord, key3, rfl, nd, hl, key_in ho c3, by omega, fun three f3 => ?_⟩
  have g3 : Gt ord ws three := ⟨f3.ordd nd (key_in ho c3), f3.allL (names_in hw k3)⟩
  refine ⟨_, rfl, szb rfl, _, rfl, szb rfl, _, rfl, szb rfl, ?_⟩
  refine ⟨_, rfl, _, rfl, szb rfl, _, rfl, szb rfl, ?_⟩
  refine ⟨_, rfl, _, rfl, _, rfl, ord, ws, one, two, rfl, nd, hl, g1.ord, g2.ord, pp, g1.nm, g2.nm, fun both hb => ?_⟩
  refine ⟨_, rfl, _, rfl, _, rfl, ord, ws, one, two, rfl, nd, hl, g1.ord, g2.ord, pp, g1.nm, g2.nm, fun shared hs => ?_⟩
  exact k21_tests h ho hl pp hw.asc g1 g2 g3 hb hs (by rw [fold_leaf]; rfl) (by rw [fold_leaf]; rfl)
end Ks

/-! Kf: a tuple times any number. -/
namespace Kf
open PySem PySem.Spec PyProof.Rows L2
set_option maxHeartbeats 4000000 in
theorem tuple_mulSame (l : Addr) (items : Array Value) (n : Nat) (dd : Option Addr) (sl : Array (Option Value)) (x : Int) (u : Tok) (c0 : (decide (x < -(2 ^ 63)) || decide (x ≥ 2 ^ 63)) = false) (c1 : (items.isEmpty || x == 1) = true) :
    Meets (Builtin.«tuple.__mul__» ⟨[.ref l, .int x u], []⟩) (fun _ R s => s.heap.get? l = some { cls := .type "tuple", dict := dd, data := .seq items n, slots := sl } ∧ R (.ok (.ret (Value.ref l))) s) :=
  .of_wp fun prog w A R s h => by
    obtain ⟨hp, g, d, tk, os⟩ := s
    obtain ⟨hl, h⟩ := h
    have f1 := AutoSeq1.idx_int
    wp_walk using wpAny_loadPart' hl
    repeat (first
      | (refine wpAny_ite_false (decide_eq_false (by rw [c0]; exact Bool.false_ne_true)) ?_; wp_walk using wpAny_loadPart' hl)
      | (refine wpAny_ite_true (decide_eq_true c1) ?_; wp_walk using wpAny_loadPart' hl))
    exact ⟨_, rfl, h⟩
set_option maxHeartbeats 4000000 in
theorem tuple_mulNone (l : Addr) (items : Array Value) (n : Nat) (dd : Option Addr) (sl : Array (Option Value)) (x : Int) (u : Tok) (c0 : (decide (x < -(2 ^ 63)) || decide (x ≥ 2 ^ 63)) = false) (c1 : (items.isEmpty || x == 1) = false) (c2 : (decide (x ≤ 0) || items.isEmpty) = true) :
    Meets (Builtin.«tuple.__mul__» ⟨[.ref l, .int x u], []⟩) (fun _ R s => s.heap.get? l = some { cls := .type "tuple", dict := dd, data := .seq items n, slots := sl } ∧
      R (.ok (.ret (Value.ref s.heap.objs.size))) { s with heap := s.heap.push { cls := Value.type "tuple", data := Data.seq #[] }, toks := s.toks }) :=
  .of_wp fun prog w A R s h => by
    obtain ⟨hp, g, d, tk, os⟩ := s
    obtain ⟨hl, h⟩ := h
    have f1 := AutoSeq1.idx_int
    wp_walk using wpAny_loadPart' hl
    repeat (first
      | (refine wpAny_ite_false (decide_eq_false (by rw [c0]; exact Bool.false_ne_true)) ?_; wp_walk using wpAny_loadPart' hl)
      | (refine wpAny_ite_false (decide_eq_false (by rw [c1]; exact Bool.false_ne_true)) ?_; wp_walk using wpAny_loadPart' hl)
      | (refine wpAny_ite_true (decide_eq_true c2) ?_; wp_walk using wpAny_loadPart' hl))
    exact ⟨_, rfl, h⟩
def rRepA (K : PySem.W.Frag) : R2 := fun x y H Q => ∃ l k xs, x = .ref l ∧ y = .int k ∧ SqT K H l xs ∧ -1000 ≤ k ∧ k ≤ 1000 ∧ xs.length ≤ 1000 ∧ ((xs = [] ∨ k = 1) → Q (.ref l) H) ∧ (xs ≠ [] → k ≠ 1 → ∀ p, H p = none → Q (.ref p) (upd H p (.tup (List.replicate k.toNat xs).flatten)))
section
variable {X : Cx}
theorem op_repA : OpR X (binaryOp .Mult) (rRepA X.K) := by
  intro pins s σ H x y v u Q I rx ry h
  obtain ⟨l, k, xs, rfl, rfl, hT, h1, h2, hz, q1, q2⟩ := h
  by_cases hbig : xs ≠ [] ∧ 2 ≤ k
  · exact op_repT pins s σ H _ _ v u Q I rx ry ⟨l, k, xs, rfl, rfl, hT, hbig.1, hbig.2, h2, hz, q2 hbig.1 (by omega)⟩
  have c0 : (decide (k < -(2 ^ 63)) || decide (k ≥ 2 ^ 63)) = false := by
    rw [decide_eq_false (by omega), decide_eq_false (by omega)]; rfl
  cases rx
  obtain ⟨t, rfl⟩ := ry
  obtain ⟨its, r, ⟨⟨cls, dd, data, sl⟩, ho, hc, n, hd⟩, hs⟩ := I.tuple hT
  simp only at hc hd
  subst hc hd
  have hle : its.length = xs.length := r.length.symm
  have hemp : its.toArray.isEmpty = true ↔ xs = [] := by
    cases its with
    | nil => exact ⟨fun _ => List.eq_nil_of_length_eq_zero hle.symm, fun _ => rfl⟩
    | cons a b => exact ⟨fun z => (by cases z), fun z => by rw [z] at hle; cases hle⟩
  by_cases hsame : xs = [] ∨ k = 1
  · have c1 : (its.toArray.isEmpty || k == 1) = true := by
      rcases hsame with z | z
      · rw [hemp.mpr z]; rfl
      · rw [z]; simp
    exact wpAny_binaryOp_repeat_ref (T := "tuple") (U := "int") (by decide) ⟨_, ho, rfl⟩ (fun s' => typeIs_int s' k t) noFill_tuple_mul F.fills_int_mul F.slot_int_rmul repeat_tuple F.slot_int_index.lookup
      (call_meets F.slot_int_rmul (typeIs_int s k t) F.entry_int_rmul (F.args_int_rmul_2 _ _) (int_rmul_tuple k t l its.toArray n dd sl)
        ⟨ho, rfl, ⟨_, ho, rfl⟩, call_meets F.slot_tuple_mul ⟨_, ho, rfl⟩ F.entry_tuple_mul (F.args_tuple_mul_2 _ _) (tuple_mulSame l its.toArray n dd sl k t c0 c1) ⟨ho, ⟨.ref l, H, I, rfl, q1 hsame⟩⟩⟩)
  · have hne : xs ≠ [] := fun z => hsame (.inl z)
    have hk1 : k ≠ 1 := fun z => hsame (.inr z)
    have hi : its.toArray.isEmpty = false := by
      cases z : its.toArray.isEmpty with
      | false => rfl
      | true => exact absurd (hemp.mp z) hne
    have hk0 : k ≤ 0 := by
      by_cases z : 2 ≤ k
      · exact absurd ⟨hne, z⟩ hbig
      · omega
    have c1 : (its.toArray.isEmpty || k == 1) = false := by rw [hi, Bool.false_or]; exact beq_eq_false_iff_ne.mpr hk1
    have c2 : (decide (k ≤ 0) || its.toArray.isEmpty) = true := by rw [decide_eq_true hk0]; rfl
    have ht : k.toNat = 0 := by omega
    refine wpAny_binaryOp_repeat_ref (T := "tuple") (U := "int") (by decide) ⟨_, ho, rfl⟩ (fun s' => typeIs_int s' k t) noFill_tuple_mul F.fills_int_mul F.slot_int_rmul repeat_tuple F.slot_int_index.lookup
      (call_meets F.slot_int_rmul (typeIs_int s k t) F.entry_int_rmul (F.args_int_rmul_2 _ _) (int_rmul_tuple k t l its.toArray n dd sl)
        ⟨ho, rfl, ⟨_, ho, rfl⟩, call_meets F.slot_tuple_mul ⟨_, ho, rfl⟩ F.entry_tuple_mul (F.args_tuple_mul_2 _ _) (tuple_mulNone l its.toArray n dd sl k t c0 c1 c2) ⟨ho, ?_⟩⟩)
    have q := q2 hne hk1 s.heap.objs.size (I.hok.fresh (Nat.le_refl _))
    rw [ht] at q
    refine ⟨.ref s.heap.objs.size, _, I.laid (t' := s.toks) (o := .tup []) (fun b ob q => Heap.get?_push_of_some _ q) (Nat.le_refl _) ?_, rfl, q⟩
    exact ⟨by decide, [], .nil, IsTup.new _ _⟩
/-! ### products, with every number of times -/
def mulA : F2
  | .int i, .int j, q => CMul i j ∧ q (.int (i * j))
  | .str x, .int k, q => MulOk x k ∧ q (.str (Txt.mul x k))
  | .list ds, .int k, q => -(2 ^ 63) ≤ k ∧ k < 2 ^ 63 ∧ ds.length * k.toNat ≤ sizeLine ∧ q (.list (List.replicate k.toNat ds).flatten)
  | .tuple ds, .int k, q => -1000 ≤ k ∧ k ≤ 1000 ∧ ds.length ≤ 1000 ∧ q (.tuple (List.replicate k.toNat ds).flatten)
  | _, _, _ => False
theorem flat_nil {α : Type} (n : Nat) : (List.replicate n ([] : List α)).flatten = [] := by
  induction n with
  | zero => rfl
  | succ n ih => rw [List.replicate_succ, List.flatten_cons, ih]; rfl
theorem qmulA : QOp X (binaryOp .Mult) (opV mulA) := by
  rintro pins s σ H v u v' u' Q I rv ru ⟨B, M, x, y, q, ok, rx, ry, ⟨d, e, hd, he, h⟩, m⟩
  unfold mulA at h
  split at h
  · exact qmulI pins s σ H v u v' u' Q I rv ru ⟨B, M, x, y, q, ok, rx, ry, ⟨_, _, hd, he, h⟩, m⟩
  · exact qmulS pins s σ H v u v' u' Q I rv ru ⟨B, M, x, y, q, ok, rx, ry, ⟨_, _, hd, he, h⟩, m⟩
  · exact qmulL pins s σ H v u v' u' Q I rv ru ⟨B, M, x, y, q, ok, rx, ry, ⟨_, _, hd, he, h⟩, m⟩
  · rename_i ds k
    obtain ⟨h1, h2, h3, h4⟩ := h
    cases rv_int ry he
    obtain ⟨p1, vs1, rfl, s1, r1⟩ := rv_tup rx hd
    have hl := RpAll.length r1
    refine op_repA pins s σ H _ _ v' u' Q I rv ru ⟨p1, _, vs1, rfl, rfl, s1, h1, h2, by rw [hl]; exact h3, fun z => ?_, fun _ _ p hp => m.tup ok hp h4 (RpAll.repl r1 _)⟩
    have e0 : (List.replicate k.toNat ds).flatten = ds := by
      rcases z with z | z
      · have : ds = [] := List.eq_nil_of_length_eq_zero (by rw [← hl, z]; rfl)
        subst this
        exact flat_nil _
      · subst z
        show (List.replicate 1 ds).flatten = ds
        simp
    rw [e0] at h4
    exact m.keep ok (z := .dat (.tuple ds)) h4 (cview_rp rx hd fun _ h => by cases h)
  · exact h.elim
/-! ### sorted of a tuple of texts -/
end
end Kf

/-! Kf: sorted of a list or of a tuple. -/
namespace Kf
open PySem PySem.Spec PyProof PyProof.Rows L2
section
variable {Pg : Program} {W0 : World} {Ar : Around} {Ex : Value → Shared → Prop} {z : Shared}
/-- the items of a list or tuple, gathered: one object is made -/
theorem gather {Qc : List Value → Shared → Prop} (at' : Addr) {ty : String} {ob : Obj} {vals : Array Value} {ep : Nat} (hty : ty = "list" ∨ ty = "tuple") (hob : z.heap.get? at' = some ob) (hcl : ob.cls = .type ty) (hda : ob.data = .seq vals ep) (hsz : vals.size ≤ sizeLine)
    (fin : Qc vals.toList { z with heap := (z.heap.push { cls := .type "list", data := .seq ([] : List Value).toArray }).update z.heap.objs.size (Obj.mapSeq (· ++ vals)) }) : wpAny (model Pg W0) Ar (collect (.ref at')) Qc Ex z := by
  unfold collect
  refine wpAny_bind (wpAny_runValue (codeAny_builtin F.entry_proto_collect ?_)); rw [Around.under_plainId F.plain_proto_collect _]
  show wpAny _ Ar.in1 (newList [] >>= fun l => again (.builtin "list.__iadd__" ⟨[l, .ref at'], []⟩)) _ _ z
  refine wpAny_bind (wpAny_newObj_type (wpAny_pure ⟨plainId_quiet F.plain_list_iadd _, codeAny_builtin F.entry_list_iadd ?_⟩)); rw [Around.under_plainId F.plain_list_iadd _]
  show wpAny _ Ar.in1 (Builtin.List.listExtendWith (.ref z.heap.objs.size) (.ref at') (.ref z.heap.objs.size)) _ _ _
  have new0 : (z.heap.push { cls := .type "list", data := .seq ([] : List Value).toArray }).get? z.heap.objs.size = some { cls := .type "list", data := .seq #[] 0 } := Heap.get?_push_size _ rfl
  have new1 := Heap.get?_update_self (Obj.mapSeq (· ++ vals)) new0 rfl
  have last : wpAny (model Pg W0) Ar (match Value.ref z.heap.objs.size with
      | Value.ref a => do match (← load a).data with | Data.seq xs _ => pure xs.toList | _ => unsupported "internal:collect"
      | _ => unsupported "internal:collect") Qc Ex { z with heap := (z.heap.push { cls := .type "list", data := .seq ([] : List Value).toArray }).update z.heap.objs.size (Obj.mapSeq (· ++ vals)) } := by
    show wpAny _ Ar (load z.heap.objs.size >>= _) _ _ _
    refine wpAny_bind (wpAny_load new1 (wpAny_pure ?_))
    have e : ((#[] : Array Value) ++ vals).toList = vals.toList := by simp
    show Qc ((#[] : Array Value) ++ vals).toList _
    rw [e]; exact fin
  refine wpAny_mono (wpAny_extend_seq (hsz := hsz) (A := Ar) (R := fun r z' => r = .ok (.ret (.ref z.heap.objs.size)) ∧ z' = { z with heap := (z.heap.push { cls := .type "list", data := .seq ([] : List Value).toArray }).update z.heap.objs.size (Obj.mapSeq (· ++ vals)) })
    (s := { z with heap := z.heap.push { cls := .type "list", data := .seq ([] : List Value).toArray } }) _ at' _ 0 hty new0 (Heap.get?_push_of_some _ hob) hcl hda ⟨rfl, rfl⟩) (fun g z' hg => ?_) (fun e z' hg => absurd hg.1 (by simp))
  cases g with
  | done g =>
    obtain ⟨e, rfl⟩ := hg
    cases e; exact last
  | again c => exact ⟨hg.1, codeAny_mono hg.2 fun r z'' hr => by obtain ⟨rfl, rfl⟩ := hr; exact last⟩
end
section
variable {prog : Program} {w : World} {A : Around} {E : Value → Shared → Prop} {s : Shared} {β : Type} {vs : List Value} {bs : List β} {enc : β → PyData} {R : Value → β → Prop}
open PySem.W in
theorem sortedSeq {l : Addr} {o : Obj} {T : String} {n : Nat} {Q : Value → Shared → Prop} (hT : T = "list" ∨ T = "tuple") (ho : s.heap.get? l = some o) (hc : o.cls = .type T) (hd : o.data = .seq vs.toArray n) (e : EachIs R vs bs) (er : EachIs (fun v b => ∃ as, Reads s.heap v (enc b) as) vs bs) (hal : AllAlike (bs.map enc)) (hk : Sortable (bs.map enc)) (hL : bs.length ≤ sizeLine)
    (hu : ∀ b, b ∈ bs → A.units + 2 + (enc b).depth < cLine) (h : ∀ h' p out c, (∀ b o, s.heap.get? b = some o → h'.get? b = some o) → s.heap.objs.size ≤ p → h'.get? p = some (seqObj "list" (List.toArray out) c) → out.length = bs.length → EachIs R out (bs.mergeSort (dataLe false enc)) → Q (.ref p) { s with heap := h' }) :
    wpAny (model prog w) A (call (.builtin "sorted") [.ref l]) Q E s := by
  have hlen : vs.length = bs.length := e.length
  refine Calls.call_function_entry PyProof.Rows.kind_sorted PyProof.Rows.plain_sorted PyProof.Rows.entry_sorted (PyProof.Rows.args_sorted1 _) ?_
  unfold Builtin.«sorted»
  refine wpAny_bind (m := checkCount "sorted" 1 1 _) (wpAny_pure ?_)
  refine wpAny_bind (gather l hT ho hc hd (by rw [List.size_toArray, hlen]; exact hL) ?_)
  have k1 : ∀ b u, s.heap.get? b = some u → ((s.heap.push { cls := .type "list", data := .seq ([] : List Value).toArray }).update s.heap.objs.size (Obj.mapSeq (· ++ vs.toArray))).get? b = some u := fun b u q =>
    (Heap.get?_update_other _ _ (Nat.ne_of_gt (Heap.lt_size q))).trans (Heap.get?_push_of_some _ q)
  have hle : s.heap.objs.size ≤ ((s.heap.push { cls := .type "list", data := .seq ([] : List Value).toArray }).update s.heap.objs.size (Obj.mapSeq (· ++ vs.toArray))).objs.size := by
    rw [Heap.size_update, size_push']; exact Nat.le_succ _
  generalize (s.heap.push { cls := .type "list", data := .seq ([] : List Value).toArray }).update s.heap.objs.size (Obj.mapSeq (· ++ vs.toArray)) = h1 at k1 hle ⊢
  refine wpAny_bind (wpAny_newList ?_ (by rw [hlen]; exact hL))
  have hoL : (h1.push (seqObj "list" vs.toArray 0)).get? h1.objs.size = some (seqObj "list" vs.toArray 0) := Heap.get?_push_size _ rfl
  have keep2 : ∀ b u, s.heap.get? b = some u → (sortingHeap (h1.push (seqObj "list" vs.toArray 0)) h1.objs.size vs).get? b = some u := fun b u q =>
    sortingHeap_old (Nat.ne_of_lt (Heap.lt_size (k1 b u q))) (Heap.get?_push_of_some _ (k1 b u q))
  have er' : EachIs (fun v b => ∃ as, Reads (sortingHeap (h1.push (seqObj "list" vs.toArray 0)) h1.objs.size vs) v (enc b) as) vs bs := er.mono fun _ _ ⟨as, r⟩ => ⟨as, PyProof.Rows.Reads.keeps (fun b u q => keep2 b u q) r⟩
  have S := SortsAt.data (prog := prog) (w := w) (A := A.in1.in1) (s := { s with heap := sortingHeap (h1.push (seqObj "list" vs.toArray 0)) h1.objs.size vs }) (each_map (R := fun v d => ∃ as, Reads (sortingHeap (h1.push (seqObj "list" vs.toArray 0)) h1.objs.size vs) v d as) enc er') hal hk (bound_map hu)
  refine wpAny_bind (wpAny_holding (wpAny_call_entry PyProof.Rows.slot_list_sort ⟨_, hoL, rfl⟩ PyProof.Rows.entry_list_sort (list_sort_vals hoL S (by rw [hlen]; exact hL) ⟨_, rfl, ?_⟩) (PyProof.Rows.args_list_sort _)))
  have hl2 : (sortVals (dataKind (sortingHeap (h1.push (seqObj "list" vs.toArray 0)) h1.objs.size vs) (bs.map enc)) false vs vs).length = bs.length := by rw [sortVals_length false rfl]; exact hlen
  obtain ⟨c, hc2⟩ := PyProof.Rows.sortedHeap_at (vs := vs) (out := (sortVals (dataKind (sortingHeap (h1.push (seqObj "list" vs.toArray 0)) h1.objs.size vs) (bs.map enc)) false vs vs).toArray) hoL
  refine wpAny_pure ⟨_, rfl, h _ h1.objs.size _ c (fun b u q => ?_) hle hc2 hl2 (sortVals_data false e er' hal)⟩
  have hlt := Heap.lt_size (k1 b u q)
  show (sortedHeap (h1.push (seqObj "list" vs.toArray 0)) h1.objs.size vs _).get? b = some u
  rw [PyProof.Rows.sortedHeap_old (Nat.ne_of_lt hlt) (by rw [size_push']; exact Nat.lt_succ_of_lt hlt)]; exact Heap.get?_push_of_some _ (k1 b u q)
end
end Kf

/-! Kf: sorted of a list or of a tuple, by data. -/
namespace Kf
open PySem PySem.Spec PyProof PyProof.Rows L2
section
variable {X : Cx}
def sortedAP : PN := fun M xs q => ∃ x d ds, xs = [x] ∧ cview M x = some d ∧ items d = some ds ∧ noDicts ds = true ∧ PySem.W.AllAlike ds ∧ PySem.W.Sortable ds ∧ ds.length ≤ sizeLine ∧ (∀ d, d ∈ ds → d.depth ≤ 60) ∧ q (.dat (.list (ds.mergeSort (PySem.W.dataLe false id))))
theorem qsortedA (hu : X.A.units + 64 < cLine) : QCall X (.builtin "sorted") sortedAP := by
  rintro pins s σ H vs us Q I r ⟨B, M, xs, q, ok, rx, ⟨x, d, ds, rfl, hv, hit, hnd, hal, hk, hL, hdep, h⟩, m⟩
  obtain ⟨v, rfl, rv⟩ := RVs.one rx
  obtain ⟨a, vs, rfl, h1, h2⟩ := list_src ok rv hv hit
  have src : ∃ its T o n, (T = "list" ∨ T = "tuple") ∧ s.heap.get? a = some o ∧ o.cls = .type T ∧ o.data = .seq (List.toArray its) n ∧ Vals vs its := by
    rcases h1 with h1 | h1
    · obtain ⟨its, rvs, hl, hz⟩ := I.list h1
      obtain ⟨o, ho, hc, n, hd⟩ := hl.isList
      exact ⟨its, "list", o, n, .inl rfl, ho, hc, hd, rvs⟩
    · obtain ⟨its, rvs, ⟨o, ho, hc, n, hd⟩, hz⟩ := I.tuple h1
      exact ⟨its, "tuple", o, n, .inr rfl, ho, hc, hd, rvs⟩
  obtain ⟨its, T, o, n, hT, ho, hc, hd, rvs⟩ := src
  rw [Vals.ref1 r]
  obtain ⟨e1, e2⟩ := each_src h2 rvs
  have hmap : (vs.zip ds).map (·.2) = ds := List.map_snd_zip (by rw [RpAll.length h2]; exact Nat.le_refl _)
  have hlen : (vs.zip ds).length = ds.length := by rw [List.length_zip, RpAll.length h2]; omega
  have hd2 : ∀ p, p ∈ vs.zip ds → p.2 ∈ ds := fun p hp => by rw [← hmap]; exact List.mem_map.mpr ⟨p, hp, rfl⟩
  refine sortedSeq (enc := fun p : V × PyData => p.2) hT ho hc hd e1 (each_reads I e1 fun p hp => Rp.dp _ _ (noDicts_mem hnd (hd2 p hp)) (Rp.un (e2 p hp))) (by rw [hmap]; exact hal) (by rw [hmap]; exact hk) (by rw [hlen]; exact hL) (fun p hp => by have := hdep p.2 (hd2 p hp); omega) fun h' p out c keep hp hob hol hout => ?_
  have hv2 := each_vals hout
  have hrp := each_rp (K := X.K) (H := fz B M H) (ps := (vs.zip ds).mergeSort (PySem.W.dataLe false fun p : V × PyData => p.2)) fun p hp => e2 p (List.mem_mergeSort.mp hp)
  have hm2 : ((vs.zip ds).mergeSort (PySem.W.dataLe false fun p : V × PyData => p.2)).map (·.2) = ds.mergeSort (PySem.W.dataLe false id) := by
    have h0 := PySem.W.sort_maps (r := PySem.W.dataLe false fun p : V × PyData => p.2) (s := PySem.W.dataLe false id) (fun p : V × PyData => p.2) (l := vs.zip ds) (fun _ _ _ _ => rfl)
    rw [hmap] at h0
    exact h0
  rw [hm2] at hrp
  have hf : H p = none := I.hok.fresh hp
  exact ⟨.ref p, _, I.laid (t' := s.toks) (o := .lst _) keep hp ⟨by rw [RpAll.length hrp, List.length_mergeSort]; exact hL, out, c, hv2, hob⟩, rfl, m.lst ok hf h hrp⟩
end
theorem noDicts_strs : ∀ zs : List Str, noDicts (zs.map PyData.str) = true
  | [] => rfl
  | z :: zs => by rw [List.map_cons, noDicts, noDicts_strs zs]; rfl
theorem strs_alike (zs : List Str) : PySem.W.AllAlike (zs.map PyData.str) := PySem.W.AllAlike.of fun _ _ => by simp [PySem.W.alike]
theorem strs_sortable (zs : List Str) : PySem.W.Sortable (zs.map PyData.str) := PySem.W.Sortable.others fun _ => ⟨by simp, by simp⟩
theorem strs_sorted (zs : List Str) : ∃ ys : List Str, (zs.map PyData.str).mergeSort (PySem.W.dataLe false id) = ys.map PyData.str ∧ ys.Perm zs ∧ ys.Pairwise fun a b => a.cps.toList ≤ b.cps.toList := by
  refine ⟨zs.mergeSort fun a b => decide (a.cps.toList ≤ b.cps.toList), ?_, List.mergeSort_perm _ _, ?_⟩
  · rw [← PySem.W.dataLe_str (fun b : Str => b)]
    exact (PySem.W.sort_maps (r := PySem.W.dataLe false fun b : Str => PyData.str b) (s := PySem.W.dataLe false id) PyData.str (l := zs) fun _ _ _ _ => rfl).symm
  · have := List.pairwise_mergeSort (le := fun a b : Str => decide (a.cps.toList ≤ b.cps.toList)) (fun a b c h1 h2 => decide_eq_true (List.le_trans (of_decide_eq_true h1) (of_decide_eq_true h2))) (fun a b => by
      rcases List.le_total a.cps.toList b.cps.toList with h | h
      · rw [decide_eq_true h]; rfl
      · rw [decide_eq_true h, Bool.or_true]) zs
    exact List.Pairwise.imp (fun h => of_decide_eq_true h) this
theorem strs_depth (zs : List Str) : ∀ d, d ∈ zs.map PyData.str → d.depth ≤ 60 := fun d hd => by
  obtain ⟨z, _, rfl⟩ := List.mem_map.mp hd
  simp [PyData.depth]
end Kf

/-! Ks: comprehensions in general; names put together by a law. -/
namespace Ks
open PySem PySem.Spec PyProof.Rows L2 Kf

section
variable {α : Type} {enc : α → PyData} {i : Nat} {ρ : Rho} {M : MS} {k : List PyData → MS → Prop}
theorem flt_gen {tt : TDb} {p : α → Bool} (hi : Nat.blt i ρ.length = true) : ∀ (l acc : List α), (∀ x, x ∈ l → ∀ K : Bool → MS → Prop, K (p x) M → tt ((wipeD ρ [i]).set i (some (.dat (enc x)))) M K) → acc.length + l.length ≤ 1000000 → k ((acc ++ l.filter p).map enc) M →
    compD (.one i) tt (dVar i) ρ none (l.map enc) (acc.map enc) M k
  | [], acc, _, _, h => ⟨True.intro, by rw [List.filter_nil, List.append_nil] at h; exact h⟩
  | x :: l, acc, ht, hl, h => by
    rw [List.length_cons] at hl
    rw [List.filter_cons] at h
    refine ⟨True.intro, _, rfl, ht x List.mem_cons_self _ ?_⟩
    refine if_b (fun e => ?_) fun e => ?_
    · rw [if_pos e] at h
      refine ⟨.dat (enc x), List.getElem?_set_self (by show i < (wipeD ρ [i]).length; unfold wipeD wipeD; rw [List.length_set]; exact Nat.le_of_ble_eq_true hi), _, rfl, by rw [List.length_map]; exact slt (by omega), ?_⟩
      have ea : acc.map enc ++ [enc x] = (acc ++ [x]).map enc := by rw [List.map_append]; rfl
      rw [ea]
      refine flt_gen hi l (acc ++ [x]) (fun y hy => ht y (List.mem_cons_of_mem _ hy)) (by rw [List.length_append, List.length_singleton]; omega) ?_
      rw [List.append_assoc]; exact h
    · rw [if_neg (by rw [e]; exact Bool.false_ne_true)] at h
      exact flt_gen hi l acc (fun y hy => ht y (List.mem_cons_of_mem _ hy)) (by omega) h
theorem map_gen {te : TD} {f : α → PyData} : ∀ (l : List α) (acc : List PyData), (∀ x, x ∈ l → ∀ K : KD, K (.dat (f x)) M → te ((wipeD ρ [i]).set i (some (.dat (enc x)))) M K) → acc.length + l.length ≤ 1000000 → k (acc ++ l.map f) M →
    compD (.one i) dYes te ρ none (l.map enc) acc M k
  | [], acc, _, _, h => ⟨True.intro, by rw [List.map_nil, List.append_nil] at h; exact h⟩
  | x :: l, acc, ht, hl, h => by
    rw [List.length_cons] at hl
    refine ⟨True.intro, _, rfl, if_t (Q := compD (.one i) dYes te ρ none (l.map enc) acc M k) rfl (ht x List.mem_cons_self _ ⟨_, rfl, slt (by omega), ?_⟩)⟩
    refine map_gen l (acc ++ [f x]) (fun y hy => ht y (List.mem_cons_of_mem _ hy)) (by rw [List.length_append, List.length_singleton]; omega) ?_
    rw [List.append_assoc]; exact h
end
theorem in_names {g : Bool → Bool} {x : Str} {b : List Str} {M : MS} {q : DV → Prop} (h : q (.dat (.bool (g (decide (x ∈ b)))))) : opR (inV2 g) M (.dat (.str x)) (.dat (encNames b)) q := by
  have iok : inOk (.str x) (.tuple (b.map PyData.str)) (b.map PyData.str) = true := by
    unfold inOk; rw [flat_strsD]; rfl
  refine ⟨.str x, encNames b, rfl, rfl, b.map PyData.str, rfl, iok, ?_⟩
  rw [any_str]
  exact h
/-! ### _law_union -/
def t_L_union : TDs := (dRet (dCB tupleP (daCons (dCB sortedAP (daCons (dOp (opV addV) (dVar 0) (dCB tupleP (daCons (dLc (diTup (dVar 1)) (.one 2) (dB (dOp (opR (inV2 not)) (dVar 2) (dVar 0))) (dVar 2)) daNil))) daNil)) daNil)))
def sp_L_union : DSp := fun ds M k => ∃ (pl a b : List Str), ds = [.dat (encNames a), .dat (encNames b)] ∧ Pool pl ∧ Names pl a ∧ Names pl b ∧ ∀ c, Nb pl .join a b c → k (.dat (encNames c)) M
theorem asc_le {l : List Str} (h : l.Pairwise fun a b => a.cps.toList ≤ b.cps.toList) (nd : l.Nodup) : l.Pairwise ltS := by
  refine List.Pairwise.imp₂ (fun a b p q => ?_) h nd
  by_cases z : ltS a b
  · exact z
  · refine absurd ?_ q
    have : a.cps.toList = b.cps.toList := List.le_antisymm p (List.not_lt.mp z)
    cases a; cases b
    simp only at this
    rw [Array.toList_inj.mp this]
theorem rd_L_union : ∀ ds M k, sp_L_union ds M k → t_L_union (rtE k) (startD ["_law_ones", "_law_others", "_law_name"] ds) M := by
  rintro _ M k ⟨pl, a, b, rfl, hp, ha, hb, h⟩
  have la := ha.len
  have lb := hb.len
  have lp := hp.few
  refine ⟨_, rfl, _, rfl, b.map PyData.str, rfl, ?_⟩
  refine flt_gen (enc := PyData.str) (p := fun x => !decide (x ∈ a)) rfl b [] (fun x hx K hK => ⟨_, rfl, _, rfl, in_names ⟨_, rfl, hK⟩⟩) (by rw [List.length_nil]; omega) ?_
  rw [List.nil_append]
  have lf : (b.filter fun x => !decide (x ∈ a)).length ≤ b.length := List.length_filter_le _ _
  refine ⟨_, rfl, .inl ⟨_, rfl, ?_⟩⟩
  refine ⟨_, _, rfl, rfl, szm (by rw [List.length_map, List.length_map]; omega), ?_⟩
  obtain ⟨ys, e1, e2, e3⟩ := strs_sorted (a ++ b.filter fun x => !decide (x ∈ a))
  have nd0 : (a ++ b.filter fun x => !decide (x ∈ a)).Nodup := List.nodup_append.mpr ⟨asc_nd ha.asc, (asc_nd hb.asc).sublist List.filter_sublist, fun x hx y hy e => by
    subst e
    have := (List.mem_filter.mp hy).2
    simp [hx] at this⟩
  have mem : ∀ x, x ∈ ys ↔ x ∈ a ∨ x ∈ b := fun x => by
    rw [e2.mem_iff, List.mem_append, List.mem_filter]
    by_cases z : x ∈ a <;> simp [z]
  have es : a.map PyData.str ++ (b.filter fun x => !decide (x ∈ a)).map PyData.str = (a ++ b.filter fun x => !decide (x ∈ a)).map PyData.str := by rw [List.map_append]
  have hl : (a ++ b.filter fun x => !decide (x ∈ a)).length ≤ 1000000 := by rw [List.length_append]; omega
  refine ⟨_, .tuple (a.map PyData.str ++ (b.filter fun x => !decide (x ∈ a)).map PyData.str), _, rfl, rfl, rfl, ?_⟩
  rw [es, e1]
  refine ⟨noDicts_strs _, strs_alike _, strs_sortable _, szm (by rw [List.length_map]; exact hl), strs_depth _, ?_⟩
  refine ⟨_, rfl, .inl ⟨_, rfl, rt_same (h ys ⟨⟨asc_le e3 (e2.nodup_iff.mpr nd0), fun x hx => ?_⟩, mem⟩)⟩⟩
  exact ((mem x).mp hx).elim (ha.sub x) (hb.sub x)
theorem nmF_of {ws ns : List Str} (hw : WsOk ws) (h : Names ws ns) : NmF ns := ⟨nmP_iff.mpr ⟨fun w q => hw.ok w (h.sub w q), h.asc⟩, by have := h.len; have := hw.few; omega⟩
theorem nb_fn {pl : List Str} {r : Rule} {a b c c' : List Str} (h : Nb pl r a b c) (h' : Nb pl r a b c') : c = c' := names_eq h.nm h'.nm fun x => (h.mem x).trans (h'.mem x).symm
theorem pl_namesL {ls : List (List Str)} (h : ∀ ns, ns ∈ ls → StrsOk ns) : Pl 3 (.list (ls.map encNames)) := Pl.lst fun d hd => by
  obtain ⟨x, hx, rfl⟩ := List.mem_map.mp hd
  exact pl_names (h x hx)
end Ks

/-! Ks: the law of joined, common, less. -/
namespace Ks
open PySem PySem.Spec PyProof.Rows L2 Kf

def encF (t : Tr) : PyData := encFold (foldOf t)
def t_k20_turn : TDs := (dSeq (dSet 10 (dCall (sp_L_answer 12) (daCons (dVar 3) (daCons (dVar 9) daNil))))
  (dSeq (dSet 11 (dCall (sp_L_answer 12) (daCons (dVar 5) (daCons (dVar 9) daNil))))
  (dSeq (dSet 12 (dOwn (daCons (dCall sp_L_union (daCons (dVar 10) (daCons (dVar 11) daNil))) (daCons (dCB tupleP (daCons (dLc (diTup (dVar 10)) (.one 14) (dB (dOp (opR (inV2 id)) (dVar 14) (dVar 11))) (dVar 14)) daNil)) daNil))))
  (dSeq (dExpr (dAppend (dVar 12) (daCons (dCB tupleP (daCons (dLc (diTup (dVar 10)) (.one 14) (dB (dOp (opR (inV2 not)) (dVar 14) (dVar 11))) (dVar 14)) daNil)) daNil)))
  (dIf (dB (dOp (opR neV2) (dLc (diSeq (dVar 8)) (.one 13) dYes (dCall sp_answer_of (daCons (dVar 13) (daCons (dVar 9) daNil)))) (dVar 12))) (dRet (dC (.bool false))) dNext)))))
def t_law_k20 (C : Addr) : TDs := (dSeq (dAsg (dCall sp_L_made (daCons (dVar 0) (daCons (dC (.int 6)) daNil))) (gdTup 4 (gdCons (gdName 1) (gdCons (gdName 2) (gdCons (gdName 3) (gdCons (gdName 4) gdNil))))))
  (dSeq (dSet 5 (dCall (sp_L_key 5) (daCons (dCall sp_L_mixed (daCons (dVar 0) (daCons (dC (.int 7)) daNil))) (daCons (dVar 2) (daCons (dVar 1) (daCons (dOp (opV addV) (dC (.int 1)) (dOp (opV modI) (dCall sp_L_mixed (daCons (dVar 0) (daCons (dC (.int 6)) daNil))) (dC (.int 5)))) daNil))))))
  (dSeq (dSet 6 (dCall (sp_folded C 12) (daCons (dVar 3) (daCons (dVar 4) daNil))))
  (dSeq (dSet 7 (dCall (sp_folded C 12) (daCons (dVar 5) (daCons (dVar 4) daNil))))
  (dSeq (dSet 8 (dLst (daCons (dCall (sp_pair2 .join) (daCons (dVar 6) (daCons (dVar 7) (daCons (dVar 4) daNil)))) (daCons (dCall (sp_pair2 .meet) (daCons (dVar 6) (daCons (dVar 7) (daCons (dVar 4) daNil)))) (daCons (dCall (sp_pair2 .less) (daCons (dVar 6) (daCons (dVar 7) (daCons (dVar 4) daNil)))) daNil)))))
  (dSeq (dIf (dB (dOp (opR neV2) (dLc (diSeq (dVar 8)) (.one 13) (dNot (dB (dCall sp_L_is_fold (daCons (dVar 13) (daCons (dVar 4) daNil))))) (dVar 13)) (dLst daNil))) (dRet (dC (.bool false))) dNext)
  (dSeq (dFor (diSeq (dCall sp_L_things (daCons (dVar 1) daNil))) (gdName 9) t_k20_turn)
  (dRet (dAndV (dOp (opR eqV2) (dVar 6) (dCall (sp_folded C 12) (daCons (dVar 3) (daCons (dVar 4) daNil)))) (dOp (opR eqV2) (dVar 7) (dCall (sp_folded C 12) (daCons (dVar 5) (daCons (dVar 4) daNil)))))))))))))
/-- all folds, by the law -/
theorem all_folds {m : Nat} {ord : List Nat} (hp : ord.Perm (List.range m)) (hm : m ≤ 10) {ts : List Tr} (ho : ∀ t, t ∈ ts → Ordd ord t) (hn : ∀ t, t ∈ ts → t.allL NmF) {i j : Nat} {ρ : Rho} {M : MS} {k : List PyData → MS → Prop} (hi : Nat.blt i ρ.length = true)
    (hr : ∀ t : Tr, ((wipeD ρ [i]).set i (some (.dat (encF t))))[i]? = some (some (.dat (encF t))) ∧ ((wipeD ρ [i]).set i (some (.dat (encF t))))[j]? = some (some (.dat (ordD (nz ord))))) (hl : ts.length ≤ 1000000) (h : k [] M) :
    compD (.one i) (dNot (dB (dCall sp_L_is_fold (daCons (dVar i) (daCons (dVar j) daNil))))) (dVar i) ρ none (ts.map encF) [] M k := by
  refine flt_gen (enc := encF) (p := fun _ => false) hi ts [] (fun t ht K hK => ?_) (by rw [List.length_nil]; omega) ?_
  · refine ⟨_, (hr t).1, _, (hr t).2, m, ord, _, rfl, hp, hm, gd_ord hp hm (ho t ht) (hn t ht), fun b hb => ?_⟩
    obtain rfl := is_fold_yes (ho t ht) (hn t ht) hb
    exact ⟨_, rfl, hK⟩
  · have : ts.filter (fun _ => false) = [] := List.filter_eq_nil_iff.mpr fun _ _ => Bool.false_ne_true
    rw [this]; exact h
theorem ne_nil {M : MS} {q : DV → Prop} (h : q (.dat (.bool false))) : opR neV2 M (.dat (.list [])) (.dat (.list [])) q := ⟨_, _, rfl, rfl, rfl, h⟩
theorem ne_lists {a b : List (List Str)} (h : ∀ ns, ns ∈ a → StrsOk ns) (e : a = b) {M : MS} {x : DV} (hx : view M x = some (.list (b.map encNames))) {q : DV → Prop} (hq : q (.dat (.bool false))) : opR neV2 M (.dat (.list (a.map encNames))) x q := by
  subst e
  exact ⟨_, _, rfl, hx, Cmp.ne2 ((pl_namesL h).cmp (by decide)) ((pl_namesL h).cmp (by decide)) (fun _ => hq) fun z => absurd rfl z⟩
theorem k20_things {De : DEnds} {x0 x1 x2 x4 x6 x7 : Option DV} {m : Nat} {ws : List Str} {key other a b c u v w : Tr} (hw : WsOk ws) (hk : CharLt m key) (hd : key.depth ≤ 12) (hk2 : CharLt m other) (hd2 : other.depth ≤ 12) (na : key.allL (Names ws)) (nb : other.allL (Names ws))
    (hu : ∀ bs, Nb ws .join (key.ans bs) (other.ans bs) (u.ans bs)) (hv : ∀ bs, Nb ws .meet (key.ans bs) (other.ans bs) (v.ans bs)) (hx : ∀ bs, Nb ws .less (key.ans bs) (other.ans bs) (w.ans bs)) (lu : CharLt m u) (lv : CharLt m v) (lw : CharLt m w) : ∀ (l : List (List Nat)) (M : MS) (x9 x10 x11 x12 x13 x14 : Option DV), (∀ bs, bs ∈ l → Bits m bs) →
    (∀ M' y9 y10 y11 y12 y13 y14, De.nx [x0, x1, x2, some (.dat (encKey key)), x4, some (.dat (encKey other)), x6, x7, some (.dat (.list [encF u, encF v, encF w])), y9, y10, y11, y12, y13, y14] M') →
    forD (gdName 9) t_k20_turn De none (l.map encBits) [x0, x1, x2, some (.dat (encKey key)), x4, some (.dat (encKey other)), x6, x7, some (.dat (.list [encF u, encF v, encF w])), x9, x10, x11, x12, x13, x14] M
  | [], M, x9, x10, x11, x12, x13, x14, _, h => ⟨True.intro, h M x9 x10 x11 x12 x13 x14⟩
  | bs :: l, M, x9, x10, x11, x12, x13, x14, hb, h => by
    have hb1 := hb bs List.mem_cons_self
    have n1 : Names ws (key.ans bs) := allL_ans na
    have n2 : Names ws (other.ans bs) := allL_ans nb
    have pp := ws_pool hw
    have l1 := n1.len
    have lp := pp.few
    refine ⟨True.intro, _, rfl, _, rfl, m, key, bs, rfl, hb1, hk, hd, ?_⟩
    refine ⟨_, rfl, _, rfl, m, other, bs, rfl, hb1, hk2, hd2, ?_⟩
    refine ⟨_, rfl, _, rfl, ws, _, _, rfl, pp, n1, n2, fun cu hcu => ?_⟩
    refine ⟨_, rfl, (key.ans bs).map PyData.str, rfl, ?_⟩
    refine flt_gen (enc := PyData.str) (p := fun x => decide (x ∈ other.ans bs)) rfl (key.ans bs) [] (fun x hx K hK => ⟨_, rfl, _, rfl, in_names ⟨_, rfl, hK⟩⟩) (by rw [List.length_nil]; omega) ?_
    refine ⟨_, rfl, .inl ⟨_, rfl, ?_⟩⟩
    refine ⟨_, rfl, szb rfl, fun ad had => ?_⟩
    refine ⟨_, rfl, ad, _, rfl, setM_same, ?_⟩
    refine ⟨_, rfl, (key.ans bs).map PyData.str, rfl, ?_⟩
    refine flt_gen (enc := PyData.str) (p := fun x => !decide (x ∈ other.ans bs)) rfl (key.ans bs) [] (fun x hx K hK => ⟨_, rfl, _, rfl, in_names ⟨_, rfl, hK⟩⟩) (by rw [List.length_nil]; omega) ?_
    refine ⟨_, rfl, .inl ⟨_, rfl, ?_⟩⟩
    refine ⟨_, _, rfl, setM_same, slt (Nat.lt_trans (ltb rfl) (by decide)), ?_⟩
    rw [setM_set]
    refine ⟨_, rfl, .inl ⟨[encF u, encF v, encF w], rfl, ?_⟩⟩
    have cl : ∀ t : Tr, (t = u ∨ t = v ∨ t = w) → CharLt m t := fun t ht => by rcases ht with rfl | rfl | rfl <;> assumption
    refine map_gen (enc := encF) (f := fun t => encNames (t.ans bs)) [u, v, w] [] (fun t ht K hK => ⟨_, rfl, _, rfl, m, foldOf t, t, bs, rfl, den_fold t, hb1, cl t (by simpa using ht), hK⟩) (by simp) ?_
    have e1 : u.ans bs = cu := nb_fn (hu bs) hcu
    have e2 : v.ans bs = (key.ans bs).filter fun x => decide (x ∈ other.ans bs) := nb_fn (hv bs) (nb_filter n1 fun x => by show _ ∧ decide _ = true ↔ _ ∧ _; simp)
    have e3 : w.ans bs = (key.ans bs).filter fun x => !decide (x ∈ other.ans bs) := nb_fn (hx bs) (nb_filter n1 fun x => by show _ ∧ (!decide _) = true ↔ _ ∧ ¬ _; simp)
    have ok : ∀ ns, ns ∈ [u.ans bs, v.ans bs, w.ans bs] → StrsOk ns := fun ns hns => by
      have hs : ∀ {ns}, Names ws ns → StrsOk ns := fun hn x hx => pp.ok x (hn.sub x hx)
      simp only [List.mem_cons, List.not_mem_nil, or_false] at hns
      rcases hns with rfl | rfl | rfl
      · exact hs (hu bs).nm
      · exact hs (hv bs).nm
      · exact hs (hx bs).nm
    refine ⟨_, rfl, ne_lists (a := [u.ans bs, v.ans bs, w.ans bs]) (b := [cu, _, _]) ok (by rw [e1, e2, e3]) (by show (ownL _ ad).map _ = _; rw [ownL_mk setM_same]; rfl) ⟨_, rfl, if_f rfl ?_⟩⟩
    exact k20_things (a := a) (b := b) (c := c) hw hk hd hk2 hd2 na nb hu hv hx lu lv lw l _ _ _ _ _ _ _ (fun b q => hb b (List.mem_cons_of_mem _ q)) h
theorem eq_f {t : Tr} (h : t.allL StrsOk) {M : MS} {q : DV → Prop} (hq : q (.dat (.bool true))) : opR eqV2 M (.dat (encFold (foldOf t))) (.dat (encFold (foldOf t))) q := ⟨_, _, rfl, rfl, Cmp.eq2 ((pl_fold h).cmp (by decide)) ((pl_fold h).cmp (by decide)) (fun _ => hq) fun z => absurd rfl z⟩
theorem strs_of {pl : List Str} (hp : Pool pl) {t : Tr} (h : t.allL (Names pl)) : t.allL StrsOk := allL_mono (fun _ hn x hx => hp.ok x (hn.sub x hx)) h
theorem rd_k20 (C : Addr) : ∀ ds M k, spLaw ds M k → t_law_k20 C (rtE k) (startD ["_law_script", "_law_many", "_law_words_here", "_law_key_here", "_law_order_here", "_law_other", "_law_one", "_law_two", "_law_found", "_law_thing", "_law_ones", "_law_others", "_law_due", "_law_fold", "_law_name"] ds) M := by
  rintro _ M k ⟨ns, rfl, hn, rfl, h⟩
  refine ⟨_, rfl, ns, 6, rfl, by decide, by decide, fun m ws key ord hm hm6 hw hc hk hd ho => ?_⟩
  refine ⟨_, rfl, rfl, _, _, rfl, _, _, rfl, _, _, rfl, _, _, rfl, rfl, ?_⟩
  have nd := perm_nd ho
  have hl : ord.length ≤ 10 := by rw [perm_len ho]; omega
  have hf := hw.few
  have pp := ws_pool hw
  refine ⟨_, rfl, ns, 7, rfl, _, rfl, _, rfl, _, rfl, ns, 6, rfl, _, _, rfl, rfl, modq5 ⟨_, _, rfl, rfl, add1' ?_⟩⟩
  have m1 := Nat.mod_lt (mixN ns 6) (show 0 < 5 by decide)
  refine ⟨_, m, _, ws, rfl, hm, by omega, by omega, fun key2 c2 k2 d2 => ?_⟩
  refine ⟨_, rfl, _, rfl, ord, key, rfl, nd, hl, key_in ho hc, by omega, fun one f1 => ?_⟩
  have g1 : Gt ord ws one := ⟨f1.ordd nd (key_in ho hc), f1.allL (names_in hw hk)⟩
  refine ⟨_, rfl, _, rfl, ord, key2, rfl, nd, hl, key_in ho c2, by omega, fun two f2 => ?_⟩
  have g2 : Gt ord ws two := ⟨f2.ordd nd (key_in ho c2), f2.allL (names_in hw k2)⟩
  refine ⟨_, rfl, _, rfl, _, rfl, ord, ws, one, two, rfl, nd, hl, g1.ord, g2.ord, pp, g1.nm, g2.nm, fun u hu => ?_⟩
  refine ⟨_, rfl, _, rfl, _, rfl, ord, ws, one, two, rfl, nd, hl, g1.ord, g2.ord, pp, g1.nm, g2.nm, fun v hv => ?_⟩
  refine ⟨_, rfl, _, rfl, _, rfl, ord, ws, one, two, rfl, nd, hl, g1.ord, g2.ord, pp, g1.nm, g2.nm, fun w hx => ?_⟩
  refine ⟨_, rfl, szb rfl, ?_⟩
  have gu := hu.gt nd g1 g2
  have gv := hv.gt nd g1 g2
  have gw := hx.gt nd g1 g2
  have mem3 : ∀ {P : Tr → Prop}, P u → P v → P w → ∀ t, t ∈ [u, v, w] → P t := fun hu hv hw t ht => by
    simp only [List.mem_cons, List.not_mem_nil, or_false] at ht
    rcases ht with rfl | rfl | rfl <;> assumption
  refine ⟨_, rfl, .inl ⟨[encF u, encF v, encF w], rfl, ?_⟩⟩
  refine all_folds (ts := [u, v, w]) ho (by omega) (mem3 gu.ord gv.ord gw.ord) (mem3 (allL_mono (fun _ => nmF_of hw) gu.nm) (allL_mono (fun _ => nmF_of hw) gv.nm) (allL_mono (fun _ => nmF_of hw) gw.nm)) rfl (fun t => ⟨rfl, rfl⟩) (by simp) ?_
  refine ⟨[], rfl, szb rfl, ne_nil ⟨_, rfl, if_f rfl ?_⟩⟩
  refine ⟨_, rfl, m, rfl, hm, by omega, .inl ⟨_, rfl, ?_⟩⟩
  have an : ∀ {r : Rule} {t : Tr}, Pr ord ws r one two t → ∀ bs, Nb ws r (key.ans bs) (key2.ans bs) (t.ans bs) := fun {r t} s bs => by
    have := s.ans bs
    rw [f1.ans, f2.ans] at this
    exact this
  refine k20_things (a := one) (b := one) (c := one) hw hc (by omega) c2 (by omega) (names_in hw hk) (names_in hw k2) (an hu) (an hv) (an hx) (ordd_lt ho gu.ord) (ordd_lt ho gv.ord) (ordd_lt ho gw.ord) (allT m) _ _ _ _ _ _ _ (fun bs hb => (mem_allT m bs).mp hb) fun M' y9 y10 y11 y12 y13 y14 => ?_
  refine ⟨_, rfl, _, rfl, _, rfl, ord, key, rfl, nd, hl, key_in ho hc, by omega, fun one' f1' => ?_⟩
  have e1 := Fo.fn ho (key_in ho hc) f1' f1
  subst e1
  refine eq_f (strs_of pp g1.nm) ⟨_, rfl, if_t rfl ?_⟩
  refine ⟨_, rfl, _, rfl, _, rfl, ord, key2, rfl, nd, hl, key_in ho c2, by omega, fun two' f2' => ?_⟩
  have e2 := Fo.fn ho (key_in ho c2) f2' f2
  subst e2
  exact eq_f (strs_of pp g2.nm) (rt_sub (sub_nil _) h)
end Ks

/-! Ks: unfolded, known. -/
namespace Ks
open PySem PySem.Spec PyProof.Rows L2 Kf

/-! ### unfolded -/
def t_unfolded_from (self : DSp) : TDs := (dSeq (dSet 2 (dOp (opV ixV) (dVar 0) (dVar 1)))
  (dSeq (dIf (dB (dCall sp_is_leaf (daCons (dVar 2) daNil))) (dRet (dTup (daCons (dC (.str "names")) (daCons (dOp (opV ixV) (dVar 2) (dC (.int 1))) daNil)))) dNext)
  (dRet (dTup (daCons (dC (.str "ask")) (daCons (dOp (opV ixV) (dVar 2) (dC (.int 0))) (daCons (dCall self (daCons (dVar 0) (daCons (dOp (opV ixV) (dVar 2) (dC (.int 1))) daNil))) (daCons (dCall self (daCons (dVar 0) (daCons (dOp (opV ixV) (dVar 2) (dC (.int 2))) daNil))) daNil))))))))
def sp_unfolded_from (n : Nat) : DSp := fun ds M k => ∃ (F : List Row) (i : Nat) (t : Tr), ds = [.dat (encFold F), .dat (.int ((i : Nat) : Int))] ∧ Den F i t ∧ t.depth ≤ n ∧ k (.dat (encKey t)) M
theorem rd_unfolded_from (n : Nat) : ∀ ds M k, sp_unfolded_from n ds M k → t_unfolded_from (spPrev sp_unfolded_from n) (rtE k) (startD ["fold", "at", "row"] ds) M := by
  rintro _ M k ⟨F, i, t, rfl, hd, hn, h⟩
  cases t with
  | leaf ns =>
    refine ⟨_, rfl, _, rfl, ix_row (rowsF F) hd.row_leaf ?_⟩
    exact ⟨_, rfl, .leaf ns, rfl, _, rfl, if_t rfl ⟨_, rfl, _, _, rfl, rfl, _, rfl, _, rfl, szb rfl, rt_same h⟩⟩
  | node c a b =>
    obtain ⟨x, y, er, h1, h2⟩ := hd.row_node
    have ed : (Tr.node c a b).depth = max a.depth b.depth + 1 := rfl
    obtain ⟨n, rfl⟩ : ∃ n', n = n' + 1 := ⟨n - 1, by omega⟩
    refine ⟨_, rfl, _, rfl, ix_row (rowsF F) er ?_⟩
    refine ⟨_, rfl, .node c x y, rfl, _, rfl, if_f rfl ?_⟩
    refine ⟨_, rfl, _, _, rfl, rfl, _, rfl, ?_⟩
    refine ⟨_, rfl, _, rfl, _, _, rfl, rfl, _, rfl, F, x, a, rfl, h1, by omega, ?_⟩
    refine ⟨_, rfl, _, rfl, _, _, rfl, rfl, _, rfl, F, y, b, rfl, h2, by omega, ?_⟩
    exact ⟨_, rfl, szb rfl, rt_same h⟩
def t_unfolded : TDs := (dRet (dCall (sp_unfolded_from 10) (daCons (dVar 0) (daCons (dOp (opV subV) (dCB lenP (daCons (dVar 0) daNil)) (dC (.int 1))) daNil))))
def sp_unfolded : DSp := fun ds M k => ∃ (t : Tr), ds = [.dat (encFold (foldOf t))] ∧ t.depth ≤ 10 ∧ k (.dat (encKey t)) M
theorem rd_unfolded : ∀ ds M k, sp_unfolded ds M k → t_unfolded (rtE k) (startD ["fold"] ds) M := by
  rintro _ M k ⟨t, rfl, hd, h⟩
  refine ⟨_, rfl, _, rfl, _, encFold (foldOf t), _, rfl, rfl, len_fold _, _, _, rfl, rfl, ?_⟩
  show sp_unfolded_from 10 [_, .dat (.int ((((foldOf t).length : Nat) : Int) - 1))] M _
  rw [top_ix]
  exact ⟨foldOf t, _, t, rfl, den_fold t, hd, rt_same h⟩
/-! ### known -/
def encPart : Option Nat → PyData
  | none => .none
  | some v => .int ((v : Nat) : Int)
def encSheet (sh : List (Option Nat)) : PyData := .tuple (sh.map encPart)
def Sheet (m : Nat) (sh : List (Option Nat)) : Prop := sh.length = m ∧ ∀ v, some v ∈ sh → v = 0 ∨ v = 1
/-- what is left when a sheet is known -/
inductive Kn (sh : List (Option Nat)) : Tr → Tr → Prop
  | leaf {ns} : Kn sh (.leaf ns) (.leaf ns)
  | no {c a b u} : sh[c]? = some (some 0) → Kn sh a u → Kn sh (.node c a b) u
  | yes {c a b u} : sh[c]? = some (some 1) → Kn sh b u → Kn sh (.node c a b) u
  | free {c a b u v} : sh[c]? = some none → Kn sh a u → Kn sh b v → Kn sh (.node c a b) (mk c u v)
/-- a thing, with what is known -/
def over (sh : List (Option Nat)) (bs : List Nat) : List Nat := (sh.zip bs).map fun p => p.1.getD p.2
theorem Kn.ordd {ord : List Nat} {sh : List (Option Nat)} {t u : Tr} (s : Kn sh t u) : Ordd ord t → Ordd ord u ∧ rk ord t ≤ rk ord u := by
  induction s with
  | leaf => exact fun h => ⟨h, Nat.le_refl _⟩
  | no _ _ ih => exact fun h => let ⟨a, b⟩ := ih h.2.2.2.2.1; ⟨a, Nat.le_trans (Nat.le_of_lt h.2.1) b⟩
  | yes _ _ ih => exact fun h => let ⟨a, b⟩ := ih h.2.2.2.2.2; ⟨a, Nat.le_trans (Nat.le_of_lt h.2.2.1) b⟩
  | free _ _ _ ih1 ih2 =>
    intro h
    obtain ⟨a1, b1⟩ := ih1 h.2.2.2.2.1
    obtain ⟨a2, b2⟩ := ih2 h.2.2.2.2.2
    exact mk_ordd h.1 a1 a2 (Nat.lt_of_lt_of_le h.2.1 b1) (Nat.lt_of_lt_of_le h.2.2.1 b2)
theorem Kn.allL {P : List Str → Prop} {sh : List (Option Nat)} {t u : Tr} (s : Kn sh t u) : t.allL P → u.allL P := by
  induction s with
  | leaf => exact id
  | no _ _ ih => exact fun h => ih h.1
  | yes _ _ ih => exact fun h => ih h.2
  | free _ _ _ ih1 ih2 => exact fun h => allL_mk (ih1 h.1) (ih2 h.2)
theorem over_at {sh : List (Option Nat)} {bs : List Nat} {c : Nat} {p : Option Nat} (h : sh[c]? = some p) (hl : sh.length = bs.length) : (over sh bs).getD c 0 = p.getD (bs.getD c 0) := by
  obtain ⟨h1, h2⟩ := List.getElem?_eq_some_iff.mp h
  have hb : c < bs.length := by omega
  unfold over
  have hz : (sh.zip bs)[c]? = some (p, bs[c]) := List.getElem?_zip_eq_some.mpr ⟨h, List.getElem?_eq_getElem hb⟩
  rw [List.getD_eq_getElem?_getD, List.getElem?_map, hz, List.getD_eq_getElem?_getD, List.getElem?_eq_getElem hb]
  rfl
theorem Kn.ans {sh : List (Option Nat)} {t u : Tr} (s : Kn sh t u) (bs : List Nat) (hl : sh.length = bs.length) : u.ans bs = t.ans (over sh bs) := by
  induction s with
  | leaf => rfl
  | no h _ ih => rw [ih, ans_node, over_at h hl]; rfl
  | yes h _ ih => rw [ih, ans_node, over_at h hl]; rfl
  | free h _ _ ih1 ih2 => rw [ans_mk, ans_node, over_at h hl, ih1, ih2]; rfl
end Ks

/-! Ks: known, by its rows. -/
namespace Ks
open PySem PySem.Spec PyProof.Rows L2 Kf

def t_known_from (C : Addr) (self : DSp) : TDs := (dSeq (dIf (dB (dOp (inDV id) (dVar 3) (dVar 4))) (dRet (dOp ixDV (dVar 4) (dVar 3))) dNext)
  (dSeq (dSet 5 (dOp (opV ixV) (dVar 1) (dVar 3)))
  (dSeq (dIf (dB (dCall sp_is_leaf (daCons (dVar 5) daNil))) (dSet 6 (dMeth C "leaf" (sp_m_leaf C) (dVar 0) (daCons (dOp (opV ixV) (dVar 5) (dC (.int 1))) daNil))) (dIf (dB (dOp (opR (isV not)) (dOp (opV ixV) (dVar 2) (dOp (opV ixV) (dVar 5) (dC (.int 0)))) (dC .none))) (dSet 6 (dCall self (daCons (dVar 0) (daCons (dVar 1) (daCons (dVar 2) (daCons (dOp (opV ixV) (dVar 5) (dOp (opV addV) (dC (.int 1)) (dOp (opV ixV) (dVar 2) (dOp (opV ixV) (dVar 5) (dC (.int 0)))))) (daCons (dVar 4) daNil))))))) (dSeq (dSet 7 (dCall self (daCons (dVar 0) (daCons (dVar 1) (daCons (dVar 2) (daCons (dOp (opV ixV) (dVar 5) (dC (.int 1))) (daCons (dVar 4) daNil)))))))
  (dSet 6 (dMeth C "node" (sp_m_node C) (dVar 0) (daCons (dOp (opV ixV) (dVar 5) (dC (.int 0))) (daCons (dVar 7) (daCons (dCall self (daCons (dVar 0) (daCons (dVar 1) (daCons (dVar 2) (daCons (dOp (opV ixV) (dVar 5) (dC (.int 2))) (daCons (dVar 4) daNil)))))) daNil))))))))
  (dSeq (dPutV (dVar 4) (dVar 3) (dVar 6))
  (dRet (dVar 6))))))
def sp_known_from (C : Addr) (n : Nat) : DSp := fun ds M k => ∃ ord r l kn R F sh i t mt kvs, ds = [.ref r, .dat (encFold F), .dat (encSheet sh), .dat (.int ((i : Nat) : Int)), .ref mt] ∧ RowsAt C ord r l kn M R ∧ Den F i t ∧ CharLt sh.length t ∧ Sheet sh.length sh ∧ t.depth ≤ n ∧ M mt = some (.dicV kvs) ∧ MemV (Kn sh) kvs F R ∧
  R.length + t.size ≤ 1000000 ∧ kvs.length + t.size ≤ 1000000 ∧ ∀ R' kvs' j u, Gr t.size R R' → Kn sh t u → Den R' j u → MemV (Kn sh) kvs' F R' → kvs'.length ≤ kvs.length + t.size → k (.dat (.int ((j : Nat) : Int))) (st l kn mt M R' (.dicV kvs'))
theorem sheet_ix {sh : List (Option Nat)} {c : Nat} {p : Option Nat} (h : sh[c]? = some p) : atI (sh.map encPart) ((c : Nat) : Int) = some (encPart p) := atI_nat (by rw [List.getElem?_map, h]; rfl)
set_option maxHeartbeats 2000000 in
theorem rd_known_from (C : Addr) (n : Nat) : ∀ ds M k, sp_known_from C n ds M k → t_known_from C (spPrev (sp_known_from C) n) (rtE k) (startD ["rows", "fold", "sheet", "at", "met_ones", "row", "found", "low"] ds) M := by
  rintro _ M k ⟨ord, r, l, kn, R, F, sh, i, t, mt, kvs, rfl, hR, hd, hc, hsh, hn, hm, hmem, hs1, hs2, h⟩
  have rm : r ≠ mt := fun e => by subst e; rw [hR.ob] at hm; cases hm
  have lm : l ≠ mt := fun e => by subst e; rw [hR.la] at hm; cases hm
  have km : kn ≠ mt := fun e => by subst e; rw [hR.kn] at hm; cases hm
  have lk' := hR.ne3
  refine ⟨_, rfl, _, rfl, mt, kvs, _, _, rfl, hm, rfl, rfl, _, rfl, ?_⟩
  refine if_b (fun e => ?_) fun e => ?_
  · have e : (lk kvs (.inl (i : Int))).isSome = true := e
    obtain ⟨z, hz⟩ := Option.isSome_iff_exists.mp e
    obtain ⟨j, u, rfl, hu, dj⟩ := hmem i t z hd hz
    have := h R kvs j u ((Gr.refl hR.nd).le (Nat.zero_le _)) hu dj hmem (Nat.le_add_right _ _)
    rw [st_self hR hm] at this
    exact ⟨_, rfl, _, rfl, mt, kvs, _, _, _, rfl, hm, rfl, rfl, hz, rt_same this⟩
  have hpos := t.size_pos
  cases t with
  | leaf ns =>
    refine ⟨_, rfl, _, rfl, ix_row (rowsF F) hd.row_leaf ?_⟩
    refine ⟨_, rfl, .leaf ns, rfl, _, rfl, if_t rfl ?_⟩
    refine ⟨_, rfl, r, _, rfl, hR.ob, rfl, _, rfl, _, _, rfl, rfl, _, rfl, ?_⟩
    refine ⟨ord, r, l, kn, R, ns, rfl, hR, by omega, fun R' j g dj => ?_⟩
    have hm' : pr l kn M R' mt = _ := (pr_ne (Ne.symm lm) (Ne.symm km)).trans hm
    refine ⟨_, rfl, _, rfl, _, rfl, mt, _, _, _, _, rfl, hm', rfl, rfl, rfl, slt (by omega), ?_⟩
    exact ⟨_, rfl, rt_same (h R' _ j _ g .leaf dj ((hmem.gr g).put hd .leaf dj) (pk_length _ _ _))⟩
  | node c a b =>
    obtain ⟨x, y, er, h1, h2⟩ := hd.row_node
    have hda : a.depth + 1 ≤ n ∧ b.depth + 1 ≤ n := by
      have : max a.depth b.depth + 1 ≤ n := hn
      omega
    have es : (Tr.node c a b).size = a.size + b.size + 1 := rfl
    rw [es] at hs1 hs2 h
    obtain ⟨n, rfl⟩ : ∃ n', n = n' + 1 := ⟨n - 1, by omega⟩
    obtain ⟨p, hp⟩ : ∃ p, sh[c]? = some p := ⟨_, List.getElem?_eq_getElem hc.1⟩
    refine ⟨_, rfl, _, rfl, ix_row (rowsF F) er ?_⟩
    refine ⟨_, rfl, .node c x y, rfl, _, rfl, if_f rfl ?_⟩
    refine ⟨_, rfl, _, rfl, _, _, rfl, rfl, _, rfl, _, _, rfl, rfl, _, sheet_ix hp, ?_⟩
    cases p with
    | some v =>
      have hv := hsh.2 v (List.mem_of_getElem? hp)
      refine ⟨_, _, rfl, rfl, rfl, _, rfl, if_t rfl ?_⟩
      rcases hv with rfl | rfl
      · refine ⟨_, rfl, _, rfl, _, rfl, _, rfl, _, rfl, _, rfl, _, _, rfl, rfl, _, rfl, _, _, rfl, rfl, _, sheet_ix hp, _, _, rfl, rfl, _, _, rfl, rfl, _, rfl, _, rfl, ?_⟩
        refine ⟨ord, r, l, kn, R, F, sh, x, a, mt, kvs, rfl, hR, h1, hc.2.1, hsh, by omega, hm, hmem, by omega, by omega, fun R1 kvs1 j1 u1 g1 s1 d1 m1 k1 => ?_⟩
        have q : Kn sh (.node c a b) u1 := .no hp s1
        refine ⟨_, rfl, _, rfl, _, rfl, mt, _, _, _, _, rfl, st_at, rfl, rfl, rfl, slt (by omega), ?_⟩
        rw [st_put]
        have kp := pk_length (.inl (i : Int)) (PyData.int j1) kvs1
        exact ⟨_, rfl, rt_same (h R1 _ j1 u1 (g1.le (by omega)) q d1 (m1.put hd q d1) (by omega))⟩
      · refine ⟨_, rfl, _, rfl, _, rfl, _, rfl, _, rfl, _, rfl, _, _, rfl, rfl, _, rfl, _, _, rfl, rfl, _, sheet_ix hp, _, _, rfl, rfl, _, _, rfl, rfl, _, rfl, _, rfl, ?_⟩
        refine ⟨ord, r, l, kn, R, F, sh, y, b, mt, kvs, rfl, hR, h2, hc.2.2, hsh, by omega, hm, hmem, by omega, by omega, fun R1 kvs1 j1 u1 g1 s1 d1 m1 k1 => ?_⟩
        have q : Kn sh (.node c a b) u1 := .yes hp s1
        refine ⟨_, rfl, _, rfl, _, rfl, mt, _, _, _, _, rfl, st_at, rfl, rfl, rfl, slt (by omega), ?_⟩
        rw [st_put]
        have kp := pk_length (.inl (i : Int)) (PyData.int j1) kvs1
        exact ⟨_, rfl, rt_same (h R1 _ j1 u1 (g1.le (by omega)) q d1 (m1.put hd q d1) (by omega))⟩
    | none =>
      refine ⟨_, _, rfl, rfl, rfl, _, rfl, if_f rfl ?_⟩
      refine ⟨_, rfl, _, rfl, _, rfl, _, rfl, _, _, rfl, rfl, _, rfl, _, rfl, ?_⟩
      refine ⟨ord, r, l, kn, R, F, sh, x, a, mt, kvs, rfl, hR, h1, hc.2.1, hsh, by omega, hm, hmem, by omega, by omega, fun R1 kvs1 j1 u1 g1 s1 d1 m1 k1 => ?_⟩
      have hR1 := hR.st (R' := R1) (o := .dicV kvs1) g1.1 rm lm km
      have l1 := g1.len
      refine ⟨_, rfl, r, _, rfl, hR1.ob, rfl, _, rfl, _, _, rfl, rfl, _, rfl, _, rfl, ?_⟩
      refine ⟨_, rfl, _, rfl, _, rfl, _, rfl, _, _, rfl, rfl, _, rfl, _, rfl, ?_⟩
      refine ⟨ord, r, l, kn, R1, F, sh, y, b, mt, kvs1, rfl, hR1, h2, hc.2.2, hsh, by omega, st_at, m1, by omega, by omega, fun R2 kvs2 j2 u2 g2 s2 d2 m2 k2 => ?_⟩
      rw [st_st lk' lm km]
      have hR2 := hR.st (R' := R2) (o := .dicV kvs2) g2.1 rm lm km
      have l2 := g2.len
      refine ⟨ord, r, l, kn, R2, c, j1, j2, u1, u2, rfl, hR2, by omega, g2.den d1, d2, fun R3 j3 g3 d3 => ?_⟩
      rw [st_pr lk' lm km]
      have q : Kn sh (.node c a b) _ := .free hp s1 s2
      refine ⟨_, rfl, _, rfl, _, rfl, mt, _, _, _, _, rfl, st_at, rfl, rfl, rfl, slt (by omega), ?_⟩
      rw [st_put]
      have kp := pk_length (.inl (i : Int)) (PyData.int j3) kvs2
      exact ⟨_, rfl, rt_same (h R3 _ j3 _ ((g1.trans (g2.trans g3)).le (by omega)) q d3 ((m2.gr g3).put hd q d3) (by omega))⟩
end Ks

/-! Ks: known. -/
namespace Ks
open PySem PySem.Spec PyProof.Rows L2 Kf

def t_known (C : Addr) : TDs := (dSeq (dSet 3 (dMake C (sp_m_init C) (daCons (dVar 2) daNil)))
  (dRet (dMeth C "fold" (sp_m_fold C 10) (dVar 3) (daCons (dCall (sp_known_from C 10) (daCons (dVar 3) (daCons (dVar 0) (daCons (dVar 1) (daCons (dOp (opV subV) (dCB lenP (daCons (dVar 0) daNil)) (dC (.int 1))) (daCons dDicV daNil)))))) daNil))))
def sp_known (C : Addr) : DSp := fun ds M k => ∃ (ord : List Nat) (sh : List (Option Nat)) (t : Tr), ds = [.dat (encFold (foldOf t)), .dat (encSheet sh), .dat (ordD (nz ord))] ∧ ord.length ≤ 10 ∧ Ordd ord t ∧ CharLt sh.length t ∧ Sheet sh.length sh ∧
  ∀ u, Kn sh t u → k (.dat (encFold (foldOf u))) M
theorem rd_known (C : Addr) : ∀ ds M k, sp_known C ds M k → t_known C (rtE k) (startD ["fold", "sheet", "order", "rows"] ds) M := by
  rintro _ M k ⟨ord, sh, t, rfl, hl, ho, hc, hsh, h⟩
  obtain ⟨z1, z2⟩ := size_b ho hl
  have z3 : t.size ≤ 2048 := by
    have h2 := t.size_le
    have h3 : 2 ^ (t.depth + 1) ≤ 2 ^ 11 := Nat.pow_le_pow_right (by decide) (by omega)
    have h4 : (2 : Nat) ^ 11 = 2048 := rfl
    omega
  refine ⟨_, rfl, fun x hx => ⟨x, ord, rfl, setM_same, fun M' l kn hR hl0 hk0 hf => ⟨rfl, ?_⟩⟩⟩
  have xl := hR.ne1
  have xk := hR.ne2
  have hl1 : M l = none := by rw [setM_ne (Ne.symm xl)] at hl0; exact hl0
  have hk1 : M kn = none := by rw [setM_ne (Ne.symm xk)] at hk0; exact hk0
  have hf1 : ∀ a, a ≠ x → a ≠ l → a ≠ kn → M' a = M a := fun a h1 h2 h3 => (hf a h1 h2 h3).trans (setM_ne h1)
  refine ⟨_, rfl, x, _, rfl, hR.ob, rfl, ?_⟩
  refine ⟨_, rfl, _, rfl, _, rfl, ?_⟩
  refine ⟨_, rfl, _, encFold (foldOf t), _, rfl, rfl, len_fold _, _, _, rfl, rfl, fun a ha => ?_⟩
  have xa : x ≠ a := fun e => by subst e; rw [hR.ob] at ha; cases ha
  have la : l ≠ a := fun e => by subst e; rw [hR.la] at ha; cases ha
  have ka : kn ≠ a := fun e => by subst e; rw [hR.kn] at ha; cases ha
  have hRa := hR.set (o := .dicV []) xa la ka
  have ha0 : M a = none := by
    rw [hf1 a (Ne.symm xa) (Ne.symm la) (Ne.symm ka)] at ha; exact ha
  rw [top_ix]
  refine ⟨ord, x, l, kn, [], foldOf t, sh, _, t, a, [], rfl, hRa, den_fold t, hc, hsh, z1, setM_same, .nil, by rw [List.length_nil]; omega, by rw [List.length_nil]; omega, fun R' kvs' j u gr hu du _ _ => ?_⟩
  have hR' := hRa.st (R' := R') (o := .dicV kvs') gr.1 xa la ka
  obtain ⟨ou, _⟩ := hu.ordd ho
  obtain ⟨b1, b2⟩ := size_b ou hl
  refine ⟨ord, x, l, kn, R', j, u, rfl, hR', du, b1, b2, rt_sub ?_ (h u hu)⟩
  intro y o hy
  have y1 : y ≠ x := fun e => by rw [e, hx] at hy; cases hy
  have y2 : y ≠ l := fun e => by rw [e, hl1] at hy; cases hy
  have y3 : y ≠ kn := fun e => by rw [e, hk1] at hy; cases hy
  have y4 : y ≠ a := fun e => by rw [e, ha0] at hy; cases hy
  rw [st_ne y2 y3 y4, setM_ne y4, hf1 y y1 y2 y3]
  exact hy
end Ks

/-! Ks: a character both ways: forgotten, always; sheets. -/
namespace Ks
open PySem PySem.Spec PyProof.Rows L2 Kf

/-! ### _law_sheet -/
def t_L_sheet : TDs := (dRet (dCB tupleP (daCons (dLc (diRange1 (daCons (dVar 1) daNil)) (.one 2) dYes (dOp (opV ixV) (dTup (daCons (dC .none) (daCons (dC (.int 0)) (daCons (dC (.int 1)) (daCons (dC .none) daNil))))) (dOp (opV modI) (dCall sp_L_drawn (daCons (dVar 0) (daCons (dVar 2) daNil))) (dC (.int 4))))) daNil)))
def sp_L_sheet : DSp := fun ds M k => ∃ (num m : Nat), ds = [.dat (.int ((num : Nat) : Int)), .dat (.int ((m : Nat) : Int))] ∧ m ≤ 1000 ∧ ∀ sh : List (Option Nat), Sheet m sh → k (.dat (encSheet sh)) M
def pick4 (j : Nat) : Option Nat := if j = 1 then some 0 else if j = 2 then some 1 else none
theorem pick_at (j : Nat) : atI [PyData.none, .int 0, .int 1, .none] (((j % 4 : Nat) : Nat) : Int) = some (encPart (pick4 (j % 4))) := by
  have : j % 4 = 0 ∨ j % 4 = 1 ∨ j % 4 = 2 ∨ j % 4 = 3 := by omega
  rcases this with e | e | e | e <;> rw [e] <;> exact atI_nat rfl
theorem modq4 {a : Nat} {q : PyData → Prop} (h : q (.int ((a % 4 : Nat) : Int))) : modI (.int (a : Int)) (.int 4) q := ⟨p4, h⟩
theorem rd_L_sheet : ∀ ds M k, sp_L_sheet ds M k → t_L_sheet (rtE k) (startD ["_law_number", "_law_many", "_law_k"] ds) M := by
  rintro _ M k ⟨num, m, rfl, hm, h⟩
  refine ⟨_, rfl, _, rfl, ⟨by omega, by omega⟩, ?_⟩
  show compD _ _ _ _ _ (rangeD 0 (((m : Nat) : Int).toNat)) _ _ _
  rw [Int.toNat_natCast, range_nat]
  refine map_gen (enc := fun i : Nat => .int ((i : Nat) : Int)) (f := fun i => encPart (pick4 (drawN num i % 4))) (List.range m) [] (fun i hi K hK => ?_) (by rw [List.length_nil, List.length_range]; omega) ?_
  · exact ⟨_, rfl, szb rfl, _, rfl, _, rfl, num, i, rfl, _, _, rfl, rfl, modq4 ⟨_, _, rfl, rfl, _, pick_at _, hK⟩⟩
  · rw [List.nil_append]
    refine ⟨_, rfl, .inl ⟨_, rfl, rt_same ?_⟩⟩
    have e : (List.range m).map (fun i => encPart (pick4 (drawN num i % 4))) = ((List.range m).map fun i => pick4 (drawN num i % 4)).map encPart := by rw [List.map_map]; rfl
    rw [e]
    refine h _ ⟨by rw [List.length_map, List.length_range], fun v hv => ?_⟩
    obtain ⟨i, _, hi⟩ := List.mem_map.mp hv
    unfold pick4 at hi
    split at hi
    · exact .inl (Option.some.inj hi).symm
    · split at hi
      · exact .inr (Option.some.inj hi).symm
      · cases hi
/-! ### both_ways -/
/-- a sheet with one character known -/
def oneSh (m c v : Nat) : List (Option Nat) := (List.replicate m none).set c (some v)
theorem one_sheet {m c v : Nat} (hv : v = 0 ∨ v = 1) : Sheet m (oneSh m c v) := by
  unfold oneSh
  refine ⟨by rw [List.length_set, List.length_replicate], fun x hx => ?_⟩
  rcases List.mem_or_eq_of_mem_set hx with z | z
  · have := List.eq_of_mem_replicate z; cases this
  · cases z; exact hv
theorem one_len {m c v : Nat} : (oneSh m c v).length = m := by unfold oneSh; rw [List.length_set, List.length_replicate]
theorem over_one {m c v : Nat} {bs : List Nat} (hb : Bits m bs) : over (oneSh m c v) bs = bs.set c v := by
  have hlen : (oneSh m c v).length = m := one_len
  refine List.ext_getElem? fun j => ?_
  by_cases hj : j < m
  · obtain ⟨y, hb'⟩ : ∃ y, bs[j]? = some y := ⟨_, List.getElem?_eq_getElem (show j < bs.length by rw [hb.1]; exact hj)⟩
    have key : ∀ p : Option Nat, (oneSh m c v)[j]? = some p → (over (oneSh m c v) bs)[j]? = some (p.getD y) := fun p hp => by
      have hz : ((oneSh m c v).zip bs)[j]? = some (p, y) := List.getElem?_zip_eq_some.mpr ⟨hp, hb'⟩
      unfold over
      rw [List.getElem?_map, hz]; rfl
    by_cases e : c = j
    · subst e
      rw [key (some v) (by unfold oneSh; exact List.getElem?_set_self (by rw [List.length_replicate]; exact hj)), List.getElem?_set_self (by rw [hb.1]; exact hj)]
      rfl
    · rw [key none (by unfold oneSh; rw [List.getElem?_set_ne e, List.getElem?_replicate, if_pos hj]), List.getElem?_set_ne e, hb']
      rfl
  · rw [List.getElem?_eq_none (by unfold over; rw [List.length_map, List.length_zip, hlen]; omega), List.getElem?_eq_none (by rw [List.length_set, hb.1]; omega)]
theorem rep_none : ∀ m : Nat, (List.replicate m [PyData.none]).flatten = (List.replicate m (none : Option Nat)).map encPart
  | 0 => rfl
  | m + 1 => by rw [List.replicate_succ, List.flatten_cons, rep_none m, List.replicate_succ]; rfl
def t_ways_turn (C : Addr) : TDs := (dSeq (dSet 5 (dRepOwn (dLst (daCons (dC .none) daNil)) (dCB lenP (daCons (dVar 2) daNil))))
  (dSeq (dAsg (dVar 4) (gdSubL (dVar 5) (dVar 1)))
  (dExpr (dAppend (dVar 3) (daCons (dCall (sp_known C) (daCons (dVar 0) (daCons (dCB tupleP (daCons (dVar 5) daNil)) (daCons (dVar 2) daNil)))) daNil)))))
def t_both_ways (C : Addr) : TDs := (dSeq (dSet 3 (dOwn daNil))
  (dSeq (dFor (diTup (dTup (daCons (dC (.int 0)) (daCons (dC (.int 1)) daNil)))) (gdName 4) (t_ways_turn C))
  (dRet (dVar 3))))
def sp_both_ways : DSp := fun ds M k => ∃ (m : Nat) (ord : List Nat) (c : Nat) (t : Tr), ds = [.dat (encF t), .dat (.int ((c : Nat) : Int)), .dat (ordD (nz ord))] ∧ ord.Perm (List.range m) ∧ m ≤ 10 ∧ c < m ∧ Ordd ord t ∧
  ∀ u0 u1, Kn (oneSh m c 0) t u0 → Kn (oneSh m c 1) t u1 → k (.dat (.list [encF u0, encF u1])) M
theorem ways_turn {C : Addr} {De : DEnds} {m : Nat} {ord : List Nat} {c v : Nat} {t : Tr} {M : MS} {a : Addr} {ds : List PyData} {x5 : Option DV} (hp : ord.Perm (List.range m)) (hm : m ≤ 10) (hc : c < m) (ho : Ordd ord t) (hv : v = 0 ∨ v = 1) (ha : M a = some (.lst ds)) (hl : ds.length ≤ 5)
    (h : ∀ p u o, M p = none → Kn (oneSh m c v) t u → De.nx [some (.dat (encF t)), some (.dat (.int ((c : Nat) : Int))), some (.dat (ordD (nz ord))), some (.ref a), some (.dat (.int ((v : Nat) : Int))), some (.ref p)] (setM (setM M p o) a (.lst (ds ++ [encF u])))) :
    t_ways_turn C De [some (.dat (encF t)), some (.dat (.int ((c : Nat) : Int))), some (.dat (ordD (nz ord))), some (.ref a), some (.dat (.int ((v : Nat) : Int))), x5] M := by
  have hlen : (((nz ord).map PyData.int).length : Nat) = m := by rw [nz_ixs, ints_len, perm_len hp]
  refine ⟨_, rfl, szb rfl, _, rfl, _, .tuple ((nz ord).map PyData.int), _, rfl, rfl, rfl, [.none], _, rfl, rfl, by rw [hlen]; omega, by rw [hlen]; omega, by rw [hlen, Int.toNat_natCast]; exact szm (by rw [List.length_singleton]; omega), fun p hp' => ?_⟩
  have ap : a ≠ p := fun e => by subst e; rw [ha] at hp'; cases hp'
  rw [hlen, Int.toNat_natCast]
  rw [rep_none]
  have hix : ixN ((List.replicate m (none : Option Nat)).map encPart).length ((c : Nat) : Int) = some c := by
    rw [List.length_map, List.length_replicate]
    unfold ixN
    rw [if_pos (by omega), if_pos (by omega), Int.toNat_natCast]
  refine ⟨_, rfl, _, rfl, _, rfl, p, _, _, c, _, rfl, rfl, rfl, setM_same, hix, ?_⟩
  rw [setM_set]
  have es : ((List.replicate m (none : Option Nat)).map encPart).set c (.int ((v : Nat) : Int)) = (oneSh m c v).map encPart := by
    unfold oneSh
    rw [List.map_set]; rfl
  rw [es]
  refine ⟨_, rfl, a, ds, rfl, (setM_ne ap).trans ha, ?_⟩
  refine ⟨_, rfl, _, rfl, _, rfl, .inl ⟨(oneSh m c v).map encPart, by show (ownL _ p).map _ = _; rw [ownL_mk setM_same]; rfl, ?_⟩⟩
  refine ⟨_, rfl, ord, oneSh m c v, t, rfl, by rw [perm_len hp]; exact hm, ho, by rw [one_len]; exact ordd_lt hp ho, by rw [one_len]; exact one_sheet hv, fun u hu => ?_⟩
  exact ⟨_, _, rfl, (setM_ne ap).trans ha, slt (by omega), h p u _ hp' hu⟩
theorem rd_both_ways (C : Addr) : ∀ ds M k, sp_both_ways ds M k → t_both_ways C (rtE k) (startD ["fold", "character", "order", "found", "value", "sheet"] ds) M := by
  rintro _ M k ⟨m, ord, c, t, rfl, hp, hm, hc, ho, h⟩
  refine ⟨[], rfl, szb rfl, fun a ha => ?_⟩
  refine ⟨_, rfl, szb rfl, _, rfl, ?_⟩
  refine ⟨True.intro, ways_turn (v := 0) hp hm hc ho (.inl rfl) setM_same (by decide) fun p u0 o hpn k0 => ?_⟩
  have ap : a ≠ p := fun e => by subst e; rw [setM_same] at hpn; cases hpn
  have mp : M p = none := by rw [setM_ne (Ne.symm ap)] at hpn; exact hpn
  refine ⟨True.intro, ways_turn (v := 1) hp hm hc ho (.inr rfl) setM_same (by simp) fun p' u1 o' hpn' k1 => ?_⟩
  have ap' : a ≠ p' := fun e => by subst e; rw [setM_same] at hpn'; cases hpn'
  have mp' : M p' = none := by
    rw [setM_ne (Ne.symm ap')] at hpn'
    by_cases e : p' = p
    · subst e; rw [setM_same] at hpn'; cases hpn'
    · rw [setM_ne e, setM_ne (Ne.symm ap')] at hpn'; exact hpn'
  refine ⟨True.intro, _, rfl, .dat (.list [encF u0, encF u1]), M, ⟨fun b ob hb => ?_, .inr ⟨a, _, rfl, setM_same, ha, rfl⟩⟩, h u0 u1 k0 k1⟩
  have n1 : b ≠ a := fun e => by subst e; rw [ha] at hb; cases hb
  have n2 : b ≠ p := fun e => by subst e; rw [mp] at hb; cases hb
  have n3 : b ≠ p' := fun e => by subst e; rw [mp'] at hb; cases hb
  rw [setM_ne n1, setM_ne n3, setM_ne n1, setM_ne n2, setM_ne n1]
  exact hb
/-! ### forgotten, always -/
/-- what two ways come to -/
def Wy (ord : List Nat) (pl : List Str) (r : Rule) (m c : Nat) (t u : Tr) : Prop := ∃ u0 u1, Kn (oneSh m c 0) t u0 ∧ Kn (oneSh m c 1) t u1 ∧ Pr ord pl r u0 u1 u
theorem Kn.gt {ord : List Nat} {pl : List Str} {sh : List (Option Nat)} {t u : Tr} (s : Kn sh t u) (g : Gt ord pl t) : Gt ord pl u := ⟨(s.ordd g.ord).1, s.allL g.nm⟩
theorem Wy.gt {ord : List Nat} {pl : List Str} {r : Rule} {m c : Nat} {t u : Tr} (nd : ord.Nodup) (s : Wy ord pl r m c t u) (g : Gt ord pl t) : Gt ord pl u := let ⟨_, _, k0, k1, p⟩ := s; p.gt nd (k0.gt g) (k1.gt g)
theorem Wy.ans {ord : List Nat} {pl : List Str} {r : Rule} {m c : Nat} {t u : Tr} (s : Wy ord pl r m c t u) {bs : List Nat} (hb : Bits m bs) : Nb pl r (t.ans (bs.set c 0)) (t.ans (bs.set c 1)) (u.ans bs) := by
  obtain ⟨u0, u1, k0, k1, p⟩ := s
  have := p.ans bs
  rw [k0.ans bs (by rw [one_len, hb.1]), k1.ans bs (by rw [one_len, hb.1]), over_one hb, over_one hb] at this
  exact this
def t_two_ways (r : Rule) : TDs := (dSeq (dAsg (dCall sp_both_ways (daCons (dVar 0) (daCons (dVar 1) (daCons (dVar 2) daNil)))) (gdLst 2 (gdCons (gdName 3) (gdCons (gdName 4) gdNil))))
  (dRet (dCall (sp_pair2 r) (daCons (dVar 3) (daCons (dVar 4) (daCons (dVar 2) daNil))))))
def sp_two_ways (r : Rule) : DSp := fun ds M k => ∃ (m : Nat) (ord : List Nat) (pl : List Str) (c : Nat) (t : Tr), ds = [.dat (encF t), .dat (.int ((c : Nat) : Int)), .dat (ordD (nz ord))] ∧ ord.Perm (List.range m) ∧ m ≤ 10 ∧ c < m ∧ Pool pl ∧ Gt ord pl t ∧ ∀ u, Wy ord pl r m c t u → k (.dat (encF u)) M
abbrev sp_forgotten : DSp := sp_two_ways .join
abbrev sp_always : DSp := sp_two_ways .meet
theorem rd_two_ways (r : Rule) : ∀ ds M k, sp_two_ways r ds M k → t_two_ways r (rtE k) (startD ["fold", "character", "order", "no", "yes"] ds) M := by
  rintro _ M k ⟨m, ord, pl, c, t, rfl, hp, hm, hc, pp, g, h⟩
  refine ⟨_, rfl, _, rfl, _, rfl, m, ord, c, t, rfl, hp, hm, hc, g.ord, fun u0 u1 k0 k1 => ?_⟩
  refine ⟨_, rfl, rfl, _, _, rfl, _, _, rfl, rfl, ?_⟩
  have g0 := k0.gt g
  have g1 := k1.gt g
  exact ⟨_, rfl, _, rfl, _, rfl, ord, pl, u0, u1, rfl, perm_nd hp, by rw [perm_len hp]; exact hm, g0.ord, g1.ord, pp, g0.nm, g1.nm, fun u hu => rt_same (h u ⟨u0, u1, k0, k1, hu⟩)⟩
theorem rd_forgotten : ∀ ds M k, sp_forgotten ds M k → t_two_ways .join (rtE k) (startD ["fold", "character", "order", "no", "yes"] ds) M := rd_two_ways .join
theorem rd_always : ∀ ds M k, sp_always ds M k → t_two_ways .meet (rtE k) (startD ["fold", "character", "order", "no", "yes"] ds) M := rd_two_ways .meet
end Ks

/-! Ks: the law of known, forgotten, always. -/
namespace Ks
open PySem PySem.Spec PyProof.Rows L2 Kf

theorem set_same {bs : List Nat} {c v : Nat} (h : bs[c]? = some v) : bs.set c v = bs := by
  obtain ⟨h1, h2⟩ := List.getElem?_eq_some_iff.mp h
  subst h2
  exact List.set_getElem_self h1
theorem set_cut {bs : List Nat} {c v : Nat} (h : c < bs.length) : bs.set c v = bs.take c ++ [v] ++ bs.drop (c + 1) := by
  rw [List.set_eq_take_append_cons_drop, if_pos h, List.append_assoc]; rfl
theorem over_bits {m : Nat} {sh : List (Option Nat)} {bs : List Nat} (hs : Sheet m sh) (hb : Bits m bs) : Bits m (over sh bs) := by
  unfold over
  refine ⟨by rw [List.length_map, List.length_zip, hs.1, hb.1, Nat.min_self], fun b h => ?_⟩
  obtain ⟨p, hp, rfl⟩ := List.mem_map.mp h
  obtain ⟨h1, h2⟩ := List.of_mem_zip hp
  obtain ⟨o, y⟩ := p
  cases o with
  | none => exact hb.2 y h2
  | some v => exact hs.2 v h1
theorem range_getD {m : Nat} {l : List Nat} (h : l.length = m) : (List.range m).map (fun k => PyData.int ((l.getD k 0 : Nat) : Int)) = l.map fun b => PyData.int ((b : Nat) : Int) := by
  refine List.ext_getElem? fun j => ?_
  rw [List.getElem?_map, List.getElem?_map]
  by_cases hj : j < m
  · rw [List.getElem?_range hj, List.getElem?_eq_getElem (show j < l.length by omega)]
    show some (PyData.int ((l.getD j 0 : Nat) : Int)) = _
    rw [List.getD_eq_getElem?_getD, List.getElem?_eq_getElem (show j < l.length by omega)]; rfl
  · rw [List.getElem?_eq_none (by rw [List.length_range]; omega), List.getElem?_eq_none (show l.length ≤ j by omega)]; rfl
theorem nb_swapJ {pl a b c : List Str} (h : Nb pl .join a b c) : Nb pl .join b a c := ⟨h.nm, fun x => (h.mem x).trans Or.comm⟩
theorem nb_swapM {pl a b c : List Str} (h : Nb pl .meet a b c) : Nb pl .meet b a c := ⟨h.nm, fun x => (h.mem x).trans And.comm⟩
/-- a thing and the other way of a character -/
theorem ways_of {m : Nat} {bs : List Nat} (hb : Bits m bs) {c v : Nat} (hc : bs[c]? = some v) {P : List Nat → List Nat → Prop} (sw : ∀ a b, P a b → P b a) (h : P (bs.set c 0) (bs.set c 1)) : P bs (bs.set c (1 - v)) := by
  have hv := hb.2 v (List.mem_of_getElem? hc)
  rcases hv with rfl | rfl
  · rw [set_same hc] at h; exact h
  · rw [set_same (v := 1) hc] at h; exact sw _ _ h
def t_k22_seen : TD := (dLc (diRange1 (daCons (dVar 1) daNil)) (.one 16) dYes (dIfE (dB (dOp (opR (isV id)) (dOp (opV ixV) (dVar 6) (dVar 16)) (dC .none))) (dOp (opV ixV) (dVar 9) (dVar 16)) (dOp (opV ixV) (dVar 6) (dVar 16))))
def t_k22_turn : TDs := (dSeq (dSet 10 (dCB tupleP (daCons t_k22_seen daNil)))
  (dSeq (dSet 11 (dOp (opV addV) (dOp (opV addV) (dSl (dVar 9) doNone (doSome (dVar 7))) (dTup (daCons (dOp (opV subV) (dC (.int 1)) (dOp (opV ixV) (dVar 9) (dVar 7))) daNil))) (dSl (dVar 9) (doSome (dOp (opV addV) (dVar 7) (dC (.int 1)))) doNone)))
  (dSeq (dSet 12 (dCall (sp_L_answer 12) (daCons (dVar 3) (daCons (dVar 9) daNil))))
  (dSeq (dSet 13 (dCall (sp_L_answer 12) (daCons (dVar 3) (daCons (dVar 11) daNil))))
  (dSeq (dSet 14 (dLst (daCons (dCall (sp_L_answer 12) (daCons (dVar 3) (daCons (dVar 10) daNil))) (daCons (dCall sp_L_union (daCons (dVar 12) (daCons (dVar 13) daNil))) (daCons (dCB tupleP (daCons (dLc (diTup (dVar 12)) (.one 17) (dB (dOp (opR (inV2 id)) (dVar 17) (dVar 13))) (dVar 17)) daNil)) daNil)))))
  (dIf (dB (dOp (opR neV2) (dLc (diSeq (dVar 8)) (.one 15) dYes (dCall sp_answer_of (daCons (dVar 15) (daCons (dVar 9) daNil)))) (dVar 14))) (dRet (dC (.bool false))) dNext))))))
def t_law_k22 (C : Addr) : TDs := (dSeq (dAsg (dCall sp_L_made (daCons (dVar 0) (daCons (dC (.int 6)) daNil))) (gdTup 4 (gdCons (gdName 1) (gdCons (gdName 2) (gdCons (gdName 3) (gdCons (gdName 4) gdNil))))))
  (dSeq (dSet 5 (dCall (sp_folded C 12) (daCons (dVar 3) (daCons (dVar 4) daNil))))
  (dSeq (dSet 6 (dCall sp_L_sheet (daCons (dCall sp_L_mixed (daCons (dVar 0) (daCons (dC (.int 5)) daNil))) (daCons (dVar 1) daNil))))
  (dSeq (dSet 7 (dOp (opV modI) (dCall sp_L_mixed (daCons (dVar 0) (daCons (dC (.int 6)) daNil))) (dVar 1)))
  (dSeq (dSet 8 (dLst (daCons (dCall (sp_known C) (daCons (dVar 5) (daCons (dVar 6) (daCons (dVar 4) daNil)))) (daCons (dCall sp_forgotten (daCons (dVar 5) (daCons (dVar 7) (daCons (dVar 4) daNil)))) (daCons (dCall sp_always (daCons (dVar 5) (daCons (dVar 7) (daCons (dVar 4) daNil)))) daNil)))))
  (dSeq (dIf (dB (dOp (opR neV2) (dLc (diSeq (dVar 8)) (.one 15) (dNot (dB (dCall sp_L_is_fold (daCons (dVar 15) (daCons (dVar 4) daNil))))) (dVar 15)) (dLst daNil))) (dRet (dC (.bool false))) dNext)
  (dSeq (dFor (diSeq (dCall sp_L_things (daCons (dVar 1) daNil))) (gdName 9) t_k22_turn)
  (dRet (dOp (opR eqV2) (dVar 5) (dCall (sp_folded C 12) (daCons (dVar 3) (daCons (dVar 4) daNil))))))))))))
theorem sheet_at {m : Nat} {sh : List (Option Nat)} (hs : Sheet m sh) {k : Nat} (hk : k < m) : ∃ p, sh[k]? = some p := ⟨_, List.getElem?_eq_getElem (by rw [hs.1]; exact hk)⟩
theorem k22_things {De : DEnds} {x0 x2 x4 x5 : Option DV} {m c : Nat} {ws : List Str} {sh : List (Option Nat)} {key u v w : Tr} (hm : m ≤ 1000) (hw : WsOk ws) (hc : c < m) (hs : Sheet m sh) (hk : CharLt m key) (hd : key.depth ≤ 12) (na : key.allL (Names ws))
    (hu : ∀ bs, Bits m bs → u.ans bs = key.ans (over sh bs)) (hv : ∀ bs, Bits m bs → Nb ws .join (key.ans (bs.set c 0)) (key.ans (bs.set c 1)) (v.ans bs)) (hx : ∀ bs, Bits m bs → Nb ws .meet (key.ans (bs.set c 0)) (key.ans (bs.set c 1)) (w.ans bs)) (lu : CharLt m u) (lv : CharLt m v) (lw : CharLt m w) : ∀ (l : List (List Nat)) (M : MS) (x9 x10 x11 x12 x13 x14 x15 x16 x17 : Option DV), (∀ bs, bs ∈ l → Bits m bs) →
    (∀ M' y9 y10 y11 y12 y13 y14 y15 y16 y17, De.nx [x0, some (.dat (.int ((m : Nat) : Int))), x2, some (.dat (encKey key)), x4, x5, some (.dat (encSheet sh)), some (.dat (.int ((c : Nat) : Int))), some (.dat (.list [encF u, encF v, encF w])), y9, y10, y11, y12, y13, y14, y15, y16, y17] M') →
    forD (gdName 9) t_k22_turn De none (l.map encBits) [x0, some (.dat (.int ((m : Nat) : Int))), x2, some (.dat (encKey key)), x4, x5, some (.dat (encSheet sh)), some (.dat (.int ((c : Nat) : Int))), some (.dat (.list [encF u, encF v, encF w])), x9, x10, x11, x12, x13, x14, x15, x16, x17] M
  | [], M, x9, x10, x11, x12, x13, x14, x15, x16, x17, _, h => ⟨True.intro, h M x9 x10 x11 x12 x13 x14 x15 x16 x17⟩
  | bs :: l, M, x9, x10, x11, x12, x13, x14, x15, x16, x17, hb, h => by
    have hb1 := hb bs List.mem_cons_self
    have pp := ws_pool hw
    have lp := pp.few
    have ho := over_bits hs hb1
    obtain ⟨y, hy, hy01, _⟩ := hb1.at hc
    have hlen : bs.length = m := hb1.1
    have hfl : Bits m (bs.set c (1 - y)) := hb1.set (by omega)
    have n1 : Names ws (key.ans bs) := allL_ans na
    have n2 : Names ws (key.ans (bs.set c (1 - y))) := allL_ans na
    have l1 := n1.len
    refine ⟨True.intro, _, rfl, _, rfl, ⟨by omega, by omega⟩, ?_⟩
    show compD _ _ _ _ _ (rangeD 0 (((m : Nat) : Int).toNat)) _ _ _
    rw [Int.toNat_natCast, range_nat]
    refine map_gen (enc := fun i : Nat => .int ((i : Nat) : Int)) (f := fun i => .int (((over sh bs).getD i 0 : Nat) : Int)) (List.range m) [] (fun i hi K hK => ?_) (by rw [List.length_nil, List.length_range]; omega) ?_
    · have him := List.mem_range.mp hi
      obtain ⟨p, hp⟩ := sheet_at hs him
      obtain ⟨z, hz, _, hz2⟩ := hb1.at him
      have hov := over_at hp (show sh.length = bs.length by rw [hs.1, hlen])
      rw [hov, hz2] at hK
      refine ⟨_, rfl, _, rfl, _, _, rfl, rfl, _, sheet_ix hp, ?_⟩
      cases p with
      | none => exact ⟨_, _, rfl, rfl, rfl, _, rfl, if_t rfl ⟨_, rfl, _, rfl, _, _, rfl, rfl, _, bits_ix hz, hK⟩⟩
      | some v => exact ⟨_, _, rfl, rfl, rfl, _, rfl, if_f rfl ⟨_, rfl, _, rfl, _, _, rfl, rfl, _, sheet_ix hp, hK⟩⟩
    rw [List.nil_append, range_getD ho.1]
    refine ⟨_, rfl, .inl ⟨_, rfl, ?_⟩⟩
    have hle : c ≤ (bs.map fun b => PyData.int ((b : Nat) : Int)).length := by rw [List.length_map]; omega
    have hle2 : c + 1 ≤ (bs.map fun b => PyData.int ((b : Nat) : Int)).length := by rw [List.length_map]; omega
    have c1 : cutL (bs.map fun b => PyData.int ((b : Nat) : Int)) none (some ((c : Nat) : Int)) = (bs.take c).map fun b => PyData.int ((b : Nat) : Int) := by rw [cut_to hle, List.map_take]
    have c2 : cutL (bs.map fun b => PyData.int ((b : Nat) : Int)) (some (((c : Nat) : Int) + 1)) none = (bs.drop (c + 1)).map fun b => PyData.int ((b : Nat) : Int) := by rw [List.map_drop]; exact cut_from (j := c + 1) hle2
    refine ⟨_, rfl, _, rfl, _, rfl, _, rfl, slT c1 ?_⟩
    refine ⟨_, rfl, _, rfl, _, _, rfl, rfl, _, bits_ix hy, _, _, rfl, rfl, subN (j := ((1 - y : Nat) : Int)) (by omega) ⟨_, rfl, szb rfl, _, _, rfl, rfl, szm (by rw [List.length_map, List.length_take, List.length_singleton]; omega), ?_⟩⟩
    refine ⟨_, rfl, _, rfl, _, _, rfl, rfl, _, rfl, _, rfl, slT c2 ⟨_, _, rfl, rfl, szm (by rw [List.length_append, List.length_map, List.length_take, List.length_map, List.length_drop, List.length_singleton]; omega), ?_⟩⟩
    have ef : (bs.take c).map (fun b => PyData.int ((b : Nat) : Int)) ++ [PyData.int ((1 - y : Nat) : Int)] ++ (bs.drop (c + 1)).map (fun b => PyData.int ((b : Nat) : Int)) = (bs.set c (1 - y)).map fun b => PyData.int ((b : Nat) : Int) := by
      rw [set_cut (show c < bs.length by omega), List.map_append, List.map_append]; rfl
    rw [ef]
    refine ⟨_, rfl, _, rfl, m, key, bs, rfl, hb1, hk, hd, ?_⟩
    refine ⟨_, rfl, _, rfl, m, key, bs.set c (1 - y), rfl, hfl, hk, hd, ?_⟩
    refine ⟨_, rfl, _, rfl, m, key, over sh bs, rfl, ho, hk, hd, ?_⟩
    refine ⟨_, rfl, _, rfl, ws, _, _, rfl, pp, n1, n2, fun cu hcu => ?_⟩
    refine ⟨_, rfl, (key.ans bs).map PyData.str, rfl, ?_⟩
    refine flt_gen (enc := PyData.str) (p := fun x => decide (x ∈ key.ans (bs.set c (1 - y)))) rfl (key.ans bs) [] (fun x hx K hK => ⟨_, rfl, _, rfl, in_names ⟨_, rfl, hK⟩⟩) (by rw [List.length_nil]; omega) ?_
    refine ⟨_, rfl, .inl ⟨_, rfl, ?_⟩⟩
    refine ⟨_, rfl, szb rfl, ?_⟩
    refine ⟨_, rfl, .inl ⟨[encF u, encF v, encF w], rfl, ?_⟩⟩
    have cl : ∀ t : Tr, (t = u ∨ t = v ∨ t = w) → CharLt m t := fun t ht => by rcases ht with rfl | rfl | rfl <;> assumption
    refine map_gen (enc := encF) (f := fun t => encNames (t.ans bs)) [u, v, w] [] (fun t ht K hK => ⟨_, rfl, _, rfl, m, foldOf t, t, bs, rfl, den_fold t, hb1, cl t (by simpa using ht), hK⟩) (by simp) ?_
    have w1 : Nb ws .join (key.ans bs) (key.ans (bs.set c (1 - y))) (v.ans bs) := ways_of hb1 hy (P := fun a b => Nb ws .join (key.ans a) (key.ans b) (v.ans bs)) (fun _ _ => nb_swapJ) (hv bs hb1)
    have w2 : Nb ws .meet (key.ans bs) (key.ans (bs.set c (1 - y))) (w.ans bs) := ways_of hb1 hy (P := fun a b => Nb ws .meet (key.ans a) (key.ans b) (w.ans bs)) (fun _ _ => nb_swapM) (hx bs hb1)
    have e1 : v.ans bs = cu := nb_fn w1 hcu
    have e2 : w.ans bs = (key.ans bs).filter fun x => decide (x ∈ key.ans (bs.set c (1 - y))) := nb_fn w2 (nb_filter n1 fun x => by show _ ∧ decide _ = true ↔ _ ∧ _; simp)
    have hs' : ∀ {ns}, Names ws ns → StrsOk ns := fun hn x hx => pp.ok x (hn.sub x hx)
    have ok : ∀ ns, ns ∈ [u.ans bs, v.ans bs, w.ans bs] → StrsOk ns := fun ns hns => by
      simp only [List.mem_cons, List.not_mem_nil, or_false] at hns
      rcases hns with rfl | rfl | rfl
      · rw [hu bs hb1]; exact hs' (allL_ans na)
      · exact hs' w1.nm
      · exact hs' w2.nm
    refine ⟨_, rfl, ne_lists (a := [u.ans bs, v.ans bs, w.ans bs]) (b := [key.ans (over sh bs), cu, _]) ok (by rw [hu bs hb1, e1, e2]; rfl) rfl ⟨_, rfl, if_f rfl ?_⟩⟩
    exact k22_things hm hw hc hs hk hd na hu hv hx lu lv lw l _ _ _ _ _ _ _ _ _ _ (fun b q => hb b (List.mem_cons_of_mem _ q)) h
theorem rd_k22 (C : Addr) : ∀ ds M k, spLaw ds M k → t_law_k22 C (rtE k) (startD ["_law_script", "_law_many", "_law_words_here", "_law_key_here", "_law_order_here", "_law_fold", "_law_sheet_here", "_law_character", "_law_found", "_law_thing", "_law_seen", "_law_other", "_law_ones", "_law_others", "_law_due", "_law_one", "_law_k", "_law_name"] ds) M := by
  rintro _ M k ⟨ns, rfl, hn, rfl, h⟩
  refine ⟨_, rfl, ns, 6, rfl, by decide, by decide, fun m ws key ord hm hm6 hw hc hk hd ho => ?_⟩
  refine ⟨_, rfl, rfl, _, _, rfl, _, _, rfl, _, _, rfl, _, _, rfl, rfl, ?_⟩
  have nd := perm_nd ho
  have hl : ord.length ≤ 10 := by rw [perm_len ho]; omega
  have pp := ws_pool hw
  refine ⟨_, rfl, _, rfl, ord, key, rfl, nd, hl, key_in ho hc, by omega, fun one f1 => ?_⟩
  have g1 : Gt ord ws one := ⟨f1.ordd nd (key_in ho hc), f1.allL (names_in hw hk)⟩
  refine ⟨_, rfl, ns, 5, rfl, _, rfl, _, m, rfl, by omega, fun sh hs => ?_⟩
  refine ⟨_, rfl, ns, 6, rfl, _, rfl, _, _, rfl, rfl, modq hm ?_⟩
  have hcm := Nat.mod_lt (mixN ns 6) hm
  generalize mixN ns 6 % m = c at hcm ⊢
  have cl1 := ordd_lt ho g1.ord
  refine ⟨_, rfl, _, rfl, _, rfl, ord, sh, one, rfl, hl, g1.ord, by rw [hs.1]; exact cl1, by rw [hs.1]; exact hs, fun u hu => ?_⟩
  refine ⟨_, rfl, _, rfl, _, rfl, m, ord, ws, c, one, rfl, ho, by omega, hcm, pp, g1, fun v hv => ?_⟩
  refine ⟨_, rfl, _, rfl, _, rfl, m, ord, ws, c, one, rfl, ho, by omega, hcm, pp, g1, fun w hx => ?_⟩
  refine ⟨_, rfl, szb rfl, ?_⟩
  have gu := hu.gt g1
  have gv := hv.gt nd g1
  have gw := hx.gt nd g1
  have mem3 : ∀ {P : Tr → Prop}, P u → P v → P w → ∀ t, t ∈ [u, v, w] → P t := fun hu hv hw t ht => by
    simp only [List.mem_cons, List.not_mem_nil, or_false] at ht
    rcases ht with rfl | rfl | rfl <;> assumption
  refine ⟨_, rfl, .inl ⟨[encF u, encF v, encF w], rfl, ?_⟩⟩
  refine all_folds (ts := [u, v, w]) ho (by omega) (mem3 gu.ord gv.ord gw.ord) (mem3 (allL_mono (fun _ => nmF_of hw) gu.nm) (allL_mono (fun _ => nmF_of hw) gv.nm) (allL_mono (fun _ => nmF_of hw) gw.nm)) rfl (fun t => ⟨rfl, rfl⟩) (by simp) ?_
  refine ⟨[], rfl, szb rfl, ne_nil ⟨_, rfl, if_f rfl ?_⟩⟩
  refine ⟨_, rfl, m, rfl, hm, by omega, .inl ⟨_, rfl, ?_⟩⟩
  refine k22_things (by omega) hw hcm hs hc (by omega) (names_in hw hk) (fun bs hb => by rw [hu.ans bs (by rw [hs.1, hb.1]), f1.ans]) (fun bs hb => by have := hv.ans hb; rw [f1.ans, f1.ans] at this; exact this) (fun bs hb => by have := hx.ans hb; rw [f1.ans, f1.ans] at this; exact this) (ordd_lt ho gu.ord) (ordd_lt ho gv.ord) (ordd_lt ho gw.ord) (allT m) _ _ _ _ _ _ _ _ _ _ (fun bs hb => (mem_allT m bs).mp hb) fun M' y9 y10 y11 y12 y13 y14 y15 y16 y17 => ?_
  refine ⟨_, rfl, _, rfl, _, rfl, ord, key, rfl, nd, hl, key_in ho hc, by omega, fun one' f1' => ?_⟩
  have e1 := Fo.fn ho (key_in ho hc) f1' f1
  subst e1
  exact eq_f (strs_of pp g1.nm) (rt_sub (sub_nil _) h)
end Ks

/-! Ks: what can be come to: leaves_from, leaves. -/
namespace Ks
open PySem PySem.Spec PyProof.Rows L2 Kf

/-- whether a character may have a value -/
def may (sh : List (Option Nat)) (c v : Nat) : Prop := sh[c]? = some none ∨ sh[c]? = some (some v)
/-- what can be come to -/
inductive Su (sh : List (Option Nat)) : Tr → Tr → Prop
  | refl {t} : Su sh t t
  | no {c a b u} : may sh c 0 → Su sh a u → Su sh (.node c a b) u
  | yes {c a b u} : may sh c 1 → Su sh b u → Su sh (.node c a b) u
/-- a thing agrees -/
def Agr (sh : List (Option Nat)) (bs : List Nat) : Prop := ∀ (i v : Nat), sh[i]? = some (some v) → bs[i]? = some v
theorem may_of {m : Nat} {sh : List (Option Nat)} {bs : List Nat} {c v : Nat} (hs : Sheet m sh) (ha : Agr sh bs) (hb : bs[c]? = some v) (hc : c < m) : may sh c v := by
  obtain ⟨p, hp⟩ := sheet_at hs hc
  cases p with
  | none => exact .inl hp
  | some w =>
    have := ha c w hp
    rw [hb] at this
    cases this
    exact .inr hp
theorem Agr.set {m : Nat} {sh : List (Option Nat)} {bs : List Nat} {c v : Nat} (hb : Bits m bs) (hc : c < m) (ha : Agr sh bs) (h : may sh c v) : Agr sh (bs.set c v) := fun i w hw => by
  by_cases e : c = i
  · subst e
    rcases h with h | h
    · rw [h] at hw; cases hw
    · rw [h] at hw; cases hw
      exact List.getElem?_set_self (by rw [hb.1]; exact hc)
  · rw [List.getElem?_set_ne e]; exact ha i w hw
theorem agr_some {m : Nat} {sh : List (Option Nat)} (hs : Sheet m sh) : ∃ bs, Bits m bs ∧ Agr sh bs := by
  refine ⟨sh.map fun p => p.getD 0, ⟨by rw [List.length_map]; exact hs.1, fun b hb => ?_⟩, fun i v hv => by rw [List.getElem?_map, hv]; rfl⟩
  obtain ⟨p, hp, rfl⟩ := List.mem_map.mp hb
  cases p with
  | none => exact .inl rfl
  | some v => exact hs.2 v hp
theorem su_ans {m : Nat} {ord : List Nat} {sh : List (Option Nat)} (hs : Sheet m sh) {t u : Tr} (h : Su sh t u) : ∀ ns, u = .leaf ns → Ordd ord t → CharLt m t → ∃ bs, Bits m bs ∧ Agr sh bs ∧ t.ans bs = ns := by
  induction h with
  | refl =>
    rintro ns rfl _ _
    obtain ⟨bs, b1, b2⟩ := agr_some hs
    exact ⟨bs, b1, b2, rfl⟩
  | @no c a b u hm _ ih =>
    intro ns e ho hc
    obtain ⟨bs, b1, b2, b3⟩ := ih ns e ho.2.2.2.2.1 hc.2.1
    refine ⟨bs.set c 0, b1.set (.inl rfl), b2.set b1 hc.1 hm, ?_⟩
    rw [ans_node, if_pos (getD_same b1 hc.1), ans_set ho.2.2.2.2.1 ho.2.1]
    exact b3
  | @yes c a b u hm _ ih =>
    intro ns e ho hc
    obtain ⟨bs, b1, b2, b3⟩ := ih ns e ho.2.2.2.2.2 hc.2.2
    refine ⟨bs.set c 1, b1.set (.inr rfl), b2.set b1 hc.1 hm, ?_⟩
    rw [ans_node, if_neg (by rw [getD_same b1 hc.1]; decide), ans_set ho.2.2.2.2.2 ho.2.2.1]
    exact b3
theorem ans_su {m : Nat} {sh : List (Option Nat)} (hs : Sheet m sh) {bs : List Nat} (hb : Bits m bs) (ha : Agr sh bs) : ∀ {t : Tr}, CharLt m t → Su sh t (.leaf (t.ans bs))
  | .leaf ns, _ => .refl
  | .node c a b, hc => by
    obtain ⟨v, hv, hv01, hg⟩ := hb.at hc.1
    rw [ans_node]
    rcases hv01 with rfl | rfl
    · rw [if_pos hg]
      exact .no (may_of hs ha hv hc.1) (ans_su hs hb ha hc.2.1)
    · rw [if_neg (by rw [hg]; decide)]
      exact .yes (may_of hs ha hv hc.1) (ans_su hs hb ha hc.2.2)
/-- the names that can be come to -/
def Rc (sh : List (Option Nat)) (t : Tr) (ns : List Str) : Prop := Su sh t (.leaf ns)
theorem rc_iff {m : Nat} {ord : List Nat} {sh : List (Option Nat)} (hs : Sheet m sh) {t : Tr} (ho : Ordd ord t) (hc : CharLt m t) (ns : List Str) : Rc sh t ns ↔ ∃ bs, Bits m bs ∧ Agr sh bs ∧ t.ans bs = ns :=
  ⟨fun h => su_ans hs h ns rfl ho hc, fun ⟨bs, b1, b2, b3⟩ => by rw [← b3]; exact ans_su hs b1 b2 hc⟩
/-! ### rows met -/
def Shut (F : List Row) (sh : List (Option Nat)) (met : List Nat) (x : Nat) : Prop := ∀ c lo hi, F[x]? = some (.node c lo hi) → (may sh c 0 → lo ∈ met) ∧ (may sh c 1 → hi ∈ met)
theorem Shut.app {F : List Row} {sh : List (Option Nat)} {met new : List Nat} {x : Nat} (h : Shut F sh met x) : Shut F sh (met ++ new) x := fun c lo hi e => ⟨fun z => List.mem_append_left _ ((h c lo hi e).1 z), fun z => List.mem_append_left _ ((h c lo hi e).2 z)⟩
theorem shut_su {F : List Row} {sh : List (Option Nat)} {met : List Nat} (h : ∀ x, x ∈ met → Shut F sh met x) {t u : Tr} (s : Su sh t u) : ∀ i, i ∈ met → Den F i t → ∃ j, j ∈ met ∧ Den F j u := by
  induction s with
  | refl => exact fun i hi hd => ⟨i, hi, hd⟩
  | no hm _ ih =>
    intro i hi hd
    obtain ⟨x, y, er, h1, h2⟩ := hd.row_node
    exact ih x ((h i hi _ _ _ er).1 hm) h1
  | yes hm _ ih =>
    intro i hi hd
    obtain ⟨x, y, er, h1, h2⟩ := hd.row_node
    exact ih y ((h i hi _ _ _ er).2 hm) h2
def t_leaves_go (self : DSp) : TDs := (dIf (dOr (dB (dOp (opR (isV id)) (dOp (opV ixV) (dVar 1) (dOp (opV ixV) (dVar 4) (dC (.int 0)))) (dC .none))) (dB (dOp (opR eqV2) (dOp (opV ixV) (dVar 1) (dOp (opV ixV) (dVar 4) (dC (.int 0)))) (dVar 5)))) (dExpr (dCall self (daCons (dVar 0) (daCons (dVar 1) (daCons (dOp (opV ixV) (dVar 4) (dOp (opV addV) (dC (.int 1)) (dVar 5))) (daCons (dVar 3) daNil)))))) dNext)
def t_leaves_from (self : DSp) : TDs := (dSeq (dIf (dB (dOp (opR (inV2 id)) (dVar 2) (dVar 3))) dRetN dNext)
  (dSeq (dExpr (dAppend (dVar 3) (daCons (dVar 2) daNil)))
  (dSeq (dSet 4 (dOp (opV ixV) (dVar 0) (dVar 2)))
  (dIf (dNot (dB (dCall sp_is_leaf (daCons (dVar 4) daNil)))) (dFor (diTup (dTup (daCons (dC (.int 0)) (daCons (dC (.int 1)) daNil)))) (gdName 5) (t_leaves_go self)) dNext))))
/-- what is new among the rows met -/
structure New (F : List Row) (sh : List (Option Nat)) (t : Tr) (met new : List Nat) : Prop where
  come : ∀ x, x ∈ new → ∃ u, Den F x u ∧ Su sh t u
  shut : ∀ x, x ∈ new → Shut F sh (met ++ new) x
def sp_leaves_from (n : Nat) : DSp := fun ds M k => ∃ (F : List Row) (sh : List (Option Nat)) (i : Nat) (t : Tr) (r : Addr) (met : List Nat), ds = [.dat (encFold F), .dat (encSheet sh), .dat (.int ((i : Nat) : Int)), .ref r] ∧ Den F i t ∧ t.depth ≤ n ∧ CharLt sh.length t ∧ Sheet sh.length sh ∧
  M r = some (.lst (ixs met)) ∧ (∀ x, x ∈ met → ∀ u, Den F x u → u.size ≤ t.size → Shut F sh met x) ∧ met.Nodup ∧ (∀ x, x ∈ met → x < F.length) ∧ F.length ≤ 900000 ∧
  ∀ new, i ∈ met ++ new → New F sh t met new → (met ++ new).Nodup → (∀ x, x ∈ met ++ new → x < F.length) → k (.dat .none) (setM M r (.lst (ixs (met ++ new))))
theorem lt_len {l : List Nat} {n : Nat} (nd : l.Nodup) (h : ∀ x, x ∈ l → x < n) : l.length ≤ n := by
  have := nodup_len l (List.range n) nd fun x hx => List.mem_range.mpr (h x hx)
  rwa [List.length_range] at this
theorem den_lt {F : List Row} {i : Nat} {t : Tr} (h : Den F i t) : i < F.length := by
  obtain ⟨row, e, _⟩ := h.row
  exact (List.getElem?_eq_some_iff.mp e).1
/-- one way on from a row -/
theorem leaves_go {De : DEnds} {n : Nat} {F : List Row} {sh : List (Option Nat)} {i c x y v : Nat} {r : Addr} {M : MS} {met : List Nat} {t0 : Tr} {g : Nat} (hsh : Sheet sh.length sh) (hc : c < sh.length) (hv : v = 0 ∨ v = 1) (hg : (if v = 0 then x else y) = g) (hd : Den F g t0) (hn : t0.depth + 1 ≤ n) (hcl : CharLt sh.length t0)
    (hm : M r = some (.lst (ixs met))) (hshut : ∀ x, x ∈ met → ∀ u, Den F x u → u.size ≤ t0.size → Shut F sh met x) (nd : met.Nodup) (hlt : ∀ x, x ∈ met → x < F.length) (hF : F.length ≤ 900000)
    (h : ∀ new, (may sh c v → g ∈ met ++ new) → (may sh c v ∧ New F sh t0 met new ∨ new = []) → (met ++ new).Nodup → (∀ x, x ∈ met ++ new → x < F.length) → De.nx [some (.dat (encFold F)), some (.dat (encSheet sh)), some (.dat (.int ((i : Nat) : Int))), some (.ref r), some (.dat (encRow (.node c x y))), some (.dat (.int ((v : Nat) : Int)))] (setM M r (.lst (ixs (met ++ new))))) :
    t_leaves_go (spPrev sp_leaves_from n) De [some (.dat (encFold F)), some (.dat (encSheet sh)), some (.dat (.int ((i : Nat) : Int))), some (.ref r), some (.dat (encRow (.node c x y))), some (.dat (.int ((v : Nat) : Int)))] M := by
  obtain ⟨p, hp⟩ : ∃ p, sh[c]? = some p := ⟨_, List.getElem?_eq_getElem hc⟩
  obtain ⟨n, rfl⟩ : ∃ n', n = n' + 1 := ⟨n - 1, by omega⟩
  have goal : may sh c v → sp_leaves_from n [.dat (encFold F), .dat (encSheet sh), .dat (.int ((g : Nat) : Int)), .ref r] M fun _ M1 => De.nx [some (.dat (encFold F)), some (.dat (encSheet sh)), some (.dat (.int ((i : Nat) : Int))), some (.ref r), some (.dat (encRow (.node c x y))), some (.dat (.int ((v : Nat) : Int)))] M1 := fun hmay =>
    ⟨F, sh, g, t0, r, met, rfl, hd, by omega, hcl, hsh, hm, hshut, nd, hlt, hF, fun new h1 h2 h3 h4 => h new (fun _ => h1) (.inl ⟨hmay, h2⟩) h3 h4⟩
  have row : ∀ {q : PyData → Prop}, q (.int ((g : Nat) : Int)) → ixV (encRow (.node c x y)) (.int (1 + ((v : Nat) : Int))) q := fun {q} hq => by
    rcases hv with rfl | rfl
    · exact ⟨_, rfl, by rw [if_pos rfl] at hg; subst hg; exact hq⟩
    · exact ⟨_, rfl, by rw [if_neg (by decide)] at hg; subst hg; exact hq⟩
  have stop : (¬ may sh c v) → De.nx [some (.dat (encFold F)), some (.dat (encSheet sh)), some (.dat (.int ((i : Nat) : Int))), some (.ref r), some (.dat (encRow (.node c x y))), some (.dat (.int ((v : Nat) : Int)))] M := fun hnot => by
    have := h [] (fun z => absurd z hnot) (.inr rfl) (by rw [List.append_nil]; exact nd) (by rw [List.append_nil]; exact hlt)
    rw [List.append_nil, setM_self hm] at this
    exact this
  refine ⟨_, rfl, _, rfl, _, _, rfl, rfl, _, rfl, _, _, rfl, rfl, _, sheet_ix hp, ?_⟩
  cases p with
  | none =>
    refine ⟨_, _, rfl, rfl, rfl, _, rfl, if_t rfl (if_t rfl ?_)⟩
    refine ⟨_, rfl, _, rfl, _, rfl, _, rfl, _, _, rfl, rfl, _, _, rfl, rfl, row ⟨_, rfl, goal (.inl hp)⟩⟩
  | some w =>
    refine ⟨_, _, rfl, rfl, rfl, _, rfl, if_f rfl ?_⟩
    refine ⟨_, rfl, _, rfl, _, _, rfl, rfl, _, rfl, _, _, rfl, rfl, _, sheet_ix hp, _, rfl, _, _, rfl, rfl, rfl, _, rfl, ?_⟩
    refine if_c (eqv_nat w v) (fun e => ?_) fun e => ?_
    · have e : w = v := of_decide_eq_true e
      subst e
      refine ⟨_, rfl, _, rfl, _, rfl, _, rfl, _, _, rfl, rfl, _, _, rfl, rfl, row ⟨_, rfl, goal (.inr hp)⟩⟩
    · refine stop ?_
      rintro (z | z)
      · rw [hp] at z; cases z
      · rw [hp] at z; cases z
        rw [beq_self_eq_true] at e; cases e
theorem rd_leaves_from (n : Nat) : ∀ ds M k, sp_leaves_from n ds M k → t_leaves_from (spPrev sp_leaves_from n) (rtE k) (startD ["fold", "sheet", "at", "met", "row", "value"] ds) M := by
  rintro _ M k ⟨F, sh, i, t, r, met, rfl, hd, hn, hc, hs, hm, hshut, nd, hlt, hF, h⟩
  refine ⟨_, rfl, _, rfl, in_ints hm ⟨_, rfl, ?_⟩⟩
  refine if_b (fun e => ?_) fun e => ?_
  · have e' : i ∈ met := of_decide_eq_true e
    refine rt_same ?_
    have := h [] (List.mem_append_left _ e') ⟨fun x hx => absurd hx List.not_mem_nil, fun x hx => absurd hx List.not_mem_nil⟩ (by rw [List.append_nil]; exact nd) (by rw [List.append_nil]; exact hlt)
    rw [List.append_nil, setM_self hm] at this
    exact this
  have hni : i ∉ met := fun z => by rw [decide_eq_true z] at e; cases e
  have hil := den_lt hd
  have nd1 : (met ++ [i]).Nodup := by
    rw [List.nodup_append]
    refine ⟨nd, by simp, fun a ha b hb => ?_⟩
    have := List.mem_singleton.mp hb
    subst this
    exact fun e => hni (e ▸ ha)
  have hlt1 : ∀ x, x ∈ met ++ [i] → x < F.length := fun x hx => by
    rcases List.mem_append.mp hx with z | z
    · exact hlt x z
    · rw [List.mem_singleton.mp z]; exact hil
  have ml := lt_len nd hlt
  refine ⟨_, rfl, r, _, rfl, hm, _, rfl, _, _, rfl, hm, by rw [ints_len]; exact slt (by omega), ?_⟩
  rw [ints_snoc]
  have m1 : setM M r (.lst (ixs (met ++ [i]))) r = some (.lst (ixs (met ++ [i]))) := setM_same
  cases t with
  | leaf ns =>
    refine ⟨_, rfl, _, rfl, ix_row (rowsF F) hd.row_leaf ?_⟩
    refine ⟨_, rfl, .leaf ns, rfl, _, rfl, ?_⟩
    refine if_f rfl (rt_same (h [i] (by simp) ⟨fun x hx => ?_, fun x hx => ?_⟩ nd1 hlt1))
    · rw [List.mem_singleton.mp hx]; exact ⟨_, hd, .refl⟩
    · rw [List.mem_singleton.mp hx]
      intro c lo hi er
      rw [hd.row_leaf] at er; cases er
  | node c a b =>
    obtain ⟨x, y, er, h1, h2⟩ := hd.row_node
    have hda : a.depth + 1 ≤ n ∧ b.depth + 1 ≤ n := by
      have : max a.depth b.depth + 1 ≤ n := hn
      omega
    have es : (Tr.node c a b).size = a.size + b.size + 1 := rfl
    have notI : ∀ {u t1 : Tr}, Den F i u → u.size ≤ t1.size → t1.size < (Tr.node c a b).size → False := fun {u t1} du h1 h2 => by
      have := du.fn hd
      subst this
      omega
    refine ⟨_, rfl, _, rfl, ix_row (rowsF F) er ?_⟩
    refine ⟨_, rfl, .node c x y, rfl, _, rfl, ?_⟩
    refine if_t rfl ⟨_, rfl, szb rfl, _, rfl, True.intro, ?_⟩
    refine leaves_go (v := 0) (g := x) (t0 := a) hs hc.1 (.inl rfl) rfl h1 hda.1 hc.2.1 m1 (fun z hz u du hu => ?_) nd1 hlt1 hF fun new1 g1 g2 nd2 hlt2 => ⟨True.intro, ?_⟩
    · rcases List.mem_append.mp hz with hz | hz
      · exact (hshut z hz u du (by omega)).app
      · rw [List.mem_singleton.mp hz] at du
        exact absurd hu fun hu => notI du hu (by omega)
    rw [setM_set]
    refine leaves_go (v := 1) (g := y) (t0 := b) hs hc.1 (.inr rfl) rfl h2 hda.2 hc.2.2 setM_same (fun z hz u du hu => ?_) nd2 hlt2 hF fun new2 g3 g4 nd3 hlt3 => ⟨True.intro, ?_⟩
    · rcases List.mem_append.mp hz with hz | hz
      · rcases List.mem_append.mp hz with hz | hz
        · rw [List.append_assoc]
          exact (hshut z hz u du (by omega)).app
        · rw [List.mem_singleton.mp hz] at du
          exact absurd hu fun hu => notI du hu (by omega)
      · rcases g2 with ⟨_, g2⟩ | rfl
        · exact g2.shut z hz
        · exact absurd hz List.not_mem_nil
    rw [setM_set]
    have ea : met ++ [i] ++ new1 ++ new2 = met ++ (i :: (new1 ++ new2)) := by simp
    rw [ea] at nd3 hlt3 g3 ⊢
    refine rt_same (h _ (by simp) ⟨fun z hz => ?_, fun z hz => ?_⟩ nd3 hlt3)
    · rcases List.mem_cons.mp hz with rfl | hz
      · exact ⟨_, hd, .refl⟩
      · rcases List.mem_append.mp hz with hz | hz
        · rcases g2 with ⟨m2, g2⟩ | rfl
          · obtain ⟨u, d, s⟩ := g2.come z hz
            exact ⟨u, d, .no m2 s⟩
          · exact absurd hz List.not_mem_nil
        · rcases g4 with ⟨m4, g4⟩ | rfl
          · obtain ⟨u, d, s⟩ := g4.come z hz
            exact ⟨u, d, .yes m4 s⟩
          · exact absurd hz List.not_mem_nil
    · rcases List.mem_cons.mp hz with rfl | hz
      · intro c' lo hi e'
        rw [er] at e'; cases e'
        refine ⟨fun z => ?_, g3⟩
        have := List.mem_append_left new2 (g1 z)
        rw [ea] at this; exact this
      · rcases List.mem_append.mp hz with hz | hz
        · rcases g2 with ⟨m2, g2⟩ | rfl
          · have := (g2.shut z hz).app (new := new2)
            rw [ea] at this; exact this
          · exact absurd hz List.not_mem_nil
        · rcases g4 with ⟨m4, g4⟩ | rfl
          · have := g4.shut z hz
            rw [ea] at this; exact this
          · exact absurd hz List.not_mem_nil
end Ks

/-! Ks: leaves, possible, sure. -/
namespace Ks
open PySem PySem.Spec PyProof.Rows L2 Kf

section
variable {α : Type} {enc : α → PyData} {i : Nat} {ρ : Rho} {M : MS} {k : List PyData → MS → Prop} {src : Option (Addr × MO)}
/-- a comprehension with a test, over anything -/
theorem fm_src {tt : TDb} {te : TD} {p : α → Bool} {f : α → PyData} (hst : stay src M) : ∀ (l : List α) (acc : List PyData), (∀ x, x ∈ l → ∀ K : Bool → MS → Prop, K (p x) M → tt ((wipeD ρ [i]).set i (some (.dat (enc x)))) M K) → (∀ x, x ∈ l → p x = true → ∀ K : KD, K (.dat (f x)) M → te ((wipeD ρ [i]).set i (some (.dat (enc x)))) M K) → acc.length + l.length ≤ 1000000 → k (acc ++ (l.filter p).map f) M →
    compD (.one i) tt te ρ src (l.map enc) acc M k
  | [], acc, _, _, _, h => ⟨hst, by rw [List.filter_nil, List.map_nil, List.append_nil] at h; exact h⟩
  | x :: l, acc, ht, hf, hl, h => by
    rw [List.length_cons] at hl
    rw [List.filter_cons] at h
    refine ⟨hst, _, rfl, ht x List.mem_cons_self _ ?_⟩
    refine if_b (fun e => ?_) fun e => ?_
    · rw [if_pos e] at h
      refine hf x List.mem_cons_self e _ ⟨_, rfl, slt (by omega), ?_⟩
      refine fm_src hst l (acc ++ [f x]) (fun y hy => ht y (List.mem_cons_of_mem _ hy)) (fun y hy => hf y (List.mem_cons_of_mem _ hy)) (by rw [List.length_append, List.length_singleton]; omega) ?_
      rw [List.append_assoc]; exact h
    · rw [if_neg (by rw [e]; exact Bool.false_ne_true)] at h
      exact fm_src hst l acc (fun y hy => ht y (List.mem_cons_of_mem _ hy)) (fun y hy => hf y (List.mem_cons_of_mem _ hy)) (by omega) h
end
/-! ### leaves -/
def t_leaves : TDs := (dSeq (dSet 2 (dOwn daNil))
  (dSeq (dExpr (dCall (sp_leaves_from 10) (daCons (dVar 0) (daCons (dVar 1) (daCons (dOp (opV subV) (dCB lenP (daCons (dVar 0) daNil)) (dC (.int 1))) (daCons (dVar 2) daNil))))))
  (dRet (dLc (diSeq (dVar 2)) (.one 3) (dB (dCall sp_is_leaf (daCons (dOp (opV ixV) (dVar 0) (dVar 3)) daNil))) (dOp (opV ixV) (dOp (opV ixV) (dVar 0) (dVar 3)) (dC (.int 1)))))))
def sp_leaves : DSp := fun ds M k => ∃ (t : Tr) (sh : List (Option Nat)), ds = [.dat (encF t), .dat (encSheet sh)] ∧ t.depth ≤ 10 ∧ CharLt sh.length t ∧ Sheet sh.length sh ∧
  ∀ ls : List (List Str), ls.Nodup → (∀ ns, ns ∈ ls ↔ Rc sh t ns) → k (.dat (.list (ls.map encNames))) M
def nmsR : Row → List Str
  | .leaf ns => ns
  | .node _ _ _ => []
def lfAt (F : List Row) (x : Nat) : Bool := match F[x]? with
  | some r => r.isLeaf
  | none => false
def nmAt (F : List Row) (x : Nat) : List Str := match F[x]? with
  | some r => nmsR r
  | none => []
theorem lfAt_iff {F : List Row} {x : Nat} : lfAt F x = true ↔ ∃ ns, F[x]? = some (.leaf ns) := by
  unfold lfAt
  cases F[x]? with
  | none => exact ⟨fun z => (by cases z), fun ⟨_, z⟩ => (by cases z)⟩
  | some r => cases r with
    | leaf ns => exact ⟨fun _ => ⟨ns, rfl⟩, fun _ => rfl⟩
    | node => exact ⟨fun z => (by cases z), fun ⟨_, z⟩ => (by cases z)⟩
theorem nmAt_of {F : List Row} {x : Nat} {ns : List Str} (h : F[x]? = some (.leaf ns)) : nmAt F x = ns := by unfold nmAt; rw [h]; rfl
theorem nodup_mapOn {α β : Type} {f : α → β} : ∀ {l : List α}, l.Nodup → (∀ x, x ∈ l → ∀ y, y ∈ l → f x = f y → x = y) → (l.map f).Nodup
  | [], _, _ => List.nodup_nil
  | a :: l, nd, h => by
    rw [List.nodup_cons] at nd
    rw [List.map_cons, List.nodup_cons]
    refine ⟨fun z => ?_, nodup_mapOn nd.2 fun x hx y hy => h x (List.mem_cons_of_mem _ hx) y (List.mem_cons_of_mem _ hy)⟩
    obtain ⟨y, hy, e⟩ := List.mem_map.mp z
    have := h y (List.mem_cons_of_mem _ hy) a List.mem_cons_self e
    subst this
    exact nd.1 hy
theorem rd_leaves : ∀ ds M k, sp_leaves ds M k → t_leaves (rtE k) (startD ["fold", "sheet", "met", "at"] ds) M := by
  rintro _ M k ⟨t, sh, rfl, hd, hc, hs, h⟩
  have hF : (foldOf t).length ≤ 900000 := by
    have h1 := fold_len t
    have h2 := t.size_le
    have h3 : 2 ^ (t.depth + 1) ≤ 2 ^ 11 := Nat.pow_le_pow_right (by decide) (by omega)
    have h4 : (2 : Nat) ^ 11 = 2048 := rfl
    have h5 := post_len t []
    rw [List.length_nil] at h5
    omega
  refine ⟨[], rfl, szb rfl, fun a ha => ?_⟩
  refine ⟨_, rfl, _, rfl, _, rfl, _, encFold (foldOf t), _, rfl, rfl, len_fold _, _, _, rfl, rfl, subN (top_ix t) ?_⟩
  refine ⟨_, rfl, foldOf t, sh, _, t, a, [], rfl, den_fold t, hd, hc, hs, setM_same, fun x hx => absurd hx List.not_mem_nil, List.nodup_nil, fun x hx => absurd hx List.not_mem_nil, hF, fun new h1 h2 h3 h4 => ?_⟩
  rw [setM_set]
  rw [List.nil_append] at h1 h3 h4 ⊢
  have lv : ∀ x, x ∈ new → ∃ u, Den (foldOf t) x u ∧ Su sh t u := h2.come
  have shut : ∀ x, x ∈ new → Shut (foldOf t) sh new x := fun x hx => by have := h2.shut x hx; rwa [List.nil_append] at this
  have hlen := lt_len h3 h4
  have rowAt : ∀ x, x ∈ new → ∃ r, (foldOf t)[x]? = some r := fun x hx => ⟨_, List.getElem?_eq_getElem (h4 x hx)⟩
  refine ⟨_, rfl, .inr ⟨a, _, rfl, setM_same, ?_⟩⟩
  refine fm_src (enc := fun x : Nat => .int ((x : Nat) : Int)) (p := lfAt (foldOf t)) (f := fun x => encNames (nmAt (foldOf t) x)) (show stay (some (a, .lst (ixs new))) _ from setM_same) new [] (fun x hx K hK => ?_) (fun x hx hp K hK => ?_) (by rw [List.length_nil]; omega) ?_
  · obtain ⟨r, hr⟩ := rowAt x hx
    refine ⟨_, rfl, _, rfl, ix_row (rowsF _) hr ⟨r, rfl, _, rfl, ?_⟩⟩
    have : lfAt (foldOf t) x = r.isLeaf := by unfold lfAt; rw [hr]
    rw [this] at hK; exact hK
  · obtain ⟨ns, hr⟩ := lfAt_iff.mp hp
    refine ⟨_, rfl, _, rfl, ix_row (rowsF _) hr ⟨_, _, rfl, rfl, _, rfl, ?_⟩⟩
    rw [nmAt_of hr] at hK; exact hK
  rw [List.nil_append]
  refine rt_sub (sub_new ha) ?_
  have e : (new.filter (lfAt (foldOf t))).map (fun x => encNames (nmAt (foldOf t) x)) = ((new.filter (lfAt (foldOf t))).map (nmAt (foldOf t))).map encNames := by rw [List.map_map]; rfl
  rw [e]
  refine h _ (nodup_mapOn (h3.filter _) fun x hx y hy e => ?_) fun ns => ⟨fun q => ?_, fun q => ?_⟩
  · obtain ⟨n1, r1⟩ := lfAt_iff.mp (List.mem_filter.mp hx).2
    obtain ⟨n2, r2⟩ := lfAt_iff.mp (List.mem_filter.mp hy).2
    rw [nmAt_of r1, nmAt_of r2] at e
    subst e
    exact nodup_at (fold_nodup t) r1 r2
  · obtain ⟨x, hx, rfl⟩ := List.mem_map.mp q
    obtain ⟨hx, hp⟩ := List.mem_filter.mp hx
    obtain ⟨ns, hr⟩ := lfAt_iff.mp hp
    obtain ⟨u, du, su⟩ := lv x hx
    rw [nmAt_of hr]
    have := du.fn (.leaf hr)
    subst this
    exact su
  · obtain ⟨j, hj, dj⟩ := shut_su shut q _ h1 (den_fold t)
    have hr := dj.row_leaf
    exact List.mem_map.mpr ⟨j, List.mem_filter.mpr ⟨hj, lfAt_iff.mpr ⟨ns, hr⟩⟩, nmAt_of hr⟩
/-! ### possible -/
def t_possible : TDs := (dSeq (dSet 2 (dLst daNil))
  (dSeq (dFor (diSeq (dCall sp_leaves (daCons (dVar 0) (daCons (dVar 1) daNil)))) (gdName 3) (dSet 2 (dOp (opV addV) (dVar 2) (dCB listP (daCons (dVar 3) daNil)))))
  (dRet (dCB tupleP (daCons (dSortSet (daCons (dVar 2) daNil)) daNil)))))
/-- what leaves there are, and what names -/
structure Few (sh : List (Option Nat)) (t : Tr) (pl : List Str) : Prop where
  pool : Pool pl
  nm : t.allL (Names pl)
  few : ∃ W : List (List Str), W.length ≤ 130 ∧ ∀ ns, Rc sh t ns → ns ∈ W
theorem su_all {sh : List (Option Nat)} {P : List Str → Prop} {t u : Tr} (h : Su sh t u) : t.allL P → u.allL P := by
  induction h with
  | refl => exact id
  | no _ _ ih => exact fun q => ih q.1
  | yes _ _ ih => exact fun q => ih q.2
theorem rc_names {sh : List (Option Nat)} {t : Tr} {P : List Str → Prop} (h : t.allL P) {ns : List Str} (r : Rc sh t ns) : P ns := su_all r h
/-- the names that some thing is given -/
def Poss (sh : List (Option Nat)) (t : Tr) (x : Str) : Prop := ∃ ns, Rc sh t ns ∧ x ∈ ns
/-- the names that each thing is given -/
def Surely (sh : List (Option Nat)) (t : Tr) (x : Str) : Prop := ∀ ns, Rc sh t ns → x ∈ ns
def sp_possible : DSp := fun ds M k => ∃ (t : Tr) (sh : List (Option Nat)) (pl : List Str), ds = [.dat (encF t), .dat (encSheet sh)] ∧ t.depth ≤ 10 ∧ CharLt sh.length t ∧ Sheet sh.length sh ∧ Few sh t pl ∧
  ∀ ns, Names pl ns → (∀ x, x ∈ ns ↔ Poss sh t x) → k (.dat (encNames ns)) M
theorem poss_loop {De : DEnds} {x0 x1 : Option DV} {M : MS} {N : Nat} : ∀ (l : List (List Str)) (acc : List Str) (x3 : Option DV), (∀ ns, ns ∈ l → ns.length ≤ 30) → acc.length + l.length * 30 ≤ 100000 →
    (∀ y3, De.nx [x0, x1, some (.dat (.list ((acc ++ l.flatten).map PyData.str))), y3] M) →
    forD (gdName 3) (dSet 2 (dOp (opV addV) (dVar 2) (dCB listP (daCons (dVar 3) daNil)))) De none (l.map encNames) [x0, x1, some (.dat (.list (acc.map PyData.str))), x3] M
  | [], acc, x3, _, _, h => ⟨True.intro, by have := h x3; rw [List.flatten_nil, List.append_nil] at this; exact this⟩
  | ns :: l, acc, x3, hn, hl, h => by
    have h1 := hn ns List.mem_cons_self
    rw [List.length_cons] at hl
    refine ⟨True.intro, _, rfl, _, rfl, _, _, _, rfl, rfl, rfl, _, _, rfl, rfl, szm (by rw [List.length_map, List.length_map]; omega), ?_⟩
    have e : acc.map PyData.str ++ ns.map PyData.str = (acc ++ ns).map PyData.str := by rw [List.map_append]
    rw [e]
    refine poss_loop (N := N) l (acc ++ ns) _ (fun ms q => hn ms (List.mem_cons_of_mem _ q)) (by rw [List.length_append]; omega) fun y3 => ?_
    have := h y3
    rw [List.flatten_cons] at this
    rw [List.append_assoc]; exact this
theorem rd_possible : ∀ ds M k, sp_possible ds M k → t_possible (rtE k) (startD ["fold", "sheet", "found", "names"] ds) M := by
  rintro _ M k ⟨t, sh, pl, rfl, hd, hc, hs, hf, h⟩
  have pf := hf.pool.few
  obtain ⟨W, hW, hWm⟩ := hf.few
  refine ⟨_, rfl, szb rfl, ?_⟩
  refine ⟨_, rfl, _, rfl, t, sh, rfl, hd, hc, hs, fun ls nd hls => .inl ⟨_, rfl, ?_⟩⟩
  have hlen : ls.length ≤ 130 := Nat.le_trans (nodup_len ls W nd fun ns q => hWm ns ((hls ns).mp q)) hW
  have hnm : ∀ ns, ns ∈ ls → Names pl ns := fun ns q => rc_names hf.nm ((hls ns).mp q)
  have hfl : ls.flatten.length < 4000 := by
    have : ∀ (l : List (List Str)), (∀ ns, ns ∈ l → ns.length ≤ 30) → l.flatten.length ≤ 30 * l.length := fun l => by
      induction l with
      | nil => exact fun _ => Nat.le_refl _
      | cons a l ih =>
        intro q
        have a1 := q a List.mem_cons_self
        have a2 := ih fun ns z => q ns (List.mem_cons_of_mem _ z)
        rw [List.flatten_cons, List.length_append, List.length_cons]
        omega
    have := this ls fun ns q => Nat.le_trans (hnm ns q).len pf
    omega
  refine poss_loop (N := 0) ls [] _ (fun ns q => Nat.le_trans (hnm ns q).len pf) (by rw [List.length_nil]; omega) fun y3 => ?_
  rw [List.nil_append]
  have sub : ∀ z, z ∈ ls.flatten → z ∈ pl := fun z hz => by
    obtain ⟨ns, h1, h2⟩ := List.mem_flatten.mp hz
    exact (hnm ns h1).sub z h2
  refine ⟨_, rfl, _, _, ls.flatten, rfl, rfl, rfl, hfl, ⟨pl, by omega, sub⟩, fun ys ynd hm hsrt => ?_⟩
  refine ⟨_, rfl, .inl ⟨_, rfl, rt_same (h ys ⟨asc_of hsrt ynd, fun x hx => sub x ((hm x).mp hx)⟩ fun x => (hm x).trans ?_)⟩⟩
  rw [List.mem_flatten]
  exact ⟨fun ⟨ns, h1, h2⟩ => ⟨ns, (hls ns).mp h1, h2⟩, fun ⟨ns, h1, h2⟩ => ⟨ns, (hls ns).mpr h1, h2⟩⟩
/-! ### sure -/
def t_sure : TDs := (dSeq (dSet 2 (dCall sp_leaves (daCons (dVar 0) (daCons (dVar 1) daNil))))
  (dRet (dCB tupleP (daCons (dLc (diTup (dOp (opV ixV) (dVar 2) (dC (.int 0)))) (.one 3) (dB (dCB (boolsP fun bs => bs.all id) (daCons (dLc (diSeq (dVar 2)) (.one 4) dYes (dOp (opR (inV2 id)) (dVar 3) (dVar 4))) daNil))) (dVar 3)) daNil))))
def sp_sure : DSp := fun ds M k => ∃ (t : Tr) (sh : List (Option Nat)) (pl : List Str) (ord : List Nat), ds = [.dat (encF t), .dat (encSheet sh)] ∧ t.depth ≤ 10 ∧ CharLt sh.length t ∧ Sheet sh.length sh ∧ Few sh t pl ∧ Ordd ord t ∧
  ∀ ns, Names pl ns → (∀ x, x ∈ ns ↔ Surely sh t x) → k (.dat (encNames ns)) M
theorem bools_map {α : Type} (f : α → Bool) : ∀ l : List α, boolsOf (l.map fun x => PyData.bool (f x)) = some (l.map f)
  | [] => rfl
  | x :: l => by
    show (boolsOf (l.map fun x => PyData.bool (f x))).map (f x :: ·) = _
    rw [bools_map f l]; rfl
theorem rd_sure : ∀ ds M k, sp_sure ds M k → t_sure (rtE k) (startD ["fold", "sheet", "rows", "name", "names"] ds) M := by
  rintro _ M k ⟨t, sh, pl, ord, rfl, hd, hc, hs, hf, ho, h⟩
  have pf := hf.pool.few
  obtain ⟨W, hW, hWm⟩ := hf.few
  refine ⟨_, rfl, _, rfl, t, sh, rfl, hd, hc, hs, fun ls nd hls => ?_⟩
  have hlen : ls.length ≤ 130 := Nat.le_trans (nodup_len ls W nd fun ns q => hWm ns ((hls ns).mp q)) hW
  have hnm : ∀ ns, ns ∈ ls → Names pl ns := fun ns q => rc_names hf.nm ((hls ns).mp q)
  obtain ⟨bs, b1, b2⟩ := agr_some hs
  have hsome : t.ans bs ∈ ls := (hls _).mpr (ans_su hs b1 b2 hc)
  cases ls with
  | nil => exact absurd hsome List.not_mem_nil
  | cons a ls =>
    have l1 := (hnm a List.mem_cons_self).len
    have lls : ls.length + 1 ≤ 130 := hlen
    refine ⟨_, rfl, _, _, rfl, rfl, encNames a, at0 rfl, a.map PyData.str, rfl, ?_⟩
    refine flt_gen (enc := PyData.str) (p := fun x => ((a :: ls).map fun ns => decide (x ∈ ns)).all id) rfl a [] (fun x hx K hK => ?_) (by rw [List.length_nil]; omega) ?_
    · refine ⟨_, rfl, .inl ⟨_, rfl, ?_⟩⟩
      refine map_gen (enc := encNames) (f := fun ns => .bool (decide (x ∈ ns))) (a :: ls) [] (fun ns hns K2 hK2 => ?_) (by rw [List.length_nil, List.length_cons]; omega) ?_
      · exact ⟨_, rfl, _, rfl, in_names hK2⟩
      · rw [List.nil_append]
        exact ⟨_, _, _, rfl, rfl, bools_map (fun ns => decide (x ∈ ns)) (a :: ls), _, rfl, hK⟩
    · refine ⟨_, rfl, .inl ⟨_, rfl, rt_same (h _ ⟨(hnm a List.mem_cons_self).asc.sublist List.filter_sublist, fun x hx => (hnm a List.mem_cons_self).sub x (List.mem_filter.mp hx).1⟩ fun x => ?_)⟩⟩
      rw [List.nil_append, List.mem_filter, List.all_eq_true]
      constructor
      · rintro ⟨_, q⟩ ns hr
        exact of_decide_eq_true (q _ (List.mem_map.mpr ⟨ns, (hls ns).mpr hr, rfl⟩))
      · intro q
        refine ⟨q a ((hls a).mp List.mem_cons_self), fun b hb => ?_⟩
        obtain ⟨ns, hns, rfl⟩ := List.mem_map.mp hb
        exact decide_eq_true (q ns ((hls ns).mp hns))
end Ks

/-! Ks: the law of cuts that meet. -/
namespace Ks
open PySem PySem.Spec PyProof.Rows L2 Kf

/-- the three ways, by where they stand -/
def S3 (fj fc fl : Addr) : Addr → DSp → Prop := fun f sp => (f = fj ∧ sp = sp_pair2 .join) ∨ (f = fc ∧ sp = sp_pair2 .meet) ∨ (f = fl ∧ sp = sp_pair2 .less)
theorem held3 {P : Program} {w : World} {K : PySem.W.Frag} {mg : Str → Option Value} {base : Heap} {fj fc fl : Addr} {dj dc dl : FuncData} {pj pc pl : List Str} {k : Nat} (Fj : FnOk P w K mg base CX0 k fj dj pj (liftP K P w (sp_pair2 .join))) (kj : PySem.W.keepIn K (.ref fj) = true) (bj : Binds K dj pj [])
    (Fc : FnOk P w K mg base CX0 k fc dc pc (liftP K P w (sp_pair2 .meet))) (kc : PySem.W.keepIn K (.ref fc) = true) (bc : Binds K dc pc []) (Fl : FnOk P w K mg base CX0 k fl dl pl (liftP K P w (sp_pair2 .less))) (kl : PySem.W.keepIn K (.ref fl) = true) (bl : Binds K dl pl []) :
    ∀ f sp, S3 fj fc fl f sp → Held P w K mg base k f (liftP K P w sp) := fun f sp h => by
  rcases h with ⟨rfl, rfl⟩ | ⟨rfl, rfl⟩ | ⟨rfl, rfl⟩
  · exact held_of Fj (Nat.le_refl _) kj bj
  · exact held_of Fc (Nat.le_refl _) kc bc
  · exact held_of Fl (Nat.le_refl _) kl bl
/-! ### _law_put -/
def t_L_put : TDs := (dRet (dOp (opV addV) (dOp (opV addV) (dSl (dVar 0) doNone (doSome (dVar 1))) (dTup (daCons (dVar 2) daNil))) (dSl (dVar 0) (doSome (dOp (opV addV) (dVar 1) (dC (.int 1)))) doNone)))
def sp_L_put : DSp := fun ds M k => ∃ (sh : List (Option Nat)) (j : Nat) (p : Option Nat), ds = [.dat (encSheet sh), .dat (.int ((j : Nat) : Int)), .dat (encPart p)] ∧ j < sh.length ∧ sh.length ≤ 1000 ∧ k (.dat (encSheet (sh.set j p))) M
theorem set_cutA {α : Type} {bs : List α} {c : Nat} {v : α} (h : c < bs.length) : bs.set c v = bs.take c ++ [v] ++ bs.drop (c + 1) := by
  rw [List.set_eq_take_append_cons_drop, if_pos h, List.append_assoc]; rfl
theorem norm_part (p : Option Nat) : norm (encPart p) = encPart p := by cases p <;> rfl
theorem rd_L_put : ∀ ds M k, sp_L_put ds M k → t_L_put (rtE k) (startD ["_law_sheet_here", "_law_k", "_law_value"] ds) M := by
  rintro _ M k ⟨sh, j, p, rfl, hj, hl, h⟩
  have hle : j ≤ (sh.map encPart).length := by rw [List.length_map]; omega
  have hle2 : j + 1 ≤ (sh.map encPart).length := by rw [List.length_map]; omega
  refine ⟨_, rfl, _, rfl, _, rfl, _, rfl, slT (cut_to hle) ?_⟩
  refine ⟨_, rfl, _, rfl, szb rfl, _, _, rfl, rfl, szm (by rw [List.length_take, List.length_map, List.length_singleton]; omega), ?_⟩
  refine ⟨_, rfl, _, rfl, _, _, rfl, rfl, _, rfl, _, rfl, slT (cut_from (j := j + 1) hle2) ⟨_, _, rfl, rfl, szm (by simp only [List.length_append, List.length_take, List.length_drop, List.length_map, List.length_singleton]; omega), ?_⟩⟩
  have ef : (sh.map encPart).take j ++ [encPart p] ++ (sh.map encPart).drop (j + 1) = (sh.set j p).map encPart := by
    rw [set_cutA hj, List.map_append, List.map_append, List.map_take, List.map_drop]; rfl
  rw [ef]
  exact rt_same h
/-! ### sheets -/
theorem over_get {m : Nat} {sh : List (Option Nat)} {bs : List Nat} {j : Nat} {p : Option Nat} {b : Nat} (h1 : sh[j]? = some p) (h2 : bs[j]? = some b) : (over sh bs)[j]? = some (p.getD b) := by
  have hz : (sh.zip bs)[j]? = some (p, b) := List.getElem?_zip_eq_some.mpr ⟨h1, h2⟩
  unfold over
  rw [List.getElem?_map, hz]; rfl
/-- lists of bits that are alike at each place -/
theorem bits_ext {m : Nat} {as bs : List Nat} (ha : Bits m as) (hb : Bits m bs) (h : ∀ j, j < m → as[j]? = bs[j]?) : as = bs := by
  refine List.ext_getElem? fun j => ?_
  by_cases hj : j < m
  · exact h j hj
  · rw [List.getElem?_eq_none (by rw [ha.1]; omega), List.getElem?_eq_none (by rw [hb.1]; omega)]
theorem bits_get {m : Nat} {bs : List Nat} (hb : Bits m bs) {j : Nat} (hj : j < m) : ∃ b, bs[j]? = some b := ⟨_, List.getElem?_eq_getElem (by rw [hb.1]; exact hj)⟩
theorem over_over {m : Nat} {sh : List (Option Nat)} {bs : List Nat} (hs : Sheet m sh) (hb : Bits m bs) : over sh (over sh bs) = over sh bs := by
  have ho := over_bits hs hb
  refine bits_ext (over_bits hs ho) ho fun j hj => ?_
  obtain ⟨p, hp⟩ := sheet_at hs hj
  obtain ⟨b, hb'⟩ := bits_get hb hj
  rw [over_get (m := m) hp (over_get (m := m) hp hb'), over_get (m := m) hp hb']
  cases p <;> rfl
theorem none_sheet (m : Nat) : Sheet m (List.replicate m none) := ⟨List.length_replicate, fun v h => by have := List.eq_of_mem_replicate h; cases this⟩
theorem over_none {m : Nat} {bs : List Nat} (hb : Bits m bs) : over (List.replicate m none) bs = bs := by
  refine bits_ext (over_bits (none_sheet m) hb) hb fun j hj => ?_
  obtain ⟨b, hb'⟩ := bits_get hb hj
  rw [over_get (m := m) (p := none) (by rw [List.getElem?_replicate, if_pos hj]) hb', hb']; rfl
theorem sheet_set {m : Nat} {sh : List (Option Nat)} (hs : Sheet m sh) {j : Nat} {p : Option Nat} (hp : ∀ v, p = some v → v = 0 ∨ v = 1) : Sheet m (sh.set j p) := ⟨by rw [List.length_set]; exact hs.1, fun v h => by
  rcases List.mem_or_eq_of_mem_set h with z | z
  · exact hs.2 v z
  · exact hp v z.symm⟩
/-- a sheet up to a place -/
def pre (m : Nat) (sh : List (Option Nat)) (i : Nat) : List (Option Nat) := sh.take i ++ List.replicate (m - i) none
theorem pre_sheet {m : Nat} {sh : List (Option Nat)} (hs : Sheet m sh) {i : Nat} (hi : i ≤ m) : Sheet m (pre m sh i) := by
  unfold pre
  refine ⟨by rw [List.length_append, List.length_take, List.length_replicate, hs.1]; omega, fun v h => ?_⟩
  rcases List.mem_append.mp h with z | z
  · exact hs.2 v (List.mem_of_mem_take z)
  · have := List.eq_of_mem_replicate z; cases this
theorem pre_lt {m : Nat} {sh : List (Option Nat)} (hs : Sheet m sh) {i j : Nat} (hi : i ≤ m) (hj : j < i) : (pre m sh i)[j]? = sh[j]? := by
  unfold pre
  rw [List.getElem?_append_left (by rw [List.length_take, hs.1]; omega), List.getElem?_take_of_lt hj]
theorem pre_ge {m : Nat} {sh : List (Option Nat)} (hs : Sheet m sh) {i j : Nat} (hi : i ≤ j) (hj : j < m) : (pre m sh i)[j]? = some none := by
  unfold pre
  have hl : (sh.take i).length = i := by rw [List.length_take, hs.1]; omega
  rw [List.getElem?_append_right (by rw [hl]; exact hi), hl, List.getElem?_replicate, if_pos (by omega)]
theorem over_pre {m : Nat} {sh : List (Option Nat)} (hs : Sheet m sh) {i : Nat} {p : Option Nat} (hp : sh[i]? = some p) (hi : i < m) {bs : List Nat} (hb : Bits m bs) : over (pre m sh i) (over ((List.replicate m none).set i p) bs) = over (pre m sh (i + 1)) bs := by
  have h1 : Sheet m ((List.replicate m none).set i p) := sheet_set (none_sheet m) fun v e => hs.2 v (by rw [← e]; exact List.mem_of_getElem? hp)
  have ho := over_bits h1 hb
  refine bits_ext (over_bits (pre_sheet hs (Nat.le_of_lt hi)) ho) (over_bits (pre_sheet hs hi) hb) fun j hj => ?_
  obtain ⟨b, hb'⟩ := bits_get hb hj
  by_cases e : i = j
  · subst e
    have z1 : ((List.replicate m (none : Option Nat)).set i p)[i]? = some p := List.getElem?_set_self (by rw [List.length_replicate]; exact hi)
    rw [over_get (m := m) (pre_ge hs (Nat.le_refl _) hi) (over_get (m := m) z1 hb'), over_get (m := m) ((pre_lt hs hi (Nat.lt_succ_self _)).trans hp) hb']
    rfl
  · have z1 : ((List.replicate m (none : Option Nat)).set i p)[j]? = some none := by rw [List.getElem?_set_ne e, List.getElem?_replicate, if_pos hj]
    by_cases hlt : j < i
    · obtain ⟨q, hq⟩ := sheet_at hs hj
      rw [over_get (m := m) ((pre_lt hs (Nat.le_of_lt hi) hlt).trans hq) (over_get (m := m) z1 hb'), over_get (m := m) ((pre_lt hs hi (by omega)).trans hq) hb']
      rfl
    · rw [over_get (m := m) (pre_ge hs (by omega) hj) (over_get (m := m) z1 hb'), over_get (m := m) (pre_ge hs (by omega) hj) hb']
      rfl
theorem pre_zero {m : Nat} {sh : List (Option Nat)} : pre m sh 0 = List.replicate m none := by unfold pre; rw [List.take_zero]; rfl
theorem pre_all {m : Nat} {sh : List (Option Nat)} (hs : Sheet m sh) : pre m sh m = sh := by unfold pre; rw [List.take_of_length_le (by rw [hs.1]; exact Nat.le_refl _), Nat.sub_self]; simp
theorem rep_tup (m : Nat) : (List.replicate m [PyData.none]).flatten = (List.replicate m (none : Option Nat)).map encPart := rep_none m
/-! ### trees that answer alike -/
section
variable {ord : List Nat} {m : Nat} {pl : List Str}
theorem tree_eqB (hp : ord.Perm (List.range m)) {u v : Tr} (gu : Gt ord pl u) (gv : Gt ord pl v) (h : ∀ bs, Bits m bs → ∀ x, x ∈ u.ans bs ↔ x ∈ v.ans bs) : u = v :=
  Tr.same hp gu.ord gv.ord fun bs hb => names_eq (allL_ans gu.nm) (allL_ans gv.nm) (h bs hb)
theorem ne_foldB (hp : ord.Perm (List.range m)) (pp : Pool pl) {u v : Tr} (gu : Gt ord pl u) (gv : Gt ord pl v) (h : ∀ bs, Bits m bs → ∀ x, x ∈ u.ans bs ↔ x ∈ v.ans bs) {M : MS} {q : DV → Prop} (hq : q (.dat (.bool false))) : opR neV2 M (.dat (encFold (foldOf u))) (.dat (encFold (foldOf v))) q := by
  have e := tree_eqB hp gu gv h
  subst e
  exact ⟨_, _, rfl, rfl, Cmp.ne2 (pl_gt pp gu) (pl_gt pp gu) (fun _ => hq) fun z => absurd rfl z⟩
theorem eq_foldB (hp : ord.Perm (List.range m)) (pp : Pool pl) {u v : Tr} (gu : Gt ord pl u) (gv : Gt ord pl v) (h : ∀ bs, Bits m bs → ∀ x, x ∈ u.ans bs ↔ x ∈ v.ans bs) {M : MS} {q : DV → Prop} (hq : q (.dat (.bool true))) : opR eqV2 M (.dat (encFold (foldOf u))) (.dat (encFold (foldOf v))) q := by
  have e := tree_eqB hp gu gv h
  subst e
  exact ⟨_, _, rfl, rfl, Cmp.eq2 (pl_gt pp gu) (pl_gt pp gu) (fun _ => hq) fun z => absurd rfl z⟩
theorem Kn.mm {sh : List (Option Nat)} (hs : Sheet m sh) {t u : Tr} (s : Kn sh t u) {bs : List Nat} (hb : Bits m bs) (x : Str) : x ∈ u.ans bs ↔ x ∈ t.ans (over sh bs) := by rw [s.ans bs (by rw [hs.1, hb.1])]
theorem Wy.mm {r : Rule} {c : Nat} {t u : Tr} (s : Wy ord pl r m c t u) {bs : List Nat} (hb : Bits m bs) (x : Str) : x ∈ u.ans bs ↔ r.has (x ∈ t.ans (bs.set c 0)) (x ∈ t.ans (bs.set c 1)) := (s.ans hb).mem x
end
theorem one_way {m : Nat} {bs : List Nat} (hb : Bits m bs) {c : Nat} (hc : c < m) : bs.set c 0 = bs ∨ bs.set c 1 = bs := by
  obtain ⟨y, hy, h01, _⟩ := hb.at hc
  rcases h01 with rfl | rfl
  · exact .inl (set_same hy)
  · exact .inr (set_same hy)
end Ks

/-! Ks: what a law says of what is possible and sure. -/
namespace Ks
open PySem PySem.Spec PyProof.Rows L2 Kf

/-! ### agrees -/
theorem allT_len : ∀ m : Nat, (allT m).length = 2 ^ m
  | 0 => rfl
  | m + 1 => by
    rw [allT, List.length_append, List.length_map, List.length_map, allT_len m, Nat.pow_succ]; omega
def t_L_agrees : TDs := (dRet (dOp (opR eqV2) (dLc (diRange1 (daCons (dCB lenP (daCons (dVar 1) daNil)) daNil)) (.one 2) (dAnd (dB (dOp (opR (isV not)) (dOp (opV ixV) (dVar 1) (dVar 2)) (dC .none))) (dB (dOp (opR neV2) (dOp (opV ixV) (dVar 1) (dVar 2)) (dOp (opV ixV) (dVar 0) (dVar 2))))) (dVar 2)) (dLst daNil)))
def sp_L_agrees : DSp := fun ds M k => ∃ (m : Nat) (sh : List (Option Nat)) (bs : List Nat), ds = [.dat (encBits bs), .dat (encSheet sh)] ∧ m ≤ 1000 ∧ Sheet m sh ∧ Bits m bs ∧ ∀ b : Bool, (b = true ↔ Agr sh bs) → k (.dat (.bool b)) M
def offAt (sh : List (Option Nat)) (bs : List Nat) (j : Nat) : Bool := match sh[j]? with
  | some (some v) => !(decide (v = bs.getD j 0))
  | _ => false
theorem len_sheet (sh : List (Option Nat)) : lenV (encSheet sh) = some sh.length := by
  show some (sh.map encPart).length = _
  rw [List.length_map]
theorem rd_L_agrees : ∀ ds M k, sp_L_agrees ds M k → t_L_agrees (rtE k) (startD ["_law_thing", "_law_sheet_here", "_law_k"] ds) M := by
  rintro _ M k ⟨m, sh, bs, rfl, hm, hs, hb, h⟩
  have hl := hs.1
  refine ⟨_, rfl, _, encSheet sh, _, rfl, rfl, len_sheet sh, _, rfl, ⟨by omega, by omega⟩, ?_⟩
  show compD _ _ _ _ _ (rangeD 0 (((sh.length : Nat) : Int).toNat)) _ _ _
  rw [Int.toNat_natCast, range_nat, hl]
  refine flt_gen (enc := fun i : Nat => .int ((i : Nat) : Int)) (p := offAt sh bs) rfl (List.range m) [] (fun j hj K hK => ?_) (by rw [List.length_nil, List.length_range]; omega) ?_
  · have hj := List.mem_range.mp hj
    obtain ⟨p, hp⟩ := sheet_at hs hj
    obtain ⟨v, hv, hv01, hg⟩ := hb.at hj
    unfold offAt at hK
    rw [hp, hg] at hK
    refine ⟨_, rfl, _, rfl, _, _, rfl, rfl, _, sheet_ix hp, ?_⟩
    cases p with
    | none => exact ⟨_, _, rfl, rfl, rfl, _, rfl, if_f rfl hK⟩
    | some w =>
      refine ⟨_, _, rfl, rfl, rfl, _, rfl, if_t rfl ?_⟩
      refine ⟨_, rfl, _, rfl, _, _, rfl, rfl, _, sheet_ix hp, _, rfl, _, rfl, _, _, rfl, rfl, _, bits_ix hv, _, _, rfl, rfl, rfl, _, rfl, ?_⟩
      have e : (!PyData.eqv (encPart (some w)) (.int ((v : Nat) : Int))) = !decide (w = v) := by
        show (!PyData.eqv (.int ((w : Nat) : Int)) (.int ((v : Nat) : Int))) = _
        rw [eqv_nat]
        by_cases z : w = v
        · subst z; simp
        · simp [z]
      show K (!PyData.eqv (encPart (some w)) (.int ((v : Nat) : Int))) M
      rw [e]; exact hK
  · rw [List.nil_append]
    refine ⟨[], rfl, szb rfl, ?_⟩
    have c1 : Cmp (.list (((List.range m).filter (offAt sh bs)).map fun i => PyData.int ((i : Nat) : Int))) := (Pl.lst (n := 1) fun d hd => by
      obtain ⟨x, _, rfl⟩ := List.mem_map.mp hd
      exact pl_int _).cmp (by decide)
    have c2 : Cmp (.list []) := (Pl.lst (n := 1) fun d hd => absurd hd List.not_mem_nil).cmp (by decide)
    have agr : ((List.range m).filter (offAt sh bs)) = [] ↔ Agr sh bs := by
      rw [List.filter_eq_nil_iff]
      constructor
      · intro q j v hv
        have hj : j < m := by
          have := (List.getElem?_eq_some_iff.mp hv).1
          omega
        obtain ⟨w, hw, _, hg⟩ := hb.at hj
        have := q j (List.mem_range.mpr hj)
        unfold offAt at this
        rw [hv, hg] at this
        by_cases z : v = w
        · subst z; exact hw
        · exfalso
          apply this
          show (!decide (v = w)) = true
          rw [decide_eq_false z]; rfl
      · intro q j hj z
        have hj := List.mem_range.mp hj
        unfold offAt at z
        obtain ⟨p, hp⟩ := sheet_at hs hj
        rw [hp] at z
        cases p with
        | none => cases z
        | some w =>
          have e := q j w hp
          have : bs.getD j 0 = w := by rw [List.getD_eq_getElem?_getD, e]; rfl
          rw [this] at z
          have z : (!decide (w = w)) = true := z
          rw [decide_eq_true rfl] at z; cases z
    refine ⟨_, _, rfl, rfl, Cmp.eq2 c1 c2 (fun e => rt_same (h true ⟨fun _ => ?_, fun _ => rfl⟩)) fun e => rt_same (h false ⟨fun z => (by cases z), fun q => ?_⟩)⟩
    · injection e with e
      exact agr.mp (List.map_eq_nil_iff.mp e)
    · exfalso
      apply e
      rw [agr.mpr q]; rfl
/-! ### due -/
def t_L_due : TDs := (dSeq (dSet 3 (dLc (diSeq (dCall sp_L_things (daCons (dCB lenP (daCons (dVar 2) daNil)) daNil))) (.one 5) (dB (dCall sp_L_agrees (daCons (dVar 5) (daCons (dVar 2) daNil)))) (dCall (sp_L_answer 12) (daCons (dVar 0) (daCons (dVar 5) daNil)))))
  (dSeq (dSet 4 (dCB tupleP (daCons (dLc (diTup (dVar 1)) (.one 6) (dB (dCB (boolsP fun bs => bs.any id) (daCons (dLc (diSeq (dVar 3)) (.one 7) dYes (dOp (opR (inV2 id)) (dVar 6) (dVar 7))) daNil))) (dVar 6)) daNil)))
  (dRet (dTup (daCons (dVar 4) (daCons (dCB tupleP (daCons (dLc (diTup (dVar 1)) (.one 6) (dB (dCB (boolsP fun bs => bs.all id) (daCons (dLc (diSeq (dVar 3)) (.one 7) dYes (dOp (opR (inV2 id)) (dVar 6) (dVar 7))) daNil))) (dVar 6)) daNil)) daNil))))))
def PossK (m : Nat) (sh : List (Option Nat)) (key : Tr) (x : Str) : Prop := ∃ bs, Bits m bs ∧ Agr sh bs ∧ x ∈ key.ans bs
def SureK (m : Nat) (sh : List (Option Nat)) (key : Tr) (x : Str) : Prop := ∀ bs, Bits m bs → Agr sh bs → x ∈ key.ans bs
def sp_L_due : DSp := fun ds M k => ∃ (m : Nat) (sh : List (Option Nat)) (ws : List Str) (key : Tr), ds = [.dat (encKey key), .dat (encNames ws), .dat (encSheet sh)] ∧ 1 ≤ m ∧ m ≤ 10 ∧ Sheet m sh ∧ WsOk ws ∧ CharLt m key ∧ key.depth ≤ 12 ∧
  ∀ a b, Names ws a → (∀ x, x ∈ a ↔ x ∈ ws ∧ PossK m sh key x) → Names ws b → (∀ x, x ∈ b ↔ x ∈ ws ∧ SureK m sh key x) → k (.dat (.tuple [encNames a, encNames b])) M
theorem due_comp {M : MS} {kk : List PyData → MS → Prop} {g : List Bool → Bool} {ws : List Str} {as : List (List Str)} {x0 x1 x2 x4 x5 x6 x7 : Option DV} (h1 : ws.length ≤ 1000) (h2 : as.length ≤ 100000)
    (h : kk ((ws.filter fun x => g (as.map fun ns => decide (x ∈ ns))).map PyData.str) M) :
    compD (.one 6) (dB (dCB (boolsP g) (daCons (dLc (diSeq (dVar 3)) (.one 7) dYes (dOp (opR (inV2 id)) (dVar 6) (dVar 7))) daNil))) (dVar 6) [x0, x1, x2, some (.dat (.list (as.map encNames))), x4, x5, x6, x7] none (ws.map PyData.str) [] M kk := by
  refine flt_gen (enc := PyData.str) (p := fun x => g (as.map fun ns => decide (x ∈ ns))) rfl ws [] (fun x hx K hK => ?_) (by rw [List.length_nil]; omega) ?_
  · refine ⟨_, rfl, .inl ⟨_, rfl, ?_⟩⟩
    refine map_gen (enc := encNames) (f := fun ns => .bool (decide (x ∈ ns))) as [] (fun ns hns K2 hK2 => ?_) (by rw [List.length_nil]; omega) ?_
    · exact ⟨_, rfl, _, rfl, in_names hK2⟩
    · rw [List.nil_append]
      exact ⟨_, _, _, rfl, rfl, bools_map (fun ns => decide (x ∈ ns)) as, _, rfl, hK⟩
  · rw [List.nil_append]; exact h
noncomputable def agrD (sh : List (Option Nat)) (bs : List Nat) : Bool := @decide (Agr sh bs) (Classical.propDecidable _)
theorem agrD_iff {sh : List (Option Nat)} {bs : List Nat} : agrD sh bs = true ↔ Agr sh bs := by
  unfold agrD
  exact @decide_eq_true_iff _ (Classical.propDecidable _)
theorem agrD_of {sh : List (Option Nat)} {bs : List Nat} {b : Bool} (h : b = true ↔ Agr sh bs) : b = agrD sh bs := Bool.eq_iff_iff.mpr (h.trans agrD_iff.symm)
/-- the answers of what agrees -/
noncomputable def ansA (m : Nat) (sh : List (Option Nat)) (key : Tr) : List (List Str) := ((allT m).filter (agrD sh)).map fun bs => key.ans bs
theorem mem_ansA {m : Nat} {sh : List (Option Nat)} {key : Tr} {ns : List Str} : ns ∈ ansA m sh key ↔ ∃ bs, Bits m bs ∧ Agr sh bs ∧ key.ans bs = ns := by
  unfold ansA
  rw [List.mem_map]
  constructor
  · rintro ⟨bs, h1, h2⟩
    obtain ⟨h3, h4⟩ := List.mem_filter.mp h1
    exact ⟨bs, (mem_allT m bs).mp h3, agrD_iff.mp h4, h2⟩
  · rintro ⟨bs, h1, h2, h3⟩
    exact ⟨bs, List.mem_filter.mpr ⟨(mem_allT m bs).mpr h1, agrD_iff.mpr h2⟩, h3⟩
theorem ansA_len {m : Nat} {sh : List (Option Nat)} {key : Tr} (hm : m ≤ 10) : (ansA m sh key).length ≤ 1024 := by
  unfold ansA
  rw [List.length_map]
  refine Nat.le_trans (List.length_filter_le _ _) ?_
  rw [allT_len]
  exact Nat.pow_le_pow_right (j := 10) (by decide) hm
/-- the answers of the things that agree, by a law -/
theorem agree_comp {M : MS} {kk : List PyData → MS → Prop} {m : Nat} {sh : List (Option Nat)} {key : Tr} {x1 x3 x4 x5 x6 x7 : Option DV} (hm1 : m ≤ 10) (hs : Sheet m sh) (hc : CharLt m key) (hd : key.depth ≤ 12) (h : kk ((ansA m sh key).map encNames) M) :
    compD (.one 5) (dB (dCall sp_L_agrees (daCons (dVar 5) (daCons (dVar 2) daNil)))) (dCall (sp_L_answer 12) (daCons (dVar 0) (daCons (dVar 5) daNil))) [some (.dat (encKey key)), x1, some (.dat (encSheet sh)), x3, x4, x5, x6, x7] none ((allT m).map encBits) [] M kk := by
  have hT : (allT m).length ≤ 1024 := by rw [allT_len]; exact Nat.pow_le_pow_right (j := 10) (by decide) hm1
  refine fm_src (enc := encBits) (p := agrD sh) (f := fun bs => encNames (key.ans bs)) (show stay none M from True.intro) (allT m) [] (fun bs hbs K hK => ?_) (fun bs hbs hp K hK => ?_) (by rw [List.length_nil]; omega) ?_
  · have hb := (mem_allT m bs).mp hbs
    refine ⟨_, rfl, _, rfl, m, sh, bs, rfl, by omega, hs, hb, fun b hbb => ⟨_, rfl, ?_⟩⟩
    have := agrD_of hbb
    rw [this]; exact hK
  · exact ⟨_, rfl, _, rfl, m, key, bs, rfl, (mem_allT m bs).mp hbs, hc, hd, hK⟩
  · rw [List.nil_append]
    unfold ansA at h
    rw [List.map_map] at h
    exact h
theorem rd_L_due : ∀ ds M k, sp_L_due ds M k → t_L_due (rtE k) (startD ["_law_key_here", "_law_words_here", "_law_sheet_here", "_law_answers", "_law_some", "_law_thing", "_law_word", "_law_names_here"] ds) M := by
  rintro _ M k ⟨m, sh, ws, key, rfl, hm, hm1, hs, hw, hc, hd, h⟩
  have hl := hs.1
  have hwl := hw.few
  have hal := ansA_len (sh := sh) (key := key) hm1
  refine ⟨_, rfl, _, encSheet sh, _, rfl, rfl, len_sheet sh, ?_⟩
  refine ⟨sh.length, rfl, by omega, by omega, .inl ⟨_, rfl, ?_⟩⟩
  rw [hl]
  refine agree_comp hm1 hs hc hd ?_
  refine ⟨_, rfl, ws.map PyData.str, rfl, ?_⟩
  refine due_comp (by omega) (by omega) ?_
  refine ⟨_, rfl, .inl ⟨_, rfl, ?_⟩⟩
  refine ⟨_, rfl, _, rfl, ws.map PyData.str, rfl, ?_⟩
  refine due_comp (by omega) (by omega) ?_
  refine ⟨_, rfl, .inl ⟨_, rfl, ?_⟩⟩
  refine ⟨_, rfl, szb rfl, rt_same (h _ _ ⟨hw.asc.sublist List.filter_sublist, fun x hx => (List.mem_filter.mp hx).1⟩ (fun x => ?_) ⟨hw.asc.sublist List.filter_sublist, fun x hx => (List.mem_filter.mp hx).1⟩ fun x => ?_)⟩
  · rw [List.mem_filter]
    refine and_congr_right fun _ => ?_
    rw [List.any_eq_true]
    constructor
    · rintro ⟨b, hb, hb2⟩
      obtain ⟨ns, hns, rfl⟩ := List.mem_map.mp hb
      obtain ⟨bs, b1, b2, rfl⟩ := mem_ansA.mp hns
      exact ⟨bs, b1, b2, of_decide_eq_true hb2⟩
    · rintro ⟨bs, b1, b2, b3⟩
      exact ⟨true, List.mem_map.mpr ⟨_, mem_ansA.mpr ⟨bs, b1, b2, rfl⟩, decide_eq_true b3⟩, rfl⟩
  · rw [List.mem_filter]
    refine and_congr_right fun _ => ?_
    rw [List.all_eq_true]
    constructor
    · intro q bs b1 b2
      exact of_decide_eq_true (q _ (List.mem_map.mpr ⟨_, mem_ansA.mpr ⟨bs, b1, b2, rfl⟩, rfl⟩))
    · intro q b hb
      obtain ⟨ns, hns, rfl⟩ := List.mem_map.mp hb
      obtain ⟨bs, b1, b2, rfl⟩ := mem_ansA.mp hns
      exact decide_eq_true (q bs b1 b2)
end Ks

/-! Ks, plain: how many things agree and are given some names. -/
namespace Ks
open PySem PySem.Spec PyProof.Rows L2 Kf

theorem countP_two {α : Type} {P P1 P2 : α → Bool} : ∀ {l : List α}, (∀ x, x ∈ l → P x = (P1 x || P2 x) ∧ ¬ (P1 x = true ∧ P2 x = true)) → l.countP P = l.countP P1 + l.countP P2
  | [], _ => rfl
  | x :: l, h => by
    obtain ⟨h1, h2⟩ := h x List.mem_cons_self
    rw [List.countP_cons, List.countP_cons, List.countP_cons, countP_two fun y hy => h y (List.mem_cons_of_mem _ hy), h1]
    cases e1 : P1 x <;> cases e2 : P2 x <;> simp_all <;> omega
/-- how many things agree and are as asked -/
noncomputable def nA (m : Nat) (sh : List (Option Nat)) (p : List Nat → Bool) : Nat := (allT m).countP fun bs => agrD sh bs && p bs
theorem nA_filter {m : Nat} {sh : List (Option Nat)} {p : List Nat → Bool} : nA m sh p = (((allT m).filter (agrD sh)).filter p).length := by
  unfold nA
  rw [List.filter_filter, ← List.countP_eq_length_filter]
  exact List.countP_congr fun x _ => by rw [Bool.and_comm]
theorem nA_congr {m : Nat} {sh : List (Option Nat)} {p q : List Nat → Bool} (h : ∀ bs, Bits m bs → Agr sh bs → p bs = q bs) : nA m sh p = nA m sh q := by
  unfold nA
  refine List.countP_congr fun bs hb => ?_
  cases e : agrD sh bs with
  | false => rfl
  | true => rw [h bs ((mem_allT m bs).mp hb) (agrD_iff.mp e)]
theorem agr_set {sh : List (Option Nat)} {c v : Nat} (hn : sh[c]? = some none) (bs : List Nat) : Agr (sh.set c (some v)) bs ↔ Agr sh bs ∧ bs[c]? = some v := by
  have hl := (List.getElem?_eq_some_iff.mp hn).1
  constructor
  · intro h
    refine ⟨fun i w hw => ?_, h c v (List.getElem?_set_self hl)⟩
    by_cases e : c = i
    · subst e; rw [hn] at hw; cases hw
    · exact h i w (by rw [List.getElem?_set_ne e]; exact hw)
  · rintro ⟨h1, h2⟩ i w hw
    by_cases e : c = i
    · subst e
      rw [List.getElem?_set_self hl] at hw
      cases hw; exact h2
    · rw [List.getElem?_set_ne e] at hw
      exact h1 i w hw
theorem agrD_eq {sh sh' : List (Option Nat)} {bs : List Nat} {b : Bool} (h : Agr sh bs ↔ Agr sh' bs ∧ b = true) : agrD sh bs = (agrD sh' bs && b) := by
  rw [Bool.eq_iff_iff, Bool.and_eq_true, agrD_iff, agrD_iff]; exact h
/-- a character that is not known is 0 or 1 -/
theorem nA_split {m : Nat} {sh : List (Option Nat)} {c : Nat} {p : List Nat → Bool} (hc : c < m) (hn : sh[c]? = some none) : nA m sh p = nA m (sh.set c (some 0)) p + nA m (sh.set c (some 1)) p := by
  unfold nA
  refine countP_two fun bs hb => ?_
  obtain ⟨v, hv, hv01, _⟩ := ((mem_allT m bs).mp hb).at hc
  have e0 : agrD (sh.set c (some 0)) bs = (agrD sh bs && decide (v = 0)) := agrD_eq (by rw [agr_set hn, hv]; simp)
  have e1 : agrD (sh.set c (some 1)) bs = (agrD sh bs && decide (v = 1)) := agrD_eq (by rw [agr_set hn, hv]; simp)
  rw [e0, e1]
  rcases hv01 with rfl | rfl <;> cases agrD sh bs <;> cases p bs <;> simp
theorem nA_flip_le {m : Nat} {sh : List (Option Nat)} {c v w : Nat} {p : List Nat → Bool} (hc : c < m) (hn : sh[c]? = some none) (hw : w = 0 ∨ w = 1) (hp : ∀ bs x, p (bs.set c x) = p bs) : nA m (sh.set c (some v)) p ≤ nA m (sh.set c (some w)) p := by
  rw [nA_filter, nA_filter]
  have mem : ∀ {v : Nat} {bs : List Nat}, bs ∈ ((allT m).filter (agrD (sh.set c (some v)))).filter p ↔ Bits m bs ∧ (Agr sh bs ∧ bs[c]? = some v) ∧ p bs = true := fun {v bs} => by
    rw [List.mem_filter, List.mem_filter, mem_allT, agrD_iff, agr_set hn, and_assoc]
  have nd : (((allT m).filter (agrD (sh.set c (some v)))).filter p).Nodup := ((allT_nodup m).filter _).filter _
  have := nodup_len ((((allT m).filter (agrD (sh.set c (some v)))).filter p).map fun bs => bs.set c w) (((allT m).filter (agrD (sh.set c (some w)))).filter p) (nodup_mapOn nd fun a ha b hb e => ?_) fun x hx => ?_
  · rwa [List.length_map] at this
  · obtain ⟨_, ⟨_, a1⟩, _⟩ := mem.mp ha
    obtain ⟨_, ⟨_, b1⟩, _⟩ := mem.mp hb
    have h : (a.set c w).set c v = (b.set c w).set c v := congrArg (fun l => l.set c v) e
    rw [List.set_set, List.set_set, set_same a1, set_same b1] at h
    exact h
  · obtain ⟨a, ha, rfl⟩ := List.mem_map.mp hx
    obtain ⟨a0, ⟨a1, a2⟩, a3⟩ := mem.mp ha
    refine mem.mpr ⟨a0.set hw, ⟨fun i u hu => ?_, List.getElem?_set_self (by rw [a0.1]; exact hc)⟩, by rw [hp]; exact a3⟩
    by_cases e : c = i
    · subst e; rw [hn] at hu; cases hu
    · rw [List.getElem?_set_ne e]; exact a1 i u hu
theorem nA_half {m : Nat} {sh : List (Option Nat)} {c v : Nat} {p : List Nat → Bool} (hc : c < m) (hn : sh[c]? = some none) (hv : v = 0 ∨ v = 1) (hp : ∀ bs x, p (bs.set c x) = p bs) : nA m sh p = 2 * nA m (sh.set c (some v)) p := by
  rw [nA_split hc hn]
  have h1 := nA_flip_le (v := 0) (w := 1) hc hn (.inr rfl) hp
  have h2 := nA_flip_le (v := 1) (w := 0) hc hn (.inl rfl) hp
  rcases hv with rfl | rfl <;> omega
/-! ### all things that agree -/
def freeN : List (Option Nat) → Nat
  | [] => 1
  | none :: r => 2 * freeN r
  | some _ :: r => freeN r
theorem freeN_pos : ∀ sh, 0 < freeN sh
  | [] => Nat.zero_lt_one
  | none :: r => by have := freeN_pos r; show 0 < 2 * freeN r; omega
  | some _ :: r => freeN_pos r
theorem agr_cons {p : Option Nat} {sh : List (Option Nat)} {v : Nat} {bs : List Nat} : Agr (p :: sh) (v :: bs) ↔ Agr sh bs ∧ (p = none ∨ p = some v) := by
  constructor
  · intro h
    refine ⟨fun i w hw => h (i + 1) w (by simpa using hw), ?_⟩
    cases p with
    | none => exact .inl rfl
    | some w =>
      have := h 0 w rfl
      rw [List.getElem?_cons_zero] at this
      cases this; exact .inr rfl
  · rintro ⟨h1, h2⟩ i w hw
    cases i with
    | zero =>
      rw [List.getElem?_cons_zero] at hw
      cases hw
      rcases h2 with h2 | h2
      · cases h2
      · cases h2; rfl
    | succ i => exact h1 i w (by simpa using hw)
theorem agrD_cons {p : Option Nat} {sh : List (Option Nat)} {v : Nat} {bs : List Nat} : agrD (p :: sh) (v :: bs) = (agrD sh bs && decide (p = none ∨ p = some v)) := by
  rw [Bool.eq_iff_iff, Bool.and_eq_true, agrD_iff, agrD_iff, decide_eq_true_iff]; exact agr_cons
theorem nA_all : ∀ {m : Nat} {sh : List (Option Nat)}, Sheet m sh → nA m sh (fun _ => true) = freeN sh
  | 0, sh, hs => by
    have : sh = [] := List.eq_nil_of_length_eq_zero hs.1
    subst this
    have e : agrD [] [] = true := agrD_iff.mpr fun i v h => by simp at h
    unfold nA
    rw [allT, List.countP_singleton, e]; rfl
  | m + 1, [], hs => by have := hs.1; cases this
  | m + 1, p :: sh, hs => by
    have hs' : Sheet m sh := ⟨Nat.succ.inj hs.1, fun v hv => hs.2 v (List.mem_cons_of_mem _ hv)⟩
    have ih := nA_all hs'
    unfold nA at ih ⊢
    rw [allT, List.countP_append, List.countP_map, List.countP_map]
    have key : ∀ v, (allT m).countP ((fun bs => agrD (p :: sh) bs && true) ∘ (v :: ·)) = if p = none ∨ p = some v then freeN sh else 0 := fun v => by
      by_cases h : p = none ∨ p = some v
      · rw [if_pos h, ← ih]
        refine List.countP_congr fun bs _ => ?_
        show (agrD (p :: sh) (v :: bs) && true) = true ↔ _
        rw [agrD_cons, decide_eq_true h, Bool.and_true]
      · rw [if_neg h, List.countP_eq_zero]
        intro bs _
        show ¬ (agrD (p :: sh) (v :: bs) && true) = true
        rw [agrD_cons, decide_eq_false h]; simp
    rw [key 0, key 1]
    cases p with
    | none => simp [freeN]; omega
    | some v => rcases hs.2 v List.mem_cons_self with rfl | rfl <;> simp [freeN]
/-! ### names -/
theorem cnt_nA {m : Nat} {sh : List (Option Nat)} {t : Tr} (q : List Str → Bool) : (ansA m sh t).countP q = nA m sh fun bs => q (t.ans bs) := by
  unfold ansA nA
  rw [List.countP_map, List.countP_filter]
  exact List.countP_congr fun x _ => by
    show (q (t.ans x) && agrD sh x) = true ↔ _
    rw [Bool.and_comm]
theorem count_nA {m : Nat} {sh : List (Option Nat)} {t : Tr} (ns : List Str) : (ansA m sh t).count ns = nA m sh fun bs => t.ans bs == ns := by
  show (ansA m sh t).countP (· == ns) = _
  exact cnt_nA _
theorem cnt_leaf {m : Nat} {sh : List (Option Nat)} (hs : Sheet m sh) (ns ms : List Str) : (ansA m sh (.leaf ns)).count ms = if ns = ms then freeN sh else 0 := by
  rw [count_nA]
  by_cases e : ns = ms
  · rw [if_pos e, ← nA_all hs]
    exact nA_congr fun bs _ _ => by show (ns == ms) = true; rw [beq_iff_eq]; exact e
  · rw [if_neg e]
    unfold nA
    rw [List.countP_eq_zero]
    intro bs _ h
    rw [Bool.and_eq_true] at h
    exact e (eq_of_beq h.2)
theorem ans_known {m : Nat} {sh : List (Option Nat)} {c v : Nat} {a b : Tr} (h : sh[c]? = some (some v)) : ansA m sh (.node c a b) = ansA m sh (if v = 0 then a else b) := by
  unfold ansA
  refine List.map_congr_left fun bs hb => ?_
  obtain ⟨_, h2⟩ := List.mem_filter.mp hb
  have := (agrD_iff.mp h2) c v h
  rw [ans_node, List.getD_eq_getElem?_getD, this]
  show (if v = 0 then _ else _) = _
  split <;> rfl
theorem cnt_free {m : Nat} {ord : List Nat} {sh : List (Option Nat)} {c : Nat} {a b : Tr} (ho : Ordd ord (.node c a b)) (hc : c < m) (hn : sh[c]? = some none) (ns : List Str) : (ansA m sh (.node c a b)).count ns = (ansA m sh a).count ns / 2 + (ansA m sh b).count ns / 2 := by
  have ia : ∀ bs x, (a.ans (bs.set c x) == ns) = (a.ans bs == ns) := fun bs x => by rw [ans_set ho.2.2.2.2.1 ho.2.1]
  have ib : ∀ bs x, (b.ans (bs.set c x) == ns) = (b.ans bs == ns) := fun bs x => by rw [ans_set ho.2.2.2.2.2 ho.2.2.1]
  rw [count_nA, count_nA, count_nA, nA_split hc hn, nA_half (v := 0) (p := fun bs => a.ans bs == ns) hc hn (.inl rfl) ia, nA_half (v := 1) (p := fun bs => b.ans bs == ns) hc hn (.inr rfl) ib]
  have e0 : nA m (sh.set c (some 0)) (fun bs => (Tr.node c a b).ans bs == ns) = nA m (sh.set c (some 0)) fun bs => a.ans bs == ns := nA_congr fun bs hb hA => by
    rw [ans_node, List.getD_eq_getElem?_getD, ((agr_set hn bs).mp hA).2]; rfl
  have e1 : nA m (sh.set c (some 1)) (fun bs => (Tr.node c a b).ans bs == ns) = nA m (sh.set c (some 1)) fun bs => b.ans bs == ns := nA_congr fun bs hb hA => by
    rw [ans_node, List.getD_eq_getElem?_getD, ((agr_set hn bs).mp hA).2]; rfl
  rw [e0, e1]
  omega
/-! ### shares -/
abbrev Sh := List (List Str × Nat)
def addAll (S T : Sh) : Sh := T.foldl (fun S p => pk S p.1 ((lk S p.1).getD 0 + p.2 / 2)) S
structure ShOk (m : Nat) (sh : List (Option Nat)) (t : Tr) (S : Sh) : Prop where
  nd : (S.map (·.1)).Nodup
  at' : ∀ ns, lk S ns = if (ansA m sh t).count ns = 0 then none else some ((ansA m sh t).count ns)
theorem lk_mem {κ α : Type} [DecidableEq κ] : ∀ {S : List (κ × α)} {k : κ} {v : α}, lk S k = some v → (k, v) ∈ S
  | [], _, _, h => by cases h
  | p :: r, k, v, h => by
    rw [lk_cons] at h
    by_cases e : p.1 = k
    · rw [if_pos e] at h; cases h; subst e; exact List.mem_cons_self
    · rw [if_neg e] at h; exact List.mem_cons_of_mem _ (lk_mem h)
theorem lk_of {κ α : Type} [DecidableEq κ] : ∀ {S : List (κ × α)} {k : κ} {v : α}, (S.map (·.1)).Nodup → (k, v) ∈ S → lk S k = some v
  | [], _, _, _, h => absurd h List.not_mem_nil
  | p :: r, k, v, nd, h => by
    rw [List.map_cons, List.nodup_cons] at nd
    rw [lk_cons]
    rcases List.mem_cons.mp h with h | h
    · rw [← h, if_pos rfl]
    · rw [if_neg fun e : p.1 = k => nd.1 (by rw [e]; exact List.mem_map.mpr ⟨_, h, rfl⟩)]
      exact lk_of nd.2 h
theorem lk_none {κ α : Type} [DecidableEq κ] {S : List (κ × α)} {k : κ} (h : k ∉ S.map (·.1)) : lk S k = none := by
  cases e : lk S k with
  | none => rfl
  | some v => exact absurd (List.mem_map.mpr ⟨_, lk_mem e, rfl⟩) h
theorem addAll_nd : ∀ {T S : Sh}, (S.map (·.1)).Nodup → ((addAll S T).map (·.1)).Nodup
  | [], _, h => h
  | p :: r, _, h => addAll_nd (T := r) (pk_keys_nodup _ _ h)
theorem addAll_len : ∀ {T S : Sh}, (addAll S T).length ≤ S.length + T.length
  | [], S => Nat.le_refl _
  | p :: r, S => by
    have h1 := addAll_len (T := r) (S := pk S p.1 ((lk S p.1).getD 0 + p.2 / 2))
    have h2 := pk_length p.1 ((lk S p.1).getD 0 + p.2 / 2) S
    rw [List.length_cons]
    exact Nat.le_trans h1 (by omega)
theorem addAll_lk : ∀ {T S : Sh}, (T.map (·.1)).Nodup → ∀ ns, lk (addAll S T) ns = match lk T ns with
    | none => lk S ns
    | some n => some ((lk S ns).getD 0 + n / 2)
  | [], S, _, ns => rfl
  | p :: r, S, nd, ns => by
    rw [List.map_cons, List.nodup_cons] at nd
    show lk (addAll (pk S p.1 ((lk S p.1).getD 0 + p.2 / 2)) r) ns = _
    rw [addAll_lk nd.2 ns, lk_cons, lk_put]
    by_cases e : p.1 = ns
    · subst e
      rw [lk_none nd.1, if_pos rfl, if_pos rfl]
    · rw [if_neg e, if_neg (Ne.symm e)]
theorem ShOk.leaf {m : Nat} {sh : List (Option Nat)} (hs : Sheet m sh) (ns : List Str) : ShOk m sh (.leaf ns) [(ns, freeN sh)] :=
  ⟨by simp, fun ms => by
    have := freeN_pos sh
    rw [cnt_leaf hs, lk_cons, lk_nil]
    by_cases e : ns = ms
    · simp only [e, if_true]; rw [if_neg (by omega)]
    · simp only [e, if_false, if_true]⟩
theorem ShOk.known {m : Nat} {sh : List (Option Nat)} {c v : Nat} {a b : Tr} {S : Sh} (h : sh[c]? = some (some v)) (s : ShOk m sh (if v = 0 then a else b) S) : ShOk m sh (.node c a b) S :=
  ⟨s.nd, fun ns => by rw [ans_known h]; exact s.at' ns⟩
theorem cnt_even {m : Nat} {sh : List (Option Nat)} {c : Nat} {ord : List Nat} {a : Tr} (ho : Ordd ord a) (hr : ord.idxOf c < rk ord a) (hc : c < m) (hn : sh[c]? = some none) (ns : List Str) : (ansA m sh a).count ns % 2 = 0 := by
  have ia : ∀ bs x, (a.ans (bs.set c x) == ns) = (a.ans bs == ns) := fun bs x => by rw [ans_set ho hr]
  rw [count_nA, nA_half (v := 0) hc hn (.inl rfl) ia]; omega
theorem ShOk.free {m : Nat} {ord : List Nat} {sh : List (Option Nat)} {c : Nat} {a b : Tr} {Sa Sb : Sh} (ho : Ordd ord (.node c a b)) (hc : c < m) (hn : sh[c]? = some none) (ha : ShOk m sh a Sa) (hb : ShOk m sh b Sb) : ShOk m sh (.node c a b) (addAll (addAll [] Sa) Sb) :=
  ⟨addAll_nd (addAll_nd List.nodup_nil), fun ns => by
    have ea := cnt_even ho.2.2.2.2.1 ho.2.1 hc hn ns
    have eb := cnt_even ho.2.2.2.2.2 ho.2.2.1 hc hn ns
    rw [addAll_lk hb.nd, addAll_lk ha.nd, ha.at', hb.at', cnt_free ho hc hn, lk_nil]
    generalize (ansA m sh a).count ns = x at *
    generalize (ansA m sh b).count ns = y at *
    by_cases hx : x = 0
    · by_cases hy : y = 0
      · simp [hx, hy]
      · simp only [hx, hy, if_true, if_false]
        rw [if_neg (by omega)]; simp
    · by_cases hy : y = 0
      · simp only [hx, hy, if_true, if_false]
        rw [if_neg (by omega)]; simp
      · simp only [hx, hy, if_false]
        rw [if_neg (by omega)]; simp⟩
theorem ShOk.pos {m : Nat} {sh : List (Option Nat)} {t : Tr} {S : Sh} (s : ShOk m sh t S) {ns : List Str} {n : Nat} (h : (ns, n) ∈ S) : n = (ansA m sh t).count ns ∧ 0 < n := by
  have e := lk_of s.nd h
  rw [s.at'] at e
  by_cases z : (ansA m sh t).count ns = 0
  · rw [if_pos z] at e; cases e
  · rw [if_neg z] at e
    have := Option.some.inj e
    omega
theorem ShOk.keys {m : Nat} {sh : List (Option Nat)} {t : Tr} {S : Sh} (s : ShOk m sh t S) (ns : List Str) : ns ∈ S.map (·.1) ↔ ns ∈ ansA m sh t := by
  constructor
  · intro h
    obtain ⟨p, hp, rfl⟩ := List.mem_map.mp h
    obtain ⟨h1, h2⟩ := s.pos hp
    exact List.count_pos_iff.mp (by omega)
  · intro h
    have z := List.count_pos_iff.mpr h
    have e := s.at' ns
    rw [if_neg (by omega)] at e
    exact List.mem_map.mpr ⟨_, lk_mem e, rfl⟩
theorem ShOk.len {m : Nat} {sh : List (Option Nat)} {t : Tr} {S : Sh} (s : ShOk m sh t S) (hm : m ≤ 10) : S.length ≤ 1024 := by
  have := nodup_len (S.map (·.1)) (ansA m sh t) s.nd fun x hx => (s.keys x).mp hx
  rw [List.length_map] at this
  exact Nat.le_trans this (ansA_len hm)
/-- counts of unlike things make up all -/
theorem sum_counts {α : Type} [BEq α] [LawfulBEq α] (q : α → Bool) : ∀ (L : List α) (Ks : List α), Ks.Nodup → (∀ x, x ∈ L → x ∈ Ks) → ((Ks.filter q).map fun k => L.count k).sum = L.countP q
  | [], Ks, _, _ => by
    rw [List.countP_nil]
    induction Ks.filter q with
    | nil => rfl
    | cons a r ih => rw [List.map_cons, List.sum_cons, ih]; rfl
  | x :: L, Ks, nd, h => by
    have ih := sum_counts q L Ks nd fun y hy => h y (List.mem_cons_of_mem _ hy)
    have one : ∀ (l : List α), l.Nodup → (l.map fun k => (x :: L).count k).sum = (l.map fun k => L.count k).sum + if x ∈ l then 1 else 0 := by
      intro l
      induction l with
      | nil => intro _; rfl
      | cons a l ih =>
        intro nd
        obtain ⟨h1, h2⟩ := List.nodup_cons.mp nd
        rw [List.map_cons, List.map_cons, List.sum_cons, List.sum_cons, ih h2, List.count_cons]
        by_cases e : x = a
        · subst e
          rw [if_pos (beq_self_eq_true x), if_neg h1, if_pos List.mem_cons_self]; omega
        · have e1 : (x == a) = false := beq_eq_false_iff_ne.mpr e
          rw [e1, if_neg Bool.false_ne_true]
          by_cases e2 : x ∈ l
          · rw [if_pos e2, if_pos (List.mem_cons_of_mem _ e2)]; omega
          · rw [if_neg e2, if_neg fun z => (List.mem_cons.mp z).elim e e2]; omega
    rw [one _ (nd.filter _), ih, List.countP_cons]
    by_cases e : q x = true
    · rw [if_pos e, if_pos (List.mem_filter.mpr ⟨h x List.mem_cons_self, e⟩)]
    · rw [if_neg e, if_neg fun z => e (List.mem_filter.mp z).2]
theorem ShOk.sum {m : Nat} {sh : List (Option Nat)} {t : Tr} {S : Sh} (s : ShOk m sh t S) (q : List Str → Bool) : ((S.filter fun p => q p.1).map (·.2)).sum = (ansA m sh t).countP q := by
  rw [← sum_counts q _ _ s.nd fun x hx => (s.keys x).mpr hx, List.filter_map, List.map_map]
  congr 1
  exact List.map_congr_left fun p hp => (s.pos (List.mem_filter.mp hp).1).1
end Ks

/-! Kf: lists of what is owned; dicts by tuples walked, looked at under a lock. -/
namespace Kf
open PySem PySem.Spec PyProof PyProof.Rows L2

section
variable {X : Cx} {pins : List (Addr × Obj)} {σ : L2.St} {H : Hp} {s : Shared} {d : Addr} {od : Obj} {xs : List (NestedKey × Addr × Value)}
/-- what a locked dict is in the heap -/
theorem frzX (I : Inv X pins σ H s) (h : H d = some (.frz od (DicO X.prog X.w d xs))) :
    (d == sysModules) = false ∧ s.heap.get? d = some od ∧ od.ExactDict ∧ ∃ (es : Array DictEntry) (ep : Nat), od.data = .dict es ep ∧ es.size = xs.length ∧ ∀ (i : Nat) (hi : i < es.size), ∃ y, xs[i]? = some y ∧ es[i].key = .ref y.2.1 ∧ es[i].val = y.2.2 := by
  obtain ⟨hg, ⟨hs, o, es, ep, ho, hx, hd, he⟩, hrest⟩ := (show s.heap.get? d = some od ∧ ObjOk X.prog X.w H s.heap d (DicO X.prog X.w d xs) from I.hok d _ h)
  rw [hg] at ho
  cases ho
  have hsz := size_of_entries he
  refine ⟨hs, hg, hx, es, ep, hd, hsz, fun i hi => ?_⟩
  have hx' : i < xs.length := hsz ▸ hi
  have e := entry_at he i
  rw [Array.getElem?_eq_getElem hi, List.getElem?_eq_getElem hx', Option.map_some] at e
  have e' := Option.some.inj e
  exact ⟨xs[i], List.getElem?_eq_getElem hx', by rw [e']; rfl, by rw [e']; rfl⟩
end
/-- the keys of the locked dict at d -/
def ItKX (P : Program) (w : World) (d : Addr) (od : Obj) (xs : List (NestedKey × Addr × Value)) : It :=
  ⟨fun i H => H d = some (.frz od (DicO P w d xs)) ∧ i < xs.length, fun i H x H' => H' = H ∧ ∃ y, xs[i]? = some y ∧ x = .ref y.2.1, fun i H => H d = some (.frz od (DicO P w d xs)) ∧ xs.length ≤ i⟩
/-- the pairs, each a new tuple -/
def ItIX (P : Program) (w : World) (d : Addr) (od : Obj) (xs : List (NestedKey × Addr × Value)) : It :=
  ⟨fun i H => H d = some (.frz od (DicO P w d xs)) ∧ i < xs.length, fun i H x H' => ∃ T y v, xs[i]? = some y ∧ RelV v y.2.2 ∧ x = .ref T ∧ H T = none ∧ H' = upd H T (.tup [.ref y.2.1, v]), fun i H => H d = some (.frz od (DicO P w d xs)) ∧ xs.length ≤ i⟩
section
variable {P : Program} {w : World} {K : PySem.W.Frag} {tg : Expr} {d : Addr} {od : Obj} {es : Array DictEntry} {ep : Nat} {xs : List (NestedKey × Addr × Value)}
theorem turn_keysX (it : Addr) (hod : od.data = .dict es ep) : Turn P w K tg (ItKX P w d od xs) [it] it (fun i h => h.IsKeyIter it d i es.size ep) where
  mem := by simp
  obj := fun i h st b hb => by
    have e : b = it := by simpa using hb
    subst e
    obtain ⟨oi, e, c, dd⟩ := st
    exact ⟨oi, e, fun v z => by rw [dd] at z; cases z⟩
  keep := fun i h h' st k => st.at fun oi e => k it (by simp) oi e
  item := by
    intro X hP hw hK hc i pins s σ H E I hf st hg
    subst hP hw hK
    obtain ⟨hd, hi⟩ := hg
    obtain ⟨f0, f1, f2, f3, f4, f5⟩ := hf it (by simp)
    obtain ⟨hs, hgd, hx, es', ep', hdt, hsz, ent⟩ := frzX I hd
    obtain ⟨rfl, rfl⟩ := dict_ep hod hdt
    have hlt : i < es'.size := by omega
    obtain ⟨y, hy, hkey, _⟩ := ent i hlt
    refine wpAny_pyNext_keys_item_raw st ⟨od, hgd, hx, hdt⟩ hlt fun h' st' sb => ?_
    have I1 : Inv X pins σ H { s with heap := h' } := I.turned (t' := s.toks) (fun b ob hb e => (sb.2 b hb).trans e) f0 f1 f3 f4 f5
    obtain ⟨oi, e, c, dd⟩ := id st'
    exact ⟨es'[i].key, rfl, go_of (s := { s with heap := h' }) e c dd (by decide) ⟨.ref y.2.1, H, I1, hkey, ⟨rfl, y, hy, rfl⟩, st', fun b hb => (hf b hb).1⟩⟩
  done := by
    intro X hP hw hK hc i pins s σ H E I hf st hg
    subst hP hw hK
    obtain ⟨hd, hi⟩ := hg
    obtain ⟨f0, f1, f2, f3, f4, f5⟩ := hf it (by simp)
    obtain ⟨hs, hgd, hx, es', ep', hdt, hsz, ent⟩ := frzX I hd
    obtain ⟨rfl, rfl⟩ := dict_ep hod hdt
    exact wpAny_pyNext_keys_end_raw (I.ok.hd hc) st ⟨od, hgd, hx, hdt⟩ (by omega) fun h' eb => ⟨rfl, I.turned (t' := s.toks) (fun b ob hb e => eb b ob hb e) f0 f1 f3 f4 f5⟩
  self := fun A i s Q E st h => wpAny_pyIter_keyiter st h
theorem turn_itemsX {elts : List Expr} {kk : Nat} {tpos : Pos} (it : Addr) (hod : od.data = .dict es ep) (hv : ∀ (i : Nat) (y : NestedKey × Addr × Value), xs[i]? = some y → ∃ v, RelV v y.2.2) :
    Turn P w K (.Tuple elts kk tpos) (ItIX P w d od xs) [it] it (fun i h => ∃ ok ov, IsItemIter h it d i es.size ep ok ov) where
  mem := by simp
  obj := fun i h st b hb => by
    have e : b = it := by simpa using hb
    subst e
    obtain ⟨ok, ov, e⟩ := st
    exact ⟨_, e, fun v z => nomatch z⟩
  keep := fun i h h' st k => let ⟨ok, ov, e⟩ := st; ⟨ok, ov, k it (by simp) _ e⟩
  item := by
    intro X hP hw hK hc i pins s σ H E I hf st hg
    subst hP hw hK
    obtain ⟨hd, hi⟩ := hg
    obtain ⟨hs, hgd, hx, es', ep', hdt, hsz, ent⟩ := frzX I hd
    obtain ⟨rfl, rfl⟩ := dict_ep hod hdt
    have hlt' : i < es'.size := by omega
    obtain ⟨y, hy, hkey, hval⟩ := ent i hlt'
    obtain ⟨v, rv⟩ := hv i y hy
    obtain ⟨ok, ov, he⟩ := st
    have hlt : it < s.heap.objs.size := Heap.lt_size he
    refine wpAny_pyNext_items_item_raw he ⟨od, hgd, hx, hdt⟩ hlt' fun h' ho hT hz hk => ?_
    refine ⟨_, rfl, wpAny_letOwnedTupleGo_items (s := { s with heap := h' }) ho fun h'' he' sb => ?_⟩
    have hT2 : h''.get? s.heap.objs.size = some { cls := .type "tuple", data := .seq #[es'[i].key, es'[i].val] } := (sb.2 _ (Nat.ne_of_gt hlt)).trans hT
    have new : ObjOk X.prog X.w (upd H s.heap.objs.size (.tup [.ref y.2.1, v])) h'' s.heap.objs.size (.tup [.ref y.2.1, v]) :=
      ⟨by show 2 ≤ sizeLine; decide, [es'[i].key, es'[i].val], .cons hkey (.cons (by rw [hval]; exact rv) .nil), ⟨_, hT2, rfl, _, rfl⟩⟩
    have I1 : Inv X pins σ (upd H s.heap.objs.size (.tup [.ref y.2.1, v])) { s with heap := h'' } :=
      I.turnedNew (t' := s.toks) (ch := [it]) (fun b ob hb e => (sb.2 b (by simpa using hb)).trans (hk b ob (by simpa using hb) e)) hf (Nat.le_refl _) new
    refine ⟨.ref s.heap.objs.size, _, I1, rfl, ⟨_, y, v, hy, rv, rfl, I.hok.fresh (Nat.le_refl _), rfl⟩, ⟨es'[i].key, es'[i].val, he'⟩, fun b hb => ?_⟩
    have e : b = it := by simpa using hb
    rw [e, upd_ne (Nat.ne_of_lt hlt)]
    exact (hf it (by simp)).1
  done := by
    intro X hP hw hK hc i pins s σ H E I hf st hg
    subst hP hw hK
    obtain ⟨hd, hi⟩ := hg
    obtain ⟨f0, f1, f2, f3, f4, f5⟩ := hf it (by simp)
    obtain ⟨hs, hgd, hx, es', ep', hdt, hsz, ent⟩ := frzX I hd
    obtain ⟨rfl, rfl⟩ := dict_ep hod hdt
    obtain ⟨ok, ov, he⟩ := st
    exact wpAny_pyNext_items_end_raw (I.ok.hd hc) he ⟨od, hgd, hx, hdt⟩ (by omega) fun h' eb => ⟨rfl, I.turned (t' := s.toks) (fun b ob hb e => eb b ob hb e) f0 f1 f3 f4 f5⟩
  self := fun A i s Q E st h => let ⟨_, _, e⟩ := st; PySem.W.kcp_self e h
end
/-! ### for k in d, for k, v in d.items() -/
def iKeysX (X : Cx) (td : TE) : TI := fun σ H R => td σ H fun x H1 => ∃ d od xs, x = .ref d ∧ H1 d = some (.frz od (DicO X.prog X.w d xs)) ∧ R (ItKX X.prog X.w d od xs) H1
def iItemsX (X : Cx) (td : TE) : TI := fun σ H R => td σ H fun x H1 => ∃ d od xs, x = .ref d ∧ H1 d = some (.frz od (DicO X.prog X.w d xs)) ∧ (∀ (i : Nat) (y : NestedKey × Addr × Value), xs[i]? = some y → ∃ v, RelV v y.2.2) ∧ R (ItIX X.prog X.w d od xs) H1
section
variable {X : Cx} {tg e : Expr} {td : TE} {apos cpos : Pos}
theorem pi_keysX (he : PE X e td) : PI X tg e (iKeysX X td) := by
  refine ⟨fun pins s σ H R I h => ?_⟩
  refine thn (he.run pins s σ H _ I h) fun u s1 ⟨x, H1, I1, rx, d, od, xs, ex, hd, q⟩ => ?_
  subst ex
  obtain rfl : u = Value.ref d := rx
  obtain ⟨hs, hgd, hx, es, ep, hdt, hsz, ent⟩ := frzX I1 hd
  exact iter_keys hs hgd hx hdt (pi_one (tk := s1.toks) I1 _ (turn_keysX _ hdt) ⟨_, Heap.get?_push_size _ rfl, rfl, rfl⟩ q)
theorem pi_itemsX {elts : List Expr} {kk : Nat} {tpos : Pos} (he : PE X e td) (hbase : attributeBase e "items" X.env (eval e X.env) = eval e X.env := by rfl) (hline : (apos.endLine == cpos.line) = true := by rfl) :
    PI X (.Tuple elts kk tpos) (.Call (.Attribute e "items" apos) [] [] cpos) (iItemsX X td) := by
  refine ⟨fun pins s σ H R I h => ?_⟩
  refine wpAny_Call_method (T := "dict") (id := "dict.items") hbase rfl hline F.plainAttrs_dict F.slot_dict_items F.type_dict_items (thn (he.run pins s σ H _ I h) fun u s1 ⟨x, H1, I1, rx, d, od, xs, ex, hd, hv, q⟩ => ?_)
  subst ex
  obtain rfl : u = Value.ref d := rx
  obtain ⟨hs, hgd, hx, es, ep, hdt, hsz, ent⟩ := frzX I1 hd
  have hr : s1.heap.DictRaw d es ep := ⟨od, hgd, hx, hdt⟩
  refine ⟨hr.typeIs, fun b q => by cases q; exact ⟨od, hgd, hx.2.1⟩, ?_⟩
  have I2 : Inv X pins σ H1 { s1 with heap := s1.heap.push { cls := .type "dict_items", data := .fields #[.ref d] } } := I1.kept (t' := s1.toks) fun b ob q => Heap.get?_push_of_some _ q
  have fin : wpAny (model X.prog X.w) X.A (pyIter (.ref s1.heap.objs.size)) (PIE X pins σ (.Tuple elts kk tpos) R) X.xe { s1 with heap := s1.heap.push { cls := .type "dict_items", data := .fields #[.ref d] } } :=
    wpAny_pyIter_items_raw (d := d) ⟨_, Heap.get?_push_size _ rfl, rfl, rfl⟩ (hr.at fun o e => Heap.get?_push_of_some _ e) (pi_one (tk := s1.toks) I2 _ (turn_itemsX _ hdt hv) ⟨.none, .none, Heap.get?_push_size _ rfl⟩ q)
  show wpAny _ _ (callWith cpos (.builtin "dict.items") [.ref d] [] []) _ X.xe s1
  exact method_meetsIn F.slot_dict_items F.entry_dict_items rfl (PySem.evalArgs_none ⟨rfl, hr.typeIs, F.args_dict_items_1 _, _, meets_dict_items_raw d hs, ⟨es, ep, hr⟩, fin⟩)
end
/-! ### in data -/
section
variable {X : Cx} {tg e : Expr} {td : TD} {apos cpos : Pos}
def keysD (kvs : List (NestedKey × PyData)) : List PyData := kvs.map fun p => p.1.data
def itemsD (kvs : List (NestedKey × PyData)) : List PyData := kvs.map fun p => .tuple [p.1.data, p.2]
def diKeysF (td : TD) : TDi := fun ρ M k => td ρ M fun x M1 => ∃ d od xs kvs, x = .ref d ∧ M1 d = some (.dicF od xs kvs) ∧ k (keysD kvs) (some (d, .dicF od xs kvs)) M1
def diItemsF (td : TD) : TDi := fun ρ M k => td ρ M fun x M1 => ∃ d od xs kvs, x = .ref d ∧ M1 d = some (.dicF od xs kvs) ∧ k (itemsD kvs) (some (d, .dicF od xs kvs)) M1
theorem pairT_get {K : PySem.W.Frag} {B : List Addr} {M : MS} {H : Hp} {kvs : List (NestedKey × PyData)} {xs : List (NestedKey × Addr × Value)} (h : Paired (EntT K B M H) kvs xs) {i : Nat} {y : NestedKey × Addr × Value} (e : xs[i]? = some y) : ∃ p, kvs[i]? = some p ∧ EntT K B M H p y := by
  induction h generalizing i with
  | nil => simp at e
  | cons a b ih =>
    cases i with
    | zero => simp at e; subst e; exact ⟨_, rfl, a⟩
    | succ i => obtain ⟨p, h1, h2⟩ := ih (i := i) (by simpa using e); exact ⟨p, by simpa using h1, h2⟩
theorem qi_keysF (h : QE X e td) : QI X tg e (diKeysF td) := by
  refine ⟨PI.weak (pi_keysX h.pe) fun σ H R h => ?_⟩
  obtain ⟨B, ρ, M, k, ok, rs, t, f⟩ := h
  refine bindE ok rs t fun x M1 v H1 q e o r rs1 => ?_
  obtain ⟨d, od, xs, kvs, rfl, hm, q⟩ := q
  cases r
  obtain ⟨g1, g2, g3⟩ := o.rep d _ hm
  have hlen : kvs.length = xs.length := Paired.len g2
  refine ⟨d, od, xs, rfl, g1, f _ _ M1 q _ H1 e o ⟨fun B' M2 H2 i o2 e2 st hi => ?_, fun B' M2 H2 i o2 e2 st hi => ?_, fun B' M2 H2 i x H' o2 e2 st hi hy => ?_⟩⟩
  · exact ⟨(o2.rep d _ st).1, by unfold keysD at hi; rw [List.length_map] at hi; omega⟩
  · exact ⟨(o2.rep d _ st).1, by unfold keysD at hi; rw [List.length_map] at hi; omega⟩
  · obtain ⟨rfl, y, hy, rfl⟩ := hy
    obtain ⟨p, hp, ep⟩ := pairT_get (o2.rep d _ st).2.1 hy
    exact ⟨p.1.data, by unfold keysD; rw [List.getElem?_map, hp]; rfl, Ext.refl, o2, ep.2.1⟩
theorem qi_itemsF {elts : List Expr} {kk : Nat} {tpos : Pos} (h : QE X e td) (hbase : attributeBase e "items" X.env (eval e X.env) = eval e X.env := by rfl) (hline : (apos.endLine == cpos.line) = true := by rfl) :
    QI X (.Tuple elts kk tpos) (.Call (.Attribute e "items" apos) [] [] cpos) (diItemsF td) := by
  refine ⟨PI.weak (pi_itemsX h.pe hbase hline) fun σ H R h => ?_⟩
  obtain ⟨B, ρ, M, k, ok, rs, t, f⟩ := h
  refine bindE ok rs t fun x M1 v H1 q e o r rs1 => ?_
  obtain ⟨d, od, xs, kvs, rfl, hm, q⟩ := q
  cases r
  obtain ⟨g1, g2, g3⟩ := o.rep d _ hm
  have hlen : kvs.length = xs.length := Paired.len g2
  refine ⟨d, od, xs, rfl, g1, fun i y hy => ?_, f _ _ M1 q _ H1 e o ⟨fun B' M2 H2 i o2 e2 st hi => ?_, fun B' M2 H2 i o2 e2 st hi => ?_, fun B' M2 H2 i x H' o2 e2 st hi hy => ?_⟩⟩
  · obtain ⟨p, hp, ep⟩ := pairT_get g2 hy
    obtain ⟨v, rv, _⟩ := ep.2.2.2
    exact ⟨v, rv⟩
  · exact ⟨(o2.rep d _ st).1, by unfold itemsD at hi; rw [List.length_map] at hi; omega⟩
  · exact ⟨(o2.rep d _ st).1, by unfold itemsD at hi; rw [List.length_map] at hi; omega⟩
  · obtain ⟨T, y, v, hy, rv, rfl, hT, rfl⟩ := hy
    obtain ⟨p, hp, ep⟩ := pairT_get (o2.rep d _ st).2.1 hy
    obtain ⟨v', rv', hv'⟩ := ep.2.2.2
    obtain rfl := RelV.inj rv rv'
    have ex := ext_new (o := .tup [.ref y.2.1, v]) o2 hT
    exact ⟨.tuple [p.1.data, p.2], by unfold itemsD; rw [List.getElem?_map, hp]; rfl, ex, ok_new o2 hT, .tup (SqT.of (fz_new o2 hT)) (.cons (Rp.ext ex ep.2.1) (.cons (Rp.ext ex hv') .nil))⟩
end
/-! ### the lock -/
def lockD (d : Addr) (o o' : MO) (De : DEnds) : DEnds :=
  { nx := fun ρ M => M d = some o ∧ De.nx ρ (setM M d o'), rt := fun v M => M d = some o ∧ De.rt v (setM M d o'), bk := fun ρ M => M d = some o ∧ De.bk ρ (setM M d o'), ct := fun ρ M => M d = some o ∧ De.ct ρ (setM M d o') }
def dLock (t : TDs) : TDs := fun De ρ M => ∃ d kvs, M d = some (.dicT kvs) ∧ ∀ od xs, t (lockD d (.dicF od xs kvs) (.dicT kvs) De) ρ (setM M d (.dicF od xs kvs))
def dLockE (t : TD) : TD := fun ρ M k => ∃ d kvs, M d = some (.dicT kvs) ∧ ∀ od xs, t ρ (setM M d (.dicF od xs kvs)) fun x M' => M' d = some (.dicF od xs kvs) ∧ k x (setM M' d (.dicT kvs))
section
variable {X : Cx}
theorem unlock_ok {B : List Addr} {M' : MS} {H' : Hp} {d : Addr} {od : Obj} {xs : List (NestedKey × Addr × Value)} {kvs : List (NestedKey × PyData)} (o : OkM X.K X.prog X.w B M' H') (hm : M' d = some (.dicF od xs kvs)) :
    H' d = some (.frz od (DicO X.prog X.w d xs)) ∧ Ext B M' H' (setM M' d (.dicT kvs)) (upd H' d (DicO X.prog X.w d xs)) ∧ OkM X.K X.prog X.w B (setM M' d (.dicT kvs)) (upd H' d (DicO X.prog X.w d xs)) := by
  obtain ⟨g1, g2, g3⟩ := o.rep d _ hm
  have ew : Ext B M' H' (setM M' d (.dicT kvs)) (upd H' d (DicO X.prog X.w d xs)) := ext_write o hm
  exact ⟨g1, ew, ok_write o hm ⟨xs, upd_same, Paired.mapQ g2 fun _ _ => EntT.ext ew, g3⟩⟩
theorem lock_ok {B : List Addr} {M : MS} {H : Hp} {d : Addr} {kvs : List (NestedKey × PyData)} (o : OkM X.K X.prog X.w B M H) (hm : M d = some (.dicT kvs)) :
    ∃ xs, H d = some (DicO X.prog X.w d xs) ∧ ∀ od, Ext B M H (setM M d (.dicF od xs kvs)) (upd H d (.frz od (DicO X.prog X.w d xs))) ∧ OkM X.K X.prog X.w B (setM M d (.dicF od xs kvs)) (upd H d (.frz od (DicO X.prog X.w d xs))) := by
  obtain ⟨xs, g1, g2, g3⟩ := o.rep d _ hm
  refine ⟨xs, g1, fun od => ?_⟩
  have ew : Ext B M H (setM M d (.dicF od xs kvs)) (upd H d (.frz od (DicO X.prog X.w d xs))) := ext_write o hm
  exact ⟨ew, ok_write o hm ⟨upd_same, Paired.mapQ g2 fun _ _ => EntT.ext ew, g3⟩⟩
theorem qs_lock {st : Stmt} {t : TDs} (h : QS X st t) : QS X st (dLock t) := by
  refine ⟨PS.weak (ps_lock h.ps) fun D σ H h => ?_⟩
  obtain ⟨B, ρ, M, De, ok, rs, ⟨d, kvs, hm, ht⟩, f⟩ := h
  obtain ⟨xs, g1, lk⟩ := lock_ok ok hm
  refine ⟨d, _, g1, trivial, fun od => ?_⟩
  obtain ⟨ew, ow⟩ := lk od
  have f2 := f.of ew
  refine ⟨B, ρ, _, _, ow, rs.ext ew, ht od xs, ⟨fun ρ' M' σ' H' q e o rs' => ?_, fun v M' q u H' e o r => ?_, fun ρ' M' σ' H' q e o rs' => ?_, fun ρ' M' σ' H' q e o rs' => ?_⟩⟩
  · obtain ⟨g1, e2, o2⟩ := unlock_ok o q.1
    exact ⟨g1, f2.nx _ _ _ _ q.2 (e.trans e2) o2 (rs'.ext e2)⟩
  · obtain ⟨g1, e2, o2⟩ := unlock_ok o q.1
    exact ⟨g1, f2.rt _ _ q.2 _ _ (e.trans e2) o2 (RV.ext e2 r)⟩
  · obtain ⟨g1, e2, o2⟩ := unlock_ok o q.1
    exact ⟨g1, f2.bk _ _ _ _ q.2 (e.trans e2) o2 (rs'.ext e2)⟩
  · obtain ⟨g1, e2, o2⟩ := unlock_ok o q.1
    exact ⟨g1, f2.ct _ _ _ _ q.2 (e.trans e2) o2 (rs'.ext e2)⟩
theorem q_lockE {e : Expr} {t : TD} (h : QE X e t) : QE X e (dLockE t) := by
  refine ⟨PE.weak (pe_lock h.pe) fun σ H Q h => ?_⟩
  obtain ⟨B, ρ, M, k, ok, rs, ⟨d, kvs, hm, ht⟩, f⟩ := h
  obtain ⟨xs, g1, lk⟩ := lock_ok ok hm
  refine ⟨d, _, g1, trivial, fun od => ?_⟩
  obtain ⟨ew, ow⟩ := lk od
  refine ⟨B, ρ, _, _, ow, rs.ext ew, ht od xs, fun x M' q v H' e o r => ?_⟩
  obtain ⟨g1, e2, o2⟩ := unlock_ok o q.1
  exact ⟨g1, f x _ q.2 v _ (ew.trans (e.trans e2)) o2 (RV.ext e2 r)⟩
end
end Kf

/-! Kf: tuples sorted that may be empty; a dict's keys sorted. -/
namespace PySem.W
open PySem PySem.Spec PyProof PyProof.Rows SeqAt
section
variable {prog : Program} {w : World} {A : Around} {E : Value → Shared → Prop} {s : Shared}
theorem call_tuple_lt {Q : Value → Shared → Prop} {l b : Addr} {items items2 : Array Value} {e r : Nat → Bool} (hl : s.heap.IsTuple l items) (hb : s.heap.IsTuple b items2)
    (he : ∀ j (h1 : j < items.size) (h2 : j < items2.size), EqAt A.in1 s items[j] items2[j] (e j)) (hr : ∀ j (h1 : j < items.size) (h2 : j < items2.size), e j = false → RcLt A.in1 s items[j] items2[j] (r j))
    (h : Q (.bool (firstLt e r (decide (items.size < items2.size)) (List.range (min items.size items2.size)))) s) : wpAny (model prog w) A (call (.builtin "tuple.__lt__") [.ref l, .ref b]) Q E s := by
  obtain ⟨⟨cls, dd, data, sl⟩, ho, hc, n, hd⟩ := id hl
  obtain ⟨⟨cls2, dd2, data2, sl2⟩, ho2, hc2, n2, hd2⟩ := id hb
  simp only at hc hd hc2 hd2
  subst hc hd hc2 hd2
  exact call_meets F.slot_tuple_lt ⟨_, ho, rfl⟩ F.entry_tuple_lt (F.args_tuple_lt_2 _ _) (tuple_ltAt l b items items2 n n2 dd dd2 sl sl2 e r) ⟨ho, ho2, he, hr, h⟩
theorem oneLt_tup {xs ys : List PyData} {a b : Value} {as bs : List Addr} {Q : Bool → Shared → Prop} (ra : Reads s.heap a (.tuple xs) as) (rb : Reads s.heap b (.tuple ys) bs) (h : alike (.tuple xs) (.tuple ys) = true)
    (hu : A.units + min (PyData.tuple xs).depth (PyData.tuple ys).depth < cLine) (hq : Q (dataLt (.tuple xs) (.tuple ys)) s) : wpAny (model prog w) A (oneLt' true a b) Q E s := by
  have hal : alikeAll xs ys = true := by simpa [alike] using h
  cases ra with
  | @tuple l o vs n _ as₁ h1 h2 h3 h4 =>
    cases rb with
    | @tuple l' o' vs' n' _ bs₁ k1 k2 k3 k4 =>
      have n1 : vs.size = xs.length := by simpa using ReadsAll.length _ _ _ h4
      have n2 : vs'.size = ys.length := by simpa using ReadsAll.length _ _ _ k4
      rw [dataLt_tuple, ← firstLt_toks xs ys hal, ← n1, ← n2] at hq
      rw [oneLt'_eq]
      simp only [if_true]
      refine wpAny_bind (wpAny_cRoomFor (room_here hu) ?_)
      refine wpAny_bind (wpAny_callSpecialIfBound?_slot (T := "tuple") ⟨_, h1, h2⟩ F.slot_tuple_lt (call_tuple_lt (e := pairEq xs ys) (r := fun j => dataLt (xs.getD j .none) (ys.getD j .none)) ⟨_, h1, h2, _, h3⟩ ⟨_, k1, k2, _, k3⟩ (fun j j1 j2 => ?_) (fun j j1 j2 hj => ?_) ?_))
      · have := eqAt_alikeAll xs ys A.in1 s vs.toList vs'.toList _ _ h4 k4 hal (room_in hu) j (by simpa using j1) (by simpa using j2)
        simpa using this
      · have := rcLt_alikeAll xs ys A.in1 s vs.toList vs'.toList _ _ h4 k4 hal (room_in hu) j (by simpa using j1) (by simpa using j2) hj
        simpa using this
      · exact wpAny_truthy_bool hq
/-- what the first item of a tuple is asked for -/
theorem firsts_tups {M : Model} : ∀ {vs : List Value} {ds : List PyData} {Q : List (Option Value) → Shared → Prop}, EachIs (fun v d => ∃ as, Reads s.heap v d as) vs ds → (∀ d, d ∈ ds → ∃ xs, d = .tuple xs) →
    (∀ fs : List (Option Value), fs.length = ds.length → (∀ (i : Nat) xs, ds[i]? = some (.tuple xs) → ∃ f, fs[i]? = some f ∧ f.isSome = !xs.isEmpty) → Q fs s) → wpAny M A (vs.mapM firstOfTuple') Q E s
  | _, _, Q, .nil, _, h => by
    rw [List.mapM_nil]
    exact wpAny_pure (h [] rfl fun i xs e => by simp at e)
  | _, _, Q, .cons (a := v) (as := vs) (b := d) (bs := ds) ⟨as', r⟩ t, ht, h => by
    obtain ⟨xs, rfl⟩ := ht d List.mem_cons_self
    rw [List.mapM_cons, kas_first_eq]
    cases r with
    | @tuple l o ws n _ as₁ h1 h2 h3 h4 =>
      have hl := ReadsAll.length _ _ _ h4
      refine wpAny_bind (wpAny_bind (wpAny_typeOf_ref h1 ?_))
      rw [h2]
      rw [if_neg (by decide)]
      refine wpAny_bind (listItems_at h1 h3 (wpAny_pure ?_))
      refine wpAny_bind (firsts_tups t (fun d hd => ht d (List.mem_cons_of_mem _ hd)) fun fs e1 e2 => wpAny_pure (h _ (by rw [List.length_cons, List.length_cons, e1]) fun i ys hi => ?_))
      cases i with
      | zero =>
        simp at hi
        subst hi
        refine ⟨_, rfl, ?_⟩
        cases xs with
        | nil =>
          have : ws.size = 0 := by simpa using hl
          simp [this]
        | cons x r =>
          have : 0 < ws.size := by have : ws.size = (x :: r).length := by simpa using hl
                                   rw [this]; simp
          simp [this]
      | succ i => simpa using e2 i ys (by simpa using hi)
theorem SortsAt.tups {vs : List Value} {ds : List PyData} (e : EachIs (fun v d => ∃ as, Reads s.heap v d as) vs ds) (hal : AllAlike ds) (ht : ∀ d, d ∈ ds → ∃ xs, d = .tuple xs) (hu : ∀ d, d ∈ ds → A.units + d.depth < cLine) : SortsAt prog w A s (dataKind s.heap ds) vs := by
  by_cases hall : ∀ d, d ∈ ds → ∃ x r, d = .tuple (x :: r)
  · exact SortsAt.data e hal (.inl hall) hu
  have room : ∀ {d d' : PyData}, d ∈ ds → A.units + min d.depth d'.depth < cLine := fun {d d'} hd => Nat.lt_of_le_of_lt (Nat.add_le_add_left (Nat.min_le_left _ _) _) (hu d hd)
  refine ⟨fun v hv => ?_, ?_⟩
  · obtain ⟨d, hd, as, r⟩ := e.left v hv
    exact ⟨_, dataKind_some hal hd r⟩
  have ltO : H.LtAt prog w A s (dataKind s.heap ds) oneType' := by
    intro E x y a b Q ha hb hq
    obtain ⟨d, as, hd, ra, rfl⟩ := dataKind_inv ha
    obtain ⟨d', as', hd', rb, rfl⟩ := dataKind_inv hb
    obtain ⟨xs, rfl⟩ := ht d hd
    obtain ⟨ys, rfl⟩ := ht d' hd'
    rw [keyLt'_oneType]
    exact oneLt_tup ra rb (hal _ hd _ hd') (room hd) hq
  have ltG : H.LtAt prog w A s (dataKind s.heap ds) general' := by
    intro E x y a b Q ha hb hq
    obtain ⟨d, as, hd, ra, rfl⟩ := dataKind_inv ha
    obtain ⟨d', as', hd', rb, rfl⟩ := dataKind_inv hb
    obtain ⟨xs, rfl⟩ := ht d hd
    show wpAny _ _ (oneLt' false x y) _ _ _
    exact oneLt_alike (fun z => by cases z) ra rb (hal _ hd _ hd') (by simp) (room hd) hq
  have tyT : ∀ v, v ∈ vs → Looks (model prog w) s.heap (typeOf v) (Value.type "tuple") := fun v hv => by
    obtain ⟨d, hd, as, r⟩ := e.left v hv
    obtain ⟨xs, rfl⟩ := ht d hd
    exact looks_reads r
  obtain ⟨d₁, hd₁, hne⟩ : ∃ d, d ∈ ds ∧ d = .tuple [] := by
    refine Classical.byContradiction fun z => hall fun d hd => ?_
    obtain ⟨xs, rfl⟩ := ht d hd
    cases xs with
    | nil => exact absurd ⟨_, hd, rfl⟩ z
    | cons x r => exact ⟨x, r, rfl⟩
  have hlen : vs.length = ds.length := e.length
  have nall : ∀ fs : List (Option Value), (∀ (i : Nat) xs, ds[i]? = some (.tuple xs) → ∃ f, fs[i]? = some f ∧ f.isSome = !xs.isEmpty) → (fs.toArray.all (·.isSome)) = false := fun fs hf => by
    subst hne
    obtain ⟨i, hi⟩ := List.getElem?_of_mem hd₁
    obtain ⟨f, e1, e2⟩ := hf i [] hi
    rw [List.all_toArray, List.all_eq_false]
    exact ⟨f, List.mem_of_getElem? e1, by rw [e2]; simp⟩
  have one : ∀ {E : Value → Shared → Prop} {Q : Option Value → Shared → Prop}, 2 ≤ vs.length → Q (some (Value.type "tuple")) s → wpAny (model prog w) A (oneTypeOnly' vs.toArray) Q E s := fun {E Q} h2 hq => by
    obtain ⟨v₁, v₂, rest, rfl⟩ : ∃ v₁ v₂ rest, vs = v₁ :: v₂ :: rest := by
      match vs, h2 with
      | [], h2 => simp at h2
      | [_], h2 => simp at h2
      | v₁ :: v₂ :: rest, _ => exact ⟨v₁, v₂, rest, rfl⟩
    rw [oneTypeOnly'_eq, List.mapM_toArray, map_eq_pure_bind]
    refine wpAny_bind (wpAny_bind (kas_mapM (r := Value.type "tuple") _ (fun v hv Q' hq => (tyT v hv).here hq) (wpAny_pure ?_)))
    have hallT : ((List.map (fun _ => Value.type "tuple") (v₁ :: v₂ :: rest)).toArray.all fun x => x == Value.type "tuple") = true := by
      simp only [List.all_toArray, List.all_map, List.all_eq_true]
      intro _ _
      rfl
    have h0 : (List.map (fun _ => Value.type "tuple") (v₁ :: v₂ :: rest)).toArray[0]? = some (Value.type "tuple") := by simp
    rw [h0]
    simp only [hallT, if_true]
    exact wpAny_pure hq
  by_cases h0 : ∃ x r, ds[0]? = some (.tuple (x :: r))
  · refine ⟨general', ltG, fun h2 E Q hq => ?_⟩
    rw [keyKind'_eq, List.mapM_toArray, map_eq_pure_bind]
    refine wpAny_bind (wpAny_bind (firsts_tups e ht fun fs e1 e2 => wpAny_pure ?_))
    rw [if_neg (by rw [nall fs e2]; simp)]
    obtain ⟨x, r, h0⟩ := h0
    obtain ⟨f, f1, f2⟩ := e2 0 _ h0
    rw [if_pos (by rw [List.getElem?_toArray, f1]; simpa using f2)]
    exact wpAny_pure hq
  · refine ⟨oneType', ltO, fun h2 E Q hq => ?_⟩
    rw [keyKind'_eq, List.mapM_toArray, map_eq_pure_bind]
    refine wpAny_bind (wpAny_bind (firsts_tups e ht fun fs e1 e2 => wpAny_pure ?_))
    rw [if_neg (by rw [nall fs e2]; simp)]
    have hz : ds[0]? = some (.tuple []) := by
      cases ds with
      | nil => exact absurd hd₁ (by simp)
      | cons d r =>
        obtain ⟨xs, rfl⟩ := ht d List.mem_cons_self
        cases xs with
        | nil => rfl
        | cons x r => exact absurd ⟨x, r, rfl⟩ h0
    obtain ⟨f, f1, f2⟩ := e2 0 _ hz
    rw [if_neg (by rw [List.getElem?_toArray, f1]; simpa using f2)]
    refine wpAny_bind (one h2 ?_)
    exact wpAny_pure hq
end
end PySem.W

/-! Kf: sorted(set(xs)) of whole numbers. -/
namespace Kf
open PySem PySem.Spec PySem.Calls PyProof PyProof.Rows L2
section
variable {P : Program} {w : World} {A : Around} {E : Value → Shared → Prop} {s : Shared} {a : Addr} {ks : List Key}
theorem ints_vals : ∀ {vs : List Value}, (∀ v, v ∈ vs → ∃ i t, v = .int i t) → IntsAre vs (vs.map valI)
  | [], _ => .nil
  | v :: vs, h => by
    obtain ⟨i, t, rfl⟩ := h v List.mem_cons_self
    exact .cons i t (ints_vals fun x hx => h x (List.mem_cons_of_mem _ hx))
theorem sortedX_int {xs : List Int} {Q : Value → Shared → Prop} (R : SetX w s.heap a ks) (hks : ks.Perm (xs.map Sum.inl)) (hh : A.handled = none) (h64 : xs.length < 64)
    (hQ : ∀ s' p (out : Array Value) (c : Nat) (ys : List Int), (∀ b o, s.heap.get? b = some o → s'.heap.get? b = some o) → s'.gens = s.gens → s'.os = s.os → s.heap.objs.size ≤ p → s'.heap.get? p = some (seqObj "list" out c) → IntsAre out.toList ys → ys.Perm xs → ys.Pairwise (· ≤ ·) → Q (.ref p) s') :
    wpAny (model P w) A (call (.builtin "sorted") [.ref a]) Q E s := by
  obtain ⟨o, es, ep, t, ho, ⟨hex, hd⟩, ⟨g, pm0, nd⟩, ⟨hb, hf, hr⟩, hl⟩ := R
  refine Calls.call_function_entry PyProof.Rows.kind_sorted PyProof.Rows.plain_sorted PyProof.Rows.entry_sorted (PyProof.Rows.args_sorted1 _) ?_; unfold Builtin.«sorted»
  refine wpAny_bind (m := checkCount "sorted" 1 1 _) (wpAny_pure ?_)
  refine wpAny_bind (collect_set (A := A.in1) hh ⟨o, ho, hex.1, hd⟩ hf hb hr hl fun s1 vs k1 hz g1 o1 pm => ?_)
  have pk := pm0.trans hks
  have px : (es.toList.map fun e => valI e.2).Perm xs := by
    have q := pk.map keyN
    rw [List.map_map, List.map_map] at q
    have e1 : es.toList.map (keyN ∘ keyX) = es.toList.map fun e => valI e.2 := List.map_congr_left fun e he => keyN_val (g e he)
    have e2 : xs.map (keyN ∘ Sum.inl) = xs := by
      have : (keyN ∘ Sum.inl : Int → Int) = id := rfl
      rw [this, List.map_id]
    rw [e1, e2] at q
    exact q
  have pv : (vs.map valI).Perm xs := by
    have q := pm.map valI
    rw [List.map_map] at q
    exact q.trans px
  have hlen : vs.length = xs.length := by have := pv.length_eq; rw [List.length_map] at this; exact this
  have hS : IntsAre vs (vs.map valI) := ints_vals fun v hv => by
    obtain ⟨e', he', q⟩ := List.mem_map.mp (pm.mem_iff.mp hv)
    obtain ⟨k, hk, _⟩ := id (g e' he')
    have kin : keyX e' ∈ xs.map (Sum.inl : Int → Key) := pk.mem_iff.mp (List.mem_map.mpr ⟨e', he', rfl⟩)
    obtain ⟨x, _, ex⟩ := List.mem_map.mp kin
    have ek := (goodX_is (g e' he') k).mp hk
    rcases keyIs_shape hk with ⟨i, t, rfl, e2⟩ | ⟨y, t, rfl, e2⟩
    · rw [q] at e2; exact ⟨i, t, e2⟩
    · rw [← ex] at ek; cases ek
  refine wpAny_bind (wpAny_newList ?_ (by rw [hlen, sizeLine_eq]; omega))
  have hoL : (s1.heap.push (seqObj "list" vs.toArray 0)).get? s1.heap.objs.size = some (seqObj "list" vs.toArray 0) := Heap.get?_push_size _ rfl
  refine wpAny_bind (wpAny_holding (wpAny_call_entry PyProof.Rows.slot_list_sort ⟨_, hoL, rfl⟩ PyProof.Rows.entry_list_sort (PyProof.Rows.list_sort_tree hoL hS (by rw [hlen]; exact h64) fun out ys y1 y2 y3 => ⟨_, rfl, ?_⟩) (PyProof.Rows.args_list_sort _)))
  obtain ⟨c, hc⟩ := PyProof.Rows.sortedHeap_at (vs := vs) (out := out) hoL
  refine wpAny_pure ⟨_, rfl, hQ _ s1.heap.objs.size _ c ys (fun b u e => ?_) g1 o1 hz hc y1 (y2.trans pv) y3⟩
  have q := k1 b u e; have hlt := Heap.lt_size q
  show (sortedHeap (s1.heap.push (seqObj "list" vs.toArray 0)) s1.heap.objs.size vs _).get? b = some u
  rw [PyProof.Rows.sortedHeap_old (Nat.ne_of_lt hlt) (by rw [size_push']; exact Nat.lt_succ_of_lt hlt)]; exact Heap.get?_push_of_some _ q
theorem vals_of_ints : ∀ {vs : List Value} {ns : List Int}, IntsAre vs ns → Vals (ns.map V.int) vs
  | _, _, .nil => .nil
  | _, _, .cons _ _ h => .cons ⟨_, rfl⟩ (vals_of_ints h)
end
section
variable {X : Cx}
theorem cr_sortedXI (hc : X.calm = true) : CallR X (.builtin "sorted") fun vs H Q => ∃ (a : Addr) (ks : List Key) (xs : List Int), vs = [V.ref a] ∧ H a = some (SetXO X.w a ks) ∧ ks.Perm (xs.map Sum.inl) ∧ xs.length < 64 ∧ ∀ (ys : List Int) (p : Addr), ys.Perm xs → ys.Pairwise (· ≤ ·) → H p = none → Q (.ref p) (upd H p (.lst (ys.map V.int))) := by
  intro pins s σ H vs us Q I r ⟨a, ks, xs, ex, ha, hks, h64, q⟩
  subst ex
  rw [Vals.ref1 r]
  have R : SetX X.w s.heap a ks := (I.hok a _ ha).1
  refine sortedX_int (P := X.prog) R hks (I.ok.hd hc) h64 fun s' p out c ys k g o hp hg hi pm hs => ?_
  have hlen : (ys.map V.int).length ≤ sizeLine := by rw [List.length_map, pm.length_eq]; exact Nat.le_trans (Nat.le_of_lt h64) (by decide)
  have hn : H p = none := I.hok.fresh hp
  have J : Inv X pins σ (upd H p (.lst (ys.map V.int))) { s with heap := s'.heap, gens := s'.gens, drawn := s'.drawn, toks := s'.toks } :=
    I.call (ch := []) (Un.laid k hp hn) (I.hok.laid k hp ⟨hlen, out.toList, c, vals_of_ints hi, hg⟩) (by rw [g]; exact I.bare) (fun _ z => nomatch z)
  have e : s' = { s with heap := s'.heap, gens := s'.gens, drawn := s'.drawn, toks := s'.toks } := by
    obtain ⟨_, _, _, _, _⟩ := s'; cases o; rfl
  rw [e]; exact ⟨.ref p, _, J, rfl, q ys p pm hs hn⟩
theorem rpI {K : PySem.W.Frag} {H : Hp} : ∀ {zs : List Int} {vs : List V}, RpAll K H vs (zs.map PyData.int) → vs = zs.map V.int
  | [], _, .nil => rfl
  | z :: zs, _, .cons a b => by
    cases a
    rw [rpI b]; rfl
def dSortSetI (t : TDa) : TD := fun ρ M k => t ρ M fun xs M1 => ∃ x d, ∃ (zs : List Int), xs = [x] ∧ cview M1 x = some d ∧ items d = some (zs.map PyData.int) ∧ zs.length < 4000 ∧ (∃ ps : List Int, ps.length < 64 ∧ ∀ z, z ∈ zs → z ∈ ps) ∧
  ∀ ys : List Int, ys.Nodup → (∀ z, z ∈ ys ↔ z ∈ zs) → ys.Pairwise (· ≤ ·) → k (.dat (.list (ys.map PyData.int))) M1
theorem q_sortSetI {x y : Str} {e : Expr} {es : List Expr} {t : TDa} {p p2 pos pos2 : Pos} (hc : X.calm = true) (hg : Gl X x) (hm : X.mg x = none) (hv : bootBuiltins x = some (.builtin "sorted")) (hg2 : Gl X y) (hm2 : X.mg y = none) (hv2 : bootBuiltins y = some (.type "set")) (ha : QA X (e :: es) t)
    (hn : x ≠ "__name__" := by decide) (hd : (x == ("__debug__" : Str)) = false := by decide) (hn2 : y ≠ "__name__" := by decide) (hd2 : (y == ("__debug__" : Str)) = false := by decide)
    (hs2 : starEach (e :: es) X.env = (false, eval e X.env) :: starEach es X.env := by rfl) (h22 : (backTo pos2 (starEach es X.env)).any (·.1) = false := by rfl)
    (hs : starEach [Expr.Call (.Name y p2) (e :: es) [] pos2] X.env = (false, eval (Expr.Call (.Name y p2) (e :: es) [] pos2) X.env) :: starEach [] X.env := by rfl) (h2 : (backTo pos (starEach [] X.env)).any (·.1) = false := by rfl) :
    QE X (.Call (.Name x p) [.Call (.Name y p2) (e :: es) [] pos2] [] pos) (dSortSetI t) := by
  refine ⟨PE.weak (pe_callB (cr_sortedXI hc) hg hm hv (pa_cons (pe_callTy (cr_setX hc) hg2 hm2 hv2 ha.pa hn2 hd2 hs2 h22) pa_nil) hn hd hs h2) fun σ H Q h => ?_⟩
  obtain ⟨B, ρ, M, k, ok, rs, t, f⟩ := h
  refine bindA ok rs t fun xs M1 vs H1 q e o r rs1 => ?_
  obtain ⟨x, d, zs, rfl, hv, hi, hl, ⟨ps, hp1, hp2⟩, hk⟩ := q
  obtain ⟨v, rfl, rv⟩ := RVs.one r
  have ek : (zs.map (Sum.inl : Int → Key)).map kV = zs.map V.int := by rw [List.map_map]; rfl
  obtain ⟨f1, f2, f3⟩ := ded_facts (zs.map (Sum.inl : Int → Key)) [] List.nodup_nil
  have all : ∀ j, j ∈ dedK (zs.map Sum.inl) → Sum.inl (keyN j) = j := fun j hj => by
    rcases (f2 j).mp hj with z | z
    · exact absurd z List.not_mem_nil
    · obtain ⟨w, _, rfl⟩ := List.mem_map.mp z; rfl
  have back : ((dedK (zs.map Sum.inl)).map keyN).map Sum.inl = dedK (zs.map Sum.inl) := by
    rw [List.map_map]
    exact (List.map_congr_left fun j hj => all j hj).trans (List.map_id _)
  have mem0 : ∀ z, z ∈ (dedK (zs.map Sum.inl)).map keyN ↔ z ∈ zs := fun z => by
    rw [List.mem_map]
    constructor
    · rintro ⟨j, hj, rfl⟩
      rcases (f2 j).mp hj with w | w
      · exact absurd w List.not_mem_nil
      · obtain ⟨w, hw, rfl⟩ := List.mem_map.mp w; exact hw
    · exact fun hz => ⟨.inl z, (f2 _).mpr (.inr (List.mem_map.mpr ⟨z, hz, rfl⟩)), rfl⟩
  have nd0 : ((dedK (zs.map Sum.inl)).map keyN).Nodup := by
    have q : (((dedK (zs.map Sum.inl)).map keyN).map (Sum.inl : Int → Key)).Nodup := by rw [back]; exact f1
    exact List.Pairwise.of_map _ (fun a b hne e => hne (congrArg _ e)) q
  have len0 : ((dedK (zs.map Sum.inl)).map keyN).length < 64 := Nat.lt_of_le_of_lt (nodup_len _ ps nd0 fun z hz => hp2 z ((mem0 z).mp hz)) hp1
  have hroom : (zs.map (Sum.inl : Int → Key)).length + 1 < scanBound := by rw [List.length_map]; unfold scanBound; omega
  have sq : ∃ a, v = .ref a ∧ (SqL X.K H1 a ((zs.map (Sum.inl : Int → Key)).map kV) ∨ SqT X.K H1 a ((zs.map (Sum.inl : Int → Key)).map kV)) := by
    rw [ek]
    cases d with
    | list ds =>
      obtain ⟨a, ws, rfl, g1, g2⟩ := cview_list o rv hv
      cases hi
      rw [rpI g2] at g1
      exact ⟨a, rfl, .inl (SqL.of g1)⟩
    | tuple ds =>
      obtain ⟨a, ws, rfl, g1, g2⟩ := rv_tup rv hv
      cases hi
      rw [rpI g2] at g1
      exact ⟨a, rfl, .inr g1⟩
    | _ => cases hi
  obtain ⟨a, rfl, sq⟩ := sq
  refine ⟨a, zs.map Sum.inl, rfl, sq, hroom, fun b hb => ⟨b, _, (dedK (zs.map Sum.inl)).map keyN, rfl, upd_same, by rw [back], len0, fun ys q pm hs hq => ?_⟩⟩
  have o1 := ok_new (o := SetXO X.w b (dedK (zs.map Sum.inl))) o hb
  exact f _ M1 (hk ys (pm.nodup_iff.mpr nd0) (fun z => pm.mem_iff.trans (mem0 z)) hs) _ _ (e.trans ((ext_new o hb).trans (ext_new o1 hq))) (ok_new o1 hq) (.lst (fz_new o1 hq) (rpAll_ints ys))
end
end Kf

/-! Kf: a list copied and written to; the greatest and the least of a list. -/
namespace Kf
open PySem PySem.Spec PyProof.Rows L2
section
variable {X : Cx} {pos : Pos}
def dListOwn (t : TDa) : TD := fun ρ M k => t ρ M fun xs M1 => ∃ x d ds, xs = [x] ∧ cview M1 x = some d ∧ items d = some ds ∧ ∀ p, M1 p = none → k (.ref p) (setM M1 p (.lst ds))
theorem q_listOwn {x : Str} {e : Expr} {es : List Expr} {t : TDa} {p : Pos} (hg : Gl X x) (hm : X.mg x = none) (hv : bootBuiltins x = some (.type "list")) (ha : QA X (e :: es) t)
    (hn : x ≠ "__name__" := by decide) (hd : (x == ("__debug__" : Str)) = false := by decide)
    (hs : starEach (e :: es) X.env = (false, eval e X.env) :: starEach es X.env := by rfl) (h2 : (backTo pos (starEach es X.env)).any (·.1) = false := by rfl) : QE X (.Call (.Name x p) (e :: es) [] pos) (dListOwn t) := by
  refine ⟨PE.weak (pe_callTy call_list_of hg hm hv ha.pa hn hd hs h2) fun σ H Q h => ?_⟩
  obtain ⟨B, ρ, M, k, ok, rs, t, f⟩ := h
  refine bindA ok rs t fun xs M1 vs H1 q e o r rs1 => ?_
  obtain ⟨x, d, ds, rfl, hv', hi, hk⟩ := q
  obtain ⟨v, rfl, rv⟩ := RVs.one r
  obtain ⟨a, ws, rfl, sq, ra⟩ := list_src o rv hv' hi
  exact ⟨a, ws, rfl, sq, fun l hl => f _ _ (hk l (o.fresh hl)) _ _ (e.trans (ext_newO o hl)) (ok_newO o hl ⟨_, upd_same, RpAll.ext (ext_newO o hl) ra⟩) rfl⟩
def maxLP : PN := fun M xs q => ∃ x, ∃ ns : List Int, xs = [x] ∧ cview M x = some (.list (ns.map PyData.int)) ∧ 0 < ns.length ∧ ∀ m, m ∈ ns → (∀ y, y ∈ ns → y ≤ m) → q (.dat (.int m))
theorem ints_rp' {K : PySem.W.Frag} {H : Hp} : ∀ {ns : List Int} {vs : List V}, RpAll K H vs (ns.map PyData.int) → vs = ns.map V.int
  | [], vs, h => by cases h; rfl
  | n :: ns, vs, h => by
    cases h with
    | cons a b => cases a; rw [ints_rp' b]; rfl
theorem qmaxL (hc : X.calm = true) : QCall X (.builtin "max") maxLP := by
  rintro pins s σ H vs us Q I r ⟨B, M, xs, q, ok, rx, ⟨x, ns, rfl, hv, hp, h⟩, m⟩
  obtain ⟨v, rfl, rv⟩ := RVs.one rx
  obtain ⟨a, vs, rfl, h1, h2⟩ := cview_list ok rv hv
  cases ints_rp' h2
  exact cr_max hc pins s σ H _ us Q I r ⟨a, ns, rfl, SqL.of h1, hp, fun y hy hle => rp_of m ok (h y hy hle) (.int _)⟩
def minLP : PN := fun M xs q => ∃ x, ∃ ns : List Int, xs = [x] ∧ cview M x = some (.list (ns.map PyData.int)) ∧ 0 < ns.length ∧ ∀ m, m ∈ ns → (∀ y, y ∈ ns → m ≤ y) → q (.dat (.int m))
theorem qminL (hc : X.calm = true) : QCall X (.builtin "min") minLP := by
  rintro pins s σ H vs us Q I r ⟨B, M, xs, q, ok, rx, ⟨x, ns, rfl, hv, hp, h⟩, m⟩
  obtain ⟨v, rfl, rv⟩ := RVs.one rx
  obtain ⟨a, vs, rfl, h1, h2⟩ := cview_list ok rv hv
  cases ints_rp' h2
  exact cr_min hc pins s σ H _ us Q I r ⟨a, ns, rfl, SqL.of h1, hp, fun y hy hle => rp_of m ok (h y hy hle) (.int _)⟩
/-- name = [..] on one line, the name a local -/
theorem qs_setLc1 {elt iter : Expr} {x y : Str} {px py : Pos} {ifs : List Expr} {scope : Scope} {spos : Pos} {ti : TDi} {tt : TDb} {te : TD} {i j : Nat} (hN : X.N.Nodup) (hy : X.N[j]? = some y) (hyl : X.env.scope.names.lookup y = some .local) (hk : X.env.scope.kind = .function) (hl : (py.line == pos.line) = true)
    (ha : (scope.names.any fun (n, k) => n == y && (k == .local || k == .cell)) = false) (hi : QI X (.Name x px) iter ti) (ok : BlkOk X.N X.env.scope scope [(x, i)])
    (hg : ∀ (s : Shared) (H : Hp) (C : Addr) (cl : List (Str × Addr)) (fp : List Addr), PG (X.blk s H scope (compEnvC scope cl C X.env) fp) (.Name x px) (gName i)) (ht : ∀ (s : Shared) (H : Hp) (C : Addr) (cl : List (Str × Addr)) (fp : List Addr), PTs (X.blk s H scope (compEnvC scope cl C X.env) fp) ifs (liftT X tt))
    (he : ∀ (s : Shared) (H : Hp) (C : Addr) (cl : List (Str × Addr)) (fp : List Addr), PE (X.blk s H scope (compEnvC scope cl C X.env) fp) elt (liftE X te)) (hc : X.calm = true := by rfl) (hs : ∀ y, foldedSetIterable iter X.env y = pure y := by intro _; rfl) :
    QS X (.Assign [.Name y py] (.ListComp elt [⟨.Name x px, iter, ifs, 0⟩] scope pos) spos) (dSet j (dLc ti (.one i) tt te)) := by
  refine ⟨PS.weak (ps_setLc (own := [(x, i)]) hc hN hy hyl (sw_true hk hyl hl ha) hi.pi ok hg ht he hs) fun D σ H h => ?_⟩
  obtain ⟨B, ρ, M, De, ok, rs, t, f⟩ := h
  exact lift_lc (bindE ok rs t fun x M1 v H1 q e o r rs1 => f.nx _ M1 _ H1 q e o (RepS.set rs1 r j))
theorem qs_setLc2 {elt iter : Expr} {x x' y : Str} {px px' pt py : Pos} {kt : Nat} {ifs : List Expr} {scope : Scope} {spos : Pos} {ti : TDi} {tt : TDb} {te : TD} {i i' j : Nat} (hN : X.N.Nodup) (hy : X.N[j]? = some y) (hyl : X.env.scope.names.lookup y = some .local) (hk : X.env.scope.kind = .function) (hl : (py.line == pos.line) = true)
    (ha : (scope.names.any fun (n, k) => n == y && (k == .local || k == .cell)) = false) (hi : QI X (.Tuple [.Name x px, .Name x' px'] kt pt) iter ti) (ok : BlkOk X.N X.env.scope scope [(x, i), (x', i')])
    (hg : ∀ (s : Shared) (H : Hp) (C : Addr) (cl : List (Str × Addr)) (fp : List Addr), PG (X.blk s H scope (compEnvC scope cl C X.env) fp) (.Tuple [.Name x px, .Name x' px'] kt pt) (gTup X.K 2 (gCons (gName i) (gCons (gName i') gNil)))) (ht : ∀ (s : Shared) (H : Hp) (C : Addr) (cl : List (Str × Addr)) (fp : List Addr), PTs (X.blk s H scope (compEnvC scope cl C X.env) fp) ifs (liftT X tt))
    (he : ∀ (s : Shared) (H : Hp) (C : Addr) (cl : List (Str × Addr)) (fp : List Addr), PE (X.blk s H scope (compEnvC scope cl C X.env) fp) elt (liftE X te)) (hc : X.calm = true := by rfl) (hs : ∀ y, foldedSetIterable iter X.env y = pure y := by intro _; rfl) :
    QS X (.Assign [.Name y py] (.ListComp elt [⟨.Tuple [.Name x px, .Name x' px'] kt pt, iter, ifs, 0⟩] scope pos) spos) (dSet j (dLc ti (.two i i') tt te)) := by
  refine ⟨PS.weak (ps_setLc (own := [(x, i), (x', i')]) hc hN hy hyl (sw_true hk hyl hl ha) hi.pi ok hg ht he hs) fun D σ H h => ?_⟩
  obtain ⟨B, ρ, M, De, ok, rs, t, f⟩ := h
  exact lift_lc (bindE ok rs t fun x M1 v H1 q e o r rs1 => f.nx _ M1 _ H1 q e o (RepS.set rs1 r j))
end
end Kf

/-! Kf: or, of None or a tuple. -/
namespace Kf
open PySem PySem.Spec PyProof.Rows L2
section
variable {X : Cx} {a b : Expr} {rest : List Expr} {ta tb : TD} {pos : Pos}
def dOrT (ta tb : TD) : TD := fun ρ M k => ta ρ M fun x M1 => (x = .dat .none ∧ tb ρ M1 k) ∨ ∃ ds, x = .dat (.tuple ds) ∧ ds ≠ [] ∧ k x M1
theorem q_orT (ha : QE X a ta) (hb : QE X (.BoolOp .Or (b :: rest) pos) tb) : QE X (.BoolOp .Or (a :: b :: rest) pos) (dOrT ta tb) := by
  refine ⟨PE.weak (pe_orT ha.pe hb.pe) fun σ H Q h => ?_⟩
  obtain ⟨B, ρ, M, k, ok, rs, t, f⟩ := h
  refine bindE ok rs t fun x M1 v H1 q e o rx rs1 => ?_
  rcases q with ⟨rfl, q⟩ | ⟨ds, rfl, hd, q⟩
  · cases rx
    exact ⟨false, rfl, bindE o rs1 q fun c2 M2 v2 H2 q2 e2 o2 r2 _ => f _ M2 q2 _ _ (e.trans e2) o2 r2⟩
  · have rx0 := rx
    cases rx with
    | @tup a vs _ sq ra =>
      have hne : (!vs.isEmpty) = true := by
        cases vs with
        | nil => cases ra; exact absurd rfl hd
        | cons x xs => rfl
      exact ⟨true, .inr (.inl ⟨_, Same.seqT fz_same sq, hne.symm⟩), f _ M1 q _ _ e o rx0⟩
end
end Kf

/-! Kf: x[::-1]. -/
namespace HT
open PySem PyProof.Rows
section
variable {prog : Program} {w : World} {A : Around} {E : Value → Shared → Prop} {s : Shared}
theorem adjust_rev (n : Nat) : Builtin.Slice.sliceAdjust none none (-1) (n : Int) = ((n : Int) - 1, -1) := rfl
theorem places_rev (n : Nat) : Builtin.Slice.slicePlaces ((n : Int) - 1) (-1) (-1) = n := by
  unfold Builtin.Slice.slicePlaces
  have h1 : ¬ ((-1 : Int) > 0) := by decide
  simp only [h1, if_false]
  by_cases h : (n : Int) - 1 > -1
  · have e : ((n : Int) - 1 - -1 - 1) / (- -1) = (n : Int) - 1 := by
      rw [show (- -1 : Int) = 1 by decide, Int.ediv_one]
      omega
    simp only [h, if_true, e]
    omega
  · simp only [h, if_false]
    omega
theorem sliceApplied_rev {sl : Addr} {vl vu vs : Value} {n : Nat} {Q : Int × Int × Nat → Shared → Prop} (hs : s.heap.IsSliceOf sl vl vu vs) (pl : IsPart vl none) (pu : IsPart vu none) (ps : IsPart vs (some (-1)))
    (h : Q ((n : Int) - 1, -1, n) s) : wpAny (model prog w) A (Builtin.Slice.sliceApplied (.ref sl) (pure (n : Int))) Q E s := by
  obtain ⟨os, hos, hcs, hds⟩ := id hs
  unfold Builtin.Slice.sliceApplied Builtin.Slice.sliceFields
  refine wpAny_bind (wpAny_bind (wpAny_field hos hds (x := vl) rfl (wpAny_bind (wpAny_field hos hds (x := vu) rfl (wpAny_bind (wpAny_field hos hds (x := vs) rfl (wpAny_pure ?_)))))))
  refine wpAny_bind (slicePart_ ps ?_)
  show wpAny _ _ (if ((-1 : Int) == 0) = true then _ else _) _ _ s
  rw [if_neg (by decide)]
  refine wpAny_bind (slicePart_ pl (wpAny_bind (slicePart_ pu (wpAny_bind (wpAny_pure ?_)))))
  show wpAny _ _ (match Builtin.Slice.sliceAdjust none none (-1) (n : Int) with | (lo, hi) => pure (lo, (-1 : Int), Builtin.Slice.slicePlaces lo hi (-1))) _ _ s
  rw [adjust_rev n]
  show wpAny _ _ (pure ((n : Int) - 1, (-1 : Int), Builtin.Slice.slicePlaces ((n : Int) - 1) (-1) (-1))) _ _ s
  rw [places_rev]
  exact wpAny_pure h
theorem pick_rev (xs : Array Value) : ((List.range xs.size).filterMap fun (m : Nat) => xs[(((xs.size : Int) - 1) + (m : Int) * (-1)).toNat]?).toArray = xs.toList.reverse.toArray := by
  have h := PySem.W.krv_pick xs
  rw [← h]
  unfold slicePick
  rw [PySem.W.krv_bounds]
  show _ = ((sliceRange ((xs.size : Int) - 1) (-1) (-1)).filterMap (xs[·]?)).toArray
  rw [PySem.W.krv_sliceRange, List.filterMap_map]
  have : (fun (m : Nat) => xs[(((xs.size : Int) - 1) + (m : Int) * (-1)).toNat]?) = ((fun x => xs[x]?) ∘ fun k => xs.size - 1 - k) := funext fun m => by
    show xs[(((xs.size : Int) - 1) + (m : Int) * (-1)).toNat]? = xs[xs.size - 1 - m]?
    have : (((xs.size : Int) - 1) + (m : Int) * (-1)).toNat = xs.size - 1 - m := by omega
    rw [this]
  rw [this]
theorem getItem_tuple_rev {t sl : Addr} {items : Array Value} {vl vu vs : Value} {Q : Value → Shared → Prop} (ht : IsTup s.heap t items) (hs : s.heap.IsSliceOf sl vl vu vs) (pl : IsPart vl none) (pu : IsPart vu none) (ps : IsPart vs (some (-1)))
    (h : Q (.ref s.heap.objs.size) { s with heap := s.heap.push { cls := .type "tuple", data := .seq items.toList.reverse.toArray } })
    (hsz : items.size ≤ sizeLine) : wpAny (model prog w) A (getItem (.ref t) (.ref sl)) Q E s := by
  have htake : sizeOk (.seq items.toList.reverse.toArray) := by
    show items.toList.reverse.toArray.size ≤ sizeLine
    rw [List.size_toArray, List.length_reverse, Array.length_toList]
    exact hsz
  obtain ⟨os, hos, hcs, hds⟩ := id hs
  have hTs : s.TypeIs (.ref sl) "slice" := ⟨os, hos, hcs⟩
  unfold getItem
  try with_reducible refine wpAny_holding ?_
  first | refine wpAny_bind (wpAny_pure ?_) | skip
  refine wpAny_bind (wpAny_sequenceKey ht.typeIs (by decide) ?_)
  refine wpAny_bind (wpAny_callSpecial?_slot (name := Str.ofString "__getitem__") ht.typeIs PyProof.Rows.slot_tuple_getitem
    (wpAny_call_entry PyProof.Rows.slot_tuple_getitem ht.typeIs entry_tuple_getitem ?_ (args_tuple_getitem _ _)))
  show wpAny _ _ (Builtin.Tuple.tupleItemsOf (.ref t) >>= _) _ _ s
  refine wpAny_bind (tupleItemsOf_ ht ?_)
  refine wpAny_bind (wpAny_typeOf hTs ?_)
  rw [if_pos (by decide)]
  refine wpAny_bind (sliceApplied_rev hs pl pu ps ?_)
  have hno : ¬ ((((items.size : Int) - 1) == 0 && (-1 : Int) == 1 && items.size == items.size) = true) := by
    rw [show ((-1 : Int) == 1) = false from rfl, Bool.and_false, Bool.false_and]
    exact Bool.false_ne_true
  show wpAny _ _ (if ((((items.size : Int) - 1) == 0 && (-1 : Int) == 1 && items.size == items.size)) = true then _ else _) _ _ s
  rw [if_neg hno, pick_rev]
  first
    | exact wpAny_bind (m := Builtin.Tuple.tupleExact _) (wpAny_newObj_type (wpAny_pure ⟨_, rfl, wpAny_pure h⟩) htake)
    | exact wpAny_bind (m := Builtin.Tuple.tupleExact _) (wpAny_newObj_type (wpAny_bind (wpAny_pure (wpAny_pure ⟨_, rfl, wpAny_pure h⟩))) htake)
    | exact wpAny_bind (wpAny_bind (m := Builtin.Tuple.tupleExact _) (wpAny_newObj_type (wpAny_pure (wpAny_pure ⟨_, rfl, wpAny_pure h⟩)) htake))
    | exact wpAny_bind (wpAny_bind (m := Builtin.Tuple.tupleExact _) (wpAny_newObj_type (wpAny_pure ⟨_, rfl, wpAny_pure h⟩) htake))
end
end HT
namespace L2
open PySem PySem.Spec PyProof.Rows
section
variable {X : Cx} {e : Expr} {te : TE}
/-- x[::-1] by values -/
def RevR (X : Cx) (r : V → Hp → VK → Prop) : Prop :=
  ∀ (pins : List (Addr × Obj)) (s : Shared) (σ : St) (H : Hp) (x : V) (v vl vu vs : Value) (sl : Addr) (Q : VK), Inv X pins σ H s → RelV x v → s.heap.IsSliceOf sl vl vu vs → IsPart vl none → IsPart vu none → IsPart vs (some (-1)) → r x H Q →
    ∃ T id, typeLookup (.type T) "__getitem__" = pure (some (.builtin id)) ∧ s.TypeIs v T ∧ wpAny (model X.prog X.w) X.A (getItem v (.ref sl)) (EP X pins σ Q) X.xe s
def tRevA (r : V → Hp → VK → Prop) (te : TE) : TE := fun σ H Q => te σ H fun x H1 => r x H1 Q
theorem pe_revA {r : V → Hp → VK → Prop} {k : Nat} {p1 p2 p3 pos : Pos} (hr : RevR X r) (he : PE X e te) : PE X (.Subscript e (.Slice none none (some (.UnaryOp .USub (.Constant (.int 1) k p1) p2)) p3) pos) (tRevA r te) := by
  refine ⟨fun pins s σ H Q I h => ?_⟩
  refine Subscript_ (thn (he.run pins s σ H _ I h) fun v s1 ⟨x, H1, I1, r1, q1⟩ => ?_)
  have hst : PO X (some (.UnaryOp .USub (.Constant (.int 1) k p1) p2)) (tPart (tUn (rU fun i => .int (-i)) (tC (.int 1)))) := po_some (pe_un un_neg pe_int)
  refine wpAny_Slice (thn (po_none.run pins s1 σ H1 (fun o H2 => o = none ∧ H2 = H1) I1 ⟨rfl, rfl⟩) fun vl s2 ⟨l, H2, I2, pl, el, e2⟩ => ?_)
  subst el e2
  refine thn (po_none.run pins s2 σ H2 (fun o H3 => o = none ∧ H3 = H2) I2 ⟨rfl, rfl⟩) fun vu s3 ⟨u, H3, I3, pu, eu, e3⟩ => ?_
  subst eu e3
  refine thn (hst.run pins s3 σ H3 (fun o H4 => o = some (-1) ∧ H4 = H3) I3 ⟨1, rfl, -1, rfl, rfl, rfl⟩) fun vs s4 ⟨o, H4, I4, ps, eo, e4⟩ => ?_
  subst eo e4
  have I5 : Inv X pins σ H4 { s4 with heap := s4.heap.push { cls := .type "slice", data := .fields #[vl, vu, vs] } } := I4.kept (t' := s4.toks) fun b ob q => Heap.get?_push_of_some _ q
  obtain ⟨T, id, hT, ht, hg⟩ := hr pins { s4 with heap := s4.heap.push { cls := .type "slice", data := .fields #[vl, vu, vs] } } σ H4 x v vl vu vs s4.heap.objs.size Q I5 r1 (Heap.IsSliceOf.new ..) pl pu ps q1
  show wpAny (model X.prog X.w) X.A (subscriptTail e (.Slice none none (some (.UnaryOp .USub (.Constant (.int 1) k p1) p2)) p3) v (.ref s4.heap.objs.size)) (EP X pins σ Q) X.xe { s4 with heap := s4.heap.push { cls := .type "slice", data := .fields #[vl, vu, vs] } }
  exact tail_any (ops := [v, .ref s4.heap.objs.size]) ht hT hg (by with_unfolding_all rfl)
theorem rev_tup : RevR X fun x H Q => ∃ a xs, x = .ref a ∧ SqT X.K H a xs ∧ ∀ p, H p = none → Q (.ref p) (upd H p (.tup xs.reverse)) := by
  intro pins s σ H x v vl vu vs sl Q I rx hs pl pu ps h
  obtain ⟨a, xs, rfl, hx, q⟩ := h
  cases rx
  obtain ⟨its, r, ht, hz⟩ := I.tuple hx
  have hlen : its.toArray.size = xs.length := by rw [List.size_toArray]; exact r.length.symm
  refine ⟨"tuple", _, PyProof.Rows.slot_tuple_getitem.lookup, ht.typeIs, ?_⟩
  refine HT.getItem_tuple_rev ht hs pl pu ps ?_ (by rw [hlen]; exact hz)
  refine ⟨.ref s.heap.objs.size, _, I.laid (t' := s.toks) (o := .tup xs.reverse) (fun b ob q => Heap.get?_push_of_some _ q) (Nat.le_refl _) ?_, rfl, q _ (I.hok.fresh (Nat.le_refl _))⟩
  exact ⟨by rw [List.length_reverse]; exact hz, _, r.reverse, IsTup.new _ _⟩
theorem rev_str : RevR X fun x H Q => ∃ z, x = .str z ∧ z.length ≤ sizeLine ∧ ∀ y : Str, y.length ≤ z.length → (∀ c, c ∈ y.cps.toList → c ∈ z.cps.toList) → Q (.str y) H := by
  intro pins s σ H x v vl vu vs sl Q I rx hs pl pu ps h
  obtain ⟨z, rfl, hz, q⟩ := h
  obtain ⟨t, rfl⟩ := rx
  obtain ⟨os, hos, hcs, hds⟩ := hs
  obtain ⟨l, rfl, el⟩ := IsPart.raw pl
  obtain ⟨u, rfl, eu⟩ := IsPart.raw pu
  obtain ⟨st, rfl, es⟩ := IsPart.raw ps
  refine ⟨"str", _, F.slot_str_getitem.lookup, typeIs_str _ _ _, ?_⟩
  have e1 : (st.map (·.1)).getD 1 = -1 := by rw [es]; rfl
  refine wpAny_getItem_str_slice (l := l) (u := u) (st := st) ⟨os, hos, hcs, hds⟩ (by rw [e1]; rfl) ?_
  have e0 : PySem.slicePicked z l u st = (List.range z.length).map fun k => z.length - 1 - k := by
    unfold PySem.slicePicked
    rw [el, eu, e1]
    exact PySem.W.krv_sliceRange z.length
  unfold PySem.sliceMade
  rw [e1, e0]
  rw [if_neg (show ¬ (((-1 : Int) == 1 && ((List.range z.length).map fun k => z.length - 1 - k).length == z.length) = true) from Bool.false_ne_true)]
  have hlen : (((List.range z.length).map fun k => z.length - 1 - k).filterMap (z.cps[·]?)).length ≤ z.length := by
    refine Nat.le_trans (List.length_filterMap_le _ _) ?_
    rw [List.length_map, List.length_range]
    exact Nat.le_refl _
  have hmem : ∀ c, c ∈ (((List.range z.length).map fun k => z.length - 1 - k).filterMap (z.cps[·]?)) → c ∈ z.cps.toList := fun c hc => by
    obtain ⟨j, _, hj⟩ := List.mem_filterMap.mp hc
    exact Array.mem_toList_iff.mpr (Array.mem_of_getElem? hj)
  exact ⟨Nat.le_trans hlen hz, .str _, H, I.tok _, ⟨_, rfl⟩, q _ hlen fun c hc => hmem c hc⟩
end
end L2
namespace Kf
open PySem PySem.Spec PyProof.Rows L2
section
variable {X : Cx} {e : Expr} {te : TD} {pos : Pos}
def revV : PyData → (PyData → Prop) → Prop
  | .tuple ds, q => q (.tuple ds.reverse)
  | .str z, q => z.length ≤ sizeLine ∧ ∀ y : Str, y.length ≤ z.length → (∀ c, c ∈ y.cps.toList → c ∈ z.cps.toList) → q (.str y)
  | _, _ => False
def dRev (te : TD) : TD := fun ρ M k => te ρ M fun x M1 => ∃ d, cview M1 x = some d ∧ revV d fun z => k (.dat z) M1
theorem rev_any : RevR X fun v H Q => ∃ B M x d q, OkM X.K X.prog X.w B M H ∧ RV X.K B M H v x ∧ cview M x = some d ∧ revV d q ∧ Made X B M H (fun z => ∃ y, z = .dat y ∧ q y) Q := by
  rintro pins s σ H x v vl vu vs sl Q I rx hs pl pu ps ⟨B, M, xx, d, q, ok, r, hv, h, m⟩
  cases d with
  | tuple ds =>
    obtain ⟨a, vs', rfl, h1, h2⟩ := rv_tup r hv
    exact rev_tup pins s σ H _ v vl vu vs sl Q I rx hs pl pu ps ⟨a, vs', rfl, h1, fun p hp => m.tup ok hp ⟨_, rfl, h⟩ (RpAll.rev h2)⟩
  | str z =>
    cases rv_str r hv
    exact rev_str pins s σ H _ v vl vu vs sl Q I rx hs pl pu ps ⟨z, rfl, h.1, fun y hy hc => m.keep ok ⟨_, rfl, h.2 y hy hc⟩ (.str _)⟩
  | _ => exact h.elim
theorem q_rev {k : Nat} {p1 p2 p3 : Pos} (he : QE X e te) : QE X (.Subscript e (.Slice none none (some (.UnaryOp .USub (.Constant (.int 1) k p1) p2)) p3) pos) (dRev te) := by
  refine ⟨PE.weak (pe_revA rev_any he.pe) fun σ H Q h => ?_⟩
  obtain ⟨B, ρ, M, k, ok, rs, t, f⟩ := h
  refine bindE ok rs t fun x M1 v H1 q e o r rs1 => ?_
  obtain ⟨d, hv, q⟩ := q
  exact ⟨B, M1, x, d, _, o, r, hv, q, fun z ⟨y, hy, hz⟩ v' H' ex o' r' => by subst hy; exact f _ M1 hz v' H' (e.trans ex) o' r'⟩
end
end Kf

/-! Kf: str of an int, upper, len of a set. -/
namespace Kf
open PySem PySem.Spec PyProof.Rows L2
section
variable {X : Cx} {pos : Pos} {o : Expr} {to : TD}
def strP : PN := fun M xs q => ∃ i : Int, xs = [.dat (.int i)] ∧ i.natAbs.log2 < 1920 ∧ q (.dat (.str (toString i)))
theorem qstr1 : QCall X (.type "str") strP := by
  rintro pins s σ H vs us Q I r ⟨B, M, xs, q, ok, rx, ⟨i, rfl, hi, h⟩, m⟩
  obtain ⟨v, rfl, rv⟩ := RVs.one rx
  cases rv
  exact call_str_int pins s σ H _ us Q I r ⟨i, rfl, hi, rp_of m ok h (.str _)⟩
def dUpper (to : TD) : TD := fun ρ M k => to ρ M fun x M1 => ∃ a, x = .dat (.str a) ∧ a.length ≤ 5592405 ∧ k (.dat (.str (Txt.upper a))) M1
theorem q_upper {apos : Pos} (ho : QE X o to) (hbase : attributeBase o "upper" X.env (eval o X.env) = eval o X.env := by rfl) (hline : (apos.endLine == pos.line) = true := by rfl) : QE X (.Call (.Attribute o "upper" apos) [] [] pos) (dUpper to) := by
  refine ⟨PE.weak (pe_upper ho.pe hbase hline) fun σ H Q h => ?_⟩
  obtain ⟨B, ρ, M, k, ok, rs, t, f⟩ := h
  refine bindE ok rs t fun x M1 v H1 q e o r rs1 => ?_
  obtain ⟨a, rfl, ha, hk⟩ := q
  cases r
  exact ⟨⟨a, rfl⟩, a, rfl, rfl, ha, f _ M1 hk _ H1 e o (.str _)⟩
theorem cr_lenSetX : CallR X (.builtin "len") fun vs H Q => ∃ (a : Addr) (ks : List Key), vs = [V.ref a] ∧ H a = some (SetXO X.w a ks) ∧ Q (.int (ks.length : Nat)) H := by
  intro pins s σ H vs us Q I r ⟨a, ks, ex, ha, q⟩
  subst ex
  rw [Vals.ref1 r]
  have R : SetX X.w s.heap a ks := (I.hok a _ ha).1
  obtain ⟨ob, es, ep, t, ho, ⟨hex, hd⟩, ⟨_, hpm, _⟩, ⟨hb, hf, _⟩, _⟩ := R
  have hn : es.size = ks.length := by
    have := hpm.length_eq
    rw [List.length_map, Array.length_toList] at this
    exact this
  have hfit : (es.size : Int) < 2 ^ 63 := by
    have : es.size < scanBound := hb
    have h2 : scanBound ≤ 2 ^ 62 := by decide
    omega
  exact call_len_set ho hex hd hf hfit ⟨.int (ks.length : Nat), H, I.tok _, ⟨_, by rw [hn]⟩, q⟩
def dLenSet (t : TDa) : TD := fun ρ M k => t ρ M fun xs M1 => ∃ x d, ∃ (zs : List Int), xs = [x] ∧ cview M1 x = some d ∧ items d = some (zs.map PyData.int) ∧ zs.length < 4000 ∧
  ∀ ys : List Int, ys.Nodup → (∀ z, z ∈ ys ↔ z ∈ zs) → k (.dat (.int ((ys.length : Nat) : Int))) M1
theorem q_lenSet {x y : Str} {e : Expr} {es : List Expr} {t : TDa} {p p2 pos pos2 : Pos} (hc : X.calm = true) (hg : Gl X x) (hm : X.mg x = none) (hv : bootBuiltins x = some (.builtin "len")) (hg2 : Gl X y) (hm2 : X.mg y = none) (hv2 : bootBuiltins y = some (.type "set")) (ha : QA X (e :: es) t)
    (hn : x ≠ "__name__" := by decide) (hd : (x == ("__debug__" : Str)) = false := by decide) (hn2 : y ≠ "__name__" := by decide) (hd2 : (y == ("__debug__" : Str)) = false := by decide)
    (hs2 : starEach (e :: es) X.env = (false, eval e X.env) :: starEach es X.env := by rfl) (h22 : (backTo pos2 (starEach es X.env)).any (·.1) = false := by rfl)
    (hs : starEach [Expr.Call (.Name y p2) (e :: es) [] pos2] X.env = (false, eval (Expr.Call (.Name y p2) (e :: es) [] pos2) X.env) :: starEach [] X.env := by rfl) (h2 : (backTo pos (starEach [] X.env)).any (·.1) = false := by rfl) :
    QE X (.Call (.Name x p) [.Call (.Name y p2) (e :: es) [] pos2] [] pos) (dLenSet t) := by
  refine ⟨PE.weak (pe_callB cr_lenSetX hg hm hv (pa_cons (pe_callTy (cr_setX hc) hg2 hm2 hv2 ha.pa hn2 hd2 hs2 h22) pa_nil) hn hd hs h2) fun σ H Q h => ?_⟩
  obtain ⟨B, ρ, M, k, ok, rs, t, f⟩ := h
  refine bindA ok rs t fun xs M1 vs H1 q e o r rs1 => ?_
  obtain ⟨x, d, zs, rfl, hv, hi, hl, hk⟩ := q
  obtain ⟨v, rfl, rv⟩ := RVs.one r
  have ek : (zs.map (Sum.inl : Int → Key)).map kV = zs.map V.int := by rw [List.map_map]; rfl
  obtain ⟨f1, f2, f3⟩ := ded_facts (zs.map (Sum.inl : Int → Key)) [] List.nodup_nil
  have all : ∀ j, j ∈ dedK (zs.map Sum.inl) → Sum.inl (keyN j) = j := fun j hj => by
    rcases (f2 j).mp hj with z | z
    · exact absurd z List.not_mem_nil
    · obtain ⟨w, _, rfl⟩ := List.mem_map.mp z; rfl
  have back : ((dedK (zs.map Sum.inl)).map keyN).map Sum.inl = dedK (zs.map Sum.inl) := by
    rw [List.map_map]
    exact (List.map_congr_left fun j hj => all j hj).trans (List.map_id _)
  have mem0 : ∀ z, z ∈ (dedK (zs.map Sum.inl)).map keyN ↔ z ∈ zs := fun z => by
    rw [List.mem_map]
    constructor
    · rintro ⟨j, hj, rfl⟩
      rcases (f2 j).mp hj with w | w
      · exact absurd w List.not_mem_nil
      · obtain ⟨w, hw, rfl⟩ := List.mem_map.mp w; exact hw
    · exact fun hz => ⟨.inl z, (f2 _).mpr (.inr (List.mem_map.mpr ⟨z, hz, rfl⟩)), rfl⟩
  have nd0 : ((dedK (zs.map Sum.inl)).map keyN).Nodup := by
    have q : (((dedK (zs.map Sum.inl)).map keyN).map (Sum.inl : Int → Key)).Nodup := by rw [back]; exact f1
    exact List.Pairwise.of_map _ (fun a b hne e => hne (congrArg _ e)) q
  have hroom : (zs.map (Sum.inl : Int → Key)).length + 1 < scanBound := by rw [List.length_map]; unfold scanBound; omega
  have sq : ∃ a, v = .ref a ∧ (SqL X.K H1 a ((zs.map (Sum.inl : Int → Key)).map kV) ∨ SqT X.K H1 a ((zs.map (Sum.inl : Int → Key)).map kV)) := by
    rw [ek]
    cases d with
    | list ds =>
      obtain ⟨a, ws, rfl, g1, g2⟩ := cview_list o rv hv
      cases hi
      rw [rpI g2] at g1
      exact ⟨a, rfl, .inl (SqL.of g1)⟩
    | tuple ds =>
      obtain ⟨a, ws, rfl, g1, g2⟩ := rv_tup rv hv
      cases hi
      rw [rpI g2] at g1
      exact ⟨a, rfl, .inr g1⟩
    | _ => cases hi
  obtain ⟨a, rfl, sq⟩ := sq
  refine ⟨a, zs.map Sum.inl, rfl, sq, hroom, fun b hb => ⟨b, _, rfl, upd_same, ?_⟩⟩
  have o1 := ok_new (o := SetXO X.w b (dedK (zs.map Sum.inl))) o hb
  have hk' := hk _ nd0 mem0
  rw [List.length_map] at hk'
  exact f _ M1 hk' _ _ (e.trans (ext_new o hb)) o1 (.int _)
end
end Kf

/-! Kf: a module's constants. -/
namespace Kf
open PySem PySem.Spec PyProof.Rows L2
section
variable {X : Cx} {x : Str} {pos : Pos}
theorem q_gintE {i : Int} (hg : Gl X x) (hm : ∃ t, X.mg x = some (.int i t)) (hd : (x == ("__debug__" : Str)) = false := by decide) : QE X (.Name x pos) (dC (.int i)) := let ⟨_, h⟩ := hm; q_gint hg h hd
theorem q_gstrE {z : Str} (hg : Gl X x) (hm : ∃ t, X.mg x = some (.str z t)) (hd : (x == ("__debug__" : Str)) = false := by decide) : QE X (.Name x pos) (dC (.str z)) := let ⟨_, h⟩ := hm; q_gstr hg h hd
theorem rpAll_strs {K : PySem.W.Frag} {H : Hp} : ∀ zs : List Str, RpAll K H (zs.map V.str) (zs.map PyData.str)
  | [] => .nil
  | z :: zs => .cons (.str z) (rpAll_strs zs)
theorem q_gtup {zs : List Str} (hg : Gl X x) (hm : ∃ a, X.mg x = some (.ref a) ∧ ∀ H, SqT X.K H a (zs.map V.str)) (hd : (x == ("__debug__" : Str)) = false := by decide) : QE X (.Name x pos) (dC (.tuple (zs.map PyData.str))) := by
  obtain ⟨a, h1, h2⟩ := hm
  exact q_c (v := .ref a) (pe_glob hg h1 rfl hd) fun _ _ _ => .tup (h2 _) (rpAll_strs zs)
end
end Kf

/-! Kf: an order turned round stays an order. -/
namespace L2
open PySem PySem.Spec PyProof.Rows
section
variable {X : Cx}
theorem rev_ord : RevR X fun x H Q => ∃ a xs, x = .ref a ∧ SqT X.K H a xs ∧ ∀ p (o : Obj), o.dict = none → H p = none → Q (.ref p) (upd H p (.frz o (.tup xs.reverse))) := by
  intro pins s σ H x v vl vu vs sl Q I rx hs pl pu ps h
  obtain ⟨a, xs, rfl, hx, q⟩ := h
  cases rx
  obtain ⟨its, r, ht, hz⟩ := I.tuple hx
  have hlen : its.toArray.size = xs.length := by rw [List.size_toArray]; exact r.length.symm
  refine ⟨"tuple", _, PyProof.Rows.slot_tuple_getitem.lookup, ht.typeIs, ?_⟩
  refine HT.getItem_tuple_rev ht hs pl pu ps ?_ (by rw [hlen]; exact hz)
  have fr : H s.heap.objs.size = none := I.hok.fresh (Nat.le_refl _)
  have nw : ObjOk X.prog X.w (upd H s.heap.objs.size (.frz { cls := .type "tuple", data := .seq its.toArray.toList.reverse.toArray } (.tup xs.reverse))) (s.heap.push { cls := .type "tuple", data := .seq its.toArray.toList.reverse.toArray }) s.heap.objs.size (.frz { cls := .type "tuple", data := .seq its.toArray.toList.reverse.toArray } (.tup xs.reverse)) :=
    ⟨Heap.get?_push_size _ rfl, by rw [List.length_reverse]; exact hz, _, r.reverse, IsTup.new _ _⟩
  exact ⟨.ref s.heap.objs.size, _, I.laid (t' := s.toks) (fun b ob q => Heap.get?_push_of_some _ q) (Nat.le_refl _) nw, rfl, q _ _ rfl fr⟩
end
end L2
namespace Kf
open PySem PySem.Spec PyProof.Rows L2
section
variable {X : Cx} {e : Expr} {te : TD} {pos : Pos}
def dRevOrd (te : TD) : TD := fun ρ M k => te ρ M fun x M1 => ∃ ns, x = .dat (ordD ns) ∧ k (.dat (ordD ns.reverse)) M1
theorem q_revOrd {k : Nat} {p1 p2 p3 : Pos} (he : QE X e te) : QE X (.Subscript e (.Slice none none (some (.UnaryOp .USub (.Constant (.int 1) k p1) p2)) p3) pos) (dRevOrd te) := by
  refine ⟨PE.weak (pe_revA rev_ord he.pe) fun σ H Q h => ?_⟩
  obtain ⟨B, ρ, M, k, ok, rs, t, f⟩ := h
  refine bindE ok rs t fun x M1 v H1 q e o r rs1 => ?_
  obtain ⟨ns, rfl, hk⟩ := q
  obtain ⟨a, ob, rfl, h1, h2⟩ := rp_ord (show Rp X.K (fz B M1 H1) v (ordD ns) from r)
  refine ⟨a, ns.map V.int, rfl, .inl (.inr ⟨ob, (fz_some h1).2⟩), fun p o2 ho hp => ?_⟩
  rw [← List.map_reverse]
  exact f _ M1 hk _ _ (e.trans (ext_new o hp)) (ok_new o hp) (.ord (fz_new o hp) ho)
end
end Kf

/-! Kf: texts joined. -/
namespace Kf
open PySem PySem.Spec PyProof.Rows L2
section
variable {X : Cx} {o e : Expr} {to : TD} {t : TDa} {apos cpos : Pos}
def dJoin (to : TD) (t : TDa) : TD := fun ρ M k => to ρ M fun x M1 => ∃ a, x = .dat (.str a) ∧ t ρ M1 fun xs M2 => ∃ y, ∃ ys : List Str, xs = [y] ∧ cview M2 y = some (.list (ys.map PyData.str)) ∧ (ys.map (·.length)).sum + ys.length * a.length ≤ 16777216 ∧ k (.dat (.str (Txt.join a ys))) M2
theorem q_join (ho : QE X o to) (ha : QA X [e] t)
    (hbase : attributeBase o "join" X.env (eval o X.env) = eval o X.env := by rfl)
    (hfew : ((backTo cpos (starEach [e] X.env)).all (fun x => !x.1) && (backToKw cpos (keywordEach [] X.env)).all (fun x => x.1.isSome)
      && decide ([e].length + ([] : List Keyword).length + (if ([] : List Keyword).isEmpty then 0 else 1) < 30)) = true := by rfl)
    (hline : (apos.endLine == cpos.line) = true := by rfl) (hs : starEach [e] X.env = (false, eval e X.env) :: starEach [] X.env := by rfl) (hplain : (backTo cpos (starEach [] X.env)).any (·.1) = false := by rfl) :
    QE X (.Call (.Attribute o "join" apos) [e] [] cpos) (dJoin to t) := by
  refine ⟨PE.weak (pe_bm PySem.F.plainAttrs_str PySem.F.slot_str_join PySem.F.type_str_join mt_join ho.pe ha.pa hbase hfew hline hs hplain) fun σ H Q h => ?_⟩
  obtain ⟨B, ρ, M, k, ok, rs, t, f⟩ := h
  refine bindE ok rs t fun x M1 v H1 q e o r rs1 => ?_
  obtain ⟨a, rfl, q⟩ := q
  cases r
  refine ⟨rfl, bindA o rs1 q fun xs M2 us H2 q2 e2 o2 r2 rs2 => ?_⟩
  obtain ⟨y, ys, rfl, hv, hl, q2⟩ := q2
  obtain ⟨u, rfl, ru⟩ := RVs.one r2
  obtain ⟨p, ws, rfl, g1, g2⟩ := cview_list o2 ru hv
  rw [rpS g2] at g1
  exact ⟨a, p, ys, rfl, rfl, .inl (SqL.of g1), hl, f _ M2 q2 _ _ (e.trans e2) o2 (.str _)⟩
end
end Kf

/-! Kf: defs that raise, and try. -/
namespace Kf
open PySem PySem.Spec PyProof.Rows L2
abbrev RaX := Rho → MS → Prop
/-- a promise with a second end: what is owned where the error leaves -/
abbrev DSpX := List DV → MS → KD → (MS → Prop) → Prop
section
variable (X : Cx) (C : Addr) (W : WX)
def RaOk (B : List Addr) (M : MS) (H : Hp) (r : RaX) : Prop := ∀ ρ' M' σ' H', r ρ' M' → Ext B M H M' H' → OkM X.K X.prog X.w B M' H' → RepS X.K B M' H' σ' ρ' → W (.ref C) none σ' H'
def liftEX (t : RaX → TD) : TE := fun σ H Q => ∃ B ρ M k r, OkM X.K X.prog X.w B M H ∧ RepS X.K B M H σ ρ ∧ t r ρ M k ∧ (∀ d M', k d M' → Post X B M H Q d M') ∧ RaOk X C W B M H r
def liftSX (t : RaX → TDs) : TS := fun D σ H => ∃ B ρ M De r, OkM X.K X.prog X.w B M H ∧ RepS X.K B M H σ ρ ∧ t r De ρ M ∧ EndsOk X B M H De D ∧ RaOk X C W B M H r
structure QEX (e : Expr) (t : RaX → TD) : Prop where
  pe : PE X e (liftEX X C W t)
structure QSX (st : Stmt) (t : RaX → TDs) : Prop where
  ps : PS X st (liftSX X C W t)
structure QSsX (st : List Stmt) (t : RaX → TDs) : Prop where
  pss : PSs X st (liftSX X C W t)
end
section
variable {X : Cx} {C : Addr} {W : WX}
theorem RaOk.of {B : List Addr} {M M1 : MS} {H H1 : Hp} {r : RaX} (e : Ext B M H M1 H1) (p : RaOk X C W B M H r) : RaOk X C W B M1 H1 r := fun ρ' M' σ' H' q x o rs => p ρ' M' σ' H' q (e.trans x) o rs
theorem bindEX {ta : RaX → TD} {σ : L2.St} {H : Hp} {Q1 : VK} {ρ : Rho} {B : List Addr} {M : MS} {k1 : KD} {r : RaX} (ok : OkM X.K X.prog X.w B M H) (rs : RepS X.K B M H σ ρ) (h : ta r ρ M k1) (ra : RaOk X C W B M H r)
    (go : ∀ x M1 v H1, k1 x M1 → Ext B M H M1 H1 → OkM X.K X.prog X.w B M1 H1 → RV X.K B M1 H1 v x → RepS X.K B M1 H1 σ ρ → Q1 v H1) : liftEX X C W ta σ H Q1 :=
  ⟨B, ρ, M, k1, r, ok, rs, h, fun x M1 q v H1 e o r => go x M1 v H1 q e o r (rs.ext e), ra⟩
theorem PA.noxA {es : List Expr} {t : TA} (h : PA X.nox es t) : PA X es t := ⟨fun pos pins s σ H Q I hw =>
  wpAny_mono (h.run pos pins s σ H Q (I.wish _) hw) (fun _ _ ⟨v, H', I', r, q⟩ => ⟨v, H', I'.unwish, r, q⟩) fun _ _ z => False.elim z⟩
theorem PS.noxS {st : Stmt} {t : TS} (h : PS X.nox st t) : PS X st t := ⟨fun pins s σ H D I hw =>
  wpAny_mono (h.run pins s σ H D (I.wish _) hw) (fun _ _ q => q.unwish) fun _ _ z => False.elim z⟩
/-! ### what does not raise -/
theorem qex_of {e : Expr} {t : TD} (h : QE X.nox e t) : QEX X C W e (fun _ => t) :=
  ⟨PE.weak h.pe.nox fun σ H Q ⟨B, ρ, M, k, r, ok, rs, t, f, _⟩ => ⟨B, ρ, M, k, ok, rs, t, f⟩⟩
theorem qsx_of {st : Stmt} {t : TDs} (h : QS X.nox st t) : QSX X C W st (fun _ => t) :=
  ⟨PS.weak (PS.noxS h.ps) fun D σ H ⟨B, ρ, M, De, r, ok, rs, t, f, _⟩ => ⟨B, ρ, M, De, ok, rs, t, ⟨f.nx, f.rt, f.bk, f.ct⟩⟩⟩
/-! ### blocks -/
theorem qssx_nil : QSsX X C W [] (fun _ => dNext) := ⟨PSs.weak pss_nil fun D σ H ⟨B, ρ, M, De, r, ok, rs, t, f, _⟩ => f.nx ρ M σ H t Ext.refl ok rs⟩
theorem qssx_one {st : Stmt} {t : RaX → TDs} (h : QSX X C W st t) : QSsX X C W [st] t := ⟨pss_one h.ps⟩
theorem qssx_cons {st : Stmt} {rest : List Stmt} {t u : RaX → TDs} (h1 : QSX X C W st t) (h2 : QSsX X C W rest u) : QSsX X C W (st :: rest) (fun r => dSeq (t r) (u r)) := by
  refine ⟨PSs.weak (pss_cons h1.ps h2.pss) fun D σ H h => ?_⟩
  obtain ⟨B, ρ, M, De, r, ok, rs, t, f, ra⟩ := h
  exact ⟨B, ρ, M, { De with nx := u r De }, r, ok, rs, t, ⟨fun ρ' M' σ' H' q e o rs' => ⟨B, ρ', M', De, r, o, rs', q, f.of e, ra.of e⟩, f.rt, f.bk, f.ct⟩, ra⟩
theorem qsx_if {c : Expr} {a b : List Stmt} {pos : Pos} {tc : TDb} {t u : RaX → TDs} (hc : QT X.nox c tc) (ha : QSsX X C W a t) (hb : QSsX X C W b u) : QSX X C W (.If c a b pos) (fun r => dIf tc (t r) (u r)) := by
  refine ⟨PS.weak (ps_if hc.pt.nox ha.pss hb.pss) fun D σ H h => ?_⟩
  obtain ⟨B, ρ, M, De, r, ok, rs, t, f, ra⟩ := h
  refine ⟨B, ρ, M, _, ok, rs, t, fun c M1 q H1 e o => ?_⟩
  cases c with
  | true => exact ⟨B, ρ, M1, De, r, o, rs.ext e, q, f.of e, ra.of e⟩
  | false => exact ⟨B, ρ, M1, De, r, o, rs.ext e, q, f.of e, ra.of e⟩
theorem qsx_ret {e : Expr} {pos : Pos} {t : RaX → TD} (h : QEX X C W e t) : QSX X C W (.Return (some e) pos) (fun r => dRet (t r)) := by
  refine ⟨PS.weak (ps_ret h.pe) fun D σ H h => ?_⟩
  obtain ⟨B, ρ, M, De, r, ok, rs, t, f, ra⟩ := h
  exact bindEX ok rs t ra fun x M1 v H1 q e o r rs1 => f.rt x M1 q v H1 e o r
theorem qsx_expr {e : Expr} {pos : Pos} {t : RaX → TD} (h : QEX X C W e t) (hs : swapsWith e none pos.line X.env = pure false := by rfl) : QSX X C W (.Expr e pos) (fun r => dExpr (t r)) := by
  refine ⟨PS.weak (ps_expr h.pe hs) fun D σ H h => ?_⟩
  obtain ⟨B, ρ, M, De, r, ok, rs, t, f, ra⟩ := h
  exact bindEX ok rs t ra fun x M1 v H1 q e o r rs1 => f.nx ρ M1 σ H1 q e o rs1
theorem qsx_set {i : Nat} {x : Str} {e : Expr} {t : RaX → TD} {pos pos' : Pos} (hN : X.N.Nodup) (hi : X.N[i]? = some x) (hx : Loc X.env.scope x) (he : QEX X C W e t) (hs : swapsWith e (some (.Name x pos')) pos.line X.env = pure false := by rfl) (hf : X.fn x = true ∨ X.env.scope.names.lookup x = some .local := by first | exact .inl rfl | exact .inr rfl | assumption) :
    QSX X C W (.Assign [.Name x pos'] e pos) (fun r => dSet i (t r)) := by
  refine ⟨PS.weak (ps_set hN hi hx he.pe hs hf) fun D σ H h => ?_⟩
  obtain ⟨B, ρ, M, De, r, ok, rs, t, f, ra⟩ := h
  exact bindEX ok rs t ra fun x M1 v H1 q e o r rs1 => f.nx _ M1 _ H1 q e o (RepS.set rs1 r i)
theorem qsx_asg {tg e : Expr} {pos : Pos} {t : RaX → TD} {g : TDg} (he : QEX X C W e t) (hg : QG X tg g) (hs : swapsWithSole [tg] e pos.line X.env = pure false := by rfl) (hw : swappedStores [tg] e X.env = pure none := by rfl)
    (h1 : (assignEach [tg] X.env).map (·.2) = [assign tg X.env] := by rfl) : QSX X C W (.Assign [tg] e pos) (fun r => dAsg (t r) g) := by
  refine ⟨PS.weak (ps_asg he.pe hg.pg hs hw h1) fun D σ H h => ?_⟩
  obtain ⟨B, ρ, M, De, r, ok, rs, t, f, ra⟩ := h
  exact bindEX ok rs t ra fun x M1 v H1 q e o r rs1 => ⟨B, x, ρ, M1, De.nx, o, rs1, r, q, f.nx.of e⟩
/-- raise X('m') -/
def dRaise (r : RaX) : TDs := fun _ ρ M => r ρ M
structure ExcF (K : PySem.W.Frag) (mg : Str → Option Value) (x : Str) (C : Addr) : Prop where
  g : mg x = some (.ref C)
  f : PySem.W.excIn K C He.veBase "ValueError.__new__" = true ∧ PySem.W.keepIn K (.ref C) = true ∧ PySem.W.subIn K (.ref C) (.type "BaseException") = some true ∧ PySem.W.typeIn K (.ref C) = some (.type "type")
theorem qsx_raise {x m : Str} {j : Nat} {p p2 pos pos2 : Pos} (F : ExcF X.K X.mg x C) (tk : Takes X W) (hg : Gl X x) (hc : X.calm = true := by rfl) (hdb : (x == ("__debug__" : Str)) = false := by decide) :
    QSX X C W (.Raise (some (.Call (.Name x p) [.Constant (.str m) j p2] [] pos)) none pos2) dRaise := by
  refine ⟨PS.weak (ps_raise hc tk (pmk_own PySem.F.excBase_ValueError F.f.1 F.g F.f.2.1 (raises_own F.f.2.2.1 F.f.2.2.2) hg hdb)) fun D σ H h => ?_⟩
  obtain ⟨B, ρ, M, De, r, ok, rs, t, f, ra⟩ := h
  exact ra ρ M σ H t Ext.refl ok rs
/-! ### calls of what may raise -/
def liftPX (K : PySem.W.Frag) (P : Program) (w : World) (C : Addr) (sp : DSpX) : Sp := fun vs H Q E => ∃ B ds M k r, OkM K P w B M H ∧ RVs K B M H vs ds ∧ sp ds M k r ∧ (∀ d M', k d M' → ∀ v H', Ext B M H M' H' → OkM K P w B M' H' → RV K B M' H' v d → Q v H') ∧
  ∀ M', r M' → ∀ H', Ext B M H M' H' → OkM K P w B M' H' → E (.ref C) none H'
structure HasX (P : Program) (w : World) (K : PySem.W.Frag) (mg : Str → Option Value) (base : Heap) (C : Addr) (x : Str) (k : Nat) (ps : List Str) (sp : DSpX) : Prop where
  ex : ∃ f fd, FnOk P w K mg base (L2.CX P w) k f fd ps (liftPX K P w C sp) ∧ mg x = some (.ref f) ∧ PySem.W.keepIn K (.ref f) = true ∧ Binds K fd ps []
def dCallX (sp : DSpX) (t : TDa) (r : RaX) : TD := fun ρ M k => t ρ M fun ds M1 => sp ds M1 k (r ρ)
theorem qex_call {k : Nat} {ps : List Str} {sp : DSpX} {x : Str} {p pos : Pos} {e : Expr} {es : List Expr} {t : TDa} (F : HasX X.prog X.w X.K X.mg X.base C x k ps sp) (tk : Takes X W) (hr : Room k X.A) (hg : Gl X x) (ha : QA X.nox (e :: es) t)
    (hdb : (x == ("__debug__" : Str)) = false := by decide) (hs : starEach (e :: es) X.env = (false, eval e X.env) :: starEach es X.env := by rfl) (h2 : (backTo pos (starEach es X.env)).any (·.1) = false := by rfl) :
    QEX X C W (.Call (.Name x p) (e :: es) [] pos) (dCallX sp t) := by
  obtain ⟨f, fd, F, hm, hk, hb⟩ := F.ex
  refine ⟨PE.weak (pe_callS (E := WE W) F hr hg hm hk hb (fun σ => passAt tk σ) (PA.noxA ha.pa) hdb hs h2) fun σ H Q h => ?_⟩
  obtain ⟨B, ρ, M, k, r, ok, rs, t, f, ra⟩ := h
  refine ⟨B, ρ, M, _, ok, rs, t, fun ds M1 q vs H1 e o rv => ?_⟩
  exact ⟨B, ds, M1, k, r ρ, o, rv, q, fun d M' hk v H' e' o' r' => f d M' hk v H' (e.trans e') o' r', fun M' hr H' e' o' => ra ρ M' σ H' hr (e.trans e') o' (rs.ext (e.trans e'))⟩
/-- .. where it is known that it does not raise -/
def noR (sp : DSpX) : DSp := fun ds M k => sp ds M k fun _ => False
theorem q_callX0 {k : Nat} {ps : List Str} {sp : DSpX} {x : Str} {p pos : Pos} {e : Expr} {es : List Expr} {t : TDa} (F : HasX X.prog X.w X.K X.mg X.base C x k ps sp) (hr : Room k X.A) (hg : Gl X x) (ha : QA X (e :: es) t)
    (hdb : (x == ("__debug__" : Str)) = false := by decide) (hs : starEach (e :: es) X.env = (false, eval e X.env) :: starEach es X.env := by rfl) (h2 : (backTo pos (starEach es X.env)).any (·.1) = false := by rfl) :
    QE X (.Call (.Name x p) (e :: es) [] pos) (dCall (noR sp) t) := by
  obtain ⟨f, fd, F, hm, hk, hb⟩ := F.ex
  refine ⟨PE.weak (pe_callS (E := WE fun _ _ _ _ => False) F hr hg hm hk hb (fun σ => passAt takes0 σ) ha.pa hdb hs h2) fun σ H Q h => ?_⟩
  obtain ⟨B, ρ, M, k, ok, rs, t, f⟩ := h
  refine ⟨B, ρ, M, _, ok, rs, t, fun ds M1 q vs H1 e o rv => ?_⟩
  exact ⟨B, ds, M1, k, _, o, rv, q, fun d M' hk v H' e' o' r' => f d M' hk v H' (e.trans e') o' r', fun M' hr H' e' o' => hr.elim⟩
/-! ### try -/
def dTry (tb : RaX → TDs) (ts : TDs) : TDs := fun De ρ M => tb (fun ρ' M' => ts De ρ' M') De ρ M
theorem qs_try {x : Str} {c : Addr} {body suite : List Stmt} {b₀ : Stmt} {np pos pos' : Pos} {tb : RaX → TDs} {ts : TDs} (hs : X.stack = X.env :: X.outer) (hf : X.env.frame = some X.env.locals) (hg : Gl X x) (hm : X.mg x = some (.ref c)) (hx : PySem.W.exmOne X.K (.ref C) (.ref c) = some true)
    (hb : ∀ (W : WX) (pn : List (Addr × Obj)) (xe : Value → Shared → Prop), Takes (X.tr pn xe) W → QSsX (X.tr pn xe) C W body tb)
    (hsu : ∀ (a : Addr) (pn : List (Addr × Obj)), QSs (X.suite a pn) (b₀ :: suite) ts) (hdb : (x == ("__debug__" : Str)) = false := by decide) :
    QS X (.Try body [.ExceptHandler (some (.Name x np)) none (b₀ :: suite) pos'] [] [] pos) (dTry tb ts) := by
  refine ⟨PS.weak (ps_try_only (c := .ref c) (tb := fun W => liftSX X C W tb) (ts := fun _ _ _ => liftS X ts) (Wout := fun _ _ _ _ => False) hs hf ⟨hg, hdb, .inl hm⟩ takes0 (fun W pn xe tk _ => PSs.weak (hb W pn xe tk).pss fun D σ H ⟨B, ρ, M, De, r, ok, rs, t, f, ra⟩ => ⟨B, ρ, M, De, r, ok, rs, t, ⟨f.nx, f.rt, f.bk, f.ct⟩, ra⟩) (fun a oe cls d pn _ _ => PSs.weak (hsu a _).pss fun D σ H ⟨B, ρ, M, De, ok, rs, t, f⟩ => ⟨B, ρ, M, De, ok, rs, t, ⟨f.nx, f.rt, f.bk, f.ct⟩⟩)) fun D σ H h => ?_⟩
  obtain ⟨B, ρ, M, De, ok, rs, t, f⟩ := h
  exact ⟨B, ρ, M, De, _, ok, rs, t, f, fun ρ' M' σ' H' q e o rs' => ⟨true, hx, fun _ a _ => ⟨B, ρ', M', De, o, rs', q, f.of e⟩, fun z => nomatch z⟩⟩
def goneD (i : Nat) (De : DEnds) : DEnds := { nx := fun ρ M => De.nx (ρ.set i none) M, rt := De.rt, bk := fun ρ M => De.bk (ρ.set i none) M, ct := fun ρ M => De.ct (ρ.set i none) M }
def dTryAs (i : Nat) (tb : RaX → TDs) (ts : Addr → TDs) : TDs := fun De ρ M => tb (fun ρ' M' => ∀ a, ts a (goneD i De) (ρ'.set i (some (.ref a))) M') De ρ M
theorem qs_tryAs {x n : Str} {i : Nat} {c : Addr} {body suite : List Stmt} {b₀ : Stmt} {np pos pos' : Pos} {tb : RaX → TDs} {ts : Addr → TDs} (hs : X.stack = X.env :: X.outer) (hf : X.env.frame = some X.env.locals) (hN : X.N.Nodup) (hi : X.N[i]? = some n) (hln : X.env.kindOf n = some .local)
    (hg : Gl X x) (hm : X.mg x = some (.ref c)) (hx : PySem.W.exmOne X.K (.ref C) (.ref c) = some true)
    (hb : ∀ (W : WX) (pn : List (Addr × Obj)) (xe : Value → Shared → Prop), Takes (X.tr pn xe) W → QSsX (X.tr pn xe) C W body tb)
    (hsu : ∀ (a : Addr) (oe : Obj) (pn : List (Addr × Obj)), Zc (.ref C) none oe → (∃ vs, oe.data = .fields vs) → QSs (X.suite a ((a, oe) :: pn)) (b₀ :: suite) (ts a)) (hdb : (x == ("__debug__" : Str)) = false := by decide) :
    QS X (.Try body [.ExceptHandler (some (.Name x np)) (some n) (b₀ :: suite) pos'] [] [] pos) (dTryAs i tb ts) := by
  refine ⟨PS.weak (ps_try_as (i := i) (c := .ref c) (tb := fun W => liftSX X C W tb) (ts := fun a cls d D σ H => cls = .ref C ∧ d = none ∧ liftS X (ts a) D σ H) (Wout := fun _ _ _ _ => False) hs hf hN hi hln ⟨hg, hdb, .inl hm⟩ takes0 (fun W pn xe tk _ => PSs.weak (hb W pn xe tk).pss fun D σ H ⟨B, ρ, M, De, r, ok, rs, t, f, ra⟩ => ⟨B, ρ, M, De, r, ok, rs, t, ⟨f.nx, f.rt, f.bk, f.ct⟩, ra⟩) (fun a oe cls d pn hz hf => ⟨fun pins s σ H D I h => ?_⟩)) fun D σ H h => ?_⟩
  · obtain ⟨rfl, rfl, h⟩ := h
    obtain ⟨B, ρ, M, De, ok, rs, t, f⟩ := h
    exact (hsu a oe pn hz hf).pss.run pins s σ H D I ⟨B, ρ, M, De, ok, rs, t, ⟨f.nx, f.rt, f.bk, f.ct⟩⟩
  · obtain ⟨B, ρ, M, De, ok, rs, t, f⟩ := h
    refine ⟨B, ρ, M, De, _, ok, rs, t, f, fun ρ' M' σ' H' q e o rs' => ⟨true, hx, fun _ a _ => ⟨rfl, rfl, B, ρ'.set i (some (.ref a)), M', goneD i De, o, RepS.set rs' (show RV X.K B M' H' (.ref a) (.ref a) from rfl) i, q a, ?_⟩, fun z => nomatch z⟩⟩
    have fe := f.of e
    exact ⟨fun ρ1 M1 σ1 H1 q e o rs => fe.nx _ M1 _ H1 q e o (rs.setN i), fe.rt, fun ρ1 M1 σ1 H1 q e o rs => fe.bk _ M1 _ H1 q e o (rs.setN i), fun ρ1 M1 σ1 H1 q e o rs => fe.ct _ M1 _ H1 q e o (rs.setN i)⟩
/-- isinstance(e, Y) of the error that is held -/
def dIsE (a : Addr) (b : Bool) (t : TD) : TD := fun ρ M k => t ρ M fun x M1 => x = .ref a ∧ k (.dat (.bool b)) M1
theorem q_isE {a : Addr} {oe : Obj} {pn : List (Addr × Obj)} {e : Expr} {t : TD} {x : Str} {c : Addr} {b : Bool} {p p2 pos : Pos} (hz : Zc (.ref C) none oe) (hf : ∃ vs, oe.data = .fields vs) (F : ExcC X.K C) (hg : Gl X "isinstance") (hm : X.mg "isinstance" = none) (hT : Gl X x) (hmT : X.mg x = some (.ref c)) (hk : PySem.W.kitOne X.K (.ref C) (.ref c) = some b)
    (he : QE (X.suite a ((a, oe) :: pn)) e t) (hb : bootBuiltins "isinstance" = some (.builtin "isinstance") := by decide +kernel) (hd : (x == ("__debug__" : Str)) = false := by decide)
    (hs : starEach [e, .Name x p2] X.env = (false, eval e X.env) :: starEach [.Name x p2] X.env := by rfl) (hs2 : starEach [.Name x p2] X.env = (false, eval (.Name x p2) X.env) :: starEach [] X.env := by rfl) (h2 : (backTo pos (starEach [.Name x p2] X.env)).any (·.1) = false := by rfl) :
    QE (X.suite a ((a, oe) :: pn)) (.Call (.Name "isinstance" p) [e, .Name x p2] [] pos) (dIsE a b t) := by
  refine ⟨PE.weak (pe_callB (call_isE (pn := pn) F hz hf) hg hm hb (pa_cons he.pe (pa_cons (pe_glob (v := .ref c) hT hmT rfl hd) pa_nil hs2) hs) (by decide) (by decide) hs h2) fun σ H Q h => ?_⟩
  obtain ⟨B, ρ, M, k, ok, rs, t, f⟩ := h
  refine bindE ok rs t fun y M1 v H1 q e o r rs1 => ?_
  obtain ⟨rfl, q⟩ := q
  cases r
  exact ⟨.ref c, .ref c, b, rfl, fun u h => h, hk, f _ M1 q _ H1 e o (.bl _)⟩
theorem q_isEb {a : Addr} {oe : Obj} {pn : List (Addr × Obj)} {e : Expr} {t : TD} {x : Str} {T : String} {b : Bool} {p p2 pos : Pos} (hz : Zc (.ref C) none oe) (hf : ∃ vs, oe.data = .fields vs) (F : ExcC X.K C) (hg : Gl X "isinstance") (hm : X.mg "isinstance" = none) (hT : Gl X x) (hmT : X.mg x = none) (hv : bootBuiltins x = some (.type T)) (hk : PySem.W.kitOne X.K (.ref C) (.type T) = some b)
    (he : QE (X.suite a ((a, oe) :: pn)) e t) (hb : bootBuiltins "isinstance" = some (.builtin "isinstance") := by decide +kernel) (hn : x ≠ "__name__" := by decide) (hd : (x == ("__debug__" : Str)) = false := by decide)
    (hs : starEach [e, .Name x p2] X.env = (false, eval e X.env) :: starEach [.Name x p2] X.env := by rfl) (hs2 : starEach [.Name x p2] X.env = (false, eval (.Name x p2) X.env) :: starEach [] X.env := by rfl) (h2 : (backTo pos (starEach [.Name x p2] X.env)).any (·.1) = false := by rfl) :
    QE (X.suite a ((a, oe) :: pn)) (.Call (.Name "isinstance" p) [e, .Name x p2] [] pos) (dIsE a b t) := by
  refine ⟨PE.weak (pe_callB (call_isE (pn := pn) F hz hf) hg hm hb (pa_cons he.pe (pa_cons (pe_bltn (v := .ty T) hT hmT hv rfl hn hd) pa_nil hs2) hs) (by decide) (by decide) hs h2) fun σ H Q h => ?_⟩
  obtain ⟨B, ρ, M, k, ok, rs, t, f⟩ := h
  refine bindE ok rs t fun y M1 v H1 q e o r rs1 => ?_
  obtain ⟨rfl, q⟩ := q
  cases r
  exact ⟨.ty T, .type T, b, rfl, fun u h => h, hk, f _ M1 q _ H1 e o (.bl _)⟩
end
section
variable {P : Program} {w : World} {K : PySem.W.Frag} {mg : Str → Option Value} {base : Heap} {x qual : Str} {params : Arguments} {body : List Stmt} {scope : Scope} {f : Addr} {fd : FuncData} {N ps : List Str} {k : Nat} {C : Addr} {sp : DSpX} {t : RaX → TDs}
/-- THE RULE for a def that may raise C -/
theorem fn_okX (F : FunD K x qual params body scope [] [] f fd) (S : FnScope N ps scope) (len : ∀ ds M k r, sp ds M k r → ds.length = ps.length)
    (ht : ∀ (cdv : Value) (A : Around) (outer : List Env) (s : Shared) (H : Hp) (E : XK), Room k (A.deeper (envOfC qual scope s.heap.objs.size f cdv)) →
      Takes (cxOf (L2.CX P w) P w K mg base N qual scope f cdv A outer s H E) (fun cls d _ H => E cls d H) → QSsX (cxOf (L2.CX P w) P w K mg base N qual scope f cdv A outer s H E) C (fun cls d _ H => E cls d H) body t)
    (hq : ∀ ds M k r, sp ds M k r → t (fun _ M' => r M') { nx := fun _ M' => rtK k (.dat .none) M', rt := rtK k } (startD N ds) M) : FnOk P w K mg base (L2.CX P w) (k + 1) f fd ps (liftPX K P w C sp) := by
  refine F.ok S (fun vs H Q E ⟨B, ds, M, k, r, ok, rv, h, _⟩ => (Paired.len rv).trans (len ds M k r h)) fun cdv A outer s H vs Q E hr h => ?_
  obtain ⟨B, ds, M, k, r, ok, rv, h, hk, hx⟩ := h
  have fin : ∀ d M1, rtK k d M1 → ∀ v H1, Ext B M H M1 H1 → OkM K P w B M1 H1 → RV K B M1 H1 v d → Q v H1 := fun d M1 ⟨d', M', c, hk'⟩ v H1 e o rv =>
    hk d' M' hk' v H1 (e.trans (ext_sub c.1)) (ok_sub c.1 o) (conv.rv c o rv)
  refine ⟨_, (ht cdv A outer s H E hr (takes_of rfl rfl rfl rfl)).pss, B, startD N ds, M, { nx := fun _ M' => rtK k (.dat .none) M', rt := rtK k }, _, ok, start_rep rv, hq ds M k r h, ⟨fun ρ' M' σ' H' q e o _ => fin _ M' q _ H' e o .non, fun d M' q v H' e o rv => fin d M' q v H' e o rv, fun _ _ _ _ q => q.elim, fun _ _ _ _ q => q.elim⟩, fun ρ' M' σ' H' q e o _ => hx M' q H' e o⟩
end
/-! ### what is asked of a class of errors, as a Bool -/
def excCB (K : PySem.W.Frag) (D : Addr) : Bool := He.eqO (PySem.W.findIn K (.ref D) "__getattribute__") (some (some (.builtin "BaseException.__getattribute__"))) && (He.eqO (PySem.W.findIn K (.ref D) "__getattr__") (some none) && (decide (PySem.W.subIn K (.ref D) (.type "BaseException") = some true) &&
  (PySem.W.hasDictIn K D && (He.eqO (PySem.W.findIn K (.ref D) "__class__") (some (some (.builtin "object.__class__"))) && (He.eqO (PySem.W.specialIn K (.builtin "object.__class__") "__get__") (some (some (.builtin "getset_descriptor.__get__"))) &&
  (decide (PySem.W.takesIn K (.builtin "object.__class__") = some true) && decide (PySem.W.mroIn K D (.type "object") = some true)))))))
theorem excCB_ok {K : PySem.W.Frag} {D : Addr} (h : excCB K D = true) : ExcC K D := by
  unfold excCB at h
  obtain ⟨h1, h⟩ := He.ba h
  obtain ⟨h2, h⟩ := He.ba h
  obtain ⟨h3, h⟩ := He.ba h
  obtain ⟨h4, h⟩ := He.ba h
  obtain ⟨h5, h⟩ := He.ba h
  obtain ⟨h6, h⟩ := He.ba h
  obtain ⟨h7, h8⟩ := He.ba h
  exact ⟨He.eqO_ok h1, He.eqO_ok h2, of_decide_eq_true h3, h4, He.eqO_ok h5, He.eqO_ok h6, of_decide_eq_true h7, of_decide_eq_true h8⟩
def kitB2 (K : PySem.W.Frag) (D : Addr) (c : Value) (b : Bool) : Bool := decide (PySem.W.kitOne K (.ref D) c = some b)
theorem kitB2_ok {K : PySem.W.Frag} {D : Addr} {c : Value} {b : Bool} (h : kitB2 K D c b = true) : PySem.W.kitOne K (.ref D) c = some b := of_decide_eq_true h
end Kf

/-! Kf: sorted of a list of one; len of a dict whose keys are tuples. -/
namespace Kf
open PySem PySem.Spec PyProof PyProof.Rows L2
section
variable {X : Cx}
def sorted1P : PN := fun M xs q => (∃ x ds, xs = [x] ∧ cview M x = some (.list ds) ∧ ds.length ≤ 1 ∧ q (.dat (.list ds))) ∨ sortedP M xs q
theorem qsorted1 (hu : X.A.units + 64 < cLine) : QCall X (.builtin "sorted") sorted1P := by
  rintro pins s σ H vs us Q I r ⟨B, M, xs, q, ok, rx, (⟨x, ds, rfl, hv, hl1, h⟩ | h), m⟩
  · obtain ⟨v, rfl, rv⟩ := RVs.one rx
    obtain ⟨a, vs, rfl, h1, h2⟩ := cview_list ok rv hv
    obtain ⟨its, rvs, hl, hz⟩ := I.list (SqL.of h1)
    rw [Vals.ref1 r]
    have hlen : its.length ≤ 1 := by rw [← rvs.length, RpAll.length h2]; exact hl1
    refine Srt.sorted_any hl.isList (by rw [← rvs.length]; exact hz) (fun h2 => absurd h2 (by omega)) fun out hp => ?_
    have e : out = its := by
      match its, hlen, hp with
      | [], _, hp => exact hp.eq_nil
      | [y], _, hp => exact List.perm_singleton.mp hp
      | _ :: _ :: _, h, _ => exact absurd h (by rw [List.length_cons, List.length_cons]; omega)
    subst e
    obtain ⟨ep, he'⟩ := PyProof.Rows.sortedAll_at s.heap out out.toArray
    exact ⟨.ref _, _, I.laid (t' := s.toks) (o := .lst vs) (fun _ _ => PyProof.Rows.sortedAll_old) (Nat.le_succ _) ⟨hz, out, ep, rvs, he'⟩, rfl, m.lst ok (I.hok.fresh (Nat.le_succ _)) h h2⟩
  · exact qsorted hu pins s σ H vs us Q I r ⟨B, M, xs, q, ok, rx, h, m⟩
def lenDT : PN := fun M xs q => ∃ a kvs, xs = [.ref a] ∧ M a = some (.dicT kvs) ∧ kvs.length ≤ 1000000 ∧ q (.dat (.int ((kvs.length : Nat) : Int)))
theorem qlenDT : QCall X (.builtin "len") lenDT := by
  rintro pins s σ H vs us Q I r ⟨B, M, xs, q, ok, rx, ⟨a, kvs, rfl, hm, hl, h⟩, m⟩
  obtain ⟨v, rfl, rv⟩ := RVs.one rx
  cases rv
  obtain ⟨ys, h1, h2, nd⟩ := ok.rep a _ hm
  obtain ⟨hsm, dd⟩ := dicT_at I h1 h2 nd
  rw [Vals.ref1 r]
  have e := Paired.len h2
  refine call_len_dictH hsm dd (by omega) ?_
  rw [← e]
  exact ⟨.int _, H, I.kept (t' := _) fun _ _ z => z, ⟨_, rfl⟩, rp_of m ok h (.int _)⟩
end
end Kf

/-! Kf: sorted of what is gathered; of a dict by tuples. Lists of owned things. get with a default. -/
namespace Kf
open PySem PySem.Spec PyProof PyProof.Rows L2
section
variable {prog : Program} {w : World} {A : Around} {E : Value → Shared → Prop} {s : Shared} {β : Type} {enc : β → PyData} {R : Value → β → Prop}
open PySem.W in
theorem sortedColl {l : Addr} {Pv : List Value → Prop} {Q : Value → Shared → Prop}
    (hcol : ∀ {Qc : List Value → Shared → Prop}, (∀ (h1 : Heap) (tk : Nat) (vs : List Value), (∀ b o, s.heap.get? b = some o → h1.get? b = some o) → Pv vs → Qc vs { s with heap := h1, toks := tk }) → wpAny (model prog w) A.in1 (collect (.ref l)) Qc E s)
    (hP : ∀ vs, Pv vs → ∃ bs : List β, EachIs R vs bs ∧ EachIs (fun v b => ∃ as, Reads s.heap v (enc b) as) vs bs ∧ AllAlike (bs.map enc) ∧ (Sortable (bs.map enc) ∨ ∀ d, d ∈ bs.map enc → ∃ xs, d = .tuple xs) ∧ bs.length ≤ sizeLine ∧ (∀ b, b ∈ bs → A.units + 2 + (enc b).depth < cLine) ∧
      ∀ (h1 h' : Heap) (tk : Nat) (p : Addr) (out : List Value) (c : Nat), (∀ b o, s.heap.get? b = some o → h1.get? b = some o) → (∀ b o, h1.get? b = some o → h'.get? b = some o) → h1.objs.size ≤ p → h'.get? p = some (seqObj "list" (List.toArray out) c) → EachIs R out (bs.mergeSort (dataLe false enc)) → Q (.ref p) { s with heap := h', toks := tk }) :
    wpAny (model prog w) A (call (.builtin "sorted") [.ref l]) Q E s := by
  refine Calls.call_function_entry PyProof.Rows.kind_sorted PyProof.Rows.plain_sorted PyProof.Rows.entry_sorted (PyProof.Rows.args_sorted1 _) ?_
  unfold Builtin.«sorted»
  refine wpAny_bind (m := checkCount "sorted" 1 1 _) (wpAny_pure ?_)
  refine wpAny_bind (hcol fun h1 tk vs k1 pv => ?_)
  obtain ⟨bs, e, er, hal, hk, hL, hu, hq⟩ := hP vs pv
  have hlen : vs.length = bs.length := e.length
  refine wpAny_bind (wpAny_newList ?_ (by rw [hlen]; exact hL))
  have hoL : (h1.push (seqObj "list" vs.toArray 0)).get? h1.objs.size = some (seqObj "list" vs.toArray 0) := Heap.get?_push_size _ rfl
  have keep2 : ∀ b u, s.heap.get? b = some u → (sortingHeap (h1.push (seqObj "list" vs.toArray 0)) h1.objs.size vs).get? b = some u := fun b u q =>
    sortingHeap_old (Nat.ne_of_lt (Heap.lt_size (k1 b u q))) (Heap.get?_push_of_some _ (k1 b u q))
  have er' : EachIs (fun v b => ∃ as, Reads (sortingHeap (h1.push (seqObj "list" vs.toArray 0)) h1.objs.size vs) v (enc b) as) vs bs := er.mono fun _ _ ⟨as, r⟩ => ⟨as, PyProof.Rows.Reads.keeps (fun b u q => keep2 b u q) r⟩
  have S : SortsAt prog w A.in1.in1 { s with heap := sortingHeap (h1.push (seqObj "list" vs.toArray 0)) h1.objs.size vs, toks := tk } (dataKind (sortingHeap (h1.push (seqObj "list" vs.toArray 0)) h1.objs.size vs) (bs.map enc)) vs := by
    have each := each_map (R := fun v d => ∃ as, Reads (sortingHeap (h1.push (seqObj "list" vs.toArray 0)) h1.objs.size vs) v d as) enc er'
    rcases hk with hk | hk
    · exact SortsAt.data (s := { s with heap := sortingHeap (h1.push (seqObj "list" vs.toArray 0)) h1.objs.size vs, toks := tk }) each hal hk (bound_map hu)
    · exact SortsAt.tups (s := { s with heap := sortingHeap (h1.push (seqObj "list" vs.toArray 0)) h1.objs.size vs, toks := tk }) each hal hk (bound_map hu)
  refine wpAny_bind (wpAny_holding (wpAny_call_entry PyProof.Rows.slot_list_sort ⟨_, hoL, rfl⟩ PyProof.Rows.entry_list_sort (list_sort_vals (s := { s with heap := h1.push (seqObj "list" vs.toArray 0), toks := tk }) hoL S (by rw [hlen]; exact hL) ⟨_, rfl, ?_⟩) (PyProof.Rows.args_list_sort _)))
  obtain ⟨c, hc2⟩ := PyProof.Rows.sortedHeap_at (vs := vs) (out := (sortVals (dataKind (sortingHeap (h1.push (seqObj "list" vs.toArray 0)) h1.objs.size vs) (bs.map enc)) false vs vs).toArray) hoL
  refine wpAny_pure ⟨_, rfl, hq h1 _ tk h1.objs.size _ c k1 (fun b u q => ?_) (Nat.le_refl _) hc2 (sortVals_data false e er' hal)⟩
  have hlt := Heap.lt_size q
  show (sortedHeap (h1.push (seqObj "list" vs.toArray 0)) h1.objs.size vs _).get? b = some u
  rw [PyProof.Rows.sortedHeap_old (Nat.ne_of_lt hlt) (by rw [size_push']; exact Nat.lt_succ_of_lt hlt)]; exact Heap.get?_push_of_some _ q
end
section
variable {prog : Program} {w : World}
theorem vals_at : ∀ {xs : List V} {us : List Value}, xs.length = us.length → (∀ (j : Nat) v u, xs[j]? = some v → us[j]? = some u → RelV v u) → Vals xs us
  | [], [], _, _ => .nil
  | v :: xs, u :: us, hl, h => .cons (h 0 v u rfl rfl) (vals_at (by simpa using hl) fun j v u e1 e2 => h (j + 1) v u (by simpa using e1) (by simpa using e2))
  | [], _ :: _, hl, _ => by simp at hl
  | _ :: _, [], hl, _ => by simp at hl
theorem srcRaw {d : Addr} {es : Array DictEntry} {ep : Nat} (lo : (d == sysModules) = false) : PySem.W.KdlSrc prog w "dict" d d es.size (fun i v => ∃ hi : i < es.size, v = es[i].key) (fun h => h.DictRaw d es ep) where
  type := fun _ hm => hm.typeIs
  there := fun _ hm => by obtain ⟨o, ho, _⟩ := hm; exact ⟨Heap.lt_size ho, Heap.lt_size ho⟩
  keep := fun _ _ hm hk => hm.at fun o e => hk d (.inl rfl) o e
  notList := by decide
  notTuple := by decide
  hint := fun _ _ _ _ hm hq => PySem.W.kdl_hint_dict hm.typeIs hq
  iter := fun A s hh hm => by
    have hlt : d < s.heap.objs.size := by obtain ⟨o, ho, _⟩ := hm; exact Heap.lt_size ho
    exact ⟨_, _, (fun _ _ hq => wpAny_pyIter_dict_raw lo hm hq), Walks.rawKeys hh _ d (Nat.ne_of_lt hlt) es ep, ⟨⟨_, Heap.get?_push_size _ rfl, rfl, rfl⟩, hm.at fun o e => Heap.get?_push_of_some _ e⟩⟩
end
section
variable {X : Cx}
theorem entT_keys {K : PySem.W.Frag} {B : List Addr} {M : MS} {H : Hp} : ∀ {kvs : List (NestedKey × PyData)} {xs : List (NestedKey × Addr × Value)}, Paired (EntT K B M H) kvs xs → RpAll K (fz B M H) (xs.map fun y => V.ref y.2.1) (keysD kvs)
  | _, _, .nil => .nil
  | _, _, .cons a b => .cons a.2.1 (entT_keys b)
theorem nk_tup_nd {kvs : List (NestedKey × PyData)} : ∀ d, d ∈ keysD kvs → noDict d = true := fun d hd => by
  obtain ⟨p, _, rfl⟩ := List.mem_map.mp hd
  exact nk_nd p.1
/-- sorted(d), d a dict by tuples -/
def sortedDT : PN := fun M xs q => ∃ a kvs, xs = [.ref a] ∧ M a = some (.dicT kvs) ∧ PySem.W.AllAlike (keysD kvs) ∧ (∀ d, d ∈ keysD kvs → ∃ xs, d = .tuple xs) ∧ kvs.length ≤ sizeLine ∧ (∀ d, d ∈ keysD kvs → d.depth ≤ 60) ∧ q (.dat (.list ((keysD kvs).mergeSort (PySem.W.dataLe false id))))
theorem qsortedDT (hc : X.calm = true) (hu : X.A.units + 64 < cLine) : QCall X (.builtin "sorted") sortedDT := by
  rintro pins s σ H vs us Q I r ⟨B, M, xs, q, ok, rx, ⟨a, kvs, rfl, hm, hal, ht, hL, hdep, h⟩, m⟩
  obtain ⟨v, rfl, rv⟩ := RVs.one rx
  cases rv
  rw [Vals.ref1 r]
  obtain ⟨xs, h1, h2, nd⟩ := ok.rep a _ hm
  obtain ⟨hsm, dd⟩ := dicT_at I h1 h2 nd
  obtain ⟨es, ep, hr, hsz, hes⟩ := dd.raw
  have hxl := Paired.len h2
  have hra := entT_keys h2
  refine sortedColl (R := fun (u : Value) (p : V × PyData) => RelV p.1 u) (enc := fun p : V × PyData => p.2) (Pv := fun vs => vs.length = es.size ∧ ∀ j v, vs[j]? = some v → ∃ hi : j < es.size, v = es[j].key) (fun {Qc} hq => PySem.W.kdu_collect (A := X.A.in1) (srcRaw (ep := ep) hsm) (I.ok.hd hc) hr (by rw [hsz, ← hxl]; exact hL) fun h' tk acc hk hacc => hq h' tk acc.toList hk ⟨by rw [Array.length_toList]; exact hacc.1, fun j v e => hacc.2 j v (by rw [← Array.getElem?_toList]; exact e)⟩) fun vs hvs => ?_
  have rvs : Vals (xs.map fun y => V.ref y.2.1) vs := by
    have hl : (xs.map fun y => V.ref y.2.1).length = vs.length := by rw [List.length_map, hvs.1, hsz]
    refine vals_at hl fun j v u e1 e2 => ?_
    obtain ⟨hi, rfl⟩ := hvs.2 j u e2
    obtain ⟨y, hy, hkey, _⟩ := hes j hi
    rw [List.getElem?_map, hy] at e1
    cases e1
    exact hkey
  obtain ⟨e1, e2⟩ := each_src hra rvs
  have hl2 : (xs.map fun y => V.ref y.2.1).length = (keysD kvs).length := RpAll.length hra
  generalize xs.map (fun y => V.ref y.2.1) = ws at *
  have hmap : (ws.zip (keysD kvs)).map (·.2) = keysD kvs := List.map_snd_zip (by rw [hl2]; exact Nat.le_refl _)
  have hlen : (ws.zip (keysD kvs)).length = kvs.length := by rw [List.length_zip, hl2, Nat.min_self]; exact List.length_map _
  have hd2 : ∀ p, p ∈ ws.zip (keysD kvs) → p.2 ∈ keysD kvs := fun p hp => by rw [← hmap]; exact List.mem_map.mpr ⟨p, hp, rfl⟩
  refine ⟨ws.zip (keysD kvs), e1, each_reads I e1 fun p hp => Rp.dp _ _ (nk_tup_nd _ (hd2 p hp)) (Rp.un (e2 p hp)), by rw [hmap]; exact hal, .inr (by rw [hmap]; exact ht), by rw [hlen]; exact hL, fun p hp => by have := hdep p.2 (hd2 p hp); omega, fun h1 h' tk p out c k1 keep hp hob hout => ?_⟩
  have hv2 := each_vals hout
  have hrp := each_rp (K := X.K) (H := fz B M H) (ps := (ws.zip (keysD kvs)).mergeSort (PySem.W.dataLe false fun p : V × PyData => p.2)) fun p hp => e2 p (List.mem_mergeSort.mp hp)
  have hm2 : ((ws.zip (keysD kvs)).mergeSort (PySem.W.dataLe false fun p : V × PyData => p.2)).map (·.2) = (keysD kvs).mergeSort (PySem.W.dataLe false id) := by
    have h0 := PySem.W.sort_maps (r := PySem.W.dataLe false fun p : V × PyData => p.2) (s := PySem.W.dataLe false id) (fun p : V × PyData => p.2) (l := ws.zip (keysD kvs)) (fun _ _ _ _ => rfl)
    rw [hmap] at h0
    exact h0
  rw [hm2] at hrp
  have I1 : Inv X pins σ H { s with heap := h1, toks := tk } := I.kept k1
  have hf : H p = none := I1.hok.fresh hp
  exact ⟨.ref p, _, I1.laid (t' := tk) (o := .lst _) keep hp ⟨by rw [RpAll.length hrp, List.length_mergeSort]; unfold keysD; rw [List.length_map]; exact hL, out, c, hv2, hob⟩, rfl, m.lst ok hf h hrp⟩
end
end Kf

/-! Kf: lists of owned things; look-ups in locked dicts; get with a default. -/
namespace Kf
open PySem PySem.Spec PyProof PyProof.Rows L2
section
variable {X : Cx} {o e f : Expr} {to te tf : TD} {t : TDa} {apos cpos pos : Pos}
def dOwnR : TD := fun ρ M k => ∀ a, M a = none → k (.ref a) (setM M a (.lstR []))
theorem q_ownR : QE X (.List [] pos) dOwnR := by
  refine ⟨PE.weak (pe_lst qa_nil.pa) fun σ H Q h => ?_⟩
  obtain ⟨B, ρ, M, k, ok, rs, t, f⟩ := h
  refine bindA (ta := daNil) (k1 := fun xs M1 => xs = [] ∧ ∀ a, M1 a = none → k (.ref a) (setM M1 a (.lstR []))) ok rs ⟨rfl, t⟩ fun xs M1 vs H1 q e o r rs1 => ?_
  obtain ⟨rfl, q⟩ := q
  cases r
  refine ⟨Nat.zero_le _, fun p hp => f _ _ (q p (o.fresh hp)) _ _ (e.trans (ext_newO o hp)) (ok_newO o hp upd_same) rfl⟩
def dAppendR (to : TD) (t : TDa) : TD := fun ρ M k => to ρ M fun x M1 => ∃ a as0, x = .ref a ∧ M1 a = some (.lstR as0) ∧ t ρ M1 fun xs M2 => ∃ b as, xs = [.ref b] ∧ M2 a = some (.lstR as) ∧ as.length < sizeLine ∧ k (.dat .none) (setM M2 a (.lstR (as ++ [b])))
theorem q_appendR (ho : QE X o to) (ha : QA X [e] t)
    (hbase : attributeBase o "append" X.env (eval o X.env) = eval o X.env := by rfl)
    (hfew : ((backTo cpos (starEach [e] X.env)).all (fun x => !x.1) && (backToKw cpos (keywordEach [] X.env)).all (fun x => x.1.isSome)
      && decide ([e].length + ([] : List Keyword).length + (if ([] : List Keyword).isEmpty then 0 else 1) < 30)) = true := by rfl)
    (hline : (apos.endLine == cpos.line) = true := by rfl) (hs : starEach [e] X.env = (false, eval e X.env) :: starEach [] X.env := by rfl) (hplain : (backTo cpos (starEach [] X.env)).any (·.1) = false := by rfl) :
    QE X (.Call (.Attribute o "append" apos) [e] [] cpos) (dAppendR to t) := by
  refine ⟨PE.weak (pe_bm PySem.F.plainAttrs_list PySem.F.slot_list_append PySem.F.type_list_append mt_append ho.pe ha.pa hbase hfew hline hs hplain) fun σ H Q h => ?_⟩
  obtain ⟨B, ρ, M, k, ok, rs, t, f⟩ := h
  refine bindE ok rs t fun x M1 v H1 q e o r rs1 => ?_
  obtain ⟨a, as0, rfl, hm, q⟩ := q
  cases r
  have h0 : H1 a = some (.lst (as0.map V.ref)) := o.rep a _ hm
  refine ⟨.inl ⟨rfl, _, SqL.of h0⟩, bindA o rs1 q fun xs M2 us H2 q2 e2 o2 r2 rs2 => ?_⟩
  obtain ⟨b, as, rfl, hm2, hl, q2⟩ := q2
  obtain ⟨u, rfl, ru⟩ := RVs.one r2
  cases ru
  have h1 : H2 a = some (.lst (as.map V.ref)) := o2.rep a _ hm2
  have ew : Ext B M2 H2 (setM M2 a (.lstR (as ++ [b]))) (upd H2 a (.lst (as.map V.ref ++ [V.ref b]))) := ext_write o2 hm2
  exact ⟨a, _, _, rfl, rfl, h1, by rw [List.length_map]; exact hl, f _ _ q2 _ _ (e.trans (e2.trans ew)) (ok_write o2 hm2 (by show upd H2 a _ a = some (.lst ((as ++ [b]).map V.ref)); rw [upd_same, List.map_append]; rfl)) .non⟩
theorem atI_map {α β : Type} {g : α → β} {as : List α} {i : Int} {b : α} (h : atI as i = some b) : atI (as.map g) i = some (g b) := by
  unfold atI at h ⊢
  rw [List.length_map]
  cases e : ixN as.length i with
  | none => rw [e] at h; cases h
  | some j =>
    rw [e] at h
    show (as.map g)[j]? = _
    rw [List.getElem?_map, show as[j]? = some b from h]; rfl
def ixR : P2 := fun M x y q => ∃ a as i b, x = .ref a ∧ M a = some (.lstR as) ∧ cview M y = some (.int i) ∧ atI as i = some b ∧ q (.ref b)
theorem qixR : QIx X ixR := by
  rintro value slice pins s σ H v u v' u' Q I rv ru ⟨B, M, x, y, q, ok, rx, ry, ⟨a, as, i, b, rfl, hm, hy, hb, h⟩, m⟩ hs
  cases rx
  cases rv_int ry hy
  have h1 : H a = some (.lst (as.map V.ref)) := ok.rep a _ hm
  exact ix_list value slice pins s σ H _ _ v' u' Q I rv ru ⟨a, _, _, V.ref b, rfl, rfl, SqL.of h1, atI_map hb, m.keep ok h rfl⟩ hs
theorem dicF_at {pins : List (Addr × Obj)} {σ : L2.St} {H : Hp} {s : Shared} {B : List Addr} {M : MS} {a : Addr} {od : Obj} {xs : List (NestedKey × Addr × Value)} {kvs : List (NestedKey × PyData)} (I : Inv X pins σ H s) (hH : H a = some (.frz od (DicO X.prog X.w a xs))) (h2 : Paired (EntT X.K B M H) kvs xs) (nd : (kvs.map (·.1)).Nodup) :
    (a == sysModules) = false ∧ s.heap.DictOfH (nestedKind X.prog X.w) a xs := by
  obtain ⟨hg, ⟨hs, o, es, ep, ho, hx, hd, he⟩, hrest⟩ := (show s.heap.get? a = some od ∧ ObjOk X.prog X.w H s.heap a (DicO X.prog X.w a xs) from I.hok a _ hH)
  have all : (∀ x ∈ xs, (nestedKind X.prog X.w).is s.heap x.1 x.2.1) ∧ xs.map (·.1) = kvs.map (·.1) := by
    clear hH he nd hrest
    induction h2 with
    | nil => exact ⟨fun x hx => (List.not_mem_nil hx).elim, rfl⟩
    | @cons p q r r' e t ih =>
      obtain ⟨h1, h3⟩ := ih
      refine ⟨fun x hx => ?_, ?_⟩
      · rcases List.mem_cons.mp hx with z | z
        · subst z
          obtain ⟨e1, e2, e3, _⟩ := e
          rw [← e1]
          exact ⟨nk_is I p.1 _ _ (Rp.dp _ _ (nk_nd p.1) (Rp.un e2)) rfl, e3⟩
        · exact h1 x z
      · rw [List.map_cons, List.map_cons, h3, e.1]
  exact ⟨hs, o, es, ep, ho, hx, hd, he, all.1, by rw [all.2]; exact nd⟩
def ixDF : P2 := fun M x y q => ∃ a od xs kvs d ks z, x = .ref a ∧ M a = some (.dicF od xs kvs) ∧ y = .dat d ∧ isTk d ks ∧ lk kvs (.tup ks) = some z ∧ q (.dat z)
theorem qixDF (hu : X.A.units + 64 < cLine) : QIx X ixDF := by
  rintro value slice pins s σ H v u v' u' Q I rv ru ⟨B, M, x, y, q, ok, rx, ry, ⟨a, od, xs, kvs, d, ks, z, rfl, hm, rfl, ⟨hk, hk8⟩, hl, h⟩, m⟩ hs
  cases rx
  cases rv
  obtain ⟨h1, h2, nd⟩ := ok.rep a _ hm
  obtain ⟨p, w, h3, h4, h5⟩ := entT_lk h2 z hl
  obtain ⟨b, rfl, rfl, hb⟩ := tkey_is I ry ru hk hk8
  obtain ⟨hsm, dd⟩ := dicF_at I h1 h2 nd
  exact tail_any dd.typeIs PySem.F.slot_dict_getitem.lookup (wpAny_getItem_heap (nk_room hu) hb dd h3 ⟨w, H, I.tok _, h4, rp_of m ok h h5⟩) hs
/-- d.get(k, x) -/
def dGet2 (to te tf : TD) : TD := fun ρ M k => to ρ M fun x M1 => ∃ a, x = .ref a ∧ (∃ kvs, M1 a = some (.dicT kvs)) ∧ te ρ M1 fun y M2 => tf ρ M2 fun z M3 => ∃ kvs d ks zd, M3 a = some (.dicT kvs) ∧ y = .dat d ∧ isTk d ks ∧ z = .dat zd ∧ k (.dat ((lk kvs (.tup ks)).getD zd)) M3
theorem q_get2 (hu : X.A.units + 64 < cLine) (ho : QE X o to) (he : QE X e te) (hf : QE X f tf) (m : M2 X o "get" apos e f cpos := by exact ⟨rfl, rfl, rfl, rfl⟩) : QE X (.Call (.Attribute o "get" apos) [e, f] [] cpos) (dGet2 to te tf) := by
  refine ⟨⟨fun pins s σ H Q I h => ?_⟩⟩
  obtain ⟨B, ρ, M, k, ok, rs, t, fin⟩ := h
  refine wpAny_Call_method m.base m.few m.line PySem.F.plainAttrs_dict PySem.F.slot_dict_get PySem.F.type_dict_get (ho.run' I ok rs t fun x M1 v H1 u s1 q e1 o1 rx rs1 I1 rv => ?_)
  obtain ⟨a, rfl, ⟨kvs0, hm0⟩, q⟩ := q
  cases rx
  cases rv
  obtain ⟨xs0, g1, g2, g3⟩ := o1.rep a _ hm0
  obtain ⟨hsm0, dd0⟩ := dicT_at I1 g1 g2 g3
  obtain ⟨od0, es0, ep0, ho0, hx0, _⟩ := id dd0
  refine ⟨dd0.typeIs, fun b q => by cases q; exact ⟨_, ho0, hx0.2.1⟩, ?_⟩
  rw [m.trees]
  refine Calls.callWith_builtin rfl (Calls.evalArgs_plain (Calls.spliced_cons (he.run' I1 o1 rs1 q fun y M2 vy H2 iv s2 q2 e2 o2 ry rs2 I2 ri =>
    Calls.spliced_cons (hf.run' I2 o2 rs2 q2 fun z M3 vz H3 fv s3 q3 e3 o3 rz rs3 I3 rf => Calls.spliced_nil ?_))))
  obtain ⟨kvs, d, ks, zd, hm, rfl, ⟨hk, hk8⟩, rfl, q⟩ := q3
  obtain ⟨xs, h1, h2, nd⟩ := o3.rep a _ hm
  obtain ⟨b, rfl, rfl, hb⟩ := tkey_is (u := iv) I3 (Rp.ext e3 ry) ri hk hk8
  obtain ⟨hsm, dd⟩ := dicT_at I3 h1 h2 nd
  refine call_meetsIn PySem.F.slot_dict_get dd.typeIs PySem.F.entry_dict_get (PySem.F.args_dict_get_3 _ _ _) (meetsH_dict_get_default (nestedKind X.prog X.w) a b hsm fv) ⟨nk_room hu, .tup ks, xs, hb, dd, ?_⟩
  cases hl : lk kvs (.tup ks) with
  | some z =>
    obtain ⟨p, w, h3, h4, h5⟩ := entT_lk h2 z hl
    rw [h3]
    rw [hl] at q
    exact ⟨w, H3, I3.tok _, h4, fin _ _ q _ _ (e1.trans (e2.trans e3)) o3 h5⟩
  | none =>
    have h3 : atKey xs (.tup ks) = none := by
      have := entT_none (k := .tup ks) h2
      rw [hl] at this
      cases h : atKey xs (.tup ks) with
      | none => rfl
      | some p => rw [h] at this; cases this
    rw [h3]
    rw [hl] at q
    exact ⟨vz, H3, I3.tok _, rf, fin _ _ q _ _ (e1.trans (e2.trans e3)) o3 rz⟩
end
end Kf

/-! Ks: shares_of. -/
namespace Ks
open PySem PySem.Spec PyProof.Rows L2 Kf

/-! ### dicts by names -/
def kN (ns : List Str) : NestedKey := .tup (ns.map NestedKey.text)
def encSh (S : Sh) : List (NestedKey × PyData) := S.map fun p => (kN p.1, .int ((p.2 : Nat) : Int))
theorem kN_inj {a b : List Str} (h : kN a = kN b) : a = b := by
  unfold kN at h
  injection h with h
  exact (List.map_inj_right fun x y e => by cases e; rfl).mp h
theorem isTk_names (ns : List Str) : isTk (encNames ns) (ns.map NestedKey.text) := by
  have := texts_depth ns
  refine ⟨by simp [encNames, nkOf, nks_texts], ?_⟩
  simp only [NestedKey.depth]
  omega
theorem lk_enc (ns : List Str) : ∀ S : Sh, lk (encSh S) (kN ns) = (lk S ns).map fun n => PyData.int ((n : Nat) : Int)
  | [] => rfl
  | p :: r => by
    show lk ((kN p.1, _) :: encSh r) _ = _
    rw [lk_cons, lk_cons, lk_enc ns r]
    by_cases e : p.1 = ns
    · rw [if_pos e, if_pos (by rw [e])]; rfl
    · rw [if_neg e, if_neg fun z => e (kN_inj z)]
theorem pk_enc (ns : List Str) (n : Nat) (S : Sh) : pk (encSh S) (kN ns) (.int ((n : Nat) : Int)) = encSh (pk S ns n) := by
  unfold pk
  rw [lk_enc, Option.isSome_map]
  by_cases h : (lk S ns).isSome = true
  · rw [if_pos h, if_pos h]
    unfold encSh
    rw [List.map_map, List.map_map]
    refine List.map_congr_left fun p _ => ?_
    show (if kN p.1 = kN ns then _ else _) = _
    by_cases e : p.1 = ns
    · rw [if_pos (by rw [e])]
      show _ = (kN (if p.1 = ns then (p.1, n) else p).1, PyData.int (((if p.1 = ns then (p.1, n) else p).2 : Nat) : Int))
      rw [if_pos e]
    · rw [if_neg fun z => e (kN_inj z)]
      show _ = (kN (if p.1 = ns then (p.1, n) else p).1, PyData.int (((if p.1 = ns then (p.1, n) else p).2 : Nat) : Int))
      rw [if_neg e]
  · rw [if_neg h, if_neg h]
    unfold encSh
    rw [List.map_append]; rfl
theorem kN_data (ns : List Str) : (kN ns).data = encNames ns := nk_data (isTk_names ns).1
def encPr (p : List Str × Nat) : PyData := .tuple [encNames p.1, .int ((p.2 : Nat) : Int)]
theorem items_enc (S : Sh) : itemsD (encSh S) = S.map encPr := by
  unfold itemsD encSh
  rw [List.map_map]
  refine List.map_congr_left fun p _ => ?_
  show PyData.tuple [(kN p.1).data, _] = _
  rw [kN_data]; rfl
theorem keys_enc (S : Sh) : keysD (encSh S) = (S.map (·.1)).map encNames := by
  unfold keysD encSh
  rw [List.map_map, List.map_map]
  refine List.map_congr_left fun p _ => ?_
  show (kN p.1).data = _
  rw [kN_data]; rfl
theorem encSh_len (S : Sh) : (encSh S).length = S.length := List.length_map _
/-! ### shares_of -/
def t_sh_free : TDs := (dIf (dB (dOp (opR (isV id)) (dVar 3) (dC .none))) (dSet 2 (dOp (opV mulV) (dVar 2) (dC (.int 2)))) dNext)
def t_sh_put : TDs := (dPutT (dVar 6) (dVar 8) (dOp (opV addV) (dGet2 (dVar 6) (dVar 8) (dC (.int 0))) (dOp (opV divI) (dVar 9) (dC (.int 2)))))
def t_sh_goal : TDs := (dLock (dFor (diItemsF (dOp ixR (dVar 4) (dVar 7))) (gdTup 2 (gdCons (gdName 8) (gdCons (gdName 9) gdNil))) t_sh_put))
def t_sh_turn : TDs := (dSeq (dSet 6 dDicT)
  (dSeq (dIf (dB (dCall sp_is_leaf (daCons (dVar 5) daNil))) (dPutT (dVar 6) (dOp (opV ixV) (dVar 5) (dC (.int 1))) (dVar 2)) (dIf (dB (dOp (opR (isV not)) (dOp (opV ixV) (dVar 1) (dOp (opV ixV) (dVar 5) (dC (.int 0)))) (dC .none))) (dSet 6 (dOp ixR (dVar 4) (dOp (opV ixV) (dVar 5) (dOp (opV addV) (dC (.int 1)) (dOp (opV ixV) (dVar 1) (dOp (opV ixV) (dVar 5) (dC (.int 0)))))))) (dFor (diTup (dSl (dVar 5) (doSome (dC (.int 1))) doNone)) (gdName 7) t_sh_goal)))
  (dExpr (dAppendR (dVar 4) (daCons (dVar 6) daNil)))))
def t_shares_of : TDs := (dSeq (dSet 2 (dC (.int 1)))
  (dSeq (dFor (diTup (dVar 1)) (gdName 3) t_sh_free)
  (dSeq (dSet 4 dOwnR)
  (dSeq (dFor (diTup (dVar 0)) (gdName 5) t_sh_turn)
  (dRet (dOp ixR (dVar 4) (dUn negP (dC (.int 1)))))))))
def sp_shares_of : DSp := fun ds M k => ∃ (t : Tr) (sh : List (Option Nat)) (ord : List Nat), ds = [.dat (encF t), .dat (encSheet sh)] ∧ sh.length ≤ 10 ∧ CharLt sh.length t ∧ Sheet sh.length sh ∧ Ordd ord t ∧ ord.Perm (List.range sh.length) ∧ t.allL NmP ∧
  ∀ a S, M a = none → ShOk sh.length sh t S → k (.ref a) (setM M a (.dicT (encSh S)))
theorem sh_free {De : DEnds} {x0 x1 x4 x5 x6 x7 x8 x9 : Option DV} {M : MS} : ∀ (l : List (Option Nat)) (acc : Nat) (x3 : Option DV),
    (∀ y3, De.nx [x0, x1, some (.dat (.int ((acc * freeN l : Nat) : Int))), y3, x4, x5, x6, x7, x8, x9] M) →
    forD (gdName 3) t_sh_free De none (l.map encPart) [x0, x1, some (.dat (.int ((acc : Nat) : Int))), x3, x4, x5, x6, x7, x8, x9] M
  | [], acc, x3, h => ⟨True.intro, by have := h x3; rw [freeN, Nat.mul_one] at this; exact this⟩
  | none :: l, acc, x3, h => by
    refine ⟨True.intro, _, rfl, _, _, rfl, rfl, rfl, _, rfl, if_t rfl ?_⟩
    refine ⟨_, rfl, _, _, rfl, rfl, .inr ⟨by decide, by decide⟩, ?_⟩
    have e : ((acc : Nat) : Int) * 2 = ((acc * 2 : Nat) : Int) := by omega
    rw [e]
    refine sh_free l (acc * 2) _ fun y3 => ?_
    have := h y3
    rw [freeN, ← Nat.mul_assoc] at this
    exact this
  | some v :: l, acc, x3, h => by
    refine ⟨True.intro, _, rfl, _, _, rfl, rfl, rfl, _, rfl, if_f rfl ?_⟩
    exact sh_free l acc _ h
theorem get_enc {S : Sh} {ns : List Str} : (lk (encSh S) (.tup (ns.map NestedKey.text))).getD (.int 0) = .int (((lk S ns).getD 0 : Nat) : Int) := by
  rw [show (NestedKey.tup (ns.map NestedKey.text)) = kN ns from rfl, lk_enc]
  cases lk S ns <;> rfl
theorem div_nat2 {n : Nat} {q : PyData → Prop} (h : q (.int ((n / 2 : Nat) : Int))) : divI (.int ((n : Nat) : Int)) (.int 2) q := ⟨⟨by decide, by decide⟩, h⟩
theorem addNat {a b : Nat} {q : PyData → Prop} (h : q (.int ((a + b : Nat) : Int))) : addV (.int ((a : Nat) : Int)) (.int ((b : Nat) : Int)) q := by
  show q (.int _)
  rw [← Int.natCast_add]; exact h
/-- the shares of a goal, laid to -/
theorem sh_items {De : DEnds} {x0 x1 x2 x3 x4 x5 x7 : Option DV} {d s : Addr} {o : MO} (hne : s ≠ d) : ∀ (T S : Sh) (M : MS) (x8 x9 : Option DV), M d = some o → M s = some (.dicT (encSh S)) → S.length + T.length ≤ 100000 →
    (∀ y8 y9, De.nx [x0, x1, x2, x3, x4, x5, some (.ref s), x7, y8, y9] (setM M s (.dicT (encSh (addAll S T))))) →
    forD (gdTup 2 (gdCons (gdName 8) (gdCons (gdName 9) gdNil))) t_sh_put De (some (d, o)) (T.map encPr) [x0, x1, x2, x3, x4, x5, some (.ref s), x7, x8, x9] M
  | [], S, M, x8, x9, hd, hs, _, h => ⟨hd, by have := h x8 x9; rw [show addAll S [] = S from rfl, setM_self hs] at this; exact this⟩
  | p :: T, S, M, x8, x9, hd, hs, hl, h => by
    rw [List.length_cons] at hl
    refine ⟨hd, _, rfl, rfl, _, _, rfl, _, _, rfl, rfl, ?_⟩
    refine ⟨_, rfl, s, rfl, ⟨_, hs⟩, _, rfl, _, _, _, _, hs, rfl, isTk_names p.1, rfl, ?_⟩
    rw [get_enc]
    refine ⟨_, rfl, _, _, rfl, rfl, div_nat2 ⟨_, _, rfl, rfl, addNat ?_⟩⟩
    refine ⟨_, rfl, _, rfl, s, _, _, _, _, rfl, hs, rfl, isTk_names p.1, rfl, by rw [encSh_len]; exact slt (by omega), ?_⟩
    show forD _ _ _ _ _ _ (setM M s (.dicT (pk (encSh S) (kN p.1) _)))
    rw [pk_enc]
    have l1 := pk_length p.1 ((lk S p.1).getD 0 + p.2 / 2) S
    refine sh_items hne T _ _ _ _ (by rw [setM_ne (Ne.symm hne)]; exact hd) setM_same (by omega) fun y8 y9 => ?_
    rw [setM_set]
    exact h y8 y9
theorem setM_lock {M : MS} {d s : Addr} {o o' z : MO} (hne : s ≠ d) (h : M d = some o) : setM (setM (setM M d o') s z) d o = setM M s z := by
  rw [setM_comm (Ne.symm hne), setM_set, setM_comm hne, setM_self h]
theorem sh_goal {De : DEnds} {x0 x1 x2 x3 x5 x8 x9 : Option DV} {M : MS} {fa s d : Addr} {as : List Addr} {g : Nat} {S T : Sh} (hf : M fa = some (.lstR as)) (hd : as[g]? = some d) (hT : M d = some (.dicT (encSh T))) (hne : s ≠ d) (hs : M s = some (.dicT (encSh S))) (hl : S.length + T.length ≤ 100000)
    (h : ∀ y8 y9, De.nx [x0, x1, x2, x3, some (.ref fa), x5, some (.ref s), some (.dat (.int ((g : Nat) : Int))), y8, y9] (setM M s (.dicT (encSh (addAll S T))))) :
    t_sh_goal De [x0, x1, x2, x3, some (.ref fa), x5, some (.ref s), some (.dat (.int ((g : Nat) : Int))), x8, x9] M := by
  have fd : fa ≠ d := fun e => by subst e; rw [hf] at hT; cases hT
  refine ⟨d, _, hT, fun od xs => ?_⟩
  refine ⟨_, rfl, _, rfl, fa, as, _, d, rfl, by rw [setM_ne fd]; exact hf, rfl, atI_nat hd, d, od, xs, _, rfl, setM_same, ?_⟩
  show forD _ _ _ _ (itemsD (encSh T)) _ _
  rw [items_enc]
  refine sh_items hne T S _ _ _ setM_same (by rw [setM_ne hne]; exact hs) hl fun y8 y9 => ⟨by rw [setM_ne (Ne.symm hne)]; exact setM_same, ?_⟩
  rw [setM_lock hne hT]
  exact h y8 y9
/-- what is laid down for the rows ahead -/
structure ShM (F : List Row) (sh : List (Option Nat)) (M0 M : MS) (fa : Addr) (as : List Addr) : Prop where
  ow : M fa = some (.lstR as)
  nf : M0 fa = none
  nw : ∀ a, a ∈ as → M0 a = none
  sub : Sub M0 M
  at' : ∀ (j : Nat) a, as[j]? = some a → ∃ u S, Den F j u ∧ M a = some (.dicT (encSh S)) ∧ ShOk sh.length sh u S
theorem ShM.add {F : List Row} {sh : List (Option Nat)} {M0 M : MS} {fa a : Addr} {as : List Addr} {u : Tr} {S : Sh} {o : MO} (h : ShM F sh M0 M fa as) (hn : M a = none) (d : Den F as.length u) (s : ShOk sh.length sh u S) (he : o = .dicT (encSh S)) : ShM F sh M0 (setM (setM M a o) fa (.lstR (as ++ [a]))) fa (as ++ [a]) := by
  subst he
  have na : a ≠ fa := fun e => by rw [e, h.ow] at hn; cases hn
  have m0 : M0 a = none := sub_none h.sub hn
  refine ⟨setM_same, h.nf, fun b hb => ?_, fun b o hb => ?_, fun j b hj => ?_⟩
  · rcases List.mem_append.mp hb with z | z
    · exact h.nw b z
    · rw [List.mem_singleton.mp z]; exact m0
  · have h1 : b ≠ fa := fun e => by rw [e, h.nf] at hb; cases hb
    have h2 : b ≠ a := fun e => by rw [e, m0] at hb; cases hb
    rw [setM_ne h1, setM_ne h2]; exact h.sub b o hb
  · by_cases hl : j < as.length
    · rw [List.getElem?_append_left hl] at hj
      obtain ⟨u, S, d1, d2, d3⟩ := h.at' j b hj
      have h1 : b ≠ fa := fun e => by rw [e, h.ow] at d2; cases d2
      have h2 : b ≠ a := fun e => by rw [e, hn] at d2; cases d2
      exact ⟨u, S, d1, by rw [setM_ne h1, setM_ne h2]; exact d2, d3⟩
    · have hj2 := (List.getElem?_eq_some_iff.mp hj).1
      rw [List.length_append, List.length_singleton] at hj2
      have e : j = as.length := by omega
      subst e
      rw [List.getElem?_append_right (Nat.le_refl _), Nat.sub_self] at hj
      cases hj
      exact ⟨u, S, d, by rw [setM_ne na]; exact setM_same, s⟩
theorem ShM.again {F : List Row} {sh : List (Option Nat)} {M0 M : MS} {fa a b : Addr} {as : List Addr} {u : Tr} {S : Sh} {o : MO} (h : ShM F sh M0 M fa as) (hn : M a = none) (hb : b ∈ as) (hM : M b = some (.dicT (encSh S))) (d : Den F as.length u) (s : ShOk sh.length sh u S) : ShM F sh M0 (setM (setM M a o) fa (.lstR (as ++ [b]))) fa (as ++ [b]) := by
  have na : a ≠ fa := fun e => by rw [e, h.ow] at hn; cases hn
  have m0 : M0 a = none := sub_none h.sub hn
  refine ⟨setM_same, h.nf, fun c hc => ?_, fun b o hb => ?_, fun j c hj => ?_⟩
  · rcases List.mem_append.mp hc with z | z
    · exact h.nw c z
    · rw [List.mem_singleton.mp z]; exact h.nw b hb
  · have h1 : b ≠ fa := fun e => by rw [e, h.nf] at hb; cases hb
    have h2 : b ≠ a := fun e => by rw [e, m0] at hb; cases hb
    rw [setM_ne h1, setM_ne h2]; exact h.sub b o hb
  · by_cases hl : j < as.length
    · rw [List.getElem?_append_left hl] at hj
      obtain ⟨u, S, d1, d2, d3⟩ := h.at' j c hj
      have h1 : c ≠ fa := fun e => by rw [e, h.ow] at d2; cases d2
      have h2 : c ≠ a := fun e => by rw [e, hn] at d2; cases d2
      exact ⟨u, S, d1, by rw [setM_ne h1, setM_ne h2]; exact d2, d3⟩
    · have hj2 := (List.getElem?_eq_some_iff.mp hj).1
      rw [List.length_append, List.length_singleton] at hj2
      have e : j = as.length := by omega
      subst e
      rw [List.getElem?_append_right (Nat.le_refl _), Nat.sub_self] at hj
      cases hj
      have h1 : b ≠ fa := fun e => by rw [e, h.ow] at hM; cases hM
      have h2 : b ≠ a := fun e => by rw [e, hn] at hM; cases hM
      exact ⟨u, S, d, by rw [setM_ne h1, setM_ne h2]; exact hM, s⟩
theorem sh_turn {De : DEnds} {F : List Row} {sh : List (Option Nat)} {ord : List Nat} {M0 M : MS} {fa : Addr} {as : List Addr} {r : Row} {x3 x6 x7 x8 x9 : Option DV} (hl : sh.length ≤ 10) (hs : Sheet sh.length sh) (ho : ord.Perm (List.range sh.length)) (hF : RowsP ord F) (hFl : F.length ≤ 100000) (hr : F[as.length]? = some r) (hM : ShM F sh M0 M fa as)
    (h : ∀ M' a y6 y7 y8 y9, ShM F sh M0 M' fa (as ++ [a]) → De.nx [some (.dat (encFold F)), some (.dat (encSheet sh)), some (.dat (.int ((freeN sh : Nat) : Int))), x3, some (.ref fa), some (.dat (encRow r)), y6, y7, y8, y9] M') :
    t_sh_turn De [some (.dat (encFold F)), some (.dat (encSheet sh)), some (.dat (.int ((freeN sh : Nat) : Int))), x3, some (.ref fa), some (.dat (encRow r)), x6, x7, x8, x9] M := by
  have hil := (List.getElem?_eq_some_iff.mp hr).1
  obtain ⟨u, du, ou, _⟩ := hF.den _ hil
  have cu := ordd_lt ho ou
  have fit := hF.at _ _ hr
  intro a ha
  have na : fa ≠ a := fun e => by rw [← e, hM.ow] at ha; cases ha
  have hf1 : ∀ o, setM M a o fa = some (.lstR as) := fun o => by rw [setM_ne na]; exact hM.ow
  cases r with
  | leaf ns =>
    refine ⟨_, rfl, .leaf ns, rfl, _, rfl, if_t rfl ?_⟩
    refine ⟨_, rfl, _, rfl, _, rfl, _, _, rfl, rfl, _, rfl, a, [], _, _, _, rfl, setM_same, rfl, isTk_names ns, rfl, szb rfl, ?_⟩
    rw [setM_set]
    refine ⟨_, rfl, fa, as, rfl, hf1 _, _, rfl, a, as, rfl, hf1 _, slt (by omega), ?_⟩
    have e : u = .leaf ns := du.fn (.leaf hr)
    subst e
    exact h _ a _ _ _ _ (hM.add ha du (.leaf hs ns) rfl)
  | node c x y =>
    obtain ⟨hc, hx, hy, _, _⟩ := fit
    rw [List.length_take] at hx hy
    obtain ⟨ta, dta, _⟩ := hF.den x (by omega)
    obtain ⟨tb, dtb, _⟩ := hF.den y (by omega)
    have e : u = .node c ta tb := du.fn (.node hr dta dtb)
    subst e
    have hcl : c < sh.length := cu.1
    obtain ⟨p, hp⟩ := sheet_at hs hcl
    obtain ⟨ax, hax⟩ : ∃ b, as[x]? = some b := ⟨_, List.getElem?_eq_getElem (by omega)⟩
    obtain ⟨ay, hay⟩ : ∃ b, as[y]? = some b := ⟨_, List.getElem?_eq_getElem (by omega)⟩
    obtain ⟨ux, Sx, dx, mx, sx⟩ := hM.at' x ax hax
    obtain ⟨uy, Sy, dy, my, sy⟩ := hM.at' y ay hay
    have e1 := dx.fn dta
    have e2 := dy.fn dtb
    subst e1 e2
    have lx := sx.len hl
    have ly := sy.len hl
    refine ⟨_, rfl, .node c x y, rfl, _, rfl, if_f rfl ?_⟩
    refine ⟨_, rfl, _, rfl, _, _, rfl, rfl, _, rfl, _, _, rfl, rfl, _, sheet_ix hp, ?_⟩
    cases p with
    | some v =>
      refine ⟨_, _, rfl, rfl, rfl, _, rfl, if_t rfl ?_⟩
      rcases hs.2 v (List.mem_of_getElem? hp) with rfl | rfl
      · refine ⟨_, rfl, _, rfl, _, rfl, _, rfl, _, _, rfl, rfl, _, rfl, _, _, rfl, rfl, _, sheet_ix hp, _, _, rfl, rfl, _, _, rfl, rfl, _, rfl, ?_⟩
        refine ⟨fa, as, _, ax, rfl, hf1 _, rfl, atI_nat hax, ?_⟩
        refine ⟨_, rfl, fa, as, rfl, hf1 _, _, rfl, ax, as, rfl, hf1 _, slt (by omega), ?_⟩
        exact h _ ax _ _ _ _ (hM.again ha (List.mem_of_getElem? hax) mx du (.known (v := 0) hp sx))
      · refine ⟨_, rfl, _, rfl, _, rfl, _, rfl, _, _, rfl, rfl, _, rfl, _, _, rfl, rfl, _, sheet_ix hp, _, _, rfl, rfl, _, _, rfl, rfl, _, rfl, ?_⟩
        refine ⟨fa, as, _, ay, rfl, hf1 _, rfl, atI_nat hay, ?_⟩
        refine ⟨_, rfl, fa, as, rfl, hf1 _, _, rfl, ay, as, rfl, hf1 _, slt (by omega), ?_⟩
        exact h _ ay _ _ _ _ (hM.again ha (List.mem_of_getElem? hay) my du (.known (v := 1) hp sy))
    | none =>
      refine ⟨_, _, rfl, rfl, rfl, _, rfl, if_f rfl ?_⟩
      refine ⟨_, rfl, _, rfl, _, rfl, slT (cut_1 _ _ _) ⟨_, rfl, ?_⟩⟩
      have nx : a ≠ ax := fun e => by rw [e, mx] at ha; cases ha
      have ny : a ≠ ay := fun e => by rw [e, my] at ha; cases ha
      have l1 := addAll_len (T := Sx) (S := [])
      rw [List.length_nil] at l1
      refine ⟨True.intro, ?_⟩
      refine sh_goal (S := []) (T := Sx) (hf1 _) hax (by rw [setM_ne (Ne.symm nx)]; exact mx) nx setM_same (by rw [List.length_nil]; omega) fun y8 y9 => ⟨True.intro, ?_⟩
      rw [setM_set]
      refine sh_goal (S := addAll [] Sx) (T := Sy) (hf1 _) hay (by rw [setM_ne (Ne.symm ny)]; exact my) ny setM_same (by omega) fun y8 y9 => ⟨True.intro, ?_⟩
      rw [setM_set]
      refine ⟨_, rfl, fa, as, rfl, hf1 _, _, rfl, a, as, rfl, hf1 _, slt (by omega), ?_⟩
      exact h _ a _ _ _ _ (hM.add ha du (.free ou hcl hp sx sy) rfl)
theorem sh_loop {De : DEnds} {F : List Row} {sh : List (Option Nat)} {ord : List Nat} {M0 : MS} {fa : Addr} {x3 : Option DV} (hl : sh.length ≤ 10) (hs : Sheet sh.length sh) (ho : ord.Perm (List.range sh.length)) (hF : RowsP ord F) (hFl : F.length ≤ 100000) : ∀ (R P : List Row) (M : MS) (as : List Addr) (x5 x6 x7 x8 x9 : Option DV), F = P ++ R → as.length = P.length → ShM F sh M0 M fa as →
    (∀ M' as' y5 y6 y7 y8 y9, as'.length = F.length → ShM F sh M0 M' fa as' → De.nx [some (.dat (encFold F)), some (.dat (encSheet sh)), some (.dat (.int ((freeN sh : Nat) : Int))), x3, some (.ref fa), y5, y6, y7, y8, y9] M') →
    forD (gdName 5) t_sh_turn De none (R.map encRow) [some (.dat (encFold F)), some (.dat (encSheet sh)), some (.dat (.int ((freeN sh : Nat) : Int))), x3, some (.ref fa), x5, x6, x7, x8, x9] M
  | [], P, M, as, x5, x6, x7, x8, x9, e, hla, hM, h => ⟨True.intro, h M as _ _ _ _ _ (by rw [hla, e, List.append_nil]) hM⟩
  | r :: R, P, M, as, x5, x6, x7, x8, x9, e, hla, hM, h => by
    have hr : F[as.length]? = some r := by rw [e, hla]; simp
    refine ⟨True.intro, ?_⟩
    refine sh_turn hl hs ho hF hFl hr hM fun M' a y6 y7 y8 y9 hM' => ?_
    exact sh_loop hl hs ho hF hFl R (P ++ [r]) M' (as ++ [a]) _ _ _ _ _ (by rw [e]; simp) (by simp [hla]) hM' h
theorem rd_shares_of : ∀ ds M k, sp_shares_of ds M k → t_shares_of (rtE k) (startD ["fold", "sheet", "free", "part", "found", "row", "shares", "goal", "names", "number"] ds) M := by
  rintro _ M k ⟨t, sh, ord, rfl, hl, hc, hs, ho, hp, hn, h⟩
  have hF : RowsP ord (foldOf t) := by have := fold_rows ho hn _ (Nat.le_refl _); rwa [List.take_length] at this
  have hd := (size_b ho (show ord.length ≤ 10 by rw [perm_len hp]; exact hl)).1
  have hFl : (foldOf t).length ≤ 100000 := by
    have h1 := fold_len t
    have h2 := t.size_le
    have h3 : 2 ^ (t.depth + 1) ≤ 2 ^ 11 := Nat.pow_le_pow_right (by decide) (by omega)
    have h4 : (2 : Nat) ^ 11 = 2048 := rfl
    have h5 := post_len t []
    rw [List.length_nil] at h5
    omega
  refine ⟨_, rfl, sh.map encPart, rfl, ?_⟩
  refine sh_free (acc := 1) sh _ fun y3 => ?_
  rw [Nat.one_mul]
  intro fa hfa
  refine ⟨_, rfl, (foldOf t).map encRow, rfl, ?_⟩
  refine sh_loop (M0 := M) hl hs hp hF hFl (foldOf t) [] _ [] _ _ _ _ _ rfl rfl ⟨setM_same, hfa, fun a z => absurd z List.not_mem_nil, sub_new hfa, fun j a z => by simp at z⟩ fun M' as' y5 y6 y7 y8 y9 hla hM => ?_
  have den := den_fold t
  have hpos := den_lt den
  obtain ⟨a, hal⟩ : ∃ a, as'[as'.length - 1]? = some a := ⟨_, List.getElem?_eq_getElem (by omega)⟩
  obtain ⟨u, S, du, mu, su⟩ := hM.at' _ a hal
  rw [hla] at du
  have e := du.fn den
  subst e
  have hm0 := hM.nw a (List.mem_of_getElem? hal)
  have hix : atI as' (-1) = some a := by
    have e : as' = as'.dropLast ++ [a] := by
      have hn : as' ≠ [] := fun z => by rw [z] at hal; simp at hal
      have h2 : as'.getLast hn = a := by
        rw [List.getLast_eq_getElem]
        exact (List.getElem?_eq_some_iff.mp hal).2
      rw [← h2]; exact (List.dropLast_concat_getLast hn).symm
    rw [e]; exact atI_last _ _
  refine ⟨_, rfl, _, rfl, fa, as', _, a, rfl, hM.ow, rfl, hix, ?_⟩
  refine rt_sub (fun b o hb => ?_) (h a S hm0 su)
  by_cases e : b = a
  · subst e; rw [setM_same] at hb; cases hb; exact mu
  · rw [setM_ne e] at hb; exact hM.sub b o hb
end Ks

/-! Ks: the law of possible and sure. -/
namespace Ks
open PySem PySem.Spec PyProof.Rows L2 Kf

def t_k30_tail : TDs := (dSeq (dIf (dB (dOp (opR neV2) (dTup (daCons (dCall sp_possible (daCons (dVar 5) (daCons (dVar 6) daNil))) (daCons (dCall sp_sure (daCons (dVar 5) (daCons (dVar 6) daNil))) daNil))) (dCall sp_L_due (daCons (dVar 3) (daCons (dVar 2) (daCons (dVar 6) daNil)))))) (dRet (dC (.bool false))) dNext)
  (dSeq (dIf (dB (dOp (opR neV2) (dTup (daCons (dCall sp_possible (daCons (dVar 5) (daCons (dVar 8) daNil))) (daCons (dCall sp_sure (daCons (dVar 5) (daCons (dVar 8) daNil))) daNil))) (dCall sp_L_due (daCons (dVar 3) (daCons (dVar 2) (daCons (dVar 8) daNil)))))) (dRet (dC (.bool false))) dNext)
  (dSeq (dIf (dB (dOp (opR neV2) (dLc (diTup (dCall sp_possible (daCons (dVar 5) (daCons (dVar 8) daNil)))) (.one 9) (dB (dOp (opR (inV2 not)) (dVar 9) (dCall sp_possible (daCons (dVar 5) (daCons (dVar 6) daNil))))) (dVar 9)) (dLst daNil))) (dRet (dC (.bool false))) dNext)
  (dRet (dOp (opR eqV2) (dLc (diTup (dCall sp_sure (daCons (dVar 5) (daCons (dVar 6) daNil)))) (.one 9) (dB (dOp (opR (inV2 not)) (dVar 9) (dCall sp_sure (daCons (dVar 5) (daCons (dVar 8) daNil))))) (dVar 9)) (dLst daNil))))))
def t_law_k30 (C : Addr) : TDs := (dSeq (dAsg (dCall sp_L_made (daCons (dVar 0) (daCons (dC (.int 6)) daNil))) (gdTup 4 (gdCons (gdName 1) (gdCons (gdName 2) (gdCons (gdName 3) (gdCons (gdName 4) gdNil))))))
  (dSeq (dSet 5 (dCall (sp_folded C 12) (daCons (dVar 3) (daCons (dVar 4) daNil))))
  (dSeq (dSet 6 (dCall sp_L_sheet (daCons (dCall sp_L_mixed (daCons (dVar 0) (daCons (dC (.int 5)) daNil))) (daCons (dVar 1) daNil))))
  (dSeq (dSet 7 (dOp (opV modI) (dCall sp_L_mixed (daCons (dVar 0) (daCons (dC (.int 6)) daNil))) (dVar 1)))
  (dSeq (dSet 8 (dVar 6))
  (dSeq (dIf (dB (dOp (opR (isV id)) (dOp (opV ixV) (dVar 6) (dVar 7)) (dC .none))) (dSet 8 (dOp (opV addV) (dOp (opV addV) (dSl (dVar 6) doNone (doSome (dVar 7))) (dTup (daCons (dOp (opV modI) (dOp (opV divI) (dCall sp_L_mixed (daCons (dVar 0) (daCons (dC (.int 6)) daNil))) (dC (.int 10))) (dC (.int 2))) daNil))) (dSl (dVar 6) (doSome (dOp (opV addV) (dVar 7) (dC (.int 1)))) doNone))) dNext)
  t_k30_tail))))))
/-- names left over, as data: none -/
theorem flt_none {l b : List Str} (h : ∀ x, x ∈ l → x ∈ b) : (l.filter fun x => !decide (x ∈ b)) = [] := List.filter_eq_nil_iff.mpr fun x hx => by rw [decide_eq_true (h x hx)]; decide
/-- what is asked for one sheet -/
theorem k30_one {m : Nat} {ord : List Nat} {ws : List Str} {sh : List (Option Nat)} {key t : Tr} (hw : WsOk ws) (hm : m ≤ 6) (ho : ord.Perm (List.range m)) (g : Gt ord ws t) (f : ∀ bs, t.ans bs = key.ans bs) (hs : Sheet m sh) :
    Few sh t ws ∧ CharLt m t ∧ t.depth ≤ 10 ∧ (∀ x, Poss sh t x ↔ PossK m sh key x) ∧ ∀ x, Surely sh t x ↔ SureK m sh key x := by
  have c := ordd_lt ho g.ord
  have hl : ord.length ≤ 10 := by rw [perm_len ho]; omega
  have rc := rc_iff hs g.ord c
  refine ⟨⟨ws_pool hw, g.nm, (allT m).map fun bs => t.ans bs, ?_, fun ns r => ?_⟩, c, (size_b g.ord hl).1, fun x => ?_, fun x => ?_⟩
  · rw [List.length_map, allT_len]
    have : 2 ^ m ≤ 2 ^ 6 := Nat.pow_le_pow_right (by decide) hm
    have h4 : (2 : Nat) ^ 6 = 64 := rfl
    omega
  · obtain ⟨bs, b1, _, b3⟩ := (rc ns).mp r
    exact List.mem_map.mpr ⟨bs, (mem_allT m bs).mpr b1, b3⟩
  · constructor
    · rintro ⟨ns, r, hx⟩
      obtain ⟨bs, b1, b2, rfl⟩ := (rc ns).mp r
      rw [f] at hx
      exact ⟨bs, b1, b2, hx⟩
    · rintro ⟨bs, b1, b2, hx⟩
      rw [← f] at hx
      exact ⟨_, (rc _).mpr ⟨bs, b1, b2, rfl⟩, hx⟩
  · constructor
    · intro q bs b1 b2
      rw [← f]
      exact q _ ((rc _).mpr ⟨bs, b1, b2, rfl⟩)
    · intro q ns r
      obtain ⟨bs, b1, b2, rfl⟩ := (rc ns).mp r
      rw [f]; exact q bs b1 b2
theorem pair_pl {a b : List Str} (ha : StrsOk a) (hb : StrsOk b) : Cmp (.tuple [encNames a, encNames b]) := (Pl.tup (n := 2) fun d hd => by
  simp only [List.mem_cons, List.not_mem_nil, or_false] at hd
  rcases hd with rfl | rfl
  · exact pl_names ha
  · exact pl_names hb).cmp (by decide)
theorem k30_tail {x0 x1 x4 x7 x9 : Option DV} {M : MS} {k : KD} {m : Nat} {ord : List Nat} {ws : List Str} {sh mo : List (Option Nat)} {key t : Tr} (hw : WsOk ws) (hm1 : 1 ≤ m) (hm : m ≤ 6) (ho : ord.Perm (List.range m)) (g : Gt ord ws t) (f : ∀ bs, t.ans bs = key.ans bs) (hc : CharLt m key) (hd : key.depth ≤ 12) (hs : Sheet m sh) (hmo : Sheet m mo) (hsub : ∀ bs, Agr mo bs → Agr sh bs)
    (h : k (.dat (.bool true)) M) : t_k30_tail (rtE k) [x0, x1, some (.dat (encNames ws)), some (.dat (encKey key)), x4, some (.dat (encF t)), some (.dat (encSheet sh)), x7, some (.dat (encSheet mo)), x9] M := by
  obtain ⟨f1, c1, d1, p1, s1⟩ := k30_one hw hm ho g f hs
  obtain ⟨f2, _, _, p2, s2⟩ := k30_one hw hm ho g f hmo
  have pp := ws_pool hw
  have ok : ∀ {ns}, Names ws ns → StrsOk ns := fun q x hx => pp.ok x (q.sub x hx)
  have cs : CharLt sh.length t := by rw [hs.1]; exact c1
  have cm : CharLt mo.length t := by rw [hmo.1]; exact c1
  have hs' : Sheet sh.length sh := by rw [hs.1]; exact hs
  have hmo' : Sheet mo.length mo := by rw [hmo.1]; exact hmo
  have inK : ∀ {q x}, PossK m q key x → x ∈ ws := fun {q x} ⟨bs, b1, _, hx⟩ => by
    rw [← f] at hx
    exact (allL_ans g.nm : Names ws (t.ans bs)).sub x hx
  have inS : ∀ {q x}, Sheet m q → SureK m q key x → x ∈ ws := fun {q x} hq hx => by
    obtain ⟨bs, b1, b2⟩ := agr_some hq
    have hx := hx bs b1 b2
    rw [← f] at hx
    exact (allL_ans g.nm : Names ws (t.ans bs)).sub x hx
  refine ⟨_, rfl, _, rfl, t, sh, ws, rfl, d1, cs, hs', f1, fun pa n1 e1 => ?_⟩
  refine ⟨_, rfl, _, rfl, t, sh, ws, ord, rfl, d1, cs, hs', f1, g.ord, fun sa n2 e2 => ?_⟩
  refine ⟨_, rfl, szb rfl, ?_⟩
  refine ⟨_, rfl, _, rfl, _, rfl, m, sh, ws, key, rfl, hm1, by omega, hs, hw, hc, hd, fun a b na ea nb eb => ?_⟩
  have q1 : pa = a := names_eq n1 na fun x => (e1 x).trans ((p1 x).trans ⟨fun z => (ea x).mpr ⟨inK z, z⟩, fun z => ((ea x).mp z).2⟩)
  have q2 : sa = b := names_eq n2 nb fun x => (e2 x).trans ((s1 x).trans ⟨fun z => (eb x).mpr ⟨inS hs z, z⟩, fun z => ((eb x).mp z).2⟩)
  subst q1; subst q2
  refine ⟨_, _, rfl, rfl, Cmp.ne2 (pair_pl (ok n1) (ok n2)) (pair_pl (ok n1) (ok n2)) (fun _ => ⟨_, rfl, if_f rfl ?_⟩) fun z => absurd rfl z⟩
  refine ⟨_, rfl, _, rfl, t, mo, ws, rfl, d1, cm, hmo', f2, fun pm n3 e3 => ?_⟩
  refine ⟨_, rfl, _, rfl, t, mo, ws, ord, rfl, d1, cm, hmo', f2, g.ord, fun sm n4 e4 => ?_⟩
  refine ⟨_, rfl, szb rfl, ?_⟩
  refine ⟨_, rfl, _, rfl, _, rfl, m, mo, ws, key, rfl, hm1, by omega, hmo, hw, hc, hd, fun a b na ea nb eb => ?_⟩
  have q1 : pm = a := names_eq n3 na fun x => (e3 x).trans ((p2 x).trans ⟨fun z => (ea x).mpr ⟨inK z, z⟩, fun z => ((ea x).mp z).2⟩)
  have q2 : sm = b := names_eq n4 nb fun x => (e4 x).trans ((s2 x).trans ⟨fun z => (eb x).mpr ⟨inS hmo z, z⟩, fun z => ((eb x).mp z).2⟩)
  subst q1; subst q2
  refine ⟨_, _, rfl, rfl, Cmp.ne2 (pair_pl (ok n3) (ok n4)) (pair_pl (ok n3) (ok n4)) (fun _ => ⟨_, rfl, if_f rfl ?_⟩) fun z => absurd rfl z⟩
  have l3 := n3.len
  have l2 := n2.len
  have lp := pp.few
  -- nothing becomes possible
  refine ⟨_, rfl, _, rfl, t, mo, ws, rfl, d1, cm, hmo', f2, fun pm' n3' e3' => ⟨pm'.map PyData.str, rfl, ?_⟩⟩
  have q3 : pm' = pm := names_eq n3' n3 fun x => (e3' x).trans (e3 x).symm
  subst q3
  refine flt_gen (enc := PyData.str) (p := fun x => !decide (x ∈ pa)) rfl pm' [] (fun x hx K hK => ?_) (by rw [List.length_nil]; omega) ?_
  · refine ⟨_, rfl, _, rfl, _, rfl, t, sh, ws, rfl, d1, cs, hs', f1, fun pa' n1' e1' => ?_⟩
    have q4 : pa' = pa := names_eq n1' n1 fun x => (e1' x).trans (e1 x).symm
    subst q4
    exact in_names (g := not) ⟨_, rfl, hK⟩
  rw [List.nil_append, flt_none fun x hx => (e1 x).mpr ((p1 x).mpr (by
    obtain ⟨bs, b1, b2, b3⟩ := (p2 x).mp ((e3 x).mp hx)
    exact ⟨bs, b1, hsub bs b2, b3⟩))]
  refine ⟨[], rfl, szb rfl, ne_nil ⟨_, rfl, if_f rfl ?_⟩⟩
  -- nothing that was sure is unsure
  refine ⟨_, rfl, _, rfl, t, sh, ws, ord, rfl, d1, cs, hs', f1, g.ord, fun sa' n2' e2' => ⟨sa'.map PyData.str, rfl, ?_⟩⟩
  have q5 : sa' = sa := names_eq n2' n2 fun x => (e2' x).trans (e2 x).symm
  subst q5
  refine flt_gen (enc := PyData.str) (p := fun x => !decide (x ∈ sm)) rfl sa' [] (fun x hx K hK => ?_) (by rw [List.length_nil]; omega) ?_
  · refine ⟨_, rfl, _, rfl, _, rfl, t, mo, ws, ord, rfl, d1, cm, hmo', f2, g.ord, fun sm' n4' e4' => ?_⟩
    have q6 : sm' = sm := names_eq n4' n4 fun x => (e4' x).trans (e4 x).symm
    subst q6
    exact in_names (g := not) ⟨_, rfl, hK⟩
  rw [List.nil_append, flt_none fun x hx => (e4 x).mpr ((s2 x).mpr fun bs b1 b2 => ((s1 x).mp ((e2 x).mp hx)) bs b1 (hsub bs b2))]
  have c2 : Cmp (.list []) := (Pl.lst (n := 1) fun d hd => absurd hd List.not_mem_nil).cmp (by decide)
  exact ⟨[], rfl, szb rfl, _, _, rfl, rfl, Cmp.eq2 c2 c2 (fun _ => rt_same h) fun z => absurd rfl z⟩
theorem modq2' {a : Nat} {q : PyData → Prop} (h : q (.int ((a % 2 : Nat) : Int))) : modI (.int (a : Int)) (.int 2) q := ⟨p2, h⟩
theorem rd_k30 (C : Addr) : ∀ ds M k, spLaw ds M k → t_law_k30 C (rtE k) (startD ["_law_script", "_law_many", "_law_words_here", "_law_key_here", "_law_order_here", "_law_fold", "_law_sheet_here", "_law_at", "_law_more", "_law_name"] ds) M := by
  rintro _ M k ⟨ns, rfl, hn, rfl, h⟩
  refine ⟨_, rfl, ns, 6, rfl, by decide, by decide, fun m ws key ord hm hm6 hw hc hk hd ho => ?_⟩
  refine ⟨_, rfl, rfl, _, _, rfl, _, _, rfl, _, _, rfl, _, _, rfl, rfl, ?_⟩
  have nd := perm_nd ho
  have hl : ord.length ≤ 10 := by rw [perm_len ho]; omega
  refine ⟨_, rfl, _, rfl, ord, key, rfl, nd, hl, key_in ho hc, by omega, fun one f1 => ?_⟩
  have g1 : Gt ord ws one := ⟨f1.ordd nd (key_in ho hc), f1.allL (names_in hw hk)⟩
  refine ⟨_, rfl, ns, 5, rfl, _, rfl, _, m, rfl, by omega, fun sh hs => ?_⟩
  refine ⟨_, rfl, ns, 6, rfl, _, rfl, _, _, rfl, rfl, modq hm ?_⟩
  have hcm := Nat.mod_lt (mixN ns 6) hm
  generalize mixN ns 6 % m = c at hcm ⊢
  refine ⟨_, rfl, ?_⟩
  obtain ⟨p, hp⟩ := sheet_at hs hcm
  refine ⟨_, rfl, _, rfl, _, _, rfl, rfl, _, sheet_ix hp, ?_⟩
  cases p with
  | some v =>
    refine ⟨_, _, rfl, rfl, rfl, _, rfl, if_f rfl ?_⟩
    exact k30_tail hw hm hm6 ho g1 f1.ans hc (by omega) hs hs (fun bs q => q) h
  | none =>
    refine ⟨_, _, rfl, rfl, rfl, _, rfl, if_t rfl ?_⟩
    have hcl : c < sh.length := by rw [hs.1]; exact hcm
    have hle : c ≤ (sh.map encPart).length := by rw [List.length_map]; omega
    have hle2 : c + 1 ≤ (sh.map encPart).length := by rw [List.length_map]; omega
    have hsl : sh.length ≤ 6 := by rw [hs.1]; exact hm6
    refine ⟨_, rfl, _, rfl, _, rfl, _, rfl, slT (cut_to hle) ?_⟩
    refine ⟨_, rfl, ns, 6, rfl, _, _, rfl, rfl, ⟨by omega, by omega⟩, _, _, rfl, rfl, modq2' ?_⟩
    have hv := Nat.mod_lt (mixN ns 6 / 10) (show 0 < 2 by decide)
    generalize mixN ns 6 / 10 % 2 = v at hv ⊢
    refine ⟨_, rfl, szb rfl, _, _, rfl, rfl, szm (by rw [List.length_take, List.length_map, List.length_singleton]; omega), ?_⟩
    refine ⟨_, rfl, _, rfl, _, _, rfl, rfl, _, rfl, _, rfl, slT (cut_from (j := c + 1) hle2) ⟨_, _, rfl, rfl, szm (by simp only [List.length_append, List.length_take, List.length_drop, List.length_map, List.length_singleton]; omega), ?_⟩⟩
    have ef : (sh.map encPart).take c ++ [PyData.int ((v : Nat) : Int)] ++ (sh.map encPart).drop (c + 1) = (sh.set c (some v)).map encPart := by
      rw [set_cutA hcl, List.map_append, List.map_append, List.map_take, List.map_drop]; rfl
    rw [ef]
    refine k30_tail (mo := sh.set c (some v)) hw hm hm6 ho g1 f1.ans hc (by omega) hs ⟨by rw [List.length_set]; exact hs.1, fun w hw' => ?_⟩ (fun bs q j w hj => ?_) h
    · rcases List.mem_or_eq_of_mem_set hw' with z | z
      · exact hs.2 w z
      · cases z; omega
    · by_cases e : c = j
      · subst e; rw [hp] at hj; cases hj
      · exact q j w (by rw [List.getElem?_set_ne e]; exact hj)
end Ks

/-! Ks: the next character to ask. -/
namespace Ks
open PySem PySem.Spec PyProof.Rows L2 Kf

noncomputable def pB (sh : List (Option Nat)) (t : Tr) (x : Str) : Bool := @decide (Poss sh t x) (Classical.propDecidable _)
theorem pB_iff {sh : List (Option Nat)} {t : Tr} {x : Str} : pB sh t x = true ↔ Poss sh t x := by
  unfold pB
  exact @decide_eq_true_iff _ (Classical.propDecidable _)
/-- the names that are possible, out of the words -/
noncomputable def posL (ws : List Str) (sh : List (Option Nat)) (t : Tr) : List Str := ws.filter (pB sh t)
theorem posL_names {ws : List Str} {sh : List (Option Nat)} {t : Tr} (hw : WsOk ws) : Names ws (posL ws sh t) := ⟨hw.asc.sublist List.filter_sublist, fun x hx => (List.mem_filter.mp hx).1⟩
theorem mem_posL {ws : List Str} {sh : List (Option Nat)} {t : Tr} {x : Str} : x ∈ posL ws sh t ↔ x ∈ ws ∧ Poss sh t x := by
  unfold posL
  rw [List.mem_filter]
  exact and_congr_right fun _ => pB_iff
theorem posL_len {ws : List Str} {sh : List (Option Nat)} {t : Tr} (hw : WsOk ws) : (posL ws sh t).length ≤ 6 := Nat.le_trans (List.length_filter_le _ _) hw.few
theorem poss_in {ws : List Str} {sh : List (Option Nat)} {t : Tr} (nm : t.allL (Names ws)) {x : Str} (h : Poss sh t x) : x ∈ ws := by
  obtain ⟨ns, r, hx⟩ := h
  exact (rc_names nm r : Names ws ns).sub x hx
/-- the most names that are possible, whatever a character is -/
noncomputable def wst (ws : List Str) (sh : List (Option Nat)) (t : Tr) (c : Nat) : Nat := max (posL ws (sh.set c (some 0)) t).length (posL ws (sh.set c (some 1)) t).length
theorem wst_le {ws : List Str} {sh : List (Option Nat)} {t : Tr} {c : Nat} (hw : WsOk ws) : wst ws sh t c ≤ 6 := Nat.max_le.mpr ⟨posL_len hw, posL_len hw⟩
/-- whatever is known, there are few leaves -/
def FewAll (m : Nat) (t : Tr) (ws : List Str) : Prop := ∀ sh, Sheet m sh → Few sh t ws
theorem few_all {m : Nat} {ord : List Nat} {ws : List Str} {t : Tr} (hw : WsOk ws) (hm : m ≤ 6) (ho : ord.Perm (List.range m)) (g : Gt ord ws t) : FewAll m t ws := fun sh hs => (k30_one hw hm ho g (key := t) (fun _ => rfl) hs).1
def t_worst_turn : TDs := (dSeq (dSet 5 (dListOwn (daCons (dVar 1) daNil)))
  (dSeq (dAsg (dVar 4) (gdSubL (dVar 5) (dVar 2)))
  (dSet 3 (dCB max2P (daCons (dVar 3) (daCons (dCB lenP (daCons (dCall sp_possible (daCons (dVar 0) (daCons (dCB tupleP (daCons (dVar 5) daNil)) daNil))) daNil)) daNil))))))
def t_worst_of : TDs := (dSeq (dSet 3 (dC (.int 0)))
  (dSeq (dFor (diTup (dTup (daCons (dC (.int 0)) (daCons (dC (.int 1)) daNil)))) (gdName 4) t_worst_turn)
  (dRet (dVar 3))))
def sp_worst_of : DSp := fun ds M k => ∃ (t : Tr) (sh : List (Option Nat)) (ws : List Str) (c : Nat), ds = [.dat (encF t), .dat (encSheet sh), .dat (.int ((c : Nat) : Int))] ∧ c < sh.length ∧ t.depth ≤ 10 ∧ CharLt sh.length t ∧ Sheet sh.length sh ∧ WsOk ws ∧ FewAll sh.length t ws ∧
  k (.dat (.int ((wst ws sh t c : Nat) : Int))) M
theorem max2_nat {a b : Nat} {M : MS} {q : DV → Prop} (h : q (.dat (.int ((max a b : Nat) : Int)))) : max2P M [.dat (.int ((a : Nat) : Int)), .dat (.int ((b : Nat) : Int))] q := by
  refine ⟨_, _, rfl, ?_⟩
  have e : (if (b : Int) > (a : Int) then (b : Int) else (a : Int)) = ((max a b : Nat) : Int) := by split <;> omega
  rw [e]; exact h
theorem len_names (ns : List Str) : lenV (encNames ns) = some ns.length := by
  show some (ns.map PyData.str).length = _
  rw [List.length_map]
theorem sheet_one {m : Nat} {sh : List (Option Nat)} {c v : Nat} (hs : Sheet m sh) (hv : v = 0 ∨ v = 1) : Sheet m (sh.set c (some v)) := ⟨by rw [List.length_set]; exact hs.1, fun w hw => by
  rcases List.mem_or_eq_of_mem_set hw with z | z
  · exact hs.2 w z
  · cases z; exact hv⟩
theorem worst_turn {De : DEnds} {t : Tr} {sh : List (Option Nat)} {ws : List Str} {c v f : Nat} {M : MS} {x5 : Option DV} (hc : c < sh.length) (hd : t.depth ≤ 10) (hcl : CharLt sh.length t) (hs : Sheet sh.length sh) (hw : WsOk ws) (hf : FewAll sh.length t ws) (hv : v = 0 ∨ v = 1)
    (h : ∀ p o, M p = none → De.nx [some (.dat (encF t)), some (.dat (encSheet sh)), some (.dat (.int ((c : Nat) : Int))), some (.dat (.int ((max f (posL ws (sh.set c (some v)) t).length : Nat) : Int))), some (.dat (.int ((v : Nat) : Int))), some (.ref p)] (setM M p o)) :
    t_worst_turn De [some (.dat (encF t)), some (.dat (encSheet sh)), some (.dat (.int ((c : Nat) : Int))), some (.dat (.int ((f : Nat) : Int))), some (.dat (.int ((v : Nat) : Int))), x5] M := by
  refine ⟨_, rfl, _, encSheet sh, sh.map encPart, rfl, rfl, rfl, fun p hp => ?_⟩
  have hix : ixN (sh.map encPart).length ((c : Nat) : Int) = some c := by
    rw [List.length_map]
    unfold ixN
    rw [if_pos (by omega), if_pos (by omega), Int.toNat_natCast]
  refine ⟨_, rfl, _, rfl, _, rfl, p, _, _, c, _, rfl, rfl, rfl, setM_same, hix, ?_⟩
  rw [setM_set]
  have es : (sh.map encPart).set c (.int ((v : Nat) : Int)) = (sh.set c (some v)).map encPart := by rw [List.map_set]; rfl
  rw [es]
  have h1 := sheet_one (c := c) hs hv
  have hl : (sh.set c (some v)).length = sh.length := List.length_set
  refine ⟨_, rfl, _, rfl, _, rfl, _, rfl, .inl ⟨(sh.set c (some v)).map encPart, by show (ownL _ p).map _ = _; rw [ownL_mk setM_same]; rfl, ?_⟩⟩
  refine ⟨t, sh.set c (some v), ws, rfl, hd, by rw [hl]; exact hcl, by rw [hl]; exact h1, hf _ h1, fun ns n1 e1 => ?_⟩
  have q : ns = posL ws (sh.set c (some v)) t := names_eq n1 (posL_names hw) fun x => (e1 x).trans ⟨fun z => mem_posL.mpr ⟨poss_in (hf _ h1).nm z, z⟩, fun z => (mem_posL.mp z).2⟩
  subst q
  refine ⟨_, _, _, rfl, rfl, len_names _, _, _, rfl, ?_⟩
  have e : (if (((posL ws (sh.set c (some v)) t).length : Nat) : Int) > ((f : Nat) : Int) then (((posL ws (sh.set c (some v)) t).length : Nat) : Int) else ((f : Nat) : Int)) = ((max f (posL ws (sh.set c (some v)) t).length : Nat) : Int) := by split <;> omega
  rw [e]
  exact h p _ hp
theorem rd_worst_of : ∀ ds M k, sp_worst_of ds M k → t_worst_of (rtE k) (startD ["fold", "sheet", "character", "found", "value", "more"] ds) M := by
  rintro _ M k ⟨t, sh, ws, c, rfl, hc, hd, hcl, hs, hw, hf, h⟩
  refine ⟨_, rfl, szb rfl, _, rfl, True.intro, ?_⟩
  refine worst_turn (v := 0) (f := 0) hc hd hcl hs hw hf (.inl rfl) fun p o hp => ⟨True.intro, ?_⟩
  refine worst_turn (v := 1) hc hd hcl hs hw hf (.inr rfl) fun p' o' hp' => ⟨True.intro, ?_⟩
  have e : max (max 0 (posL ws (sh.set c (some 0)) t).length) (posL ws (sh.set c (some 1)) t).length = wst ws sh t c := by unfold wst; omega
  refine ⟨_, rfl, ?_⟩
  rw [e]
  exact rt_sub (sub_tr (sub_new hp) (sub_new hp')) h
/-! ### next_of -/
/-- one step -/
def stepB (w : Nat → Nat) (sh : List (Option Nat)) (f : Option Nat) (j : Nat) : Option Nat :=
  match sh[j]? with
  | some none => (match f with
    | none => some j
    | some g => if w j < w g then some j else some g)
  | _ => f
theorem stepB_lt {w : Nat → Nat} {sh : List (Option Nat)} {f : Option Nat} {j n : Nat} (hf : ∀ g, f = some g → g < n) (hj : j < n) : ∀ g, stepB w sh f j = some g → g < n := by
  intro g hg
  unfold stepB at hg
  split at hg
  · split at hg
    · cases hg; exact hj
    · rename_i g' 
      split at hg
      · cases hg; exact hj
      · cases hg; exact hf _ rfl
  · exact hf g hg
def t_next_turn : TDs := (dIf (dAnd (dB (dOp (opR (isV id)) (dVar 4) (dC .none))) (dOr (dB (dOp (opR (isV id)) (dVar 2) (dC .none))) (dB (dOp (opV ltV2) (dCall sp_worst_of (daCons (dVar 0) (daCons (dVar 1) (daCons (dVar 3) daNil)))) (dCall sp_worst_of (daCons (dVar 0) (daCons (dVar 1) (daCons (dVar 2) daNil)))))))) (dSet 2 (dVar 3)) dNext)
def t_next_of : TDs := (dSeq (dSet 2 (dC .none))
  (dSeq (dFor (diEnumT (daCons (dVar 1) daNil)) (gdTup 2 (gdCons (gdName 3) (gdCons (gdName 4) gdNil))) t_next_turn)
  (dRet (dVar 2))))
def sp_next_of : DSp := fun ds M k => ∃ (t : Tr) (sh : List (Option Nat)) (ws : List Str), ds = [.dat (encF t), .dat (encSheet sh)] ∧ sh.length ≤ 1000 ∧ t.depth ≤ 10 ∧ CharLt sh.length t ∧ Sheet sh.length sh ∧ WsOk ws ∧ FewAll sh.length t ws ∧
  k (.dat (encPart ((List.range sh.length).foldl (stepB (wst ws sh t) sh) none))) M
theorem lt_nat {a b : Nat} {q : PyData → Prop} (h : q (.bool (decide (a < b)))) : ltV2 (.int ((a : Nat) : Int)) (.int ((b : Nat) : Int)) q := by
  have e : decide (((a : Nat) : Int) < ((b : Nat) : Int)) = decide (a < b) := decide_eq_decide.mpr (by omega)
  show q (.bool (decide (((a : Nat) : Int) < ((b : Nat) : Int))))
  rw [e]; exact h
theorem next_loop {De : DEnds} {t : Tr} {sh : List (Option Nat)} {ws : List Str} {M : MS} (hd : t.depth ≤ 10) (hcl : CharLt sh.length t) (hs : Sheet sh.length sh) (hw : WsOk ws) (hf : FewAll sh.length t ws) : ∀ (n i : Nat) (f : Option Nat) (x3 x4 : Option DV), sh.length = i + n → (∀ g, f = some g → g < sh.length) →
    (∀ y3 y4, De.nx [some (.dat (encF t)), some (.dat (encSheet sh)), some (.dat (encPart ((List.range' i n).foldl (stepB (wst ws sh t) sh) f))), y3, y4] M) →
    forD (gdTup 2 (gdCons (gdName 3) (gdCons (gdName 4) gdNil))) t_next_turn De none ((enumD (sh.map encPart)).drop i) [some (.dat (encF t)), some (.dat (encSheet sh)), some (.dat (encPart f)), x3, x4] M
  | 0, i, f, x3, x4, hn, _, h => by
    have e1 : (enumD (sh.map encPart)).drop i = [] := List.drop_eq_nil_of_le (by rw [enumD_length, List.length_map]; omega)
    rw [e1]
    exact ⟨True.intro, h x3 x4⟩
  | n + 1, i, f, x3, x4, hn, hg, h => by
    have hi : i < sh.length := by omega
    have hi' : i < (sh.map encPart).length := by rw [List.length_map]; exact hi
    obtain ⟨p, hp⟩ := sheet_at hs hi
    rw [enum_drop hi']
    have ep : (sh.map encPart)[i] = encPart p := by
      have : (sh.map encPart)[i]? = some (encPart p) := by rw [List.getElem?_map, hp]; rfl
      rw [List.getElem?_eq_getElem hi'] at this
      exact Option.some.inj this
    rw [ep]
    have go : ∀ (f' : Option Nat) (y3 y4 : Option DV), f' = stepB (wst ws sh t) sh f i → forD (gdTup 2 (gdCons (gdName 3) (gdCons (gdName 4) gdNil))) t_next_turn De none ((enumD (sh.map encPart)).drop (i + 1)) [some (.dat (encF t)), some (.dat (encSheet sh)), some (.dat (encPart f')), y3, y4] M := fun f' y3 y4 e => by
      subst e
      refine next_loop hd hcl hs hw hf n (i + 1) _ y3 y4 (by omega) (stepB_lt hg hi) fun z3 z4 => ?_
      have := h z3 z4
      rw [List.range'_succ, List.foldl_cons] at this
      exact this
    refine ⟨True.intro, _, rfl, rfl, _, _, rfl, _, _, rfl, rfl, ?_⟩
    cases p with
    | some v =>
      refine ⟨_, rfl, _, _, rfl, rfl, rfl, _, rfl, if_f rfl (if_f rfl ?_)⟩
      exact go f _ _ (by unfold stepB; rw [hp])
    | none =>
      refine ⟨_, rfl, _, _, rfl, rfl, rfl, _, rfl, if_t rfl ?_⟩
      cases f with
      | none =>
        refine ⟨_, rfl, _, _, rfl, rfl, rfl, _, rfl, if_t rfl (if_t rfl ?_)⟩
        exact ⟨_, rfl, go (some i) _ _ (by unfold stepB; rw [hp])⟩
      | some g =>
        refine ⟨_, rfl, _, _, rfl, rfl, rfl, _, rfl, if_f rfl ?_⟩
        refine ⟨_, rfl, _, rfl, _, rfl, t, sh, ws, i, rfl, hi, hd, hcl, hs, hw, hf, ?_⟩
        refine ⟨_, rfl, _, rfl, _, rfl, t, sh, ws, g, rfl, hg g rfl, hd, hcl, hs, hw, hf, ?_⟩
        refine ⟨_, _, rfl, rfl, lt_nat ⟨_, rfl, ?_⟩⟩
        refine if_b (fun e => ?_) fun e => ?_
        · refine ⟨_, rfl, go (some i) _ _ ?_⟩
          unfold stepB
          rw [hp]
          show _ = if _ then _ else _
          rw [if_pos (of_decide_eq_true e)]
        · refine go (some g) _ _ ?_
          unfold stepB
          rw [hp]
          show _ = if _ then _ else _
          rw [if_neg (of_decide_eq_false e)]
theorem rd_next_of : ∀ ds M k, sp_next_of ds M k → t_next_of (rtE k) (startD ["fold", "sheet", "found", "at", "part"] ds) M := by
  rintro _ M k ⟨t, sh, ws, rfl, hl, hd, hcl, hs, hw, hf, h⟩
  refine ⟨_, rfl, _, sh.map encPart, rfl, rfl, ?_⟩
  refine next_loop hd hcl hs hw hf sh.length 0 none _ _ (by omega) (fun g z => (by cases z)) fun y3 y4 => ⟨_, rfl, rt_same ?_⟩
  rw [← List.range_eq_range']
  exact h
/-! ### the law's possible -/
def t_L_possible : TDs := (dSeq (dSet 3 (dLc (diSeq (dCall sp_L_things (daCons (dCB lenP (daCons (dVar 1) daNil)) daNil))) (.one 4) (dB (dCall sp_L_agrees (daCons (dVar 4) (daCons (dVar 1) daNil)))) (dCall (sp_L_answer 12) (daCons (dVar 0) (daCons (dVar 4) daNil)))))
  (dRet (dCB lenP (daCons (dLc (diTup (dVar 2)) (.one 5) (dB (dCB (boolsP fun bs => bs.any id) (daCons (dLc (diSeq (dVar 3)) (.one 6) dYes (dOp (opR (inV2 id)) (dVar 5) (dVar 6))) daNil))) (dVar 5)) daNil))))
def sp_L_possible : DSp := fun ds M k => ∃ (m : Nat) (sh : List (Option Nat)) (ws : List Str) (key : Tr), ds = [.dat (encKey key), .dat (encSheet sh), .dat (encNames ws)] ∧ 1 ≤ m ∧ m ≤ 10 ∧ Sheet m sh ∧ WsOk ws ∧ CharLt m key ∧ key.depth ≤ 12 ∧
  ∀ a, Names ws a → (∀ x, x ∈ a ↔ x ∈ ws ∧ PossK m sh key x) → k (.dat (.int ((a.length : Nat) : Int))) M
theorem rd_L_possible : ∀ ds M k, sp_L_possible ds M k → t_L_possible (rtE k) (startD ["_law_key_here", "_law_sheet_here", "_law_words_here", "_law_answers", "_law_thing", "_law_word", "_law_names_here"] ds) M := by
  rintro _ M k ⟨m, sh, ws, key, rfl, hm, hm1, hs, hw, hc, hd, h⟩
  have hl := hs.1
  have hwl := hw.few
  have hal := ansA_len (sh := sh) (key := key) hm1
  have hT : (allT m).length ≤ 1024 := by rw [allT_len]; exact Nat.pow_le_pow_right (j := 10) (by decide) hm1
  refine ⟨_, rfl, _, encSheet sh, _, rfl, rfl, len_sheet sh, ?_⟩
  refine ⟨sh.length, rfl, by omega, by omega, .inl ⟨_, rfl, ?_⟩⟩
  rw [hl]
  refine fm_src (enc := encBits) (p := agrD sh) (f := fun bs => encNames (key.ans bs)) (show stay none M from True.intro) (allT m) [] (fun bs hbs K hK => ?_) (fun bs hbs hp K hK => ?_) (by rw [List.length_nil]; omega) ?_
  · refine ⟨_, rfl, _, rfl, m, sh, bs, rfl, by omega, hs, (mem_allT m bs).mp hbs, fun b hbb => ⟨_, rfl, ?_⟩⟩
    have := agrD_of hbb
    rw [this]; exact hK
  · exact ⟨_, rfl, _, rfl, m, key, bs, rfl, (mem_allT m bs).mp hbs, hc, hd, hK⟩
  rw [List.nil_append]
  have ea : ((allT m).filter (agrD sh)).map (fun bs => encNames (key.ans bs)) = (ansA m sh key).map encNames := by unfold ansA; rw [List.map_map]; rfl
  rw [ea]
  refine ⟨_, rfl, ws.map PyData.str, rfl, ?_⟩
  refine flt_gen (enc := PyData.str) (p := fun x => ((ansA m sh key).map fun ns => decide (x ∈ ns)).any id) rfl ws [] (fun x hx K hK => ?_) (by rw [List.length_nil]; omega) ?_
  · refine ⟨_, rfl, .inl ⟨_, rfl, ?_⟩⟩
    refine map_gen (enc := encNames) (f := fun ns => .bool (decide (x ∈ ns))) (ansA m sh key) [] (fun ns hns K2 hK2 => ?_) (by rw [List.length_nil]; omega) ?_
    · exact ⟨_, rfl, _, rfl, in_names hK2⟩
    · rw [List.nil_append]
      exact ⟨_, _, _, rfl, rfl, bools_map (fun ns => decide (x ∈ ns)) (ansA m sh key), _, rfl, hK⟩
  rw [List.nil_append]
  refine ⟨_, _, (ws.filter fun x => ((ansA m sh key).map fun ns => decide (x ∈ ns)).any id).length, rfl, rfl, by show some (List.length _) = _; rw [List.length_map], rt_same (h _ ⟨hw.asc.sublist List.filter_sublist, fun x hx => (List.mem_filter.mp hx).1⟩ fun x => ?_)⟩
  rw [List.mem_filter]
  refine and_congr_right fun _ => ?_
  rw [List.any_eq_true]
  constructor
  · rintro ⟨b, hb, hb2⟩
    obtain ⟨ns, hns, rfl⟩ := List.mem_map.mp hb
    obtain ⟨bs, b1, b2, rfl⟩ := mem_ansA.mp hns
    exact ⟨bs, b1, b2, of_decide_eq_true hb2⟩
  · rintro ⟨bs, b1, b2, b3⟩
    exact ⟨true, List.mem_map.mpr ⟨_, mem_ansA.mpr ⟨bs, b1, b2, rfl⟩, decide_eq_true b3⟩, rfl⟩
end Ks

/-! Ks: counts, count_name, witness. -/
namespace Ks
open PySem PySem.Spec PyProof.Rows L2 Kf

theorem names_alike (a b : List Str) : PySem.W.alike (encNames a) (encNames b) = true := by
  show PySem.W.alike (.tuple _) (.tuple _) = true
  rw [PySem.W.alike]
  induction a generalizing b with
  | nil => simp [PySem.W.alikeAll]
  | cons x r ih =>
    cases b with
    | nil => simp [PySem.W.alikeAll]
    | cons y s => rw [List.map_cons, List.map_cons, PySem.W.alikeAll, ih s]; simp [PySem.W.alike]
theorem names_depth (ns : List Str) : (encNames ns).depth ≤ 2 := by
  have h : PyData.depthAll (ns.map PyData.str) ≤ 1 := by
    induction ns with
    | nil => simp [PyData.depthAll]
    | cons b r ih => rw [List.map_cons, PyData.depthAll]; simp [PyData.depth]; omega
  show PyData.depth (.tuple _) ≤ 2
  rw [PyData.depth]
  omega
theorem pln_strs : ∀ ns : List Str, plns (ns.map PyData.str) = true
  | [] => by simp [plns]
  | x :: ns => by rw [List.map_cons, plns, pln_strs ns]; simp [pln]
theorem names_inj_eqv {a b : List Str} (h : PyData.eqv (encNames a) (encNames b) = true) : a = b := by
  have hp : ∀ ns : List Str, pln (encNames ns) = true := fun ns => by
    show pln (.tuple _) = true
    rw [pln]; exact pln_strs ns
  have e := eqv_same _ _ (hp a) (hp b) h
  unfold encNames at e
  injection e with e
  exact (List.map_inj_right fun x y e => by cases e; rfl).mp e
def nmLe (a b : List Str) : Prop := PySem.W.dataLe false encNames a b = true
theorem nmLe_sort (l : List (List Str)) : (l.mergeSort (PySem.W.dataLe false encNames)).Pairwise nmLe := by
  have T := PySem.W.sortLe_total (PyProof.Rows.listOrd PyProof.Rows.itemOrd) false fun b : List Str => PySem.W.keyToks (encNames b)
  exact List.pairwise_mergeSort T.trans (fun a b => by
    rcases T.total a b with z | z
    · rw [z]; rfl
    · rw [z, Bool.or_true]) _
/-- pairs by names that are sorted are sorted -/
theorem pr_le {p q : List Str × Nat} (h : nmLe p.1 q.1) (hne : p.1 ≠ q.1) : PySem.W.dataLe false id (encPr p) (encPr q) = true := by
  have h : (!lx (PySem.W.keyToks (encNames q.1)) (PySem.W.keyToks (encNames p.1))) = true := h
  show (!lx (PySem.W.keyToks (encPr q)) (PySem.W.keyToks (encPr p))) = true
  have hv : PyData.eqv (encNames q.1) (encNames p.1) = false := by
    cases e : PyData.eqv (encNames q.1) (encNames p.1) with
    | false => rfl
    | true => exact absurd (names_inj_eqv e).symm hne
  have hk : ∀ p : List Str × Nat, PySem.W.keyToks (encPr p) = Sum.inl 1 :: (PySem.W.keyToks (encNames p.1) ++ PySem.W.keyToksAll [.int ((p.2 : Nat) : Int)]) := fun p => by
    show PySem.W.keyToks (.tuple [_, _]) = _
    rw [PySem.W.keyToks, PySem.W.toks_all_cons]
  rw [hk, hk, lx_self]
  show (!PyProof.Rows.lexLt PyProof.Rows.itemOrd _ _) = true
  rw [(PySem.W.toks_eqv _ _ (names_alike q.1 p.1)).2 hv]
  exact h
/-- what the counts are -/
structure CntOk (m : Nat) (sh : List (Option Nat)) (t : Tr) (Ks : List (List Str)) : Prop where
  nd : Ks.Nodup
  mem : ∀ ns, ns ∈ Ks ↔ ns ∈ ansA m sh t
  asc : Ks.Pairwise nmLe
noncomputable def cntL (m : Nat) (sh : List (Option Nat)) (t : Tr) (Ks : List (List Str)) : Sh := Ks.map fun ns => (ns, (ansA m sh t).count ns)
theorem CntOk.sorted {m : Nat} {sh : List (Option Nat)} {t : Tr} {Ks : List (List Str)} (h : CntOk m sh t Ks) : ((cntL m sh t Ks).map encPr).mergeSort (PySem.W.dataLe false id) = (cntL m sh t Ks).map encPr := by
  refine List.mergeSort_of_pairwise ?_
  unfold cntL
  rw [List.map_map, List.pairwise_map]
  exact List.Pairwise.imp₂ (fun a b h1 h2 => pr_le (p := (a, _)) (q := (b, _)) h1 h2) h.asc h.nd
/-! ### counts -/
def t_counts : TDs := (dSeq (dSet 2 (dCall sp_shares_of (daCons (dVar 0) (daCons (dOp (opV mulA) (dTup (daCons (dC .none) daNil)) (dVar 1)) daNil))))
  (dRet (dCB tupleP (daCons (dLc (diSeq (dCB sortedDT (daCons (dVar 2) daNil))) (.one 3) dYes (dTup (daCons (dVar 3) (daCons (dOp ixDT (dVar 2) (dVar 3)) daNil)))) daNil))))
def freeS (m : Nat) : List (Option Nat) := List.replicate m none
theorem freeS_sheet (m : Nat) : Sheet m (freeS m) := ⟨List.length_replicate, fun v hv => by have := List.eq_of_mem_replicate hv; cases this⟩
theorem flat_none : ∀ m : Nat, (List.replicate m [PyData.none]).flatten = List.replicate m (encPart none)
  | 0 => rfl
  | n + 1 => by rw [List.replicate_succ, List.flatten_cons, List.replicate_succ, flat_none n]; rfl
theorem mul_none {m : Nat} (hm : m ≤ 1000) {q : PyData → Prop} (h : q (encSheet (freeS m))) : mulA (.tuple [.none]) (.int ((m : Nat) : Int)) q := by
  refine ⟨by omega, by omega, by decide, ?_⟩
  have e : (List.replicate (((m : Nat) : Int)).toNat [PyData.none]).flatten = (freeS m).map encPart := by
    rw [Int.toNat_natCast]
    unfold freeS
    rw [List.map_replicate]
    exact flat_none m
  rw [e]; exact h
def sp_counts : DSp := fun ds M k => ∃ (t : Tr) (m : Nat) (ord : List Nat), ds = [.dat (encF t), .dat (.int ((m : Nat) : Int))] ∧ m ≤ 10 ∧ CharLt m t ∧ Ordd ord t ∧ ord.Perm (List.range m) ∧ t.allL NmP ∧
  ∀ Ks, CntOk m (freeS m) t Ks → k (.dat (.tuple ((cntL m (freeS m) t Ks).map encPr))) M
theorem rd_counts : ∀ ds M k, sp_counts ds M k → t_counts (rtE k) (startD ["fold", "many", "shares", "names"] ds) M := by
  rintro _ M k ⟨t, m, ord, rfl, hm, hc, ho, hp, hn, h⟩
  have hfl : (freeS m).length = m := List.length_replicate
  refine ⟨_, rfl, _, rfl, szb rfl, _, rfl, _, _, rfl, rfl, mul_none (by omega) ?_⟩
  refine ⟨t, freeS m, ord, rfl, by rw [hfl]; exact hm, by rw [hfl]; exact hc, by rw [hfl]; exact freeS_sheet m, ho, by rw [hfl]; exact hp, hn, fun a S ha s => ?_⟩
  rw [hfl] at s
  have hl := s.len hm
  have hS : S.length ≤ 1024 := hl
  refine ⟨_, rfl, a, _, rfl, setM_same, ?_, ?_, by rw [encSh_len]; exact szm (by omega), ?_, .inl ⟨_, rfl, ?_⟩⟩
  · rw [keys_enc]
    intro d hd e he
    obtain ⟨x, _, rfl⟩ := List.mem_map.mp hd
    obtain ⟨y, _, rfl⟩ := List.mem_map.mp he
    exact names_alike x y
  · rw [keys_enc]
    intro d hd
    obtain ⟨x, _, rfl⟩ := List.mem_map.mp hd
    exact ⟨_, rfl⟩
  · rw [keys_enc]
    intro d hd
    obtain ⟨x, _, rfl⟩ := List.mem_map.mp hd
    have := names_depth x
    omega
  have e : (keysD (encSh S)).mergeSort (PySem.W.dataLe false id) = ((S.map (·.1)).mergeSort (PySem.W.dataLe false encNames)).map encNames := by
    rw [keys_enc]
    exact (PySem.W.sort_maps (r := PySem.W.dataLe false encNames) (s := PySem.W.dataLe false id) encNames (l := S.map (·.1)) fun _ _ _ _ => rfl).symm
  rw [e]
  have pm := List.mergeSort_perm (S.map (·.1)) (PySem.W.dataLe false encNames)
  have ck : CntOk m (freeS m) t ((S.map (·.1)).mergeSort (PySem.W.dataLe false encNames)) := ⟨pm.nodup_iff.mpr s.nd, fun ns => (pm.mem_iff).trans (s.keys ns), nmLe_sort _⟩
  have kl : ((S.map (·.1)).mergeSort (PySem.W.dataLe false encNames)).length = S.length := by rw [List.length_mergeSort, List.length_map]
  generalize (S.map (·.1)).mergeSort (PySem.W.dataLe false encNames) = Ks at ck kl ⊢
  refine map_gen (enc := encNames) (f := fun ns => encPr (ns, (ansA m (freeS m) t).count ns)) Ks [] (fun ns hns K hK => ?_) (by rw [List.length_nil]; omega) ?_
  · have hin := (ck.mem ns).mp hns
    have hlk := s.at' ns
    have := List.count_pos_iff.mpr hin
    rw [if_neg (by omega)] at hlk
    have hlk2 := lk_enc ns S
    rw [hlk] at hlk2
    exact ⟨_, rfl, _, rfl, _, rfl, a, _, _, _, _, rfl, setM_same, rfl, isTk_names ns, hlk2, _, rfl, szb rfl, hK⟩
  · rw [List.nil_append]
    refine ⟨_, rfl, .inl ⟨_, rfl, rt_sub (sub_new ha) ?_⟩⟩
    have := h Ks ck
    unfold cntL at this
    rw [List.map_map] at this
    exact this
/-! ### count_name -/
def t_count_name : TDs := (dSeq (dSet 3 (dCall sp_shares_of (daCons (dVar 0) (daCons (dVar 2) daNil))))
  (dRet (dCB sumP (daCons (dLockE (dLc (diKeysF (dVar 3)) (.one 4) (dB (dOp (opR (inV2 id)) (dVar 1) (dVar 4))) (dOp ixDF (dVar 3) (dVar 4)))) daNil))))
/-- for how many things that agree a name is told -/
noncomputable def cntN (m : Nat) (sh : List (Option Nat)) (t : Tr) (x : Str) : Nat := (ansA m sh t).countP fun ns => decide (x ∈ ns)
theorem nz_sum : ∀ l : List Nat, (nz l).sum = ((l.sum : Nat) : Int)
  | [] => rfl
  | a :: l => by
    show ((a : Nat) : Int) + (nz l).sum = _
    rw [nz_sum l, List.sum_cons, Int.natCast_add]
def sp_count_name : DSp := fun ds M k => ∃ (t : Tr) (sh : List (Option Nat)) (ord : List Nat) (x : Str), ds = [.dat (encF t), .dat (.str x), .dat (encSheet sh)] ∧ sh.length ≤ 10 ∧ CharLt sh.length t ∧ Sheet sh.length sh ∧ Ordd ord t ∧ ord.Perm (List.range sh.length) ∧ t.allL NmP ∧
  k (.dat (.int ((cntN sh.length sh t x : Nat) : Int))) M
theorem rd_count_name : ∀ ds M k, sp_count_name ds M k → t_count_name (rtE k) (startD ["fold", "name", "sheet", "shares", "names"] ds) M := by
  rintro _ M k ⟨t, sh, ord, x, rfl, hl, hc, hs, ho, hp, hn, h⟩
  refine ⟨_, rfl, _, rfl, t, sh, ord, rfl, hl, hc, hs, ho, hp, hn, fun a S ha s => ?_⟩
  have hS := s.len hl
  refine ⟨a, _, setM_same, fun od xs => ⟨_, rfl, a, od, xs, _, rfl, setM_same, ?_⟩⟩
  have ek : keysD (encSh S) = S.map fun p => encNames p.1 := by rw [keys_enc, List.map_map]; rfl
  rw [ek]
  refine fm_src (enc := fun p : List Str × Nat => encNames p.1) (p := fun p => decide (x ∈ p.1)) (f := fun p => .int ((p.2 : Nat) : Int)) (show stay (some (a, _)) _ from setM_same) S [] (fun p hp K hK => ?_) (fun p hp hx K hK => ?_) (by rw [List.length_nil]; omega) ?_
  · exact ⟨_, rfl, _, rfl, in_names ⟨_, rfl, hK⟩⟩
  · have hlk2 := lk_enc p.1 S
    rw [lk_of s.nd hp] at hlk2
    exact ⟨_, rfl, _, rfl, a, od, xs, _, _, _, _, rfl, setM_same, rfl, isTk_names p.1, hlk2, hK⟩
  rw [List.nil_append]
  refine ⟨setM_same, ?_⟩
  rw [setM_set, setM_set]
  have e : (S.filter fun p => decide (x ∈ p.1)).map (fun p => PyData.int ((p.2 : Nat) : Int)) = ixs ((S.filter fun p => decide (x ∈ p.1)).map (·.2)) := by unfold ixs; rw [List.map_map]; rfl
  rw [e]
  refine ⟨_, _, _, rfl, rfl, nz_ints _, rt_sub (sub_new ha) ?_⟩
  rw [nz_sum, s.sum fun ns => decide (x ∈ ns)]
  exact h
end Ks

/-! Ks: witness. -/
namespace Ks
open PySem PySem.Spec PyProof.Rows L2 Kf

theorem poss_iff {m : Nat} {ord : List Nat} {sh : List (Option Nat)} {t : Tr} {x : Str} (hs : Sheet m sh) (ho : Ordd ord t) (hc : CharLt m t) : Poss sh t x ↔ ∃ bs, Bits m bs ∧ Agr sh bs ∧ x ∈ t.ans bs := by
  constructor
  · rintro ⟨ns, r, hx⟩
    obtain ⟨bs, b1, b2, rfl⟩ := (rc_iff hs ho hc ns).mp r
    exact ⟨bs, b1, b2, hx⟩
  · rintro ⟨bs, b1, b2, hx⟩
    exact ⟨_, (rc_iff hs ho hc _).mpr ⟨bs, b1, b2, rfl⟩, hx⟩
/-- one thing ahead of another one: where they part first it has 0 -/
def Before (a b : List Nat) : Prop := ∃ j : Nat, (∀ i : Nat, i < j → ∃ v, a[i]? = some v ∧ b[i]? = some v) ∧ a[j]? = some 0 ∧ b[j]? = some 1
structure Wit (m : Nat) (t : Tr) (x : Str) (sh : List (Option Nat)) (i : Nat) (cur : List (Option Nat)) : Prop where
  ok : Sheet m cur
  known : ∀ j, j < i → ∃ v, cur[j]? = some (some v)
  agr : ∀ bs, Agr cur bs → Agr sh bs
  pos : Poss cur t x
  least : ∀ b, Bits m b → Agr sh b → x ∈ t.ans b → Agr cur b ∨ ∃ j : Nat, j < i ∧ (∀ i' : Nat, i' < j → ∃ v, cur[i']? = some (some v) ∧ b[i']? = some v) ∧ cur[j]? = some (some 0) ∧ b[j]? = some 1
theorem Wit.skip {m : Nat} {t : Tr} {x : Str} {sh cur : List (Option Nat)} {i v : Nat} (h : Wit m t x sh i cur) (hi : cur[i]? = some (some v)) : Wit m t x sh (i + 1) cur :=
  ⟨h.ok, fun j hj => by
    by_cases e : j = i
    · subst e; exact ⟨v, hi⟩
    · exact h.known j (by omega), h.agr, h.pos, fun b h1 h2 h3 => (h.least b h1 h2 h3).imp_right fun ⟨j, a, r⟩ => ⟨j, by omega, r⟩⟩
theorem Wit.put {m : Nat} {t : Tr} {x : Str} {sh cur : List (Option Nat)} {i v : Nat} (h : Wit m t x sh i cur) (hi : cur[i]? = some none) (hv : v = 0 ∨ v = 1) (hp : Poss (cur.set i (some v)) t x) (hb : ∀ b, Bits m b → Agr cur b → x ∈ t.ans b → b[i]? = some v ∨ (v = 0 ∧ b[i]? = some 1)) : Wit m t x sh (i + 1) (cur.set i (some v)) := by
  have hl := (List.getElem?_eq_some_iff.mp hi).1
  have low : ∀ j, j < i → (cur.set i (some v))[j]? = cur[j]? := fun j hj => List.getElem?_set_ne (by omega)
  refine ⟨sheet_one h.ok hv, fun j hj => ?_, fun bs hA => h.agr bs ((agr_set hi bs).mp hA).1, hp, fun b h1 h2 h3 => ?_⟩
  · by_cases e : j = i
    · subst e; exact ⟨v, List.getElem?_set_self hl⟩
    · rw [low j (by omega)]; exact h.known j (by omega)
  · rcases h.least b h1 h2 h3 with hA | ⟨j, j1, j2, j3, j4⟩
    · rcases hb b h1 hA h3 with z | ⟨z1, z2⟩
      · exact .inl ((agr_set hi b).mpr ⟨hA, z⟩)
      · subst z1
        refine .inr ⟨i, Nat.lt_succ_self i, fun i' hi' => ?_, List.getElem?_set_self hl, z2⟩
        obtain ⟨w, hw⟩ := h.known i' hi'
        exact ⟨w, by rw [low i' hi']; exact hw, hA i' w hw⟩
    · refine .inr ⟨j, by omega, fun i' hi' => ?_, by rw [low j j1]; exact j3, j4⟩
      rw [low i' (by omega)]; exact j2 i' hi'
theorem Wit.zero {m : Nat} {t : Tr} {x : Str} {sh cur : List (Option Nat)} {i : Nat} (h : Wit m t x sh i cur) (hi : cur[i]? = some none) (hp : Poss (cur.set i (some 0)) t x) : Wit m t x sh (i + 1) (cur.set i (some 0)) := by
  have hl := (List.getElem?_eq_some_iff.mp hi).1
  refine h.put hi (.inl rfl) hp fun b hb _ _ => ?_
  obtain ⟨v, h1, h2, _⟩ := hb.at (show i < m by rw [← h.ok.1]; exact hl)
  rcases h2 with rfl | rfl
  · exact .inl h1
  · exact .inr ⟨rfl, h1⟩
theorem Wit.one {m : Nat} {ord : List Nat} {t : Tr} {x : Str} {sh cur : List (Option Nat)} {i : Nat} (ho : Ordd ord t) (hc : CharLt m t) (h : Wit m t x sh i cur) (hi : cur[i]? = some none) (hp : ¬ Poss (cur.set i (some 0)) t x) : Wit m t x sh (i + 1) (cur.set i (some 1)) := by
  have hl := (List.getElem?_eq_some_iff.mp hi).1
  have all : ∀ b, Bits m b → Agr cur b → x ∈ t.ans b → b[i]? = some 1 := fun b hb hA hx => by
    obtain ⟨v, h1, h2, _⟩ := hb.at (show i < m by rw [← h.ok.1]; exact hl)
    rcases h2 with rfl | rfl
    · exact absurd ((poss_iff (sheet_one h.ok (.inl rfl)) ho hc).mpr ⟨b, hb, (agr_set hi b).mpr ⟨hA, h1⟩, hx⟩) hp
    · exact h1
  refine h.put hi (.inr rfl) ?_ fun b hb hA hx => .inl (all b hb hA hx)
  obtain ⟨b, b1, b2, b3⟩ := (poss_iff h.ok ho hc).mp h.pos
  exact (poss_iff (sheet_one h.ok (.inr rfl)) ho hc).mpr ⟨b, b1, (agr_set hi b).mpr ⟨b2, all b b1 b2 b3⟩, b3⟩
/-! ### witness -/
def t_wit_turn : TDs := (dIf (dB (dOp (opR (isV id)) (dOp (opV ixV) (dVar 3) (dVar 4)) (dC .none))) (dSeq (dAsg (dC (.int 0)) (gdSubL (dVar 3) (dVar 4)))
  (dIf (dB (dOp (opR (inV2 not)) (dVar 1) (dCall sp_possible (daCons (dVar 0) (daCons (dCB tupleP (daCons (dVar 3) daNil)) daNil))))) (dAsg (dC (.int 1)) (gdSubL (dVar 3) (dVar 4))) dNext)) dNext)
def t_witness : TDs := (dSeq (dIf (dB (dOp (opR (inV2 not)) (dVar 1) (dCall sp_possible (daCons (dVar 0) (daCons (dVar 2) daNil))))) (dRet (dC .none)) dNext)
  (dSeq (dSet 3 (dListOwn (daCons (dVar 2) daNil)))
  (dSeq (dFor (diRange1 (daCons (dCB lenP (daCons (dVar 3) daNil)) daNil)) (gdName 4) t_wit_turn)
  (dRet (dCB tupleP (daCons (dVar 3) daNil))))))
def sp_witness : DSp := fun ds M k => ∃ (t : Tr) (sh : List (Option Nat)) (ord : List Nat) (ws : List Str) (x : Str), ds = [.dat (encF t), .dat (.str x), .dat (encSheet sh)] ∧ sh.length ≤ 10 ∧ t.depth ≤ 10 ∧ CharLt sh.length t ∧ Sheet sh.length sh ∧ Ordd ord t ∧ FewAll sh.length t ws ∧
  (¬ Poss sh t x → k (.dat .none) M) ∧ ∀ bs, Bits sh.length bs → Agr sh bs → x ∈ t.ans bs → (∀ b, Bits sh.length b → Agr sh b → x ∈ t.ans b → b = bs ∨ Before bs b) → k (.dat (encBits bs)) M
theorem wit_turn {De : DEnds} {t : Tr} {sh cur : List (Option Nat)} {ord : List Nat} {ws : List Str} {x : Str} {i : Nat} {p : Addr} {M : MS} {x2 : Option DV} (hl : sh.length ≤ 10) (hd : t.depth ≤ 10) (hc : CharLt sh.length t) (ho : Ordd ord t) (hf : FewAll sh.length t ws) (hi : i < sh.length) (hM : M p = some (.lst (cur.map encPart))) (w : Wit sh.length t x sh i cur)
    (h : ∀ cur', Wit sh.length t x sh (i + 1) cur' → De.nx [some (.dat (encF t)), some (.dat (.str x)), x2, some (.ref p), some (.dat (.int ((i : Nat) : Int)))] (setM M p (.lst (cur'.map encPart)))) :
    t_wit_turn De [some (.dat (encF t)), some (.dat (.str x)), x2, some (.ref p), some (.dat (.int ((i : Nat) : Int)))] M := by
  obtain ⟨q, hq⟩ := sheet_at w.ok hi
  have cl := w.ok.1
  have hv : cview M (.ref p) = some (.list (cur.map encPart)) := by show (ownL _ p).map _ = _; rw [ownL_mk hM]; rfl
  have hix : ixN (cur.map encPart).length ((i : Nat) : Int) = some i := by
    rw [List.length_map]
    unfold ixN
    rw [if_pos (by omega), if_pos (by omega), Int.toNat_natCast]
  have es : ∀ v : Nat, (cur.map encPart).set i (.int ((v : Nat) : Int)) = (cur.set i (some v)).map encPart := fun v => by rw [List.map_set]; rfl
  refine ⟨_, rfl, _, rfl, _, _, hv, rfl, _, sheet_ix hq, ?_⟩
  cases q with
  | some v =>
    refine ⟨_, _, rfl, rfl, rfl, _, rfl, if_f rfl ?_⟩
    have := h cur (w.skip hq)
    rw [setM_self hM] at this
    exact this
  | none =>
    refine ⟨_, _, rfl, rfl, rfl, _, rfl, if_t rfl ?_⟩
    refine ⟨_, rfl, _, rfl, p, _, _, i, .int ((0 : Nat) : Int), rfl, rfl, rfl, hM, hix, ?_⟩
    rw [es 0]
    have s0 := sheet_one (c := i) w.ok (.inl rfl : (0 : Nat) = 0 ∨ (0 : Nat) = 1)
    have hl0 : (cur.set i (some 0)).length = sh.length := s0.1
    refine ⟨_, rfl, _, rfl, _, rfl, _, rfl, .inl ⟨(cur.set i (some 0)).map encPart, by show (ownL _ p).map _ = _; rw [ownL_mk setM_same]; rfl, ?_⟩⟩
    refine ⟨t, cur.set i (some 0), ws, rfl, hd, by rw [hl0]; exact hc, by rw [hl0]; exact s0, hf _ s0, fun ns n1 e1 => in_names ⟨_, rfl, ?_⟩⟩
    refine if_b (fun e => ?_) fun e => ?_
    · have hx : x ∉ ns := fun z => by rw [decide_eq_true z] at e; cases e
      refine ⟨_, rfl, _, rfl, p, _, _, i, .int ((1 : Nat) : Int), rfl, rfl, rfl, setM_same, ?_, ?_⟩
      · rw [List.length_map, hl0, ← cl]; rw [List.length_map] at hix; exact hix
      · rw [setM_set]
        have e2 : ((cur.set i (some 0)).map encPart).set i (.int ((1 : Nat) : Int)) = (cur.set i (some 1)).map encPart := by rw [← es 0, List.set_set, es 1]
        rw [e2]
        exact h _ (Wit.one ho hc w hq fun z => hx ((e1 x).mpr z))
    · have hx : x ∈ ns := by
        cases z : decide (x ∈ ns) with
        | true => exact of_decide_eq_true z
        | false => rw [z] at e; cases e
      exact h _ (w.zero hq ((e1 x).mp hx))
theorem wit_loop {De : DEnds} {t : Tr} {sh : List (Option Nat)} {ord : List Nat} {ws : List Str} {x : Str} {p : Addr} {x2 : Option DV} (hl : sh.length ≤ 10) (hd : t.depth ≤ 10) (hc : CharLt sh.length t) (ho : Ordd ord t) (hf : FewAll sh.length t ws) : ∀ (n i : Nat) (cur : List (Option Nat)) (M : MS) (x4 : Option DV), i + n = sh.length → M p = some (.lst (cur.map encPart)) → Wit sh.length t x sh i cur →
    (∀ cur' y4, Wit sh.length t x sh sh.length cur' → De.nx [some (.dat (encF t)), some (.dat (.str x)), x2, some (.ref p), y4] (setM M p (.lst (cur'.map encPart)))) →
    forD (gdName 4) t_wit_turn De none ((List.range' i n).map fun i : Nat => PyData.int ((i : Nat) : Int)) [some (.dat (encF t)), some (.dat (.str x)), x2, some (.ref p), x4] M
  | 0, i, cur, M, x4, hn, hM, w, h => ⟨True.intro, by
      have := h cur x4 (by rw [Nat.add_zero] at hn; rw [← hn] at w ⊢; exact w)
      rw [setM_self hM] at this; exact this⟩
  | n + 1, i, cur, M, x4, hn, hM, w, h => by
    refine ⟨True.intro, ?_⟩
    refine wit_turn hl hd hc ho hf (by omega) hM w fun cur' w' => ?_
    refine wit_loop hl hd hc ho hf n (i + 1) cur' _ _ (by omega) setM_same w' fun c2 y4 w2 => ?_
    rw [setM_set]
    exact h c2 y4 w2
theorem rd_witness : ∀ ds M k, sp_witness ds M k → t_witness (rtE k) (startD ["fold", "name", "sheet", "found", "at"] ds) M := by
  rintro _ M k ⟨t, sh, ord, ws, x, rfl, hl, hd, hc, hs, ho, hf, h1, h2⟩
  refine ⟨_, rfl, _, rfl, _, rfl, t, sh, ws, rfl, hd, hc, hs, hf _ hs, fun ns n1 e1 => in_names ⟨_, rfl, ?_⟩⟩
  refine if_b (fun e => ?_) fun e => ?_
  · have hx : x ∉ ns := fun z => by rw [decide_eq_true z] at e; cases e
    exact rt_same (h1 fun z => hx ((e1 x).mpr z))
  have hx : x ∈ ns := by
    cases z : decide (x ∈ ns) with
    | true => exact of_decide_eq_true z
    | false => rw [z] at e; cases e
  have hp := (e1 x).mp hx
  refine ⟨_, rfl, _, encSheet sh, sh.map encPart, rfl, rfl, rfl, fun p hpn => ?_⟩
  refine ⟨_, rfl, _, .list (sh.map encPart), sh.length, rfl, by show (ownL _ p).map _ = _; rw [ownL_mk setM_same]; rfl, by show some _ = _; rw [List.length_map], _, rfl, ⟨by omega, by omega⟩, ?_⟩
  rw [Int.toNat_natCast, range_nat, List.range_eq_range']
  have w0 : Wit sh.length t x sh 0 sh := ⟨hs, fun j z => absurd z (Nat.not_lt_zero j), fun _ z => z, hp, fun b _ z _ => .inl z⟩
  refine wit_loop hl hd hc ho hf sh.length 0 sh _ _ (by omega) setM_same w0 fun cur y4 w => ?_
  rw [setM_set]
  have ec : cur = (cur.map fun q => q.getD 0).map some := by
    rw [List.map_map]
    refine List.ext_getElem? fun j => ?_
    rw [List.getElem?_map]
    by_cases hj : j < sh.length
    · obtain ⟨v, hv⟩ := w.known j hj
      rw [hv]; rfl
    · rw [List.getElem?_eq_none (by rw [w.ok.1]; omega)]; rfl
  have hbl : (cur.map fun q => q.getD 0).length = sh.length := by rw [List.length_map]; exact w.ok.1
  have hbits : Bits sh.length (cur.map fun q => q.getD 0) := ⟨hbl, fun v hv => by
    refine w.ok.2 v ?_
    rw [ec]
    exact List.mem_map.mpr ⟨v, hv, rfl⟩⟩
  have hok := w.ok
  have hagr := w.agr
  have hpos := w.pos
  have hleast := w.least
  clear w
  generalize (cur.map fun q => q.getD 0) = bs at ec hbl hbits
  subst ec
  have at' : ∀ (j v : Nat), (bs.map some)[j]? = some (some v) ↔ bs[j]? = some v := fun j v => by
    rw [List.getElem?_map]
    cases bs[j]? <;> simp
  have self : Agr (bs.map some) bs := fun j v hv => (at' j v).mp hv
  have only : ∀ b, Bits sh.length b → Agr (bs.map some) b → b = bs := fun b hb hA => by
    refine List.ext_getElem? fun j => ?_
    by_cases hj : j < bs.length
    · have := hA j bs[j] ((at' j _).mpr (List.getElem?_eq_getElem hj))
      rw [this, List.getElem?_eq_getElem hj]
    · rw [List.getElem?_eq_none (show b.length ≤ j by rw [hb.1]; omega), List.getElem?_eq_none (by omega)]
  refine ⟨_, rfl, _, rfl, .inl ⟨_, by show (ownL _ p).map _ = _; rw [ownL_mk setM_same]; rfl, rt_sub (sub_new hpn) ?_⟩⟩
  have eb : (bs.map some).map encPart = bs.map fun b => PyData.int ((b : Nat) : Int) := by rw [List.map_map]; rfl
  rw [eb]
  refine h2 bs hbits (hagr bs self) ?_ fun b b1 b2 b3 => ?_
  · obtain ⟨b, b1, b2, b3⟩ := (poss_iff hok ho hc).mp hpos
    rw [only b b1 b2] at b3
    exact b3
  · rcases hleast b b1 b2 b3 with z | ⟨j, _, j2, j3, j4⟩
    · exact .inl (only b b1 z)
    · refine .inr ⟨j, fun i hi => ?_, (at' _ _).mp j3, j4⟩
      obtain ⟨v, v1, v2⟩ := j2 i hi
      exact ⟨v, (at' _ _).mp v1, v2⟩
end Ks

/-! Ks: what parts two names, by rows. -/
namespace Ks
open PySem PySem.Spec PyProof.Rows L2 Kf

/-! ### rows of a fold -/
theorem fold_at (t : Tr) {i : Nat} (hi : i < (foldOf t).length) : ∃ u, (post t [])[i]? = some u ∧ (foldOf t)[i]? = some (rowIn (post t []) u) ∧ Den (foldOf t) i u := by
  have hil : i < (post t []).length := by rw [← fold_len]; exact hi
  have hx := List.getElem?_eq_getElem hil
  refine ⟨(post t [])[i], hx, by unfold foldOf; rw [List.getElem?_map, hx]; rfl, ?_⟩
  have d := den_in (post_cl0 t) _ (List.getElem_mem hil)
  have hj : (post t []).idxOf (post t [])[i] < (post t []).length := List.idxOf_lt_length_of_mem (List.getElem_mem hil)
  have e : (post t []).idxOf (post t [])[i] = i := nodup_at (post_nodup t [] List.nodup_nil) (by rw [List.getElem?_eq_getElem hj, List.getElem_idxOf]) hx
  rw [e] at d
  exact d
theorem fold_below {t : Tr} {i c x y : Nat} (h : (foldOf t)[i]? = some (.node c x y)) : x < i ∧ y < i := by
  have hi := (List.getElem?_eq_some_iff.mp h).1
  obtain ⟨u, h1, h2, _⟩ := fold_at t hi
  rw [h] at h2
  have h2 := Option.some.inj h2
  cases u with
  | leaf ns => cases h2
  | node c' a b =>
    have h2 : Row.node c x y = .node c' ((post t []).idxOf a) ((post t []).idxOf b) := h2
    have hbh := post_bh t [] cl_nil fun i c a b e => by simp at e
    obtain ⟨g1, g2⟩ := hbh i c' a b h1
    injection h2 with _ e1 e2
    rw [e1, e2]
    have lt : ∀ {z : Tr}, z ∈ (post t []).take i → (post t []).idxOf z < i := fun {z} hz => by
      have := idx_take hz
      have h3 := List.idxOf_lt_length_of_mem hz
      rw [List.length_take] at h3
      omega
    exact ⟨lt g1, lt g2⟩
theorem fold_len_le {t : Tr} (hd : t.depth ≤ 10) : (foldOf t).length ≤ 2048 := by
  have h2 := t.size_le
  have h3 : 2 ^ (t.depth + 1) ≤ 2 ^ 11 := Nat.pow_le_pow_right (by decide) (by omega)
  have h4 : (2 : Nat) ^ 11 = 2048 := rfl
  have h5 := post_len t []
  rw [List.length_nil] at h5
  rw [fold_len]
  omega
theorem at_last {α : Type} {xs : List α} {x : α} : atI (xs ++ [x]) (-1) = some x := by
  unfold atI ixN
  rw [List.length_append, List.length_singleton]
  rw [if_neg (by omega), if_pos (by omega)]
  have e : ((-1 : Int) + ((xs.length + 1 : Nat) : Int)).toNat = xs.length := by omega
  simp only [e]
  simp
/-! ### parts_from -/
/-- whether just one of two names stands at some leaf -/
def Pt (a b : Str) : Tr → Bool
  | .leaf ns => !(decide (a ∈ ns) == decide (b ∈ ns))
  | .node _ x y => Pt a b x || Pt a b y
def t_parts_turn : TDs := (dIf (dB (dCall sp_is_leaf (daCons (dVar 4) daNil))) (dExpr (dAppend (dVar 3) (daCons (dOp (opR neV2) (dOp (opR (inV2 id)) (dVar 1) (dOp (opV ixV) (dVar 4) (dC (.int 1)))) (dOp (opR (inV2 id)) (dVar 2) (dOp (opV ixV) (dVar 4) (dC (.int 1))))) daNil))) (dExpr (dAppend (dVar 3) (daCons (dOrV (dOp (opV ixV) (dVar 3) (dOp (opV ixV) (dVar 4) (dC (.int 1)))) (dOp (opV ixV) (dVar 3) (dOp (opV ixV) (dVar 4) (dC (.int 2))))) daNil))))
def t_parts_from : TDs := (dSeq (dSet 3 (dOwn daNil))
  (dSeq (dFor (diTup (dVar 0)) (gdName 4) t_parts_turn)
  (dRet (dVar 3))))
/-- for each row whether it parts -/
def Parts (F : List Row) (a b : Str) (ps : List Bool) : Prop := ∀ j u, j < ps.length → Den F j u → ps[j]? = some (Pt a b u)
def encBs (ps : List Bool) : List PyData := ps.map PyData.bool
def sp_parts_from : DSp := fun ds M k => ∃ (t : Tr) (a b : Str), ds = [.dat (encF t), .dat (.str a), .dat (.str b)] ∧ t.depth ≤ 10 ∧ ∀ ps, ps.length = (foldOf t).length → Parts (foldOf t) a b ps → k (.dat (.list (encBs ps))) M
theorem Parts.snoc {F : List Row} {a b : Str} {ps : List Bool} (h : Parts F a b ps) {p : Bool} (hp : ∀ u, Den F ps.length u → p = Pt a b u) : Parts F a b (ps ++ [p]) := fun j u hj d => by
  rw [List.length_append, List.length_singleton] at hj
  by_cases e : j = ps.length
  · subst e
    rw [List.getElem?_append_right (Nat.le_refl _), Nat.sub_self, hp u d]; rfl
  · rw [List.getElem?_append_left (by omega)]; exact h j u (by omega) d
theorem bs_at {ps : List Bool} {j : Nat} {p : Bool} (h : ps[j]? = some p) : atI (encBs ps) ((j : Nat) : Int) = some (.bool p) := atI_nat (by unfold encBs; rw [List.getElem?_map, h]; rfl)
theorem ne_bools {M : MS} {p q : Bool} {k : DV → Prop} (h : k (.dat (.bool (!(p == q))))) : opR neV2 M (.dat (.bool p)) (.dat (.bool q)) k := by
  refine ⟨_, _, rfl, rfl, ?_⟩
  cases p <;> cases q <;> exact ⟨rfl, h⟩
theorem parts_loop {De : DEnds} {t : Tr} {a b : Str} {M : MS} {r : Addr} (hd : t.depth ≤ 10) : ∀ (n : Nat) (ps : List Bool) (M : MS) (x4 : Option DV), ps.length + n = (foldOf t).length → M r = some (.lst (encBs ps)) → Parts (foldOf t) a b ps →
    (∀ ps' y4, ps'.length = (foldOf t).length → Parts (foldOf t) a b ps' → De.nx [some (.dat (encF t)), some (.dat (.str a)), some (.dat (.str b)), some (.ref r), y4] (setM M r (.lst (encBs ps')))) →
    forD (gdName 4) t_parts_turn De none (((foldOf t).drop ps.length).map encRow) [some (.dat (encF t)), some (.dat (.str a)), some (.dat (.str b)), some (.ref r), x4] M
  | 0, ps, M, x4, hn, hm, hp, h => by
    rw [List.drop_eq_nil_of_le (by omega)]
    refine ⟨True.intro, ?_⟩
    have := h ps x4 (by omega) hp
    rw [setM_self hm] at this
    exact this
  | n + 1, ps, M, x4, hn, hm, hp, h => by
    have hi : ps.length < (foldOf t).length := by omega
    have hF := fold_len_le hd
    rw [List.drop_eq_getElem_cons hi, List.map_cons]
    have er := List.getElem?_eq_getElem hi
    generalize (foldOf t)[ps.length] = row at er ⊢
    obtain ⟨u, _, _, du⟩ := fold_at t hi
    have go : ∀ p : Bool, p = Pt a b u → ∀ x4, forD (gdName 4) t_parts_turn De none (((foldOf t).drop (ps.length + 1)).map encRow) [some (.dat (encF t)), some (.dat (.str a)), some (.dat (.str b)), some (.ref r), x4] (setM M r (.lst (encBs ps ++ [.bool p]))) := fun p e x4 => by
      have e1 : encBs ps ++ [PyData.bool p] = encBs (ps ++ [p]) := by unfold encBs; rw [List.map_append]; rfl
      rw [e1]
      have := parts_loop (De := De) (M := M) hd n (ps ++ [p]) (setM M r (.lst (encBs (ps ++ [p])))) x4 (by rw [List.length_append, List.length_singleton]; omega) setM_same (hp.snoc fun v dv => by rw [dv.fn du]; exact e) fun ps' y4 h1 h2 => by rw [setM_set]; exact h ps' y4 h1 h2
      rw [List.length_append, List.length_singleton] at this
      exact this
    have hsz : (encBs ps).length < sizeLine := by unfold encBs; rw [List.length_map]; exact slt (by omega)
    cases row with
    | leaf ns =>
      refine ⟨True.intro, _, rfl, .leaf ns, rfl, _, rfl, if_t rfl ?_⟩
      refine ⟨_, rfl, r, _, rfl, hm, _, rfl, _, rfl, _, _, rfl, rfl, _, rfl, in_names ?_⟩
      refine ⟨_, rfl, _, rfl, _, _, rfl, rfl, _, rfl, in_names ?_⟩
      refine ne_bools ⟨_, _, rfl, hm, hsz, ?_⟩
      have eu := du.fn (.leaf er)
      exact go _ (by rw [eu]; rfl) _
    | node c x y =>
      obtain ⟨hx, hy⟩ := fold_below er
      refine ⟨True.intro, _, rfl, .node c x y, rfl, _, rfl, if_f rfl ?_⟩
      cases du with
      | leaf h1 => rw [er] at h1; cases h1
      | @node _ c' x' y' ta tb h1 d1 d2 =>
        rw [er] at h1
        cases h1
        have p1 := hp x ta hx d1
        have p2 := hp y tb hy d2
        have vw : view M (.ref r) = some (.list (encBs ps)) := by show (ownL M r).map _ = _; rw [ownL_mk hm]; rfl
        refine ⟨_, rfl, r, _, rfl, hm, _, rfl, _, rfl, _, _, rfl, rfl, _, rfl, _, _, vw, rfl, _, bs_at p1, _, rfl, ?_⟩
        refine if_b (fun e => ?_) fun e => ?_
        · refine ⟨_, _, rfl, hm, hsz, go true ?_ _⟩
          show true = (Pt a b ta || Pt a b tb)
          rw [e]; rfl
        · refine ⟨_, rfl, _, rfl, _, _, rfl, rfl, _, rfl, _, _, vw, rfl, _, bs_at p2, ?_⟩
          refine ⟨_, _, rfl, hm, hsz, go (Pt a b tb) ?_ _⟩
          show _ = (Pt a b ta || Pt a b tb)
          rw [e]; rfl
theorem rd_parts_from : ∀ ds M k, sp_parts_from ds M k → t_parts_from (rtE k) (startD ["fold", "one", "other", "found", "row"] ds) M := by
  rintro _ M k ⟨t, a, b, rfl, hd, h⟩
  refine ⟨[], rfl, szb rfl, fun r hr => ?_⟩
  refine ⟨_, rfl, (foldOf t).map encRow, rfl, ?_⟩
  refine parts_loop (M := M) hd (foldOf t).length [] (setM M r (.lst [])) _ (by simp) setM_same (fun j u hj => absurd hj (Nat.not_lt_zero _)) fun ps y4 h1 h2 => ?_
  rw [setM_set]
  refine ⟨_, rfl, .dat (.list (encBs ps)), M, ⟨fun z o hz => ?_, .inr ⟨r, _, rfl, setM_same, hr, rfl⟩⟩, h ps h1 h2⟩
  have n1 : z ≠ r := fun e => by subst e; rw [hr] at hz; cases hz
  rw [setM_ne n1]
  exact hz
end Ks

/-! Ks: the law of sums. -/
namespace Ks
open PySem PySem.Spec PyProof.Rows L2 Kf

section
variable {α : Type} {fa fb : α → PyData} {i j : Nat} {ρ : Rho} {M : MS} {k : List PyData → MS → Prop}
/-- a comprehension over pairs -/
theorem two_gen {tt : TDb} {te : TD} {p : α → Bool} {f : α → PyData} : ∀ (l : List α) (acc : List PyData), (∀ x, x ∈ l → ∀ K : Bool → MS → Prop, K (p x) M → tt (((wipeD ρ [i, j]).set i (some (.dat (fa x)))).set j (some (.dat (fb x)))) M K) → (∀ x, x ∈ l → p x = true → ∀ K : KD, K (.dat (f x)) M → te (((wipeD ρ [i, j]).set i (some (.dat (fa x)))).set j (some (.dat (fb x)))) M K) → acc.length + l.length ≤ 1000000 → k (acc ++ (l.filter p).map f) M →
    compD (.two i j) tt te ρ none (l.map fun x => .tuple [fa x, fb x]) acc M k
  | [], acc, _, _, _, h => ⟨True.intro, by rw [List.filter_nil, List.map_nil, List.append_nil] at h; exact h⟩
  | x :: l, acc, ht, hf, hl, h => by
    rw [List.length_cons] at hl
    rw [List.filter_cons] at h
    refine ⟨True.intro, _, rfl, ht x List.mem_cons_self _ ?_⟩
    refine if_b (fun e => ?_) fun e => ?_
    · rw [if_pos e] at h
      refine hf x List.mem_cons_self e _ ⟨_, rfl, slt (by omega), ?_⟩
      refine two_gen l (acc ++ [f x]) (fun y hy => ht y (List.mem_cons_of_mem _ hy)) (fun y hy => hf y (List.mem_cons_of_mem _ hy)) (by rw [List.length_append, List.length_singleton]; omega) ?_
      rw [List.append_assoc]; exact h
    · rw [if_neg (by rw [e]; exact Bool.false_ne_true)] at h
      exact two_gen l acc (fun y hy => ht y (List.mem_cons_of_mem _ hy)) (fun y hy => hf y (List.mem_cons_of_mem _ hy)) (by omega) h
end
theorem eq_intsM {i j : Int} {q : PyData → Prop} (h : q (.bool (i == j))) : eqV2 (.int i) (.int j) q := ⟨rfl, h⟩
theorem filter_all {α : Type} (l : List α) : (l.filter fun _ => true) = l := List.filter_eq_self.mpr fun _ _ => rfl
theorem ixs_nz (l : List Nat) : ixs l = (nz l).map PyData.int := by
  unfold ixs nz
  rw [List.map_map]; rfl
theorem daNil_run {ρ : Rho} {M : MS} {k : List DV → MS → Prop} (h : k [] M) : daNil ρ M k := h
theorem ne_same {i j : Nat} {q : PyData → Prop} (e : i = j) (h : q (.bool false)) : neV2 (.int ((i : Nat) : Int)) (.int ((j : Nat) : Int)) q := by
  subst e
  refine ⟨rfl, ?_⟩
  have : (!PyData.eqv (.int ((i : Nat) : Int)) (.int ((i : Nat) : Int))) = false := by rw [eqv_nat, beq_self_eq_true]; rfl
  rw [this]; exact h
/-- a sheet with one more character known -/
theorem sheet_put {ρ : Rho} {M : MS} {a b c v : Nat} {w : Int} {sh : List (Option Nat)} {k : KD} (ha : ρ[a]? = some (some (.dat (encSheet sh)))) (hb : ρ[b]? = some (some (.dat (.int ((c : Nat) : Int))))) (hw : w = ((v : Nat) : Int)) (hc : c < sh.length) (hl : sh.length ≤ 1000) (h : k (.dat (encSheet (sh.set c (some v)))) M) :
    dOp (opV addV) (dOp (opV addV) (dSl (dVar a) doNone (doSome (dVar b))) (dTup (daCons (dC (.int w)) daNil))) (dSl (dVar a) (doSome (dOp (opV addV) (dVar b) (dC (.int 1)))) doNone) ρ M k := by
  subst hw
  have hle : c ≤ (sh.map encPart).length := by rw [List.length_map]; omega
  have hle2 : c + 1 ≤ (sh.map encPart).length := by rw [List.length_map]; omega
  refine ⟨_, ha, _, hb, _, rfl, _, rfl, slT (cut_to hle) ?_⟩
  refine ⟨_, rfl, szb rfl, _, _, rfl, rfl, szm (by rw [List.length_take, List.length_map, List.length_singleton]; omega), ?_⟩
  refine ⟨_, ha, _, hb, _, _, rfl, rfl, _, rfl, _, rfl, slT (cut_from (j := c + 1) hle2) ⟨_, _, rfl, rfl, szm (by simp only [List.length_append, List.length_take, List.length_drop, List.length_map, List.length_singleton]; omega), ?_⟩⟩
  have ef : (sh.map encPart).take c ++ [PyData.int ((v : Nat) : Int)] ++ (sh.map encPart).drop (c + 1) = (sh.set c (some v)).map encPart := by
    rw [set_cutA hc, List.map_append, List.map_append, List.map_take, List.map_drop]; rfl
  rw [ef]; exact h
theorem cntN_split {m : Nat} {sh : List (Option Nat)} {c : Nat} {t : Tr} {x : Str} (hc : c < m) (hn : sh[c]? = some none) : cntN m sh t x = cntN m (sh.set c (some 0)) t x + cntN m (sh.set c (some 1)) t x := by
  unfold cntN
  rw [cnt_nA, cnt_nA, cnt_nA]
  exact nA_split hc hn
theorem cntN_pos {m : Nat} {ord : List Nat} {sh : List (Option Nat)} {t : Tr} {x : Str} (hs : Sheet m sh) (ho : Ordd ord t) (hc : CharLt m t) : 0 < cntN m sh t x ↔ Poss sh t x := by
  unfold cntN
  rw [List.countP_pos_iff, poss_iff hs ho hc]
  constructor
  · rintro ⟨ns, h1, h2⟩
    obtain ⟨bs, b1, b2, rfl⟩ := mem_ansA.mp h1
    exact ⟨bs, b1, b2, of_decide_eq_true h2⟩
  · rintro ⟨bs, b1, b2, b3⟩
    exact ⟨_, mem_ansA.mpr ⟨bs, b1, b2, rfl⟩, decide_eq_true b3⟩
theorem freeN_free : ∀ m, freeN (freeS m) = 2 ^ m
  | 0 => rfl
  | m + 1 => by
    show 2 * freeN (freeS m) = _
    rw [freeN_free m, Nat.pow_succ]; omega
theorem ansA_all {m : Nat} (t : Tr) : (ansA m (freeS m) t).length = 2 ^ m := by
  have h : (ansA m (freeS m) t).countP (fun _ => true) = nA m (freeS m) fun _ => true := cnt_nA _
  rw [nA_all (freeS_sheet m), freeN_free, List.countP_true] at h
  exact h
theorem CntOk.sum {m : Nat} {sh : List (Option Nat)} {t : Tr} {Ks : List (List Str)} (h : CntOk m sh t Ks) (q : List Str → Bool) : (((cntL m sh t Ks).filter fun p => q p.1).map (·.2)).sum = (ansA m sh t).countP q := by
  rw [← sum_counts q _ _ h.nd fun x hx => (h.mem x).mpr hx]
  unfold cntL
  rw [List.filter_map, List.map_map]
  rfl
/-- the leaves of a key -/
def lvs : Tr → List (List Str)
  | .leaf ns => [ns]
  | .node _ a b => lvs a ++ lvs b
theorem lvs_len : ∀ t : Tr, (lvs t).length ≤ 2 ^ t.depth
  | .leaf _ => Nat.le_refl _
  | .node _ a b => by
    have h1 := lvs_len a
    have h2 := lvs_len b
    have h3 : 2 ^ a.depth ≤ 2 ^ (max a.depth b.depth) := Nat.pow_le_pow_right (by decide) (Nat.le_max_left _ _)
    have h4 : 2 ^ b.depth ≤ 2 ^ (max a.depth b.depth) := Nat.pow_le_pow_right (by decide) (Nat.le_max_right _ _)
    show (lvs a ++ lvs b).length ≤ 2 ^ (max a.depth b.depth + 1)
    rw [List.length_append, Nat.pow_succ]; omega
theorem lvs_ans (bs : List Nat) : ∀ t : Tr, t.ans bs ∈ lvs t
  | .leaf ns => by show ns ∈ [ns]; exact List.mem_cons_self
  | .node c a b => by
    rw [ans_node]
    show _ ∈ lvs a ++ lvs b
    split
    · exact List.mem_append_left _ (lvs_ans bs a)
    · exact List.mem_append_right _ (lvs_ans bs b)
theorem few_key5 {m : Nat} {ord : List Nat} {ws : List Str} {key t : Tr} (hw : WsOk ws) (ho : ord.Perm (List.range m)) (g : Gt ord ws t) (f : ∀ bs, t.ans bs = key.ans bs) (hd : key.depth ≤ 5) : FewAll m t ws := fun sh hs => by
  refine ⟨ws_pool hw, g.nm, lvs key, ?_, fun ns r => ?_⟩
  · have h1 := lvs_len key
    have h2 : 2 ^ key.depth ≤ 2 ^ 5 := Nat.pow_le_pow_right (by decide) hd
    have h3 : (2 : Nat) ^ 5 = 32 := rfl
    omega
  · obtain ⟨bs, b1, _, b3⟩ := (rc_iff hs g.ord (ordd_lt ho g.ord) ns).mp r
    rw [← b3, f]; exact lvs_ans bs key
/-! ### one name -/
/-- what is known of a fold and a sheet -/
structure Asked (m : Nat) (ord : List Nat) (ws : List Str) (sh : List (Option Nat)) (t : Tr) : Prop where
  ml : m ≤ 10
  ho : ord.Perm (List.range m)
  hs : Sheet m sh
  hc : CharLt m t
  hd : t.depth ≤ 10
  od : Ordd ord t
  nm : t.allL NmP
  few : FewAll m t ws
theorem Asked.set {m : Nat} {ord : List Nat} {ws : List Str} {sh : List (Option Nat)} {t : Tr} (h : Asked m ord ws sh t) {c v : Nat} (hv : v = 0 ∨ v = 1) : Asked m ord ws (sh.set c (some v)) t := ⟨h.ml, h.ho, sheet_one h.hs hv, h.hc, h.hd, h.od, h.nm, h.few⟩
theorem Asked.free {m : Nat} {ord : List Nat} {ws : List Str} {sh : List (Option Nat)} {t : Tr} (h : Asked m ord ws sh t) : Asked m ord ws (freeS m) t := ⟨h.ml, h.ho, freeS_sheet m, h.hc, h.hd, h.od, h.nm, h.few⟩
theorem Asked.count {m : Nat} {ord : List Nat} {ws : List Str} {sh : List (Option Nat)} {t : Tr} (h : Asked m ord ws sh t) {x : Str} {M : MS} {k : KD} (hk : k (.dat (.int ((cntN m sh t x : Nat) : Int))) M) : sp_count_name [.dat (encF t), .dat (.str x), .dat (encSheet sh)] M k := by
  have e := h.hs.1
  refine ⟨t, sh, ord, x, rfl, by rw [e]; exact h.ml, by rw [e]; exact h.hc, by rw [e]; exact h.hs, h.od, by rw [e]; exact h.ho, h.nm, ?_⟩
  rw [e]; exact hk
theorem Asked.poss {m : Nat} {ord : List Nat} {ws : List Str} {sh : List (Option Nat)} {t : Tr} (h : Asked m ord ws sh t) {M : MS} {k : KD} (hk : ∀ ns, (∀ x, x ∈ ns ↔ Poss sh t x) → k (.dat (encNames ns)) M) : sp_possible [.dat (encF t), .dat (encSheet sh)] M k := by
  have e := h.hs.1
  exact ⟨t, sh, ws, rfl, h.hd, by rw [e]; exact h.hc, by rw [e]; exact h.hs, h.few _ h.hs, fun ns _ e1 => hk ns e1⟩
theorem Asked.wit {m : Nat} {ord : List Nat} {ws : List Str} {sh : List (Option Nat)} {t : Tr} (h : Asked m ord ws sh t) {x : Str} {M : MS} {k : KD} (h1 : ¬ Poss sh t x → k (.dat .none) M) (h2 : ∀ bs, Bits m bs → Agr sh bs → x ∈ t.ans bs → (∀ b, Bits m b → Agr sh b → x ∈ t.ans b → b = bs ∨ Before bs b) → k (.dat (encBits bs)) M) : sp_witness [.dat (encF t), .dat (.str x), .dat (encSheet sh)] M k := by
  have e := h.hs.1
  refine ⟨t, sh, ord, ws, x, rfl, by rw [e]; exact h.ml, h.hd, by rw [e]; exact h.hc, by rw [e]; exact h.hs, h.od, by rw [e]; exact h.few, h1, ?_⟩
  rw [e]; exact h2
theorem Asked.counts {m : Nat} {ord : List Nat} {ws : List Str} {sh : List (Option Nat)} {t : Tr} (h : Asked m ord ws sh t) {M : MS} {k : KD} (hk : ∀ Ks, CntOk m (freeS m) t Ks → k (.dat (.tuple ((cntL m (freeS m) t Ks).map encPr))) M) : sp_counts [.dat (encF t), .dat (.int ((m : Nat) : Int))] M k :=
  ⟨t, m, ord, rfl, h.ml, h.hc, h.od, h.ho, h.nm, hk⟩
def t_k32_k : TDs := (dIf (dB (dOp (opR (isV id)) (dOp (opV ixV) (dVar 7) (dVar 11)) (dC .none))) (dSeq (dSet 12 (dCall sp_count_name (daCons (dVar 5) (daCons (dVar 8) (daCons (dOp (opV addV) (dOp (opV addV) (dSl (dVar 7) doNone (doSome (dVar 11))) (dTup (daCons (dC (.int 0)) daNil))) (dSl (dVar 7) (doSome (dOp (opV addV) (dVar 11) (dC (.int 1)))) doNone)) daNil)))))
  (dIf (dB (dOp (opR neV2) (dVar 10) (dOp (opV addV) (dVar 12) (dCall sp_count_name (daCons (dVar 5) (daCons (dVar 8) (daCons (dOp (opV addV) (dOp (opV addV) (dSl (dVar 7) doNone (doSome (dVar 11))) (dTup (daCons (dC (.int 1)) daNil))) (dSl (dVar 7) (doSome (dOp (opV addV) (dVar 11) (dC (.int 1)))) doNone)) daNil))))))) (dRet (dC (.bool false))) dNext)) dNext)
theorem k32_ks {De : DEnds} {m : Nat} {ord : List Nat} {ws : List Str} {sh : List (Option Nat)} {t : Tr} {x : Str} {M : MS} {x0 x1 x2 x3 x4 x6 x9 x13 x14 x15 x16 x17 : Option DV} (A : Asked m ord ws sh t) : ∀ (n i : Nat) (x11 x12 : Option DV), i + n = m →
    (∀ y11 y12, De.nx [x0, x1, x2, x3, x4, some (.dat (encF t)), x6, some (.dat (encSheet sh)), some (.dat (.str x)), x9, some (.dat (.int ((cntN m sh t x : Nat) : Int))), y11, y12, x13, x14, x15, x16, x17] M) →
    forD (gdName 11) t_k32_k De none ((List.range' i n).map fun i : Nat => PyData.int ((i : Nat) : Int)) [x0, x1, x2, x3, x4, some (.dat (encF t)), x6, some (.dat (encSheet sh)), some (.dat (.str x)), x9, some (.dat (.int ((cntN m sh t x : Nat) : Int))), x11, x12, x13, x14, x15, x16, x17] M
  | 0, i, x11, x12, hn, h => ⟨True.intro, h x11 x12⟩
  | n + 1, i, x11, x12, hn, h => by
    have hi : i < m := by omega
    have hl := A.ml
    have e := A.hs.1
    obtain ⟨p, hp⟩ := sheet_at A.hs hi
    refine ⟨True.intro, _, rfl, _, rfl, _, _, rfl, rfl, _, sheet_ix hp, ?_⟩
    cases p with
    | some v =>
      refine ⟨_, _, rfl, rfl, rfl, _, rfl, if_f rfl ?_⟩
      exact k32_ks A n (i + 1) _ _ (by omega) h
    | none =>
      refine ⟨_, _, rfl, rfl, rfl, _, rfl, if_t rfl ?_⟩
      refine ⟨_, rfl, _, rfl, sheet_put (v := 0) rfl rfl rfl (by omega) (by omega) ?_⟩
      refine daNil_run ?_
      refine (A.set (.inl rfl)).count ?_
      refine ⟨_, rfl, _, rfl, _, rfl, _, rfl, sheet_put (v := 1) rfl rfl rfl (by omega) (by omega) ?_⟩
      refine daNil_run ?_
      refine (A.set (.inr rfl)).count ⟨_, _, rfl, rfl, addNat ⟨_, _, rfl, rfl, ne_same (cntN_split hi hp) ⟨_, rfl, if_f rfl ?_⟩⟩⟩
      exact k32_ks A n (i + 1) _ _ (by omega) h
def t_k32_part : TDs := (dIf (dAnd (dB (dOp (opR (isV not)) (dVar 14) (dC .none))) (dB (dOp (opR neV2) (dVar 14) (dVar 15)))) (dRet (dC (.bool false))) dNext)
theorem k32_parts {De : DEnds} {M : MS} {x0 x1 x2 x3 x4 x5 x6 x7 x8 x9 x10 x11 x12 x13 x16 x17 : Option DV} : ∀ (sh : List (Option Nat)) (bs : List Nat) (x14 x15 : Option DV), Agr sh bs →
    (∀ y14 y15, De.nx [x0, x1, x2, x3, x4, x5, x6, x7, x8, x9, x10, x11, x12, x13, y14, y15, x16, x17] M) →
    forD (gdTup 2 (gdCons (gdName 14) (gdCons (gdName 15) gdNil))) t_k32_part De none (zipD (sh.map encPart) (bs.map fun b => PyData.int ((b : Nat) : Int))) [x0, x1, x2, x3, x4, x5, x6, x7, x8, x9, x10, x11, x12, x13, x14, x15, x16, x17] M
  | [], _, x14, x15, _, h => ⟨True.intro, h x14 x15⟩
  | _ :: _, [], x14, x15, _, h => ⟨True.intro, h x14 x15⟩
  | p :: sh, b :: bs, x14, x15, ha, h => by
    obtain ⟨h1, h2⟩ := agr_cons.mp ha
    refine ⟨True.intro, _, rfl, rfl, _, _, rfl, _, _, rfl, rfl, ?_⟩
    cases p with
    | none =>
      refine ⟨_, rfl, _, _, rfl, rfl, rfl, _, rfl, if_f rfl (if_f rfl ?_)⟩
      exact k32_parts sh bs _ _ h1 h
    | some v =>
      have e : v = b := by
        rcases h2 with z | z
        · cases z
        · exact Option.some.inj z
      refine ⟨_, rfl, _, _, rfl, rfl, rfl, _, rfl, if_t rfl ?_⟩
      refine ⟨_, rfl, _, rfl, _, _, rfl, rfl, ne_same e ⟨_, rfl, if_f rfl ?_⟩⟩
      exact k32_parts sh bs _ _ h1 h
def t_k32_wit : TDs := (dSeq (dSet 13 (dCall sp_witness (daCons (dVar 5) (daCons (dVar 8) (daCons (dVar 7) daNil)))))
  (dSeq (dIf (dOr (dB (dOp (opR neV2) (dOp (opV gtV2) (dVar 10) (dC (.int 0))) (dOp (opR (inV2 id)) (dVar 8) (dCall sp_possible (daCons (dVar 5) (daCons (dVar 7) daNil)))))) (dB (dOp (opR neV2) (dOp (opR (isV id)) (dVar 13) (dC .none)) (dOp (opR eqV2) (dVar 10) (dC (.int 0)))))) (dRet (dC (.bool false))) dNext)
  (dSeq (dIf (dAnd (dB (dOp (opR (isV not)) (dVar 13) (dC .none))) (dB (dOp (opR (inV2 not)) (dVar 8) (dCall sp_answer_of (daCons (dVar 5) (daCons (dVar 13) daNil)))))) (dRet (dC (.bool false))) dNext)
  (dIf (dB (dOp (opR (isV not)) (dVar 13) (dC .none))) (dFor (diZip (daCons (dVar 7) (daCons (dVar 13) daNil))) (gdTup 2 (gdCons (gdName 14) (gdCons (gdName 15) gdNil))) t_k32_part) dNext))))
theorem k32_wit {De : DEnds} {m : Nat} {ord : List Nat} {ws : List Str} {sh : List (Option Nat)} {t : Tr} {x : Str} {M : MS} {x0 x1 x2 x3 x4 x6 x9 x11 x12 x13 x14 x15 x16 x17 : Option DV} (A : Asked m ord ws sh t)
    (h : ∀ y13 y14 y15, De.nx [x0, x1, x2, x3, x4, some (.dat (encF t)), x6, some (.dat (encSheet sh)), some (.dat (.str x)), x9, some (.dat (.int ((cntN m sh t x : Nat) : Int))), x11, x12, y13, y14, y15, x16, x17] M) :
    t_k32_wit De [x0, x1, x2, x3, x4, some (.dat (encF t)), x6, some (.dat (encSheet sh)), some (.dat (.str x)), x9, some (.dat (.int ((cntN m sh t x : Nat) : Int))), x11, x12, x13, x14, x15, x16, x17] M := by
  have cp := cntN_pos (x := x) A.hs A.od A.hc
  have test : ∀ (ns : List Str), (∀ x, x ∈ ns ↔ Poss sh t x) → (!(decide ((0 : Int) < ((cntN m sh t x : Nat) : Int)) == id (decide (x ∈ ns)))) = false := fun ns e1 => by
    have : decide ((0 : Int) < ((cntN m sh t x : Nat) : Int)) = decide (x ∈ ns) := decide_eq_decide.mpr (by rw [e1, ← cp]; omega)
    rw [this]; simp
  refine ⟨_, rfl, _, rfl, _, rfl, ?_⟩
  refine daNil_run ?_
  refine A.wit (fun hnp => ?_) fun bs b1 b2 b3 _ => ?_
  · have hz : cntN m sh t x = 0 := by
      cases e : cntN m sh t x with
      | zero => rfl
      | succ n => exact absurd (cp.mp (by omega)) hnp
    refine ⟨_, rfl, _, _, rfl, rfl, _, rfl, _, rfl, _, rfl, ?_⟩
    refine daNil_run ?_
    refine A.poss fun ns e1 => in_names (ne_bools ⟨_, rfl, ?_⟩)
    refine if_c (test ns e1) (fun z => (by cases z)) fun _ => ?_
    refine ⟨_, rfl, _, _, rfl, rfl, rfl, _, rfl, _, _, rfl, rfl, eq_intsM (ne_bools ⟨_, rfl, ?_⟩)⟩
    refine if_c (c := false) (by rw [hz]; rfl) (fun z => (by cases z)) fun _ => ?_
    refine ⟨_, rfl, _, _, rfl, rfl, rfl, _, rfl, if_f rfl (if_f rfl ?_)⟩
    refine ⟨_, rfl, _, _, rfl, rfl, rfl, _, rfl, if_f rfl ?_⟩
    exact h _ _ _
  · have hz : ¬ cntN m sh t x = 0 := by
      have := cp.mpr ((poss_iff A.hs A.od A.hc).mpr ⟨bs, b1, b2, b3⟩)
      omega
    refine ⟨_, rfl, _, _, rfl, rfl, _, rfl, _, rfl, _, rfl, ?_⟩
    refine daNil_run ?_
    refine A.poss fun ns e1 => in_names (ne_bools ⟨_, rfl, ?_⟩)
    refine if_c (test ns e1) (fun z => (by cases z)) fun _ => ?_
    refine ⟨_, rfl, _, _, rfl, rfl, rfl, _, rfl, _, _, rfl, rfl, eq_intsM (ne_bools ⟨_, rfl, ?_⟩)⟩
    have e0 : ((((cntN m sh t x : Nat) : Int)) == 0) = false := beq_eq_false_iff_ne.mpr (by omega)
    refine if_c (c := false) (by rw [e0]; rfl) (fun z => (by cases z)) fun _ => ?_
    refine ⟨_, rfl, _, _, rfl, rfl, rfl, _, rfl, if_t rfl ?_⟩
    refine ⟨_, rfl, _, rfl, _, rfl, m, foldOf t, t, bs, rfl, den_fold t, b1, A.hc, in_names (g := not) ⟨_, rfl, if_f (by rw [decide_eq_true b3]; rfl) ?_⟩⟩
    refine ⟨_, rfl, _, _, rfl, rfl, rfl, _, rfl, if_t rfl ?_⟩
    refine ⟨_, rfl, _, rfl, _, _, sh.map encPart, bs.map fun b => PyData.int ((b : Nat) : Int), rfl, .inl ⟨rfl, rfl⟩, ?_⟩
    exact k32_parts sh bs _ _ b2 (h _)
/-! ### the law -/
def t_k32_turn : TDs := (dSeq (dSet 9 (dCB sumP (daCons (dLc (diTup (dVar 6)) (.two 16 17) (dB (dOp (opR (inV2 id)) (dVar 8) (dVar 16))) (dVar 17)) daNil)))
  (dSeq (dIf (dB (dOp (opR neV2) (dCall sp_count_name (daCons (dVar 5) (daCons (dVar 8) (daCons (dOp (opV mulA) (dTup (daCons (dC .none) daNil)) (dVar 1)) daNil)))) (dVar 9))) (dRet (dC (.bool false))) dNext)
  (dSeq (dSet 10 (dCall sp_count_name (daCons (dVar 5) (daCons (dVar 8) (daCons (dVar 7) daNil)))))
  (dSeq (dFor (diRange1 (daCons (dVar 1) daNil)) (gdName 11) t_k32_k)
  t_k32_wit))))
theorem k32_names {De : DEnds} {m : Nat} {ord : List Nat} {ws : List Str} {sh : List (Option Nat)} {t : Tr} {Ks : List (List Str)} {M : MS} {x0 x2 x3 x4 : Option DV} (A : Asked m ord ws sh t) (ck : CntOk m (freeS m) t Ks) (hK : Ks.length ≤ 1024) : ∀ (l : List Str) (x8 x9 x10 x11 x12 x13 x14 x15 x16 x17 : Option DV),
    (∀ y8 y9 y10 y11 y12 y13 y14 y15 y16 y17, De.nx [x0, some (.dat (.int ((m : Nat) : Int))), x2, x3, x4, some (.dat (encF t)), some (.dat (.tuple ((cntL m (freeS m) t Ks).map encPr))), some (.dat (encSheet sh)), y8, y9, y10, y11, y12, y13, y14, y15, y16, y17] M) →
    forD (gdName 8) t_k32_turn De none (l.map PyData.str) [x0, some (.dat (.int ((m : Nat) : Int))), x2, x3, x4, some (.dat (encF t)), some (.dat (.tuple ((cntL m (freeS m) t Ks).map encPr))), some (.dat (encSheet sh)), x8, x9, x10, x11, x12, x13, x14, x15, x16, x17] M
  | [], x8, x9, x10, x11, x12, x13, x14, x15, x16, x17, h => ⟨True.intro, h _ _ _ _ _ _ _ _ _ _⟩
  | x :: l, x8, x9, x10, x11, x12, x13, x14, x15, x16, x17, h => by
    have ml := A.ml
    have cl : (cntL m (freeS m) t Ks).length = Ks.length := List.length_map _
    refine ⟨True.intro, _, rfl, (cntL m (freeS m) t Ks).map encPr, rfl, ?_⟩
    refine two_gen (fa := fun p : List Str × Nat => encNames p.1) (fb := fun p => .int ((p.2 : Nat) : Int)) (p := fun p => decide (x ∈ p.1)) (f := fun p => .int ((p.2 : Nat) : Int)) (cntL m (freeS m) t Ks) [] (fun p hp K hK => ⟨_, rfl, _, rfl, in_names ⟨_, rfl, hK⟩⟩) (fun p hp hx K hK => ⟨_, rfl, hK⟩) (by rw [List.length_nil]; omega) ?_
    rw [List.nil_append]
    have e : ((cntL m (freeS m) t Ks).filter fun p => decide (x ∈ p.1)).map (fun p => PyData.int ((p.2 : Nat) : Int)) = ixs (((cntL m (freeS m) t Ks).filter fun p => decide (x ∈ p.1)).map (·.2)) := by unfold ixs; rw [List.map_map]; rfl
    rw [e]
    refine ⟨_, _, _, rfl, rfl, nz_ints _, ?_⟩
    rw [nz_sum, ck.sum fun ns => decide (x ∈ ns)]
    refine ⟨_, rfl, _, rfl, _, rfl, szb rfl, _, rfl, _, _, rfl, rfl, mul_none (by omega) ?_⟩
    refine daNil_run ?_
    refine A.free.count ⟨_, rfl, _, _, rfl, rfl, ne_same rfl ⟨_, rfl, if_f rfl ?_⟩⟩
    refine ⟨_, rfl, _, rfl, _, rfl, ?_⟩
    refine daNil_run ?_
    refine A.count ?_
    refine ⟨_, rfl, _, rfl, ⟨by omega, by omega⟩, ?_⟩
    show forD _ _ _ _ (rangeD 0 (((m : Nat) : Int).toNat)) _ _
    rw [Int.toNat_natCast, range_nat, List.range_eq_range']
    refine k32_ks A m 0 _ _ (by omega) fun y11 y12 => ?_
    refine k32_wit A fun y13 y14 y15 => ?_
    exact k32_names A ck hK l _ _ _ _ _ _ _ _ _ _ h
def t_law_k32 (C : Addr) : TDs := (dSeq (dAsg (dCall sp_L_made (daCons (dVar 0) (daCons (dC (.int 10)) daNil))) (gdTup 4 (gdCons (gdName 1) (gdCons (gdName 2) (gdCons (gdName 3) (gdCons (gdName 4) gdNil))))))
  (dSeq (dSet 5 (dCall (sp_folded C 12) (daCons (dVar 3) (daCons (dVar 4) daNil))))
  (dSeq (dSet 6 (dCall sp_counts (daCons (dVar 5) (daCons (dVar 1) daNil))))
  (dSeq (dIf (dB (dOp (opR neV2) (dCB sumP (daCons (dLc (diTup (dVar 6)) (.two 16 17) dYes (dVar 17)) daNil)) (dCB lenP (daCons (dCall sp_L_things (daCons (dVar 1) daNil)) daNil)))) (dRet (dC (.bool false))) dNext)
  (dSeq (dIf (dOr (dB (dOp (opV ltV2) (dCB minLP (daCons (dLc (diTup (dVar 6)) (.two 16 17) dYes (dVar 17)) daNil)) (dC (.int 1)))) (dB (dOp (opR neV2) (dCB sortedAP (daCons (dVar 6) daNil)) (dCB listP (daCons (dVar 6) daNil))))) (dRet (dC (.bool false))) dNext)
  (dSeq (dSet 7 (dCall sp_L_sheet (daCons (dCall sp_L_mixed (daCons (dVar 0) (daCons (dC (.int 5)) daNil))) (daCons (dVar 1) daNil))))
  (dSeq (dFor (diTup (dVar 2)) (gdName 8) t_k32_turn)
  (dRet (dC (.bool true))))))))))
theorem pr_nd (p : List Str × Nat) : noDict (encPr p) = true := by
  show noDict (.tuple [encNames p.1, _]) = true
  have h : noDict (encNames p.1) = true := by show noDict (.tuple _) = true; rw [noDict]; exact noDicts_strs _
  simp [noDict, noDicts, h]
theorem pr_alike (p q : List Str × Nat) : PySem.W.alike (encPr p) (encPr q) = true := by
  show PySem.W.alike (.tuple [encNames p.1, _]) (.tuple [encNames q.1, _]) = true
  rw [PySem.W.alike, PySem.W.alikeAll, names_alike, PySem.W.alikeAll]
  simp [PySem.W.alike, PySem.W.alikeAll]
theorem pr_depth (p : List Str × Nat) : (encPr p).depth ≤ 60 := by
  have := names_depth p.1
  show PyData.depth (.tuple [encNames p.1, _]) ≤ 60
  simp only [PyData.depth, PyData.depthAll]
  omega
theorem pl_pr {p : List Str × Nat} (h : StrsOk p.1) : Pl 3 (encPr p) := Pl.tup (n := 2) fun d hd => by
  simp only [List.mem_cons, List.not_mem_nil, or_false] at hd
  rcases hd with rfl | rfl
  · exact pl_names h
  · exact (pl_int _).le (by decide)
theorem rd_k32 (C : Addr) : ∀ ds M k, spLaw ds M k → t_law_k32 C (rtE k) (startD ["_law_script", "_law_many", "_law_words_here", "_law_key_here", "_law_order_here", "_law_fold", "_law_found", "_law_sheet_here", "_law_name", "_law_all_of_it", "_law_here", "_law_k", "_law_no", "_law_thing", "_law_part", "_law_value", "_law_names_here", "_law_number"] ds) M := by
  rintro _ M k ⟨ns, rfl, hn, rfl, h⟩
  refine ⟨_, rfl, ns, 10, rfl, by decide, by decide, fun m ws key ord hm hm10 hw hc hk hd ho => ?_⟩
  refine ⟨_, rfl, rfl, _, _, rfl, _, _, rfl, _, _, rfl, _, _, rfl, rfl, ?_⟩
  have nd := perm_nd ho
  have hl : ord.length ≤ 10 := by rw [perm_len ho]; omega
  have pp := ws_pool hw
  refine ⟨_, rfl, _, rfl, ord, key, rfl, nd, hl, key_in ho hc, by omega, fun one f1 => ?_⟩
  have g1 : Gt ord ws one := ⟨f1.ordd nd (key_in ho hc), f1.allL (names_in hw hk)⟩
  have A0 : Asked m ord ws (freeS m) one := ⟨hm10, ho, freeS_sheet m, ordd_lt ho g1.ord, (size_b g1.ord hl).1, g1.ord, allL_mono (fun _ q => (nmF_of hw q).1) g1.nm, few_key5 hw ho g1 f1.ans hd⟩
  refine ⟨_, rfl, _, rfl, ?_⟩
  refine daNil_run ?_
  refine A0.counts fun Ks ck => ?_
  have hK : Ks.length ≤ 1024 := Nat.le_trans (nodup_len Ks _ ck.nd fun x hx => (ck.mem x).mp hx) (ansA_len hm10)
  have cl : (cntL m (freeS m) one Ks).length = Ks.length := List.length_map _
  have pos : ∀ p, p ∈ cntL m (freeS m) one Ks → 1 ≤ p.2 := fun p hp => by
    obtain ⟨ms, h1, rfl⟩ := List.mem_map.mp hp
    exact List.count_pos_iff.mpr ((ck.mem ms).mp h1)
  have some1 : 0 < Ks.length := by
    obtain ⟨bs, b1, b2⟩ := agr_some (freeS_sheet m)
    exact List.length_pos_of_mem ((ck.mem _).mpr (mem_ansA.mpr ⟨bs, b1, b2, rfl⟩))
  have sok : ∀ p, p ∈ cntL m (freeS m) one Ks → StrsOk p.1 := fun p hp => by
    obtain ⟨ms, h1, rfl⟩ := List.mem_map.mp hp
    obtain ⟨bs, _, _, rfl⟩ := mem_ansA.mp ((ck.mem ms).mp h1)
    have n1 : Names ws (one.ans bs) := allL_ans g1.nm
    exact fun y hy => pp.ok y (n1.sub y hy)
  have comp : ∀ {kk : List PyData → MS → Prop} {ρ : Rho} {M : MS} (hρ : ρ.length = 18), kk (ixs ((cntL m (freeS m) one Ks).map (·.2))) M → compD (.two 16 17) dYes (dVar 17) ρ none ((cntL m (freeS m) one Ks).map encPr) [] M kk := fun {kk ρ M} hρ hk => by
    refine two_gen (fa := fun p : List Str × Nat => encNames p.1) (fb := fun p => .int ((p.2 : Nat) : Int)) (p := fun _ => true) (f := fun p => .int ((p.2 : Nat) : Int)) (cntL m (freeS m) one Ks) [] (fun p hp K hK => hK) (fun p hp hx K hK => ⟨_, List.getElem?_set_self ?_, hK⟩) (by rw [List.length_nil]; omega) ?_
    · show 17 < (((ρ.set 17 none).set 16 none).set 16 _).length
      rw [List.length_set, List.length_set, List.length_set, hρ]; decide
    · rw [List.nil_append, filter_all]
      have e : (cntL m (freeS m) one Ks).map (fun p => PyData.int ((p.2 : Nat) : Int)) = ixs ((cntL m (freeS m) one Ks).map (·.2)) := by unfold ixs; rw [List.map_map]; rfl
      rw [e]; exact hk
  have tot : ((cntL m (freeS m) one Ks).map (·.2)).sum = 2 ^ m := by
    have := ck.sum fun _ => true
    rw [filter_all, List.countP_true, ansA_all] at this
    exact this
  refine ⟨_, rfl, (cntL m (freeS m) one Ks).map encPr, rfl, comp rfl ?_⟩
  refine ⟨_, _, _, rfl, rfl, nz_ints _, ?_⟩
  rw [nz_sum, tot]
  refine ⟨_, rfl, m, rfl, hm, hm10, _, _, 2 ^ m, rfl, rfl, by show some (List.length _) = _; rw [List.length_map, allT_len], ?_⟩
  refine ⟨_, _, rfl, rfl, ne_same rfl ⟨_, rfl, if_f rfl ?_⟩⟩
  refine ⟨_, rfl, (cntL m (freeS m) one Ks).map encPr, rfl, comp rfl ?_⟩
  refine ⟨_, nz ((cntL m (freeS m) one Ks).map (·.2)), rfl, by show some (PyData.list (ixs _)) = _; rw [ixs_nz], by unfold nz; rw [List.length_map, List.length_map, cl]; exact some1, fun y hy _ => ?_⟩
  have hy1 : 1 ≤ y := by
    obtain ⟨n, hn1, rfl⟩ := List.mem_map.mp hy
    obtain ⟨p, hp, rfl⟩ := List.mem_map.mp hn1
    have := pos p hp
    omega
  refine ⟨_, _, rfl, rfl, ⟨_, rfl, if_f (decide_eq_false (by omega)) ?_⟩⟩
  refine ⟨_, rfl, _, _, (cntL m (freeS m) one Ks).map encPr, rfl, rfl, rfl, nds_of fun d hd => ?_, fun d hd e he => ?_, .inl fun d hd => ?_, by rw [List.length_map, cl]; exact szm (by omega), fun d hd => ?_, ?_⟩
  · obtain ⟨p, _, rfl⟩ := List.mem_map.mp hd; exact pr_nd p
  · obtain ⟨p, _, rfl⟩ := List.mem_map.mp hd
    obtain ⟨q, _, rfl⟩ := List.mem_map.mp he
    exact pr_alike p q
  · obtain ⟨p, _, rfl⟩ := List.mem_map.mp hd; exact ⟨_, _, rfl⟩
  · obtain ⟨p, _, rfl⟩ := List.mem_map.mp hd; exact pr_depth p
  rw [ck.sorted]
  have cmp : Cmp (.list ((cntL m (freeS m) one Ks).map encPr)) := (Pl.lst (n := 3) fun d hd => by
    obtain ⟨p, hp, rfl⟩ := List.mem_map.mp hd
    exact pl_pr (sok p hp)).cmp (by decide)
  refine ⟨_, rfl, _, _, _, rfl, rfl, rfl, _, _, rfl, rfl, Cmp.ne2 cmp cmp (fun _ => ⟨_, rfl, if_f rfl ?_⟩) fun z => absurd rfl z⟩
  refine ⟨_, rfl, ns, 5, rfl, _, rfl, _, m, rfl, by omega, fun sh hs => ?_⟩
  have A : Asked m ord ws sh one := ⟨A0.ml, A0.ho, hs, A0.hc, A0.hd, A0.od, A0.nm, A0.few⟩
  refine ⟨_, rfl, ws.map PyData.str, rfl, ?_⟩
  refine k32_names A ck hK ws _ _ _ _ _ _ _ _ _ _ fun y8 y9 y10 y11 y12 y13 y14 y15 y16 y17 => ?_
  exact rt_same h
end Ks

set_option maxHeartbeats 0
namespace Kh
open PySem PySem.Spec PyProof.Rows L2 Kf Ks
def top (i : Nat) : Stmt := PySem.Challenge.pw_keyfold_k32_whole_sums.main.body.getD i (.Pass ⟨0, 0, 0, 0⟩)
abbrev s_is_leaf : Stmt := top 1
abbrev s_left_from : Stmt := top 2
abbrev s_leaves_from : Stmt := top 4
abbrev s_leaves : Stmt := top 5
abbrev s_possible : Stmt := top 6
abbrev s_shares_of : Stmt := top 7
abbrev s_counts : Stmt := top 8
abbrev s_count_name : Stmt := top 9
abbrev s_witness : Stmt := top 10
abbrev s_answer_of : Stmt := top 12
abbrev s_m_init : Stmt := inClass (top 14) 0
abbrev s_m_lay : Stmt := inClass (top 14) 1
abbrev s_m_leaf : Stmt := inClass (top 14) 2
abbrev s_m_node : Stmt := inClass (top 14) 3
abbrev s_m_fold : Stmt := inClass (top 14) 4
abbrev s_m_rank : Stmt := inClass (top 14) 5
abbrev s_goals_at : Stmt := top 15
abbrev s_switched_from : Stmt := top 17
abbrev s_copied : Stmt := top 18
abbrev s_switched : Stmt := top 19
abbrev s_folded : Stmt := top 20
abbrev s_L_cell_at : Stmt := top 22
abbrev s_L_mixed : Stmt := top 23
abbrev s_L_drawn : Stmt := top 24
abbrev s_L_words : Stmt := top 25
abbrev s_L_names : Stmt := top 26
abbrev s_L_key : Stmt := top 27
abbrev s_L_order : Stmt := top 28
abbrev s_L_sheet : Stmt := top 29
abbrev s_L_things : Stmt := top 30
abbrev s_L_answer : Stmt := top 31
abbrev s_L_made : Stmt := top 32
abbrev s_law : Stmt := top 33
def d_is_leaf : He.DefD := ⟨("is_leaf", none), "is_leaf", "is_leaf", defArgs s_is_leaf, defBody s_is_leaf, defScope s_is_leaf, [], []⟩
def d_left_from : He.DefD := ⟨("left_from", none), "left_from", "left_from", defArgs s_left_from, defBody s_left_from, defScope s_left_from, [], []⟩
def d_leaves_from : He.DefD := ⟨("leaves_from", none), "leaves_from", "leaves_from", defArgs s_leaves_from, defBody s_leaves_from, defScope s_leaves_from, [], []⟩
def d_leaves : He.DefD := ⟨("leaves", none), "leaves", "leaves", defArgs s_leaves, defBody s_leaves, defScope s_leaves, [], []⟩
def d_possible : He.DefD := ⟨("possible", none), "possible", "possible", defArgs s_possible, defBody s_possible, defScope s_possible, [], []⟩
def d_shares_of : He.DefD := ⟨("shares_of", none), "shares_of", "shares_of", defArgs s_shares_of, defBody s_shares_of, defScope s_shares_of, [], []⟩
def d_counts : He.DefD := ⟨("counts", none), "counts", "counts", defArgs s_counts, defBody s_counts, defScope s_counts, [], []⟩
def d_count_name : He.DefD := ⟨("count_name", none), "count_name", "count_name", defArgs s_count_name, defBody s_count_name, defScope s_count_name, [], []⟩
def d_witness : He.DefD := ⟨("witness", none), "witness", "witness", defArgs s_witness, defBody s_witness, defScope s_witness, [], []⟩
def d_answer_of : He.DefD := ⟨("answer_of", none), "answer_of", "answer_of", defArgs s_answer_of, defBody s_answer_of, defScope s_answer_of, [], []⟩
def d_m_init : He.DefD := ⟨("Rows", some "__init__"), "__init__", "Rows.__init__", defArgs s_m_init, defBody s_m_init, defScope s_m_init, [], []⟩
def d_m_lay : He.DefD := ⟨("Rows", some "lay"), "lay", "Rows.lay", defArgs s_m_lay, defBody s_m_lay, defScope s_m_lay, [], []⟩
def d_m_leaf : He.DefD := ⟨("Rows", some "leaf"), "leaf", "Rows.leaf", defArgs s_m_leaf, defBody s_m_leaf, defScope s_m_leaf, [], []⟩
def d_m_node : He.DefD := ⟨("Rows", some "node"), "node", "Rows.node", defArgs s_m_node, defBody s_m_node, defScope s_m_node, [], []⟩
def d_m_fold : He.DefD := ⟨("Rows", some "fold"), "fold", "Rows.fold", defArgs s_m_fold, defBody s_m_fold, defScope s_m_fold, [], []⟩
def d_m_rank : He.DefD := ⟨("Rows", some "rank"), "rank", "Rows.rank", defArgs s_m_rank, defBody s_m_rank, defScope s_m_rank, [], []⟩
def d_goals_at : He.DefD := ⟨("goals_at", none), "goals_at", "goals_at", defArgs s_goals_at, defBody s_goals_at, defScope s_goals_at, [], []⟩
def d_switched_from : He.DefD := ⟨("switched_from", none), "switched_from", "switched_from", defArgs s_switched_from, defBody s_switched_from, defScope s_switched_from, [], []⟩
def d_copied : He.DefD := ⟨("copied", none), "copied", "copied", defArgs s_copied, defBody s_copied, defScope s_copied, [], []⟩
def d_switched : He.DefD := ⟨("switched", none), "switched", "switched", defArgs s_switched, defBody s_switched, defScope s_switched, [], []⟩
def d_folded : He.DefD := ⟨("folded", none), "folded", "folded", defArgs s_folded, defBody s_folded, defScope s_folded, [], []⟩
def d_L_cell_at : He.DefD := ⟨("_law_cell_at", none), "_law_cell_at", "_law_cell_at", defArgs s_L_cell_at, defBody s_L_cell_at, defScope s_L_cell_at, [], []⟩
def d_L_mixed : He.DefD := ⟨("_law_mixed", none), "_law_mixed", "_law_mixed", defArgs s_L_mixed, defBody s_L_mixed, defScope s_L_mixed, [], []⟩
def d_L_drawn : He.DefD := ⟨("_law_drawn", none), "_law_drawn", "_law_drawn", defArgs s_L_drawn, defBody s_L_drawn, defScope s_L_drawn, [], []⟩
def d_L_words : He.DefD := ⟨("_law_words", none), "_law_words", "_law_words", defArgs s_L_words, defBody s_L_words, defScope s_L_words, [], []⟩
def d_L_names : He.DefD := ⟨("_law_names", none), "_law_names", "_law_names", defArgs s_L_names, defBody s_L_names, defScope s_L_names, [], []⟩
def d_L_key : He.DefD := ⟨("_law_key", none), "_law_key", "_law_key", defArgs s_L_key, defBody s_L_key, defScope s_L_key, [], []⟩
def d_L_order : He.DefD := ⟨("_law_order", none), "_law_order", "_law_order", defArgs s_L_order, defBody s_L_order, defScope s_L_order, [], []⟩
def d_L_sheet : He.DefD := ⟨("_law_sheet", none), "_law_sheet", "_law_sheet", defArgs s_L_sheet, defBody s_L_sheet, defScope s_L_sheet, [], []⟩
def d_L_things : He.DefD := ⟨("_law_things", none), "_law_things", "_law_things", defArgs s_L_things, defBody s_L_things, defScope s_L_things, [], []⟩
def d_L_answer : He.DefD := ⟨("_law_answer", none), "_law_answer", "_law_answer", defArgs s_L_answer, defBody s_L_answer, defScope s_L_answer, [], []⟩
def d_L_made : He.DefD := ⟨("_law_made", none), "_law_made", "_law_made", defArgs s_L_made, defBody s_L_made, defScope s_L_made, [], []⟩
def d_law : He.DefD := ⟨("law", none), "law", "law", defArgs s_law, defBody s_law, defScope s_law, [], []⟩
def fns : List He.DefD := [d_is_leaf, d_left_from, d_leaves_from, d_leaves, d_possible, d_shares_of, d_counts, d_count_name, d_witness, d_answer_of, d_m_init, d_m_lay, d_m_leaf, d_m_node, d_m_fold, d_m_rank, d_goals_at, d_switched_from, d_copied, d_switched, d_folded, d_L_cell_at, d_L_mixed, d_L_drawn, d_L_words, d_L_names, d_L_key, d_L_order, d_L_sheet, d_L_things, d_L_answer, d_L_made, d_law]
def fas : List He.Fa := [.glo "is_leaf", .glo "left_from", .glo "leaves_from", .glo "leaves", .glo "possible", .glo "shares_of", .glo "counts", .glo "count_name", .glo "witness", .glo "answer_of", .glo "goals_at", .glo "switched_from", .glo "copied", .glo "switched", .glo "folded", .glo "_law_cell_at", .glo "_law_mixed", .glo "_law_drawn", .glo "_law_words", .glo "_law_names", .glo "_law_key", .glo "_law_order", .glo "_law_sheet", .glo "_law_things", .glo "_law_answer", .glo "_law_made", .glo "law", .glo "Rows", .cls "Rows", .mkr "Rows", .noat "Rows" "order", .noat "Rows" "laid", .noat "Rows" "known", .meth "Rows" "lay", .meth "Rows" "leaf", .meth "Rows" "node", .meth "Rows" "fold", .meth "Rows" "rank", .free "enumerate", .free "int", .free "len", .free "list", .free "min", .free "range", .free "set", .free "sorted", .free "sum", .free "tuple", .free "zip"]
def names1 : List PySem.Str := ["is_leaf", "left_from", "leaves_from", "leaves", "possible", "shares_of", "counts", "count_name", "witness", "answer_of", "Rows", "goals_at", "switched_from", "copied", "switched", "folded", "_law_cell_at", "_law_mixed", "_law_drawn", "_law_words", "_law_names", "_law_key", "_law_order", "_law_sheet", "_law_things", "_law_answer", "_law_made"]
def names2 : List PySem.Str := []
def names : List PySem.Str := names1 ++ names2
abbrev R : PySem.W.OpenRow := PySem.W.OpenLaw.row PySem.Challenge.rw_keyfold_k32_whole_sums
abbrev hk : PySem.W.Hook := He.hookD 5 fas fns
def ob (s : PySem.W.SharedT) : He.AlD := He.obsDG 5 fas fns (HandSHeadRun.getT s)
theorem ob_eq (s : PySem.W.SharedT) : ob s = hk.obs s.abs := He.obsDG_eq (HandSHeadRun.getT_eq s)
theorem run (w : World) : HandSHeadRun.RunEq R (PySem.W.view R.prog [33]) hk ob 3000 names w := by
  intro os
  kernel_rfl
section
variable {P : Program} {w : World} {K : PySem.W.Frag} {mg : Str → Option Value} {base : Heap} {f : Addr} {fd : FuncData} {C : Addr}
theorem sc_L_drawn : FnScope ["_law_number", "_law_k", "_law_drawn_here"] ["_law_number", "_law_k"] (defScope s_L_drawn) := ⟨rfl, rfl, rfl, by decide +kernel, rfl, by decide +kernel, by decide +kernel⟩
theorem ok_L_drawn (F : FunD K "_law_drawn" "_law_drawn" (defArgs s_L_drawn) (defBody s_L_drawn) (defScope s_L_drawn) [] [] f fd)  : FnOk P w K mg base CX0 1 f fd ["_law_number", "_law_k"] (liftP K P w sp_L_drawn) :=
  fn_okD (N := ["_law_number", "_law_k", "_law_drawn_here"]) F sc_L_drawn (by intro ds M k h; repeat (first | (rcases h with ⟨rfl, _⟩; rfl) | (rcases h with ⟨_, h⟩))) (fun cdv A outer s H E hr => (qss_cons (qs_set (i := 2) sc_L_drawn.nd rfl (by first | exact Or.inl rfl | exact Or.inr rfl) (q_op qmodI (q_op qmul (q_op qadd (q_op qadd (qv 0) (q_op qmul q_int (qv 1))) q_int) q_int) q_int))
  (qss_one (qs_ret (q_op qmodI (q_op qadd (q_op qadd (q_op qmul (qv 2) (qv 2)) (q_op qmul q_int (qv 2))) (qv 1)) q_int))))) rd_L_drawn
theorem sc_L_names : FnScope ["_law_number", "_law_words_here", "_law_k", "_law_word"] ["_law_number", "_law_words_here"] (defScope s_L_names) := ⟨rfl, rfl, rfl, by decide +kernel, rfl, by decide +kernel, by decide +kernel⟩
theorem ok_L_names (F : FunD K "_law_names" "_law_names" (defArgs s_L_names) (defBody s_L_names) (defScope s_L_names) [] [] f fd) (z_enumerate : mg "enumerate" = none) (z_tuple : mg "tuple" = none) : FnOk P w K mg base CX0 1 f fd ["_law_number", "_law_words_here"] (liftP K P w sp_L_names) :=
  fn_okD (N := ["_law_number", "_law_words_here", "_law_k", "_law_word"]) F sc_L_names (by intro ds M k h; repeat (first | (rcases h with ⟨rfl, _⟩; rfl) | (rcases h with ⟨_, h⟩))) (fun cdv A outer s H E hr => (qss_one (qs_ret (q_callTy qtuple (by rfl) z_tuple (by decide +kernel) (qa_cons (q_lc2 sc_L_names.nd (qi_enumT (by rfl) z_enumerate (qa_cons (qv 1) qa_nil)) (blkOk_by (own := [("_law_k", 2), ("_law_word", 3)]) (N := ["_law_number", "_law_words_here", "_law_k", "_law_word"]) (sc := defScope s_L_names) (by decide +kernel)) (fun _ _ _ _ _ => pg_tup rfl (pgs_cons (pg_name (i := 2) sc_L_names.nd rfl (Or.inl rfl)) (pgs_cons (pg_name (i := 3) sc_L_names.nd rfl (Or.inl rfl)) pgs_nil))) (fun _ _ _ _ _ => QT.blk (qt_cmp (qeq (u64 hr)) (q_op qmodI (q_op qdivI (qv 0) (q_op qadd (q_op qmul q_int (qv 2)) q_int)) q_int) q_int)) (fun _ _ _ _ _ => QE.blk (qv 3))) qa_nil))))) rd_L_names
theorem sc_L_key : FnScope ["_law_number", "_law_words_here", "_law_many", "_law_deep", "_law_no", "_law_yes"] ["_law_number", "_law_words_here", "_law_many", "_law_deep"] (defScope s_L_key) := ⟨rfl, rfl, rfl, by decide +kernel, rfl, by decide +kernel, by decide +kernel⟩
theorem ok_L_key (F : FunD K "_law_key" "_law_key" (defArgs s_L_key) (defBody s_L_key) (defScope s_L_key) [] [] f fd) (h_L_drawn : Has P w K mg base "_law_drawn" 1 ["_law_number", "_law_k"] sp_L_drawn) (h_L_names : Has P w K mg base "_law_names" 1 ["_law_number", "_law_words_here"] sp_L_names) (gF : mg "_law_key" = some (.ref f)) (bF : Binds K fd ["_law_number", "_law_words_here", "_law_many", "_law_deep"] []) (n : Nat) : FnOk P w K mg base CX0 (1 + n + 1) f fd ["_law_number", "_law_words_here", "_law_many", "_law_deep"] (liftP K P w (sp_L_key n)) := by
  have body : ∀ n, FnOk P w K mg base CX0 (1 + n) f fd ["_law_number", "_law_words_here", "_law_many", "_law_deep"] (liftP K P w (spPrev sp_L_key n)) → FnOk P w K mg base CX0 (1 + n + 1) f fd ["_law_number", "_law_words_here", "_law_many", "_law_deep"] (liftP K P w (sp_L_key n)) := fun n G0 => by
    have h_self : Has P w K mg base "_law_key" (1 + n) ["_law_number", "_law_words_here", "_law_many", "_law_deep"] (spPrev sp_L_key n) := ⟨f, fd, G0, gF, F.kp, bF⟩
    exact fn_okD (N := ["_law_number", "_law_words_here", "_law_many", "_law_deep", "_law_no", "_law_yes"]) F sc_L_key (by intro ds M k h; repeat (first | (rcases h with ⟨rfl, _⟩; rfl) | (rcases h with ⟨_, h⟩))) (fun cdv A outer s H E hr => (qss_cons (qs_if (QW.qt (qw_or (qt_cmp (qeq (u64 hr)) (qv 3) q_int) (qw_or1 (qt_cmp (qeq (u64 hr)) (q_op qmodI (qv 0) q_int) q_int)))) (qss_one (qs_ret (q_tup (qa_cons q_str (qa_cons (q_callH h_L_names (hr.mono (by omega)) (by rfl) (qa_cons (q_op qdivI (qv 0) q_int) (qa_cons (qv 1) qa_nil))) qa_nil))))) qss_nil)
  (qss_cons (qs_set (i := 4) sc_L_key.nd rfl (by first | exact Or.inl rfl | exact Or.inr rfl) (q_callH h_self hr (by rfl) (qa_cons (q_callH h_L_drawn (hr.mono (by omega)) (by rfl) (qa_cons (qv 0) (qa_cons q_int qa_nil))) (qa_cons (qv 1) (qa_cons (qv 2) (qa_cons (q_op qsub (qv 3) q_int) qa_nil))))))
  (qss_cons (qs_set (i := 5) sc_L_key.nd rfl (by first | exact Or.inl rfl | exact Or.inr rfl) (q_callH h_self hr (by rfl) (qa_cons (q_callH h_L_drawn (hr.mono (by omega)) (by rfl) (qa_cons (qv 0) (qa_cons q_int qa_nil))) (qa_cons (qv 1) (qa_cons (qv 2) (qa_cons (q_op qsub (qv 3) q_int) qa_nil))))))
  (qss_one (qs_ret (q_tup (qa_cons q_str (qa_cons (q_op qmodI (q_op qdivI (qv 0) q_int) (qv 2)) (qa_cons (qv 4) (qa_cons (qv 5) qa_nil))))))))))) (rd_L_key n)
  induction n with
  | zero => exact body 0 fn_no
  | succ n ih => exact body (n + 1) ih
theorem sc_L_cell_at : FnScope ["_law_script", "_law_k"] ["_law_script", "_law_k"] (defScope s_L_cell_at) := ⟨rfl, rfl, rfl, by decide +kernel, rfl, by decide +kernel, by decide +kernel⟩
theorem ok_L_cell_at (F : FunD K "_law_cell_at" "_law_cell_at" (defArgs s_L_cell_at) (defBody s_L_cell_at) (defScope s_L_cell_at) [] [] f fd) (z_len : mg "len" = none) : FnOk P w K mg base CX0 1 f fd ["_law_script", "_law_k"] (liftP K P w sp_L_cell) :=
  fn_okD (N := ["_law_script", "_law_k"]) F sc_L_cell_at (by intro ds M k h; repeat (first | (rcases h with ⟨rfl, _⟩; rfl) | (rcases h with ⟨_, h⟩))) (fun cdv A outer s H E hr => (qss_cons (qs_if (qt_cmp qlt (qv 1) (q_callB qlen (by rfl) z_len (by decide +kernel) (qa_cons (qv 0) qa_nil))) (qss_one (qs_ret (q_ix qixScr (qv 0) (qv 1)))) qss_nil)
  (qss_one (qs_ret q_int)))) rd_L_cell
theorem sc_L_mixed : FnScope ["_law_script", "_law_k", "_law_drawn_here"] ["_law_script", "_law_k"] (defScope s_L_mixed) := ⟨rfl, rfl, rfl, by decide +kernel, rfl, by decide +kernel, by decide +kernel⟩
theorem ok_L_mixed (F : FunD K "_law_mixed" "_law_mixed" (defArgs s_L_mixed) (defBody s_L_mixed) (defScope s_L_mixed) [] [] f fd) (h_L_cell_at : Has P w K mg base "_law_cell_at" 1 ["_law_script", "_law_k"] sp_L_cell) : FnOk P w K mg base CX0 2 f fd ["_law_script", "_law_k"] (liftP K P w sp_L_mixed) :=
  fn_okD (N := ["_law_script", "_law_k", "_law_drawn_here"]) F sc_L_mixed (by intro ds M k h; repeat (first | (rcases h with ⟨rfl, _⟩; rfl) | (rcases h with ⟨_, h⟩))) (fun cdv A outer s H E hr => (qss_cons (qs_set (i := 2) sc_L_mixed.nd rfl (by first | exact Or.inl rfl | exact Or.inr rfl) (q_op qmodI (q_op qmul (q_op qadd (q_op qadd (q_callH h_L_cell_at (hr.mono (by omega)) (by rfl) (qa_cons (qv 0) (qa_cons (qv 1) qa_nil))) (q_op qmul q_int (qv 1))) q_int) q_int) q_int))
  (qss_one (qs_ret (q_op qmodI (q_op qadd (q_op qadd (q_op qmul (qv 2) (qv 2)) (q_op qmul q_int (qv 2))) (qv 1)) q_int))))) rd_L_mixed
theorem sc_L_order : FnScope ["_law_number", "_law_many", "_law_found", "_law_k", "_law_at"] ["_law_number", "_law_many"] (defScope s_L_order) := ⟨rfl, rfl, rfl, by decide +kernel, rfl, by decide +kernel, by decide +kernel⟩
theorem ok_L_order (F : FunD K "_law_order" "_law_order" (defArgs s_L_order) (defBody s_L_order) (defScope s_L_order) [] [] f fd) (h_L_drawn : Has P w K mg base "_law_drawn" 1 ["_law_number", "_law_k"] sp_L_drawn) (z_len : mg "len" = none) (z_range : mg "range" = none) (z_tuple : mg "tuple" = none) : FnOk P w K mg base CX0 2 f fd ["_law_number", "_law_many"] (liftP K P w sp_L_order) :=
  fn_okD (N := ["_law_number", "_law_many", "_law_found", "_law_k", "_law_at"]) F sc_L_order (by intro ds M k h; repeat (first | (rcases h with ⟨rfl, _⟩; rfl) | (rcases h with ⟨_, h⟩))) (fun cdv A outer s H E hr => (qss_cons (qs_set (i := 2) sc_L_order.nd rfl (by first | exact Or.inl rfl | exact Or.inr rfl) (q_lst qa_nil))
  (qss_cons (qs_for (qi_range1 (by rfl) z_range (qa_cons (qv 1) qa_nil)) (qg_name (i := 3) sc_L_order.nd rfl (by first | exact Or.inl rfl | exact Or.inr rfl)) (qss_cons (qs_set (i := 4) sc_L_order.nd rfl (by first | exact Or.inl rfl | exact Or.inr rfl) (q_op qmodI (q_callH h_L_drawn (hr.mono (by omega)) (by rfl) (qa_cons (qv 0) (qa_cons (qv 3) qa_nil))) (q_op qadd (q_callB qlen (by rfl) z_len (by decide +kernel) (qa_cons (qv 2) qa_nil)) q_int)))
  (qss_one (qs_set (i := 2) sc_L_order.nd rfl (by first | exact Or.inl rfl | exact Or.inr rfl) (q_op qadd (q_op qadd (q_slice (qv 2) qo_none (qo_some (qv 4))) (q_lst (qa_cons (qv 3) qa_nil))) (q_slice (qv 2) (qo_some (qv 4)) qo_none))))))
  (qss_one (qs_ret (q_callTy qtupOrd (by rfl) z_tuple (by decide +kernel) (qa_cons (qv 2) qa_nil))))))) rd_L_order
theorem sc_L_words : FnScope ["_law_number", "_law_letters", "_law_found", "_law_k", "_law_drawn_here", "_law_word", "_law_at"] ["_law_number"] (defScope s_L_words) := ⟨rfl, rfl, rfl, by decide +kernel, rfl, by decide +kernel, by decide +kernel⟩
theorem ok_L_words (F : FunD K "_law_words" "_law_words" (defArgs s_L_words) (defBody s_L_words) (defScope s_L_words) [] [] f fd) (h_L_drawn : Has P w K mg base "_law_drawn" 1 ["_law_number", "_law_k"] sp_L_drawn) (z_int : mg "int" = none) (z_range : mg "range" = none) (z_sorted : mg "sorted" = none) (z_tuple : mg "tuple" = none) : FnOk P w K mg base CX0 2 f fd ["_law_number"] (liftP K P w sp_L_words) :=
  fn_okD (N := ["_law_number", "_law_letters", "_law_found", "_law_k", "_law_drawn_here", "_law_word", "_law_at"]) F sc_L_words (by intro ds M k h; repeat (first | (rcases h with ⟨rfl, _⟩; rfl) | (rcases h with ⟨_, h⟩))) (fun cdv A outer s H E hr => (qss_cons (qs_set (i := 1) sc_L_words.nd rfl (by first | exact Or.inl rfl | exact Or.inr rfl) q_str)
  (qss_cons (qs_set (i := 2) sc_L_words.nd rfl (by first | exact Or.inl rfl | exact Or.inr rfl) q_dicV)
  (qss_cons (qs_for (qi_range1 (by rfl) z_range (qa_cons q_int qa_nil)) (qg_name (i := 3) sc_L_words.nd rfl (by first | exact Or.inl rfl | exact Or.inr rfl)) (qss_cons (qs_set (i := 4) sc_L_words.nd rfl (by first | exact Or.inl rfl | exact Or.inr rfl) (q_callH h_L_drawn (hr.mono (by omega)) (by rfl) (qa_cons (qv 0) (qa_cons (qv 3) qa_nil))))
  (qss_cons (qs_set (i := 5) sc_L_words.nd rfl (by first | exact Or.inl rfl | exact Or.inr rfl) (q_ix qix (qv 1) (q_op qmodI (qv 4) q_int)))
  (qss_cons (qs_for (qi_range1 (by rfl) z_range (qa_cons (q_op qmul (q_op qmodI (q_op qdivI (qv 4) q_int) q_int) (q_op qmodI (qv 0) q_int)) qa_nil)) (qg_name (i := 6) sc_L_words.nd rfl (by first | exact Or.inl rfl | exact Or.inr rfl)) (qss_one (qs_set (i := 5) sc_L_words.nd rfl (by first | exact Or.inl rfl | exact Or.inr rfl) (q_op qadd (qv 5) (q_ix qix (qv 1) (q_op qmodI (q_op qdivI (qv 4) (q_op qadd (q_op qmul q_int (qv 6)) q_int)) q_int))))))
  (qss_one (qs_putV (u1 hr) (qv 2) (q_op qadd (qv 5) (q_op qmul q_str (q_callTy qint1 (by rfl) z_int (by decide +kernel) (qa_cons (q_cmp (qin (u65 hr)) (qv 5) (q_tup (qa_cons q_str (qa_cons q_str (qa_cons q_str qa_nil))))) qa_nil)))) q_bl))))))
  (qss_one (qs_ret (q_callTy qtuple (by rfl) z_tuple (by decide +kernel) (qa_cons (q_callB (qsortedD rfl) (by rfl) z_sorted (by decide +kernel) (qa_cons (qv 2) qa_nil)) qa_nil)))))))) rd_L_words
theorem sc_L_made : FnScope ["_law_script", "_law_most", "_law_many", "_law_words_here", "_law_key_here"] ["_law_script", "_law_most"] (defScope s_L_made) := ⟨rfl, rfl, rfl, by decide +kernel, rfl, by decide +kernel, by decide +kernel⟩
theorem ok_L_made (F : FunD K "_law_made" "_law_made" (defArgs s_L_made) (defBody s_L_made) (defScope s_L_made) [] [] f fd) (h_L_key : Has P w K mg base "_law_key" 7 ["_law_number", "_law_words_here", "_law_many", "_law_deep"] (sp_L_key 5)) (h_L_mixed : Has P w K mg base "_law_mixed" 2 ["_law_script", "_law_k"] sp_L_mixed) (h_L_order : Has P w K mg base "_law_order" 2 ["_law_number", "_law_many"] sp_L_order) (h_L_words : Has P w K mg base "_law_words" 2 ["_law_number"] sp_L_words) : FnOk P w K mg base CX0 8 f fd ["_law_script", "_law_most"] (liftP K P w sp_L_made) :=
  fn_okD (N := ["_law_script", "_law_most", "_law_many", "_law_words_here", "_law_key_here"]) F sc_L_made (by intro ds M k h; repeat (first | (rcases h with ⟨rfl, _⟩; rfl) | (rcases h with ⟨_, h⟩))) (fun cdv A outer s H E hr => (qss_cons (qs_set (i := 2) sc_L_made.nd rfl (by first | exact Or.inl rfl | exact Or.inr rfl) (q_op qadd q_int (q_op qmodI (q_callH h_L_mixed (hr.mono (by omega)) (by rfl) (qa_cons (qv 0) (qa_cons q_int qa_nil))) (qv 1))))
  (qss_cons (qs_set (i := 3) sc_L_made.nd rfl (by first | exact Or.inl rfl | exact Or.inr rfl) (q_callH h_L_words (hr.mono (by omega)) (by rfl) (qa_cons (q_callH h_L_mixed (hr.mono (by omega)) (by rfl) (qa_cons (qv 0) (qa_cons q_int qa_nil))) qa_nil)))
  (qss_cons (qs_set (i := 4) sc_L_made.nd rfl (by first | exact Or.inl rfl | exact Or.inr rfl) (q_callH h_L_key (hr.mono (by omega)) (by rfl) (qa_cons (q_callH h_L_mixed (hr.mono (by omega)) (by rfl) (qa_cons (qv 0) (qa_cons q_int qa_nil))) (qa_cons (qv 3) (qa_cons (qv 2) (qa_cons (q_op qadd q_int (q_op qmodI (q_callH h_L_mixed (hr.mono (by omega)) (by rfl) (qa_cons (qv 0) (qa_cons q_int qa_nil))) q_int)) qa_nil))))))
  (qss_one (qs_ret (q_tup (qa_cons (qv 2) (qa_cons (qv 3) (qa_cons (qv 4) (qa_cons (q_callH h_L_order (hr.mono (by omega)) (by rfl) (qa_cons (q_callH h_L_mixed (hr.mono (by omega)) (by rfl) (qa_cons (qv 0) (qa_cons q_int qa_nil))) (qa_cons (qv 2) qa_nil))) qa_nil))))))))))) rd_L_made
theorem sc_L_sheet : FnScope ["_law_number", "_law_many", "_law_k"] ["_law_number", "_law_many"] (defScope s_L_sheet) := ⟨rfl, rfl, rfl, by decide +kernel, rfl, by decide +kernel, by decide +kernel⟩
theorem ok_L_sheet (F : FunD K "_law_sheet" "_law_sheet" (defArgs s_L_sheet) (defBody s_L_sheet) (defScope s_L_sheet) [] [] f fd) (h_L_drawn : Has P w K mg base "_law_drawn" 1 ["_law_number", "_law_k"] sp_L_drawn) (z_range : mg "range" = none) (z_tuple : mg "tuple" = none) : FnOk P w K mg base CX0 2 f fd ["_law_number", "_law_many"] (liftP K P w sp_L_sheet) :=
  fn_okD (N := ["_law_number", "_law_many", "_law_k"]) F sc_L_sheet (by intro ds M k h; repeat (first | (rcases h with ⟨rfl, _⟩; rfl) | (rcases h with ⟨_, h⟩))) (fun cdv A outer s H E hr => (qss_one (qs_ret (q_callTy qtuple (by rfl) z_tuple (by decide +kernel) (qa_cons (q_lc1 sc_L_sheet.nd (qi_range1 (by rfl) z_range (qa_cons (qv 1) qa_nil)) (blkOk_by (own := [("_law_k", 2)]) (N := ["_law_number", "_law_many", "_law_k"]) (sc := defScope s_L_sheet) (by decide +kernel)) (fun _ _ _ _ _ => pg_name (i := 2) sc_L_sheet.nd rfl (by first | exact Or.inl rfl | exact Or.inr rfl)) (fun _ _ _ _ _ => no_blk) (fun _ _ _ _ _ => QE.blk (q_ix qix (q_tup (qa_cons q_non (qa_cons q_int (qa_cons q_int (qa_cons q_non qa_nil))))) (q_op qmodI (q_callH h_L_drawn (hr.mono (by omega)) (by rfl) (qa_cons (qv 0) (qa_cons (qv 2) qa_nil))) q_int)))) qa_nil))))) rd_L_sheet
theorem sc_L_things : FnScope ["_law_many", "_law_found", "_law_k", "_law_thing"] ["_law_many"] (defScope s_L_things) := ⟨rfl, rfl, rfl, by decide +kernel, rfl, by decide +kernel, by decide +kernel⟩
theorem ok_L_things (F : FunD K "_law_things" "_law_things" (defArgs s_L_things) (defBody s_L_things) (defScope s_L_things) [] [] f fd) (z_range : mg "range" = none) (z_sorted : mg "sorted" = none) : FnOk P w K mg base CX0 1 f fd ["_law_many"] (liftP K P w sp_L_things) :=
  fn_okD (N := ["_law_many", "_law_found", "_law_k", "_law_thing"]) F sc_L_things (by intro ds M k h; repeat (first | (rcases h with ⟨rfl, _⟩; rfl) | (rcases h with ⟨_, h⟩))) (fun cdv A outer s H E hr => (qss_cons (qs_set (i := 1) sc_L_things.nd rfl (by first | exact Or.inl rfl | exact Or.inr rfl) (q_lst (qa_cons (q_tup qa_nil) qa_nil)))
  (qss_cons (qs_for (qi_range1 (by rfl) z_range (qa_cons (qv 0) qa_nil)) (qg_name (i := 2) sc_L_things.nd rfl (by first | exact Or.inl rfl | exact Or.inr rfl)) (qss_one (qs_set (i := 1) sc_L_things.nd rfl (by first | exact Or.inl rfl | exact Or.inr rfl) (q_op qadd (q_lc1 sc_L_things.nd (qi_list (qv 1)) (blkOk_by (own := [("_law_thing", 3)]) (N := ["_law_many", "_law_found", "_law_k", "_law_thing"]) (sc := defScope s_L_things) (by decide +kernel)) (fun _ _ _ _ _ => pg_name (i := 3) sc_L_things.nd rfl (by first | exact Or.inl rfl | exact Or.inr rfl)) (fun _ _ _ _ _ => no_blk) (fun _ _ _ _ _ => QE.blk (q_op qadd (qv 3) (q_tup (qa_cons q_int qa_nil))))) (q_lc1 sc_L_things.nd (qi_list (qv 1)) (blkOk_by (own := [("_law_thing", 3)]) (N := ["_law_many", "_law_found", "_law_k", "_law_thing"]) (sc := defScope s_L_things) (by decide +kernel)) (fun _ _ _ _ _ => pg_name (i := 3) sc_L_things.nd rfl (by first | exact Or.inl rfl | exact Or.inr rfl)) (fun _ _ _ _ _ => no_blk) (fun _ _ _ _ _ => QE.blk (q_op qadd (qv 3) (q_tup (qa_cons q_int qa_nil)))))))))
  (qss_one (qs_ret (q_callB (qsorted (u64 hr)) (by rfl) z_sorted (by decide +kernel) (qa_cons (qv 1) qa_nil))))))) rd_L_things
theorem sc_is_leaf : FnScope ["row"] ["row"] (defScope s_is_leaf) := ⟨rfl, rfl, rfl, by decide +kernel, rfl, by decide +kernel, by decide +kernel⟩
theorem ok_is_leaf (F : FunD K "is_leaf" "is_leaf" (defArgs s_is_leaf) (defBody s_is_leaf) (defScope s_is_leaf) [] [] f fd)  : FnOk P w K mg base CX0 1 f fd ["row"] (liftP K P w sp_is_leaf) :=
  fn_okD (N := ["row"]) F sc_is_leaf (by intro ds M k h; repeat (first | (rcases h with ⟨rfl, _⟩; rfl) | (rcases h with ⟨_, h⟩))) (fun cdv A outer s H E hr => (qss_one (qs_ret (q_cmp (qeq (u64 hr)) (q_ix qix (qv 0) q_int) q_str)))) rd_is_leaf
theorem sc_answer_of : FnScope ["fold", "thing", "row"] ["fold", "thing"] (defScope s_answer_of) := ⟨rfl, rfl, rfl, by decide +kernel, rfl, by decide +kernel, by decide +kernel⟩
theorem ok_answer_of (F : FunD K "answer_of" "answer_of" (defArgs s_answer_of) (defBody s_answer_of) (defScope s_answer_of) [] [] f fd) (h_is_leaf : Has P w K mg base "is_leaf" 1 ["row"] sp_is_leaf) : FnOk P w K mg base CX0 2 f fd ["fold", "thing"] (liftP K P w sp_answer_of) :=
  fn_okD (N := ["fold", "thing", "row"]) F sc_answer_of (by intro ds M k h; repeat (first | (rcases h with ⟨rfl, _⟩; rfl) | (rcases h with ⟨_, h⟩))) (fun cdv A outer s H E hr => (qss_cons (qs_set (i := 2) sc_answer_of.nd rfl (by first | exact Or.inl rfl | exact Or.inr rfl) (q_ix qix (qv 0) (q_un qneg q_int)))
  (qss_cons (qs_while (qt_not (qt_val (q_callH h_is_leaf (hr.mono (by omega)) (by rfl) (qa_cons (qv 2) qa_nil)))) (qss_one (qs_set (i := 2) sc_answer_of.nd rfl (by first | exact Or.inl rfl | exact Or.inr rfl) (q_ix qix (qv 0) (q_ix qix (qv 2) (q_op qadd q_int (q_ix qix (qv 1) (q_ix qix (qv 2) q_int))))))))
  (qss_one (qs_ret (q_ix qix (qv 2) q_int)))))) rd_answer_of
theorem sc_shares_of : FnScope ["fold", "sheet", "free", "part", "found", "row", "shares", "goal", "names", "number"] ["fold", "sheet"] (defScope s_shares_of) := ⟨rfl, rfl, rfl, by decide +kernel, rfl, by decide +kernel, by decide +kernel⟩
theorem ok_shares_of (F : FunD K "shares_of" "shares_of" (defArgs s_shares_of) (defBody s_shares_of) (defScope s_shares_of) [] [] f fd) (h_is_leaf : Has P w K mg base "is_leaf" 1 ["row"] sp_is_leaf) : FnOk P w K mg base CX0 2 f fd ["fold", "sheet"] (liftP K P w sp_shares_of) :=
  fn_okD (N := ["fold", "sheet", "free", "part", "found", "row", "shares", "goal", "names", "number"]) F sc_shares_of (by intro ds M k h; repeat (first | (rcases h with ⟨rfl, _⟩; rfl) | (rcases h with ⟨_, h⟩))) (fun cdv A outer s H E hr => (qss_cons (qs_set (i := 2) sc_shares_of.nd rfl (by first | exact Or.inl rfl | exact Or.inr rfl) q_int)
  (qss_cons (qs_for (qi_tup (qv 1)) (qg_name (i := 3) sc_shares_of.nd rfl (by first | exact Or.inl rfl | exact Or.inr rfl)) (qss_one (qs_if (qt_cmp qis (qv 3) q_non) (qss_one (qs_set (i := 2) sc_shares_of.nd rfl (by first | exact Or.inl rfl | exact Or.inr rfl) (q_op qmul (qv 2) q_int))) qss_nil)))
  (qss_cons (qs_set (i := 4) sc_shares_of.nd rfl (by first | exact Or.inl rfl | exact Or.inr rfl) q_ownR)
  (qss_cons (qs_for (qi_tup (qv 0)) (qg_name (i := 5) sc_shares_of.nd rfl (by first | exact Or.inl rfl | exact Or.inr rfl)) (qss_cons (qs_set (i := 6) sc_shares_of.nd rfl (by first | exact Or.inl rfl | exact Or.inr rfl) q_dicT)
  (qss_cons (qs_if (qt_val (q_callH h_is_leaf (hr.mono (by omega)) (by rfl) (qa_cons (qv 5) qa_nil))) (qss_one (qs_putT (u64 hr) (qv 6) (q_ix qix (qv 5) q_int) (qv 2))) (qss_one (qs_if (qt_cmp qisnot (q_ix qix (qv 1) (q_ix qix (qv 5) q_int)) q_non) (qss_one (qs_set (i := 6) sc_shares_of.nd rfl (by first | exact Or.inl rfl | exact Or.inr rfl) (q_ix qixR (qv 4) (q_ix qix (qv 5) (q_op qadd q_int (q_ix qix (qv 1) (q_ix qix (qv 5) q_int))))))) (qss_one (qs_for (qi_tup (q_slice (qv 5) (qo_some q_int) qo_none)) (qg_name (i := 7) sc_shares_of.nd rfl (by first | exact Or.inl rfl | exact Or.inr rfl)) (qss_one (qs_lock (qs_for (qi_itemsF (q_ix qixR (qv 4) (qv 7))) (qg_tup (qgs_cons (qg_name (i := 8) sc_shares_of.nd rfl (by first | exact Or.inl rfl | exact Or.inr rfl)) (qgs_cons (qg_name (i := 9) sc_shares_of.nd rfl (by first | exact Or.inl rfl | exact Or.inr rfl)) qgs_nil))) (qss_one (qs_putT (u64 hr) (qv 6) (qv 8) (q_op qadd (q_get2 (u64 hr) (qv 6) (qv 8) q_int) (q_op qdivI (qv 9) q_int))))))))))))
  (qss_one (qs_expr (q_appendR (qv 4) (qa_cons (qv 6) qa_nil)))))))
  (qss_one (qs_ret (q_ix qixR (qv 4) (q_un qneg q_int))))))))) rd_shares_of
theorem sc_count_name : FnScope ["fold", "name", "sheet", "shares", "names"] ["fold", "name", "sheet"] (defScope s_count_name) := ⟨rfl, rfl, rfl, by decide +kernel, rfl, by decide +kernel, by decide +kernel⟩
theorem ok_count_name (F : FunD K "count_name" "count_name" (defArgs s_count_name) (defBody s_count_name) (defScope s_count_name) [] [] f fd) (h_shares_of : Has P w K mg base "shares_of" 2 ["fold", "sheet"] sp_shares_of) (z_sum : mg "sum" = none) : FnOk P w K mg base CX0 3 f fd ["fold", "name", "sheet"] (liftP K P w sp_count_name) :=
  fn_okD (N := ["fold", "name", "sheet", "shares", "names"]) F sc_count_name (by intro ds M k h; repeat (first | (rcases h with ⟨rfl, _⟩; rfl) | (rcases h with ⟨_, h⟩))) (fun cdv A outer s H E hr => (qss_cons (qs_set (i := 3) sc_count_name.nd rfl (by first | exact Or.inl rfl | exact Or.inr rfl) (q_callH h_shares_of (hr.mono (by omega)) (by rfl) (qa_cons (qv 0) (qa_cons (qv 2) qa_nil))))
  (qss_one (qs_ret (q_callB (qsum rfl) (by rfl) z_sum (by decide +kernel) (qa_cons (q_lockE (q_lc1 sc_count_name.nd (qi_keysF (qv 3)) (blkOk_by (own := [("names", 4)]) (N := ["fold", "name", "sheet", "shares", "names"]) (sc := defScope s_count_name) (by decide +kernel)) (fun _ _ _ _ _ => pg_name (i := 4) sc_count_name.nd rfl (by first | exact Or.inl rfl | exact Or.inr rfl)) (fun _ _ _ _ _ => QT.blk (qt_cmp (qin (u65 hr)) (qv 1) (qv 4))) (fun _ _ _ _ _ => QE.blk (q_ix (qixDF (u64 hr)) (qv 3) (qv 4))))) qa_nil)))))) rd_count_name
theorem sc_counts : FnScope ["fold", "many", "shares", "names"] ["fold", "many"] (defScope s_counts) := ⟨rfl, rfl, rfl, by decide +kernel, rfl, by decide +kernel, by decide +kernel⟩
theorem ok_counts (F : FunD K "counts" "counts" (defArgs s_counts) (defBody s_counts) (defScope s_counts) [] [] f fd) (h_shares_of : Has P w K mg base "shares_of" 2 ["fold", "sheet"] sp_shares_of) (z_sorted : mg "sorted" = none) (z_tuple : mg "tuple" = none) : FnOk P w K mg base CX0 3 f fd ["fold", "many"] (liftP K P w sp_counts) :=
  fn_okD (N := ["fold", "many", "shares", "names"]) F sc_counts (by intro ds M k h; repeat (first | (rcases h with ⟨rfl, _⟩; rfl) | (rcases h with ⟨_, h⟩))) (fun cdv A outer s H E hr => (qss_cons (qs_set (i := 2) sc_counts.nd rfl (by first | exact Or.inl rfl | exact Or.inr rfl) (q_callH h_shares_of (hr.mono (by omega)) (by rfl) (qa_cons (qv 0) (qa_cons (q_op qmulA (q_tup (qa_cons q_non qa_nil)) (qv 1)) qa_nil))))
  (qss_one (qs_ret (q_callTy qtuple (by rfl) z_tuple (by decide +kernel) (qa_cons (q_lc1 sc_counts.nd (qi_list (q_callB (qsortedDT rfl (u64 hr)) (by rfl) z_sorted (by decide +kernel) (qa_cons (qv 2) qa_nil))) (blkOk_by (own := [("names", 3)]) (N := ["fold", "many", "shares", "names"]) (sc := defScope s_counts) (by decide +kernel)) (fun _ _ _ _ _ => pg_name (i := 3) sc_counts.nd rfl (by first | exact Or.inl rfl | exact Or.inr rfl)) (fun _ _ _ _ _ => no_blk) (fun _ _ _ _ _ => QE.blk (q_tup (qa_cons (qv 3) (qa_cons (q_ix (qixDT (u64 hr)) (qv 2) (qv 3)) qa_nil))))) qa_nil)))))) rd_counts
theorem sc_m_init : FnScope ["self", "order"] ["self", "order"] (defScope s_m_init) := ⟨rfl, rfl, rfl, by decide +kernel, rfl, by decide +kernel, by decide +kernel⟩
theorem ok_m_init (F : FunD K "__init__" "Rows.__init__" (defArgs s_m_init) (defBody s_m_init) (defScope s_m_init) [] [] f fd) (cl_Rows : Cls K C) (no_known : NoAttr K C "known") (no_laid : NoAttr K C "laid") (no_order : NoAttr K C "order") : FnOk P w K mg base CX0 1 f fd ["self", "order"] (liftP K P w (sp_m_init C)) :=
  fn_okD (N := ["self", "order"]) F sc_m_init (by intro ds M k h; repeat (first | (rcases h with ⟨rfl, _⟩; rfl) | (rcases h with ⟨_, h⟩))) (fun cdv A outer s H E hr => (qss_cons (qs_fld cl_Rows no_order (qv 0) (qv 1))
  (qss_cons (qs_fld cl_Rows no_laid (qv 0) (q_own qa_nil))
  (qss_one (qs_fld cl_Rows no_known (qv 0) q_dicT))))) (rd_m_init C)
theorem sc_left_from : FnScope ["fold", "at", "met"] ["fold", "at", "met"] (defScope s_left_from) := ⟨rfl, rfl, rfl, by decide +kernel, rfl, by decide +kernel, by decide +kernel⟩
theorem ok_left_from (F : FunD K "left_from" "left_from" (defArgs s_left_from) (defBody s_left_from) (defScope s_left_from) [] [] f fd) (h_is_leaf : Has P w K mg base "is_leaf" 1 ["row"] sp_is_leaf) (gF : mg "left_from" = some (.ref f)) (bF : Binds K fd ["fold", "at", "met"] []) (n : Nat) : FnOk P w K mg base CX0 (1 + n + 1) f fd ["fold", "at", "met"] (liftP K P w (sp_left_from n)) := by
  have body : ∀ n, FnOk P w K mg base CX0 (1 + n) f fd ["fold", "at", "met"] (liftP K P w (spPrev sp_left_from n)) → FnOk P w K mg base CX0 (1 + n + 1) f fd ["fold", "at", "met"] (liftP K P w (sp_left_from n)) := fun n G0 => by
    have h_self : Has P w K mg base "left_from" (1 + n) ["fold", "at", "met"] (spPrev sp_left_from n) := ⟨f, fd, G0, gF, F.kp, bF⟩
    exact fn_okD (N := ["fold", "at", "met"]) F sc_left_from (by intro ds M k h; repeat (first | (rcases h with ⟨rfl, _⟩; rfl) | (rcases h with ⟨_, h⟩))) (fun cdv A outer s H E hr => (qss_cons (qs_if (qt_cmp (qin (u65 hr)) (qv 1) (qv 2)) (qss_one qs_retN) qss_nil)
  (qss_cons (qs_if (qt_not (qt_val (q_callH h_is_leaf (hr.mono (by omega)) (by rfl) (qa_cons (q_ix qix (qv 0) (qv 1)) qa_nil)))) (qss_cons (qs_expr (q_callH h_self hr (by rfl) (qa_cons (qv 0) (qa_cons (q_ix qix (q_ix qix (qv 0) (qv 1)) q_int) (qa_cons (qv 2) qa_nil)))))
  (qss_one (qs_expr (q_callH h_self hr (by rfl) (qa_cons (qv 0) (qa_cons (q_ix qix (q_ix qix (qv 0) (qv 1)) q_int) (qa_cons (qv 2) qa_nil))))))) qss_nil)
  (qss_one (qs_expr (q_append (qv 2) (qa_cons (qv 1) qa_nil))))))) (rd_left_from n)
  induction n with
  | zero => exact body 0 fn_no
  | succ n ih => exact body (n + 1) ih
theorem sc_m_fold : FnScope ["self", "top", "met", "found", "at", "row"] ["self", "top"] (defScope s_m_fold) := ⟨rfl, rfl, rfl, by decide +kernel, rfl, by decide +kernel, by decide +kernel⟩
theorem ok_m_fold (F : FunD K "fold" "Rows.fold" (defArgs s_m_fold) (defBody s_m_fold) (defScope s_m_fold) [] [] f fd) (h_is_leaf : Has P w K mg base "is_leaf" 1 ["row"] sp_is_leaf) (h_left_from : Has P w K mg base "left_from" 12 ["fold", "at", "met"] (sp_left_from 10)) (cl_Rows : Cls K C) (no_laid : NoAttr K C "laid") (z_tuple : mg "tuple" = none) : FnOk P w K mg base CX0 13 f fd ["self", "top"] (liftP K P w (sp_m_fold C 10)) :=
  fn_okD (N := ["self", "top", "met", "found", "at", "row"]) F sc_m_fold (by intro ds M k h; repeat (first | (rcases h with ⟨rfl, _⟩; rfl) | (rcases h with ⟨_, h⟩))) (fun cdv A outer s H E hr => (qss_cons (qs_set (i := 2) sc_m_fold.nd rfl (by first | exact Or.inl rfl | exact Or.inr rfl) (q_own qa_nil))
  (qss_cons (qs_expr (q_callH h_left_from (hr.mono (by omega)) (by rfl) (qa_cons (q_fld cl_Rows no_laid (qv 0)) (qa_cons (qv 1) (qa_cons (qv 2) qa_nil)))))
  (qss_cons (qs_set (i := 3) sc_m_fold.nd rfl (by first | exact Or.inl rfl | exact Or.inr rfl) (q_own qa_nil))
  (qss_cons (qs_for (qi_list (qv 2)) (qg_name (i := 4) sc_m_fold.nd rfl (by first | exact Or.inl rfl | exact Or.inr rfl)) (qss_cons (qs_set (i := 5) sc_m_fold.nd rfl (by first | exact Or.inl rfl | exact Or.inr rfl) (q_ix qix (q_fld cl_Rows no_laid (qv 0)) (qv 4)))
  (qss_cons (qs_if (qt_not (qt_val (q_callH h_is_leaf (hr.mono (by omega)) (by rfl) (qa_cons (qv 5) qa_nil)))) (qss_one (qs_set (i := 5) sc_m_fold.nd rfl (by first | exact Or.inl rfl | exact Or.inr rfl) (q_tup (qa_cons (q_ix qix (qv 5) q_int) (qa_cons (q_lstIx (qv 2) (qa_cons (q_ix qix (qv 5) q_int) qa_nil)) (qa_cons (q_lstIx (qv 2) (qa_cons (q_ix qix (qv 5) q_int) qa_nil)) qa_nil)))))) qss_nil)
  (qss_one (qs_expr (q_append (qv 3) (qa_cons (qv 5) qa_nil)))))))
  (qss_one (qs_ret (q_callTy qtuple (by rfl) z_tuple (by decide +kernel) (qa_cons (qv 3) qa_nil))))))))) (rd_m_fold C 10)
theorem sc_m_lay : FnScope ["self", "row"] ["self", "row"] (defScope s_m_lay) := ⟨rfl, rfl, rfl, by decide +kernel, rfl, by decide +kernel, by decide +kernel⟩
theorem ok_m_lay (F : FunD K "lay" "Rows.lay" (defArgs s_m_lay) (defBody s_m_lay) (defScope s_m_lay) [] [] f fd) (cl_Rows : Cls K C) (no_known : NoAttr K C "known") (no_laid : NoAttr K C "laid") (z_len : mg "len" = none) : FnOk P w K mg base CX0 1 f fd ["self", "row"] (liftP K P w (sp_m_lay C)) :=
  fn_okD (N := ["self", "row"]) F sc_m_lay (by intro ds M k h; repeat (first | (rcases h with ⟨rfl, _⟩; rfl) | (rcases h with ⟨_, h⟩))) (fun cdv A outer s H E hr => (qss_cons (qs_if (qt_cmp (qnotinDT (u64 hr)) (qv 1) (q_fld cl_Rows no_known (qv 0))) (qss_cons (qs_putT (u64 hr) (q_fld cl_Rows no_known (qv 0)) (qv 1) (q_callB qlen (by rfl) z_len (by decide +kernel) (qa_cons (q_fld cl_Rows no_laid (qv 0)) qa_nil)))
  (qss_one (qs_expr (q_append (q_fld cl_Rows no_laid (qv 0)) (qa_cons (qv 1) qa_nil))))) qss_nil)
  (qss_one (qs_ret (q_ix (qixDT (u64 hr)) (q_fld cl_Rows no_known (qv 0)) (qv 1)))))) (rd_m_lay C)
theorem sc_m_leaf : FnScope ["self", "names"] ["self", "names"] (defScope s_m_leaf) := ⟨rfl, rfl, rfl, by decide +kernel, rfl, by decide +kernel, by decide +kernel⟩
theorem ok_m_leaf (F : FunD K "leaf" "Rows.leaf" (defArgs s_m_leaf) (defBody s_m_leaf) (defScope s_m_leaf) [] [] f fd) (h_m_lay : HasM P w K mg base C "lay" 1 ["self", "row"] (sp_m_lay C)) (cl_Rows : Cls K C) : FnOk P w K mg base CX0 2 f fd ["self", "names"] (liftP K P w (sp_m_leaf C)) :=
  fn_okD (N := ["self", "names"]) F sc_m_leaf (by intro ds M k h; repeat (first | (rcases h with ⟨rfl, _⟩; rfl) | (rcases h with ⟨_, h⟩))) (fun cdv A outer s H E hr => (qss_one (qs_ret (q_methH h_m_lay cl_Rows (hr.mono (by omega)) (qv 0) (qa_cons (q_tup (qa_cons q_str (qa_cons (qv 1) qa_nil))) qa_nil))))) (rd_m_leaf C)
theorem sc_m_node : FnScope ["self", "character", "no", "yes"] ["self", "character", "no", "yes"] (defScope s_m_node) := ⟨rfl, rfl, rfl, by decide +kernel, rfl, by decide +kernel, by decide +kernel⟩
theorem ok_m_node (F : FunD K "node" "Rows.node" (defArgs s_m_node) (defBody s_m_node) (defScope s_m_node) [] [] f fd) (h_m_lay : HasM P w K mg base C "lay" 1 ["self", "row"] (sp_m_lay C)) (cl_Rows : Cls K C) : FnOk P w K mg base CX0 2 f fd ["self", "character", "no", "yes"] (liftP K P w (sp_m_node C)) :=
  fn_okD (N := ["self", "character", "no", "yes"]) F sc_m_node (by intro ds M k h; repeat (first | (rcases h with ⟨rfl, _⟩; rfl) | (rcases h with ⟨_, h⟩))) (fun cdv A outer s H E hr => (qss_cons (qs_if (qt_cmp (qeq (u64 hr)) (qv 2) (qv 3)) (qss_one (qs_ret (qv 2))) qss_nil)
  (qss_one (qs_ret (q_methH h_m_lay cl_Rows (hr.mono (by omega)) (qv 0) (qa_cons (q_tup (qa_cons (qv 1) (qa_cons (qv 2) (qa_cons (qv 3) qa_nil)))) qa_nil)))))) (rd_m_node C)
theorem sc_copied : FnScope ["rows", "fold", "at", "met", "row", "found", "low"] ["rows", "fold", "at", "met"] (defScope s_copied) := ⟨rfl, rfl, rfl, by decide +kernel, rfl, by decide +kernel, by decide +kernel⟩
theorem ok_copied (F : FunD K "copied" "copied" (defArgs s_copied) (defBody s_copied) (defScope s_copied) [] [] f fd) (h_is_leaf : Has P w K mg base "is_leaf" 1 ["row"] sp_is_leaf) (h_m_leaf : HasM P w K mg base C "leaf" 2 ["self", "names"] (sp_m_leaf C)) (h_m_node : HasM P w K mg base C "node" 2 ["self", "character", "no", "yes"] (sp_m_node C)) (cl_Rows : Cls K C) (gF : mg "copied" = some (.ref f)) (bF : Binds K fd ["rows", "fold", "at", "met"] []) (n : Nat) : FnOk P w K mg base CX0 (2 + n + 1) f fd ["rows", "fold", "at", "met"] (liftP K P w ((sp_copied C) n)) := by
  have body : ∀ n, FnOk P w K mg base CX0 (2 + n) f fd ["rows", "fold", "at", "met"] (liftP K P w (spPrev (sp_copied C) n)) → FnOk P w K mg base CX0 (2 + n + 1) f fd ["rows", "fold", "at", "met"] (liftP K P w ((sp_copied C) n)) := fun n G0 => by
    have h_self : Has P w K mg base "copied" (2 + n) ["rows", "fold", "at", "met"] (spPrev (sp_copied C) n) := ⟨f, fd, G0, gF, F.kp, bF⟩
    exact fn_okD (N := ["rows", "fold", "at", "met", "row", "found", "low"]) F sc_copied (by intro ds M k h; repeat (first | (rcases h with ⟨rfl, _⟩; rfl) | (rcases h with ⟨_, h⟩))) (fun cdv A outer s H E hr => (qss_cons (qs_if (qt_cmp (qinDV (u1 hr)) (qv 2) (qv 3)) (qss_one (qs_ret (q_ix (qixDV (u1 hr)) (qv 3) (qv 2)))) qss_nil)
  (qss_cons (qs_set (i := 4) sc_copied.nd rfl (by first | exact Or.inl rfl | exact Or.inr rfl) (q_ix qix (qv 1) (qv 2)))
  (qss_cons (qs_if (qt_val (q_callH h_is_leaf (hr.mono (by omega)) (by rfl) (qa_cons (qv 4) qa_nil))) (qss_one (qs_set (i := 5) sc_copied.nd rfl (by first | exact Or.inl rfl | exact Or.inr rfl) (q_methH h_m_leaf cl_Rows (hr.mono (by omega)) (qv 0) (qa_cons (q_ix qix (qv 4) q_int) qa_nil)))) (qss_cons (qs_set (i := 6) sc_copied.nd rfl (by first | exact Or.inl rfl | exact Or.inr rfl) (q_callH h_self hr (by rfl) (qa_cons (qv 0) (qa_cons (qv 1) (qa_cons (q_ix qix (qv 4) q_int) (qa_cons (qv 3) qa_nil))))))
  (qss_one (qs_set (i := 5) sc_copied.nd rfl (by first | exact Or.inl rfl | exact Or.inr rfl) (q_methH h_m_node cl_Rows (hr.mono (by omega)) (qv 0) (qa_cons (q_ix qix (qv 4) q_int) (qa_cons (qv 6) (qa_cons (q_callH h_self hr (by rfl) (qa_cons (qv 0) (qa_cons (qv 1) (qa_cons (q_ix qix (qv 4) q_int) (qa_cons (qv 3) qa_nil))))) qa_nil))))))))
  (qss_cons (qs_putV (u1 hr) (qv 3) (qv 2) (qv 5))
  (qss_one (qs_ret (qv 5)))))))) ((rd_copied C) n)
  induction n with
  | zero => exact body 0 fn_no
  | succ n ih => exact body (n + 1) ih
theorem sc_goals_at : FnScope ["fold", "at", "character", "row"] ["fold", "at", "character"] (defScope s_goals_at) := ⟨rfl, rfl, rfl, by decide +kernel, rfl, by decide +kernel, by decide +kernel⟩
theorem ok_goals_at (F : FunD K "goals_at" "goals_at" (defArgs s_goals_at) (defBody s_goals_at) (defScope s_goals_at) [] [] f fd) (h_is_leaf : Has P w K mg base "is_leaf" 1 ["row"] sp_is_leaf) : FnOk P w K mg base CX0 2 f fd ["fold", "at", "character"] (liftP K P w sp_goals_at) :=
  fn_okD (N := ["fold", "at", "character", "row"]) F sc_goals_at (by intro ds M k h; repeat (first | (rcases h with ⟨rfl, _⟩; rfl) | (rcases h with ⟨_, h⟩))) (fun cdv A outer s H E hr => (qss_cons (qs_set (i := 3) sc_goals_at.nd rfl (by first | exact Or.inl rfl | exact Or.inr rfl) (q_ix qix (qv 0) (qv 1)))
  (qss_cons (qs_if (QW.qt (qw_or (qt_val (q_callH h_is_leaf (hr.mono (by omega)) (by rfl) (qa_cons (qv 3) qa_nil))) (qw_or1 (qt_cmp (qne (u64 hr)) (q_ix qix (qv 3) q_int) (qv 2))))) (qss_one (qs_ret (q_tup (qa_cons (qv 1) (qa_cons (qv 1) qa_nil))))) qss_nil)
  (qss_one (qs_ret (q_tup (qa_cons (q_ix qix (qv 3) q_int) (qa_cons (q_ix qix (qv 3) q_int) qa_nil)))))))) rd_goals_at
theorem sc_m_rank : FnScope ["self", "fold", "at"] ["self", "fold", "at"] (defScope s_m_rank) := ⟨rfl, rfl, rfl, by decide +kernel, rfl, by decide +kernel, by decide +kernel⟩
theorem ok_m_rank (F : FunD K "rank" "Rows.rank" (defArgs s_m_rank) (defBody s_m_rank) (defScope s_m_rank) [] [] f fd) (h_is_leaf : Has P w K mg base "is_leaf" 1 ["row"] sp_is_leaf) (cl_Rows : Cls K C) (no_order : NoAttr K C "order") (z_len : mg "len" = none) : FnOk P w K mg base CX0 2 f fd ["self", "fold", "at"] (liftP K P w (sp_m_rank C)) :=
  fn_okD (N := ["self", "fold", "at"]) F sc_m_rank (by intro ds M k h; repeat (first | (rcases h with ⟨rfl, _⟩; rfl) | (rcases h with ⟨_, h⟩))) (fun cdv A outer s H E hr => (qss_cons (qs_if (qt_val (q_callH h_is_leaf (hr.mono (by omega)) (by rfl) (qa_cons (q_ix qix (qv 1) (qv 2)) qa_nil))) (qss_one (qs_ret (q_callB qlen (by rfl) z_len (by decide +kernel) (qa_cons (q_fld cl_Rows no_order (qv 0)) qa_nil)))) qss_nil)
  (qss_one (qs_ret (q_ordIx (q_fld cl_Rows no_order (qv 0)) (qa_cons (q_ix qix (q_ix qix (qv 1) (qv 2)) q_int) qa_nil)))))) (rd_m_rank C)
theorem sc_switched_from : FnScope ["rows", "character", "pair", "ats", "met", "no", "yes", "ranks", "mine", "one", "other", "found", "here", "ones", "others", "low"] ["rows", "character", "pair", "ats", "met"] (defScope s_switched_from) := ⟨rfl, rfl, rfl, by decide +kernel, rfl, by decide +kernel, by decide +kernel⟩
theorem ok_switched_from (F : FunD K "switched_from" "switched_from" (defArgs s_switched_from) (defBody s_switched_from) (defScope s_switched_from) [] [] f fd) (h_copied : Has P w K mg base "copied" 13 ["rows", "fold", "at", "met"] ((sp_copied C) 10)) (h_goals_at : Has P w K mg base "goals_at" 2 ["fold", "at", "character"] sp_goals_at) (h_m_node : HasM P w K mg base C "node" 2 ["self", "character", "no", "yes"] (sp_m_node C)) (h_m_rank : HasM P w K mg base C "rank" 2 ["self", "fold", "at"] (sp_m_rank C)) (cl_Rows : Cls K C) (no_order : NoAttr K C "order") (z_min : mg "min" = none) (gF : mg "switched_from" = some (.ref f)) (bF : Binds K fd ["rows", "character", "pair", "ats", "met"] []) (n : Nat) : FnOk P w K mg base CX0 (13 + n + 1) f fd ["rows", "character", "pair", "ats", "met"] (liftP K P w ((sp_switched_from C 10) n)) := by
  have body : ∀ n, FnOk P w K mg base CX0 (13 + n) f fd ["rows", "character", "pair", "ats", "met"] (liftP K P w (spPrev (sp_switched_from C 10) n)) → FnOk P w K mg base CX0 (13 + n + 1) f fd ["rows", "character", "pair", "ats", "met"] (liftP K P w ((sp_switched_from C 10) n)) := fun n G0 => by
    have h_self : Has P w K mg base "switched_from" (13 + n) ["rows", "character", "pair", "ats", "met"] (spPrev (sp_switched_from C 10) n) := ⟨f, fd, G0, gF, F.kp, bF⟩
    exact fn_okD (N := ["rows", "character", "pair", "ats", "met", "no", "yes", "ranks", "mine", "one", "other", "found", "here", "ones", "others", "low"]) F sc_switched_from (by intro ds M k h; repeat (first | (rcases h with ⟨rfl, _⟩; rfl) | (rcases h with ⟨_, h⟩))) (fun cdv A outer s H E hr => (qss_cons (qs_if (qt_cmp (qinDT (u64 hr)) (qv 3) (qv 4)) (qss_one (qs_ret (q_ix (qixDT (u64 hr)) (qv 4) (qv 3)))) qss_nil)
  (qss_cons (qs_asg (qv 2) (qg_tup (qgs_cons (qg_name (i := 5) sc_switched_from.nd rfl (by first | exact Or.inl rfl | exact Or.inr rfl)) (qgs_cons (qg_name (i := 6) sc_switched_from.nd rfl (by first | exact Or.inl rfl | exact Or.inr rfl)) qgs_nil))))
  (qss_cons (qs_set (i := 7) sc_switched_from.nd rfl (by first | exact Or.inl rfl | exact Or.inr rfl) (q_tup (qa_cons (q_methH h_m_rank cl_Rows (hr.mono (by omega)) (qv 0) (qa_cons (qv 5) (qa_cons (q_ix qix (qv 3) q_int) qa_nil))) (qa_cons (q_methH h_m_rank cl_Rows (hr.mono (by omega)) (qv 0) (qa_cons (qv 6) (qa_cons (q_ix qix (qv 3) q_int) qa_nil))) qa_nil))))
  (qss_cons (qs_set (i := 8) sc_switched_from.nd rfl (by first | exact Or.inl rfl | exact Or.inr rfl) (q_ordIx (q_fld cl_Rows no_order (qv 0)) (qa_cons (qv 1) qa_nil)))
  (qss_cons (qs_if (qt_cmp qle (qv 8) (q_callB (qminT rfl (u64 hr)) (by rfl) z_min (by decide +kernel) (qa_cons (qv 7) qa_nil))) (qss_cons (qs_set (i := 9) sc_switched_from.nd rfl (by first | exact Or.inl rfl | exact Or.inr rfl) (q_callH h_copied (hr.mono (by omega)) (by rfl) (qa_cons (qv 0) (qa_cons (qv 5) (qa_cons (q_ix qix (q_callH h_goals_at (hr.mono (by omega)) (by rfl) (qa_cons (qv 5) (qa_cons (q_ix qix (qv 3) q_int) (qa_cons (qv 1) qa_nil)))) q_int) (qa_cons q_dicV qa_nil))))))
  (qss_cons (qs_set (i := 10) sc_switched_from.nd rfl (by first | exact Or.inl rfl | exact Or.inr rfl) (q_callH h_copied (hr.mono (by omega)) (by rfl) (qa_cons (qv 0) (qa_cons (qv 6) (qa_cons (q_ix qix (q_callH h_goals_at (hr.mono (by omega)) (by rfl) (qa_cons (qv 6) (qa_cons (q_ix qix (qv 3) q_int) (qa_cons (qv 1) qa_nil)))) q_int) (qa_cons q_dicV qa_nil))))))
  (qss_one (qs_set (i := 11) sc_switched_from.nd rfl (by first | exact Or.inl rfl | exact Or.inr rfl) (q_methH h_m_node cl_Rows (hr.mono (by omega)) (qv 0) (qa_cons (qv 1) (qa_cons (qv 9) (qa_cons (qv 10) qa_nil)))))))) (qss_cons (qs_set (i := 12) sc_switched_from.nd rfl (by first | exact Or.inl rfl | exact Or.inr rfl) (q_ix qix (q_fld cl_Rows no_order (qv 0)) (q_callB (qminT rfl (u64 hr)) (by rfl) z_min (by decide +kernel) (qa_cons (qv 7) qa_nil))))
  (qss_cons (qs_set (i := 13) sc_switched_from.nd rfl (by first | exact Or.inl rfl | exact Or.inr rfl) (q_callH h_goals_at (hr.mono (by omega)) (by rfl) (qa_cons (qv 5) (qa_cons (q_ix qix (qv 3) q_int) (qa_cons (qv 12) qa_nil)))))
  (qss_cons (qs_set (i := 14) sc_switched_from.nd rfl (by first | exact Or.inl rfl | exact Or.inr rfl) (q_callH h_goals_at (hr.mono (by omega)) (by rfl) (qa_cons (qv 6) (qa_cons (q_ix qix (qv 3) q_int) (qa_cons (qv 12) qa_nil)))))
  (qss_cons (qs_set (i := 15) sc_switched_from.nd rfl (by first | exact Or.inl rfl | exact Or.inr rfl) (q_callH h_self hr (by rfl) (qa_cons (qv 0) (qa_cons (qv 1) (qa_cons (qv 2) (qa_cons (q_tup (qa_cons (q_ix qix (qv 13) q_int) (qa_cons (q_ix qix (qv 14) q_int) qa_nil))) (qa_cons (qv 4) qa_nil)))))))
  (qss_one (qs_set (i := 11) sc_switched_from.nd rfl (by first | exact Or.inl rfl | exact Or.inr rfl) (q_methH h_m_node cl_Rows (hr.mono (by omega)) (qv 0) (qa_cons (qv 12) (qa_cons (qv 15) (qa_cons (q_callH h_self hr (by rfl) (qa_cons (qv 0) (qa_cons (qv 1) (qa_cons (qv 2) (qa_cons (q_tup (qa_cons (q_ix qix (qv 13) q_int) (qa_cons (q_ix qix (qv 14) q_int) qa_nil))) (qa_cons (qv 4) qa_nil)))))) qa_nil)))))))))))
  (qss_cons (qs_putT (u64 hr) (qv 4) (qv 3) (qv 11))
  (qss_one (qs_ret (qv 11)))))))))) ((rd_switched_from C 10) n)
  induction n with
  | zero => exact body 0 fn_no
  | succ n ih => exact body (n + 1) ih
theorem sc_switched : FnScope ["character", "no", "yes", "order", "rows", "top"] ["character", "no", "yes", "order"] (defScope s_switched) := ⟨rfl, rfl, rfl, by decide +kernel, rfl, by decide +kernel, by decide +kernel⟩
theorem ok_switched (F : FunD K "switched" "switched" (defArgs s_switched) (defBody s_switched) (defScope s_switched) [] [] f fd) (h_Rows : HasC P w K mg base "Rows" C 1 ["self", "order"] (sp_m_init C)) (h_m_fold : HasM P w K mg base C "fold" 13 ["self", "top"] (sp_m_fold C 10)) (h_switched_from : Has P w K mg base "switched_from" 24 ["rows", "character", "pair", "ats", "met"] ((sp_switched_from C 10) 10)) (cl_Rows : Cls K C) (z_len : mg "len" = none) : FnOk P w K mg base CX0 25 f fd ["character", "no", "yes", "order"] (liftP K P w (sp_switched C)) :=
  fn_okD (N := ["character", "no", "yes", "order", "rows", "top"]) F sc_switched (by intro ds M k h; repeat (first | (rcases h with ⟨rfl, _⟩; rfl) | (rcases h with ⟨_, h⟩))) (fun cdv A outer s H E hr => (qss_cons (qs_set (i := 4) sc_switched.nd rfl (by first | exact Or.inl rfl | exact Or.inr rfl) (q_makeH h_Rows (hr.mono (by omega)) (by rfl) (qa_cons (qv 3) qa_nil)))
  (qss_cons (qs_set (i := 5) sc_switched.nd rfl (by first | exact Or.inl rfl | exact Or.inr rfl) (q_callH h_switched_from (hr.mono (by omega)) (by rfl) (qa_cons (qv 4) (qa_cons (qv 0) (qa_cons (q_tup (qa_cons (qv 1) (qa_cons (qv 2) qa_nil))) (qa_cons (q_tup (qa_cons (q_op qsub (q_callB qlen (by rfl) z_len (by decide +kernel) (qa_cons (qv 1) qa_nil)) q_int) (qa_cons (q_op qsub (q_callB qlen (by rfl) z_len (by decide +kernel) (qa_cons (qv 2) qa_nil)) q_int) qa_nil))) (qa_cons q_dicT qa_nil)))))))
  (qss_one (qs_ret (q_methH h_m_fold cl_Rows (hr.mono (by omega)) (qv 4) (qa_cons (qv 5) qa_nil))))))) (rd_switched C)
theorem sc_folded : FnScope ["key", "order"] ["key", "order"] (defScope s_folded) := ⟨rfl, rfl, rfl, by decide +kernel, rfl, by decide +kernel, by decide +kernel⟩
theorem ok_folded (F : FunD K "folded" "folded" (defArgs s_folded) (defBody s_folded) (defScope s_folded) [] [] f fd) (h_switched : Has P w K mg base "switched" 25 ["character", "no", "yes", "order"] (sp_switched C)) (gF : mg "folded" = some (.ref f)) (bF : Binds K fd ["key", "order"] []) (n : Nat) : FnOk P w K mg base CX0 (25 + n + 1) f fd ["key", "order"] (liftP K P w ((sp_folded C) n)) := by
  have body : ∀ n, FnOk P w K mg base CX0 (25 + n) f fd ["key", "order"] (liftP K P w (spPrev (sp_folded C) n)) → FnOk P w K mg base CX0 (25 + n + 1) f fd ["key", "order"] (liftP K P w ((sp_folded C) n)) := fun n G0 => by
    have h_self : Has P w K mg base "folded" (25 + n) ["key", "order"] (spPrev (sp_folded C) n) := ⟨f, fd, G0, gF, F.kp, bF⟩
    exact fn_okD (N := ["key", "order"]) F sc_folded (by intro ds M k h; repeat (first | (rcases h with ⟨rfl, _⟩; rfl) | (rcases h with ⟨_, h⟩))) (fun cdv A outer s H E hr => (qss_cons (qs_if (qt_cmp (qeq (u64 hr)) (q_ix qix (qv 0) q_int) q_str) (qss_one (qs_ret (q_tup (qa_cons (q_tup (qa_cons q_str (qa_cons (q_ix qix (qv 0) q_int) qa_nil))) qa_nil)))) qss_nil)
  (qss_one (qs_ret (q_callH h_switched (hr.mono (by omega)) (by rfl) (qa_cons (q_ix qix (qv 0) q_int) (qa_cons (q_callH h_self hr (by rfl) (qa_cons (q_ix qix (qv 0) q_int) (qa_cons (qv 1) qa_nil))) (qa_cons (q_callH h_self hr (by rfl) (qa_cons (q_ix qix (qv 0) q_int) (qa_cons (qv 1) qa_nil))) (qa_cons (qv 1) qa_nil))))))))) ((rd_folded C) n)
  induction n with
  | zero => exact body 0 fn_no
  | succ n ih => exact body (n + 1) ih
theorem sc_leaves_from : FnScope ["fold", "sheet", "at", "met", "row", "value"] ["fold", "sheet", "at", "met"] (defScope s_leaves_from) := ⟨rfl, rfl, rfl, by decide +kernel, rfl, by decide +kernel, by decide +kernel⟩
theorem ok_leaves_from (F : FunD K "leaves_from" "leaves_from" (defArgs s_leaves_from) (defBody s_leaves_from) (defScope s_leaves_from) [] [] f fd) (h_is_leaf : Has P w K mg base "is_leaf" 1 ["row"] sp_is_leaf) (gF : mg "leaves_from" = some (.ref f)) (bF : Binds K fd ["fold", "sheet", "at", "met"] []) (n : Nat) : FnOk P w K mg base CX0 (1 + n + 1) f fd ["fold", "sheet", "at", "met"] (liftP K P w (sp_leaves_from n)) := by
  have body : ∀ n, FnOk P w K mg base CX0 (1 + n) f fd ["fold", "sheet", "at", "met"] (liftP K P w (spPrev sp_leaves_from n)) → FnOk P w K mg base CX0 (1 + n + 1) f fd ["fold", "sheet", "at", "met"] (liftP K P w (sp_leaves_from n)) := fun n G0 => by
    have h_self : Has P w K mg base "leaves_from" (1 + n) ["fold", "sheet", "at", "met"] (spPrev sp_leaves_from n) := ⟨f, fd, G0, gF, F.kp, bF⟩
    exact fn_okD (N := ["fold", "sheet", "at", "met", "row", "value"]) F sc_leaves_from (by intro ds M k h; repeat (first | (rcases h with ⟨rfl, _⟩; rfl) | (rcases h with ⟨_, h⟩))) (fun cdv A outer s H E hr => (qss_cons (qs_if (qt_cmp (qin (u65 hr)) (qv 2) (qv 3)) (qss_one qs_retN) qss_nil)
  (qss_cons (qs_expr (q_append (qv 3) (qa_cons (qv 2) qa_nil)))
  (qss_cons (qs_set (i := 4) sc_leaves_from.nd rfl (by first | exact Or.inl rfl | exact Or.inr rfl) (q_ix qix (qv 0) (qv 2)))
  (qss_one (qs_if (qt_not (qt_val (q_callH h_is_leaf (hr.mono (by omega)) (by rfl) (qa_cons (qv 4) qa_nil)))) (qss_one (qs_for (qi_tup (q_tup (qa_cons q_int (qa_cons q_int qa_nil)))) (qg_name (i := 5) sc_leaves_from.nd rfl (by first | exact Or.inl rfl | exact Or.inr rfl)) (qss_one (qs_if (QW.qt (qw_or (qt_cmp qis (q_ix qix (qv 1) (q_ix qix (qv 4) q_int)) q_non) (qw_or1 (qt_cmp (qeq (u64 hr)) (q_ix qix (qv 1) (q_ix qix (qv 4) q_int)) (qv 5))))) (qss_one (qs_expr (q_callH h_self hr (by rfl) (qa_cons (qv 0) (qa_cons (qv 1) (qa_cons (q_ix qix (qv 4) (q_op qadd q_int (qv 5))) (qa_cons (qv 3) qa_nil))))))) qss_nil)))) qss_nil)))))) (rd_leaves_from n)
  induction n with
  | zero => exact body 0 fn_no
  | succ n ih => exact body (n + 1) ih
theorem sc_leaves : FnScope ["fold", "sheet", "met", "at"] ["fold", "sheet"] (defScope s_leaves) := ⟨rfl, rfl, rfl, by decide +kernel, rfl, by decide +kernel, by decide +kernel⟩
theorem ok_leaves (F : FunD K "leaves" "leaves" (defArgs s_leaves) (defBody s_leaves) (defScope s_leaves) [] [] f fd) (h_is_leaf : Has P w K mg base "is_leaf" 1 ["row"] sp_is_leaf) (h_leaves_from : Has P w K mg base "leaves_from" 12 ["fold", "sheet", "at", "met"] (sp_leaves_from 10)) (z_len : mg "len" = none) : FnOk P w K mg base CX0 13 f fd ["fold", "sheet"] (liftP K P w sp_leaves) :=
  fn_okD (N := ["fold", "sheet", "met", "at"]) F sc_leaves (by intro ds M k h; repeat (first | (rcases h with ⟨rfl, _⟩; rfl) | (rcases h with ⟨_, h⟩))) (fun cdv A outer s H E hr => (qss_cons (qs_set (i := 2) sc_leaves.nd rfl (by first | exact Or.inl rfl | exact Or.inr rfl) (q_own qa_nil))
  (qss_cons (qs_expr (q_callH h_leaves_from (hr.mono (by omega)) (by rfl) (qa_cons (qv 0) (qa_cons (qv 1) (qa_cons (q_op qsub (q_callB qlen (by rfl) z_len (by decide +kernel) (qa_cons (qv 0) qa_nil)) q_int) (qa_cons (qv 2) qa_nil))))))
  (qss_one (qs_ret (q_lc1 sc_leaves.nd (qi_list (qv 2)) (blkOk_by (own := [("at", 3)]) (N := ["fold", "sheet", "met", "at"]) (sc := defScope s_leaves) (by decide +kernel)) (fun _ _ _ _ _ => pg_name (i := 3) sc_leaves.nd rfl (by first | exact Or.inl rfl | exact Or.inr rfl)) (fun _ _ _ _ _ => QT.blk (qt_val (q_callH h_is_leaf (hr.mono (by omega)) (by rfl) (qa_cons (q_ix qix (qv 0) (qv 3)) qa_nil)))) (fun _ _ _ _ _ => QE.blk (q_ix qix (q_ix qix (qv 0) (qv 3)) q_int)))))))) rd_leaves
theorem sc_possible : FnScope ["fold", "sheet", "found", "names"] ["fold", "sheet"] (defScope s_possible) := ⟨rfl, rfl, rfl, by decide +kernel, rfl, by decide +kernel, by decide +kernel⟩
theorem ok_possible (F : FunD K "possible" "possible" (defArgs s_possible) (defBody s_possible) (defScope s_possible) [] [] f fd) (h_leaves : Has P w K mg base "leaves" 13 ["fold", "sheet"] sp_leaves) (z_list : mg "list" = none) (z_set : mg "set" = none) (z_sorted : mg "sorted" = none) (z_tuple : mg "tuple" = none) : FnOk P w K mg base CX0 14 f fd ["fold", "sheet"] (liftP K P w sp_possible) :=
  fn_okD (N := ["fold", "sheet", "found", "names"]) F sc_possible (by intro ds M k h; repeat (first | (rcases h with ⟨rfl, _⟩; rfl) | (rcases h with ⟨_, h⟩))) (fun cdv A outer s H E hr => (qss_cons (qs_set (i := 2) sc_possible.nd rfl (by first | exact Or.inl rfl | exact Or.inr rfl) (q_lst qa_nil))
  (qss_cons (qs_for (qi_list (q_callH h_leaves (hr.mono (by omega)) (by rfl) (qa_cons (qv 0) (qa_cons (qv 1) qa_nil)))) (qg_name (i := 3) sc_possible.nd rfl (by first | exact Or.inl rfl | exact Or.inr rfl)) (qss_one (qs_set (i := 2) sc_possible.nd rfl (by first | exact Or.inl rfl | exact Or.inr rfl) (q_op qadd (qv 2) (q_callTy qlist (by rfl) z_list (by decide +kernel) (qa_cons (qv 3) qa_nil))))))
  (qss_one (qs_ret (q_callTy qtuple (by rfl) z_tuple (by decide +kernel) (qa_cons (q_sortSet rfl (by rfl) z_sorted (by decide +kernel) (by rfl) z_set (by decide +kernel) (qa_cons (qv 2) qa_nil)) qa_nil))))))) rd_possible
theorem sc_witness : FnScope ["fold", "name", "sheet", "found", "at"] ["fold", "name", "sheet"] (defScope s_witness) := ⟨rfl, rfl, rfl, by decide +kernel, rfl, by decide +kernel, by decide +kernel⟩
theorem ok_witness (F : FunD K "witness" "witness" (defArgs s_witness) (defBody s_witness) (defScope s_witness) [] [] f fd) (h_possible : Has P w K mg base "possible" 14 ["fold", "sheet"] sp_possible) (z_len : mg "len" = none) (z_list : mg "list" = none) (z_range : mg "range" = none) (z_tuple : mg "tuple" = none) : FnOk P w K mg base CX0 15 f fd ["fold", "name", "sheet"] (liftP K P w sp_witness) :=
  fn_okD (N := ["fold", "name", "sheet", "found", "at"]) F sc_witness (by intro ds M k h; repeat (first | (rcases h with ⟨rfl, _⟩; rfl) | (rcases h with ⟨_, h⟩))) (fun cdv A outer s H E hr => (qss_cons (qs_if (qt_cmp (qnotin (u65 hr)) (qv 1) (q_callH h_possible (hr.mono (by omega)) (by rfl) (qa_cons (qv 0) (qa_cons (qv 2) qa_nil)))) (qss_one (qs_ret q_non)) qss_nil)
  (qss_cons (qs_set (i := 3) sc_witness.nd rfl (by first | exact Or.inl rfl | exact Or.inr rfl) (q_listOwn (by rfl) z_list (by decide +kernel) (qa_cons (qv 2) qa_nil)))
  (qss_cons (qs_for (qi_range1 (by rfl) z_range (qa_cons (q_callB qlen (by rfl) z_len (by decide +kernel) (qa_cons (qv 3) qa_nil)) qa_nil)) (qg_name (i := 4) sc_witness.nd rfl (by first | exact Or.inl rfl | exact Or.inr rfl)) (qss_one (qs_if (qt_cmp qis (q_ix qix (qv 3) (qv 4)) q_non) (qss_cons (qs_asg q_int (qg_subL (qv 3) (qv 4)))
  (qss_one (qs_if (qt_cmp (qnotin (u65 hr)) (qv 1) (q_callH h_possible (hr.mono (by omega)) (by rfl) (qa_cons (qv 0) (qa_cons (q_callTy qtuple (by rfl) z_tuple (by decide +kernel) (qa_cons (qv 3) qa_nil)) qa_nil)))) (qss_one (qs_asg q_int (qg_subL (qv 3) (qv 4)))) qss_nil))) qss_nil)))
  (qss_one (qs_ret (q_callTy qtuple (by rfl) z_tuple (by decide +kernel) (qa_cons (qv 3) qa_nil)))))))) rd_witness
theorem sc_law : FnScope ["_law_script", "_law_many", "_law_words_here", "_law_key_here", "_law_order_here", "_law_fold", "_law_found", "_law_sheet_here", "_law_name", "_law_all_of_it", "_law_here", "_law_k", "_law_no", "_law_thing", "_law_part", "_law_value", "_law_names_here", "_law_number"] ["_law_script"] (defScope s_law) := ⟨rfl, rfl, rfl, by decide +kernel, rfl, by decide +kernel, by decide +kernel⟩
theorem ok_law (F : FunD K "law" "law" (defArgs s_law) (defBody s_law) (defScope s_law) [] [] f fd) (h_L_made : Has P w K mg base "_law_made" 8 ["_law_script", "_law_most"] sp_L_made) (h_L_mixed : Has P w K mg base "_law_mixed" 2 ["_law_script", "_law_k"] sp_L_mixed) (h_L_sheet : Has P w K mg base "_law_sheet" 2 ["_law_number", "_law_many"] sp_L_sheet) (h_L_things : Has P w K mg base "_law_things" 1 ["_law_many"] sp_L_things) (h_answer_of : Has P w K mg base "answer_of" 2 ["fold", "thing"] sp_answer_of) (h_count_name : Has P w K mg base "count_name" 3 ["fold", "name", "sheet"] sp_count_name) (h_counts : Has P w K mg base "counts" 3 ["fold", "many"] sp_counts) (h_folded : Has P w K mg base "folded" 38 ["key", "order"] ((sp_folded C) 12)) (h_possible : Has P w K mg base "possible" 14 ["fold", "sheet"] sp_possible) (h_witness : Has P w K mg base "witness" 15 ["fold", "name", "sheet"] sp_witness) (z_len : mg "len" = none) (z_list : mg "list" = none) (z_min : mg "min" = none) (z_range : mg "range" = none) (z_sorted : mg "sorted" = none) (z_sum : mg "sum" = none) (z_zip : mg "zip" = none) : FnOk P w K mg base CX0 39 f fd ["_law_script"] (liftP K P w spLaw) :=
  fn_okD (N := ["_law_script", "_law_many", "_law_words_here", "_law_key_here", "_law_order_here", "_law_fold", "_law_found", "_law_sheet_here", "_law_name", "_law_all_of_it", "_law_here", "_law_k", "_law_no", "_law_thing", "_law_part", "_law_value", "_law_names_here", "_law_number"]) F sc_law (by intro ds M k h; repeat (first | (rcases h with ⟨rfl, _⟩; rfl) | (rcases h with ⟨_, h⟩))) (fun cdv A outer s H E hr => (qss_cons (qs_asg (q_callH h_L_made (hr.mono (by omega)) (by rfl) (qa_cons (qv 0) (qa_cons q_int qa_nil))) (qg_tup (qgs_cons (qg_name (i := 1) sc_law.nd rfl (by first | exact Or.inl rfl | exact Or.inr rfl)) (qgs_cons (qg_name (i := 2) sc_law.nd rfl (by first | exact Or.inl rfl | exact Or.inr rfl)) (qgs_cons (qg_name (i := 3) sc_law.nd rfl (by first | exact Or.inl rfl | exact Or.inr rfl)) (qgs_cons (qg_name (i := 4) sc_law.nd rfl (by first | exact Or.inl rfl | exact Or.inr rfl)) qgs_nil))))))
  (qss_cons (qs_set (i := 5) sc_law.nd rfl (by first | exact Or.inl rfl | exact Or.inr rfl) (q_callH h_folded (hr.mono (by omega)) (by rfl) (qa_cons (qv 3) (qa_cons (qv 4) qa_nil))))
  (qss_cons (qs_set (i := 6) sc_law.nd rfl (by first | exact Or.inl rfl | exact Or.inr rfl) (q_callH h_counts (hr.mono (by omega)) (by rfl) (qa_cons (qv 5) (qa_cons (qv 1) qa_nil))))
  (qss_cons (qs_if (qt_cmp (qne (u64 hr)) (q_callB (qsum rfl) (by rfl) z_sum (by decide +kernel) (qa_cons (q_lc2 sc_law.nd (qi_tup (qv 6)) (blkOk_by (own := [("_law_names_here", 16), ("_law_number", 17)]) (N := ["_law_script", "_law_many", "_law_words_here", "_law_key_here", "_law_order_here", "_law_fold", "_law_found", "_law_sheet_here", "_law_name", "_law_all_of_it", "_law_here", "_law_k", "_law_no", "_law_thing", "_law_part", "_law_value", "_law_names_here", "_law_number"]) (sc := defScope s_law) (by decide +kernel)) (fun _ _ _ _ _ => pg_tup rfl (pgs_cons (pg_name (i := 16) sc_law.nd rfl (Or.inl rfl)) (pgs_cons (pg_name (i := 17) sc_law.nd rfl (Or.inl rfl)) pgs_nil))) (fun _ _ _ _ _ => no_blk) (fun _ _ _ _ _ => QE.blk (qv 17))) qa_nil)) (q_callB qlen (by rfl) z_len (by decide +kernel) (qa_cons (q_callH h_L_things (hr.mono (by omega)) (by rfl) (qa_cons (qv 1) qa_nil)) qa_nil))) (qss_one (qs_ret q_bl)) qss_nil)
  (qss_cons (qs_if (QW.qt (qw_or (qt_cmp qlt (q_callB (qminL rfl) (by rfl) z_min (by decide +kernel) (qa_cons (q_lc2 sc_law.nd (qi_tup (qv 6)) (blkOk_by (own := [("_law_names_here", 16), ("_law_number", 17)]) (N := ["_law_script", "_law_many", "_law_words_here", "_law_key_here", "_law_order_here", "_law_fold", "_law_found", "_law_sheet_here", "_law_name", "_law_all_of_it", "_law_here", "_law_k", "_law_no", "_law_thing", "_law_part", "_law_value", "_law_names_here", "_law_number"]) (sc := defScope s_law) (by decide +kernel)) (fun _ _ _ _ _ => pg_tup rfl (pgs_cons (pg_name (i := 16) sc_law.nd rfl (Or.inl rfl)) (pgs_cons (pg_name (i := 17) sc_law.nd rfl (Or.inl rfl)) pgs_nil))) (fun _ _ _ _ _ => no_blk) (fun _ _ _ _ _ => QE.blk (qv 17))) qa_nil)) q_int) (qw_or1 (qt_cmp (qne (u64 hr)) (q_callB (qsortedA (u64 hr)) (by rfl) z_sorted (by decide +kernel) (qa_cons (qv 6) qa_nil)) (q_callTy qlist (by rfl) z_list (by decide +kernel) (qa_cons (qv 6) qa_nil)))))) (qss_one (qs_ret q_bl)) qss_nil)
  (qss_cons (qs_set (i := 7) sc_law.nd rfl (by first | exact Or.inl rfl | exact Or.inr rfl) (q_callH h_L_sheet (hr.mono (by omega)) (by rfl) (qa_cons (q_callH h_L_mixed (hr.mono (by omega)) (by rfl) (qa_cons (qv 0) (qa_cons q_int qa_nil))) (qa_cons (qv 1) qa_nil))))
  (qss_cons (qs_for (qi_tup (qv 2)) (qg_name (i := 8) sc_law.nd rfl (by first | exact Or.inl rfl | exact Or.inr rfl)) (qss_cons (qs_set (i := 9) sc_law.nd rfl (by first | exact Or.inl rfl | exact Or.inr rfl) (q_callB (qsum rfl) (by rfl) z_sum (by decide +kernel) (qa_cons (q_lc2 sc_law.nd (qi_tup (qv 6)) (blkOk_by (own := [("_law_names_here", 16), ("_law_number", 17)]) (N := ["_law_script", "_law_many", "_law_words_here", "_law_key_here", "_law_order_here", "_law_fold", "_law_found", "_law_sheet_here", "_law_name", "_law_all_of_it", "_law_here", "_law_k", "_law_no", "_law_thing", "_law_part", "_law_value", "_law_names_here", "_law_number"]) (sc := defScope s_law) (by decide +kernel)) (fun _ _ _ _ _ => pg_tup rfl (pgs_cons (pg_name (i := 16) sc_law.nd rfl (Or.inl rfl)) (pgs_cons (pg_name (i := 17) sc_law.nd rfl (Or.inl rfl)) pgs_nil))) (fun _ _ _ _ _ => QT.blk (qt_cmp (qin (u65 hr)) (qv 8) (qv 16))) (fun _ _ _ _ _ => QE.blk (qv 17))) qa_nil)))
  (qss_cons (qs_if (qt_cmp (qne (u64 hr)) (q_callH h_count_name (hr.mono (by omega)) (by rfl) (qa_cons (qv 5) (qa_cons (qv 8) (qa_cons (q_op qmulA (q_tup (qa_cons q_non qa_nil)) (qv 1)) qa_nil)))) (qv 9)) (qss_one (qs_ret q_bl)) qss_nil)
  (qss_cons (qs_set (i := 10) sc_law.nd rfl (by first | exact Or.inl rfl | exact Or.inr rfl) (q_callH h_count_name (hr.mono (by omega)) (by rfl) (qa_cons (qv 5) (qa_cons (qv 8) (qa_cons (qv 7) qa_nil)))))
  (qss_cons (qs_for (qi_range1 (by rfl) z_range (qa_cons (qv 1) qa_nil)) (qg_name (i := 11) sc_law.nd rfl (by first | exact Or.inl rfl | exact Or.inr rfl)) (qss_one (qs_if (qt_cmp qis (q_ix qix (qv 7) (qv 11)) q_non) (qss_cons (qs_set (i := 12) sc_law.nd rfl (by first | exact Or.inl rfl | exact Or.inr rfl) (q_callH h_count_name (hr.mono (by omega)) (by rfl) (qa_cons (qv 5) (qa_cons (qv 8) (qa_cons (q_op qadd (q_op qadd (q_slice (qv 7) qo_none (qo_some (qv 11))) (q_tup (qa_cons q_int qa_nil))) (q_slice (qv 7) (qo_some (q_op qadd (qv 11) q_int)) qo_none)) qa_nil)))))
  (qss_one (qs_if (qt_cmp (qne (u64 hr)) (qv 10) (q_op qadd (qv 12) (q_callH h_count_name (hr.mono (by omega)) (by rfl) (qa_cons (qv 5) (qa_cons (qv 8) (qa_cons (q_op qadd (q_op qadd (q_slice (qv 7) qo_none (qo_some (qv 11))) (q_tup (qa_cons q_int qa_nil))) (q_slice (qv 7) (qo_some (q_op qadd (qv 11) q_int)) qo_none)) qa_nil)))))) (qss_one (qs_ret q_bl)) qss_nil))) qss_nil)))
  (qss_cons (qs_set (i := 13) sc_law.nd rfl (by first | exact Or.inl rfl | exact Or.inr rfl) (q_callH h_witness (hr.mono (by omega)) (by rfl) (qa_cons (qv 5) (qa_cons (qv 8) (qa_cons (qv 7) qa_nil)))))
  (qss_cons (qs_if (QW.qt (qw_or (qt_cmp (qne (u64 hr)) (q_cmp qgt (qv 10) q_int) (q_cmp (qin (u65 hr)) (qv 8) (q_callH h_possible (hr.mono (by omega)) (by rfl) (qa_cons (qv 5) (qa_cons (qv 7) qa_nil))))) (qw_or1 (qt_cmp (qne (u64 hr)) (q_cmp qis (qv 13) q_non) (q_cmp (qeq (u64 hr)) (qv 10) q_int))))) (qss_one (qs_ret q_bl)) qss_nil)
  (qss_cons (qs_if (QW.qt (qw_and (qt_cmp qisnot (qv 13) q_non) (qw_and1 (qt_cmp (qnotin (u65 hr)) (qv 8) (q_callH h_answer_of (hr.mono (by omega)) (by rfl) (qa_cons (qv 5) (qa_cons (qv 13) qa_nil))))))) (qss_one (qs_ret q_bl)) qss_nil)
  (qss_one (qs_if (qt_cmp qisnot (qv 13) q_non) (qss_one (qs_for (qi_zip (by rfl) z_zip (qa_cons (qv 7) (qa_cons (qv 13) qa_nil))) (qg_tup (qgs_cons (qg_name (i := 14) sc_law.nd rfl (by first | exact Or.inl rfl | exact Or.inr rfl)) (qgs_cons (qg_name (i := 15) sc_law.nd rfl (by first | exact Or.inl rfl | exact Or.inr rfl)) qgs_nil))) (qss_one (qs_if (QW.qt (qw_and (qt_cmp qisnot (qv 14) q_non) (qw_and1 (qt_cmp (qne (u64 hr)) (qv 14) (qv 15))))) (qss_one (qs_ret q_bl)) qss_nil)))) qss_nil))))))))))
  (qss_one (qs_ret q_bl)))))))))) (rd_k32 C)
end
theorem facts {P : Program} {w : World} {K : PySem.W.Frag} {h : Heap} {mg : Str → Option Value} {fa : Addr} (X : K.In h) (G : h.Ns mainGlobals mg) (hfa : mg ("law" : Str) = some (.ref fa)) (c : He.SaysD fas fns K) :
    ∃ fd : FuncData, (∀ (s : Shared) (v : Value), BindsTo s fd ⟨[v], []⟩ [("_law_script", v)]) ∧ ∀ base : Heap, K.In base → base.Ns mainGlobals mg → FnOk P w K mg base CX0 39 fa fd ["_law_script"] (liftP K P w spLaw) := by
  obtain ⟨fd_L_drawn, F_L_drawn⟩ := c.def_ 23 (d := d_L_drawn) rfl
  obtain ⟨fd_L_names, F_L_names⟩ := c.def_ 25 (d := d_L_names) rfl
  obtain ⟨fd_L_key, F_L_key⟩ := c.def_ 26 (d := d_L_key) rfl
  obtain ⟨fd_L_cell_at, F_L_cell_at⟩ := c.def_ 21 (d := d_L_cell_at) rfl
  obtain ⟨fd_L_mixed, F_L_mixed⟩ := c.def_ 22 (d := d_L_mixed) rfl
  obtain ⟨fd_L_order, F_L_order⟩ := c.def_ 27 (d := d_L_order) rfl
  obtain ⟨fd_L_words, F_L_words⟩ := c.def_ 24 (d := d_L_words) rfl
  obtain ⟨fd_L_made, F_L_made⟩ := c.def_ 31 (d := d_L_made) rfl
  obtain ⟨fd_L_sheet, F_L_sheet⟩ := c.def_ 28 (d := d_L_sheet) rfl
  obtain ⟨fd_L_things, F_L_things⟩ := c.def_ 29 (d := d_L_things) rfl
  obtain ⟨fd_is_leaf, F_is_leaf⟩ := c.def_ 0 (d := d_is_leaf) rfl
  obtain ⟨fd_answer_of, F_answer_of⟩ := c.def_ 9 (d := d_answer_of) rfl
  obtain ⟨fd_shares_of, F_shares_of⟩ := c.def_ 5 (d := d_shares_of) rfl
  obtain ⟨fd_count_name, F_count_name⟩ := c.def_ 7 (d := d_count_name) rfl
  obtain ⟨fd_counts, F_counts⟩ := c.def_ 6 (d := d_counts) rfl
  obtain ⟨fd_m_init, F_m_init⟩ := c.def_ 10 (d := d_m_init) rfl
  obtain ⟨fd_left_from, F_left_from⟩ := c.def_ 1 (d := d_left_from) rfl
  obtain ⟨fd_m_fold, F_m_fold⟩ := c.def_ 14 (d := d_m_fold) rfl
  obtain ⟨fd_m_lay, F_m_lay⟩ := c.def_ 11 (d := d_m_lay) rfl
  obtain ⟨fd_m_leaf, F_m_leaf⟩ := c.def_ 12 (d := d_m_leaf) rfl
  obtain ⟨fd_m_node, F_m_node⟩ := c.def_ 13 (d := d_m_node) rfl
  obtain ⟨fd_copied, F_copied⟩ := c.def_ 18 (d := d_copied) rfl
  obtain ⟨fd_goals_at, F_goals_at⟩ := c.def_ 16 (d := d_goals_at) rfl
  obtain ⟨fd_m_rank, F_m_rank⟩ := c.def_ 15 (d := d_m_rank) rfl
  obtain ⟨fd_switched_from, F_switched_from⟩ := c.def_ 17 (d := d_switched_from) rfl
  obtain ⟨fd_switched, F_switched⟩ := c.def_ 19 (d := d_switched) rfl
  obtain ⟨fd_folded, F_folded⟩ := c.def_ 20 (d := d_folded) rfl
  obtain ⟨fd_leaves_from, F_leaves_from⟩ := c.def_ 2 (d := d_leaves_from) rfl
  obtain ⟨fd_leaves, F_leaves⟩ := c.def_ 3 (d := d_leaves) rfl
  obtain ⟨fd_possible, F_possible⟩ := c.def_ 4 (d := d_possible) rfl
  obtain ⟨fd_witness, F_witness⟩ := c.def_ 8 (d := d_witness) rfl
  obtain ⟨fd_law, F_law⟩ := c.def_ 32 (d := d_law) rfl
  have el := hfa.symm.trans (He.glo_ok X G (c.fact 26 (f := .glo "law") rfl))
  cases el
  have z_enumerate := He.free_ok X G (c.fact 38 (f := .free "enumerate") rfl)
  have z_int := He.free_ok X G (c.fact 39 (f := .free "int") rfl)
  have z_len := He.free_ok X G (c.fact 40 (f := .free "len") rfl)
  have z_list := He.free_ok X G (c.fact 41 (f := .free "list") rfl)
  have z_min := He.free_ok X G (c.fact 42 (f := .free "min") rfl)
  have z_range := He.free_ok X G (c.fact 43 (f := .free "range") rfl)
  have z_set := He.free_ok X G (c.fact 44 (f := .free "set") rfl)
  have z_sorted := He.free_ok X G (c.fact 45 (f := .free "sorted") rfl)
  have z_sum := He.free_ok X G (c.fact 46 (f := .free "sum") rfl)
  have z_tuple := He.free_ok X G (c.fact 47 (f := .free "tuple") rfl)
  have z_zip := He.free_ok X G (c.fact 48 (f := .free "zip") rfl)
  have cl_Rows := He.cls_ok (c.fact 28 (f := .cls "Rows") rfl)
  have no_known := He.noat_ok (c.fact 32 (f := .noat "Rows" "known") rfl)
  have no_laid := He.noat_ok (c.fact 31 (f := .noat "Rows" "laid") rfl)
  have no_order := He.noat_ok (c.fact 30 (f := .noat "Rows" "order") rfl)
  have g_L_drawn := He.glo_ok X G (c.fact 17 (f := .glo "_law_drawn") rfl)
  have b_L_drawn : Binds K fd_L_drawn ["_law_number", "_law_k"] [] := F_L_drawn.bindsN fun _ _ _ _ _ _ us hl => match us, hl with | [_, _], _ => rfl
  have g_L_names := He.glo_ok X G (c.fact 19 (f := .glo "_law_names") rfl)
  have b_L_names : Binds K fd_L_names ["_law_number", "_law_words_here"] [] := F_L_names.bindsN fun _ _ _ _ _ _ us hl => match us, hl with | [_, _], _ => rfl
  have g_L_key := He.glo_ok X G (c.fact 20 (f := .glo "_law_key") rfl)
  have b_L_key : Binds K fd_L_key ["_law_number", "_law_words_here", "_law_many", "_law_deep"] [] := F_L_key.bindsN fun _ _ _ _ _ _ us hl => match us, hl with | [_, _, _, _], _ => rfl
  have g_L_cell_at := He.glo_ok X G (c.fact 15 (f := .glo "_law_cell_at") rfl)
  have b_L_cell_at : Binds K fd_L_cell_at ["_law_script", "_law_k"] [] := F_L_cell_at.bindsN fun _ _ _ _ _ _ us hl => match us, hl with | [_, _], _ => rfl
  have g_L_mixed := He.glo_ok X G (c.fact 16 (f := .glo "_law_mixed") rfl)
  have b_L_mixed : Binds K fd_L_mixed ["_law_script", "_law_k"] [] := F_L_mixed.bindsN fun _ _ _ _ _ _ us hl => match us, hl with | [_, _], _ => rfl
  have g_L_order := He.glo_ok X G (c.fact 21 (f := .glo "_law_order") rfl)
  have b_L_order : Binds K fd_L_order ["_law_number", "_law_many"] [] := F_L_order.bindsN fun _ _ _ _ _ _ us hl => match us, hl with | [_, _], _ => rfl
  have g_L_words := He.glo_ok X G (c.fact 18 (f := .glo "_law_words") rfl)
  have b_L_words : Binds K fd_L_words ["_law_number"] [] := F_L_words.bindsN fun _ _ _ _ _ _ us hl => match us, hl with | [_], _ => rfl
  have g_L_made := He.glo_ok X G (c.fact 25 (f := .glo "_law_made") rfl)
  have b_L_made : Binds K fd_L_made ["_law_script", "_law_most"] [] := F_L_made.bindsN fun _ _ _ _ _ _ us hl => match us, hl with | [_, _], _ => rfl
  have g_L_sheet := He.glo_ok X G (c.fact 22 (f := .glo "_law_sheet") rfl)
  have b_L_sheet : Binds K fd_L_sheet ["_law_number", "_law_many"] [] := F_L_sheet.bindsN fun _ _ _ _ _ _ us hl => match us, hl with | [_, _], _ => rfl
  have g_L_things := He.glo_ok X G (c.fact 23 (f := .glo "_law_things") rfl)
  have b_L_things : Binds K fd_L_things ["_law_many"] [] := F_L_things.bindsN fun _ _ _ _ _ _ us hl => match us, hl with | [_], _ => rfl
  have g_is_leaf := He.glo_ok X G (c.fact 0 (f := .glo "is_leaf") rfl)
  have b_is_leaf : Binds K fd_is_leaf ["row"] [] := F_is_leaf.bindsN fun _ _ _ _ _ _ us hl => match us, hl with | [_], _ => rfl
  have g_answer_of := He.glo_ok X G (c.fact 9 (f := .glo "answer_of") rfl)
  have b_answer_of : Binds K fd_answer_of ["fold", "thing"] [] := F_answer_of.bindsN fun _ _ _ _ _ _ us hl => match us, hl with | [_, _], _ => rfl
  have g_shares_of := He.glo_ok X G (c.fact 5 (f := .glo "shares_of") rfl)
  have b_shares_of : Binds K fd_shares_of ["fold", "sheet"] [] := F_shares_of.bindsN fun _ _ _ _ _ _ us hl => match us, hl with | [_, _], _ => rfl
  have g_count_name := He.glo_ok X G (c.fact 7 (f := .glo "count_name") rfl)
  have b_count_name : Binds K fd_count_name ["fold", "name", "sheet"] [] := F_count_name.bindsN fun _ _ _ _ _ _ us hl => match us, hl with | [_, _, _], _ => rfl
  have g_counts := He.glo_ok X G (c.fact 6 (f := .glo "counts") rfl)
  have b_counts : Binds K fd_counts ["fold", "many"] [] := F_counts.bindsN fun _ _ _ _ _ _ us hl => match us, hl with | [_, _], _ => rfl
  have b_m_init : Binds K fd_m_init ["self", "order"] [] := F_m_init.bindsN fun _ _ _ _ _ _ us hl => match us, hl with | [_, _], _ => rfl
  have g_left_from := He.glo_ok X G (c.fact 1 (f := .glo "left_from") rfl)
  have b_left_from : Binds K fd_left_from ["fold", "at", "met"] [] := F_left_from.bindsN fun _ _ _ _ _ _ us hl => match us, hl with | [_, _, _], _ => rfl
  have b_m_fold : Binds K fd_m_fold ["self", "top"] [] := F_m_fold.bindsN fun _ _ _ _ _ _ us hl => match us, hl with | [_, _], _ => rfl
  have b_m_lay : Binds K fd_m_lay ["self", "row"] [] := F_m_lay.bindsN fun _ _ _ _ _ _ us hl => match us, hl with | [_, _], _ => rfl
  have b_m_leaf : Binds K fd_m_leaf ["self", "names"] [] := F_m_leaf.bindsN fun _ _ _ _ _ _ us hl => match us, hl with | [_, _], _ => rfl
  have b_m_node : Binds K fd_m_node ["self", "character", "no", "yes"] [] := F_m_node.bindsN fun _ _ _ _ _ _ us hl => match us, hl with | [_, _, _, _], _ => rfl
  have g_copied := He.glo_ok X G (c.fact 12 (f := .glo "copied") rfl)
  have b_copied : Binds K fd_copied ["rows", "fold", "at", "met"] [] := F_copied.bindsN fun _ _ _ _ _ _ us hl => match us, hl with | [_, _, _, _], _ => rfl
  have g_goals_at := He.glo_ok X G (c.fact 10 (f := .glo "goals_at") rfl)
  have b_goals_at : Binds K fd_goals_at ["fold", "at", "character"] [] := F_goals_at.bindsN fun _ _ _ _ _ _ us hl => match us, hl with | [_, _, _], _ => rfl
  have b_m_rank : Binds K fd_m_rank ["self", "fold", "at"] [] := F_m_rank.bindsN fun _ _ _ _ _ _ us hl => match us, hl with | [_, _, _], _ => rfl
  have g_switched_from := He.glo_ok X G (c.fact 11 (f := .glo "switched_from") rfl)
  have b_switched_from : Binds K fd_switched_from ["rows", "character", "pair", "ats", "met"] [] := F_switched_from.bindsN fun _ _ _ _ _ _ us hl => match us, hl with | [_, _, _, _, _], _ => rfl
  have g_switched := He.glo_ok X G (c.fact 13 (f := .glo "switched") rfl)
  have b_switched : Binds K fd_switched ["character", "no", "yes", "order"] [] := F_switched.bindsN fun _ _ _ _ _ _ us hl => match us, hl with | [_, _, _, _], _ => rfl
  have g_folded := He.glo_ok X G (c.fact 14 (f := .glo "folded") rfl)
  have b_folded : Binds K fd_folded ["key", "order"] [] := F_folded.bindsN fun _ _ _ _ _ _ us hl => match us, hl with | [_, _], _ => rfl
  have g_leaves_from := He.glo_ok X G (c.fact 2 (f := .glo "leaves_from") rfl)
  have b_leaves_from : Binds K fd_leaves_from ["fold", "sheet", "at", "met"] [] := F_leaves_from.bindsN fun _ _ _ _ _ _ us hl => match us, hl with | [_, _, _, _], _ => rfl
  have g_leaves := He.glo_ok X G (c.fact 3 (f := .glo "leaves") rfl)
  have b_leaves : Binds K fd_leaves ["fold", "sheet"] [] := F_leaves.bindsN fun _ _ _ _ _ _ us hl => match us, hl with | [_, _], _ => rfl
  have g_possible := He.glo_ok X G (c.fact 4 (f := .glo "possible") rfl)
  have b_possible : Binds K fd_possible ["fold", "sheet"] [] := F_possible.bindsN fun _ _ _ _ _ _ us hl => match us, hl with | [_, _], _ => rfl
  have g_witness := He.glo_ok X G (c.fact 8 (f := .glo "witness") rfl)
  have b_witness : Binds K fd_witness ["fold", "name", "sheet"] [] := F_witness.bindsN fun _ _ _ _ _ _ us hl => match us, hl with | [_, _, _], _ => rfl
  have b := FunD.bindsA (ps := ["_law_script"]) F_law fun _ _ _ _ _ _ us hl => match us, hl with | [_], _ => rfl
  refine ⟨fd_law, fun s v => b s [v] rfl, fun base _ _ => ?_⟩
  have h_L_drawn : Has P w K mg base "_law_drawn" 1 ["_law_number", "_law_k"] sp_L_drawn := ⟨_, _, ok_L_drawn F_L_drawn , g_L_drawn, F_L_drawn.kp, b_L_drawn⟩
  have h_L_names : Has P w K mg base "_law_names" 1 ["_law_number", "_law_words_here"] sp_L_names := ⟨_, _, ok_L_names F_L_names z_enumerate z_tuple, g_L_names, F_L_names.kp, b_L_names⟩
  have h_L_key : Has P w K mg base "_law_key" 7 ["_law_number", "_law_words_here", "_law_many", "_law_deep"] (sp_L_key 5) := ⟨_, _, ok_L_key F_L_key h_L_drawn h_L_names g_L_key b_L_key 5, g_L_key, F_L_key.kp, b_L_key⟩
  have h_L_cell_at : Has P w K mg base "_law_cell_at" 1 ["_law_script", "_law_k"] sp_L_cell := ⟨_, _, ok_L_cell_at F_L_cell_at z_len, g_L_cell_at, F_L_cell_at.kp, b_L_cell_at⟩
  have h_L_mixed : Has P w K mg base "_law_mixed" 2 ["_law_script", "_law_k"] sp_L_mixed := ⟨_, _, ok_L_mixed F_L_mixed h_L_cell_at, g_L_mixed, F_L_mixed.kp, b_L_mixed⟩
  have h_L_order : Has P w K mg base "_law_order" 2 ["_law_number", "_law_many"] sp_L_order := ⟨_, _, ok_L_order F_L_order h_L_drawn z_len z_range z_tuple, g_L_order, F_L_order.kp, b_L_order⟩
  have h_L_words : Has P w K mg base "_law_words" 2 ["_law_number"] sp_L_words := ⟨_, _, ok_L_words F_L_words h_L_drawn z_int z_range z_sorted z_tuple, g_L_words, F_L_words.kp, b_L_words⟩
  have h_L_made : Has P w K mg base "_law_made" 8 ["_law_script", "_law_most"] sp_L_made := ⟨_, _, ok_L_made F_L_made h_L_key h_L_mixed h_L_order h_L_words, g_L_made, F_L_made.kp, b_L_made⟩
  have h_L_sheet : Has P w K mg base "_law_sheet" 2 ["_law_number", "_law_many"] sp_L_sheet := ⟨_, _, ok_L_sheet F_L_sheet h_L_drawn z_range z_tuple, g_L_sheet, F_L_sheet.kp, b_L_sheet⟩
  have h_L_things : Has P w K mg base "_law_things" 1 ["_law_many"] sp_L_things := ⟨_, _, ok_L_things F_L_things z_range z_sorted, g_L_things, F_L_things.kp, b_L_things⟩
  have h_is_leaf : Has P w K mg base "is_leaf" 1 ["row"] sp_is_leaf := ⟨_, _, ok_is_leaf F_is_leaf , g_is_leaf, F_is_leaf.kp, b_is_leaf⟩
  have h_answer_of : Has P w K mg base "answer_of" 2 ["fold", "thing"] sp_answer_of := ⟨_, _, ok_answer_of F_answer_of h_is_leaf, g_answer_of, F_answer_of.kp, b_answer_of⟩
  have h_shares_of : Has P w K mg base "shares_of" 2 ["fold", "sheet"] sp_shares_of := ⟨_, _, ok_shares_of F_shares_of h_is_leaf, g_shares_of, F_shares_of.kp, b_shares_of⟩
  have h_count_name : Has P w K mg base "count_name" 3 ["fold", "name", "sheet"] sp_count_name := ⟨_, _, ok_count_name F_count_name h_shares_of z_sum, g_count_name, F_count_name.kp, b_count_name⟩
  have h_counts : Has P w K mg base "counts" 3 ["fold", "many"] sp_counts := ⟨_, _, ok_counts F_counts h_shares_of z_sorted z_tuple, g_counts, F_counts.kp, b_counts⟩
  have h_Rows : HasC P w K mg base "Rows" (He.ga K "Rows") 1 ["self", "order"] (sp_m_init (He.ga K "Rows")) := ⟨_, _, ok_m_init F_m_init cl_Rows no_known no_laid no_order, He.mkr_ok (c.fact 29 (f := .mkr "Rows") rfl), He.glo_ok X G (c.fact 27 (f := .glo "Rows") rfl), b_m_init⟩
  have h_left_from : Has P w K mg base "left_from" 12 ["fold", "at", "met"] (sp_left_from 10) := ⟨_, _, ok_left_from F_left_from h_is_leaf g_left_from b_left_from 10, g_left_from, F_left_from.kp, b_left_from⟩
  have h_m_fold : HasM P w K mg base (He.ga K "Rows") "fold" 13 ["self", "top"] (sp_m_fold (He.ga K "Rows") 10) := ⟨_, _, ok_m_fold F_m_fold h_is_leaf h_left_from cl_Rows no_laid z_tuple, He.meth_ok (c.fact 36 (f := .meth "Rows" "fold") rfl), b_m_fold⟩
  have h_m_lay : HasM P w K mg base (He.ga K "Rows") "lay" 1 ["self", "row"] (sp_m_lay (He.ga K "Rows")) := ⟨_, _, ok_m_lay F_m_lay cl_Rows no_known no_laid z_len, He.meth_ok (c.fact 33 (f := .meth "Rows" "lay") rfl), b_m_lay⟩
  have h_m_leaf : HasM P w K mg base (He.ga K "Rows") "leaf" 2 ["self", "names"] (sp_m_leaf (He.ga K "Rows")) := ⟨_, _, ok_m_leaf F_m_leaf h_m_lay cl_Rows, He.meth_ok (c.fact 34 (f := .meth "Rows" "leaf") rfl), b_m_leaf⟩
  have h_m_node : HasM P w K mg base (He.ga K "Rows") "node" 2 ["self", "character", "no", "yes"] (sp_m_node (He.ga K "Rows")) := ⟨_, _, ok_m_node F_m_node h_m_lay cl_Rows, He.meth_ok (c.fact 35 (f := .meth "Rows" "node") rfl), b_m_node⟩
  have h_copied : Has P w K mg base "copied" 13 ["rows", "fold", "at", "met"] ((sp_copied (He.ga K "Rows")) 10) := ⟨_, _, ok_copied F_copied h_is_leaf h_m_leaf h_m_node cl_Rows g_copied b_copied 10, g_copied, F_copied.kp, b_copied⟩
  have h_goals_at : Has P w K mg base "goals_at" 2 ["fold", "at", "character"] sp_goals_at := ⟨_, _, ok_goals_at F_goals_at h_is_leaf, g_goals_at, F_goals_at.kp, b_goals_at⟩
  have h_m_rank : HasM P w K mg base (He.ga K "Rows") "rank" 2 ["self", "fold", "at"] (sp_m_rank (He.ga K "Rows")) := ⟨_, _, ok_m_rank F_m_rank h_is_leaf cl_Rows no_order z_len, He.meth_ok (c.fact 37 (f := .meth "Rows" "rank") rfl), b_m_rank⟩
  have h_switched_from : Has P w K mg base "switched_from" 24 ["rows", "character", "pair", "ats", "met"] ((sp_switched_from (He.ga K "Rows") 10) 10) := ⟨_, _, ok_switched_from F_switched_from h_copied h_goals_at h_m_node h_m_rank cl_Rows no_order z_min g_switched_from b_switched_from 10, g_switched_from, F_switched_from.kp, b_switched_from⟩
  have h_switched : Has P w K mg base "switched" 25 ["character", "no", "yes", "order"] (sp_switched (He.ga K "Rows")) := ⟨_, _, ok_switched F_switched h_Rows h_m_fold h_switched_from cl_Rows z_len, g_switched, F_switched.kp, b_switched⟩
  have h_folded : Has P w K mg base "folded" 38 ["key", "order"] ((sp_folded (He.ga K "Rows")) 12) := ⟨_, _, ok_folded F_folded h_switched g_folded b_folded 12, g_folded, F_folded.kp, b_folded⟩
  have h_leaves_from : Has P w K mg base "leaves_from" 12 ["fold", "sheet", "at", "met"] (sp_leaves_from 10) := ⟨_, _, ok_leaves_from F_leaves_from h_is_leaf g_leaves_from b_leaves_from 10, g_leaves_from, F_leaves_from.kp, b_leaves_from⟩
  have h_leaves : Has P w K mg base "leaves" 13 ["fold", "sheet"] sp_leaves := ⟨_, _, ok_leaves F_leaves h_is_leaf h_leaves_from z_len, g_leaves, F_leaves.kp, b_leaves⟩
  have h_possible : Has P w K mg base "possible" 14 ["fold", "sheet"] sp_possible := ⟨_, _, ok_possible F_possible h_leaves z_list z_set z_sorted z_tuple, g_possible, F_possible.kp, b_possible⟩
  have h_witness : Has P w K mg base "witness" 15 ["fold", "name", "sheet"] sp_witness := ⟨_, _, ok_witness F_witness h_possible z_len z_list z_range z_tuple, g_witness, F_witness.kp, b_witness⟩
  exact ok_law F_law h_L_made h_L_mixed h_L_sheet h_L_things h_answer_of h_count_name h_counts h_folded h_possible h_witness z_len z_list z_min z_range z_sorted z_sum z_zip
end Kh
open PySem PySem.W PySem.Calls PyProof.Rows
theorem PySem.Challenge.cw_keyfold_k32_whole_sums_holds : PySem.Challenge.rw_keyfold_k32_whole_sums.Holds := by
  w_on; o_law
  refine HandSHeadRun.head_any (r := OpenLaw.row PySem.Challenge.rw_keyfold_k32_whole_sums) (q := view (OpenLaw.row PySem.Challenge.rw_keyfold_k32_whole_sums).prog [33]) (H := Kh.hk) (ob := Kh.ob)
    (M := 3000) (loose := Kh.names) (d := HandSHeadRun.topDef (OpenLaw.row PySem.Challenge.rw_keyfold_k32_whole_sums).prog 33) (kwd := []) Kh.ob_eq
    (by kernel_rfl) (fun s => by kernel_rfl) Kh.run (by kernel_rfl) (by kernel_rfl) (by kernel_rfl) (by rfl) (by first | assumption | decide +kernel)
    (by decide +kernel) ⟨rfl, rfl, rfl, rfl, rfl, by decide +kernel⟩ ?hw ?hc
  case hw => w_witness2
  case hc =>
    refine L2.walk_ofE (l := PySem.Challenge.rw_keyfold_k32_whole_sums) (n := 63) (k := 39) (x := "_law_script")
      (CX := L2.CX0) rfl (by decide) (by kernel_rfl) ⟨rfl, by decide, by decide⟩ ?F (fun _ _ _ _ z => z)
    intro w mg fa h Y G hmg0
    obtain ⟨K, KX, c⟩ := Y
    have hmg : mg ("law" : PySem.Str) = some (.ref fa) := by
      have e : (HandSHeadRun.topDef (OpenLaw.row PySem.Challenge.rw_keyfold_k32_whole_sums).prog 33).name = ("law" : PySem.Str) := by kernel_rfl
      rw [← e]
      exact hmg0
    obtain ⟨fd, hb, hF⟩ := Kh.facts (P := (PySem.Challenge.rw_keyfold_k32_whole_sums).prog) (w := w) KX G hmg c
    exact ⟨K, fd, Kf.liftP K (PySem.Challenge.rw_keyfold_k32_whole_sums).prog w Kf.spLaw, KX, hb, fun H a ns hl _ hS => Kf.law_sp hl hS, hF⟩

