import PyProof.Rows.All
import HandS.Base
import HandS.Call
import HandS.ClsMeth
import HandS.Comp
import HandS.Conv
import HandS.Deep
import HandS.Dict
import HandS.DictComp
import HandS.EndTab
import HandS.Exc
import HandS.ExcBuiltin
import HandS.ExcField
import HandS.ExcInit
import HandS.ExcIs
import HandS.ExcOwn
import HandS.ExcValue
import HandS.ForMost
import HandS.HotCalls
import HandS.IsInst
import HandS.Iter
import HandS.Lambda
import HandS.More
import HandS.NestedK
import HandS.New
import HandS.RaiseMore
import HandS.Set
import HandS.SetBool
import HandS.SetFor
import HandS.SetTxt0
import HandS.SortRule
import HandS.Strs
import HandS.Style
import HandS.Text
import HandS.TryOnly
import HandS.TupAny
import HandS.TupLe
import HandS.TupMul
import HandS.TupSets
import HandS.Wide
import HandS.Words
import HandS.WordsExc
import HandS.Zip
import KE.GoesEnum
import KE.GoesEnumKw
import KE.KDictCopyH
import KE.KDictKeyed
import KE.KDictList
import KE.KDictSum
import KE.KExcInit
import KE.KExcIs
import KE.KSortTupAny
import KE.KTupSum
import OpenK.AllK
import PyProof.ListStr
import PyProof.Rows.FactsExc_KeyError
import PyProof.StrOps
import Wide.All
import Wide.FinOn
import PySem.Challenge.RW_lotkept_k01_errors
set_option Elab.async false
set_option linter.all false
set_option maxRecDepth 100000
set_option maxHeartbeats 4000000
/-! M1: pure data in slots (Rep), what is kept (Kp), the state (Gd). -/
namespace G9
open PySem PySem.Spec L2

/-- what stays from H to H': all but M; the tuples, the locked things in any case -/
structure Kp (M : List Addr) (H H' : Hp) : Prop where
  same : ∀ a o, a ∉ M → H a = some o → H' a = some o
  tup : ∀ a xs, H a = some (.tup xs) → H' a = some (.tup xs)
  frz : ∀ a o u, H a = some (.frz o u) → H' a = some (.frz o u)
  liv : ∀ a, H a ≠ none → H' a ≠ none
theorem Kp.refl (M : List Addr) (H : Hp) : Kp M H H := ⟨fun _ _ _ h => h, fun _ _ h => h, fun _ _ _ h => h, fun _ h => h⟩
theorem Kp.trans {M : List Addr} {H H1 H2 : Hp} (a : Kp M H H1) (b : Kp M H1 H2) : Kp M H H2 :=
  ⟨fun x o n h => b.same x o n (a.same x o n h), fun x o h => b.tup x o (a.tup x o h), fun x o u h => b.frz x o u (a.frz x o u h), fun x h => b.liv x (a.liv x h)⟩
theorem Kp.more {M M' : List Addr} {H H' : Hp} (k : Kp M H H') (s : ∀ a ∈ M, a ∈ M') : Kp M' H H' :=
  ⟨fun x o n h => k.same x o (fun z => n (s x z)) h, k.tup, k.frz, k.liv⟩
theorem Kp.fresh {M : List Addr} {H : Hp} {p : Addr} {o : HO} (h : H p = none) : Kp M H (upd H p o) := by
  refine ⟨fun a u _ e => ?_, fun a u e => ?_, fun a o' u e => ?_, fun a e => ?_⟩
  · rw [upd_ne (ne_of_none e h)]; exact e
  · rw [upd_ne (ne_of_none e h)]; exact e
  · rw [upd_ne (ne_of_none e h)]; exact e
  · by_cases z : a = p
    · rw [z, upd_same]; exact fun q => nomatch q
    · rw [upd_ne z]; exact e
theorem Kp.store {M : List Addr} {H : Hp} {p : Addr} {xs ys : List V} (hp : p ∈ M) (h : H p = some (.lst xs)) : Kp M H (upd H p (.lst ys)) := by
  refine ⟨fun a u n e => ?_, fun a u e => ?_, fun a o' u e => ?_, fun a e => ?_⟩
  · rw [upd_ne (fun z => n (by rw [z]; exact hp))]; exact e
  · rw [upd_ne (ne_of e h (fun z => nomatch z))]; exact e
  · rw [upd_ne (ne_of e h (fun z => nomatch z))]; exact e
  · by_cases z : a = p
    · rw [z, upd_same]; exact fun q => nomatch q
    · rw [upd_ne z]; exact e
theorem Kp.sm {M : List Addr} {H H' : Hp} (k : Kp M H H') (h : ∃ o u, H sysModules = some (.frz o u)) : ∃ o u, H' sysModules = some (.frz o u) := let ⟨o, u, e⟩ := h; ⟨o, u, k.frz _ _ _ e⟩
theorem Kp.sqT {M : List Addr} {H H' : Hp} {K : PySem.W.Frag} {a : Addr} {xs : List V} (k : Kp M H H') (h : SqT K H a xs) : SqT K H' a xs := by
  rcases h with (h | ⟨o, h⟩) | h
  · exact .inl (.inl (k.tup _ _ h))
  · exact .inl (.inr ⟨o, k.frz _ _ _ h⟩)
  · exact .inr h

def keyD : Key → PyData
  | .inl i => .int i
  | .inr x => .str x

mutual
/-- the value v is the data d in H; no list or dict of it stands at an address of M -/
inductive Rep (K : PySem.W.Frag) (H : Hp) (M : List Addr) : V → PyData → Prop
  | non : Rep K H M .non .none
  | bl (b : Bool) : Rep K H M (.bl b) (.bool b)
  | int (i : Int) : Rep K H M (.int i) (.int i)
  | str (x : Str) : Rep K H M (.str x) (.str x)
  | lst {a : Addr} {xs : List V} {ds : List PyData} : a ∉ M → H a = some (.lst xs) → RepL K H M xs ds → Rep K H M (.ref a) (.list ds)
  | tup {a : Addr} {xs : List V} {ds : List PyData} : SqT K H a xs → RepL K H M xs ds → Rep K H M (.ref a) (.tuple ds)
  | dct {a : Addr} {kvs : List (Key × V)} {ds : List PyData} : a ∉ M → H a = some (.dK kvs) → RepL K H M (kvs.map (·.2)) ds → Rep K H M (.ref a) (.dict ((kvs.map fun p => keyD p.1).zip ds))
inductive RepL (K : PySem.W.Frag) (H : Hp) (M : List Addr) : List V → List PyData → Prop
  | nil : RepL K H M [] []
  | cons {v : V} {vs : List V} {d : PyData} {ds : List PyData} : Rep K H M v d → RepL K H M vs ds → RepL K H M (v :: vs) (d :: ds)
end
section
variable {K : PySem.W.Frag} {H H' : Hp} {M M' : List Addr}
mutual
/-- from H, M to H', M': what is out of M stays, what is new in M' was nothing in H -/
theorem Rep.move (k : Kp M H H') (n : ∀ a ∈ M', a ∈ M ∨ H a = none) : ∀ {v : V} {d : PyData}, Rep K H M v d → Rep K H' M' v d
  | _, _, .non => .non
  | _, _, .bl b => .bl b
  | _, _, .int i => .int i
  | _, _, .str x => .str x
  | _, _, .lst hn h r => .lst (fun z => (n _ z).elim hn (fun q => by rw [q] at h; cases h)) (k.same _ _ hn h) (RepL.move k n r)
  | _, _, .tup h r => .tup (k.sqT h) (RepL.move k n r)
  | _, _, .dct hn h r => .dct (fun z => (n _ z).elim hn (fun q => by rw [q] at h; cases h)) (k.same _ _ hn h) (RepL.move k n r)
theorem RepL.move (k : Kp M H H') (n : ∀ a ∈ M', a ∈ M ∨ H a = none) : ∀ {vs : List V} {ds : List PyData}, RepL K H M vs ds → RepL K H' M' vs ds
  | _, _, .nil => .nil
  | _, _, .cons h r => .cons (Rep.move k n h) (RepL.move k n r)
end
theorem Rep.keep {v : V} {d : PyData} (k : Kp M H H') (h : Rep K H M v d) : Rep K H' M v d := h.move k fun _ z => .inl z
theorem RepL.keep {v : List V} {d : List PyData} (k : Kp M H H') (h : RepL K H M v d) : RepL K H' M v d := h.move k fun _ z => .inl z
theorem Rep.less {v : V} {d : PyData} (s : ∀ a ∈ M', a ∈ M) (h : Rep K H M v d) : Rep K H M' v d := h.move (Kp.refl _ _) fun a z => .inl (s a z)
theorem RepL.less {v : List V} {d : List PyData} (s : ∀ a ∈ M', a ∈ M) (h : RepL K H M v d) : RepL K H M' v d := h.move (Kp.refl _ _) fun a z => .inl (s a z)
mutual
theorem Rep.dp : ∀ {v : V} {d : PyData}, Rep K H M v d → d.canLay0 = true → Dp K H v d
  | _, _, .non, _ => .non
  | _, _, .bl b, _ => .bl b
  | _, _, .int i, _ => .int i
  | _, _, .str x, _ => .str x
  | _, _, .lst _ h r, c => .lst (.inl (.inl h)) (RepL.dp r (by simpa [PyData.canLay0] using c))
  | _, _, .tup h r, c => .tup h (RepL.dp r (by simpa [PyData.canLay0] using c))
  | _, _, .dct _ _ _, c => by simp [PyData.canLay0] at c
theorem RepL.dp : ∀ {vs : List V} {ds : List PyData}, RepL K H M vs ds → PyData.canLayAll0 ds = true → DpAll K H vs ds
  | _, _, .nil, _ => .nil
  | _, _, .cons h r, c => by
    simp only [PyData.canLayAll0, Bool.and_eq_true] at c
    exact .cons (Rep.dp h c.1) (RepL.dp r c.2)
end
theorem RepL.length {vs : List V} {ds : List PyData} (r : RepL K H M vs ds) : vs.length = ds.length := by
  induction ds generalizing vs with
  | nil => cases r; rfl
  | cons d ds ih => cases r with | cons h t => simp [ih t]
theorem RepL.get {vs : List V} {ds : List PyData} (r : RepL K H M vs ds) : ∀ {i : Nat} {d : PyData}, ds[i]? = some d → ∃ v, vs[i]? = some v ∧ Rep K H M v d := by
  induction ds generalizing vs with
  | nil => intro i d e; simp at e
  | cons d0 ds ih =>
    cases r with
    | cons h t =>
      intro i d e
      cases i with
      | zero => simp at e; subst e; exact ⟨_, rfl, h⟩
      | succ i => exact ih t (by simpa using e)
theorem RepL.getV {vs : List V} {ds : List PyData} (r : RepL K H M vs ds) : ∀ {i : Nat} {v : V}, vs[i]? = some v → ∃ d, ds[i]? = some d ∧ Rep K H M v d := by
  intro i v e
  have hi : i < ds.length := by
    rw [← r.length]
    exact (List.getElem?_eq_some_iff.mp e).1
  obtain ⟨v', e', h⟩ := r.get (List.getElem?_eq_getElem hi)
  rw [e] at e'; cases e'
  exact ⟨_, List.getElem?_eq_getElem hi, h⟩
theorem RepL.append {vs ws : List V} {ds es : List PyData} (r : RepL K H M vs ds) (q : RepL K H M ws es) : RepL K H M (vs ++ ws) (ds ++ es) := by
  induction ds generalizing vs with
  | nil => cases r; exact q
  | cons d ds ih => cases r with | cons h t => exact .cons h (ih t)
theorem RepL.take {vs : List V} {ds : List PyData} (r : RepL K H M vs ds) : ∀ n, RepL K H M (vs.take n) (ds.take n) := by
  induction ds generalizing vs with
  | nil => cases r; intro n; simp; exact .nil
  | cons d ds ih =>
    cases r with
    | cons h t =>
      intro n
      cases n with
      | zero => exact .nil
      | succ n => exact .cons h (ih t n)
theorem RepL.drop {vs : List V} {ds : List PyData} (r : RepL K H M vs ds) : ∀ n, RepL K H M (vs.drop n) (ds.drop n) := by
  induction ds generalizing vs with
  | nil => cases r; intro n; simp; exact .nil
  | cons d ds ih =>
    cases r with
    | cons h t =>
      intro n
      cases n with
      | zero => exact .cons h t
      | succ n => exact ih t n
theorem RepL.reverse {vs : List V} {ds : List PyData} (r : RepL K H M vs ds) : RepL K H M vs.reverse ds.reverse := by
  induction ds generalizing vs with
  | nil => cases r; exact .nil
  | cons d ds ih => cases r with | cons h t => simp only [List.reverse_cons]; exact (ih t).append (.cons h .nil)
theorem RepL.eraseIdx {vs : List V} {ds : List PyData} (r : RepL K H M vs ds) : ∀ n, RepL K H M (vs.eraseIdx n) (ds.eraseIdx n) := by
  induction ds generalizing vs with
  | nil => cases r; intro n; simp; exact .nil
  | cons d ds ih =>
    cases r with
    | cons h t =>
      intro n
      cases n with
      | zero => exact t
      | succ n => exact .cons h (ih t n)
theorem RepL.set {vs : List V} {ds : List PyData} {v : V} {d : PyData} (r : RepL K H M vs ds) (q : Rep K H M v d) : ∀ n, RepL K H M (vs.set n v) (ds.set n d) := by
  induction ds generalizing vs with
  | nil => cases r; intro n; exact .nil
  | cons d ds ih =>
    cases r with
    | cons h t =>
      intro n
      cases n with
      | zero => exact .cons q t
      | succ n => exact .cons h (ih t n)
theorem RepL.rep {vs : List V} {ds : List PyData} (r : RepL K H M vs ds) : ∀ n : Nat, RepL K H M (List.replicate n vs).flatten (List.replicate n ds).flatten
  | 0 => .nil
  | n + 1 => by
    simp only [List.replicate_succ, List.flatten_cons]
    exact r.append (RepL.rep r n)
theorem RepL.of_get {vs : List V} {ds : List PyData} (hl : vs.length = ds.length) (h : ∀ (i : Nat) v d, vs[i]? = some v → ds[i]? = some d → Rep K H M v d) : RepL K H M vs ds := by
  induction ds generalizing vs with
  | nil => cases vs with | nil => exact .nil | cons v vs => simp at hl
  | cons d ds ih =>
    cases vs with
    | nil => simp at hl
    | cons v vs => exact .cons (h 0 v d rfl rfl) (ih (by simpa using hl) fun i v d a b => h (i + 1) v d (by simpa using a) (by simpa using b))
/-- scalars -/
theorem Rep.int_inv {v : V} {i : Int} (h : Rep K H M v (.int i)) : v = .int i := by cases h; rfl
theorem Rep.bool_inv {v : V} {i : Bool} (h : Rep K H M v (.bool i)) : v = .bl i := by cases h; rfl
theorem Rep.str_inv {v : V} {i : Str} (h : Rep K H M v (.str i)) : v = .str i := by cases h; rfl
theorem Rep.none_inv {v : V} (h : Rep K H M v .none) : v = .non := by cases h; rfl
theorem RepL.ints : ∀ {vs : List V} {ns : List Int}, RepL K H M vs (ns.map PyData.int) → vs = ns.map V.int
  | _, [], r => by cases r; rfl
  | _, n :: ns, r => by
    have r' : RepL K H M _ (PyData.int n :: ns.map PyData.int) := r
    cases r' with | cons h t => rw [h.int_inv, RepL.ints t]; rfl
theorem RepL.strs : ∀ {vs : List V} {ns : List Str}, RepL K H M vs (ns.map PyData.str) → vs = ns.map V.str
  | _, [], r => by cases r; rfl
  | _, n :: ns, r => by
    have r' : RepL K H M _ (PyData.str n :: ns.map PyData.str) := r
    cases r' with | cons h t => rw [h.str_inv, RepL.strs t]; rfl
theorem RepL.bls : ∀ {vs : List V} {ns : List Bool}, RepL K H M vs (ns.map PyData.bool) → vs = ns.map V.bl
  | _, [], r => by cases r; rfl
  | _, n :: ns, r => by
    have r' : RepL K H M _ (PyData.bool n :: ns.map PyData.bool) := r
    cases r' with | cons h t => rw [h.bool_inv, RepL.bls t]; rfl
theorem RepL.of_ints : ∀ (ns : List Int), RepL K H M (ns.map V.int) (ns.map PyData.int)
  | [] => .nil
  | n :: ns => .cons (.int n) (RepL.of_ints ns)
theorem RepL.of_strs : ∀ (ns : List Str), RepL K H M (ns.map V.str) (ns.map PyData.str)
  | [] => .nil
  | n :: ns => .cons (.str n) (RepL.of_strs ns)
end

/-! ### values and entries -/
/-- what may be said of a value that is no pure data (an object that is not written any more) -/
structure OR where
  rep : PySem.W.Frag → Hp → List Addr → V → Prop
  move : ∀ {K : PySem.W.Frag} {H H' : Hp} {M M' : List Addr} {v : V}, Kp M H H' → (∀ a ∈ M', a ∈ M ∨ H a = none) → rep K H M v → rep K H' M' v
/-- a value of a slot: pure data, or the deck (the law's source of draws) -/
inductive U where
  | d (x : PyData)
  | deck
  | ob (r : OR)
structure Ent where
  own : Bool
  u : U
abbrev En := List (Option Ent)
/-- what draws change: the deck's address, its addresses, what holds of it -/
structure Wk where
  dk : Addr
  ad : List Addr
  okN : Nat → Hp → Prop
  n : Nat
  st0 : ∀ n H a o, a ∉ ad → (H a = none ∨ ∃ xs, H a = some (.lst xs)) → okN n H → okN n (upd H a o)
  liv0 : ∀ n H, okN n H → ∀ a ∈ ad, H a ≠ none
  mono0 : ∀ n m H, n ≤ m → okN n H → okN m H
/-- n: how often it may have been drawn -/
def Wk.ok (W : Wk) (H : Hp) : Prop := W.okN W.n H
theorem Wk.st (W : Wk) : ∀ H a o, a ∉ W.ad → (H a = none ∨ ∃ xs, H a = some (.lst xs)) → W.ok H → W.ok (upd H a o) := W.st0 W.n
theorem Wk.liv (W : Wk) : ∀ H, W.ok H → ∀ a ∈ W.ad, H a ≠ none := W.liv0 W.n
/-- k more draws -/
def Wk.up (W : Wk) (k : Nat) : Wk := { W with n := W.n + k }
theorem Wk.up_up (W : Wk) (a b : Nat) : (W.up a).up b = W.up (a + b) := by
  unfold Wk.up
  simp only [Nat.add_assoc]
theorem Wk.mono {W : Wk} {a b : Nat} {H : Hp} (h : a ≤ b) (k : (W.up a).ok H) : (W.up b).ok H := W.mono0 _ _ H (Nat.add_le_add_left h _) k
/-- a base: the heap at a moment, what may have changed since, what was fenced off then -/
structure Bs where
  h : Hp
  k : List Addr
  m : List Addr
def RepU (W : Wk) (K : PySem.W.Frag) (H : Hp) (M : List Addr) (v : V) : U → Prop
  | .d x => Rep K H M v x
  | .deck => v = .ref W.dk
  | .ob r => r.rep K H M v
theorem RepU.move {W : Wk} {K : PySem.W.Frag} {H H' : Hp} {M M' : List Addr} {v : V} {u : U} (k : Kp M H H') (n : ∀ a ∈ M', a ∈ M ∨ H a = none) (h : RepU W K H M v u) : RepU W K H' M' v u := by
  cases u with
  | d x => exact Rep.move k n h
  | deck => exact h
  | ob r => exact r.move k n h
/-- the slot's entry -/
def EntOk (W : Wk) (K : PySem.W.Frag) (M0 : List Addr) (H : Hp) (M : List Addr) (v : V) (e : Ent) : Prop :=
  if e.own = true then ∃ a vs ds, v = .ref a ∧ e.u = .d (.list ds) ∧ a ∈ M ∧ a ∉ M0 ∧ H a = some (.lst vs) ∧ RepL K H M vs ds else RepU W K H M v e.u
/-- an address that a slot owns -/
def Owns (ρ : En) (σ : St) (a : Addr) : Prop := ∃ (i : Nat) (e : Ent), ρ[i]? = some (some e) ∧ e.own = true ∧ σ[i]? = some (some (V.ref a))

structure Gd (W : Wk) (K : PySem.W.Frag) (B : List Bs) (M0 : List Addr) (ρ : En) (σ : St) (H : Hp) (M : List Addr) : Prop where
  sm : ∃ o u, H sysModules = some (.frz o u)
  wok : W.ok H
  wad : ∀ a ∈ W.ad, a ∈ M0
  sub : ∀ a ∈ M0, a ∈ M
  liv : ∀ a ∈ M, H a ≠ none
  len : ρ.length = σ.length
  bs : ∀ b ∈ B, Kp b.k b.h H ∧ (∀ a ∈ W.ad, a ∈ b.k) ∧ (∀ a ∈ M, a ∈ b.m ∨ b.h a = none) ∧ (∀ a, Owns ρ σ a → a ∈ b.k ∨ b.h a = none)
  ent : ∀ (i : Nat) (e : Ent), ρ[i]? = some (some e) → ∃ v, σ[i]? = some (some v) ∧ EntOk W K M0 H M v e
  sep : ∀ (i j : Nat) (e e' : Ent) (a : Addr), ρ[i]? = some (some e) → e.own = true → σ[i]? = some (some (V.ref a)) → ρ[j]? = some (some e') → e'.own = true → σ[j]? = some (some (V.ref a)) → i = j

section
variable {W : Wk} {K : PySem.W.Frag} {B : List Bs} {M0 : List Addr} {ρ : En} {σ : St} {H H' : Hp} {M M' : List Addr}
theorem Gd.owned (G : Gd W K B M0 ρ σ H M) {a : Addr} (o : Owns ρ σ a) : a ∈ M ∧ a ∉ M0 ∧ ∃ vs, H a = some (.lst vs) := by
  obtain ⟨i, e, h1, h2, h3⟩ := o
  obtain ⟨v, h4, h5⟩ := G.ent i e h1
  rw [h3] at h4; cases h4
  unfold EntOk at h5
  rw [if_pos h2] at h5
  obtain ⟨a', vs, ds, e1, _, q1, q2, q3, _⟩ := h5
  cases e1
  exact ⟨q1, q2, vs, q3⟩
theorem EntOk.move {v : V} {e : Ent} (k : Kp M H H') (n : ∀ a ∈ M', a ∈ M ∨ H a = none) (hs : ∀ a, e.own = true → v = .ref a → a ∈ M → a ∉ M0 → a ∈ M' ∧ ∀ o, H a = some o → H' a = some o) (h : EntOk W K M0 H M v e) : EntOk W K M0 H' M' v e := by
  unfold EntOk at h ⊢
  split at h
  · rename_i ho
    rw [if_pos ho]
    obtain ⟨a, vs, ds, e1, e2, q1, q2, q3, q4⟩ := h
    obtain ⟨z1, z2⟩ := hs a ho e1 q1 q2
    exact ⟨a, vs, ds, e1, e2, z1, q2, z2 _ q3, q4.move k n⟩
  · rename_i ho
    rw [if_neg ho]
    exact h.move k n
/-- the heap has grown -/
theorem Gd.grow (G : Gd W K B M0 ρ σ H M) {p : Addr} {o : HO} (hp : H p = none) : Gd W K B M0 ρ σ (upd H p o) M := by
  have kp : ∀ N, Kp N H (upd H p o) := fun N => Kp.fresh hp
  refine ⟨(kp []).sm G.sm, W.st _ _ _ (fun z => W.liv _ G.wok p z hp) (.inl hp) G.wok, G.wad, G.sub, fun a z => (kp []).liv a (G.liv a z), G.len, fun b hb => ?_, fun i e h => ?_, G.sep⟩
  · obtain ⟨q1, q2, q3, q4⟩ := G.bs b hb
    exact ⟨q1.trans (kp _), q2, q3, q4⟩
  · obtain ⟨v, h1, h2⟩ := G.ent i e h
    exact ⟨v, h1, h2.move (kp _) (fun a z => .inl z) fun a _ _ z _ => ⟨z, fun o' e' => (kp []).same a o' (by simp) e'⟩⟩
/-- behind a call -/
theorem Gd.called (G : Gd W K B M0 ρ σ H M) (k : Kp W.ad H H') (w : W.ok H') : Gd W K B M0 ρ σ H' M := by
  have wm : ∀ a ∈ W.ad, a ∈ M := fun a z => G.sub a (G.wad a z)
  refine ⟨k.sm G.sm, w, G.wad, G.sub, fun a z => k.liv a (G.liv a z), G.len, fun b hb => ?_, fun i e h => ?_, G.sep⟩
  · obtain ⟨q1, q2, q3, q4⟩ := G.bs b hb
    exact ⟨q1.trans (k.more q2), q2, q3, q4⟩
  · obtain ⟨v, h1, h2⟩ := G.ent i e h
    exact ⟨v, h1, h2.move (k.more wm) (fun a z => .inl z) fun a _ _ z n => ⟨z, fun o' e' => k.same a o' (fun y => n (G.wad a y)) e'⟩⟩
/-- an owned list is written -/
theorem Gd.write (G : Gd W K B M0 ρ σ H M) {i : Nat} {e : Ent} {a : Addr} {vs ws : List V} {ds : List PyData} (h1 : ρ[i]? = some (some e)) (ho : e.own = true) (hs : σ[i]? = some (some (V.ref a))) (ha : H a = some (.lst vs)) (r : RepL K H M ws ds) :
    Gd W K B M0 (ρ.set i (some ⟨true, .d (.list ds)⟩)) σ (upd H a (.lst ws)) M := by
  obtain ⟨q1, q2, _⟩ := G.owned ⟨i, e, h1, ho, hs⟩
  have hi : i < ρ.length := (List.getElem?_eq_some_iff.mp h1).1
  have kp : Kp M H (upd H a (.lst ws)) := Kp.store q1 ha
  have ownE : ∀ {j : Nat} {e' : Ent}, (ρ.set i (some ⟨true, .d (.list ds)⟩))[j]? = some (some e') → e'.own = true → ∃ e'', ρ[j]? = some (some e'') ∧ e''.own = true := by
    intro j e' hj ho'
    by_cases hij : i = j
    · subst hij; exact ⟨e, h1, ho⟩
    · rw [List.getElem?_set_ne hij] at hj; exact ⟨e', hj, ho'⟩
  refine ⟨kp.sm G.sm, W.st _ _ _ (fun z => q2 (G.wad a z)) (.inr ⟨_, ha⟩) G.wok, G.wad, G.sub, fun b z => kp.liv b (G.liv b z), by rw [List.length_set]; exact G.len, fun b hb => ?_, fun j e' hj => ?_, fun j l e1 e2 b g1 g2 g3 g4 g5 g6 => ?_⟩
  · obtain ⟨z1, z2, z3, z4⟩ := G.bs b hb
    refine ⟨?_, z2, z3, fun b' ⟨j, e', y1, y2, y3⟩ => ?_⟩
    · rcases z4 a ⟨i, e, h1, ho, hs⟩ with z | z
      · exact z1.trans (Kp.store z ha)
      · refine ⟨fun x o n y => ?_, fun x xs y => ?_, fun x o u y => ?_, fun x y => kp.liv x (z1.liv x y)⟩
        · have hx : x ≠ a := fun q => by rw [q, z] at y; cases y
          rw [upd_ne hx]; exact z1.same x o n y
        · have hx : x ≠ a := fun q => by rw [q, z] at y; cases y
          rw [upd_ne hx]; exact z1.tup x xs y
        · have hx : x ≠ a := fun q => by rw [q, z] at y; cases y
          rw [upd_ne hx]; exact z1.frz x o u y
    · obtain ⟨e'', y4, y5⟩ := ownE y1 y2
      exact z4 b' ⟨j, e'', y4, y5, y3⟩
  · by_cases hij : i = j
    · subst hij
      rw [List.getElem?_set_self hi] at hj
      cases hj
      refine ⟨_, hs, ?_⟩
      unfold EntOk
      rw [if_pos rfl]
      exact ⟨a, ws, ds, rfl, rfl, q1, q2, upd_same, r.keep kp⟩
    · rw [List.getElem?_set_ne hij] at hj
      obtain ⟨v, y1, y2⟩ := G.ent j e' hj
      refine ⟨v, y1, y2.move kp (fun a z => .inl z) fun b ho' ev z n => ⟨z, fun o' y => ?_⟩⟩
      have hb : b ≠ a := fun q => by
        subst q; subst ev
        exact hij (G.sep i j e e' b h1 ho hs hj ho' y1)
      rw [upd_ne hb]; exact y
  · obtain ⟨e1', x1, x2⟩ := ownE g1 g2
    obtain ⟨e2', x3, x4⟩ := ownE g4 g5
    exact G.sep j l e1' e2' b x1 x2 g3 x3 x4 g6
end
section
variable {W : Wk} {K : PySem.W.Frag} {B : List Bs} {M0 : List Addr} {ρ : En} {σ : St} {H : Hp} {M : List Addr}
theorem Gd.mono {a b : Nat} (h : a ≤ b) (G : Gd (W.up a) K B M0 ρ σ H M) : Gd (W.up b) K B M0 ρ σ H M := ⟨G.sm, Wk.mono h G.wok, G.wad, G.sub, G.liv, G.len, G.bs, G.ent, G.sep⟩
theorem Gd.cast {a b : Nat} (G : Gd ((W.up a).up b) K B M0 ρ σ H M) : Gd (W.up (a + b)) K B M0 ρ σ H M := by
  rw [Wk.up_up] at G
  exact G
end
end G9

/-! M2: what must hold so that a piece of code does what is wanted, without a heap: the wants (DE, DO, DT, DA, DI, DS) and their makers. -/
namespace G9
open PySem PySem.Spec L2

structure Exn where
  cls : Str
  fld : Option (Str × PyData)
abbrev RK := Exn → Prop
abbrev X0 : RK := fun _ => False
/-- a want, with the number of draws that it may cost -/
structure Wt (τ : Type) where
  m : Nat
  f : τ
instance {τ : Type} : CoeFun (Wt τ) (fun _ => τ) := ⟨Wt.f⟩
/-- what a def is worth: the arguments, what is wanted of the result (a list of the def's own making: true), of an exception -/
abbrev FSpec := Wt (List U → (U → Bool → Prop) → RK → Prop)

inductive Op2 where
  | add | sub | mul | fdiv | mod | pow
  deriving DecidableEq
inductive Cm where
  | eq | ne | lt | le | gt | ge | isIn | notIn | isB | notB
  deriving DecidableEq
inductive Bi where
  | len | list | tuple | sum | all | any | range | repr | str | int | sorted
  deriving DecidableEq
inductive Mt where
  | append | pop | popAt | join | extend
  deriving DecidableEq
/-! ### values -/
inductive Opd where
  | val (u : U)
  | slot (i : Nat)
/-- the entry at a slot -/
def En.at (ρ : En) (i : Nat) : Option Ent := (ρ[i]?).join
def rs (ρ : En) : Opd → Option U
  | .val u => some u
  | .slot i => (En.at ρ i).map (·.u)
/-- a slot's value, given away: it is not owned any more -/
def En.get (ρ : En) (i : Nat) (P : U → En → Prop) : Prop := match En.at ρ i with
  | some ⟨true, u⟩ => P u (ρ.set i (some ⟨false, u⟩))
  | some ⟨false, u⟩ => P u ρ
  | none => False
def En.put (ρ : En) (i : Nat) (fr : Bool) (u : U) : En := ρ.set i (some ⟨fr, u⟩)

def opS (op : Op2) (x y : PyData) (Q : PyData → Bool → Prop) : Prop := match op, x, y with
  | .add, .int i, .int j => Q (.int (i + j)) false
  | .add, .str i, .str j => i.length + j.length ≤ sizeLine ∧ Q (.str (i ++ j)) false
  | .add, .list xs, .list ys => xs.length + ys.length ≤ sizeLine ∧ Q (.list (xs ++ ys)) true
  | .add, .tuple xs, .tuple ys => xs.length + ys.length ≤ sizeLine ∧ Q (.tuple (xs ++ ys)) false
  | .sub, .int i, .int j => Q (.int (i - j)) false
  | .mul, .int i, .int j => CMul i j ∧ Q (.int (i * j)) false
  | .mul, .list xs, .int k => -(2 ^ 63) ≤ k ∧ k < 2 ^ 63 ∧ xs.length * k.toNat ≤ sizeLine ∧ Q (.list (List.replicate k.toNat xs).flatten) true
  | .mul, .tuple xs, .int k => -(2 ^ 63) ≤ k ∧ k < 2 ^ 63 ∧ xs.length * k.toNat ≤ sizeLine ∧ Q (.tuple (List.replicate k.toNat xs).flatten) false
  | .mul, .str s, .int k => MulOk s k ∧ Q (.str (Txt.mul s k)) false
  | .fdiv, .int i, .int j => CDivN i j ∧ Q (.int (i.fdiv j)) false
  | .mod, .int i, .int j => j ≠ 0 ∧ Q (.int (i.fmod j)) false
  | .pow, .int i, .int j => CPow i j ∧ Q (.int (i ^ j.toNat)) false
  | _, _, _ => False
/-- x in xs, by == -/
def inD (x : PyData) (xs : List PyData) : Bool := xs.any fun y => PyData.eqv y x
def strsD : List PyData → Option (List Str)
  | [] => some []
  | .str i :: r => (strsD r).map (i :: ·)
  | _ => none
def ltS (a b : Str) : Bool := decide (a.cps.toList < b.cps.toList)
/-- [..] < [..] of texts -/
def ltSS : List Str → List Str → Bool
  | [], [] => false
  | [], _ :: _ => true
  | _ :: _, [] => false
  | a :: r, b :: t => if a = b then ltSS r t else ltS a b
def leSS : List Str → List Str → Bool
  | [], _ => true
  | _ :: _, [] => false
  | a :: r, b :: t => if a = b then leSS r t else !ltS b a
/-- a list of tuples of texts -/
def tupsD : List PyData → Option (List (List Str))
  | [] => some []
  | .tuple xs :: r => (strsD xs).bind fun ss => (tupsD r).map (ss :: ·)
  | _ => none
def tupS (ss : List Str) : PyData := .tuple (ss.map .str)
/-- two values that may be compared: no dict in them; or lists, told apart by their lengths; or any texts -/
def eqOk (x y : PyData) : Prop := (SeqAt.shaped x = true ∧ SeqAt.shaped y = true) ∨ (∃ xs ys, x = .list xs ∧ y = .list ys ∧ (xs.length ≠ ys.length ∨ ys = [])) ∨ ∃ s t, x = .str s ∧ y = .str t
def cmS (c : Cm) (x y : PyData) (Q : Bool → Prop) : Prop := match c, x, y with
  | .eq, x, y => eqOk x y ∧ Q (PyData.eqv x y)
  | .ne, x, y => eqOk x y ∧ Q (!PyData.eqv x y)
  | .lt, .int i, .int j => Q (decide (i < j))
  | .le, .int i, .int j => Q (decide (i ≤ j))
  | .gt, .int i, .int j => Q (decide (j < i))
  | .ge, .int i, .int j => Q (decide (j ≤ i))
  | .lt, .str i, .str j => Q (decide (i.cps.toList < j.cps.toList))
  | .le, .str i, .str j => Q (!decide (j.cps.toList < i.cps.toList))
  | .gt, .str i, .str j => Q (decide (j.cps.toList < i.cps.toList))
  | .ge, .str i, .str j => Q (!decide (i.cps.toList < j.cps.toList))
  | .lt, .tuple xs, .tuple ys => ∃ ss ts, strsD xs = some ss ∧ strsD ys = some ts ∧ Q (ltSS ss ts)
  | .le, .tuple xs, .tuple ys => ∃ ss ts, strsD xs = some ss ∧ strsD ys = some ts ∧ Q (leSS ss ts)
  | .isIn, x, .list ys => SeqAt.shaped x = true ∧ SeqAt.shaped (.list ys) = true ∧ Q (inD x ys)
  | .isIn, x, .tuple ys => SeqAt.shaped x = true ∧ SeqAt.shaped (.tuple ys) = true ∧ Q (inD x ys)
  | .isIn, .str x, .str z => ∃ c, x = ⟨#[c]⟩ ∧ Q (decide (c ∈ z.cps.toList))
  | .notIn, x, .list ys => SeqAt.shaped x = true ∧ SeqAt.shaped (.list ys) = true ∧ Q (!inD x ys)
  | .notIn, x, .tuple ys => SeqAt.shaped x = true ∧ SeqAt.shaped (.tuple ys) = true ∧ Q (!inD x ys)
  | .notIn, .str x, .str z => ∃ c, x = ⟨#[c]⟩ ∧ Q (!decide (c ∈ z.cps.toList))
  | .isB, .bool i, .bool j => Q (decide (i = j))
  | .notB, .bool i, .bool j => Q (!decide (i = j))
  | _, _, _ => False
def isNoneD : PyData → Bool
  | .none => true
  | _ => false
def ixS (x : PyData) (i : Int) (Q : PyData → Prop) : Prop := match x with
  | .list xs => ∃ y, atI xs i = some y ∧ Q y
  | .tuple xs => ∃ y, atI xs i = some y ∧ Q y
  | .str s => s.length ≤ sizeLine ∧ ∃ c, atI s.cps.toList i = some c ∧ Q (.str ⟨#[c]⟩)
  | _ => False
/-- xs[lo:hi] -/
def cutD {α : Type} (xs : List α) (lo hi : Option Int) : List α := (xs.drop (HT.sIx xs.length 0 lo)).take (HT.sIx xs.length xs.length hi - HT.sIx xs.length 0 lo)
def slS (x : PyData) (lo hi : Option Int) (Q : PyData → Bool → Prop) : Prop := match x with
  | .list xs => Q (.list (cutD xs lo hi)) true
  | .tuple xs => Q (.tuple (cutD xs lo hi)) false
  | .str s => s.length ≤ sizeLine ∧ Q (.str (cutS s lo hi)) false
  | _ => False
def truS (x : PyData) (Q : Bool → Prop) : Prop := match x with
  | .none => Q false
  | .bool b => Q b
  | .int i => Q (i != 0)
  | .str s => s.length ≤ sizeLine ∧ Q ((s.length : Int) != 0)
  | .list xs => Q (!xs.isEmpty)
  | .tuple xs => Q (!xs.isEmpty)
  | _ => False
def intsD : List PyData → Option (List Int)
  | [] => some []
  | .int i :: r => (intsD r).map (i :: ·)
  | _ => none
def boolsD : List PyData → Option (List Bool)
  | [] => some []
  | .bool i :: r => (boolsD r).map (i :: ·)
  | _ => none
/-- one sign of a text -/
def sgn (c : Nat) : PyData := .str ⟨#[c]⟩
def biS (b : Bi) (x : PyData) (Q : PyData → Bool → Prop) : Prop := match b, x with
  | .len, .list xs => Q (.int xs.length) false
  | .len, .tuple xs => Q (.int xs.length) false
  | .len, .str s => s.length ≤ sizeLine ∧ Q (.int s.length) false
  | .list, .list xs => Q (.list xs) true
  | .list, .tuple xs => Q (.list xs) true
  | .list, .str s => s.length ≤ sizeLine ∧ Q (.list (s.cps.toList.map sgn)) true
  | .tuple, .list xs => Q (.tuple xs) false
  | .tuple, .tuple xs => Q (.tuple xs) false
  | .sum, .list xs => ∃ ns, intsD xs = some ns ∧ Q (.int ns.sum) false
  | .sum, .tuple xs => ∃ ns, intsD xs = some ns ∧ Q (.int ns.sum) false
  | .all, .list xs => ∃ bs, boolsD xs = some bs ∧ Q (.bool (bs.all id)) false
  | .any, .list xs => ∃ bs, boolsD xs = some bs ∧ Q (.bool (bs.any id)) false
  | .sorted, .list xs => xs.length < 64 ∧ ((∃ ns, intsD xs = some ns ∧ ∀ ms : List Int, ms.Perm ns → ms.Pairwise (· ≤ ·) → Q (.list (ms.map .int)) true) ∨
      ((∃ ns, strsD xs = some ns ∧ ∀ ms : List Str, ms.Perm ns → PyProof.Rows.sortedS ms = true → Q (.list (ms.map .str)) true) ∨
      (∃ nss, tupsD xs = some nss ∧ ∀ mss : List (List Str), mss.Perm nss → mss.Pairwise (fun a b => ltSS b a = false) → Q (.list (mss.map tupS)) true)))
  | .sorted, .tuple xs => (∃ ns, strsD xs = some ns ∧ ns.length < 64 ∧ ∀ ms : List Str, ms.Perm ns → PyProof.Rows.sortedS ms = true → Q (.list (ms.map .str)) true) ∨
      (∃ nss, tupsD xs = some nss ∧ ∀ mss : List (List Str), mss.Perm nss → mss.Pairwise (fun a b => ltSS b a = false) → Q (.list (mss.map tupS)) true)
  | .repr, x => PyData.showable x = true ∧ x.depth ≤ 64 ∧ x.shown.length ≤ sizeLine ∧ Q (.str x.shown) false
  | .str, .int i => i.natAbs.log2 < 1920 ∧ Q (.str (toString i)) false
  | .int, .bool b => Q (.int (if b then 1 else 0)) false
  | .int, .int i => Q (.int i) false
  | _, _ => False
/-- isinstance, of the built-in types -/
inductive Ty where
  | str | int | bool | list | tuple | dict
  deriving DecidableEq
def Ty.nm : Ty → String
  | .str => "str"
  | .int => "int"
  | .bool => "bool"
  | .list => "list"
  | .tuple => "tuple"
  | .dict => "dict"
def isD : PyData → Ty → Bool
  | .str _, .str => true
  | .int _, .int => true
  | .bool _, .int => true
  | .bool _, .bool => true
  | .list _, .list => true
  | .tuple _, .tuple => true
  | .dict _, .dict => true
  | _, _ => false
def itS (x : PyData) (Q : List PyData → Prop) : Prop := match x with
  | .list xs => Q xs
  | .tuple xs => Q xs
  | .str s => s.length ≤ sizeLine ∧ Q (s.cps.toList.map sgn)
  | _ => False
/-- lo, lo + 1, .. below hi -/
def rangeD (lo hi : Int) : List PyData := (List.range (hi - lo).toNat).map fun (k : Nat) => PyData.int (lo + (k : Int))
/-- a target is bound -/
def bindE : List Nat → List PyData → En → Option En
  | [], [], ρ => some ρ
  | i :: is, x :: xs, ρ => bindE is xs (En.put ρ i false (.d x))
  | _, _, _ => none
def bindT (tg : List Nat) (tp : Bool) (x : PyData) (ρ : En) (Q : En → Prop) : Prop := match tp, tg, x with
  | false, [i], x => Q (En.put ρ i false (.d x))
  | true, tg, .tuple xs => ∃ ρ', bindE tg xs ρ = some ρ' ∧ Q ρ'
  | _, _, _ => False
def wipeE (ρ : En) : List Nat → En
  | [] => ρ
  | v :: vs => (wipeE ρ vs).set v none
/-- behind a comprehension: its own names' slots as they were (an owned list there is forgotten) -/
def backE (ρ ρ' : En) : List Nat → En
  | [] => ρ'
  | v :: vs => (backE ρ ρ' vs).set v (match En.at ρ v with
    | some ⟨false, u⟩ => some ⟨false, u⟩
    | _ => none)
/-- a comprehension's turns -/
def lcL (f : PyData → En → (Option PyData → En → Prop) → Prop) : List PyData → En → List PyData → (List PyData → En → Prop) → Prop
  | [], ρ, acc, Q => Q acc ρ
  | x :: r, ρ, acc, Q => f x ρ fun o ρ' => match o with
    | some y => lcL f r ρ' (acc ++ [y]) Q
    | none => lcL f r ρ' acc Q
/-- a loop's turns -/
def forL (f : PyData → En → (En → Prop) → Prop) : List PyData → En → (En → Prop) → Prop
  | [], ρ, Q => Q ρ
  | x :: r, ρ, Q => f x ρ fun ρ' => forL f r ρ' Q
def datas : List U → Option (List PyData)
  | [] => some []
  | .d x :: r => (datas r).map (x :: ·)
  | .deck :: _ => none
  | .ob _ :: _ => none
def mtS (m : Mt) (ρ : En) (o : Opd) (xs : List PyData) (Q : PyData → En → Prop) : Prop := match m, xs with
  | .append, [x] => ∃ i ds, o = .slot i ∧ En.at ρ i = some ⟨true, .d (.list ds)⟩ ∧ ds.length < sizeLine ∧ Q .none (En.put ρ i true (.d (.list (ds ++ [x]))))
  | .extend, [.list ys] => ∃ i ds, o = .slot i ∧ En.at ρ i = some ⟨true, .d (.list ds)⟩ ∧ ds.length + ys.length ≤ sizeLine ∧ Q .none (En.put ρ i true (.d (.list (ds ++ ys))))
  | .pop, [] => ∃ i ds y, o = .slot i ∧ En.at ρ i = some ⟨true, .d (.list ds)⟩ ∧ ds[ds.length - 1]? = some y ∧ Q y (En.put ρ i true (.d (.list ds.dropLast)))
  | .popAt, [.int k] => ∃ i ds j y, o = .slot i ∧ En.at ρ i = some ⟨true, .d (.list ds)⟩ ∧ -(2 ^ 63) ≤ k ∧ k < 2 ^ 63 ∧ ixN ds.length k = some j ∧ ds[j]? = some y ∧ Q y (En.put ρ i true (.d (.list (ds.eraseIdx j))))
  | .join, [.list ys] => ∃ s zs, rs ρ o = some (.d (.str s)) ∧ strsD ys = some zs ∧ (zs.map Str.length).sum + zs.length * s.length ≤ 16777216 ∧ Q (.str (PySem.Txt.join s zs)) ρ
  | _, _ => False

/-! ### wants -/
abbrev DE := Wt (En → (U → Bool → En → Prop) → RK → Prop)
abbrev DO := Wt (En → (Opd → En → Prop) → RK → Prop)
abbrev DP := Wt (En → (Option Int → En → Prop) → RK → Prop)
abbrev DT := Wt (En → (Bool → En → Prop) → RK → Prop)
abbrev DA := Wt (En → (List U → En → Prop) → RK → Prop)
abbrev DI := Wt (En → (List PyData → En → Prop) → RK → Prop)

def dVar (i : Nat) : DE := ⟨0, fun ρ P _ => En.get ρ i fun u ρ' => P u false ρ'⟩
def dCon (d : PyData) : DE := ⟨0, fun ρ P _ => P (.d d) false ρ⟩
/-- an operand: a slot is read where the operation is done -/
def oSlot (i : Nat) : DO := ⟨0, fun ρ P _ => ∃ e, En.at ρ i = some e ∧ P (.slot i) ρ⟩
def oE (d : DE) : DO := ⟨d.m, fun ρ P R => d ρ (fun u _ ρ' => P (.val u) ρ') R⟩
def dBin (op : Op2) (a b : DO) : DE := ⟨a.m + b.m, fun ρ P R => a ρ (fun oa ρ1 => b ρ1 (fun ob ρ2 => ∃ x y, rs ρ2 oa = some (.d x) ∧ rs ρ2 ob = some (.d y) ∧ opS op x y fun z fr => P (.d z) fr ρ2) R) R⟩
def dNeg (a : DO) : DE := ⟨a.m, fun ρ P R => a ρ (fun oa ρ1 => ∃ i, rs ρ1 oa = some (.d (.int i)) ∧ P (.d (.int (-i))) false ρ1) R⟩
def dIsN (a : DO) : DE := ⟨a.m, fun ρ P R => a ρ (fun oa ρ1 => ∃ x, rs ρ1 oa = some (.d x) ∧ P (.d (.bool (isNoneD x))) false ρ1) R⟩
def dNotN (a : DO) : DE := ⟨a.m, fun ρ P R => a ρ (fun oa ρ1 => ∃ x, rs ρ1 oa = some (.d x) ∧ P (.d (.bool (!isNoneD x))) false ρ1) R⟩
def dCmp (c : Cm) (a b : DO) : DE := ⟨a.m + b.m, fun ρ P R => a ρ (fun oa ρ1 => b ρ1 (fun ob ρ2 => ∃ x y, rs ρ2 oa = some (.d x) ∧ rs ρ2 ob = some (.d y) ∧ cmS c x y fun k => P (.d (.bool k)) false ρ2) R) R⟩
def dCmp2 (c c' : Cm) (a b e : DO) : DE := ⟨a.m + b.m + e.m, fun ρ P R => a ρ (fun oa ρ1 => b ρ1 (fun ob ρ2 => ∃ x y, rs ρ2 oa = some (.d x) ∧ rs ρ2 ob = some (.d y) ∧ cmS c x y fun k =>
      if k = true then e ρ2 (fun oc ρ3 => ∃ y' z, rs ρ3 ob = some (.d y') ∧ rs ρ3 oc = some (.d z) ∧ cmS c' y' z fun k' => P (.d (.bool k')) false ρ3) R else P (.d (.bool false)) false ρ2) R) R⟩
def dAnd (a b : DE) : DE := ⟨a.m + b.m, fun ρ P R => a ρ (fun u _ ρ1 => ∃ k, u = .d (.bool k) ∧ if k = true then b ρ1 P R else P (.d (.bool false)) false ρ1) R⟩
def dOr (a b : DE) : DE := ⟨a.m + b.m, fun ρ P R => a ρ (fun u _ ρ1 => ∃ k, u = .d (.bool k) ∧ if k = true then P (.d (.bool true)) false ρ1 else b ρ1 P R) R⟩
def dNot (a : DE) : DE := ⟨a.m, fun ρ P R => a ρ (fun u _ ρ1 => ∃ k, u = .d (.bool k) ∧ P (.d (.bool (!k))) false ρ1) R⟩
def dIte (c : DT) (a b : DE) : DE := ⟨c.m + (a.m + b.m), fun ρ P R => c ρ (fun k ρ1 => if k = true then a ρ1 P R else b ρ1 P R) R⟩
def dTup (es : DA) : DE := ⟨es.m, fun ρ P R => es ρ (fun us ρ1 => ∃ xs, datas us = some xs ∧ xs.length ≤ sizeLine ∧ P (.d (.tuple xs)) false ρ1) R⟩
def dLst (es : DA) : DE := ⟨es.m, fun ρ P R => es ρ (fun us ρ1 => ∃ xs, datas us = some xs ∧ xs.length ≤ sizeLine ∧ P (.d (.list xs)) true ρ1) R⟩
def dIdx (a b : DO) : DE := ⟨a.m + b.m, fun ρ P R => a ρ (fun oa ρ1 => b ρ1 (fun ob ρ2 => ∃ x i, rs ρ2 oa = some (.d x) ∧ rs ρ2 ob = some (.d (.int i)) ∧ ixS x i fun y => P (.d y) false ρ2) R) R⟩
/-- a part of a slice -/
def pNo : DP := ⟨0, fun ρ P _ => P none ρ⟩
def pE (d : DE) : DP := ⟨d.m, fun ρ P R => d ρ (fun u _ ρ' => ∃ i, u = .d (.int i) ∧ P (some i) ρ') R⟩
def dSli (a : DO) (lo hi : DP) : DE := ⟨a.m + lo.m + hi.m, fun ρ P R => a ρ (fun oa ρ1 => lo ρ1 (fun l ρ2 => hi ρ2 (fun h ρ3 => ∃ x, rs ρ3 oa = some (.d x) ∧ slS x l h fun z fr => P (.d z) fr ρ3) R) R) R⟩
def dCall (sp : FSpec) (es : DA) : DE := ⟨es.m + sp.m, fun ρ P R => es ρ (fun us ρ1 => sp us (fun u fr => P u fr ρ1) R) R⟩
def dBif (b : Bi) (a : DO) : DE := ⟨a.m, fun ρ P R => a ρ (fun oa ρ1 => ∃ x, rs ρ1 oa = some (.d x) ∧ biS b x fun z fr => P (.d z) fr ρ1) R⟩
def dIsi (a : DO) (t : Ty) : DE := ⟨a.m, fun ρ P R => a ρ (fun oa ρ1 => ∃ x, rs ρ1 oa = some (.d x) ∧ P (.d (.bool (isD x t))) false ρ1) R⟩
/-- what a method is called on -/
def mtR (m : Mt) (ρ : En) (o : Opd) : Prop := match m with
  | .join => ∃ s, rs ρ o = some (.d (.str s))
  | _ => ∃ ds, rs ρ o = some (.d (.list ds))
def dMth (m : Mt) (o : DO) (es : DA) : DE := ⟨o.m + es.m, fun ρ P R => o ρ (fun oo ρ1 => mtR m ρ1 oo ∧ es ρ1 (fun us ρ2 => ∃ xs, datas us = some xs ∧ mtS m ρ2 oo xs fun z ρ3 => P (.d z) false ρ3) R) R⟩
def aNil : DA := ⟨0, fun ρ P _ => P [] ρ⟩
def aCons (e : DE) (r : DA) : DA := ⟨e.m + r.m, fun ρ P R => e ρ (fun u _ ρ1 => r ρ1 (fun us ρ2 => P (u :: us) ρ2) R) R⟩
/-- truth -/
def kE (d : DE) : DT := ⟨d.m, fun ρ P R => d ρ (fun u _ ρ' => ∃ x, u = .d x ∧ truS x fun k => P k ρ') R⟩
def kVar (i : Nat) : DT := ⟨0, fun ρ P _ => ∃ x, rs ρ (.slot i) = some (.d x) ∧ truS x fun k => P k ρ⟩
def kTrue : DT := ⟨0, fun ρ P _ => P true ρ⟩
def kAnd (a b : DT) : DT := ⟨a.m + b.m, fun ρ P R => a ρ (fun k ρ1 => if k = true then b ρ1 P R else P false ρ1) R⟩
def kOr (a b : DT) : DT := ⟨a.m + b.m, fun ρ P R => a ρ (fun k ρ1 => if k = true then P true ρ1 else b ρ1 P R) R⟩
def kNot (a : DT) : DT := ⟨a.m, fun ρ P R => a ρ (fun k ρ1 => P (!k) ρ1) R⟩
/-- what is walked -/
def wRng1 (a : DE) : DI := ⟨a.m, fun ρ P R => a ρ (fun u _ ρ1 => ∃ n, u = .d (.int n) ∧ n ≤ 16777216 ∧ -(2 ^ 62) ≤ n ∧ P (rangeD 0 n) ρ1) R⟩
def wRng2 (a b : DE) : DI := ⟨a.m + b.m, fun ρ P R => a ρ (fun u _ ρ1 => b ρ1 (fun u' _ ρ2 => ∃ m n, u = .d (.int m) ∧ u' = .d (.int n) ∧ (-1000000 ≤ m ∧ m ≤ 15000000) ∧ (-(2 ^ 62) ≤ n ∧ n ≤ 15000000) ∧ P (rangeD m n) ρ2) R) R⟩
def wE (d : DE) : DI := ⟨d.m, fun ρ P R => d ρ (fun u _ ρ1 => ∃ x, u = .d x ∧ itS x fun xs => P xs ρ1) R⟩
def dLc (vs tg : List Nat) (tp : Bool) (it : DI) (c : DT) (e : DE) : DE := ⟨it.m + sizeLine * (c.m + e.m), fun ρ P R => it ρ (fun xs ρ1 => lcL (fun x ρ' k => bindT tg tp x (wipeE ρ' vs) fun ρ2 => c ρ2 (fun b ρ3 => if b = true then e ρ3 (fun u _ ρ4 => ∃ d, u = .d d ∧ k (some d) ρ4) X0 else k none ρ3) X0)
      xs ρ1 [] fun ds ρ' => P (.d (.list ds)) true (backE ρ1 ρ' vs)) R⟩

structure DK where
  nx : En → Prop
  rt : U → Bool → Prop
  bk : En → Prop := fun _ => False
  ct : En → Prop := fun _ => False
  ex : RK := X0
abbrev DS := Wt (En → DK → Prop)
def ipS (op : Op2) (x y : PyData) (Q : PyData → Prop) : Prop := match op, x, y with
  | .add, .int i, .int j => Q (.int (i + j))
  | .sub, .int i, .int j => Q (.int (i - j))
  | _, _, _ => False
def sSkip : DS := ⟨0, fun ρ D => D.nx ρ⟩
def sSeq (a b : DS) : DS := ⟨a.m + b.m, fun ρ D => a ρ { D with nx := fun ρ' => b ρ' D }⟩
def sSet (i : Nat) (e : DE) : DS := ⟨e.m, fun ρ D => e ρ (fun u fr ρ' => D.nx (En.put ρ' i fr u)) D.ex⟩
def sSetT (tg : List Nat) (e : DE) : DS := ⟨e.m, fun ρ D => e ρ (fun u _ ρ' => ∃ x, u = .d x ∧ bindT tg true x ρ' D.nx) D.ex⟩
def sPar (i j : Nat) (a b : DE) : DS := ⟨a.m + b.m, fun ρ D => a ρ (fun u fr ρ1 => b ρ1 (fun u' fr' ρ2 => D.nx (En.put (En.put ρ2 i false u) j fr' u')) D.ex) D.ex⟩
def sPar3 (i j l : Nat) (a b c : DE) : DS := ⟨a.m + b.m + c.m, fun ρ D => a ρ (fun u fr ρ1 => b ρ1 (fun u' fr' ρ2 => c ρ2 (fun u2 fr2 ρ3 => D.nx (En.put (En.put (En.put ρ3 i false u) j false u') l fr2 u2)) D.ex) D.ex) D.ex⟩
def sDrop (e : DE) : DS := ⟨e.m, fun ρ D => e ρ (fun _ _ ρ' => D.nx ρ') D.ex⟩
def sRet (e : DE) : DS := ⟨e.m, fun ρ D => e ρ (fun u fr _ => D.rt u fr) D.ex⟩
/-- a name's value is given back: a list of the def's own is given as such -/
def sRetV (i : Nat) : DS := ⟨0, fun ρ D => ∃ e, En.at ρ i = some e ∧ D.rt e.u e.own⟩
def sRetN : DS := ⟨0, fun _ D => D.rt (.d .none) false⟩
def sIf (c : DT) (a b : DS) : DS := ⟨c.m + (a.m + b.m), fun ρ D => c ρ (fun k ρ' => if k = true then a ρ' D else b ρ' D) D.ex⟩
def sFor (tg : List Nat) (tp : Bool) (it : DI) (b : DS) : DS := ⟨it.m + sizeLine * b.m, fun ρ D => it ρ (fun xs ρ1 => forL (fun x ρ' k => bindT tg tp x ρ' fun ρ2 => b ρ2 { D with nx := k, ct := k, bk := D.nx }) xs ρ1 D.nx) D.ex⟩
def sBrk : DS := ⟨0, fun ρ D => D.bk ρ⟩
def sCnt : DS := ⟨0, fun ρ D => D.ct ρ⟩
def sAug (i : Nat) (op : Op2) (e : DE) : DS := ⟨e.m, fun ρ D => e ρ (fun u _ ρ' => ∃ x y, rs ρ' (.slot i) = some (.d x) ∧ u = .d y ∧ ipS op x y fun z => D.nx (En.put ρ' i false (.d z))) D.ex⟩
end G9

/-! M3: the state's moves (Gd), results (Res), readings of the small syntax (tE, tO, tT ..). -/
namespace G9
open PySem PySem.Spec L2

theorem En.at_get {ρ : En} {i : Nat} {e : Ent} (h : En.at ρ i = some e) : ρ[i]? = some (some e) := by
  unfold En.at at h
  cases q : ρ[i]? with
  | none => rw [q] at h; cases h
  | some o => rw [q] at h; rw [show o = some e from h]
section
variable {W : Wk} {K : PySem.W.Frag} {B B' : List Bs} {M0 : List Addr} {ρ : En} {σ : St} {H H' : Hp} {M M' : List Addr}
theorem Gd.sub_b (G : Gd W K B M0 ρ σ H M) (s : ∀ b ∈ B', b ∈ B) : Gd W K B' M0 ρ σ H M :=
  ⟨G.sm, G.wok, G.wad, G.sub, G.liv, G.len, fun b hb => G.bs b (s b hb), G.ent, G.sep⟩
/-- the moment as a base -/
theorem Gd.base (G : Gd W K B M0 ρ σ H M) : Gd W K (⟨H, M, M⟩ :: B) M0 ρ σ H M :=
  ⟨G.sm, G.wok, G.wad, G.sub, G.liv, G.len, fun b hb => by
    rcases List.mem_cons.mp hb with rfl | hb
    · exact ⟨Kp.refl _ _, fun a z => G.sub a (G.wad a z), fun a z => .inl z, fun a o => .inl (G.owned o).1⟩
    · exact G.bs b hb, G.ent, G.sep⟩
theorem Gd.tail {b : Bs} (G : Gd W K (b :: B) M0 ρ σ H M) : Gd W K B M0 ρ σ H M := G.sub_b fun _ z => List.mem_cons_of_mem _ z
theorem Gd.kp {b : Bs} (G : Gd W K (b :: B) M0 ρ σ H M) : Kp b.k b.h H := (G.bs b List.mem_cons_self).1
theorem Gd.nw {b : Bs} (G : Gd W K (b :: B) M0 ρ σ H M) : ∀ a ∈ M, a ∈ b.m ∨ b.h a = none := (G.bs b List.mem_cons_self).2.2.1
/-- a value of the moment, now -/
theorem Gd.rep {B : List Bs} {M1 : List Addr} {H1 : Hp} {v : V} {d : PyData} (G : Gd W K (⟨H1, M1, M1⟩ :: B) M0 ρ σ H M) (r : Rep K H1 M1 v d) : Rep K H M v d := r.move G.kp G.nw
theorem Gd.repU {B : List Bs} {M1 : List Addr} {H1 : Hp} {v : V} {u : U} (G : Gd W K (⟨H1, M1, M1⟩ :: B) M0 ρ σ H M) (r : RepU W K H1 M1 v u) : RepU W K H M v u := r.move G.kp G.nw
theorem Gd.repL {B : List Bs} {M1 : List Addr} {H1 : Hp} {v : List V} {d : List PyData} (G : Gd W K (⟨H1, M1, M1⟩ :: B) M0 ρ σ H M) (r : RepL K H1 M1 v d) : RepL K H M v d := r.move G.kp G.nw

/-- a new list is laid: fenced off -/
theorem Gd.new (G : Gd W K B M0 ρ σ H M) {p : Addr} {o : HO} (hp : H p = none) : Gd W K B M0 ρ σ (upd H p o) (p :: M) := by
  have G1 := G.grow (o := o) hp
  refine ⟨G1.sm, G1.wok, G1.wad, fun a z => List.mem_cons_of_mem _ (G1.sub a z), fun a z => ?_, G1.len, fun b hb => ?_, fun i e h => ?_, G1.sep⟩
  · rcases List.mem_cons.mp z with rfl | z
    · rw [upd_same]; exact fun q => nomatch q
    · exact G1.liv a z
  · obtain ⟨q1, q2, q3, q4⟩ := G1.bs b hb
    refine ⟨q1, q2, fun a z => ?_, q4⟩
    rcases List.mem_cons.mp z with rfl | z
    · right
      cases e : b.h a with
      | none => rfl
      | some o' => exact absurd hp ((G.bs b hb).1.liv a (by rw [e]; exact fun q => nomatch q))
    · exact q3 a z
  · obtain ⟨v, h1, h2⟩ := G.ent i e h
    refine ⟨v, h1, h2.move (Kp.fresh hp) (fun a z => ?_) fun a _ _ z _ => ⟨List.mem_cons_of_mem _ z, fun o' e' => (Kp.fresh (M := []) hp).same a o' (by simp) e'⟩⟩
    rcases List.mem_cons.mp z with rfl | z
    · exact .inr hp
    · exact .inl z
/-- a name's value is given away -/
theorem Gd.drop (G : Gd W K B M0 ρ σ H M) {i : Nat} {u : U} (h : ρ[i]? = some (some ⟨true, u⟩)) : ∃ a M', (∀ b ∈ M', b ∈ M) ∧ σ[i]? = some (some (V.ref a)) ∧ Gd W K B M0 (ρ.set i (some ⟨false, u⟩)) σ H M' ∧ RepU W K H M' (.ref a) u := by
  obtain ⟨v, h1, h2⟩ := G.ent i _ h
  unfold EntOk at h2
  rw [if_pos rfl] at h2
  obtain ⟨a, vs, ds, rfl, e2, q1, q2, q3, q4⟩ := h2
  have e2 : u = .d (.list ds) := e2
  subst e2
  have hi : i < ρ.length := (List.getElem?_eq_some_iff.mp h).1
  have sub : ∀ b ∈ M.filter (fun x => decide (x ≠ a)), b ∈ M := fun b z => (List.mem_filter.mp z).1
  have na : a ∉ M.filter (fun x => decide (x ≠ a)) := fun z => of_decide_eq_true (List.mem_filter.mp z).2 rfl
  have keepM : ∀ {b : Addr}, b ∈ M → b ≠ a → b ∈ M.filter (fun x => decide (x ≠ a)) := fun z n => List.mem_filter.mpr ⟨z, decide_eq_true n⟩
  have ownE : ∀ {j : Nat} {e' : Ent}, (ρ.set i (some ⟨false, .d (.list ds)⟩))[j]? = some (some e') → e'.own = true → i ≠ j ∧ ρ[j]? = some (some e') := by
    intro j e' hj ho'
    by_cases hij : i = j
    · subst hij
      rw [List.getElem?_set_self hi] at hj
      cases hj
      cases ho'
    · rw [List.getElem?_set_ne hij] at hj; exact ⟨hij, hj⟩
  have rl : RepL K H (M.filter (fun x => decide (x ≠ a))) vs ds := q4.less sub
  refine ⟨a, _, sub, h1, ⟨G.sm, G.wok, G.wad, fun b z => keepM (G.sub b z) (fun y => q2 (by rw [← y]; exact z)), fun b z => G.liv b (sub b z), by rw [List.length_set]; exact G.len, fun b hb => ?_, fun j e' hj => ?_, fun j l e1 e2 b g1 g2 g3 g4 g5 g6 => ?_⟩, Rep.lst na q3 rl⟩
  · obtain ⟨z1, z2, z3, z4⟩ := G.bs b hb
    refine ⟨z1, z2, fun c z => z3 c (sub c z), fun c ⟨j, e', y1, y2, y3⟩ => ?_⟩
    obtain ⟨_, y4⟩ := ownE y1 y2
    exact z4 c ⟨j, e', y4, y2, y3⟩
  · by_cases hij : i = j
    · subst hij
      rw [List.getElem?_set_self hi] at hj
      cases hj
      refine ⟨_, h1, ?_⟩
      unfold EntOk
      rw [if_neg (by simp)]
      exact Rep.lst na q3 rl
    · rw [List.getElem?_set_ne hij] at hj
      obtain ⟨v, y1, y2⟩ := G.ent j e' hj
      refine ⟨v, y1, y2.move (Kp.refl _ _) (fun b z => .inl (sub b z)) fun b ho' ev z n => ⟨keepM z fun q => ?_, fun o' y => y⟩⟩
      subst q; subst ev
      exact hij (G.sep i j _ e' b h rfl h1 hj ho' y1)
  · obtain ⟨_, x1⟩ := ownE g1 g2
    obtain ⟨_, x2⟩ := ownE g4 g5
    exact G.sep j l e1 e2 b x1 g2 g3 x2 g5 g6
end

/-- what an expression leaves: the value; a list that nobody else has (fr) -/
def Res (W : Wk) (K : PySem.W.Frag) (B : List Bs) (M0 : List Addr) (ρ : En) (σ : St) (H : Hp) (M : List Addr) (v : V) (u : U) (fr : Bool) : Prop :=
  Gd W K B M0 ρ σ H M ∧ if fr = true then ∃ a vs ds, v = .ref a ∧ u = .d (.list ds) ∧ H a = some (.lst vs) ∧ RepL K H (a :: M) vs ds ∧ a ∉ M ∧ Gd W K B M0 ρ σ H (a :: M) ∧ (∀ b ∈ B, b.h a = none) else RepU W K H M v u
section
variable {W : Wk} {K : PySem.W.Frag} {B B' : List Bs} {M0 : List Addr} {ρ : En} {σ : St} {H H' : Hp} {M M' : List Addr} {v : V} {u : U} {fr : Bool}
theorem Gd.old (G : Gd W K B M0 ρ σ H M) {b : Bs} (hb : b ∈ B) {p : Addr} (hp : H p = none) : b.h p = none := by
  cases e : b.h p with
  | none => rfl
  | some o' => exact absurd hp ((G.bs b hb).1.liv p (by rw [e]; exact fun q => nomatch q))
theorem Res.gd (r : Res W K B M0 ρ σ H M v u fr) : Gd W K B M0 ρ σ H M := r.1
theorem Res.rep (r : Res W K B M0 ρ σ H M v u fr) : RepU W K H M v u := by
  obtain ⟨G, r⟩ := r
  split at r
  · obtain ⟨a, vs, ds, rfl, rfl, h, rl, n, _, _⟩ := r
    exact Rep.lst n h (rl.less fun b z => List.mem_cons_of_mem _ z)
  · exact r
theorem Res.of (G : Gd W K B M0 ρ σ H M) (r : RepU W K H M v u) : Res W K B M0 ρ σ H M v u false := ⟨G, by rw [if_neg (by simp)]; exact r⟩
/-- a new list -/
theorem Res.new (G : Gd W K B M0 ρ σ H M) {p : Addr} {vs : List V} {ds : List PyData} (hp : H p = none) (r : RepL K H M vs ds) : Res W K B M0 ρ σ (upd H p (.lst vs)) M (.ref p) (.d (.list ds)) true := by
  have hm : p ∉ M := fun z => G.liv p z hp
  refine ⟨G.grow hp, ?_⟩
  rw [if_pos rfl]
  exact ⟨p, vs, ds, rfl, rfl, upd_same, r.move (Kp.fresh hp) (fun a z => (List.mem_cons.mp z).elim (fun y => .inr (by rw [y]; exact hp)) .inl), hm, G.new hp, fun b hb => G.old hb hp⟩
/-- a new tuple -/
theorem Res.newT (G : Gd W K B M0 ρ σ H M) {p : Addr} {vs : List V} {ds : List PyData} (hp : H p = none) (r : RepL K H M vs ds) : Res W K B M0 ρ σ (upd H p (.tup vs)) M (.ref p) (.d (.tuple ds)) false :=
  .of (G.grow hp) (Rep.tup (SqT.of upd_same) (r.keep (Kp.fresh hp)))
theorem Res.tail {b : Bs} (r : Res W K (b :: B) M0 ρ σ H M v u fr) : Res W K B M0 ρ σ H M v u fr := by
  obtain ⟨G, r⟩ := r
  refine ⟨G.tail, ?_⟩
  split
  · rename_i h
    rw [if_pos h] at r
    obtain ⟨a, vs, ds, q1, q2, q3, q4, q5, q6, q7⟩ := r
    exact ⟨a, vs, ds, q1, q2, q3, q4, q5, q6.tail, fun b' hb => q7 b' (List.mem_cons_of_mem _ hb)⟩
  · rename_i h
    rw [if_neg h] at r
    exact r
/-- stored at a slot -/
theorem Gd.put0 (G : Gd W K B M0 ρ σ H M) {i : Nat} (hi : i < σ.length) (r : RepU W K H M v u) : Gd W K B M0 (En.put ρ i false u) (σ.set i (some v)) H M := by
  have hr : i < ρ.length := by rw [G.len]; exact hi
  have ownE : ∀ {j : Nat} {e' : Ent}, (ρ.set i (some ⟨false, u⟩))[j]? = some (some e') → e'.own = true → i ≠ j ∧ ρ[j]? = some (some e') := by
    intro j e' hj ho'
    by_cases hij : i = j
    · subst hij
      rw [List.getElem?_set_self hr] at hj
      cases hj
      cases ho'
    · rw [List.getElem?_set_ne hij] at hj; exact ⟨hij, hj⟩
  unfold En.put
  refine ⟨G.sm, G.wok, G.wad, G.sub, G.liv, by rw [List.length_set, List.length_set]; exact G.len, fun b hb => ?_, fun j e' hj => ?_, fun j l e1 e2 b g1 g2 g3 g4 g5 g6 => ?_⟩
  · obtain ⟨z1, z2, z3, z4⟩ := G.bs b hb
    refine ⟨z1, z2, z3, fun c ⟨j, e', y1, y2, y3⟩ => ?_⟩
    obtain ⟨n, y4⟩ := ownE y1 y2
    rw [List.getElem?_set_ne n] at y3
    exact z4 c ⟨j, e', y4, y2, y3⟩
  · by_cases hij : i = j
    · subst hij
      rw [List.getElem?_set_self hr] at hj
      cases hj
      refine ⟨v, by rw [List.getElem?_set_self hi], ?_⟩
      unfold EntOk
      rw [if_neg (by simp)]
      exact r
    · rw [List.getElem?_set_ne hij] at hj ⊢
      exact G.ent j e' hj
  · obtain ⟨n1, x1⟩ := ownE g1 g2
    obtain ⟨n2, x2⟩ := ownE g4 g5
    rw [List.getElem?_set_ne n1] at g3
    rw [List.getElem?_set_ne n2] at g6
    exact G.sep j l e1 e2 b x1 g2 g3 x2 g5 g6
theorem Gd.put1 {a : Addr} {vs : List V} {ds : List PyData} (G : Gd W K B M0 ρ σ H (a :: M)) (Gm : Gd W K B M0 ρ σ H M) {i : Nat} (hi : i < σ.length) (ha : H a = some (.lst vs)) (r : RepL K H (a :: M) vs ds) (hn : a ∉ M) (ho : ∀ b ∈ B, b.h a = none) :
    Gd W K B M0 (En.put ρ i true (.d (.list ds))) (σ.set i (some (.ref a))) H (a :: M) := by
  have hr : i < ρ.length := by rw [G.len]; exact hi
  have n0 : a ∉ M0 := fun z => hn (Gm.sub a z)
  have ownE : ∀ {j : Nat} {e' : Ent}, (ρ.set i (some ⟨true, .d (.list ds)⟩))[j]? = some (some e') → e'.own = true → i = j ∨ (i ≠ j ∧ ρ[j]? = some (some e')) := by
    intro j e' hj ho'
    by_cases hij : i = j
    · exact .inl hij
    · rw [List.getElem?_set_ne hij] at hj; exact .inr ⟨hij, hj⟩
  have no : ∀ {j : Nat} {e' : Ent}, ρ[j]? = some (some e') → e'.own = true → σ[j]? ≠ some (some (V.ref a)) := fun h1 h2 h3 => hn (Gm.owned ⟨_, _, h1, h2, h3⟩).1
  unfold En.put
  refine ⟨G.sm, G.wok, G.wad, G.sub, G.liv, by rw [List.length_set, List.length_set]; exact G.len, fun b hb => ?_, fun j e' hj => ?_, fun j l e1 e2 b g1 g2 g3 g4 g5 g6 => ?_⟩
  · obtain ⟨z1, z2, z3, z4⟩ := G.bs b hb
    refine ⟨z1, z2, z3, fun c ⟨j, e', y1, y2, y3⟩ => ?_⟩
    rcases ownE y1 y2 with rfl | ⟨n, y4⟩
    · rw [List.getElem?_set_self hi] at y3
      cases y3
      exact .inr (ho b hb)
    · rw [List.getElem?_set_ne n] at y3
      exact z4 c ⟨j, e', y4, y2, y3⟩
  · by_cases hij : i = j
    · subst hij
      rw [List.getElem?_set_self hr] at hj
      cases hj
      refine ⟨_, by rw [List.getElem?_set_self hi], ?_⟩
      unfold EntOk
      rw [if_pos rfl]
      exact ⟨a, vs, ds, rfl, rfl, List.mem_cons_self, n0, ha, r⟩
    · rw [List.getElem?_set_ne hij] at hj ⊢
      exact G.ent j e' hj
  · rcases ownE g1 g2 with rfl | ⟨n1, x1⟩
    · rcases ownE g4 g5 with rfl | ⟨n2, x2⟩
      · rfl
      · rw [List.getElem?_set_self hi] at g3
        cases g3
        rw [List.getElem?_set_ne n2] at g6
        exact absurd g6 (no x2 g5)
    · rcases ownE g4 g5 with rfl | ⟨n2, x2⟩
      · rw [List.getElem?_set_self hi] at g6
        cases g6
        rw [List.getElem?_set_ne n1] at g3
        exact absurd g3 (no x1 g2)
      · rw [List.getElem?_set_ne n1] at g3
        rw [List.getElem?_set_ne n2] at g6
        exact G.sep j l e1 e2 b x1 g2 g3 x2 g5 g6
/-- a result stored at a slot -/
theorem Res.put (r : Res W K B M0 ρ σ H M v u fr) {i : Nat} (hi : i < σ.length) : ∃ M', Gd W K B M0 (En.put ρ i fr u) (σ.set i (some v)) H M' := by
  have rr := r.rep
  obtain ⟨G, r⟩ := r
  cases fr with
  | false => exact ⟨M, G.put0 hi rr⟩
  | true =>
    rw [if_pos rfl] at r
    obtain ⟨a, vs, ds, rfl, rfl, q3, q4, q5, q6, q7⟩ := r
    exact ⟨a :: M, q6.put1 G hi q3 q4 q5 q7⟩
end
/-! ### readings -/
/-- what is known of an operand behind its evaluation -/
def OpdOk (W : Wk) (K : PySem.W.Frag) (σ : St) (H : Hp) (M : List Addr) (v : V) : Opd → Prop
  | .val u => RepU W K H M v u
  | .slot i => σ[i]? = some (some v)
/-- a value that is read where it stands: a list may be one that a slot owns -/
def RepPk (K : PySem.W.Frag) (H : Hp) (M : List Addr) (v : V) (x : PyData) : Prop := match x with
  | .list ds => ∃ a vs, v = .ref a ∧ H a = some (.lst vs) ∧ RepL K H M vs ds
  | x => Rep K H M v x
theorem Rep.pk {K : PySem.W.Frag} {H : Hp} {M : List Addr} {v : V} {x : PyData} (r : Rep K H M v x) : RepPk K H M v x := by
  cases r with
  | lst n h q => exact ⟨_, _, rfl, h, q⟩
  | non => exact .non
  | bl b => exact .bl b
  | int i => exact .int i
  | str x => exact .str x
  | tup h q => exact .tup h q
  | dct n h q => exact .dct n h q
theorem OpdOk.pk {W : Wk} {K : PySem.W.Frag} {B : List Bs} {M0 : List Addr} {ρ : En} {σ : St} {H : Hp} {M : List Addr} {v : V} {o : Opd} {x : PyData} (G : Gd W K B M0 ρ σ H M) (ok : OpdOk W K σ H M v o) (h : rs ρ o = some (.d x)) : RepPk K H M v x := by
  cases o with
  | val u =>
    have h : u = .d x := Option.some.inj h
    subst h
    exact Rep.pk ok
  | slot i =>
    have h : (En.at ρ i).map (·.u) = some (.d x) := h
    cases q : En.at ρ i with
    | none => rw [q] at h; cases h
    | some e =>
      rw [q] at h
      have h : e.u = .d x := Option.some.inj h
      obtain ⟨v', h1, h2⟩ := G.ent i e (En.at_get q)
      have ok : σ[i]? = some (some v) := ok
      rw [ok] at h1; cases h1
      unfold EntOk at h2
      split at h2
      · obtain ⟨a, vs, ds, rfl, e2, q1, q2, q3, q4⟩ := h2
        rw [h] at e2; cases e2
        exact ⟨a, vs, rfl, q3, q4⟩
      · rw [h] at h2
        exact Rep.pk h2
/-- behind what came after: an operand's value is still what it was -/
theorem OpdOk.later {W : Wk} {K : PySem.W.Frag} {B : List Bs} {M0 : List Addr} {ρ : En} {σ : St} {H H1 : Hp} {M M1 : List Addr} {v : V} {o : Opd} (G : Gd W K (⟨H1, M1, M1⟩ :: B) M0 ρ σ H M) (ok : OpdOk W K σ H1 M1 v o) : OpdOk W K σ H M v o := by
  cases o with
  | val u => exact G.repU ok
  | slot i => exact ok
/-- how an exception lies -/
def ExnAt (K : PySem.W.Frag) (mg : Str → Option Value) (H : Hp) (M : List Addr) (x : Exn) (C : Value) (od : Option Addr) : Prop :=
  mg x.cls = some C ∧ match x.fld with
    | none => od = none
    | some (f, d) => ∃ a v, od = some a ∧ H a = some (.xd [(f, v)]) ∧ Rep K H M v d
/-- what is wanted of an exception is kept by what the context takes -/
def XOk (W : Wk) (K : PySem.W.Frag) (mg : Str → Option Value) (E : XK) (M0 : List Addr) (B : List Bs) (R : RK) : Prop :=
  (∀ x, ¬ R x) ∨ ∃ b ∈ B, ∀ x C od H', R x → ExnAt K mg H' M0 x C od → Kp b.k b.h H' → (∃ k, (W.up k).ok H') → E C od H'
theorem XOk.none {W : Wk} {K : PySem.W.Frag} {mg : Str → Option Value} {E : XK} {M0 : List Addr} {B : List Bs} : XOk W K mg E M0 B X0 := .inl fun _ z => z
theorem XOk.more {W : Wk} {K : PySem.W.Frag} {mg : Str → Option Value} {E : XK} {M0 : List Addr} {B B' : List Bs} {R : RK} (h : XOk W K mg E M0 B R) (s : ∀ b ∈ B, b ∈ B') : XOk W K mg E M0 B' R :=
  h.imp id fun ⟨b, hb, q⟩ => ⟨b, s b hb, q⟩
theorem XOk.cons {W : Wk} {K : PySem.W.Frag} {mg : Str → Option Value} {E : XK} {M0 : List Addr} {B : List Bs} {b : Bs} {R : RK} (h : XOk W K mg E M0 B R) : XOk W K mg E M0 (b :: B) R := h.more fun _ z => List.mem_cons_of_mem _ z
theorem XOk.up {W : Wk} {K : PySem.W.Frag} {mg : Str → Option Value} {E : XK} {M0 : List Addr} {B : List Bs} {R : RK} {j : Nat} (h : XOk W K mg E M0 B R) : XOk (W.up j) K mg E M0 B R :=
  h.imp id fun ⟨b, hb, q⟩ => ⟨b, hb, fun x C od H' h1 h2 h3 ⟨k, h4⟩ => q x C od H' h1 h2 h3 ⟨j + k, by rw [← Wk.up_up]; exact h4⟩⟩
/-- more draws than a law can make -/
def LIM : Nat := 2 ^ 500000
/-- t more draws are within the line -/
def WP (Wp : Wk → Prop) (W : Wk) (t : Nat) : Prop := W.n + t ≤ LIM ∧ ∀ k, Wp (W.up k)
theorem WP.le {Wp : Wk → Prop} {W : Wk} {t u : Nat} (w : WP Wp W t) (h : u ≤ t) : WP Wp W u := ⟨Nat.le_trans (Nat.add_le_add_left h _) w.1, w.2⟩
theorem WP.up {Wp : Wk → Prop} {W : Wk} {t j u : Nat} (w : WP Wp W t) (h : j + u ≤ t) : WP Wp (W.up j) u := by
  refine ⟨?_, fun k => by rw [Wk.up_up]; exact w.2 _⟩
  show W.n + j + u ≤ LIM
  have := w.1
  omega
section
variable {W : Wk} {K : PySem.W.Frag} {B : List Bs} {M0 : List Addr} {ρ : En} {σ : St} {H : Hp} {M : List Addr} {v : V} {u : U} {fr : Bool}
theorem Res.mono {a b : Nat} (h : a ≤ b) (r : Res (W.up a) K B M0 ρ σ H M v u fr) : Res (W.up b) K B M0 ρ σ H M v u fr := by
  obtain ⟨G, r⟩ := r
  refine ⟨G.mono h, ?_⟩
  split
  · rename_i hf
    rw [if_pos hf] at r
    obtain ⟨a, vs, ds, q1, q2, q3, q4, q5, q6, q7⟩ := r
    exact ⟨a, vs, ds, q1, q2, q3, q4, q5, q6.mono h, q7⟩
  · rename_i hf
    rw [if_neg hf] at r
    exact r
theorem Res.cast {a b : Nat} (r : Res ((W.up a).up b) K B M0 ρ σ H M v u fr) : Res (W.up (a + b)) K B M0 ρ σ H M v u fr := by
  rw [Wk.up_up] at r
  exact r
end
section
variable (Wp : Wk → Prop) (K : PySem.W.Frag) (mg : Str → Option Value) (E : XK)
def lE (m : DE) : TE := fun σ H Q => ∃ W B M0 ρ M P R, WP Wp W m.m ∧ Gd W K B M0 ρ σ H M ∧ m ρ P R ∧ XOk W K mg E M0 B R ∧ ∀ u fr ρ' v H' M', P u fr ρ' → Res (W.up m.m) K B M0 ρ' σ H' M' v u fr → Q v H'
def lO (m : DO) : TE := fun σ H Q => ∃ W B M0 ρ M P R, WP Wp W m.m ∧ Gd W K B M0 ρ σ H M ∧ m ρ P R ∧ XOk W K mg E M0 B R ∧ ∀ o ρ' v H' M', P o ρ' → Gd (W.up m.m) K B M0 ρ' σ H' M' → OpdOk W K σ H' M' v o → Q v H'
def lT (m : DT) : TT := fun σ H Q => ∃ W B M0 ρ M P R, WP Wp W m.m ∧ Gd W K B M0 ρ σ H M ∧ m ρ P R ∧ XOk W K mg E M0 B R ∧ ∀ k ρ' H' M', P k ρ' → Gd (W.up m.m) K B M0 ρ' σ H' M' → Q k H'
def lA (m : DA) : TA := fun σ H Q => ∃ W B M0 ρ M P R, WP Wp W m.m ∧ Gd W K B M0 ρ σ H M ∧ m ρ P R ∧ XOk W K mg E M0 B R ∧ ∀ us ρ' vs H' M', P us ρ' → Gd (W.up m.m) K B M0 ρ' σ H' M' → Paired (RepU W K H' M') vs us → Q vs H'
/-- what is left at a return: for the caller -/
def RetOk (W : Wk) (K : PySem.W.Frag) (H0 : Hp) (M0 : List Addr) (H' : Hp) (v : V) (u : U) (fr : Bool) : Prop :=
  W.ok H' ∧ Kp W.ad H0 H' ∧ if fr = true then ∃ a vs ds, v = .ref a ∧ u = .d (.list ds) ∧ H' a = some (.lst vs) ∧ RepL K H' (a :: M0) vs ds ∧ H0 a = none else RepU W K H' M0 v u
theorem RetOk.mono {W : Wk} {K : PySem.W.Frag} {H0 : Hp} {M0 : List Addr} {H' : Hp} {v : V} {u : U} {fr : Bool} {a b : Nat} (h : a ≤ b) (r : RetOk (W.up a) K H0 M0 H' v u fr) : RetOk (W.up b) K H0 M0 H' v u fr := ⟨Wk.mono h r.1, r.2.1, r.2.2⟩
def lS (m : DS) : TS := fun D σ H => ∃ W H0 B M0 ρ M DD, WP Wp W m.m ∧ Gd W K (⟨H0, W.ad, M0⟩ :: B) M0 ρ σ H M ∧ m ρ DD ∧ XOk W K mg E M0 (⟨H0, W.ad, M0⟩ :: B) DD.ex ∧
  (∀ σ' ρ' H' M', σ'.length = σ.length → DD.nx ρ' → Gd (W.up m.m) K (⟨H0, W.ad, M0⟩ :: B) M0 ρ' σ' H' M' → D.nx σ' H') ∧
  (∀ u fr v H', DD.rt u fr → RetOk (W.up m.m) K H0 M0 H' v u fr → D.rt v H') ∧
  (∀ σ' ρ' H' M', σ'.length = σ.length → DD.bk ρ' → Gd (W.up m.m) K (⟨H0, W.ad, M0⟩ :: B) M0 ρ' σ' H' M' → D.bk σ' H') ∧
  (∀ σ' ρ' H' M', σ'.length = σ.length → DD.ct ρ' → Gd (W.up m.m) K (⟨H0, W.ad, M0⟩ :: B) M0 ρ' σ' H' M' → D.ct σ' H')
end
/-- the code e does what d wants -/
abbrev JE (Wp : Wk → Prop) (E : XK) (X : Cx) (e : Expr) (d : DE) : Prop := PE X e (lE Wp X.K X.mg E d)
abbrev JO (Wp : Wk → Prop) (E : XK) (X : Cx) (e : Expr) (d : DO) : Prop := PE X e (lO Wp X.K X.mg E d)
abbrev JT (Wp : Wk → Prop) (E : XK) (X : Cx) (e : Expr) (d : DT) : Prop := PT X e (lT Wp X.K X.mg E d)
abbrev JW (Wp : Wk → Prop) (E : XK) (X : Cx) (e : Expr) (d : DT) : Prop := PW X e (lT Wp X.K X.mg E d)
abbrev JA (Wp : Wk → Prop) (E : XK) (X : Cx) (e : List Expr) (d : DA) : Prop := PA X e (lA Wp X.K X.mg E d)
abbrev JS (Wp : Wk → Prop) (E : XK) (X : Cx) (e : Stmt) (d : DS) : Prop := PS X e (lS Wp X.K X.mg E d)
abbrev JB (Wp : Wk → Prop) (E : XK) (X : Cx) (e : List Stmt) (d : DS) : Prop := PSs X e (lS Wp X.K X.mg E d)
end G9

/-! M4: the rules of HandS at pure data. -/
namespace G9
open PySem PySem.Spec L2

theorem _root_.L2.PE.weak {X : Cx} {e : Expr} {t t' : TE} (h : PE X e t) (w : ∀ σ H Q, t' σ H Q → t σ H Q) : PE X e t' := ⟨fun pins s σ H Q I q => h.run pins s σ H Q I (w σ H Q q)⟩
theorem _root_.L2.PT.weak {X : Cx} {e : Expr} {t t' : TT} (h : PT X e t) (w : ∀ σ H Q, t' σ H Q → t σ H Q) : PT X e t' := ⟨fun pins s σ H Q I q => h.run pins s σ H Q I (w σ H Q q)⟩
theorem _root_.L2.PW.weak {X : Cx} {e : Expr} {t t' : TT} (h : PW X e t) (w : ∀ σ H Q, t' σ H Q → t σ H Q) : PW X e t' := ⟨fun wh pins s σ H Q I q => h.run wh pins s σ H Q I (w σ H Q q)⟩
theorem _root_.L2.PA.weak {X : Cx} {e : List Expr} {t t' : TA} (h : PA X e t) (w : ∀ σ H Q, t' σ H Q → t σ H Q) : PA X e t' := ⟨fun pos pins s σ H Q I q => h.run pos pins s σ H Q I (w σ H Q q)⟩
theorem _root_.L2.PS.weak {X : Cx} {e : Stmt} {t t' : TS} (h : PS X e t) (w : ∀ D σ H, t' D σ H → t D σ H) : PS X e t' := ⟨fun pins s σ H D I q => h.run pins s σ H D I (w D σ H q)⟩
theorem _root_.L2.PSs.weak {X : Cx} {e : List Stmt} {t t' : TS} (h : PSs X e t) (w : ∀ D σ H, t' D σ H → t D σ H) : PSs X e t' := ⟨fun pins s σ H D I q => h.run pins s σ H D I (w D σ H q)⟩

section
variable {Wp : Wk → Prop} {K : PySem.W.Frag} {mg : Str → Option Value} {E : XK} {W : Wk} {B : List Bs} {M0 : List Addr} {ρ : En} {σ : St} {H : Hp} {M : List Addr} {R : RK} {t j : Nat}
theorem lE_go {m : DE} {P : U → Bool → En → Prop} {Q : VK} (w : WP Wp W t) (G : Gd W K B M0 ρ σ H M) (d : m ρ P R) (x : XOk W K mg E M0 B R) (h : ∀ u fr ρ' v H' M', P u fr ρ' → Res (W.up m.m) K B M0 ρ' σ H' M' v u fr → Q v H') (hle : m.m ≤ t := by first | exact Nat.le_refl _ | exact Nat.le_add_right _ _ | exact Nat.le_add_left _ _ | exact Nat.le_trans (Nat.le_add_right _ _) (Nat.le_add_right _ _) | exact Nat.add_le_add_left (Nat.le_add_right _ _) _ | exact Nat.add_le_add_left (Nat.le_add_left _ _) _) : lE Wp K mg E m σ H Q :=
  ⟨W, B, M0, ρ, M, P, R, w.le hle, G, d, x, h⟩
theorem lO_go {m : DO} {P : Opd → En → Prop} {Q : VK} (w : WP Wp W t) (G : Gd W K B M0 ρ σ H M) (d : m ρ P R) (x : XOk W K mg E M0 B R) (h : ∀ o ρ' v H' M', P o ρ' → Gd (W.up m.m) K B M0 ρ' σ H' M' → OpdOk W K σ H' M' v o → Q v H') (hle : m.m ≤ t := by first | exact Nat.le_refl _ | exact Nat.le_add_right _ _ | exact Nat.le_add_left _ _ | exact Nat.le_trans (Nat.le_add_right _ _) (Nat.le_add_right _ _) | exact Nat.add_le_add_left (Nat.le_add_right _ _) _ | exact Nat.add_le_add_left (Nat.le_add_left _ _) _) : lO Wp K mg E m σ H Q :=
  ⟨W, B, M0, ρ, M, P, R, w.le hle, G, d, x, h⟩
theorem lT_go {m : DT} {P : Bool → En → Prop} {Q : Bool → Hp → Prop} (w : WP Wp W t) (G : Gd W K B M0 ρ σ H M) (d : m ρ P R) (x : XOk W K mg E M0 B R) (h : ∀ k ρ' H' M', P k ρ' → Gd (W.up m.m) K B M0 ρ' σ H' M' → Q k H') (hle : m.m ≤ t := by first | exact Nat.le_refl _ | exact Nat.le_add_right _ _ | exact Nat.le_add_left _ _ | exact Nat.le_trans (Nat.le_add_right _ _) (Nat.le_add_right _ _) | exact Nat.add_le_add_left (Nat.le_add_right _ _) _ | exact Nat.add_le_add_left (Nat.le_add_left _ _) _) : lT Wp K mg E m σ H Q :=
  ⟨W, B, M0, ρ, M, P, R, w.le hle, G, d, x, h⟩
theorem lA_go {m : DA} {P : List U → En → Prop} {Q : List V → Hp → Prop} (w : WP Wp W t) (G : Gd W K B M0 ρ σ H M) (d : m ρ P R) (x : XOk W K mg E M0 B R) (h : ∀ us ρ' vs H' M', P us ρ' → Gd (W.up m.m) K B M0 ρ' σ H' M' → Paired (RepU W K H' M') vs us → Q vs H') (hle : m.m ≤ t := by first | exact Nat.le_refl _ | exact Nat.le_add_right _ _ | exact Nat.le_add_left _ _ | exact Nat.le_trans (Nat.le_add_right _ _) (Nat.le_add_right _ _) | exact Nat.add_le_add_left (Nat.le_add_right _ _) _ | exact Nat.add_le_add_left (Nat.le_add_left _ _) _) : lA Wp K mg E m σ H Q :=
  ⟨W, B, M0, ρ, M, P, R, w.le hle, G, d, x, h⟩
theorem lE_go' {m : DE} {P : U → Bool → En → Prop} {Q : VK} (w : WP Wp W t) (G : Gd (W.up j) K B M0 ρ σ H M) (d : m ρ P R) (x : XOk W K mg E M0 B R) (h : ∀ u fr ρ' v H' M', P u fr ρ' → Res (W.up (j + m.m)) K B M0 ρ' σ H' M' v u fr → Q v H') (hle : j + m.m ≤ t := by first | exact Nat.le_refl _ | exact Nat.le_add_right _ _ | exact Nat.le_add_left _ _ | exact Nat.le_trans (Nat.le_add_right _ _) (Nat.le_add_right _ _) | exact Nat.add_le_add_left (Nat.le_add_right _ _) _ | exact Nat.add_le_add_left (Nat.le_add_left _ _) _) : lE Wp K mg E m σ H Q :=
  ⟨_, B, M0, ρ, M, P, R, w.up hle, G, d, x.up, fun u fr ρ' v H' M' c r => h u fr ρ' v H' M' c r.cast⟩
theorem lO_go' {m : DO} {P : Opd → En → Prop} {Q : VK} (w : WP Wp W t) (G : Gd (W.up j) K B M0 ρ σ H M) (d : m ρ P R) (x : XOk W K mg E M0 B R) (h : ∀ o ρ' v H' M', P o ρ' → Gd (W.up (j + m.m)) K B M0 ρ' σ H' M' → OpdOk W K σ H' M' v o → Q v H') (hle : j + m.m ≤ t := by first | exact Nat.le_refl _ | exact Nat.le_add_right _ _ | exact Nat.le_add_left _ _ | exact Nat.le_trans (Nat.le_add_right _ _) (Nat.le_add_right _ _) | exact Nat.add_le_add_left (Nat.le_add_right _ _) _ | exact Nat.add_le_add_left (Nat.le_add_left _ _) _) : lO Wp K mg E m σ H Q :=
  ⟨_, B, M0, ρ, M, P, R, w.up hle, G, d, x.up, fun o ρ' v H' M' c r k => h o ρ' v H' M' c r.cast k⟩
theorem lT_go' {m : DT} {P : Bool → En → Prop} {Q : Bool → Hp → Prop} (w : WP Wp W t) (G : Gd (W.up j) K B M0 ρ σ H M) (d : m ρ P R) (x : XOk W K mg E M0 B R) (h : ∀ k ρ' H' M', P k ρ' → Gd (W.up (j + m.m)) K B M0 ρ' σ H' M' → Q k H') (hle : j + m.m ≤ t := by first | exact Nat.le_refl _ | exact Nat.le_add_right _ _ | exact Nat.le_add_left _ _ | exact Nat.le_trans (Nat.le_add_right _ _) (Nat.le_add_right _ _) | exact Nat.add_le_add_left (Nat.le_add_right _ _) _ | exact Nat.add_le_add_left (Nat.le_add_left _ _) _) : lT Wp K mg E m σ H Q :=
  ⟨_, B, M0, ρ, M, P, R, w.up hle, G, d, x.up, fun k ρ' H' M' c r => h k ρ' H' M' c r.cast⟩
theorem lA_go' {m : DA} {P : List U → En → Prop} {Q : List V → Hp → Prop} (w : WP Wp W t) (G : Gd (W.up j) K B M0 ρ σ H M) (d : m ρ P R) (x : XOk W K mg E M0 B R) (h : ∀ us ρ' vs H' M', P us ρ' → Gd (W.up (j + m.m)) K B M0 ρ' σ H' M' → Paired (RepU W K H' M') vs us → Q vs H') (hle : j + m.m ≤ t := by first | exact Nat.le_refl _ | exact Nat.le_add_right _ _ | exact Nat.le_add_left _ _ | exact Nat.le_trans (Nat.le_add_right _ _) (Nat.le_add_right _ _) | exact Nat.add_le_add_left (Nat.le_add_right _ _) _ | exact Nat.add_le_add_left (Nat.le_add_left _ _) _) : lA Wp K mg E m σ H Q :=
  ⟨_, B, M0, ρ, M, P, R, w.up hle, G, d, x.up, fun us ρ' vs H' M' c r p => h us ρ' vs H' M' c r.cast p⟩

/-! ### operations on data -/
def rStr2 : R2 := fun x y H Q => ∃ i j, x = .str i ∧ y = .str j ∧ i.length + j.length ≤ sizeLine ∧ Q (.str (i ++ j)) H
def rAddA (K : PySem.W.Frag) : R2 := fun x y H Q => rI0 (fun i j => .int (i + j)) x y H Q ∨ (rStr2 x y H Q ∨ (rCat x y H Q ∨ rCatA K x y H Q))
theorem op_addA {X : Cx} : OpR X (binaryOp .Add) (rAddA X.K) := op_add.or (op_add_str.or (op_cat.or op_catA))
theorem RepPk.int_inv {v : V} {i : Int} (h : RepPk K H M v (.int i)) : v = .int i := Rep.int_inv h
theorem RepPk.str_inv {v : V} {i : Str} (h : RepPk K H M v (.str i)) : v = .str i := Rep.str_inv h
theorem RepPk.bool_inv {v : V} {i : Bool} (h : RepPk K H M v (.bool i)) : v = .bl i := Rep.bool_inv h
theorem RepPk.list_inv {v : V} {ds : List PyData} (h : RepPk K H M v (.list ds)) : ∃ a vs, v = .ref a ∧ H a = some (.lst vs) ∧ RepL K H M vs ds := h
theorem RepPk.tup_inv {v : V} {ds : List PyData} (h : RepPk K H M v (.tuple ds)) : ∃ a vs, v = .ref a ∧ SqT K H a vs ∧ RepL K H M vs ds := by
  have h : Rep K H M v (.tuple ds) := h
  cases h with
  | tup h1 q => exact ⟨_, _, rfl, h1, q⟩
theorem Res.int (G : Gd W K B M0 ρ σ H M) (i : Int) : Res W K B M0 ρ σ H M (.int i) (.d (.int i)) false := .of G (Rep.int i)
theorem Res.bool (G : Gd W K B M0 ρ σ H M) (i : Bool) : Res W K B M0 ρ σ H M (.bl i) (.d (.bool i)) false := .of G (Rep.bl i)
theorem Res.str (G : Gd W K B M0 ρ σ H M) (i : Str) : Res W K B M0 ρ σ H M (.str i) (.d (.str i)) false := .of G (Rep.str i)
theorem add_go {x y : PyData} {v u : V} {C : PyData → Bool → Prop} {Q : VK} (G : Gd W K B M0 ρ σ H M) (rx : RepPk K H M v x) (ry : RepPk K H M u y) (c : opS .add x y C) (h : ∀ z fr v' H' M', C z fr → Res W K B M0 ρ σ H' M' v' (.d z) fr → Q v' H') : rAddA K v u H Q := by
  cases x <;> cases y <;> try exact (show False from c).elim
  · rename_i i j
    exact .inl ⟨i, j, rx.int_inv, ry.int_inv, h _ _ _ _ _ c (Res.int G _)⟩
  · rename_i i j
    exact .inr (.inl ⟨i, j, rx.str_inv, ry.str_inv, c.1, h _ _ _ _ _ c.2 (Res.str G _)⟩)
  · rename_i xs ys
    obtain ⟨a, vs, rfl, ha, r1⟩ := rx.list_inv
    obtain ⟨b, ws, rfl, hb, r2⟩ := ry.list_inv
    exact .inr (.inr (.inl ⟨a, b, vs, ws, rfl, rfl, ha, hb, by rw [r1.length, r2.length]; exact c.1, fun p hp => h _ _ _ _ _ c.2 (Res.new G hp (r1.append r2))⟩))
  · rename_i xs ys
    obtain ⟨a, vs, rfl, ha, r1⟩ := rx.tup_inv
    obtain ⟨b, ws, rfl, hb, r2⟩ := ry.tup_inv
    refine .inr (.inr (.inr ⟨a, b, vs, ws, rfl, rfl, ha, hb, by rw [r1.length, r2.length]; exact c.1, fun e => ?_, fun e1 e2 => ?_, fun e1 e2 p hp => h _ _ _ _ _ c.2 (Res.newT G hp (r1.append r2))⟩))
    · subst e
      cases r1
      exact h _ _ _ _ _ c.2 (.of G (Rep.tup hb r2))
    · subst e2
      cases r2
      have c2 := c.2
      rw [List.append_nil] at c2
      exact h _ _ _ _ _ c2 (.of G (Rep.tup ha r1))
theorem sub_go {x y : PyData} {v u : V} {C : PyData → Bool → Prop} {Q : VK} (G : Gd W K B M0 ρ σ H M) (rx : RepPk K H M v x) (ry : RepPk K H M u y) (c : opS .sub x y C) (h : ∀ z fr v' H' M', C z fr → Res W K B M0 ρ σ H' M' v' (.d z) fr → Q v' H') : rI0 (fun i j => .int (i - j)) v u H Q := by
  cases x <;> cases y <;> try exact (show False from c).elim
  rename_i i j
  exact ⟨i, j, rx.int_inv, ry.int_inv, h _ _ _ _ _ c (Res.int G _)⟩
theorem fdiv_go {x y : PyData} {v u : V} {C : PyData → Bool → Prop} {Q : VK} (G : Gd W K B M0 ρ σ H M) (rx : RepPk K H M v x) (ry : RepPk K H M u y) (c : opS .fdiv x y C) (h : ∀ z fr v' H' M', C z fr → Res W K B M0 ρ σ H' M' v' (.d z) fr → Q v' H') : rI CDivN (fun i j => .int (i.fdiv j)) v u H Q := by
  cases x <;> cases y <;> try exact (show False from c).elim
  rename_i i j
  exact ⟨i, j, rx.int_inv, ry.int_inv, c.1, h _ _ _ _ _ c.2 (Res.int G _)⟩
theorem mod_go {x y : PyData} {v u : V} {C : PyData → Bool → Prop} {Q : VK} (G : Gd W K B M0 ρ σ H M) (rx : RepPk K H M v x) (ry : RepPk K H M u y) (c : opS .mod x y C) (h : ∀ z fr v' H' M', C z fr → Res W K B M0 ρ σ H' M' v' (.d z) fr → Q v' H') : rI (fun _ j => j ≠ 0) (fun i j => .int (i.fmod j)) v u H Q := by
  cases x <;> cases y <;> try exact (show False from c).elim
  rename_i i j
  exact ⟨i, j, rx.int_inv, ry.int_inv, c.1, h _ _ _ _ _ c.2 (Res.int G _)⟩
theorem pow_go {x y : PyData} {v u : V} {C : PyData → Bool → Prop} {Q : VK} (G : Gd W K B M0 ρ σ H M) (rx : RepPk K H M v x) (ry : RepPk K H M u y) (c : opS .pow x y C) (h : ∀ z fr v' H' M', C z fr → Res W K B M0 ρ σ H' M' v' (.d z) fr → Q v' H') : rI CPow (fun i j => .int (i ^ j.toNat)) v u H Q := by
  cases x <;> cases y <;> try exact (show False from c).elim
  rename_i i j
  exact ⟨i, j, rx.int_inv, ry.int_inv, c.1, h _ _ _ _ _ c.2 (Res.int G _)⟩
end
end G9

/-! O1: the order of tuples of texts. -/
namespace G9
open PySem PySem.Spec L2 PyProof.Rows
theorem getD_drop (ss : List Str) (i : Nat) (x : Str) (r : List Str) (h : ss.drop i = x :: r) : ss.getD i "" = x ∧ ss.drop (i + 1) = r ∧ i < ss.length := by
  have hi : i < ss.length := by
    rcases Nat.lt_or_ge i ss.length with h' | h'
    · exact h'
    · rw [List.drop_of_length_le h'] at h; cases h
  rw [List.drop_eq_getElem_cons hi] at h
  injection h with h1 h2
  refine ⟨?_, h2, hi⟩
  rw [List.getD_eq_getElem?_getD, List.getElem?_eq_getElem hi]
  exact h1
theorem lex_ss {rr : Str → Str → Bool} {nn cn nc : Bool} {g : List Str → List Str → Bool} (g0 : g [] [] = nn) (g1 : ∀ b t, g [] (b :: t) = cn) (g2 : ∀ a r, g (a :: r) [] = nc) (g3 : ∀ a r b t, g (a :: r) (b :: t) = if a = b then g r t else rr a b)
    (SS TS : List Str) (z : Bool) (hz : z = if SS.length = TS.length then nn else if SS.length < TS.length then cn else nc) :
    ∀ (k i : Nat), i + k = min SS.length TS.length → Ob.lexAt (fun j => decide (SS.getD j "" = TS.getD j "")) (fun j => rr (SS.getD j "") (TS.getD j "")) z i k = g (SS.drop i) (TS.drop i)
  | 0, i, e => by
    rw [Ob.lexAt_zero, hz]
    cases h1 : SS.drop i with
    | nil =>
      cases h2 : TS.drop i with
      | nil =>
        have a := List.drop_eq_nil_iff.mp h1
        have b := List.drop_eq_nil_iff.mp h2
        rw [if_pos (by omega), g0]
      | cons b t =>
        have a := List.drop_eq_nil_iff.mp h1
        have b' := (getD_drop TS i b t h2).2.2
        rw [if_neg (by omega), if_pos (by omega), g1]
    | cons a r =>
      have a' := (getD_drop SS i a r h1).2.2
      cases h2 : TS.drop i with
      | nil =>
        have b := List.drop_eq_nil_iff.mp h2
        rw [if_neg (by omega), if_neg (by omega), g2]
      | cons b t =>
        have b' := (getD_drop TS i b t h2).2.2
        omega
  | k + 1, i, e => by
    rw [Ob.lexAt_succ, lex_ss g0 g1 g2 g3 SS TS z hz k (i + 1) (by omega)]
    have h1 : SS.drop i = SS[i]'(by omega) :: SS.drop (i + 1) := List.drop_eq_getElem_cons (by omega)
    have h2 : TS.drop i = TS[i]'(by omega) :: TS.drop (i + 1) := List.drop_eq_getElem_cons (by omega)
    rw [(getD_drop SS i _ _ h1).1, (getD_drop TS i _ _ h2).1, h1, h2, g3]
    by_cases q : SS[i]'(by omega) = TS[i]'(by omega)
    · rw [if_pos q, if_pos (decide_eq_true q)]
    · rw [if_neg q, if_neg (by rw [decide_eq_false q]; simp)]
theorem rc_lt_str {A : Around} {s : Shared} (a b : Str) (t u : Tok) : Ob.RcOp .Lt A s (.str a t) (.str b u) (ltS a b) := fun _ _ _ _ h => lt_str h
theorem rc_le_str {A : Around} {s : Shared} (a b : Str) (t u : Tok) : Ob.RcOp .LtE A s (.str a t) (.str b u) (!ltS b a) := fun _ _ _ _ h => PySem.P.le_str h
section
variable {X : Cx}
def rTS (K : PySem.W.Frag) (g : List Str → List Str → Bool) : R2 := fun x y H Q => ∃ (a b : Addr) (ss ts : List Str), x = .ref a ∧ y = .ref b ∧ SqT K H a (ss.map V.str) ∧ SqT K H b (ts.map V.str) ∧ Q (.bl (g ss ts)) H
theorem str_at {its : List Value} {ss : List Str} (h : StrsAre its ss) : ∀ j (h1 : j < its.toArray.size), ∃ t, its.toArray[j] = .str (ss.getD j "") t := by
  induction h with
  | nil => intro j h1; simp at h1
  | cons x k h ih =>
    intro j h1
    cases j with
    | zero => exact ⟨_, rfl⟩
    | succ j => exact ih j (by simpa using h1)
theorem op_ltTS (hu : X.A.units < cLine) : OpR X (compareOp .Lt) (rTS X.K ltSS) := by
  rintro pins s σ H x y v u Q I rx ry ⟨a, b, ss, ts, rfl, rfl, ha, hb, q⟩
  cases rx
  cases ry
  obtain ⟨its, r1, p1, _⟩ := I.tuple ha
  obtain ⟨its2, r2, p2, _⟩ := I.tuple hb
  have e1 : its.toArray.size = ss.length := by rw [List.size_toArray, ← r1.length, List.length_map]
  have e2 : its2.toArray.size = ts.length := by rw [List.size_toArray, ← r2.length, List.length_map]
  have R := Ob.RcOp.tuples_lt (A := X.A) (s := s) (e := fun j => decide (ss.getD j "" = ts.getD j "")) (r := fun j => ltS (ss.getD j "") (ts.getD j "")) p1 p2 hu (fun j h1 h2 => by
    obtain ⟨t, et⟩ := str_at (Vals.strs r1) j h1
    obtain ⟨t', et'⟩ := str_at (Vals.strs r2) j h2
    rw [et, et']
    have z : (ss.getD j "" == ts.getD j "") = decide (ss.getD j "" = ts.getD j "") := by
      by_cases q : ss.getD j "" = ts.getD j ""
      · rw [decide_eq_true q]; exact beq_iff_eq.mpr q
      · rw [decide_eq_false q]; exact beq_eq_false_iff_ne.mpr q
    rw [← z]
    exact SeqAt.EqAt.str_str _ _ _ _) (fun j h1 h2 _ => by
    obtain ⟨t, et⟩ := str_at (Vals.strs r1) j h1
    obtain ⟨t', et'⟩ := str_at (Vals.strs r2) j h2
    rw [et, et']
    exact rc_lt_str _ _ _ _)
  rw [e1, e2, lex_ss (g := ltSS) (rr := ltS) rfl (fun _ _ => rfl) (fun _ _ => rfl) (fun _ _ _ _ => rfl) ss ts _ (by
    by_cases q : ss.length = ts.length
    · rw [if_pos q]; exact decide_eq_false (by omega)
    · rw [if_neg q]
      by_cases q2 : ss.length < ts.length
      · rw [if_pos q2]; exact decide_eq_true q2
      · rw [if_neg q2]; exact decide_eq_false q2) _ 0 (Nat.zero_add _), List.drop_zero, List.drop_zero] at R
  exact R X.prog X.w X.xe (EP X pins σ Q) ⟨.bl _, H, I, rfl, q⟩
theorem op_leTS (hu : X.A.units < cLine) : OpR X (compareOp .LtE) (rTS X.K leSS) := by
  rintro pins s σ H x y v u Q I rx ry ⟨a, b, ss, ts, rfl, rfl, ha, hb, q⟩
  cases rx
  cases ry
  obtain ⟨its, r1, p1, _⟩ := I.tuple ha
  obtain ⟨its2, r2, p2, _⟩ := I.tuple hb
  have e1 : its.toArray.size = ss.length := by rw [List.size_toArray, ← r1.length, List.length_map]
  have e2 : its2.toArray.size = ts.length := by rw [List.size_toArray, ← r2.length, List.length_map]
  have R := Ob.RcOp.tuples_le (A := X.A) (s := s) (e := fun j => decide (ss.getD j "" = ts.getD j "")) (r := fun j => !ltS (ts.getD j "") (ss.getD j "")) p1 p2 hu (fun j h1 h2 => by
    obtain ⟨t, et⟩ := str_at (Vals.strs r1) j h1
    obtain ⟨t', et'⟩ := str_at (Vals.strs r2) j h2
    rw [et, et']
    have z : (ss.getD j "" == ts.getD j "") = decide (ss.getD j "" = ts.getD j "") := by
      by_cases q : ss.getD j "" = ts.getD j ""
      · rw [decide_eq_true q]; exact beq_iff_eq.mpr q
      · rw [decide_eq_false q]; exact beq_eq_false_iff_ne.mpr q
    rw [← z]
    exact SeqAt.EqAt.str_str _ _ _ _) (fun j h1 h2 _ => by
    obtain ⟨t, et⟩ := str_at (Vals.strs r1) j h1
    obtain ⟨t', et'⟩ := str_at (Vals.strs r2) j h2
    rw [et, et']
    exact rc_le_str _ _ _ _)
  rw [e1, e2, lex_ss (g := leSS) (rr := fun a b => !ltS b a) (nn := true) (cn := true) (nc := false) rfl (fun _ _ => rfl) (fun _ _ => rfl) (fun _ _ _ _ => rfl) ss ts _ (by
    by_cases q : ss.length = ts.length
    · rw [if_pos q]; exact decide_eq_true (by omega)
    · rw [if_neg q]
      by_cases q2 : ss.length < ts.length
      · rw [if_pos q2]; exact decide_eq_true (by omega)
      · rw [if_neg q2]; exact decide_eq_false (by omega)) _ 0 (Nat.zero_add _), List.drop_zero, List.drop_zero] at R
  exact R X.prog X.w X.xe (EP X pins σ Q) ⟨.bl _, H, I, rfl, q⟩
end
end G9

/-! P1: rules that the hand layer lacks: tuple * int (any), str * int. -/
namespace G9
open PySem PySem.Spec L2 PyProof.Rows
open AutoSeq1 (wpAny_loadPart')
theorem tuple_mulS (l : Addr) (items : Array Value) (n : Nat) (dd : Option Addr) (sl : Array (Option Value)) (x : Int) (u : Tok) (c0 : (decide (x < -(2 ^ 63)) || decide (x ≥ 2 ^ 63)) = false) (c1 : (items.isEmpty || x == 1) = true) :
    Meets (Builtin.«tuple.__mul__» ⟨[.ref l, .int x u], []⟩) (fun _ R s => s.heap.get? l = some { cls := .type "tuple", dict := dd, data := .seq items n, slots := sl } ∧ R (.ok (.ret (Value.ref l))) s) :=
  .of_wp fun prog w A R s h => by
    obtain ⟨hp, g, d, tk, os⟩ := s
    obtain ⟨hl, h⟩ := h
    have f1 := AutoSeq1.idx_int
    wp_walk using wpAny_loadPart' hl
    refine wpAny_ite_false (decide_eq_false (by rw [c0]; exact Bool.false_ne_true)) ?_
    wp_walk using wpAny_loadPart' hl
    exact ⟨_, rfl, h⟩
theorem tuple_mulZ (l : Addr) (items : Array Value) (n : Nat) (dd : Option Addr) (sl : Array (Option Value)) (x : Int) (u : Tok) (c0 : (decide (x < -(2 ^ 63)) || decide (x ≥ 2 ^ 63)) = false) (c1 : (items.isEmpty || x == 1) = false) (c2 : (decide (x ≤ 0) || items.isEmpty) = true) :
    Meets (Builtin.«tuple.__mul__» ⟨[.ref l, .int x u], []⟩) (fun _ R s => s.heap.get? l = some { cls := .type "tuple", dict := dd, data := .seq items n, slots := sl } ∧
      R (.ok (.ret (Value.ref s.heap.objs.size))) { s with heap := s.heap.push { cls := Value.type "tuple", data := Data.seq #[] }, toks := s.toks }) :=
  .of_wp fun prog w A R s h => by
    obtain ⟨hp, g, d, tk, os⟩ := s
    obtain ⟨hl, h⟩ := h
    have f1 := AutoSeq1.idx_int
    wp_walk using wpAny_loadPart' hl
    refine wpAny_ite_false (decide_eq_false (by rw [c0]; exact Bool.false_ne_true)) ?_
    wp_walk using wpAny_loadPart' hl

    repeat (first
      | (refine wpAny_ite_false (decide_eq_false (by rw [c1]; exact Bool.false_ne_true)) ?_; wp_walk using wpAny_loadPart' hl)
      | (refine wpAny_ite_true (decide_eq_true c2) ?_; wp_walk using wpAny_loadPart' hl)
      | (refine wpAny_ite_false (decide_eq_false (Nat.not_lt.mpr (Nat.zero_le _))) ?_; wp_walk using wpAny_loadPart' hl))
    exact ⟨_, rfl, h⟩
/-- t * k -/
def rRepA (K : PySem.W.Frag) : R2 := fun x y H Q => ∃ l k xs, x = .ref l ∧ y = .int k ∧ SqT K H l xs ∧ -(2 ^ 63) ≤ k ∧ k < 2 ^ 63 ∧ xs.length * k.toNat ≤ sizeLine ∧
  ((xs = [] ∨ k = 1) → Q (.ref l) H) ∧ (xs ≠ [] → k ≠ 1 → ∀ p, H p = none → Q (.ref p) (upd H p (.tup (List.replicate k.toNat xs).flatten)))
section
variable {X : Cx}
theorem op_repA : OpR X (binaryOp .Mult) (rRepA X.K) := by
  intro pins s σ H x y v u Q I rx ry h
  obtain ⟨l, k, xs, rfl, rfl, hT, h1, h2, hz, q1, q2⟩ := h
  cases rx
  obtain ⟨t, rfl⟩ := ry
  obtain ⟨its, r, ⟨⟨cls, dd, data, sl⟩, ho, hc, n, hd⟩, hs⟩ := I.tuple hT
  simp only at hc hd
  subst hc hd
  have hle : its.length = xs.length := r.length.symm
  have hsz0 : its.toArray.size = xs.length := by rw [List.size_toArray, hle]
  have hS : sizeLine = 16777216 := sizeLine_eq
  have c0 : (decide (k < -(2 ^ 63)) || decide (k ≥ 2 ^ 63)) = false := by
    rw [decide_eq_false (by omega), decide_eq_false (by omega)] <;> rfl
  have road : ∀ {R : Value → Shared → Prop}, (Meets (Builtin.«tuple.__mul__» ⟨[.ref l, .int k t], []⟩) fun _ R s => s.heap.get? l = some { cls := .type "tuple", dict := dd, data := .seq its.toArray n, slots := sl } ∧ R (.ok (.ret (Value.ref l))) s) → True := fun _ => trivial
  by_cases hc1 : xs = [] ∨ k = 1
  · have c1 : (its.toArray.isEmpty || k == 1) = true := by
      rcases hc1 with e | e
      · have : its = [] := List.eq_nil_of_length_eq_zero (by rw [hle, e] <;> rfl)
        rw [this]; rfl
      · rw [e]; simp
    exact wpAny_binaryOp_repeat_ref (T := "tuple") (U := "int") (by decide) ⟨_, ho, rfl⟩ (fun s' => typeIs_int s' k t) noFill_tuple_mul F.fills_int_mul F.slot_int_rmul repeat_tuple F.slot_int_index.lookup
      (call_meets F.slot_int_rmul (typeIs_int s k t) F.entry_int_rmul (F.args_int_rmul_2 _ _) (int_rmul_tuple k t l its.toArray n dd sl)
        ⟨ho, rfl, ⟨_, ho, rfl⟩, call_meets F.slot_tuple_mul ⟨_, ho, rfl⟩ F.entry_tuple_mul (F.args_tuple_mul_2 _ _) (tuple_mulS l its.toArray n dd sl k t c0 c1) ⟨ho, ⟨.ref l, H, I, rfl, q1 hc1⟩⟩⟩)
  · have hne : xs ≠ [] := fun e => hc1 (.inl e)
    have hk1 : k ≠ 1 := fun e => hc1 (.inr e)
    have hi : its.toArray.isEmpty = false := by
      cases its with
      | nil => exact absurd (List.eq_nil_of_length_eq_zero hle.symm) hne
      | cons a b => rfl
    have c1 : (its.toArray.isEmpty || k == 1) = false := by
      rw [hi, Bool.false_or]
      exact beq_eq_false_iff_ne.mpr hk1
    by_cases hk : k ≤ 0
    · have c2 : (decide (k ≤ 0) || its.toArray.isEmpty) = true := by rw [decide_eq_true hk] <;> rfl
      refine wpAny_binaryOp_repeat_ref (T := "tuple") (U := "int") (by decide) ⟨_, ho, rfl⟩ (fun s' => typeIs_int s' k t) noFill_tuple_mul F.fills_int_mul F.slot_int_rmul repeat_tuple F.slot_int_index.lookup
        (call_meets F.slot_int_rmul (typeIs_int s k t) F.entry_int_rmul (F.args_int_rmul_2 _ _) (int_rmul_tuple k t l its.toArray n dd sl)
          ⟨ho, rfl, ⟨_, ho, rfl⟩, call_meets F.slot_tuple_mul ⟨_, ho, rfl⟩ F.entry_tuple_mul (F.args_tuple_mul_2 _ _) (tuple_mulZ l its.toArray n dd sl k t c0 c1 c2) ⟨ho, ?_⟩⟩)
      have e0 : k.toNat = 0 := by omega
      have q := q2 hne hk1 s.heap.objs.size (I.hok.fresh (Nat.le_refl _))
      rw [e0] at q
      refine ⟨.ref s.heap.objs.size, _, I.laid (t' := s.toks) (o := .tup []) (fun b ob q => Heap.get?_push_of_some _ q) (Nat.le_refl _) ?_, rfl, q⟩
      exact ⟨Nat.zero_le _, [], .nil, IsTup.new _ _⟩
    · have c2 : (decide (k ≤ 0) || its.toArray.isEmpty) = false := by
        rw [hi, Bool.or_false]
        exact decide_eq_false hk
      have ez : (((its.toArray.size * k.toNat : Nat)) : Int) = ((its.toArray.size : Nat) : Int) * k := by
        rw [Int.natCast_mul, Int.toNat_of_nonneg (by omega)]
      have hm : ((its.toArray.size : Nat) : Int) * k ≤ 16777216 := by
        rw [← ez, hsz0]
        omega
      have flen : (List.replicate k.toNat its).flatten.length ≤ sizeLine := by
        rw [PyProof.Rows.lm_len_rep_flat, hle, Nat.mul_comm]
        exact hz
      have c4 : Builtin.Tuple.tupleTooMany (((its.toArray.size : Nat) : Int) * k) = false := by
        unfold Builtin.Tuple.tupleTooMany
        rw [sizeLine_eq]
        exact decide_eq_false (by omega)
      refine wpAny_binaryOp_repeat_ref (T := "tuple") (U := "int") (by decide) ⟨_, ho, rfl⟩ (fun s' => typeIs_int s' k t) noFill_tuple_mul F.fills_int_mul F.slot_int_rmul repeat_tuple F.slot_int_index.lookup
        (call_meets F.slot_int_rmul (typeIs_int s k t) F.entry_int_rmul (F.args_int_rmul_2 _ _) (int_rmul_tuple k t l its.toArray n dd sl)
          ⟨ho, rfl, ⟨_, ho, rfl⟩, call_meets F.slot_tuple_mul ⟨_, ho, rfl⟩ F.entry_tuple_mul (F.args_tuple_mul_2 _ _) (tuple_mulW l its.toArray n dd sl k t c0 c1 c2 (by omega) c4 (by rw [size_rep, List.size_toArray]; exact flen)) ⟨ho, ?_⟩⟩)
      rw [size_rep]
      refine ⟨.ref s.heap.objs.size, _, I.laid (t' := s.toks) (o := .tup (List.replicate k.toNat xs).flatten) (fun b ob q => Heap.get?_push_of_some _ q) (Nat.le_refl _) ?_, rfl, q2 hne hk1 _ (I.hok.fresh (Nat.le_refl _))⟩
      exact ⟨by rw [PyProof.Rows.lm_len_rep_flat, Nat.mul_comm]; exact hz, _, r.rep k.toNat, IsTup.new _ _⟩
/-- s * k -/
def rRepS : R2 := fun x y H Q => ∃ z k, x = .str z ∧ y = .int k ∧ MulOk z k ∧ Q (.str (Txt.mul z k)) H
theorem op_repS : OpR X (binaryOp .Mult) rRepS := by
  intro pins s σ H x y v u Q I rx ry h
  obtain ⟨z, k, rfl, rfl, hm, q⟩ := h
  obtain ⟨t, rfl⟩ := rx
  obtain ⟨t', rfl⟩ := ry
  exact SB.mul hm fun t2 k2 => ⟨.str _, H, I.tok _, ⟨_, rfl⟩, q⟩
end
end G9

/-! G1: defs whose promise may use that no repr is under way (FnG). -/
namespace G9
open PySem PySem.Spec L2 PyProof.Rows
/-- room for k calls, and nothing is being shown -/
structure RmG (k : Nat) (A : Around) : Prop where
  rm : Room k A
  gd : A.guards = some []
theorem RmG.mono {j k : Nat} {A : Around} (r : RmG k A) (h : j ≤ k) : RmG j A := ⟨r.rm.mono h, r.gd⟩
/-- where a call stands, and with what -/
structure At (P : Program) (w : World) (K : PySem.W.Frag) (mg : Str → Option Value) (base : Heap) (k : Nat) (A : Around) (outer : List Env) (s : Shared) (H : Hp) : Prop where
  rm : RmG k A
  e0 : Env0 P w K mg base A outer s H
structure FnG (P : Program) (w : World) (K : PySem.W.Frag) (mg : Str → Option Value) (base : Heap) (CX : CXT) (k : Nat) (f : Addr) (fd : FuncData) (ps : List Str) (sp : Sp) : Prop where
  len : ∀ {vs H Q E}, sp vs H Q E → vs.length = ps.length
  run : ∀ {A outer s H args us vs Q E}, At P w K mg base k A outer s H → BindsTo s fd args (ps.zip us) → Vals vs us → sp vs H Q E → codeAny (model P w) A (.call (.ref f) args) (CR CX outer P w H s Q E) s
theorem FnG.mono {P : Program} {w : World} {K : PySem.W.Frag} {mg : Str → Option Value} {base : Heap} {CX : CXT} {j k : Nat} {f : Addr} {fd : FuncData} {ps : List Str} {sp : Sp} (F : FnG P w K mg base CX j f fd ps sp) (h : j ≤ k) : FnG P w K mg base CX k f fd ps sp :=
  ⟨F.len, fun a b r q => F.run ⟨a.rm.mono h, a.e0⟩ b r q⟩
theorem FnG.imp {P : Program} {w : World} {K : PySem.W.Frag} {mg : Str → Option Value} {base : Heap} {CX : CXT} {k : Nat} {f : Addr} {fd : FuncData} {ps : List Str} {sp sp' : Sp} (F : FnG P w K mg base CX k f fd ps sp)
    (h : ∀ {vs H Q E}, sp' vs H Q E → sp vs H Q E) : FnG P w K mg base CX k f fd ps sp' := ⟨fun q => F.len (h q), fun a b r q => F.run a b r (h q)⟩
section
variable {X : Cx} {CX : CXT} {k : Nat} {f : Addr} {fd : FuncData} {ps ks : List Str} {sp : Sp} {E : XK}
theorem atG {pins : List (Addr × Obj)} {σ : L2.St} {H : Hp} {s : Shared} (I : Inv X pins σ H s) (hr : RmG k X.A) : At X.prog X.w X.K X.mg X.base k X.A X.stack s H := ⟨hr, I.env0⟩
/-- behind the callee: its value, or its exception as this body takes it -/
theorem back {pins : List (Addr × Obj)} {σ : L2.St} {H : Hp} {s s' : Shared} {Q : VK} {r : Result} (I : Inv X pins σ H s) (hx : Passes CX X E) (h : CR CX X.stack X.prog X.w H s Q E r s') :
    match r with
    | .ok (.ret u) => EP X pins σ Q u s'
    | .ok _ => False
    | .error e => X.xe e s' := by
  rcases r with e | fl
  · exact hx pins σ H s e s' I h
  · cases fl <;> first | exact h.elim | exact I.after h
/-- the def at f runs on bound arguments -/
theorem runG {pins : List (Addr × Obj)} {σ : L2.St} {H : Hp} {s : Shared} {Q : VK} {us us' : List Value} {kw : List (Str × Value)} {vs : List V} (F : FnG X.prog X.w X.K X.mg X.base CX k f fd ps sp) (hr : RmG k X.A) (hx : Passes CX X E) (I : Inv X pins σ H s)
    (hb : BindsTo s fd ⟨us, kw⟩ (ps.zip us')) (r : Vals vs us') (h : sp vs H Q E) : wpAny (model X.prog X.w) X.A (call (.ref f) us kw) (EP X pins σ Q) X.xe s := by
  refine wpAny_call (codeAny_mono (F.run (atG I hr) hb r h) fun r s' hq => ?_)
  have q := back I hx hq
  rcases r with e | fl
  · exact q
  · cases fl <;> first | exact q.elim | exact q
variable {x : Str} {p pos kpos : Pos} {e : Expr} {es : List Expr} {kws : List Keyword} {t tk : TA}
/-- f(..) by place -/
theorem pe_callG (F : FnG X.prog X.w X.K X.mg X.base CX k f fd ps sp) (hr : RmG k X.A) (hg : Gl X x) (hm : X.mg x = some (.ref f)) (hk : PySem.W.keepIn X.K (.ref f) = true) (hb : Binds X.K fd ps []) (hx : Passes CX X E)
    (hdb : (x == ("__debug__" : Str)) = false) : (PE X (.Call (.Name x p) [] [] pos) (tCall sp [] E tNil)) ∧
    ∀ {e es t}, PA X (e :: es) t → starEach (e :: es) X.env = (false, eval e X.env) :: starEach es X.env → (backTo pos (starEach es X.env)).any (·.1) = false → PE X (.Call (.Name x p) (e :: es) [] pos) (tCall sp [] E t) := by
  have go : ∀ {pins σ Q} {s' : Shared} {us : List Value} {vs : List V} {H' : Hp}, Inv X pins σ H' s' → Vals vs us → sp (vs ++ []) H' Q E → wpAny (model X.prog X.w) X.A (call (.ref f) us) (EP X pins σ Q) X.xe s' := fun {pins σ Q s' us vs H'} I' r q => by
    rw [List.append_nil] at q
    have b := hb s' us I'.kIn (by rw [List.append_nil, ← r.length]; exact F.len q)
    rw [List.append_nil] at b
    exact runG F hr hx I' b r q
  constructor
  · refine ⟨fun pins s σ H Q I h => wpAny_Call_Name_kw (ld_glob I hg hm (PySem.W.callWith_K0 I.kIn hk ?_) hdb)⟩
    exact go I (vs := []) .nil h
  · intro e es t ha h1 h2
    refine ⟨fun pins s σ H Q I h => wpAny_Call_Name_kw (ld_glob I hg hm ?_ hdb)⟩
    exact PySem.W.callWith_K (h₀ := X.base) I.ok.mod.kin hk (thn (ha.run pos pins s σ H _ I h) fun us s1 ⟨vs, H1, I1, r1, q⟩ => ⟨I1.kIn, go I1 r1 q⟩) h1 h2
/-- f(k = e, ..): every argument by its name -/
theorem pe_callGK {g : List Value → List Value → List Value} {gV : List V → List V → List V} (F : FnG X.prog X.w X.K X.mg X.base CX k f fd ps sp) (hr : RmG k X.A) (hg : Gl X x) (hm : X.mg x = some (.ref f)) (hk : PySem.W.keepIn X.K (.ref f) = true) (hb : KBinds X.K fd ps ks g gV) (hx : Passes CX X E)
    (hkw : PK X kws tk) (hall : (backToKw pos (keywordEach kws X.env)).all (·.1.isSome) = true) (hks : (backToKw pos (keywordEach kws X.env)).filterMap (·.1) = ks)
    (hdb : (x == ("__debug__" : Str)) = false) :
    ((backToKw pos (keywordEach kws X.env)).any (·.1.isNone) = false → PE X (.Call (.Name x p) [] kws pos) (tCallK sp gV E tNil tk)) ∧
    ∀ {e es t}, PA X (e :: es) t → starEach (e :: es) X.env = (false, eval e X.env) :: starEach es X.env → ((backTo pos (starEach (e :: es) X.env)).any (·.1) || (backToKw pos (keywordEach kws X.env)).any (·.1.isNone)) = false →
      PE X (.Call (.Name x p) (e :: es) kws pos) (tCallK sp gV E t tk) := by
  have go : ∀ {pins σ Q} {s' : Shared} {us ws : List Value} {vs zs : List V} {H' : Hp}, Inv X pins σ H' s' → Vals vs us → Vals zs ws → sp (gV vs zs) H' Q E → wpAny (model X.prog X.w) X.A (call (.ref f) us (ks.zip ws)) (EP X pins σ Q) X.xe s' := fun {pins σ Q s' us ws vs zs H'} I' r rz q =>
    runG F hr hx I' (hb.to s' us ws I'.kIn (by rw [← (hb.rel r rz).length]; exact F.len q)) (hb.rel r rz) q
  constructor
  · intro h1
    refine ⟨fun pins s σ H Q I h => wpAny_Call_Name_kw (ld_glob I hg hm ?_ hdb)⟩
    refine PySem.W.callWith_KW0 (h₀ := X.base) I.ok.mod.kin hk hall (thn (hkw.run pos pins s σ H _ I h) fun ws s2 ⟨zs, H2, I2, rz, q2⟩ => ⟨I2.kIn, ?_⟩) (by show (false || _) = false; rw [Bool.false_or]; exact h1)
    rw [hks]
    exact go I2 (vs := []) .nil rz q2
  · intro e es t ha h1 h2
    refine ⟨fun pins s σ H Q I h => wpAny_Call_Name_kw (ld_glob I hg hm ?_ hdb)⟩
    refine PySem.W.callWith_KW (h₀ := X.base) I.ok.mod.kin hk hall (thn (ha.run pos pins s σ H _ I h) fun us s1 ⟨vs, H1, I1, r1, q⟩ => ?_) h2 h1
    refine thn (hkw.run pos pins s1 σ H1 _ I1 q) fun ws s2 ⟨zs, H2, I2, rz, q2⟩ => ⟨I2.kIn, ?_⟩
    rw [hks]
    exact go I2 r1 rz q2
end
/-! ### a def by its body -/
/-- a def of the module as the frag has it: names, code, the scope -/
structure Def (K : PySem.W.Frag) (f : Addr) (fd : FuncData) (qual : Str) (body : List Stmt) (scope : Scope) (cdv : Value) : Prop where
  at_ : ∃ name params dV kV doc pm ct oc an od osl, fd = PySem.W.fnOf name qual params body scope dV kV doc pm an cdv ct ∧ K.lookup f = some ⟨oc, od, .func fd, osl⟩
  cd : PySem.W.codeIn K cdv qual = true
section
variable {P : Program} {w : World} {K : PySem.W.Frag} {mg : Str → Option Value} {base : Heap} {CX : CXT} {k : Nat} {f : Addr} {fd : FuncData} {qual : Str} {body : List Stmt} {scope : Scope} {cdv : Value} {N ps : List Str} {sp : Sp}
theorem fnG_of (D : Def K f fd qual body scope cdv) (S : FnScope N ps scope) (len : ∀ {vs H Q E}, sp vs H Q E → vs.length = ps.length)
    (bd : ∀ A outer s H vs Q E, RmG k (A.deeper (envOfC qual scope s.heap.objs.size f cdv)) → sp vs H Q E →
      ∃ t, PSs (cxOf CX P w K mg base N qual scope f cdv A outer s H E) body t ∧ t { nx := fun _ H' => Q .non H', rt := Q } (start N vs) H) :
    FnG P w K mg base CX (k + 1) f fd ps sp := by
  obtain ⟨⟨name, params, dV, kV, doc, pm, ct, oc, an, od, osl, rfl, lk⟩, hcd⟩ := D
  refine ⟨len, fun {A outer s H args us vs Q E} at0 hb r q => ?_⟩
  have e0 := at0.e0
  have up : ∀ {α : Type} (p : α), (∀ b o, base.get? b = some o → s.heap.get? b = some o) := fun _ b o e => (e0.bs b o e).1
  have kin : K.In s.heap := e0.mod.kin.keeps (up ())
  have places : ∀ y ∈ ps.zip us, scope.names.lookup y.1 = some .local ∨ (scope.names.lookup y.1 = some .cell ∧ ((cellsFrom (s.heap.objs.size + 1) scope.names []).lookup y.1).isSome = true) := by
    rintro ⟨n, v⟩ hy
    exact (S.par n (List.of_mem_zip hy).1).imp id fun z => ⟨z, PySem.W.cellsFrom_some _ _ _ (.inl z)⟩
  refine codeAny_call_function at0.rm.rm.depth (kin _ _ lk) rfl S.co S.gen rfl (PySem.W.codeRec_of kin hcd) (hb _ _ _ _ (wpAny_newFunctionEnv_cells S.kind places ?_))
  rintro env rfl s1 x
  refine ⟨(e0.mod.nolimit.keeps (up ())).keeps x.toInCall.keep, codeAny_func ?_⟩
  obtain ⟨t, ht, hq⟩ := bd A outer s H vs Q E ⟨at0.rm.rm.deeper _, at0.rm.gd⟩ q
  have I := inv_start (CX := CX) (E := E) S at0.rm.rm.hd e0 (len q) r x
  refine wpAny_mono (ht.run [] s1 _ H _ I hq) (fun fl s' hs => ?_) fun _ _ z => z
  have fin : ∀ {σ' : L2.St} {H' : Hp} {v : V} {u : Value}, Inv (cxOf CX P w K mg base N qual scope f cdv A outer s H E) [] σ' H' s' → RelV v u → Q v H' → CR CX outer P w H s Q E (.ok (.ret u)) s' :=
    fun J rv z => ⟨_, _, J.os, J.bare, J.base, J.hok, rv, z⟩
  rcases fl with _ | _ | _ | u
  case next => obtain ⟨σ', H', J, z⟩ := hs; exact fin (v := V.non) (u := Value.none) J rfl z
  case brk => obtain ⟨_, _, _, z⟩ := hs; exact z.elim
  case cont => obtain ⟨_, _, _, z⟩ := hs; exact z.elim
  case ret => obtain ⟨v, σ', H', J, rv, z⟩ := hs; exact fin J rv z
end
/-! ### the end -/
theorem rmG_caller {k : Nat} (h : Room k callerA) : RmG k callerA := ⟨h, rfl⟩
/-- the heap in which the script and the table of modules are told, as the objects that they are -/
def scriptH (K : PySem.W.Frag) (a : Addr) (o om : Obj) (xs : List V) : Hp := fun b => if b = a ∧ K.lookup a = none then some (.frz o (.lst xs)) else if b = sysModules then some (.frz om (.own 0)) else none
theorem scriptH_some {K : PySem.W.Frag} {a : Addr} {o om : Obj} {xs : List V} {b : Addr} {u : HO} (h : scriptH K a o om xs b = some u) : (b = a ∧ K.lookup a = none ∧ u = .frz o (.lst xs)) ∨ (b = sysModules ∧ u = .frz om (.own 0)) := by
  unfold scriptH at h
  split at h
  · rename_i q; cases h; exact .inl ⟨q.1, q.2, rfl⟩
  · split at h
    · rename_i q; cases h; exact .inr ⟨q, rfl⟩
    · cases h
/-- the law, called by the claim's caller -/
theorem law_callG {P : Program} {w : World} {K : PySem.W.Frag} {mg mb : Str → Option Value} {CX : CXT} {k : Nat} {fa a : Addr} {fd : FuncData} {x : Str} {sp : Sp} {s1 : Shared} {vs : List Value} {ns : List Int}
    (kin : K.In s1.heap) (hns : s1.heap.Ns mainGlobals mg) (hb : s1.heap.Ns builtinsNs mb) (hbb : ∀ x : Str, x ≠ "__name__" → mb x = bootBuiltins x) (hlim : s1.heap.NoLimit) (hg : s1.gens = #[])
    (hmods : ∃ mm, s1.heap.Ns sysModules mm) (km : K.lookup sysModules = none)
    (ha : s1.heap.get? a = some { cls := .type "list", data := .seq vs.toArray }) (hi : IntsAre vs ns) (hl : ns.length ≤ sizeLine) (hr : Room k callerA)
    (F : ∀ base : Heap, K.In base → base.Ns mainGlobals mg → FnG P w K mg base CX k fa fd [x] sp) (hbind : ∀ (s : Shared) (u : Value), BindsTo s fd ⟨[u], []⟩ [(x, u)])
    (hsp : ∀ H : Hp, (∃ o u, H sysModules = some (.frz o u)) → SqL K H a (ns.map V.int) → sp [.ref a] H (fun v _ => v = .bl true) fun _ _ _ => False)
    (hCX : ∀ H e s', CX [] H s1 (fun _ _ _ => False) e s' → False) :
    codeAny (model P w) callerA (.call (.ref fa) ⟨[.ref a], []⟩) (fun r s' => r = .ok (.ret (.bool true)) ∧ OldK s1.heap s'.heap ∧ s'.os = s1.os ∧ AllBare s'.gens) s1 := by
  obtain ⟨mm, om, mes, mep, hom, hdm, _⟩ := hmods
  let o : Obj := { cls := .type "list", data := .seq vs.toArray }
  have am : a ≠ sysModules := fun z => by
    rw [z, hom] at ha
    cases ha
    have hdm : Data.seq vs.toArray _ = Data.dict mes mep := hdm
    cases hdm
  let H : Hp := scriptH K a o om (ns.map V.int)
  have told : ∀ {b u}, H b = some u → (b = a ∧ K.lookup a = none ∧ u = .frz o (.lst (ns.map V.int))) ∨ (b = sysModules ∧ u = .frz om (.own 0)) := fun h => scriptH_some h
  have lenV := hi.length
  have okS : ObjOk P w H s1.heap a (.lst (ns.map V.int)) := ⟨by rw [List.length_map]; exact hl, vs, _, vals_ints hi, ha⟩
  have hok : HOk P w H s1.heap := fun b u z => by
    rcases told z with ⟨rfl, _, rfl⟩ | ⟨rfl, rfl⟩
    · exact ⟨ha, okS⟩
    · exact ⟨hom, _, hom⟩
  have mods : H sysModules = some (.frz om (.own 0)) := by
    show scriptH K a o om _ sysModules = _
    unfold scriptH
    rw [if_neg (fun z => am z.1.symm), if_pos rfl]
  have script : SqL K H a (ns.map V.int) := by
    cases z : K.lookup a with
    | none => exact .inl (.inr ⟨o, if_pos ⟨rfl, z⟩⟩)
    | some u =>
      have e := kin a u z
      rw [ha] at e; cases e
      exact .inr ⟨_, vs.toArray, _, z, rfl, rfl, rfl, by rw [List.size_toArray, lenV]; exact hl, by simpa using vals_ints hi⟩
  have hide : ∀ {b : Addr} {u : Obj}, s1.heap.get? b = some u → (∀ y, H b ≠ some y) → (hidT s1.heap H).get? b = some u := fun {b u} e n => hidT_get e (by
    cases z : H b with
    | none => rfl
    | some y => exact absurd z (n y))
  have hideNs : ∀ {b : Addr} {m : Str → Option Value}, b ≠ sysModules → s1.heap.Ns b m → (hidT s1.heap H).Ns b m := fun {b m} nb ⟨u, es, ep, e, d, r⟩ => by
    refine ⟨u, es, ep, hide e fun y z => ?_, d, r⟩
    rcases told z with ⟨rfl, _, _⟩ | ⟨rfl, _⟩
    · rw [ha] at e; cases e
      have d : Data.seq vs.toArray _ = Data.dict es ep := d
      cases d
    · exact nb rfl
  have kb : K.In (hidT s1.heap H) := fun b u e => hide (kin b u e) fun y z => by
    rcases told z with ⟨rfl, n, _⟩ | ⟨rfl, _⟩
    · rw [n] at e; cases e
    · rw [km] at e; cases e
  obtain ⟨mc, l1, l2⟩ := hlim
  have e0 : Env0 P w K mg (hidT s1.heap H) callerA [] s1 H :=
    ⟨rfl, ⟨kb, hideNs (by decide) hns, ⟨mb, hideNs (by decide) hb, hbb⟩, mc, hideNs (by decide) l1, l2⟩, fun b u e => of_hidT e, Nat.le_of_eq (hidT_size _ _), trivial, fun b z => absurd (show b ∈ ([] : List Addr) from z) (by simp), hok, .of_eq hg⟩
  refine codeAny_mono ((F _ kb (hideNs (by decide) hns)).run ⟨rmG_caller hr, e0⟩ (hbind s1 (.ref a)) (us := [.ref a]) (vs := [.ref a]) (.cons rfl .nil) (hsp H ⟨_, _, mods⟩ script)) fun r s' h => ?_
  rcases r with e | fl
  · exact (hCX H e s' h).elim
  rcases fl with _ | _ | _ | u
  case next => exact h.elim
  case brk => exact h.elim
  case cont => exact h.elim
  case ret =>
    obtain ⟨v, H', os, bare, un, hok', r', q⟩ := h
    have q : v = .bl true := q
    subst q
    obtain rfl : u = Value.bool true := r'
    refine ⟨rfl, OldK.of_keep fun b y e => ?_, os, bare⟩
    cases z : H b with
    | none => exact un.keep b y e z (fun z => absurd (show b ∈ ([] : List Addr) from z) (by simp)) (by simp)
    | some u =>
      rcases told z with ⟨rfl, _, rfl⟩ | ⟨rfl, rfl⟩
      · obtain ⟨e2, _⟩ := hok' b _ (un.frzs b _ _ z)
        rw [ha] at e; cases e
        exact e2
      · obtain ⟨e2, _⟩ := hok' _ _ (un.frzs _ _ _ z)
        rw [hom] at e; cases e
        exact e2
/-- the goal that the head leaves, from the law's promise -/
theorem walk_ofG {l : PySem.W.OpenLaw} {n k : Nat} {q : Program} {loose : List Str} {XP : (Str → Option Value) → Heap → Prop} {YP : World → Heap → Prop} {d : DefRec} {K : Params → PySem.W.Frag} {CX : World → CXT} {sp : World → Sp} {x : Str}
    (hn : l.most = some n) (hn2 : n ≤ sizeLine) (hdf : d.params.defaults = []) (hr : Room k callerA) (hi : importsNone q = true) (hk : ∀ p, (K p).lookup sysModules = none)
    (hY : ∀ (w : World) (h : Heap), YP w h → (K w.params).In h)
    (F : ∀ (w : World) (mg : Str → Option Value) (fa : Addr) (h : Heap), (K w.params).In h → h.Ns mainGlobals mg → mg d.name = some (.ref fa) →
      ∃ fd : FuncData, (∀ (s : Shared) (u : Value), BindsTo s fd ⟨[u], []⟩ [(x, u)]) ∧
        ∀ base : Heap, (K w.params).In base → base.Ns mainGlobals mg → FnG l.prog w (K w.params) mg base (CX w) k fa fd [x] (sp w))
    (hsp : ∀ (w : World) (H : Hp) (a : Addr) (ns : List Int), ns.length ≤ n → (∃ o u, H sysModules = some (.frz o u)) → SqL (K w.params) H a (ns.map V.int) → sp w [.ref a] H (fun v _ => v = .bl true) fun _ _ _ => False)
    (hCX : ∀ (w : World) (H : Hp) (s : Shared) (e : Value) (s' : Shared), CX w [] H s (fun _ _ _ => False) e s' → False) :
    PySem.W.WalkO q loose XP YP l.row.toRowW d [] (fun f vs => PySem.call f vs) := by
  refine Att.attach_call hn hdf ?_
  intro w s0 s1 mg mb fa o pm cd doc a vs ns G Y ho hd hcd hmg hobj hints hlen hg
  obtain ⟨fd, hb, hF⟩ := F w mg fa _ (hY w _ Y) G.T.g hmg
  have hm := (G.T.seer hi).mods
  exact law_callG (hY w _ Y) G.T.g G.T.b G.T.builtins G.T.nolimit hg (hm.imp fun _ z => z.1) (hk _) hobj hints (Nat.le_trans hlen hn2) hr hF hb (hsp w · a ns hlen · ·) fun H e s' => hCX w H s1 e s'
end G9

/-! M5: the rules for expressions, over wants. -/
namespace G9
open PySem PySem.Spec L2 PyProof.Rows

section
variable {Wp : Wk → Prop} {K : PySem.W.Frag} {mg : Str → Option Value} {E : XK} {W : Wk} {B : List Bs} {M0 : List Addr} {ρ : En} {σ : L2.St} {H : Hp} {M : List Addr} {R : RK}
/-- two operands -/
theorem two {a b : DO} {F : PyData → PyData → En → Prop} {r : R2} {Q : VK} (w : WP Wp W t) (G : Gd W K B M0 ρ σ H M)
    (d : a ρ (fun oa ρ1 => b ρ1 (fun ob ρ2 => ∃ x y, rs ρ2 oa = some (.d x) ∧ rs ρ2 ob = some (.d y) ∧ F x y ρ2) R) R) (x : XOk W K mg E M0 B R)
    (h : ∀ x y ρ2 v u H2 M2, Gd (W.up (a.m + b.m)) K B M0 ρ2 σ H2 M2 → RepPk K H2 M2 v x → RepPk K H2 M2 u y → F x y ρ2 → r v u H2 Q) (ht : a.m + b.m ≤ t := by first | exact Nat.le_refl _ | exact Nat.le_add_right _ _ | exact Nat.le_add_left _ _ | exact Nat.le_trans (Nat.le_add_right _ _) (Nat.le_add_right _ _) | exact Nat.add_le_add_left (Nat.le_add_right _ _) _ | exact Nat.add_le_add_left (Nat.le_add_left _ _) _) : tOp r (lO Wp K mg E a) (lO Wp K mg E b) σ H Q := by
  refine lO_go w G d x (hle := Nat.le_trans (Nat.le_add_right _ _) ht) fun oa ρ1 v H1 M1 c G1 k1 => lO_go' w G1.base c x.cons (hle := ht) fun ob ρ2 u H2 M2 c2 G2 k2 => ?_
  obtain ⟨x, y, h1, h2, f⟩ := c2
  exact h x y ρ2 v u H2 M2 G2.tail (OpdOk.pk G2 (OpdOk.later G2 k1) h1) (OpdOk.pk G2 k2 h2) f
/-- one operand -/
theorem one {a : DO} {F : PyData → En → Prop} {r : V → Hp → VK → Prop} {Q : VK} (w : WP Wp W t) (G : Gd W K B M0 ρ σ H M)
    (d : a ρ (fun oa ρ1 => ∃ x, rs ρ1 oa = some (.d x) ∧ F x ρ1) R) (x : XOk W K mg E M0 B R)
    (h : ∀ x ρ2 v H2 M2, Gd (W.up a.m) K B M0 ρ2 σ H2 M2 → RepPk K H2 M2 v x → F x ρ2 → r v H2 Q) (ht : a.m ≤ t := by first | exact Nat.le_refl _ | exact Nat.le_add_right _ _ | exact Nat.le_add_left _ _ | exact Nat.le_trans (Nat.le_add_right _ _) (Nat.le_add_right _ _) | exact Nat.add_le_add_left (Nat.le_add_right _ _) _ | exact Nat.add_le_add_left (Nat.le_add_left _ _) _) : tUn r (lO Wp K mg E a) σ H Q := by
  refine lO_go w G d x (hle := ht) fun oa ρ1 v H1 M1 c G1 k1 => ?_
  obtain ⟨x, h1, f⟩ := c
  exact h x ρ1 v H1 M1 G1 (OpdOk.pk G1 k1 h1) f
end

section
variable {Wp : Wk → Prop} {E : XK} {X : Cx} {ea eb ec : Expr} {a b c : DO} {pos p2 : Pos}
theorem jVar {i : Nat} {x : Str} (hN : X.N[i]? = some x) (hv : Vis X.env.scope x) (hd : (x == ("__debug__" : Str)) = false) (hcd : (x == ("__classdict__" : Str)) = false) : JE Wp E X (.Name x pos) (dVar i) := by
  refine (pe_var hN hv hd hcd).weak fun σ H Q ⟨W, B, M0, ρ, M, P, R, w, G, d, x, h⟩ => ?_
  have d : En.get ρ i fun u ρ' => P u false ρ' := d
  unfold En.get at d
  split at d
  · rename_i u e
    obtain ⟨a, M', sub, h1, G', r⟩ := G.drop (En.at_get e)
    exact ⟨_, h1, h _ _ _ _ _ _ d (.of G' r)⟩
  · rename_i u e
    obtain ⟨v, h1, h2⟩ := G.ent i _ (En.at_get e)
    unfold EntOk at h2
    rw [if_neg (by simp)] at h2
    exact ⟨v, h1, h _ _ _ _ _ _ d (.of G h2)⟩
  · exact d.elim
theorem oVar {i : Nat} {x : Str} (hN : X.N[i]? = some x) (hv : Vis X.env.scope x) (hd : (x == ("__debug__" : Str)) = false) (hcd : (x == ("__classdict__" : Str)) = false) : JO Wp E X (.Name x pos) (oSlot i) := by
  refine (pe_var hN hv hd hcd).weak fun σ H Q ⟨W, B, M0, ρ, M, P, R, w, G, d, x, h⟩ => ?_
  obtain ⟨e, h1, c⟩ := d
  obtain ⟨v, h2, _⟩ := G.ent i e (En.at_get h1)
  exact ⟨v, h2, h _ _ v H M c G h2⟩
theorem oOf {d : DE} (j : JE Wp E X ea d) : JO Wp E X ea (oE d) :=
  j.weak fun σ H Q ⟨W, B, M0, ρ, M, P, R, w, G, d, x, h⟩ => lE_go w G d x fun u fr ρ' v H' M' c r => h _ _ v H' M' c r.gd r.rep
theorem jInt {i : Int} {n : Nat} : JE Wp E X (.Constant (.int i) n pos) (dCon (.int i)) := pe_int.weak fun σ H Q ⟨W, B, M0, ρ, M, P, R, w, G, d, x, h⟩ => h _ _ _ _ _ _ d (.of G (Rep.int i))
theorem jBl {i : Bool} {n : Nat} : JE Wp E X (.Constant (.bool i) n pos) (dCon (.bool i)) := pe_bl.weak fun σ H Q ⟨W, B, M0, ρ, M, P, R, w, G, d, x, h⟩ => h _ _ _ _ _ _ d (.of G (Rep.bl i))
theorem jStr {i : Str} {n : Nat} : JE Wp E X (.Constant (.str i) n pos) (dCon (.str i)) := pe_str.weak fun σ H Q ⟨W, B, M0, ρ, M, P, R, w, G, d, x, h⟩ => h _ _ _ _ _ _ d (.of G (Rep.str i))
theorem jNon {n : Nat} : JE Wp E X (.Constant .none n pos) (dCon .none) := pe_non.weak fun σ H Q ⟨W, B, M0, ρ, M, P, R, w, G, d, x, h⟩ => h _ _ _ _ _ _ d (.of G Rep.non)
/-- a name of the module that stands for a number or a text -/
theorem jGlobI {x : Str} {i : Int} {t : Tok} (hg : Gl X x) (hm : X.mg x = some (.int i t)) (hd : (x == ("__debug__" : Str)) = false) : JE Wp E X (.Name x pos) (dCon (.int i)) :=
  (pe_glob (v := .int i) hg hm ⟨t, rfl⟩ hd).weak fun σ H Q ⟨W, B, M0, ρ, M, P, R, w, G, d, x, h⟩ => h _ _ _ _ _ _ d (.of G (Rep.int i))
theorem jGlobS {x : Str} {i : Str} {t : Tok} (hg : Gl X x) (hm : X.mg x = some (.str i t)) (hd : (x == ("__debug__" : Str)) = false) : JE Wp E X (.Name x pos) (dCon (.str i)) :=
  (pe_glob (v := .str i) hg hm ⟨t, rfl⟩ hd).weak fun σ H Q ⟨W, B, M0, ρ, M, P, R, w, G, d, x, h⟩ => h _ _ _ _ _ _ d (.of G (Rep.str i))
theorem jAdd (ja : JO Wp E X ea a) (jb : JO Wp E X eb b) : JE Wp E X (.BinOp ea .Add eb pos) (dBin .add a b) :=
  (pe_op op_addA ja jb).weak fun σ H Q ⟨W, B, M0, ρ, M, P, R, w, G, d, x, h⟩ => two w G d x fun x y ρ2 v u H2 M2 G2 r1 r2 c => add_go G2 r1 r2 c fun z fr v' H' M' c r => h _ _ _ _ _ _ c r
theorem jSub (ja : JO Wp E X ea a) (jb : JO Wp E X eb b) : JE Wp E X (.BinOp ea .Sub eb pos) (dBin .sub a b) :=
  (pe_op op_sub ja jb).weak fun σ H Q ⟨W, B, M0, ρ, M, P, R, w, G, d, x, h⟩ => two w G d x fun x y ρ2 v u H2 M2 G2 r1 r2 c => sub_go G2 r1 r2 c fun z fr v' H' M' c r => h _ _ _ _ _ _ c r
theorem jFdiv (ja : JO Wp E X ea a) (jb : JO Wp E X eb b) : JE Wp E X (.BinOp ea .FloorDiv eb pos) (dBin .fdiv a b) :=
  (pe_op op_fdivN ja jb).weak fun σ H Q ⟨W, B, M0, ρ, M, P, R, w, G, d, x, h⟩ => two w G d x fun x y ρ2 v u H2 M2 G2 r1 r2 c => fdiv_go G2 r1 r2 c fun z fr v' H' M' c r => h _ _ _ _ _ _ c r
theorem jMod (ja : JO Wp E X ea a) (jb : JO Wp E X eb b) : JE Wp E X (.BinOp ea .Mod eb pos) (dBin .mod a b) :=
  (pe_op op_modN ja jb).weak fun σ H Q ⟨W, B, M0, ρ, M, P, R, w, G, d, x, h⟩ => two w G d x fun x y ρ2 v u H2 M2 G2 r1 r2 c => mod_go G2 r1 r2 c fun z fr v' H' M' c r => h _ _ _ _ _ _ c r
theorem jPow (ja : JO Wp E X ea a) (jb : JO Wp E X eb b) : JE Wp E X (.BinOp ea .Pow eb pos) (dBin .pow a b) :=
  (pe_op op_pow ja jb).weak fun σ H Q ⟨W, B, M0, ρ, M, P, R, w, G, d, x, h⟩ => two w G d x fun x y ρ2 v u H2 M2 G2 r1 r2 c => pow_go G2 r1 r2 c fun z fr v' H' M' c r => h _ _ _ _ _ _ c r
end
section
variable {K : PySem.W.Frag} {W : Wk} {B : List Bs} {M0 : List Addr} {ρ : En} {σ : L2.St} {H : Hp} {M : List Addr}
def rMulA (K : PySem.W.Frag) : R2 := fun x y H Q => rI CMul (fun i j => .int (i * j)) x y H Q ∨ (rRepS x y H Q ∨ (rRep x y H Q ∨ rRepA K x y H Q))
theorem op_mulA {X : Cx} : OpR X (binaryOp .Mult) (rMulA X.K) := op_mul.or (op_repS.or (op_rep.or op_repA))
theorem mul_go {x y : PyData} {v u : V} {C : PyData → Bool → Prop} {Q : VK} (G : Gd W K B M0 ρ σ H M) (rx : RepPk K H M v x) (ry : RepPk K H M u y) (c : opS .mul x y C) (h : ∀ z fr v' H' M', C z fr → Res W K B M0 ρ σ H' M' v' (.d z) fr → Q v' H') : rMulA K v u H Q := by
  cases x <;> cases y <;> try exact (show False from c).elim
  · rename_i i j
    exact .inl ⟨i, j, rx.int_inv, ry.int_inv, c.1, h _ _ _ _ _ c.2 (Res.int G _)⟩
  · rename_i i j
    exact .inr (.inl ⟨i, j, rx.str_inv, ry.int_inv, c.1, h _ _ _ _ _ c.2 (Res.str G _)⟩)
  · rename_i xs k
    obtain ⟨a, vs, rfl, ha, r1⟩ := rx.list_inv
    obtain ⟨c1, c2, c3, c4⟩ := c
    exact .inr (.inr (.inl ⟨a, k, vs, rfl, ry.int_inv, ha, c1, c2, by rw [r1.length]; exact c3, fun p hp => h _ _ _ _ _ c4 (Res.new G hp (r1.rep _))⟩))
  · rename_i xs k
    obtain ⟨a, vs, rfl, ha, r1⟩ := rx.tup_inv
    obtain ⟨c1, c2, c3, c4⟩ := c
    refine .inr (.inr (.inr ⟨a, k, vs, rfl, ry.int_inv, ha, c1, c2, by rw [r1.length]; exact c3, fun e => ?_, fun e1 e2 p hp => h _ _ _ _ _ c4 (Res.newT G hp (r1.rep _))⟩))
    rcases e with rfl | rfl
    · cases r1
      have z : (List.replicate k.toNat ([] : List PyData)).flatten = [] := by simp
      rw [z] at c4
      exact h _ _ _ _ _ c4 (.of G (Rep.tup ha .nil))
    · have z : (List.replicate (1 : Int).toNat xs).flatten = xs := by simp
      rw [z] at c4
      exact h _ _ _ _ _ c4 (.of G (Rep.tup ha r1))
theorem RepPk.dp {v : V} {x : PyData} (r : RepPk K H M v x) (c : SeqAt.shaped x = true) : Dp K H v x := by
  have c := SeqAt.canLay_of_shaped c
  cases x with
  | list ds =>
    obtain ⟨a, vs, rfl, ha, r1⟩ := r.list_inv
    exact .lst (.inl (.inl ha)) (r1.dp (by simpa [PyData.canLay0] using c))
  | _ => exact Rep.dp r c
/-- in, of a list, a tuple, a text by one sign -/
def rInT (K : PySem.W.Frag) (neg : Bool) : R2 := fun x y H Q => ∃ d ds, Dp K H x d ∧ Dp K H y (.tuple ds) ∧ SeqAt.shaped d = true ∧ SeqAt.shaped (.tuple ds) = true ∧ Q (.bl (if neg = true then !(ds.any fun z => PyData.eqv z d) else ds.any fun z => PyData.eqv z d)) H
theorem op_inT {X : Cx} (hu : X.A.units + 65 < cLine) : OpR X (compareOp .In) (rInT X.K false) := by
  rintro pins s σ H x y v u Q I rx ry ⟨d, ds, hd, he, sd, se, q⟩
  obtain ⟨bs, r2⟩ := Dp.reads I _ _ _ he ry
  obtain ⟨as, r1⟩ := Dp.reads I _ _ _ hd rx
  exact SeqAt.in_tuple_reads r2 r1 (SeqAt.canLay_of_shaped se) (SeqAt.canLay_of_shaped sd) (room_in_shaped sd hu) ⟨.bl _, H, I, rfl, q⟩
theorem op_notInT {X : Cx} (hu : X.A.units + 65 < cLine) : OpR X (compareOp .NotIn) (rInT X.K true) := by
  rintro pins s σ H x y v u Q I rx ry ⟨d, ds, hd, he, sd, se, q⟩
  obtain ⟨bs, r2⟩ := Dp.reads I _ _ _ he ry
  obtain ⟨as, r1⟩ := Dp.reads I _ _ _ hd rx
  exact SeqAt.notIn_tuple_reads r2 r1 (SeqAt.canLay_of_shaped se) (SeqAt.canLay_of_shaped sd) (room_in_shaped sd hu) ⟨.bl _, H, I, rfl, q⟩
end
theorem strsD_inv : ∀ {xs : List PyData} {ss : List Str}, strsD xs = some ss → xs = ss.map .str
  | [], _, e => by cases e; rfl
  | .str x :: xs, _, e => by
    have e : (strsD xs).map (x :: ·) = some _ := e
    cases q : strsD xs with
    | none => rw [q] at e; cases e
    | some ys => rw [q] at e; cases e; rw [strsD_inv q]; rfl
  | .none :: _, _, e | .bool _ :: _, _, e | .int _ :: _, _, e | .list _ :: _, _, e | .tuple _ :: _, _, e | .dict _ :: _, _, e => by cases e
/-- lists, told apart by their lengths -/
def rLenEq (K : PySem.W.Frag) (neg : Bool) : R2 := fun x y H Q => ∃ a b xs ys, x = .ref a ∧ y = .ref b ∧ SqL K H a xs ∧ SqL K H b ys ∧ (xs.length ≠ ys.length ∨ ys = []) ∧ Q (.bl (if neg = true then !decide (xs.length = ys.length) else decide (xs.length = ys.length))) H
theorem op_eqLen {X : Cx} (hu : X.A.units < cLine) : OpR X (compareOp .Eq) (rLenEq X.K false) := by
  rintro pins s σ H x y v u Q I rx ry ⟨a, b, xs, ys, rfl, rfl, ha, hb, hl, q⟩
  cases rx
  cases ry
  obtain ⟨us, r1, p1, _⟩ := I.list ha
  obtain ⟨ws, r2, p2, _⟩ := I.list hb
  by_cases e : xs.length = ys.length
  · have ey : ys = [] := hl.resolve_left fun n => n e
    subst ey
    have ex : xs = [] := List.eq_nil_of_length_eq_zero e
    subst ex
    cases r1
    cases r2
    refine SeqAt.RcAt.lists (e := fun _ => true) p1.isList p2.isList rfl hu (fun j h1 _ => absurd h1 (Nat.not_lt_zero _)) _ _ _ _ ?_
    exact ⟨.bl _, H, I, rfl, q⟩
  · refine SeqAt.RcAt.lists_lengths p1.isList p2.isList ?_ hu _ _ _ _ ?_
    · rw [List.size_toArray, List.size_toArray, ← r1.length, ← r2.length]
      exact bne_iff_ne.mpr e
    · rw [if_neg (by simp), decide_eq_false e] at q
      exact ⟨.bl _, H, I, rfl, q⟩
theorem op_neLen {X : Cx} (hu : X.A.units < cLine) : OpR X (compareOp .NotEq) (rLenEq X.K true) := by
  rintro pins s σ H x y v u Q I rx ry ⟨a, b, xs, ys, rfl, rfl, ha, hb, hl, q⟩
  cases rx
  cases ry
  obtain ⟨us, r1, p1, _⟩ := I.list ha
  obtain ⟨ws, r2, p2, _⟩ := I.list hb
  by_cases e : xs.length = ys.length
  · have ey : ys = [] := hl.resolve_left fun n => n e
    subst ey
    have ex : xs = [] := List.eq_nil_of_length_eq_zero e
    subst ex
    cases r1
    cases r2
    refine SeqAt.RcNeAt.lists (e := fun _ => true) p1.isList p2.isList rfl hu (fun j h1 _ => absurd h1 (Nat.not_lt_zero _)) _ _ _ _ ?_
    exact ⟨.bl _, H, I, rfl, q⟩
  · refine SeqAt.RcNeAt.lists_lengths p1.isList p2.isList ?_ hu _ _ _ _ ?_
    · rw [List.size_toArray, List.size_toArray, ← r1.length, ← r2.length]
      exact bne_iff_ne.mpr e
    · rw [if_pos rfl, decide_eq_false e] at q
      exact ⟨.bl _, H, I, rfl, q⟩
theorem eqv_len {xs ys : List PyData} (h : xs.length ≠ ys.length ∨ ys = []) : PyData.eqv (.list xs) (.list ys) = decide (xs.length = ys.length) := by
  have go : ∀ (xs ys : List PyData), xs.length ≠ ys.length → PyData.eqvAll xs ys = false := by
    intro xs
    induction xs with
    | nil => intro ys n; cases ys with
      | nil => exact absurd rfl n
      | cons y ys => simp [PyData.eqvAll]
    | cons x xs ih => intro ys n; cases ys with
      | nil => simp [PyData.eqvAll]
      | cons y ys => simp only [PyData.eqvAll]; rw [ih ys (by simpa using n), Bool.and_false]
  simp only [PyData.eqv]
  by_cases e : xs.length = ys.length
  · have ey : ys = [] := h.resolve_left fun n => n e
    subst ey
    have ex : xs = [] := List.eq_nil_of_length_eq_zero e
    subst ex
    simp [PyData.eqvAll]
  · rw [go _ _ e, decide_eq_false e]
/-- the operator that c stands for, its relation -/
def cmO : Cm → CmpOp
  | .eq => .Eq
  | .ne => .NotEq
  | .lt => .Lt
  | .le => .LtE
  | .gt => .Gt
  | .ge => .GtE
  | .isIn => .In
  | .notIn => .NotIn
  | .isB => .Is
  | .notB => .IsNot
def rCm (K : PySem.W.Frag) : Cm → R2
  | .eq => fun x y H Q => rEqD K x y H Q ∨ (rLenEq K false x y H Q ∨ rEq x y H Q)
  | .ne => fun x y H Q => rNeD K x y H Q ∨ (rLenEq K true x y H Q ∨ rNe x y H Q)
  | .lt => fun x y H Q => rI0 (fun i j => .bl (decide (i < j))) x y H Q ∨ ((∃ i j, x = .str i ∧ y = .str j ∧ Q (.bl (decide (i.cps.toList < j.cps.toList))) H) ∨ rTS K ltSS x y H Q)
  | .le => fun x y H Q => rI0 (fun i j => .bl (decide (i ≤ j))) x y H Q ∨ ((∃ i j, x = .str i ∧ y = .str j ∧ Q (.bl (!decide (j.cps.toList < i.cps.toList))) H) ∨ rTS K leSS x y H Q)
  | .gt => fun x y H Q => rI0 (fun i j => .bl (decide (j < i))) x y H Q ∨ (∃ i j, x = .str i ∧ y = .str j ∧ Q (.bl (decide (j.cps.toList < i.cps.toList))) H)
  | .ge => fun x y H Q => rI0 (fun i j => .bl (decide (j ≤ i))) x y H Q ∨ (∃ i j, x = .str i ∧ y = .str j ∧ Q (.bl (!decide (i.cps.toList < j.cps.toList))) H)
  | .isIn => fun x y H Q => rInD K x y H Q ∨ (rInT K false x y H Q ∨ (∃ (c : Nat) (z : Str), x = .str ⟨#[c]⟩ ∧ y = .str z ∧ Q (.bl (decide (c ∈ z.cps.toList))) H))
  | .notIn => fun x y H Q => rNotInD K x y H Q ∨ (rInT K true x y H Q ∨ (∃ (c : Nat) (z : Str), x = .str ⟨#[c]⟩ ∧ y = .str z ∧ Q (.bl (!decide (c ∈ z.cps.toList))) H))
  | .isB => fun x y H Q => ∃ a b, x = .bl a ∧ y = .bl b ∧ Q (.bl (decide (a = b))) H
  | .notB => fun x y H Q => ∃ a b, x = .bl a ∧ y = .bl b ∧ Q (.bl (!decide (a = b))) H
theorem op_cm {X : Cx} (hu : X.A.units + 65 < cLine) : ∀ c, OpR X (compareOp (cmO c)) (rCm X.K c)
  | .eq => (op_eqD (by omega)).or ((op_eqLen (by omega)).or op_eq)
  | .ne => (op_neD (by omega)).or ((op_neLen (by omega)).or op_ne)
  | .lt => op_lt.or (op_lt_str.or (op_ltTS (by omega)))
  | .le => op_le.or (op_le_str.or (op_leTS (by omega)))
  | .gt => op_gt.or op_gt_str
  | .ge => op_ge.or op_ge_str
  | .isIn => (op_inD hu).or ((op_inT hu).or op_in_sign)
  | .notIn => (op_notInD hu).or ((op_notInT hu).or op_notIn_sign)
  | .isB => op_is_bl
  | .notB => op_isnot_bl
section
variable {K : PySem.W.Frag} {W : Wk} {B : List Bs} {M0 : List Addr} {ρ : En} {σ : L2.St} {H : Hp} {M : List Addr}
theorem cm_go {c : Cm} {x y : PyData} {v u : V} {C : Bool → Prop} {Q : VK} (rx : RepPk K H M v x) (ry : RepPk K H M u y) (d : cmS c x y C) (h : ∀ k, C k → Q (.bl k) H) : rCm K c v u H Q := by
  cases c with
  | eq =>
    obtain ⟨d1 | ⟨xs, ys, rfl, rfl, hl⟩ | ⟨i, j, rfl, rfl⟩, d2⟩ := d
    · exact .inl ⟨x, y, rx.dp d1.1, ry.dp d1.2, d1.1, d1.2, h _ d2⟩
    · obtain ⟨a, vs, rfl, h1, r1⟩ := rx.list_inv
      obtain ⟨b, ws, rfl, h2, r2⟩ := ry.list_inv
      refine .inr (.inl ⟨a, b, vs, ws, rfl, rfl, SqL.of h1, SqL.of h2, ?_, ?_⟩)
      · rw [r1.length, r2.length]
        exact hl.imp id fun e => List.eq_nil_of_length_eq_zero (by rw [r2.length, e]; rfl)
      · rw [if_neg (by simp), r1.length, r2.length, ← eqv_len hl]
        exact h _ d2
    · rw [rx.str_inv, ry.str_inv]
      exact .inr (.inr ⟨rfl, by rw [dec_str]; exact h _ d2⟩)
  | ne =>
    obtain ⟨d1 | ⟨xs, ys, rfl, rfl, hl⟩ | ⟨i, j, rfl, rfl⟩, d2⟩ := d
    · exact .inl ⟨x, y, rx.dp d1.1, ry.dp d1.2, d1.1, d1.2, h _ d2⟩
    · obtain ⟨a, vs, rfl, h1, r1⟩ := rx.list_inv
      obtain ⟨b, ws, rfl, h2, r2⟩ := ry.list_inv
      refine .inr (.inl ⟨a, b, vs, ws, rfl, rfl, SqL.of h1, SqL.of h2, ?_, ?_⟩)
      · rw [r1.length, r2.length]
        exact hl.imp id fun e => List.eq_nil_of_length_eq_zero (by rw [r2.length, e]; rfl)
      · rw [if_pos rfl, r1.length, r2.length, ← eqv_len hl]
        exact h _ d2
    · rw [rx.str_inv, ry.str_inv]
      exact .inr (.inr ⟨rfl, by rw [dec_str]; exact h _ d2⟩)
  | isIn =>
    cases y <;> try exact (show False from d).elim
    · rename_i z
      cases x <;> try exact (show False from d).elim
      obtain ⟨c, rfl, d⟩ := d
      exact .inr (.inr ⟨c, z, rx.str_inv, ry.str_inv, h _ d⟩)
    · exact .inl ⟨x, _, rx.dp d.1, ry.dp d.2.1, d.1, d.2.1, h _ d.2.2⟩
    · exact .inr (.inl ⟨x, _, rx.dp d.1, ry.dp d.2.1, d.1, d.2.1, h _ d.2.2⟩)
  | notIn =>
    cases y <;> try exact (show False from d).elim
    · rename_i z
      cases x <;> try exact (show False from d).elim
      obtain ⟨c, rfl, d⟩ := d
      exact .inr (.inr ⟨c, z, rx.str_inv, ry.str_inv, h _ d⟩)
    · exact .inl ⟨x, _, rx.dp d.1, ry.dp d.2.1, d.1, d.2.1, h _ d.2.2⟩
    · exact .inr (.inl ⟨x, _, rx.dp d.1, ry.dp d.2.1, d.1, d.2.1, h _ d.2.2⟩)
  | isB =>
    cases x <;> cases y <;> try exact (show False from d).elim
    exact ⟨_, _, rx.bool_inv, ry.bool_inv, h _ d⟩
  | notB =>
    cases x <;> cases y <;> try exact (show False from d).elim
    exact ⟨_, _, rx.bool_inv, ry.bool_inv, h _ d⟩
  | lt =>
    cases x <;> cases y <;> try exact (show False from d).elim
    · exact .inl ⟨_, _, rx.int_inv, ry.int_inv, h _ d⟩
    · exact .inr (.inl ⟨_, _, rx.str_inv, ry.str_inv, h _ d⟩)
    · obtain ⟨ss, ts, e1, e2, d⟩ := d
      obtain ⟨a, vs, rfl, h1, r1⟩ := rx.tup_inv
      obtain ⟨b, us, rfl, h2, r2⟩ := ry.tup_inv
      rw [strsD_inv e1] at r1
      rw [strsD_inv e2] at r2
      rw [r1.strs] at h1
      rw [r2.strs] at h2
      exact .inr (.inr ⟨a, b, ss, ts, rfl, rfl, h1, h2, h _ d⟩)
  | le =>
    cases x <;> cases y <;> try exact (show False from d).elim
    · exact .inl ⟨_, _, rx.int_inv, ry.int_inv, h _ d⟩
    · exact .inr (.inl ⟨_, _, rx.str_inv, ry.str_inv, h _ d⟩)
    · obtain ⟨ss, ts, e1, e2, d⟩ := d
      obtain ⟨a, vs, rfl, h1, r1⟩ := rx.tup_inv
      obtain ⟨b, us, rfl, h2, r2⟩ := ry.tup_inv
      rw [strsD_inv e1] at r1
      rw [strsD_inv e2] at r2
      rw [r1.strs] at h1
      rw [r2.strs] at h2
      exact .inr (.inr ⟨a, b, ss, ts, rfl, rfl, h1, h2, h _ d⟩)
  | _ =>
    cases x <;> cases y <;> try exact (show False from d).elim
    · exact .inl ⟨_, _, rx.int_inv, ry.int_inv, h _ d⟩
    · exact .inr ⟨_, _, rx.str_inv, ry.str_inv, h _ d⟩
end
section
variable {Wp : Wk → Prop} {E : XK} {X : Cx} {ea eb ec : Expr} {a b c : DO} {pos p2 : Pos}
theorem jMul (ja : JO Wp E X ea a) (jb : JO Wp E X eb b) : JE Wp E X (.BinOp ea .Mult eb pos) (dBin .mul a b) :=
  (pe_op op_mulA ja jb).weak fun σ H Q ⟨W, B, M0, ρ, M, P, R, w, G, d, x, h⟩ => two w G d x fun x y ρ2 v u H2 M2 G2 r1 r2 c => mul_go G2 r1 r2 c fun z fr v' H' M' c r => h _ _ _ _ _ _ c r
theorem jNeg (ja : JO Wp E X ea a) : JE Wp E X (.UnaryOp .USub ea pos) (dNeg a) := by
  refine (pe_un un_neg ja).weak fun σ H Q ⟨W, B, M0, ρ, M, P, R, w, G, d, x, h⟩ => ?_
  refine lO_go w G d x fun oa ρ1 v H1 M1 c G1 k1 => ?_
  obtain ⟨i, h1, f⟩ := c
  exact ⟨i, RepPk.int_inv (OpdOk.pk G1 k1 h1), h _ _ _ _ _ _ f (Res.int G1 _)⟩
theorem jCmp {cm : Cm} (hu : X.A.units + 65 < cLine) (ja : JO Wp E X ea a) (jb : JO Wp E X eb b) (hm : behindInMarks (cmO cm) eb = false) : JE Wp E X (.Compare ea [cmO cm] [eb] pos) (dCmp cm a b) :=
  (pe_cmpR (op_cm hu cm) ja jb hm).weak fun σ H Q ⟨W, B, M0, ρ, M, P, R, w, G, d, x, h⟩ => two w G d x fun x y ρ2 v u H2 M2 G2 r1 r2 c => cm_go r1 r2 c fun k c => h _ _ _ _ _ _ c (Res.bool G2 k)
theorem jCmp2 {cm cm' : Cm} (hu : X.A.units + 65 < cLine) (ja : JO Wp E X ea a) (jb : JO Wp E X eb b) (jc : JO Wp E X ec c) (hm : lastMarks [cmO cm, cmO cm'] [eb, ec] = false) :
    JE Wp E X (.Compare ea [cmO cm, cmO cm'] [eb, ec] pos) (dCmp2 cm cm' a b c) := by
  refine (pe_chain (op_cm hu cm) (op_cm hu cm') ja jb jc hm).weak fun σ H Q ⟨W, B, M0, ρ, M, P, R, w, G, d, x, h⟩ => ?_
  refine lO_go w G d x fun oa ρ1 v H1 M1 c G1 k1 => lO_go' w G1.base c x.cons fun ob ρ2 u H2 M2 c2 G2 k2 => ?_
  obtain ⟨x', y, h1, h2, f⟩ := c2
  refine cm_go (OpdOk.pk G2 (OpdOk.later G2 k1) h1) (OpdOk.pk G2 k2 h2) f fun k f => ⟨k, rfl, ?_⟩
  cases k with
  | false => exact h _ _ _ _ _ _ f (Res.bool (G2.tail.mono (Nat.le_add_right _ _)) false)
  | true =>
    refine lO_go' w G2.tail.base f x.cons fun oc ρ3 z H3 M3 c3 G3 k3 => ?_
    obtain ⟨y', z', h3, h4, f⟩ := c3
    exact cm_go (OpdOk.pk G3 (OpdOk.later G3 k2) h3) (OpdOk.pk G3 k3 h4) f fun k f => h _ _ _ _ _ _ f (Res.bool G3.tail k)
theorem non_iff {K : PySem.W.Frag} {H : Hp} {M : List Addr} {v : V} {x : PyData} (r : RepPk K H M v x) : decide (v = .non) = isNoneD x := by
  cases x with
  | list ds => obtain ⟨a, vs, rfl, _⟩ := r.list_inv; rfl
  | none => obtain rfl : v = .non := Rep.none_inv r; rfl
  | _ => have r : Rep K H M v _ := r; cases r <;> rfl
theorem jIsN {n : Nat} (ja : JO Wp E X ea a) : JE Wp E X (.Compare ea [.Is] [.Constant .none n p2] pos) (dIsN a) :=
  (pe_cmp (pc_isN ja)).weak fun σ H Q ⟨W, B, M0, ρ, M, P, R, w, G, d, x, h⟩ => one (r := fun x H Q => Q (.bl (decide (x = .non))) H) w G d x fun x ρ2 v H2 M2 G2 r f => by
    rw [non_iff r]
    exact h _ _ _ _ _ _ f (Res.bool G2 _)
theorem jNotN {n : Nat} (ja : JO Wp E X ea a) : JE Wp E X (.Compare ea [.IsNot] [.Constant .none n p2] pos) (dNotN a) :=
  (pe_cmp (pc_notN ja)).weak fun σ H Q ⟨W, B, M0, ρ, M, P, R, w, G, d, x, h⟩ => one (r := fun x H Q => Q (.bl (!decide (x = .non))) H) w G d x fun x ρ2 v H2 M2 G2 r f => by
    rw [non_iff r]
    exact h _ _ _ _ _ _ f (Res.bool G2 _)
end
end G9

/-! M6: bools, displays, subscripts, slices, truth, some built-ins, over wants. -/
namespace G9
open PySem PySem.Spec L2 PyProof.Rows
section
variable {K : PySem.W.Frag} {W : Wk} {B : List Bs} {M0 : List Addr} {ρ : En} {σ : L2.St} {H : Hp} {M : List Addr} {v : V} {u : U} {fr : Bool}
theorem Res.val {x : PyData} (r : Res W K B M0 ρ σ H M v u fr) (e : u = .d x) : Rep K H M v x := by subst e; exact r.rep
theorem datas_rep : ∀ {vs : List V} {us : List U} {xs : List PyData}, Paired (RepU W K H M) vs us → datas us = some xs → RepL K H M vs xs
  | _, _, _, .nil, e => by cases e; exact .nil
  | _, .d x :: us, _, .cons r t, e => by
    have e : (datas us).map (x :: ·) = some _ := e
    cases q : datas us with
    | none => rw [q] at e; cases e
    | some ys => rw [q] at e; cases e; exact .cons r (datas_rep t q)
  | _, .deck :: us, _, .cons r t, e => by cases e
  | _, .ob _ :: us, _, .cons r t, e => by cases e
theorem Paired.moveU {M' : List Addr} {H' : Hp} (k : Kp M H H') (n : ∀ a ∈ M', a ∈ M ∨ H a = none) {vs : List V} {us : List U} (p : Paired (RepU W K H M) vs us) : Paired (RepU W K H' M') vs us := L2.Paired.mapP p fun _ _ r => r.move k n
end
section
variable {Wp : Wk → Prop} {E : XK} {X : Cx} {ea eb ec e : Expr} {es rest : List Expr} {a b c : DO} {da db : DE} {dc ta tb : DT} {aa : DA} {pos p2 : Pos}
theorem jAnd1 {op : BoolOp} (ja : JE Wp E X ea da) : JE Wp E X (.BoolOp op [ea] pos) da := pe_one ja
theorem jAnd (ja : JE Wp E X ea da) (jb : JE Wp E X (.BoolOp .And (eb :: rest) pos) db) : JE Wp E X (.BoolOp .And (ea :: eb :: rest) pos) (dAnd da db) := by
  refine (pe_and ja jb).weak fun σ H Q ⟨W, B, M0, ρ, M, P, R, w, G, d, x, h⟩ => ?_
  refine lE_go w G d x fun u fr ρ1 v H1 M1 c r => ?_
  obtain ⟨k, rfl, c⟩ := c
  refine ⟨k, Rep.bool_inv r.rep, ?_⟩
  cases k with
  | true => exact lE_go' w r.gd c x h
  | false => exact h _ _ _ _ _ _ c (Res.bool (r.gd.mono (Nat.le_add_right _ _)) false)
theorem jOr (ja : JE Wp E X ea da) (jb : JE Wp E X (.BoolOp .Or (eb :: rest) pos) db) : JE Wp E X (.BoolOp .Or (ea :: eb :: rest) pos) (dOr da db) := by
  refine (pe_or ja jb).weak fun σ H Q ⟨W, B, M0, ρ, M, P, R, w, G, d, x, h⟩ => ?_
  refine lE_go w G d x fun u fr ρ1 v H1 M1 c r => ?_
  obtain ⟨k, rfl, c⟩ := c
  refine ⟨k, Rep.bool_inv r.rep, ?_⟩
  cases k with
  | true => exact h _ _ _ _ _ _ c (Res.bool (r.gd.mono (Nat.le_add_right _ _)) true)
  | false => exact lE_go' w r.gd c x h
theorem jNot (ja : JE Wp E X ea da) : JE Wp E X (.UnaryOp .Not ea pos) (dNot da) := by
  refine (pe_not ja).weak fun σ H Q ⟨W, B, M0, ρ, M, P, R, w, G, d, x, h⟩ => ?_
  refine lE_go w G d x fun u fr ρ1 v H1 M1 c r => ?_
  obtain ⟨k, rfl, c⟩ := c
  exact ⟨k, Rep.bool_inv r.rep, h _ _ _ _ _ _ c (Res.bool r.gd _)⟩
theorem jIte (jc : JT Wp E X ec dc) (ja : JE Wp E X ea da) (jb : JE Wp E X eb db) : JE Wp E X (.IfExp ec ea eb pos) (dIte dc da db) := by
  refine (pe_ifExp jc ja jb).weak fun σ H Q ⟨W, B, M0, ρ, M, P, R, w, G, d, x, h⟩ => ?_
  refine lT_go w G d x fun k ρ1 H1 M1 c G1 => ?_
  cases k with
  | true => exact lE_go' w G1 c x fun u fr ρ' v H' M' c r => h _ _ _ _ _ _ c (r.mono (Nat.add_le_add_left (Nat.le_add_right _ _) _))
  | false => exact lE_go' w G1 c x fun u fr ρ' v H' M' c r => h _ _ _ _ _ _ c (r.mono (Nat.add_le_add_left (Nat.le_add_left _ _) _))
/-! ### truth -/
theorem tru_go {K : PySem.W.Frag} {H : Hp} {M : List Addr} {v : V} {x : PyData} {C : Bool → Prop} {Q : Bool → Hp → Prop} (r : RepPk K H M v x) (d : truS x C) (h : ∀ k, C k → Q k H) : ∃ k, TruV K v H k ∧ Q k H := by
  cases x with
  | none => obtain rfl : v = .non := Rep.none_inv r; exact ⟨_, rfl, h _ d⟩
  | bool i => obtain rfl := r.bool_inv; exact ⟨_, rfl, h _ d⟩
  | int i => obtain rfl := r.int_inv; exact ⟨_, rfl, h _ d⟩
  | str i => obtain rfl := r.str_inv; exact ⟨_, ⟨d.1, rfl⟩, h _ d.2⟩
  | list xs =>
    obtain ⟨a, vs, rfl, ha, rl⟩ := r.list_inv
    have e : vs.isEmpty = xs.isEmpty := by cases rl <;> rfl
    exact ⟨_, .inl ⟨vs, SqL.of ha, rfl⟩, by rw [e]; exact h _ d⟩
  | tuple xs =>
    obtain ⟨a, vs, rfl, ha, rl⟩ := r.tup_inv
    have e : vs.isEmpty = xs.isEmpty := by cases rl <;> rfl
    exact ⟨_, .inr (.inl ⟨vs, ha, rfl⟩), by rw [e]; exact h _ d⟩
  | _ => exact (show False from d).elim
theorem kOf (ja : JE Wp E X ea da) (he : ∀ whole, isTrue ea X.env whole = (do let v ← whole; standAt ea.pos; holding [v] (truthy v))) : JT Wp E X ea (kE da) := by
  refine (pt_truth ja he).weak fun σ H Q ⟨W, B, M0, ρ, M, P, R, w, G, d, x, h⟩ => ?_
  refine lE_go w G d x fun u fr ρ1 v H1 M1 c r => ?_
  obtain ⟨y, e, c⟩ := c
  exact tru_go (Rep.pk (r.val e)) c fun k c => h _ _ _ _ c r.gd
theorem kName {i : Nat} (ja : JO Wp E X ea (oSlot i)) (he : ∀ whole, isTrue ea X.env whole = (do let v ← whole; standAt ea.pos; holding [v] (truthy v))) : JT Wp E X ea (kVar i) := by
  refine (pt_truth ja he).weak fun σ H Q ⟨W, B, M0, ρ, M, P, R, w, G, d, x, h⟩ => ?_
  obtain ⟨y, e, c⟩ := d
  have e' := e
  have e : (En.at ρ i).map (·.u) = some (.d y) := e
  cases q : En.at ρ i with
  | none => rw [q] at e; cases e
  | some en =>
    refine lO_go (P := fun o ρ1 => o = .slot i ∧ ρ1 = ρ) (R := R) w G ⟨en, q, rfl, rfl⟩ x fun oa ρ1 v H1 M1 c1 G1 k1 => ?_
    obtain ⟨rfl, rfl⟩ := c1
    exact tru_go (OpdOk.pk G1 k1 e') c fun k c => h _ _ _ _ c G1
theorem kCmp {cm : Cm} (hu : X.A.units + 65 < cLine) (ja : JO Wp E X ea a) (jb : JO Wp E X eb b) (hm : behindInMarks (cmO cm) eb = false) : JT Wp E X (.Compare ea [cmO cm] [eb] pos) (kE (dCmp cm a b)) := by
  refine (pt_cmpR (op_cm hu cm) ja jb hm).weak fun σ H Q ⟨W, B, M0, ρ, M, P, R, w, G, d, x, h⟩ => ?_
  exact two w G d x fun x y ρ2 v u H2 M2 G2 r1 r2 c => cm_go r1 r2 c fun k c => by
    obtain ⟨y, e, c⟩ := c
    cases e
    exact ⟨k, rfl, h _ _ _ _ c G2⟩
theorem kCmp2 {cm cm' : Cm} (hu : X.A.units + 65 < cLine) (ja : JO Wp E X ea a) (jb : JO Wp E X eb b) (jc : JO Wp E X ec c) (hm : lastMarks [cmO cm, cmO cm'] [eb, ec] = false) :
    JT Wp E X (.Compare ea [cmO cm, cmO cm'] [eb, ec] pos) (kE (dCmp2 cm cm' a b c)) := by
  refine (pt_chain (op_cm hu cm) (op_cm hu cm') ja jb jc hm).weak fun σ H Q ⟨W, B, M0, ρ, M, P, R, w, G, d, x, h⟩ => ?_
  refine lO_go w G d x fun oa ρ1 v H1 M1 c G1 k1 => lO_go' w G1.base c x.cons fun ob ρ2 u H2 M2 c2 G2 k2 => ?_
  obtain ⟨x', y, h1, h2, f⟩ := c2
  refine cm_go (OpdOk.pk G2 (OpdOk.later G2 k1) h1) (OpdOk.pk G2 k2 h2) f fun k f => ⟨k, rfl, ?_⟩
  cases k with
  | false =>
    obtain ⟨y, e, c⟩ := f
    cases e
    exact ⟨false, rfl, h _ _ _ _ c (G2.tail.mono (Nat.le_add_right _ _))⟩
  | true =>
    refine lO_go' w G2.tail.base f x.cons fun oc ρ3 z H3 M3 c3 G3 k3 => ?_
    obtain ⟨y', z', h3, h4, f⟩ := c3
    refine cm_go (OpdOk.pk G3 (OpdOk.later G3 k2) h3) (OpdOk.pk G3 k3 h4) f fun k f => ?_
    obtain ⟨y, e, c⟩ := f
    cases e
    exact ⟨k, rfl, h _ _ _ _ c G3.tail⟩
theorem kIsN {n : Nat} (ja : JO Wp E X ea a) : JT Wp E X (.Compare ea [.Is] [.Constant .none n p2] pos) (kE (dIsN a)) :=
  (pt_cmp (pc_isN ja)).weak fun σ H Q ⟨W, B, M0, ρ, M, P, R, w, G, d, x, h⟩ => one (Q := fun x H1 => ∃ c, x = .bl c ∧ Q c H1) (r := fun x H Q => Q (.bl (decide (x = .non))) H) w G d x fun x ρ2 v H2 M2 G2 r f => by
    rw [non_iff r]
    obtain ⟨y, e, c⟩ := f
    cases e
    exact ⟨_, rfl, h _ _ _ _ c G2⟩
theorem kNotN {n : Nat} (ja : JO Wp E X ea a) : JT Wp E X (.Compare ea [.IsNot] [.Constant .none n p2] pos) (kE (dNotN a)) :=
  (pt_cmp (pc_notN ja)).weak fun σ H Q ⟨W, B, M0, ρ, M, P, R, w, G, d, x, h⟩ => one (Q := fun x H1 => ∃ c, x = .bl c ∧ Q c H1) (r := fun x H Q => Q (.bl (!decide (x = .non))) H) w G d x fun x ρ2 v H2 M2 G2 r f => by
    rw [non_iff r]
    obtain ⟨y, e, c⟩ := f
    cases e
    exact ⟨_, rfl, h _ _ _ _ c G2⟩
theorem kNotC (ja : JT Wp E X ea ta) : JT Wp E X (.UnaryOp .Not ea pos) (kNot ta) :=
  (pt_not ja).weak fun σ H Q ⟨W, B, M0, ρ, M, P, R, w, G, d, x, h⟩ => lT_go w G d x fun k ρ1 H1 M1 c G1 => h _ _ _ _ c G1
theorem kAnd1 (ja : JT Wp E X ea ta) : JW Wp E X (.BoolOp .And [ea] pos) ta := pw_and1 ja
theorem kOr1 (ja : JT Wp E X ea ta) : JW Wp E X (.BoolOp .Or [ea] pos) ta := pw_or1 ja
theorem kAndC (ja : JT Wp E X ea ta) (jb : JW Wp E X (.BoolOp .And (eb :: rest) pos) tb) : JW Wp E X (.BoolOp .And (ea :: eb :: rest) pos) (kAnd ta tb) :=
  (pw_and ja jb).weak fun σ H Q ⟨W, B, M0, ρ, M, P, R, w, G, d, x, h⟩ => lT_go w G d x fun k ρ1 H1 M1 c G1 => by
    cases k with
    | true => exact lT_go' w G1 c x h
    | false => exact h _ _ _ _ c (G1.mono (Nat.le_add_right _ _))
theorem kOrC (ja : JT Wp E X ea ta) (jb : JW Wp E X (.BoolOp .Or (eb :: rest) pos) tb) : JW Wp E X (.BoolOp .Or (ea :: eb :: rest) pos) (kOr ta tb) :=
  (pw_or ja jb).weak fun σ H Q ⟨W, B, M0, ρ, M, P, R, w, G, d, x, h⟩ => lT_go w G d x fun k ρ1 H1 M1 c G1 => by
    cases k with
    | true => exact h _ _ _ _ c (G1.mono (Nat.le_add_right _ _))
    | false => exact lT_go' w G1 c x h
theorem kW (j : JW Wp E X ea ta) : JT Wp E X ea ta := j.pt
/-! ### argument lists, displays -/
theorem aNil0 : JA Wp E X [] aNil := pa_nil.weak fun σ H Q ⟨W, B, M0, ρ, M, P, R, w, G, d, x, h⟩ => h _ _ _ _ _ d G .nil
theorem aCons0 (je : JE Wp E X e da) (jr : JA Wp E X es aa) (hs : starEach (e :: es) X.env = (false, eval e X.env) :: starEach es X.env) : JA Wp E X (e :: es) (aCons da aa) := by
  refine (pa_cons je jr hs).weak fun σ H Q ⟨W, B, M0, ρ, M, P, R, w, G, d, x, h⟩ => ?_
  refine lE_go w G d x fun u fr ρ1 v H1 M1 c r => lA_go' w r.gd.base c x.cons fun us ρ2 vs H2 M2 c G2 p => ?_
  exact h _ _ _ _ _ c G2.tail (.cons (G2.repU r.rep) p)
theorem jTup {k : Nat} (j : JA Wp E X es aa) : JE Wp E X (.Tuple es k pos) (dTup aa) :=
  (pe_tup j).weak fun σ H Q ⟨W, B, M0, ρ, M, P, R, w, G, d, x, h⟩ => lA_go w G d x fun us ρ1 vs H1 M1 c G1 p => by
    obtain ⟨xs, e, hz, c⟩ := c
    have r := datas_rep p e
    exact ⟨by rw [r.length]; exact hz, fun p hp => h _ _ _ _ _ _ c (Res.newT G1 hp r)⟩
theorem jLst (j : JA Wp E X es aa) : JE Wp E X (.List es pos) (dLst aa) :=
  (pe_lst j).weak fun σ H Q ⟨W, B, M0, ρ, M, P, R, w, G, d, x, h⟩ => lA_go w G d x fun us ρ1 vs H1 M1 c G1 p => by
    obtain ⟨xs, e, hz, c⟩ := c
    have r := datas_rep p e
    exact ⟨by rw [r.length]; exact hz, fun p hp => h _ _ _ _ _ _ c (Res.new G1 hp r)⟩
/-! ### subscripts -/
theorem at_rep {K : PySem.W.Frag} {H : Hp} {M : List Addr} {vs : List V} {ds : List PyData} {i : Int} {y : PyData} (r : RepL K H M vs ds) (e : atI ds i = some y) : ∃ v, atI vs i = some v ∧ Rep K H M v y := by
  unfold atI at e ⊢
  rw [r.length]
  cases q : ixN ds.length i with
  | none => rw [q] at e; cases e
  | some j => rw [q] at e; exact r.get e
theorem jIdx (ja : JO Wp E X ea a) (jb : JO Wp E X eb b) (hs : PlainIx eb) : JE Wp E X (.Subscript ea eb pos) (dIdx a b) := by
  refine (pe_ix ix_seq ja jb hs).weak fun σ H Q ⟨W, B, M0, ρ, M, P, R, w, G, d, x, h⟩ => ?_
  refine lO_go w G d x fun oa ρ1 v H1 M1 c G1 k1 => lO_go' w G1.base c x.cons fun ob ρ2 u H2 M2 c2 G2 k2 => ?_
  obtain ⟨x, i, h1, h2, c⟩ := c2
  have r1 := OpdOk.pk G2 (OpdOk.later G2 k1) h1
  have r2 := OpdOk.pk G2 k2 h2
  cases x <;> try exact (show False from c).elim
  · rename_i s
    obtain ⟨hz, ch, e, c⟩ := c
    exact .inr (.inr ⟨s, i, ch, r1.str_inv, r2.int_inv, hz, e, h _ _ _ _ _ _ c (Res.str G2.tail _)⟩)
  · obtain ⟨y, e, c⟩ := c
    obtain ⟨p, vs, rfl, ha, rl⟩ := r1.list_inv
    obtain ⟨z, e2, r⟩ := at_rep rl e
    exact .inl ⟨p, vs, i, z, rfl, r2.int_inv, SqL.of ha, e2, h _ _ _ _ _ _ c (.of G2.tail r)⟩
  · obtain ⟨y, e, c⟩ := c
    obtain ⟨p, vs, rfl, ha, rl⟩ := r1.tup_inv
    obtain ⟨z, e2, r⟩ := at_rep rl e
    exact .inr (.inl ⟨p, vs, i, z, rfl, r2.int_inv, ha, e2, h _ _ _ _ _ _ c (.of G2.tail r)⟩)
/-! ### slices -/
abbrev JP (Wp : Wk → Prop) (E : XK) (X : Cx) (e : Option Expr) (d : DP) : Prop := PO X e (fun σ H Q => ∃ W B M0 ρ M P R, WP Wp W d.m ∧ Gd W X.K B M0 ρ σ H M ∧ d ρ P R ∧ XOk W X.K X.mg E M0 B R ∧ ∀ o ρ' H' M', P o ρ' → Gd (W.up d.m) X.K B M0 ρ' σ H' M' → Q o H')
theorem pNone : JP Wp E X none pNo := ⟨fun pins s σ H Q I ⟨W, B, M0, ρ, M, P, R, w, G, d, x, h⟩ => po_none.run pins s σ H Q I (h _ _ _ _ d G)⟩
theorem pSome (j : JE Wp E X e da) : JP Wp E X (some e) (pE da) := ⟨fun pins s σ H Q I ⟨W, B, M0, ρ, M, P, R, w, G, d, x, h⟩ => (po_some j).run pins s σ H Q I (lE_go w G d x fun u fr ρ1 v H1 M1 c r => by
  obtain ⟨i, rfl, c⟩ := c
  exact ⟨i, Rep.int_inv r.rep, h _ _ _ _ c r.gd⟩)⟩
theorem RepL.cut {K : PySem.W.Frag} {H : Hp} {M : List Addr} {vs : List V} {ds : List PyData} (r : RepL K H M vs ds) (lo hi : Option Int) : RepL K H M (cutV vs lo hi) (cutD ds lo hi) := by
  unfold cutV cutD
  rw [r.length]
  exact (r.drop _).take _
def rSlAll (K : PySem.W.Frag) : V → Option Int → Option Int → Hp → VK → Prop := fun x lo hi H Q => rSlL K x lo hi H Q ∨ (rSlA K x lo hi H Q ∨ rSlS x lo hi H Q)
theorem sl_all {X : Cx} : SlR X (rSlAll X.K) := sl_list.or (sl_tupA.or sl_str)
theorem sl_go {K : PySem.W.Frag} {W : Wk} {B : List Bs} {M0 : List Addr} {ρ : En} {σ : L2.St} {H : Hp} {M : List Addr} {v : V} {x : PyData} {lo hi : Option Int} {C : PyData → Bool → Prop} {Q : VK} (G : Gd W K B M0 ρ σ H M) (r : RepPk K H M v x) (c : slS x lo hi C)
    (h : ∀ z fr v' H' M', C z fr → Res W K B M0 ρ σ H' M' v' (.d z) fr → Q v' H') : rSlAll K v lo hi H Q := by
  cases x <;> try exact (show False from c).elim
  · rename_i s
    exact .inr (.inr ⟨s, r.str_inv, c.1, h _ _ _ _ _ c.2 (Res.str G _)⟩)
  · obtain ⟨p, vs, rfl, ha, rl⟩ := r.list_inv
    exact .inl ⟨p, vs, rfl, SqL.of ha, fun q hq => h _ _ _ _ _ c (Res.new G hq (rl.cut lo hi))⟩
  · rename_i xs
    obtain ⟨p, vs, rfl, ha, rl⟩ := r.tup_inv
    refine .inr (.inl ⟨p, vs, rfl, ha, fun ⟨h1, h2⟩ => ?_, fun _ q hq => h _ _ _ _ _ c (Res.newT G hq (rl.cut lo hi))⟩)
    have e : cutD xs lo hi = xs := by
      unfold cutD
      rw [← rl.length, h1, h2, rl.length, List.drop_zero, Nat.sub_zero, List.take_length]
    have c : C (.tuple (cutD xs lo hi)) false := c
    rw [e] at c
    exact h _ _ _ _ _ c (.of G (Rep.tup ha rl))
theorem jSli {lo hi : Option Expr} {dl dh : DP} (ja : JO Wp E X ea a) (jl : JP Wp E X lo dl) (jh : JP Wp E X hi dh) : JE Wp E X (.Subscript ea (.Slice lo hi none p2) pos) (dSli a dl dh) := by
  refine (pe_slice sl_all ja jl jh).weak fun σ H Q ⟨W, B, M0, ρ, M, P, R, w, G, d, x, h⟩ => ?_
  refine lO_go w G d x fun oa ρ1 v H1 M1 c G1 k1 => ⟨_, ⟨H1, M1, M1⟩ :: B, M0, ρ1, M1, _, R, w.up (Nat.le_add_right _ _), G1.base, c, x.cons.up, fun l ρ2 H2 M2 c G2 => ⟨_, ⟨H1, M1, M1⟩ :: B, M0, ρ2, M2, _, R, w.up (Nat.le_refl _), G2.cast, c, x.cons.up, fun u ρ3 H3 M3 c G3 => ?_⟩⟩
  have G3 := G3.cast
  obtain ⟨y, h1, f⟩ := c
  exact sl_go G3.tail (OpdOk.pk G3 (OpdOk.later G3 k1) h1) f fun z fr v' H' M' c r => h _ _ _ _ _ _ c r
end
end G9

/-! M7: built-ins, methods, calls, over wants. -/
namespace G9
open PySem PySem.Spec L2 PyProof.Rows
section
variable {X : Cx} {pins : List (Addr × Obj)} {σ : L2.St} {H : Hp} {s : Shared} {M : List Addr}
theorem keyD_read {h : Heap} {k : Key} {u : Value} (e : keyIs k u = true) : Reads h u (keyD k) [] := by
  rcases keyIs_shape e with ⟨i, t, rfl, rfl⟩ | ⟨x, t, rfl, rfl⟩
  · exact .int i t
  · exact .str x t
theorem keys_read {h : Heap} {P : Program} {w : World} : ∀ {es : List DictEntry} {kvs : List (Key × V)} {vs : List (Key × Value)}, Pairs (mixKind P w) es vs → KV kvs vs → ReadsAll h (es.map (·.key)) (kvs.map fun p => keyD p.1) []
  | _, _, _, .nil, .nil => .nil
  | _, _, _, .cons k e p, .cons r t => by
    have q := keyD_read (h := h) k
    rw [← r.1] at q
    exact ReadsAll.cons q (keys_read p t)
theorem vals_of : ∀ {P : Program} {w : World} {es : List DictEntry} {kvs : List (Key × V)} {vs : List (Key × Value)}, Pairs (mixKind P w) es vs → KV kvs vs → Vals (kvs.map (·.2)) (es.map (·.val))
  | _, _, _, _, _, .nil, .nil => .nil
  | _, _, _, _, _, .cons k e p, .cons r t => by
    refine .cons ?_ (vals_of p t)
    show L2.RelV _ _
    have q := r.2
    rw [← e] at q
    exact q
theorem zip_fst {α β : Type} : ∀ {xs : List α} {ys : List β}, xs.length = ys.length → (xs.zip ys).map (·.1) = xs
  | [], [], _ => rfl
  | x :: xs, y :: ys, h => by simp [zip_fst (xs := xs) (ys := ys) (by simpa using h)]
theorem zip_snd {α β : Type} : ∀ {xs : List α} {ys : List β}, xs.length = ys.length → (xs.zip ys).map (·.2) = ys
  | [], [], _ => rfl
  | x :: xs, y :: ys, h => by simp [zip_snd (xs := xs) (ys := ys) (by simpa using h)]
mutual
/-- pure data, as the heap has it -/
theorem Rep.reads (I : Inv X pins σ H s) (sm : ∃ o u, H sysModules = some (.frz o u)) : ∀ {v : V} {d : PyData} {u : Value}, Rep X.K H M v d → RelV v u → ∃ as, Reads s.heap u d as ∧ sysModules ∉ as
  | _, _, _, .non, r => by cases r; exact ⟨_, .none, by simp⟩
  | _, _, _, .bl b, r => by cases r; exact ⟨_, .bool b, by simp⟩
  | _, _, _, .int i, r => by obtain ⟨t, rfl⟩ := r; exact ⟨_, .int i t, by simp⟩
  | _, _, _, .str x, r => by obtain ⟨t, rfl⟩ := r; exact ⟨_, .str x t, by simp⟩
  | _, _, _, .lst (a := a) hn h q, r => by
    cases r
    obtain ⟨its, rv, ⟨o, n, ho, hc, _, hd⟩, _⟩ := I.list (SqL.of h)
    obtain ⟨as, hr, ns⟩ := RepL.reads I sm q rv
    obtain ⟨o', u', e⟩ := sm
    exact ⟨_, Reads.list ho hc hd hr, fun z => (List.mem_cons.mp z).elim (fun z => by rw [z] at e; rw [e] at h; cases h) ns⟩
  | _, _, _, .tup h q, r => by
    cases r
    obtain ⟨its, rv, ⟨o, ho, hc, n, hd⟩, _⟩ := I.tuple h
    obtain ⟨as, hr, ns⟩ := RepL.reads I sm q rv
    exact ⟨_, Reads.tuple ho hc hd hr, ns⟩
  | _, _, _, .dct (a := a) (kvs := kvs) (ds := ds) hn h q, r => by
    cases r
    obtain ⟨_, na, vs, rk, o, es, ep, ho, ex, hd, _, hp, _⟩ := (show ObjOk X.prog X.w H s.heap a (.dK kvs) from I.hok a _ h)
    obtain ⟨bs, hr, ns⟩ := RepL.reads I sm q (vals_of hp rk)
    have hl : (kvs.map fun p => keyD p.1).length = ds.length := by
      have := q.length
      simpa using this
    have h1 := keys_read (h := s.heap) hp rk
    have h2 := hr
    refine ⟨_, Reads.dict (as := []) (bs := bs) ho ex.1 hd (by rw [zip_fst hl]; exact h1) (by rw [zip_snd hl]; exact h2), fun z => ?_⟩
    rcases List.mem_cons.mp z with z | z
    · rw [← z] at na
      exact absurd na (by decide)
    · exact ns (by simpa using z)
theorem RepL.reads (I : Inv X pins σ H s) (sm : ∃ o u, H sysModules = some (.frz o u)) : ∀ {vs : List V} {ds : List PyData} {us : List Value}, RepL X.K H M vs ds → Vals vs us → ∃ as, ReadsAll s.heap us ds as ∧ sysModules ∉ as
  | _, _, _, .nil, .nil => ⟨_, .nil, by simp⟩
  | _, _, _, .cons h q, .cons r t => by
    obtain ⟨as, q1, n1⟩ := Rep.reads I sm h r
    obtain ⟨bs, q2, n2⟩ := RepL.reads I sm q t
    exact ⟨_, .cons q1 q2, fun z => (List.mem_append.mp z).elim n1 n2⟩
end
theorem RepPk.reads (I : Inv X pins σ H s) (sm : ∃ o u, H sysModules = some (.frz o u)) {v : V} {d : PyData} {u : Value} (h : RepPk X.K H M v d) (r : RelV v u) : ∃ as, Reads s.heap u d as ∧ sysModules ∉ as := by
  cases d with
  | list ds =>
    obtain ⟨a, vs, rfl, ha, q⟩ := h.list_inv
    cases r
    obtain ⟨its, rv, ⟨o, n, ho, hc, _, hd⟩, _⟩ := I.list (SqL.of ha)
    obtain ⟨as, hr, ns⟩ := RepL.reads I sm q rv
    obtain ⟨o', u', e⟩ := sm
    exact ⟨_, Reads.list ho hc hd hr, fun z => (List.mem_cons.mp z).elim (fun z => by rw [z] at e; rw [e] at ha; cases ha) ns⟩
  | _ => exact Rep.reads I sm h r
/-- repr(x) of pure data -/
def rRepr (K : PySem.W.Frag) : List V → Hp → VK → Prop := fun xs H Q => ∃ v d M, xs = [v] ∧ RepPk K H M v d ∧ (∃ o u, H sysModules = some (.frz o u)) ∧ d.showable = true ∧ d.depth ≤ 64 ∧ d.shown.length ≤ sizeLine ∧ Q (.str d.shown) H
theorem cr_repr (hg : X.A.guards = some []) (hu : X.A.units + 65 < cLine) : CallR X (.builtin "repr") (rRepr X.K) := by
  intro pins s σ H xs us Q I r h
  obtain ⟨v, d, M, rfl, hv, sm, h1, h2, h3, q⟩ := h
  obtain ⟨u, rfl, ru⟩ := vals1 r
  obtain ⟨as, hr, ns⟩ := RepPk.reads I sm hv ru
  have key : ∀ a, u = .ref a → wpAny (model X.prog X.w) X.A (call (.builtin "repr") [u]) (EP X pins σ Q) X.xe s := by
    rintro a rfl
    exact repr_of_reads' hr h1 (fun _ => ns) hg (by omega) (fun _ _ e => e) (fun h' u tk k => ⟨.str _, H, I.kept k, ⟨_, rfl⟩, q⟩) h3
  cases hr with
  | none => exact PySem.P.repr_of_none ⟨.str _, H, I.tok _, ⟨_, rfl⟩, q⟩
  | bool b => exact PySem.P.repr_of_bool ⟨.str _, H, I.tok _, ⟨_, rfl⟩, q⟩
  | int i t => exact PySem.P.repr_of_int (by simpa [PyData.showable] using h1) ⟨.str _, H, I.tok _, ⟨_, rfl⟩, q⟩
  | str x t => exact PySem.P.repr_of_str ⟨.str _, H, I.tok _, ⟨_, rfl⟩, q⟩ h3
  | list _ _ _ _ => exact key _ rfl
  | tuple _ _ _ _ => exact key _ rfl
  | dict _ _ _ _ _ => exact key _ rfl
end
end G9

/-! N1: list(text), sum(tuple). -/
namespace G9
open PySem PySem.Spec L2 PyProof.Rows
section
variable {X : Cx}
/-- the signs of a text, a new list -/
def rLstTx : List V → Hp → VK → Prop := fun xs H Q => ∃ z : Str, xs = [.str z] ∧ z.length ≤ sizeLine ∧ ∀ l, H l = none → Q (.ref l) (upd H l (.lst (z.cps.toList.map fun c => V.str ⟨#[c]⟩)))
theorem signs_vals {z : Str} : ∀ {l : List Value} {cs : List Nat}, l.length = cs.length → (∀ (j : Nat) v, l[j]? = some v → ∃ c u, cs[j]? = some c ∧ v = Value.str ⟨#[c]⟩ u) → Vals (cs.map fun c => V.str ⟨#[c]⟩) l
  | [], [], _, _ => .nil
  | v :: l, c :: cs, e, h => by
    obtain ⟨d, u, e1, e2⟩ := h 0 v rfl
    have e1 : some c = some d := e1
    cases e1
    subst e2
    exact .cons ⟨u, rfl⟩ (signs_vals (z := z) (Nat.succ.inj e) fun j v hj => h (j + 1) v hj)
theorem cr_lstTx (hc : X.calm = true) : CallR X (.type "list") rLstTx := by
  intro pins s σ H xs us Q I r h
  obtain ⟨z, rfl, hz, q⟩ := h
  obtain ⟨u, rfl, ru⟩ := vals1 r
  obtain ⟨t, rfl⟩ := ru
  refine PySem.call_list_str (I.ok.hd hc) z t (hn := hz) fun h' tk acc c k g it => ?_
  have hl : acc.toList.length = z.cps.toList.length := by rw [Array.length_toList, Array.length_toList]; exact it.1
  have vv : Vals (z.cps.toList.map fun c => V.str ⟨#[c]⟩) acc.toList := signs_vals (z := z) hl fun j v hv => by
    obtain ⟨c, u, e1, e2⟩ := it.2 j v (by rw [← Array.getElem?_toList]; exact hv)
    exact ⟨c, u, by rw [Array.getElem?_toList]; exact e1, e2⟩
  exact ⟨.ref _, upd H s.heap.objs.size (.lst (z.cps.toList.map fun c => V.str ⟨#[c]⟩)), I.laid (t' := tk) k (Nat.le_refl _) ⟨by rw [List.length_map, Array.length_toList]; exact hz, acc.toList, c, vv, g⟩, rfl, q _ (I.hok.fresh (Nat.le_refl _))⟩
/-- the sum of a tuple -/
def rSumTu (K : PySem.W.Frag) : List V → Hp → VK → Prop := fun vs H Q => ∃ (a : Addr) (ns : List Int), vs = [V.ref a] ∧ SqT K H a (ns.map V.int) ∧ Q (.int ns.sum) H
theorem cr_sumTu (hc : X.calm = true) : CallR X (.builtin "sum") (rSumTu X.K) := by
  intro pins s σ H vs us Q I r h
  obtain ⟨a, ns, rfl, ha, q⟩ := h
  rw [Vals.ref1 r]
  obtain ⟨its, rv, ht, hz⟩ := I.tuple ha
  have hi : IntsAre its ns := by simpa using rv.ints
  obtain ⟨xs, e⟩ := hi.allInts.items
  have hn : numsOf (intItems xs).toList = ns := by rw [← e]; exact hi.numsOf
  rw [nums_intItems] at hn
  rw [show its.toArray = intItems xs from e] at ht
  refine PySem.W.ktm_sumG (I.ok.hd hc) ht fun h' tk t' k => ?_
  rw [preSum_eq, List.take_of_length_le (by simp), hn]
  exact ⟨.int ns.sum, H, I.kept (t' := tk) k, ⟨t', rfl⟩, q⟩
end
end G9

/-! O2: sorted of tuples of texts. -/
namespace G9
open PySem PySem.Spec L2 PyProof.Rows
theorem ltS_irrefl (a : Str) : ltS a a = false := decide_eq_false (List.lt_irrefl _)
theorem ltS_trans {a b c : Str} (h : ltS a b = true) (k : ltS b c = true) : ltS a c = true := decide_eq_true (List.lt_trans (of_decide_eq_true h) (of_decide_eq_true k))
theorem ltS_tri {a b : Str} (h : ltS a b = false) (k : ltS b a = false) : a = b := by
  have h := of_decide_eq_false h
  have k := of_decide_eq_false k
  have e : a.cps.toList = b.cps.toList := List.le_antisymm (List.not_lt.mp k) (List.not_lt.mp h)
  cases a
  cases b
  simp only [Str.mk.injEq]
  exact Array.toList_inj.mp e
theorem ltSS_irrefl : ∀ a : List Str, ltSS a a = false
  | [] => rfl
  | a :: r => by show (if a = a then ltSS r r else _) = false; rw [if_pos rfl]; exact ltSS_irrefl r
theorem ltSS_tri : ∀ {a b : List Str}, ltSS a b = false → ltSS b a = false → a = b
  | [], [], _, _ => rfl
  | [], _ :: _, h, _ => by cases h
  | _ :: _, [], _, k => by cases k
  | a :: r, b :: t, h, k => by
    have h : (if a = b then ltSS r t else ltS a b) = false := h
    have k : (if b = a then ltSS t r else ltS b a) = false := k
    by_cases e : a = b
    · subst e
      rw [if_pos rfl] at h k
      rw [ltSS_tri h k]
    · rw [if_neg e] at h
      rw [if_neg (Ne.symm e)] at k
      exact absurd (ltS_tri h k) e
theorem ltSS_trans : ∀ {a b c : List Str}, ltSS a b = true → ltSS b c = true → ltSS a c = true
  | [], [], _, h, _ => by cases h
  | [], _ :: _, [], _, k => by cases k
  | [], _ :: _, _ :: _, _, _ => rfl
  | _ :: _, [], _, h, _ => by cases h
  | _ :: _, _ :: _, [], _, k => by cases k
  | a :: r, b :: t, c :: u, h, k => by
    have h : (if a = b then ltSS r t else ltS a b) = true := h
    have k : (if b = c then ltSS t u else ltS b c) = true := k
    show (if a = c then ltSS r u else ltS a c) = true
    by_cases e : a = b
    · subst e
      rw [if_pos rfl] at h
      by_cases e2 : a = c
      · rw [if_pos e2] at k ⊢
        exact ltSS_trans h k
      · rw [if_neg e2] at k ⊢
        exact k
    · rw [if_neg e] at h
      by_cases e2 : b = c
      · subst e2
        rw [if_neg e]
        exact h
      · rw [if_neg e2] at k
        have e3 : a ≠ c := fun z => by
          subst z
          have := ltS_trans h k
          rw [ltS_irrefl] at this
          cases this
        rw [if_neg e3]
        exact ltS_trans h k
theorem swo_ss {α : Type} (k : α → List Str) : SrtO.Swo fun v u => ltSS (k v) (k u) := by
  refine ⟨fun x y h => ?_, fun x y z h1 h2 => ?_⟩
  · cases e : ltSS (k y) (k x) with
    | false => rfl
    | true =>
      have := ltSS_trans h e
      rw [ltSS_irrefl] at this
      cases this
  · cases e : ltSS (k z) (k x) with
    | false => rfl
    | true =>
      -- not y < x, not z < y, z < x
      cases e1 : ltSS (k x) (k y) with
      | true =>
        have := ltSS_trans e e1
        rw [h2] at this
        cases this
      | false =>
        have := ltSS_tri e1 h1
        rw [this] at e
        rw [h2] at e
        cases e
end G9

/-! O3: sorted of tuples of texts: how two keys compare, what kind the keys are. -/
namespace G9
open PySem PySem.Spec L2 PyProof.Rows
def TsAt (h : Heap) (v : Value) (ss : List Str) : Prop := ∃ (a : Addr) (its : List Value), v = .ref a ∧ h.IsTuple a its.toArray ∧ StrsAre its ss
theorem TsAt.keeps {h h' : Heap} {v : Value} {ss : List Str} (x : TsAt h v ss) (k : ∀ b o, h.get? b = some o → o.cls = .type "tuple" → h'.get? b = some o) : TsAt h' v ss := by
  obtain ⟨a, its, rfl, ⟨o, ho, hc, n, hd⟩, i⟩ := x
  exact ⟨a, its, rfl, ⟨o, k _ _ ho hc, hc, n, hd⟩, i⟩
theorem eq_dec (x y : Str) : (x == y) = decide (x = y) := by
  by_cases q : x = y
  · rw [decide_eq_true q]; exact beq_iff_eq.mpr q
  · rw [decide_eq_false q]; exact beq_eq_false_iff_ne.mpr q
theorem lex_lt (ss ts : List Str) : Ob.lexAt (fun j => decide (ss.getD j "" = ts.getD j "")) (fun j => ltS (ss.getD j "") (ts.getD j "")) (decide (ss.length < ts.length)) 0 (min ss.length ts.length) = ltSS ss ts := by
  rw [lex_ss (g := ltSS) (rr := ltS) rfl (fun _ _ => rfl) (fun _ _ => rfl) (fun _ _ _ _ => rfl) ss ts _ (by
    by_cases q : ss.length = ts.length
    · rw [if_pos q]; exact decide_eq_false (by omega)
    · rw [if_neg q]
      by_cases q2 : ss.length < ts.length
      · rw [if_pos q2]; exact decide_eq_true q2
      · rw [if_neg q2]; exact decide_eq_false q2) _ 0 (Nat.zero_add _), List.drop_zero, List.drop_zero]
section
variable {prog : Program} {w : World} {A : Around} {E : Value → Shared → Prop} {s : Shared}
theorem rc_ltTS {v u : Value} {ss ts : List Str} (hu : A.units < cLine) (h1 : TsAt s.heap v ss) (h2 : TsAt s.heap u ts) : Ob.RcOp .Lt A s v u (ltSS ss ts) := by
  obtain ⟨a, its, rfl, p1, r1⟩ := h1
  obtain ⟨b, its2, rfl, p2, r2⟩ := h2
  have e1 : its.toArray.size = ss.length := by rw [List.size_toArray]; exact r1.length
  have e2 : its2.toArray.size = ts.length := by rw [List.size_toArray]; exact r2.length
  have R := Ob.RcOp.tuples_lt (A := A) (s := s) (e := fun j => decide (ss.getD j "" = ts.getD j "")) (r := fun j => ltS (ss.getD j "") (ts.getD j "")) p1 p2 hu (fun j h1 h2 => by
    obtain ⟨t, et⟩ := str_at r1 j h1
    obtain ⟨t', et'⟩ := str_at r2 j h2
    rw [et, et', ← eq_dec]
    exact SeqAt.EqAt.str_str _ _ _ _) (fun j h1 h2 _ => by
    obtain ⟨t, et⟩ := str_at r1 j h1
    obtain ⟨t', et'⟩ := str_at r2 j h2
    rw [et, et']
    exact rc_lt_str _ _ _ _)
  rw [e1, e2, lex_lt] at R
  exact R
theorem key_general {v u : Value} {ss ts : List Str} {Q : Bool → Shared → Prop} (hu : A.units < cLine) (h1 : TsAt s.heap v ss) (h2 : TsAt s.heap u ts) (q : Q (ltSS ss ts) s) : wpAny (model prog w) A (oneLt' false v u) Q E s := by
  rw [oneLt'_eq]
  simp only [Bool.false_eq_true, if_false]
  exact wpAny_bind (rc_ltTS hu h1 h2 prog w E _ (wpAny_truthy_bool q))
theorem key_oneType {v u : Value} {ss ts : List Str} {Q : Bool → Shared → Prop} (hu : A.units < cLine) (h1 : TsAt s.heap v ss) (h2 : TsAt s.heap u ts) (q : Q (ltSS ss ts) s) : wpAny (model prog w) A (oneLt' true v u) Q E s := by
  obtain ⟨a, its, rfl, p1, r1⟩ := h1
  obtain ⟨b, its2, rfl, p2, r2⟩ := h2
  have e1 : its.toArray.size = ss.length := by rw [List.size_toArray]; exact r1.length
  have e2 : its2.toArray.size = ts.length := by rw [List.size_toArray]; exact r2.length
  rw [oneLt'_eq]
  simp only [if_true]
  refine wpAny_bind (wpAny_cRoomFor hu ?_)
  obtain ⟨⟨cls, dd, data, sl⟩, ho, hc, n, hd⟩ := id p1
  obtain ⟨⟨cls2, dd2, data2, sl2⟩, ho2, hc2, n2, hd2⟩ := id p2
  simp only at hc hd hc2 hd2
  subst hc hd hc2 hd2
  refine wpAny_bind (wpAny_callSpecialIfBound?_slot (T := "tuple") ⟨_, ho, rfl⟩ F.slot_tuple_lt (call_meets F.slot_tuple_lt ⟨_, ho, rfl⟩ F.entry_tuple_lt (F.args_tuple_lt_2 _ _) (Ob.tuple_ltAt a b _ _ n n2 dd dd2 sl sl2 (fun j => decide (ss.getD j "" = ts.getD j "")) (fun j => ltS (ss.getD j "") (ts.getD j "")))
    ⟨ho, ho2, fun j h1 h2 => ?_, fun j h1 h2 _ => ?_, ?_⟩))
  · obtain ⟨t, et⟩ := str_at r1 j h1
    obtain ⟨t', et'⟩ := str_at r2 j h2
    rw [et, et', ← eq_dec]
    exact SeqAt.EqAt.str_str _ _ _ _
  · obtain ⟨t, et⟩ := str_at r1 j h1
    obtain ⟨t', et'⟩ := str_at r2 j h2
    rw [et, et']
    exact rc_lt_str _ _ _ _
  · rw [e1, e2, lex_lt]
    exact wpAny_truthy_bool q
theorem kat_ss {b fin : Bool} {Q : Bool → Shared → Prop} : ∀ {vs us : List Value} {ss ts : List Str} (i : Nat), StrsAre vs ss → StrsAre us ts → fin = decide (ss.length < ts.length) → Q (ltSS ss ts) s → PySem.W.KatLex prog w A b fin Q (vs.zip us) i s
  | _, _, _, _, i, .nil, .nil, e, q => by subst e; exact PySem.W.kat_nil q
  | _, _, _, _, i, .nil, .cons x k h, e, q => by
    have e : fin = true := by rw [e]; exact decide_eq_true (by simp)
    subst e; exact PySem.W.kat_nil q
  | _, _, _, _, i, .cons x k h, .nil, e, q => by
    have e : fin = false := by rw [e]; exact decide_eq_false (by simp)
    subst e; exact PySem.W.kat_nil q
  | _, _, _, _, i, .cons x k h, .cons y k' h', e, q => by
    have q : Q (if x = y then _ else ltS x y) s := q
    refine PySem.W.kat_cons (SeqAt.EqAt.str_str x k y k' prog w _ _ ?_)
    refine PySem.W.kat_go (fun e1 => ?_) (fun e1 => ?_)
    · have ex : x = y := eq_of_beq e1
      rw [if_pos ex] at q
      exact PySem.W.kat_yes (kat_ss (i + 1) h h' (by rw [e]; simp) q)
    · have ex : ¬ x = y := by simpa using e1
      rw [if_neg ex] at q
      exact PySem.W.kat_no (oneLt_any_str q)
theorem key_tuples {b : Bool} {v u : Value} {ss ts : List Str} {Q : Bool → Shared → Prop} (h1 : TsAt s.heap v ss) (h2 : TsAt s.heap u ts) (q : Q (ltSS ss ts) s) : wpAny (model prog w) A (keyLt' (tuples' b) v u) Q E s := by
  obtain ⟨a, its, rfl, ⟨o, ho, hc, n, hd⟩, r1⟩ := h1
  obtain ⟨b', its2, rfl, ⟨o2, ho2, hc2, n2, hd2⟩, r2⟩ := h2
  refine PySem.W.kat_lt ho hd ho2 hd2 (kat_ss 0 r1 r2 ?_ q)
  rw [List.size_toArray, List.size_toArray, r1.length, r2.length]
end
end G9

/-! O4: sorted of tuples of texts: the kind of the keys, the call. -/
namespace G9
open PySem PySem.Spec L2 PyProof.Rows
section
variable {M : Model} {A : Around} {E : Value → Shared → Prop} {s : Shared}
theorem first_one {v : Value} {ss : List Str} {Q : Option Value → Shared → Prop} (h : TsAt s.heap v ss) (q : ∀ f, f.isSome = !ss.isEmpty → (∀ u, f = some u → ∃ x t, u = .str x t) → Q f s) : wpAny M A (firstOfTuple' v) Q E s := by
  obtain ⟨a, its, rfl, ⟨o, ho, hc, n, hd⟩, r⟩ := h
  rw [PySem.W.kas_first_eq]
  refine wpAny_bind (PySem.W.Looks.here (show PySem.W.Looks M s.heap (typeOf (.ref a)) o.cls from (PySem.W.Looks.ld ho).andThen .now) ?_)
  rw [hc, if_neg (by first | decide | simp)]
  refine wpAny_bind (listItems_at ho hd (wpAny_pure ?_))
  refine q _ ?_ ?_
  · cases r with
    | nil => rfl
    | cons x k r => rfl
  · intro u hu
    cases r with
    | nil => cases hu
    | cons x k r => cases hu; exact ⟨_, _, rfl⟩
theorem first_all : ∀ {vs : List Value} {nss : List (List Str)} {Q : List (Option Value) → Shared → Prop}, Paired (TsAt s.heap) vs nss →
    (∀ fs : List (Option Value), fs.map (·.isSome) = nss.map (fun ss => !ss.isEmpty) → (∀ u, some u ∈ fs → ∃ x t, u = Value.str x t) → Q fs s) → wpAny M A (vs.mapM firstOfTuple') Q E s
  | _, _, Q, .nil, q => by rw [List.mapM_nil]; exact wpAny_pure (q [] rfl fun _ h => nomatch h)
  | _, _, Q, .cons h t, q => by
    rw [List.mapM_cons]
    refine wpAny_bind (first_one h fun f h1 h2 => ?_)
    refine wpAny_bind (first_all (Q := fun bs s' => wpAny M A (pure (f :: bs)) Q E s') t fun fs h3 h4 => wpAny_pure (q _ ?_ ?_))
    · rw [List.map_cons, List.map_cons, h1, h3]
    · intro u hu
      rcases List.mem_cons.mp hu with e | hu
      · exact h2 u e.symm
      · exact h4 u hu
def kdSS (nss : List (List Str)) : SortKind := if nss.all (fun ss => !ss.isEmpty) = true then tuples' true else if (nss.head?.any fun ss => !ss.isEmpty) = true then general' else oneType'
theorem kat_of : ∀ {vs : List Value} {nss : List (List Str)}, Paired (TsAt s.heap) vs nss → nss.all (fun ss => !ss.isEmpty) = true → ∃ fs : List Value, PySem.W.KatTups s.heap vs fs ∧ fs.length = vs.length ∧ ∀ f ∈ fs, ∃ x t, f = Value.str x t
  | _, _, .nil, _ => ⟨[], .nil, rfl, fun _ h => nomatch h⟩
  | _, _, .cons h t, e => by
    rw [List.all_cons, Bool.and_eq_true] at e
    obtain ⟨fs, h1, h2, h3⟩ := kat_of t e.2
    obtain ⟨a, its, rfl, ⟨o, ho, hc, n, hd⟩, r⟩ := h
    cases r with
    | nil => exact absurd e.1 (by simp)
    | cons x k r =>
      exact ⟨_ :: fs, .cons ho hc hd (by rfl) h1, by rw [List.length_cons, List.length_cons, h2], fun f hf => (List.mem_cons.mp hf).elim (fun z => ⟨x, k, z⟩) (h3 f)⟩
theorem kind_ss {vs : List Value} {nss : List (List Str)} {Q : SortKind → Shared → Prop} (h0 : 0 < vs.length) (h : Paired (TsAt s.heap) vs nss) (q : Q (kdSS nss) s) : wpAny M A (keyKind' vs.toArray) Q E s := by
  unfold kdSS at q
  by_cases hall : nss.all (fun ss => !ss.isEmpty) = true
  · rw [if_pos hall] at q
    obtain ⟨fs, h1, h2, h3⟩ := kat_of h hall
    refine PySem.W.kat_kind (T := .type "str") h1 (by omega) (fun f hm => ?_) (by rfl) ?_
    · obtain ⟨x, t, rfl⟩ := h3 f hm
      exact PySem.W.Looks.now
    · have e : (Value.type "str" != Value.type "tuple") = true := by first | decide +kernel | rfl | decide
      rw [e]
      exact q
  · rw [if_neg hall] at q
    rw [PyProof.Rows.kat_kind_eq, List.mapM_toArray, map_eq_pure_bind]
    refine wpAny_bind (wpAny_bind (first_all h fun fs h3 h4 => wpAny_pure ?_))
    have e1 : ¬ (fs.toArray.all fun x => x.isSome) = true := by
      intro z
      apply hall
      rw [List.all_toArray] at z
      have z2 : (fs.map (fun x : Option Value => x.isSome)).all id = true := by rw [List.all_map]; exact z
      rw [h3, List.all_map] at z2
      exact z2
    rw [if_neg e1]
    cases h with
    | nil => cases h0
    | @cons v ss vs nss hv ht =>
      cases fs with
      | nil => cases h3
      | cons f fs =>
        rw [List.map_cons, List.map_cons] at h3
        injection h3 with h5 h6
        have e2 : (((f :: fs).toArray[0]?.bind id).isSome) = !ss.isEmpty := by
          rw [← h5]
          rfl
        rw [e2]
        have q : Q (if (!ss.isEmpty) = true then general' else oneType') s := q
        by_cases c : (!ss.isEmpty) = true
        · rw [if_pos c] at q ⊢
          exact wpAny_pure q
        · rw [if_neg c] at q ⊢
          have ty : ∀ u ∈ v :: vs, PySem.W.Looks M s.heap (typeOf u) (Value.type "tuple") := by
            have go : ∀ {vs : List Value} {nss : List (List Str)}, Paired (TsAt s.heap) vs nss → ∀ u ∈ vs, PySem.W.Looks M s.heap (typeOf u) (Value.type "tuple") := by
              intro vs nss p
              induction p with
              | nil => exact fun _ h => nomatch h
              | cons h t ih =>
                intro u hu
                rcases List.mem_cons.mp hu with rfl | hu
                · obtain ⟨a, its, rfl, ⟨o, ho, hc, n, hd⟩, r⟩ := h
                  have l : PySem.W.Looks M s.heap (typeOf (.ref a)) o.cls := (PySem.W.Looks.ld ho).andThen .now
                  rw [hc] at l
                  exact l
                · exact ih u hu
            exact go (.cons hv ht)
          refine wpAny_bind ?_
          rw [oneTypeOnly'_eq, List.mapM_toArray, map_eq_pure_bind]
          refine wpAny_bind (wpAny_bind (PySem.W.kas_mapM (r := Value.type "tuple") _ (fun u hu Q' hq => (ty u hu).here hq) (wpAny_pure ?_)))
          have hall2 : ((List.map (fun _ => Value.type "tuple") (v :: vs)).toArray.all fun x => x == Value.type "tuple") = true := by
            simp only [List.all_toArray, List.all_map, List.all_eq_true]
            intro _ _
            rfl
          have hz : (List.map (fun _ => Value.type "tuple") (v :: vs)).toArray[0]? = some (Value.type "tuple") := by simp
          rw [hz]
          simp only [hall2, if_true]
          exact wpAny_pure (wpAny_pure q)
end
section
variable {prog : Program} {w : World} {A : Around} {E : Value → Shared → Prop} {s : Shared}
theorem cmp_ss {vs : List Value} {nss : List (List Str)} {k : Value → List Str} (hu : A.units < cLine) (hp : ∀ v ∈ vs, TsAt s.heap v (k v)) :
    SrtO.Cmp prog w A s (kdSS nss) (fun p => p.1 ∈ vs) (SrtO.lt2 fun v u => ltSS (k v) (k u)) := by
  intro p q hm hm'
  show wpAny (model prog w) A (keyLt' (kdSS nss) p.1 q.1) (fun r s' => s' = s ∧ r = ltSS (k p.1) (k q.1)) (fun _ _ => False) s
  unfold kdSS
  split
  · exact key_tuples (hp _ hm) (hp _ hm') ⟨rfl, rfl⟩
  · split
    · exact key_general (Q := fun r s' => s' = s ∧ r = ltSS (k p.1) (k q.1)) hu (hp _ hm) (hp _ hm') ⟨rfl, rfl⟩
    · exact key_oneType (Q := fun r s' => s' = s ∧ r = ltSS (k p.1) (k q.1)) hu (hp _ hm) (hp _ hm') ⟨rfl, rfl⟩
theorem paired_map {h : Heap} {k : Value → List Str} : ∀ {vs : List Value}, (∀ v ∈ vs, TsAt h v (k v)) → Paired (TsAt h) vs (vs.map k)
  | [], _ => .nil
  | v :: vs, hp => .cons (hp v List.mem_cons_self) (paired_map fun u hu => hp u (List.mem_cons_of_mem _ hu))
theorem sortable_ss {a : Addr} {vs : List Value} {k : Value → List Str} (hu : A.units < cLine) (h0 : 0 < vs.length) (hp : ∀ v ∈ vs, TsAt s.heap v (k v)) (ha : ∀ o, s.heap.get? a = some o → o.cls ≠ .type "tuple") : SrtO.SortableO prog w A s a vs fun v u => ltSS (k v) (k u) := by
  intro h' keep
  have hp' : ∀ v ∈ vs, TsAt h' v (k v) := fun v hm => (hp v hm).keeps fun b o e c => keep b o (fun z => by subst z; exact ha o e c) e
  exact ⟨kdSS (vs.map k), fun Q E hq => kind_ss (s := { s with heap := h' }) h0 (paired_map hp') hq, cmp_ss (s := { s with heap := h' }) hu hp'⟩
end
end G9

/-! O5: sorted(xs), xs a list of tuples of texts. -/
namespace G9
open PySem PySem.Spec L2 PyProof.Rows
/-- at v: a tuple of these texts -/
def TuAt (K : PySem.W.Frag) (H : Hp) (x : V) (ss : List Str) : Prop := ∃ t, x = V.ref t ∧ SqT K H t (ss.map V.str)
theorem TsAt.inj {h : Heap} {v : Value} {ss ts : List Str} (x : TsAt h v ss) (y : TsAt h v ts) : ss = ts := by
  obtain ⟨a, its, rfl, ⟨o, ho, hc, n, hd⟩, i⟩ := x
  obtain ⟨b, its2, e, ⟨o2, ho2, hc2, n2, hd2⟩, j⟩ := y
  cases e
  rw [ho] at ho2; cases ho2
  rw [hd] at hd2; cases hd2
  have go : ∀ {us : List Value} {ss ts : List Str}, StrsAre us ss → StrsAre us ts → ss = ts := by
    intro us ss ts p q
    induction p generalizing ts with
    | nil => cases q; rfl
    | cons x k p ih => cases q with | cons y k' q => rw [ih q]
  exact go i j
def rSortedSS (K : PySem.W.Frag) : List V → Hp → VK → Prop := fun vs H Q => ∃ (a : Addr) (xs : List V) (nss : List (List Str)), vs = [V.ref a] ∧ SqL K H a xs ∧ Paired (TuAt K H) xs nss ∧
  ∀ ys mss p, Paired (TuAt K H) ys mss → mss.Perm nss → mss.Pairwise (fun a b => ltSS b a = false) → H p = none → Q (.ref p) (upd H p (.lst ys))
theorem paired_mem {α β : Type} {R : α → β → Prop} : ∀ {xs : List α} {ys : List β}, Paired R xs ys → ∀ x ∈ xs, ∃ y, R x y
  | _, _, .cons r t, x, hx => by
    rcases List.mem_cons.mp hx with rfl | hx
    · exact ⟨_, r⟩
    · exact paired_mem t x hx
section
variable {X : Cx}
theorem cr_sortedSS (hu : X.A.units + 2 < cLine) : CallR X (.builtin "sorted") (rSortedSS X.K) := by
  intro pins s σ H vs us Q I r h
  obtain ⟨a, xs, nss, rfl, hs, hx, q⟩ := h
  obtain ⟨its, rv, hl, hz⟩ := I.list hs
  obtain ⟨u, rfl, ru⟩ := vals1 r
  obtain rfl : u = Value.ref a := ru
  have tu : ∀ {t : Addr} {ss : List Str}, SqT X.K H t (ss.map V.str) → TsAt s.heap (.ref t) ss := fun ht => by
    obtain ⟨its2, r2, p2, _⟩ := I.tuple ht
    exact ⟨_, its2, rfl, p2, Vals.strs r2⟩
  obtain ⟨e1, e2⟩ := refs_back rv fun x m => by
    obtain ⟨ss, t, e, _⟩ := paired_mem hx x m
    exact ⟨t, e⟩
  classical
  let k : Value → List Str := fun v => if h : ∃ ss, TsAt s.heap v ss then h.choose else []
  have hk : ∀ {v : Value} {ss : List Str}, TsAt s.heap v ss → k v = ss := fun {v ss} h => by
    have z : ∃ ss, TsAt s.heap v ss := ⟨ss, h⟩
    show (if h : ∃ ss, TsAt s.heap v ss then h.choose else []) = ss
    rw [dif_pos z]
    exact z.choose_spec.inj h
  have all : ∀ {xs : List V} {nss : List (List Str)} {its : List Value}, Paired (TuAt X.K H) xs nss → Vals xs its → nss = its.map k ∧ ∀ v ∈ its, ∃ t, v = .ref t ∧ SqT X.K H t ((k v).map V.str) := by
    intro xs nss its p
    induction p generalizing its with
    | nil => intro r; cases r; exact ⟨rfl, fun _ h => nomatch h⟩
    | cons h t ih =>
      intro r
      cases r with
      | cons r0 r =>
        obtain ⟨i1, i2⟩ := ih r
        obtain ⟨t, rfl, ht⟩ := h
        cases r0
        have e := hk (tu ht)
        refine ⟨by rw [List.map_cons, e, i1], fun v hv => ?_⟩
        rcases List.mem_cons.mp hv with rfl | hv
        · exact ⟨t, rfl, by rw [e]; exact ht⟩
        · exact i2 v hv
  obtain ⟨en, hv⟩ := all hx rv
  have hp : ∀ v ∈ its, TsAt s.heap v (k v) := fun v hm => by
    obtain ⟨t, rfl, ht⟩ := hv v hm
    exact tu ht
  refine SrtO.sorted_ord (swo_ss k) hl.isList (by rw [← rv.length]; exact hz) (fun h2 h₁ b ha kk => ?_) fun out h1 h2 => ?_
  · refine sortable_ss (s := { s with heap := h₁ }) (k := k) (by show X.A.units + 1 + 1 < cLine; omega) (by omega) (fun v hm => (hp v hm).keeps fun b o e _ => (kk b o e).2) fun o e => ?_
    have e' : some o = some (seqObj "list" its.toArray 0) := e.symm.trans ha
    cases e'
    intro c
    exact absurd (Value.type.inj c) (by decide)
  · have h3 : ∀ u ∈ out, ∃ a, u = Value.ref a := fun u hu => e2 u (h2.perm.mem_iff.mp hu)
    obtain ⟨n, hn⟩ := sortedAll_at s.heap its out.toArray
    have pr : ∀ {out : List Value}, (∀ u ∈ out, u ∈ its) → Paired (TuAt X.K H) (out.map backV) (out.map k) := by
      intro out
      induction out with
      | nil => exact fun _ => .nil
      | cons v out ih =>
        intro m
        obtain ⟨t, e, ht⟩ := hv v (m v List.mem_cons_self)
        refine .cons ⟨t, by rw [e]; rfl, ht⟩ (ih fun u hu => m u (List.mem_cons_of_mem _ hu))
    refine ⟨.ref _, upd H _ (.lst (out.map backV)), I.laid (t' := s.toks) (fun b o e => sortedAll_old e) (Nat.le_succ _) ⟨?_, out, n, vals_back h3, hn⟩, rfl, q _ _ _ (pr fun u hu => h2.perm.mem_iff.mp hu) (by rw [en]; exact h2.perm.map k) (List.pairwise_map.mpr h1) (I.hok.fresh (Nat.le_succ _))⟩
    rw [List.length_map, h2.perm.length_eq, ← rv.length]
    exact hz
end
end G9

/-! S5: list(dict(pairs)), the keys tuples of texts. -/
namespace G9
open PySem PySem.Spec L2 PyProof.Rows
/-- one more key, where it is not yet there -/
def keyInT (acc : List (List Str)) (k : List Str) : List (List Str) := if k ∈ acc then acc else acc ++ [k]
/-- the keys of dict(pairs), each once -/
def uniqT : List PyData → List (List Str) → Option (List (List Str))
  | [], acc => some acc
  | .tuple [.tuple xs, _] :: r, acc => (strsD xs).bind fun ss => uniqT r (keyInT acc ss)
  | _, _ => none
/-- the key as the kit tells it -/
def nk (ss : List Str) : NestedKey := .tup (ss.map .text)
theorem text_inj : ∀ {a b : List Str}, a.map NestedKey.text = b.map NestedKey.text → a = b
  | [], [], _ => rfl
  | [], _ :: _, e => by simp at e
  | _ :: _, [], e => by simp at e
  | x :: a, y :: b, e => by
    simp only [List.map_cons, List.cons.injEq, NestedKey.text.injEq] at e
    rw [e.1, text_inj e.2]
theorem nk_inj {a b : List Str} (h : nk a = nk b) : a = b := by
  unfold nk at h
  exact text_inj (NestedKey.tup.inj h)
theorem nk_depth (ss : List Str) : (nk ss).depth ≤ 8 := by
  have go : ∀ ss : List Str, NestedKey.depthAll (ss.map NestedKey.text) ≤ 2 := by
    intro ss
    induction ss with
    | nil => simp [NestedKey.depthAll]
    | cons x xs ih =>
      simp only [List.map_cons, NestedKey.depthAll, NestedKey.depth]
      omega
  have z := go ss
  unfold nk
  simp only [NestedKey.depth]
  omega
theorem nk_all {h : Heap} : ∀ {us : List Value} {ss : List Str}, StrsAre us ss → NestedAll h (ss.map .text) us
  | _, _, .nil => .nil
  | _, _, .cons x t r => .cons (.text x t) (nk_all r)
theorem nk_is {P : Program} {w : World} {h : Heap} {a : Addr} {ss : List Str} (t : TsAt h (.ref a) ss) : (nestedKind P w).is h (nk ss) a := by
  obtain ⟨b, its, e, ⟨o, ho, hc, n, hd⟩, q⟩ := t
  cases e
  exact ⟨.tup ho hc hd (by simpa using nk_all q), nk_depth ss⟩
/-- a raw dict at d, its keys stand at bs -/
def DKO (d : Addr) (bs : List Addr) : HO := .ext fun h => (d == sysModules) = false ∧ ∃ es ep, h.DictRaw d es ep ∧ es.size = bs.length ∧ ∀ i (hi : i < es.size), ∃ b, bs[i]? = some b ∧ es[i].key = .ref b
section
variable {K : PySem.W.Frag} {H : Hp}
theorem stored_pair {xs : List (NestedKey × Addr × Value)} {acc : List (List Str)} {ss : List Str} {a : Addr} {v : Value} (p : Paired (fun x s => x.1 = nk s ∧ TuAt K H (.ref x.2.1) s) xs acc) (ha : TuAt K H (.ref a) ss) :
    Paired (fun x s => x.1 = nk s ∧ TuAt K H (.ref x.2.1) s) (storedH xs (nk ss) a v) (keyInT acc ss) := by
  have iff : (atKey xs (nk ss)).isSome = true ↔ ss ∈ acc := by
    unfold atKey
    rw [Option.isSome_map, List.find?_isSome]
    constructor
    · rintro ⟨x, hx, e⟩
      have e := of_decide_eq_true e
      induction p with
      | nil => cases hx
      | cons h t ih =>
        rcases List.mem_cons.mp hx with rfl | hx
        · rw [h.1] at e
          rw [nk_inj e]
          exact List.mem_cons_self
        · exact List.mem_cons_of_mem _ (ih hx)
    · intro hs
      induction p with
      | nil => cases hs
      | cons h t ih =>
        rcases List.mem_cons.mp hs with rfl | hs
        · exact ⟨_, List.mem_cons_self, decide_eq_true h.1⟩
        · obtain ⟨x, hx, e⟩ := ih hs
          exact ⟨x, List.mem_cons_of_mem _ hx, e⟩
  unfold storedH keyInT
  by_cases hs : ss ∈ acc
  · rw [if_pos (iff.mpr hs), if_pos hs]
    clear iff
    clear hs
    induction p with
    | nil => exact .nil
    | cons h t ih =>
      refine .cons ?_ ih
      unfold putAt
      split <;> exact h
  · rw [if_neg (fun z => hs (iff.mp z)), if_neg hs]
    clear iff
    clear hs
    induction p with
    | nil => exact .cons ⟨rfl, ha⟩ .nil
    | cons h t ih => exact .cons h ih
theorem all_pair : ∀ {ps : List (NestedKey × Addr × Value)} {kss : List (List Str)} {xs : List (NestedKey × Addr × Value)} {acc : List (List Str)}, Paired (fun x s => x.1 = nk s ∧ TuAt K H (.ref x.2.1) s) ps kss → Paired (fun x s => x.1 = nk s ∧ TuAt K H (.ref x.2.1) s) xs acc →
    Paired (fun x s => x.1 = nk s ∧ TuAt K H (.ref x.2.1) s) (storedAllH xs ps) (kss.foldl keyInT acc)
  | _, _, _, _, .nil, q => q
  | (k, a, v) :: ps, ss :: kss, xs, acc, .cons h t, q => by
    obtain ⟨h1, h2⟩ := h
    have h1 : k = nk ss := h1
    subst h1
    exact all_pair (ps := ps) (kss := kss) (xs := storedH xs (nk ss) a v) (acc := keyInT acc ss) t (stored_pair q h2)
end
/-- dict(pairs) -/
def rDictT (K : PySem.W.Frag) : List V → Hp → VK → Prop := fun xs H Q => ∃ (a : Addr) (ps : List Addr) (kss : List (List Str)), xs = [.ref a] ∧ SqL K H a (ps.map V.ref) ∧ Paired (fun p ss => ∃ t v, SqT K H p [V.ref t, v] ∧ SqT K H t (ss.map V.str)) ps kss ∧
  ∀ d bs, H d = none → Paired (TuAt K H) (bs.map V.ref) (kss.foldl keyInT []) → bs.length ≤ sizeLine → Q (.ref d) (upd H d (DKO d bs))
def rListT : List V → Hp → VK → Prop := fun xs H Q => ∃ d bs, xs = [.ref d] ∧ H d = some (DKO d bs) ∧ bs.length ≤ sizeLine ∧ ∀ p, H p = none → Q (.ref p) (upd H p (.lst (bs.map V.ref)))
section
variable {X : Cx}
theorem pairsT {pins : List (Addr × Obj)} {σ : L2.St} {H : Hp} {s : Shared} (I : Inv X pins σ H s) : ∀ {ps : List Addr} {kss : List (List Str)}, Paired (fun p ss => ∃ t v, SqT X.K H p [V.ref t, v] ∧ SqT X.K H t (ss.map V.str)) ps kss →
    ∃ qs : List (NestedKey × Addr × Value), Paired (fun x ss => x.1 = nk ss ∧ TuAt X.K H (.ref x.2.1) ss) qs kss ∧ (∀ x ∈ qs, (nestedKind X.prog X.w).is s.heap x.1 x.2.1) ∧ qs.length = ps.length ∧
      ∀ (j : Nat) (b : Addr), ps[j]? = some b → ∃ x, qs[j]? = some x ∧ s.heap.IsTuple b #[.ref x.2.1, x.2.2]
  | _, _, .nil => ⟨[], .nil, (fun _ h => nomatch h), rfl, fun j b e => by simp at e⟩
  | p :: ps, ss :: kss, .cons h r => by
    obtain ⟨t, v, h1, h2⟩ := h
    obtain ⟨qs, a1, a2, a3, a4⟩ := pairsT I r
    obtain ⟨its, rv, ht, _⟩ := I.tuple h1
    obtain ⟨its2, rv2, ht2, _⟩ := I.tuple h2
    obtain ⟨u, y, rfl, ru, ry⟩ := vals2 rv
    obtain rfl : u = Value.ref t := ru
    refine ⟨(nk ss, t, y) :: qs, .cons ⟨rfl, t, rfl, h2⟩ a1, fun x hx => ?_, by rw [List.length_cons, List.length_cons, a3], fun j b e => ?_⟩
    · rcases List.mem_cons.mp hx with rfl | hx
      · exact nk_is ⟨t, its2, rfl, ht2, Vals.strs rv2⟩
      · exact a2 x hx
    · cases j with
      | zero =>
        have e : p = b := Option.some.inj e
        subst e
        exact ⟨_, rfl, ht⟩
      | succ j =>
        obtain ⟨x, e1, e2⟩ := a4 j b (by simpa using e)
        exact ⟨x, by simpa using e1, e2⟩
theorem call_dictT (hc : X.calm = true) (hu : X.A.units + 65 < cLine) : CallR X (.type "dict") (rDictT X.K) := by
  intro pins s σ H xs us Q I r h
  obtain ⟨a, ps, kss, rfl, ha, hp, q⟩ := h
  obtain ⟨u, rfl, rx⟩ := vals1 r
  obtain rfl : u = Value.ref a := rx
  obtain ⟨its, rv, pl, hz⟩ := I.list ha
  obtain rfl := refs_at rv
  rw [List.length_map] at hz
  obtain ⟨qs, a1, a2, a3, a4⟩ := pairsT I hp
  obtain ⟨o, n, ho, hcl, hd, hdat⟩ := pl
  let prs : List (Value × Value) := qs.map fun x => (.ref x.2.1, x.2.2)
  have hlen : prs.length = ps.length := by rw [List.length_map, a3]
  have st := nestedKind_stays (prog := X.prog) (w := X.w)
  have all := all_pair a1 (xs := []) (acc := []) .nil
  refine call_dict_pairsH (knd := nestedKind X.prog X.w) (ps := qs) (wr := []) (PairArg.list a (ps.map Value.ref).toArray (fun j => ps.getD j 0) prs) (I.ok.hd hc) ?_ ⟨⟨o, n, ho, hcl, hd, hdat⟩, by rw [List.size_toArray, List.length_map, hlen], fun j k v hj => ?_⟩ ⟨hlen ▸ a3, fun i key v e => ?_⟩
    (fun h' hk x hx => st.all h' (fun b o _ e => hk b o (Nat.ne_of_lt (Heap.lt_size e)) (fun z => nomatch z) e) _ _ (a2 x hx)) (by rw [hlen]; exact hz) fun h' tk hd' hk => ?_
  · show X.A.units + 2 + 8 < cLine
    omega
  · rw [List.getElem?_map] at hj
    cases e : qs[j]? with
    | none => rw [e] at hj; cases hj
    | some x =>
      rw [e] at hj
      cases hj
      have lt : j < ps.length := by rw [← a3]; exact (List.getElem?_eq_some_iff.mp e).1
      have e2 : ps[j]? = some (ps.getD j 0) := by rw [List.getD_eq_getElem?_getD, List.getElem?_eq_getElem lt]; rfl
      obtain ⟨x', e3, e4⟩ := a4 j _ e2
      rw [e] at e3
      cases e3
      refine ⟨?_, .inl e4⟩
      rw [List.getElem?_toArray, List.getElem?_map, e2]
      rfl
  · have e : prs[i]? = some (key, v) := e
    rw [List.getElem?_map] at e
    cases e2 : qs[i]? with
    | none => rw [e2] at e; cases e
    | some x =>
      rw [e2] at e
      cases e
      exact ⟨x.1, x.2.1, rfl, rfl⟩
  · obtain ⟨es, ep, r1, r2, r3⟩ := hd'.raw
    have hb : (storedAllH [] qs).length ≤ sizeLine := by
      have z := storedAllH_length qs []
      rw [List.length_nil, a3] at z
      omega
    refine ⟨.ref s.heap.objs.size, upd H s.heap.objs.size (DKO s.heap.objs.size ((storedAllH [] qs).map fun x => x.2.1)), I.laid (t' := tk) (fun b o e => hk b o (fun z => nomatch z) e) (Nat.le_refl _) ⟨⟨beq_eq_false_iff_ne.mpr (Nat.ne_of_gt I.big), es, ep, r1, by rw [List.length_map]; exact r2, fun i hi => ?_⟩, ?_, fun h1 h2 p k => ?_⟩, rfl, q _ _ (I.hok.fresh (Nat.le_refl _)) ?_ (by rw [List.length_map]; exact hb)⟩
    · obtain ⟨y, e1, e2, _⟩ := r3 i hi
      exact ⟨y.2.1, by rw [List.getElem?_map, e1]; rfl, e2⟩
    · obtain ⟨o, ho, _⟩ := r1
      exact ⟨o, ho⟩
    · obtain ⟨z, es, ep, q1, q2⟩ := p
      exact ⟨z, es, ep, q1.at k, q2⟩
    · generalize storedAllH [] qs = ys at all
      generalize kss.foldl keyInT [] = zs at all
      induction all with
      | nil => exact .nil
      | cons h t ih => exact .cons h.2 ih
theorem call_listT (hc : X.calm = true) : CallR X (.type "list") rListT := by
  intro pins s σ H xs us Q I r h
  obtain ⟨d, bs, rfl, hd, hz, q⟩ := h
  obtain ⟨u, rfl, rx⟩ := vals1 r
  obtain rfl : u = Value.ref d := rx
  obtain ⟨z, es, ep, r1, r2, r3⟩ := (I.hok d _ hd).1
  refine PySem.W.kdl_call (KdlSrc.rawDict z (es := es) (ep := ep)) (I.ok.hd hc) r1 (by omega) fun h' tk acc c kp e it => ?_
  have ea : acc.toList = bs.map Value.ref := by
    refine List.ext_getElem? fun j => ?_
    rw [List.getElem?_map, Array.getElem?_toList]
    by_cases hj : j < es.size
    · have hj' : j < acc.size := by rw [it.1]; exact hj
      rw [Array.getElem?_eq_getElem hj']
      obtain ⟨hi, e1⟩ := it.2 j _ (Array.getElem?_eq_getElem hj')
      obtain ⟨b, e2, e3⟩ := r3 j hi
      rw [e1, e3, e2]
      rfl
    · rw [Array.getElem?_eq_none (by rw [it.1]; omega), List.getElem?_eq_none (by omega)]
      rfl
  have rv : Vals (bs.map V.ref) acc.toList := by rw [ea]; exact vals_refs _
  refine ⟨.ref s.heap.objs.size, _, I.laid (t' := tk) (o := .lst (bs.map V.ref)) kp (Nat.le_refl _) ⟨by rw [List.length_map]; exact hz, acc.toList, c, rv, by rw [Array.toArray_toList]; exact e⟩, rfl, q _ (I.hok.fresh (Nat.le_refl _))⟩
end
theorem uniqT_go {K : PySem.W.Frag} {H : Hp} {M : List Addr} : ∀ {xs : List PyData} {vs : List V} {acc ks : List (List Str)}, RepL K H M vs xs → uniqT xs acc = some ks →
    ∃ (ps : List Addr) (kss : List (List Str)), vs = ps.map V.ref ∧ Paired (fun p ss => ∃ t v, SqT K H p [V.ref t, v] ∧ SqT K H t (ss.map V.str)) ps kss ∧ kss.foldl keyInT acc = ks
  | [], _, acc, ks, .nil, e => by cases e; exact ⟨[], [], rfl, .nil, rfl⟩
  | .tuple [.tuple ys, d] :: xs, _, acc, ks, .cons r t, e => by
    have e : (strsD ys).bind (fun ss => uniqT xs (keyInT acc ss)) = some ks := e
    cases q0 : strsD ys with
    | none => rw [q0] at e; cases e
    | some ss =>
      rw [q0] at e
      have e : uniqT xs (keyInT acc ss) = some ks := e
      obtain ⟨ps, kss, h1, h2, h3⟩ := uniqT_go t e
      cases r with
      | tup hs q =>
        cases q with
        | cons q1 q2 =>
          cases q2 with
          | cons q2 q3 =>
            cases q3
            cases q1 with
            | tup ht qt =>
              rw [strsD_inv q0] at qt
              rw [qt.strs] at ht
              exact ⟨_ :: ps, ss :: kss, by rw [h1]; rfl, .cons ⟨_, _, hs, ht⟩ h2, h3⟩
  | .none :: _, _, _, _, .cons _ _, e => by cases e
  | .bool _ :: _, _, _, _, .cons _ _, e => by cases e
  | .int _ :: _, _, _, _, .cons _ _, e => by cases e
  | .str _ :: _, _, _, _, .cons _ _, e => by cases e
  | .list _ :: _, _, _, _, .cons _ _, e => by cases e
  | .dict _ :: _, _, _, _, .cons _ _, e => by cases e
  | .tuple [] :: _, _, _, _, .cons _ _, e => by cases e
  | .tuple [x] :: _, _, _, _, .cons _ _, e => by cases x <;> cases e
  | .tuple (.tuple _ :: _ :: _ :: _) :: _, _, _, _, .cons _ _, e => by cases e
  | .tuple (.none :: _ :: _) :: _, _, _, _, .cons _ _, e => by cases e
  | .tuple (.bool _ :: _ :: _) :: _, _, _, _, .cons _ _, e => by cases e
  | .tuple (.int _ :: _ :: _) :: _, _, _, _, .cons _ _, e => by cases e
  | .tuple (.list _ :: _ :: _) :: _, _, _, _, .cons _ _, e => by cases e
  | .tuple (.str _ :: _ :: _) :: _, _, _, _, .cons _ _, e => by cases e
  | .tuple (.dict _ :: _ :: _) :: _, _, _, _, .cons _ _, e => by cases e
end G9

/-! S7: sorted of a tuple, of a dict: texts, tuples of texts. -/
namespace G9
open PySem PySem.Spec L2 PyProof.Rows
/-- gathering the items of arg gives vs -/
def Col (P : Program) (w : World) (A : Around) (s : Shared) (arg : Value) (vs : List Value) : Prop := ∀ (E : Value → Shared → Prop) (Q : List Value → Shared → Prop),
  (∀ h' tk, (∀ b o, s.heap.get? b = some o → h'.get? b = some o) → Q vs { s with heap := h', toks := tk }) → wpAny (model P w) A (collect arg) Q E s
section
variable {X : Cx} {pins : List (Addr × Obj)} {σ : L2.St} {H : Hp} {s : Shared} {arg : Value} {its : List Value} {Q : VK}
theorem sortS_go {ss : List Str} (I : Inv X pins σ H s) (hc : Col X.prog X.w X.A.in1 s arg its) (hS : StrsAre its ss) (h64 : ss.length < 64) (q : ∀ ys p, ys.Perm ss → sortedS ys = true → H p = none → Q (.ref p) (upd H p (.lst (ys.map V.str)))) :
    wpAny (model X.prog X.w) X.A (call (.builtin "sorted") [arg]) (EP X pins σ Q) X.xe s := by
  have hl : its.length = ss.length := hS.length
  refine Calls.call_function_entry kind_sorted plain_sorted entry_sorted (args_sorted1 _) ?_
  unfold Builtin.«sorted»
  refine wpAny_bind (m := checkCount "sorted" 1 1 _) (wpAny_pure (wpAny_bind (hc _ _ fun h1 tk k1 => ?_)))
  have I1 : Inv X pins σ H { s with heap := h1, toks := tk } := I.kept k1
  refine wpAny_bind (wpAny_newList ?_ (by rw [hl, sizeLine_eq]; omega))
  have hL : (h1.push (seqObj "list" its.toArray 0)).get? h1.objs.size = some (seqObj "list" its.toArray 0) := Heap.get?_push_size _ rfl
  refine wpAny_bind (wpAny_holding (wpAny_call_entry slot_list_sort ⟨_, hL, rfl⟩ entry_list_sort
    (list_sort_treeK strKind_oneLt (s := { s with heap := h1.push (seqObj "list" its.toArray 0), toks := tk }) hL hS.keysOf (fun v₁ v₂ rest e => keyKind_strs (by rw [← e]; exact hS)) (by rw [hl]; exact h64) fun st hp hs => ⟨_, rfl, ?_⟩) (args_list_sort _)))
  obtain ⟨ys, a1, a2, a3⟩ := sorted_out_str hS hp hs
  obtain ⟨c, hc'⟩ := sortedHeap_at (vs := its) (out := (arrOf st).map (·.2)) hL
  refine wpAny_pure ⟨_, rfl, .ref h1.objs.size, upd H h1.objs.size (.lst (ys.map V.str)), I1.laid (t' := tk) (fun b o e => ?_) (Nat.le_refl _) ⟨?_, _, c, vals_of_strs a1, by rw [Array.toArray_toList]; exact hc'⟩, rfl, q ys _ a2 a3 (I1.hok.fresh (Nat.le_refl _))⟩
  · have lt : b < h1.objs.size := Heap.lt_size e
    rw [sortedHeap_old (Nat.ne_of_lt lt) (by rw [size_push']; exact Nat.lt_succ_of_lt lt)]
    exact Heap.get?_push_of_some _ e
  · rw [List.length_map, a2.length_eq, sizeLine_eq]
    omega
theorem sortSS_go {vs : List V} {nss : List (List Str)} (hu : X.A.units + 2 < cLine) (I : Inv X pins σ H s) (hcol : Col X.prog X.w X.A.in1 s arg its) (rv : Vals vs its) (hz : vs.length ≤ sizeLine) (hx : Paired (TuAt X.K H) vs nss)
    (q : ∀ ys mss p, Paired (TuAt X.K H) ys mss → mss.Perm nss → mss.Pairwise (fun a b => ltSS b a = false) → H p = none → Q (.ref p) (upd H p (.lst ys))) :
    wpAny (model X.prog X.w) X.A (call (.builtin "sorted") [arg]) (EP X pins σ Q) X.xe s := by
  have tu : ∀ {t : Addr} {ss : List Str}, SqT X.K H t (ss.map V.str) → TsAt s.heap (.ref t) ss := fun ht => by
    obtain ⟨its2, r2, p2, _⟩ := I.tuple ht
    exact ⟨_, its2, rfl, p2, Vals.strs r2⟩
  obtain ⟨e1, e2⟩ := refs_back rv fun x m => by
    obtain ⟨ss, t, e, _⟩ := paired_mem hx x m
    exact ⟨t, e⟩
  classical
  let k : Value → List Str := fun v => if h : ∃ ss, TsAt s.heap v ss then h.choose else []
  have hk : ∀ {v : Value} {ss : List Str}, TsAt s.heap v ss → k v = ss := fun {v ss} h => by
    have z : ∃ ss, TsAt s.heap v ss := ⟨ss, h⟩
    show (if h : ∃ ss, TsAt s.heap v ss then h.choose else []) = ss
    rw [dif_pos z]
    exact z.choose_spec.inj h
  have all : ∀ {xs : List V} {nss : List (List Str)} {its : List Value}, Paired (TuAt X.K H) xs nss → Vals xs its → nss = its.map k ∧ ∀ v ∈ its, ∃ t, v = .ref t ∧ SqT X.K H t ((k v).map V.str) := by
    intro xs nss its p
    induction p generalizing its with
    | nil => intro r; cases r; exact ⟨rfl, fun _ h => nomatch h⟩
    | cons h t ih =>
      intro r
      cases r with
      | cons r0 r =>
        obtain ⟨i1, i2⟩ := ih r
        obtain ⟨t, rfl, ht⟩ := h
        cases r0
        have e := hk (tu ht)
        refine ⟨by rw [List.map_cons, e, i1], fun v hv => ?_⟩
        rcases List.mem_cons.mp hv with rfl | hv
        · exact ⟨t, rfl, by rw [e]; exact ht⟩
        · exact i2 v hv
  obtain ⟨en, hv⟩ := all hx rv
  have hp : ∀ v ∈ its, TsAt s.heap v (k v) := fun v hm => by
    obtain ⟨t, rfl, ht⟩ := hv v hm
    exact tu ht
  have hl := rv.length
  refine Calls.call_function_entry kind_sorted plain_sorted entry_sorted (args_sorted1 _) ?_
  unfold Builtin.«sorted»
  refine wpAny_bind (m := checkCount "sorted" 1 1 _) (wpAny_pure (wpAny_bind (hcol _ _ fun h1 tk k1 => ?_)))
  have I1 : Inv X pins σ H { s with heap := h1, toks := tk } := I.kept k1
  refine wpAny_bind (wpAny_newList ?_ (by rw [← hl]; exact hz))
  have hL : (h1.push (seqObj "list" its.toArray 0)).get? h1.objs.size = some (seqObj "list" its.toArray 0) := Heap.get?_push_size _ rfl
  refine wpAny_bind (wpAny_holding (wpAny_call_entry slot_list_sort ⟨_, hL, rfl⟩ entry_list_sort
    (SrtO.list_sort_ord (s := { s with heap := h1.push (seqObj "list" its.toArray 0), toks := tk }) (swo_ss k) hL (by rw [← hl]; exact hz) (fun h2 => ?_) fun out g1 g2 => ⟨_, rfl, ?_⟩) (args_list_sort _)))
  · refine sortable_ss (s := { s with heap := h1.push (seqObj "list" its.toArray 0), toks := tk }) (k := k) (by show X.A.units + 1 + 1 < cLine; omega) (by omega) (fun v hm => (hp v hm).keeps fun b o e _ => Heap.get?_push_of_some _ (k1 b o e)) fun o e => ?_
    have e' : some o = some (seqObj "list" its.toArray 0) := e.symm.trans hL
    cases e'
    intro c
    exact absurd (Value.type.inj c) (by decide)
  · have h3 : ∀ u ∈ out, ∃ a, u = Value.ref a := fun u hu => e2 u (g2.perm.mem_iff.mp hu)
    obtain ⟨c, hc'⟩ := sortedHeap_at (vs := its) (out := out.toArray) hL
    have pr : ∀ {out : List Value}, (∀ u ∈ out, u ∈ its) → Paired (TuAt X.K H) (out.map backV) (out.map k) := by
      intro out
      induction out with
      | nil => exact fun _ => .nil
      | cons v out ih =>
        intro m
        obtain ⟨t, e, ht⟩ := hv v (m v List.mem_cons_self)
        exact .cons ⟨t, by rw [e]; rfl, ht⟩ (ih fun u hu => m u (List.mem_cons_of_mem _ hu))
    refine wpAny_pure ⟨_, rfl, .ref h1.objs.size, upd H h1.objs.size (.lst (out.map backV)), I1.laid (t' := tk) (fun b o e => ?_) (Nat.le_refl _) ⟨?_, out, c, vals_back h3, hc'⟩, rfl, q _ _ _ (pr fun u hu => g2.perm.mem_iff.mp hu) (by rw [en]; exact g2.perm.map k) (List.pairwise_map.mpr g1) (I1.hok.fresh (Nat.le_refl _))⟩
    · have lt : b < h1.objs.size := Heap.lt_size e
      rw [sortedHeap_old (Nat.ne_of_lt lt) (by rw [size_push']; exact Nat.lt_succ_of_lt lt)]
      exact Heap.get?_push_of_some _ e
    · rw [List.length_map, g2.perm.length_eq, ← hl]
      exact hz
theorem col_tuple {a : Addr} {items : Array Value} (h : ∃ o, s.heap.get? a = some o ∧ o.cls = .type "tuple" ∧ ∃ n, o.data = .seq items n) (hz : items.size ≤ sizeLine) {A : Around} : Col X.prog X.w A s (.ref a) items.toList := by
  obtain ⟨o, ho, hc, n, hd⟩ := h
  exact fun E Q q => wpAny_collect_seq a (.inr rfl) ho hc hd (fun h' k => q h' s.toks k) hz
/-- sorted of a tuple -/
def rSortTu (K : PySem.W.Frag) : List V → Hp → VK → Prop := fun vs H Q => ∃ (a : Addr) (xs : List V), vs = [V.ref a] ∧ SqT K H a xs ∧
  ((∃ ss : List Str, xs = ss.map V.str ∧ ss.length < 64 ∧ ∀ ys p, ys.Perm ss → sortedS ys = true → H p = none → Q (.ref p) (upd H p (.lst (ys.map V.str)))) ∨
    ∃ nss, Paired (TuAt K H) xs nss ∧ ∀ ys mss p, Paired (TuAt K H) ys mss → mss.Perm nss → mss.Pairwise (fun a b => ltSS b a = false) → H p = none → Q (.ref p) (upd H p (.lst ys)))
theorem cr_sortTu (hu : X.A.units + 2 < cLine) : CallR X (.builtin "sorted") (rSortTu X.K) := by
  intro pins s σ H vs us Q I r h
  obtain ⟨a, xs, rfl, ha, h⟩ := h
  obtain ⟨its, rv, ht, hz⟩ := I.tuple ha
  rw [Vals.ref1 r]
  have hsz : its.toArray.size ≤ sizeLine := by rw [List.size_toArray, ← rv.length]; exact hz
  have col := col_tuple (X := X) (A := X.A.in1) (s := s) ht hsz
  rcases h with ⟨ss, rfl, h64, q⟩ | ⟨nss, hp, q⟩
  · exact sortS_go I col (Vals.strs rv) h64 q
  · exact sortSS_go hu I col rv hz hp q
/-- sorted of a dict with keys that are tuples of texts -/
def rSortDT (K : PySem.W.Frag) : List V → Hp → VK → Prop := fun xs H Q => ∃ (d : Addr) (bs : List Addr) (nss : List (List Str)), xs = [.ref d] ∧ H d = some (DKO d bs) ∧ bs.length ≤ sizeLine ∧ Paired (TuAt K H) (bs.map V.ref) nss ∧
  ∀ ys mss p, Paired (TuAt K H) ys mss → mss.Perm nss → mss.Pairwise (fun a b => ltSS b a = false) → H p = none → Q (.ref p) (upd H p (.lst ys))
theorem cr_sortDT (hc : X.calm = true) (hu : X.A.units + 2 < cLine) : CallR X (.builtin "sorted") (rSortDT X.K) := by
  intro pins s σ H vs us Q I r h
  obtain ⟨d, bs, nss, rfl, hd, hz, hp, q⟩ := h
  rw [Vals.ref1 r]
  obtain ⟨z, es, ep, r1, r2, r3⟩ := (I.hok d _ hd).1
  refine sortSS_go (its := bs.map Value.ref) hu I (fun E R qq => PySem.W.kdu_collect (KdlSrc.rawDict z (es := es) (ep := ep)) (I.ok.hd hc) r1 (by omega) fun h' tk acc k it => ?_) (vals_refs bs) (by rw [List.length_map]; exact hz) hp q
  have ea : acc.toList = bs.map Value.ref := by
    refine List.ext_getElem? fun j => ?_
    rw [List.getElem?_map, Array.getElem?_toList]
    by_cases hj : j < es.size
    · have hj' : j < acc.size := by rw [it.1]; exact hj
      rw [Array.getElem?_eq_getElem hj']
      obtain ⟨hi, e1⟩ := it.2 j _ (Array.getElem?_eq_getElem hj')
      obtain ⟨b, e2, e3⟩ := r3 j hi
      rw [e1, e3, e2]
      rfl
    · rw [Array.getElem?_eq_none (by rw [it.1]; omega), List.getElem?_eq_none (by omega)]
      rfl
  rw [ea]
  exact qq h' tk k
end
end G9

/-! M8: built-ins, isinstance, methods, calls of defs, over wants. -/
namespace G9
open PySem PySem.Spec L2 PyProof.Rows
def Bi.val : Bi → Option Value
  | .len => some (.builtin "len")
  | .list => some (.type "list")
  | .tuple => some (.type "tuple")
  | .sum => some (.builtin "sum")
  | .all => some (.builtin "all")
  | .any => some (.builtin "any")
  | .range => none
  | .repr => some (.builtin "repr")
  | .str => some (.type "str")
  | .int => some (.type "int")
  | .sorted => some (.builtin "sorted")
/-- len of a list, a tuple, a text -/
def rLenA (K : PySem.W.Frag) : List V → Hp → VK → Prop := fun xs H Q => (∃ p ys, xs = [.ref p] ∧ (SqL K H p ys ∨ SqT K H p ys) ∧ Q (.int ys.length) H) ∨ ∃ z, xs = [.str z] ∧ z.length ≤ sizeLine ∧ Q (.int z.length) H
def rSortA (K : PySem.W.Frag) : List V → Hp → VK → Prop := fun xs H Q => rSorted K xs H Q ∨ (rSortedS K xs H Q ∨ (rSortedSS K xs H Q ∨ rSortTu K xs H Q))
/-- list of a list, a tuple, a text -/
def rLstA (K : PySem.W.Frag) : List V → Hp → VK → Prop := fun xs H Q => (∃ p ys, xs = [.ref p] ∧ (SqL K H p ys ∨ SqT K H p ys) ∧ ∀ l, H l = none → Q (.ref l) (upd H l (.lst ys))) ∨ rLstTx xs H Q
def rBi (K : PySem.W.Frag) : Bi → List V → Hp → VK → Prop
  | .len => rLenA K
  | .list => rLstA K
  | .tuple => fun xs H Q => ∃ p ys, xs = [.ref p] ∧ ((SqL K H p ys ∧ ∀ l, H l = none → Q (.ref l) (upd H l (.tup ys))) ∨ (SqT K H p ys ∧ Q (.ref p) H))
  | .sum => fun vs H Q => rSum K vs H Q ∨ rSumTu K vs H Q
  | .all => rAll K
  | .any => rAny K
  | .range => fun _ _ _ => False
  | .repr => rRepr K
  | .str => fun xs H Q => ∃ i, xs = [.int i] ∧ i.natAbs.log2 < 1920 ∧ Q (.str (toString i)) H
  | .int => fun xs H Q => (∃ i, xs = [.int i] ∧ Q (.int i) H) ∨ ∃ k, xs = [.bl k] ∧ Q (.int (if k then 1 else 0)) H
  | .sorted => rSortA K
section
variable {K : PySem.W.Frag} {H : Hp} {M : List Addr}
theorem tups_paired : ∀ {vs : List V} {xs : List PyData} {nss : List (List Str)}, RepL K H M vs xs → tupsD xs = some nss → Paired (TuAt K H) vs nss
  | _, [], _, r, e => by cases e; cases r; exact .nil
  | _, .tuple ys :: xs, _, r, e => by
    have e : (strsD ys).bind (fun ss => (tupsD xs).map (ss :: ·)) = some _ := e
    cases q : strsD ys with
    | none => rw [q] at e; cases e
    | some ss =>
      rw [q] at e
      have e : (tupsD xs).map (ss :: ·) = some _ := e
      cases q2 : tupsD xs with
      | none => rw [q2] at e; cases e
      | some tt =>
        rw [q2] at e; cases e
        cases r with
        | cons r0 r1 =>
          refine .cons ?_ (tups_paired r1 q2)
          cases r0 with
          | tup h r2 =>
            rw [strsD_inv q] at r2
            exact ⟨_, rfl, by rw [← r2.strs]; exact h⟩
  | _, .none :: _, _, _, e | _, .bool _ :: _, _, _, e | _, .int _ :: _, _, _, e | _, .str _ :: _, _, _, e | _, .list _ :: _, _, _, e | _, .dict _ :: _, _, _, e => by cases e
theorem RepL.of_tups : ∀ {ys : List V} {mss : List (List Str)}, Paired (TuAt K H) ys mss → RepL K H M ys (mss.map tupS)
  | _, _, .nil => .nil
  | _, _, .cons ⟨t, e, h⟩ r => by subst e; exact .cons (Rep.tup h (RepL.of_strs _)) (RepL.of_tups r)
end
theorem intsD_map : ∀ {xs : List PyData} {ns : List Int}, intsD xs = some ns → xs = ns.map .int
  | [], _, e => by cases e; rfl
  | .int i :: r, _, e => by
    have e : (intsD r).map (i :: ·) = some _ := e
    cases q : intsD r with
    | none => rw [q] at e; cases e
    | some ms => rw [q] at e; cases e; rw [intsD_map q]; rfl
  | .none :: r, _, e => by cases e
  | .bool _ :: r, _, e => by cases e
  | .str _ :: r, _, e => by cases e
  | .list _ :: r, _, e => by cases e
  | .tuple _ :: r, _, e => by cases e
  | .dict _ :: r, _, e => by cases e
theorem boolsD_map : ∀ {xs : List PyData} {ns : List Bool}, boolsD xs = some ns → xs = ns.map .bool
  | [], _, e => by cases e; rfl
  | .bool i :: r, _, e => by
    have e : (boolsD r).map (i :: ·) = some _ := e
    cases q : boolsD r with
    | none => rw [q] at e; cases e
    | some ms => rw [q] at e; cases e; rw [boolsD_map q]; rfl
  | .none :: r, _, e => by cases e
  | .int _ :: r, _, e => by cases e
  | .str _ :: r, _, e => by cases e
  | .list _ :: r, _, e => by cases e
  | .tuple _ :: r, _, e => by cases e
  | .dict _ :: r, _, e => by cases e
theorem strsD_map : ∀ {xs : List PyData} {ns : List Str}, strsD xs = some ns → xs = ns.map .str
  | [], _, e => by cases e; rfl
  | .str i :: r, _, e => by
    have e : (strsD r).map (i :: ·) = some _ := e
    cases q : strsD r with
    | none => rw [q] at e; cases e
    | some ms => rw [q] at e; cases e; rw [strsD_map q]; rfl
  | .none :: r, _, e => by cases e
  | .bool _ :: r, _, e => by cases e
  | .int _ :: r, _, e => by cases e
  | .list _ :: r, _, e => by cases e
  | .tuple _ :: r, _, e => by cases e
  | .dict _ :: r, _, e => by cases e
section
variable {K : PySem.W.Frag} {W : Wk} {B : List Bs} {M0 : List Addr} {ρ : En} {σ : L2.St} {H : Hp} {M : List Addr}
theorem bi_go {b : Bi} {x : PyData} {v : V} {C : PyData → Bool → Prop} {Q : VK} (G : Gd W K B M0 ρ σ H M) (r : RepPk K H M v x) (c : biS b x C) (h : ∀ z fr v' H' M', C z fr → Res W K B M0 ρ σ H' M' v' (.d z) fr → Q v' H') : rBi K b [v] H Q := by
  cases b with
  | len =>
    cases x <;> try exact (show False from c).elim
    · exact .inr ⟨_, by rw [r.str_inv], c.1, h _ _ _ _ _ c.2 (Res.int G _)⟩
    · obtain ⟨a, vs, rfl, ha, q⟩ := r.list_inv
      exact .inl ⟨a, vs, rfl, .inl (SqL.of ha), by rw [q.length]; exact h _ _ _ _ _ c (Res.int G _)⟩
    · obtain ⟨a, vs, rfl, ha, q⟩ := r.tup_inv
      exact .inl ⟨a, vs, rfl, .inr ha, by rw [q.length]; exact h _ _ _ _ _ c (Res.int G _)⟩
  | list =>
    cases x <;> try exact (show False from c).elim
    · rename_i z
      refine .inr ⟨z, by rw [r.str_inv], c.1, fun l hl => h _ _ _ _ _ c.2 (Res.new G hl ?_)⟩
      have e : (z.cps.toList.map fun c => V.str ⟨#[c]⟩) = (z.cps.toList.map fun c => (⟨#[c]⟩ : Str)).map V.str := by rw [List.map_map]; rfl
      have e2 : z.cps.toList.map sgn = (z.cps.toList.map fun c => (⟨#[c]⟩ : Str)).map PyData.str := by rw [List.map_map]; rfl
      rw [e, e2]
      exact RepL.of_strs _
    · obtain ⟨a, vs, rfl, ha, q⟩ := r.list_inv
      exact .inl ⟨a, vs, rfl, .inl (SqL.of ha), fun l hl => h _ _ _ _ _ c (Res.new G hl q)⟩
    · obtain ⟨a, vs, rfl, ha, q⟩ := r.tup_inv
      exact .inl ⟨a, vs, rfl, .inr ha, fun l hl => h _ _ _ _ _ c (Res.new G hl q)⟩
  | tuple =>
    cases x <;> try exact (show False from c).elim
    · obtain ⟨a, vs, rfl, ha, q⟩ := r.list_inv
      exact ⟨a, vs, rfl, .inl ⟨SqL.of ha, fun l hl => h _ _ _ _ _ c (Res.newT G hl q)⟩⟩
    · obtain ⟨a, vs, rfl, ha, q⟩ := r.tup_inv
      exact ⟨a, vs, rfl, .inr ⟨ha, h _ _ _ _ _ c (.of G (Rep.tup ha q))⟩⟩
  | sum =>
    cases x <;> try exact (show False from c).elim
    · obtain ⟨ns, e, c⟩ := c
      obtain ⟨a, vs, rfl, ha, q⟩ := r.list_inv
      rw [intsD_map e] at q
      rw [q.ints] at ha
      exact .inl ⟨a, ns, rfl, SqL.of ha, h _ _ _ _ _ c (Res.int G _)⟩
    · obtain ⟨ns, e, c⟩ := c
      obtain ⟨a, vs, rfl, ha, q⟩ := r.tup_inv
      rw [intsD_map e] at q
      rw [q.ints] at ha
      exact .inr ⟨a, ns, rfl, ha, h _ _ _ _ _ c (Res.int G _)⟩
  | all =>
    cases x <;> try exact (show False from c).elim
    obtain ⟨ns, e, c⟩ := c
    obtain ⟨a, vs, rfl, ha, q⟩ := r.list_inv
    rw [boolsD_map e] at q
    rw [q.bls] at ha
    exact ⟨a, ns, rfl, SqL.of ha, h _ _ _ _ _ c (Res.bool G _)⟩
  | any =>
    cases x <;> try exact (show False from c).elim
    obtain ⟨ns, e, c⟩ := c
    obtain ⟨a, vs, rfl, ha, q⟩ := r.list_inv
    rw [boolsD_map e] at q
    rw [q.bls] at ha
    exact ⟨a, ns, rfl, SqL.of ha, h _ _ _ _ _ c (Res.bool G _)⟩
  | range => cases x <;> exact (show False from c).elim
  | repr => exact ⟨v, x, M, rfl, r, G.sm, c.1, c.2.1, c.2.2.1, h _ _ _ _ _ c.2.2.2 (Res.str G _)⟩
  | str =>
    cases x <;> try exact (show False from c).elim
    exact ⟨_, by rw [r.int_inv], c.1, h _ _ _ _ _ c.2 (Res.str G _)⟩
  | int =>
    cases x <;> try exact (show False from c).elim
    · exact .inr ⟨_, by rw [r.bool_inv], h _ _ _ _ _ c (Res.int G _)⟩
    · exact .inl ⟨_, by rw [r.int_inv], h _ _ _ _ _ c (Res.int G _)⟩
  | sorted =>
    cases x <;> try exact (show False from c).elim
    · obtain ⟨a, vs, rfl, ha, q⟩ := r.list_inv
      obtain ⟨h64, c⟩ := c
      have hl := q.length
      rcases c with ⟨ns, e, c⟩ | ⟨ns, e, c⟩ | ⟨nss, e, c⟩
      · rw [intsD_map e] at q
        rw [q.ints] at ha hl
        refine .inl ⟨a, ns, rfl, SqL.of ha, ?_, fun ns' p h1 h2 hp => h _ _ _ _ _ (c ns' h1 h2) (Res.new G hp (RepL.of_ints _))⟩
        rw [List.length_map] at hl
        omega
      · rw [strsD_map e] at q
        rw [q.strs] at ha hl
        refine .inr (.inl ⟨a, ns, rfl, SqL.of ha, ?_, fun ns' p h1 h2 hp => h _ _ _ _ _ (c ns' h1 h2) (Res.new G hp (RepL.of_strs _))⟩)
        rw [List.length_map] at hl
        omega
      · exact .inr (.inr (.inl ⟨a, vs, nss, rfl, SqL.of ha, tups_paired q e, fun ys mss p h0 h1 h2 hp => h _ _ _ _ _ (c mss h1 h2) (Res.new G hp (RepL.of_tups h0))⟩))
    · obtain ⟨a, vs, rfl, ha, q⟩ := r.tup_inv
      refine .inr (.inr (.inr ⟨a, vs, rfl, ha, ?_⟩))
      rcases c with ⟨ns, e, h64, c⟩ | ⟨nss, e, c⟩
      · rw [strsD_map e] at q
        exact .inl ⟨ns, q.strs, h64, fun ns' p h1 h2 hp => h _ _ _ _ _ (c ns' h1 h2) (Res.new G hp (RepL.of_strs _))⟩
      · exact .inr ⟨nss, tups_paired q e, fun ys mss p h0 h1 h2 hp => h _ _ _ _ _ (c mss h1 h2) (Res.new G hp (RepL.of_tups h0))⟩
end
section
variable {Wp : Wk → Prop} {E : XK} {X : Cx} {ea eb ec e : Expr} {es rest : List Expr} {a b c : DO} {da db : DE} {dc ta tb : DT} {aa : DA} {pos p2 : Pos} {x : Str}
theorem cr_bi (hc : X.calm = true) (hg : X.A.guards = some []) (hu : X.A.units + 65 < cLine) : ∀ (b : Bi) (u : Value), b.val = some u → CallR X u (rBi X.K b)
  | .len, _, e => by cases e; exact call_len_seq.or call_len_str
  | .list, _, e => by cases e; exact call_list_of.or (cr_lstTx hc)
  | .tuple, _, e => by cases e; exact call_tuple_of
  | .sum, _, e => by cases e; exact (cr_sum hc).or (cr_sumTu hc)
  | .all, _, e => by cases e; exact cr_all hc
  | .any, _, e => by cases e; exact cr_any hc
  | .range, _, e => by cases e
  | .repr, _, e => by cases e; exact cr_repr hg hu
  | .str, _, e => by cases e; exact call_str_int
  | .int, _, e => by cases e; exact call_int1
  | .sorted, _, e => by cases e; exact cr_sorted.or (cr_sortedS.or ((cr_sortedSS (by omega)).or (cr_sortTu (by omega))))
/-- the argument of a built-in, one -/
theorem jBif {b : Bi} {u : Value} (hc : X.calm = true) (gd : X.A.guards = some []) (hu : X.A.units + 65 < cLine) (hbv : b.val = some u) (hv : bootBuiltins x = some u) (hg : Gl X x) (hm : X.mg x = none) (hn : x ≠ "__name__") (hdb : (x == ("__debug__" : Str)) = false)
    (ja : JO Wp E X ea a) (hs : starEach [ea] X.env = (false, eval ea X.env) :: starEach [] X.env) (hpl : (backTo pos (starEach [] X.env)).any (·.1) = false) : JE Wp E X (.Call (.Name x p2) [ea] [] pos) (dBif b a) := by
  have pa : PA X [ea] (tCons (lO Wp X.K X.mg E a) tNil) := pa_cons ja pa_nil hs
  have go : PE X (.Call (.Name x p2) [ea] [] pos) (tCB (rBi X.K b) (tCons (lO Wp X.K X.mg E a) tNil)) := by
    have cr := cr_bi hc gd hu b u hbv
    cases b with
    | range => cases hbv
    | len => cases hbv; exact pe_callB cr hg hm hv pa hn hdb hs hpl
    | sum => cases hbv; exact pe_callB cr hg hm hv pa hn hdb hs hpl
    | all => cases hbv; exact pe_callB cr hg hm hv pa hn hdb hs hpl
    | any => cases hbv; exact pe_callB cr hg hm hv pa hn hdb hs hpl
    | repr => cases hbv; exact pe_callB cr hg hm hv pa hn hdb hs hpl
    | sorted => cases hbv; exact pe_callB cr hg hm hv pa hn hdb hs hpl
    | list => cases hbv; exact pe_callTy cr hg hm hv pa hn hdb hs hpl
    | tuple => cases hbv; exact pe_callTy cr hg hm hv pa hn hdb hs hpl
    | str => cases hbv; exact pe_callTy cr hg hm hv pa hn hdb hs hpl
    | int => cases hbv; exact pe_callTy cr hg hm hv pa hn hdb hs hpl
  refine go.weak fun σ H Q ⟨W, B, M0, ρ, M, P, R, w, G, d, x, h⟩ => ?_
  refine lO_go w G d x fun oa ρ1 v H1 M1 c G1 k1 => ?_
  obtain ⟨y, h1, f⟩ := c
  exact bi_go G1 (OpdOk.pk G1 k1 h1) f fun z fr v' H' M' c r => h _ _ _ _ _ _ c r
theorem tyX_of {K : PySem.W.Frag} {H : Hp} {M : List Addr} {v : V} {x : PyData} (r : RepPk K H M v x) : ∃ S : String, TyX K H v (.type S) ∧ (S, x) ∈ [("NoneType", x), ("bool", x), ("int", x), ("str", x), ("list", x), ("tuple", x), ("dict", x)] ∧
    (match x with | .none => S = "NoneType" | .bool _ => S = "bool" | .int _ => S = "int" | .str _ => S = "str" | .list _ => S = "list" | .tuple _ => S = "tuple" | .dict _ => S = "dict") := by
  cases x with
  | none => obtain rfl := Rep.none_inv r; exact ⟨_, .base .non, by simp, rfl⟩
  | bool b => obtain rfl := r.bool_inv; exact ⟨_, .base (.bl _), by simp, rfl⟩
  | int b => obtain rfl := r.int_inv; exact ⟨_, .base (.int _), by simp, rfl⟩
  | str b => obtain rfl := r.str_inv; exact ⟨_, .base (.str _), by simp, rfl⟩
  | list ds =>
    obtain ⟨a, vs, rfl, ha, q⟩ := r.list_inv
    exact ⟨_, .base (.lst ha), by simp, rfl⟩
  | tuple ds =>
    obtain ⟨a, vs, rfl, ha, q⟩ := r.tup_inv
    refine ⟨"tuple", ?_, by simp, rfl⟩
    rcases ha with (h | ⟨o, h⟩) | ⟨o, its, n, h, hc, _⟩
    · exact .base (.tup h)
    · exact .fTuple h
    · exact .kTuple h hc
  | dict kvs =>
    have r : Rep K H M v (.dict kvs) := r
    cases r with
    | dct hn h q => exact ⟨_, .base (.dK h), by simp, rfl⟩
theorem isi_ok {K : PySem.W.Frag} {H : Hp} {M : List Addr} {v : V} {x : PyData} (r : RepPk K H M v x) (t : Ty) : ∃ S : String, TyX K H v (.type S) ∧ PySem.W.kitOne K (.type S) (.type t.nm) = some (isD x t) := by
  obtain ⟨S, h1, _, h2⟩ := tyX_of r
  refine ⟨S, h1, ?_⟩
  cases x <;> (have h2 : S = _ := h2; subst h2; cases t <;> rfl)
theorem jIsi {t : Ty} {p3 : Pos} {y : Str} (hg : Gl X "isinstance") (hm : X.mg "isinstance" = none) (hgt : Gl X y) (hmt : X.mg y = none) (hvt : bootBuiltins y = some (.type t.nm)) (hn : y ≠ "__name__") (hdb : (y == ("__debug__" : Str)) = false)
    (ja : JO Wp E X ea a) (hs : starEach [ea, .Name y p3] X.env = (false, eval ea X.env) :: starEach [.Name y p3] X.env) (hs2 : starEach [.Name y p3] X.env = (false, eval (.Name y p3) X.env) :: starEach [] X.env) (hpl : (backTo pos (starEach [.Name y p3] X.env)).any (·.1) = false) :
    JE Wp E X (.Call (.Name "isinstance" p2) [ea, .Name y p3] [] pos) (dIsi a t) := by
  have ty : PE X (.Name y p3) (tC (.ty t.nm)) := pe_bltn hgt hmt hvt rfl hn hdb
  refine (pe_callB call_isi hg hm (by rfl) (pa_cons ja (pa_cons ty pa_nil hs2) hs) (by decide) (by decide) hs hpl).weak fun σ H Q ⟨W, B, M0, ρ, M, P, R, w, G, d, x, h⟩ => ?_
  refine lO_go w G d x fun oa ρ1 v H1 M1 c G1 k1 => ?_
  obtain ⟨y, h1, f⟩ := c
  obtain ⟨S, h2, h3⟩ := isi_ok (OpdOk.pk G1 k1 h1) t
  exact ⟨v, .ty t.nm, .type S, .type t.nm, _, rfl, .ty _, h2, h3, h _ _ _ _ _ _ f (Res.bool G1 _)⟩
end
end G9

/-! M9: targets, what is walked, comprehensions. -/
namespace G9
open PySem PySem.Spec L2 PyProof.Rows
section
variable {W : Wk} {K : PySem.W.Frag} {B : List Bs} {M0 : List Addr} {ρ : En} {σ : L2.St} {H H' : Hp} {M M' : List Addr}
/-- the heap as it was, or with one new thing -/
def Grown (H H' : Hp) : Prop := H' = H ∨ ∃ p o, H p = none ∧ H' = upd H p o
theorem Grown.kp (g : Grown H H') : Kp M H H' := by
  rcases g with rfl | ⟨p, o, h, rfl⟩
  · exact Kp.refl _ _
  · exact Kp.fresh h
theorem Gd.grown (G : Gd W K B M0 ρ σ H M) (g : Grown H H') : Gd W K B M0 ρ σ H' M := by
  rcases g with rfl | ⟨p, o, h, rfl⟩
  · exact G
  · exact G.grow h
/-- fewer fenced addresses, none of those that are owned -/
theorem Gd.reM (G : Gd W K B M0 ρ σ H M) (h1 : ∀ a ∈ M', a ∈ M) (h2 : ∀ a ∈ M0, a ∈ M') (h3 : ∀ a, Owns ρ σ a → a ∈ M') : Gd W K B M0 ρ σ H M' := by
  refine ⟨G.sm, G.wok, G.wad, h2, fun a z => G.liv a (h1 a z), G.len, fun b hb => ?_, fun i e h => ?_, G.sep⟩
  · obtain ⟨q1, q2, q3, q4⟩ := G.bs b hb
    exact ⟨q1, q2, fun a z => q3 a (h1 a z), q4⟩
  · obtain ⟨v, q1, q2⟩ := G.ent i e h
    refine ⟨v, q1, q2.move (Kp.refl _ _) (fun a z => .inl (h1 a z)) fun a ho ev z n => ⟨h3 a ⟨i, e, h, ho, ?_⟩, fun _ y => y⟩⟩
    rw [← ev]; exact q1
/-- a new thing, fenced off for good -/
theorem Gd.fence (G : Gd W K B M0 ρ σ H M) {p : Addr} {o : HO} (hp : H p = none) : Gd W K B (p :: M0) ρ σ (upd H p o) (p :: M) := by
  have G1 := G.new (o := o) hp
  refine ⟨G1.sm, G1.wok, fun a z => List.mem_cons_of_mem _ (G1.wad a z), fun a z => ?_, G1.liv, G1.len, G1.bs, fun i e h => ?_, G1.sep⟩
  · rcases List.mem_cons.mp z with rfl | z
    · exact List.mem_cons_self
    · exact G1.sub a z
  · obtain ⟨v, q1, q2⟩ := G1.ent i e h
    refine ⟨v, q1, ?_⟩
    unfold EntOk at q2 ⊢
    split
    · rename_i ho
      rw [if_pos ho] at q2
      obtain ⟨a, vs, ds, e1, e2, z1, z2, z3, z4⟩ := q2
      refine ⟨a, vs, ds, e1, e2, z1, fun z => ?_, z3, z4⟩
      rcases List.mem_cons.mp z with rfl | z
      · obtain ⟨_, _, vs', q⟩ := G.owned ⟨i, e, h, ho, by rw [← e1]; exact q1⟩
        rw [hp] at q; cases q
      · exact z2 z
    · rename_i ho
      rw [if_neg ho] at q2
      exact q2
theorem Gd.unfence {p : Addr} (G : Gd W K B (p :: M0) ρ σ H M) (hw : ∀ a ∈ W.ad, a ∈ M0) : Gd W K B M0 ρ σ H M := by
  refine ⟨G.sm, G.wok, hw, fun a z => G.sub a (List.mem_cons_of_mem _ z), G.liv, G.len, G.bs, fun i e h => ?_, G.sep⟩
  obtain ⟨v, q1, q2⟩ := G.ent i e h
  refine ⟨v, q1, ?_⟩
  unfold EntOk at q2 ⊢
  split
  · rename_i ho
    rw [if_pos ho] at q2
    obtain ⟨a, vs, ds, e1, e2, z1, z2, z3, z4⟩ := q2
    exact ⟨a, vs, ds, e1, e2, z1, fun z => z2 (List.mem_cons_of_mem _ z), z3, z4⟩
  · rename_i ho
    rw [if_neg ho] at q2
    exact q2
/-- a fenced list that nobody owns is written: it is new to every base -/
theorem Gd.writeF (G : Gd W K B M0 ρ σ H M) {a : Addr} {vs ws : List V} (hm : a ∈ M0) (hw : a ∉ W.ad) (ha : H a = some (.lst vs)) (hb : ∀ b ∈ B, b.h a = none) : Gd W K B M0 ρ σ (upd H a (.lst ws)) M := by
  have kp : Kp M H (upd H a (.lst ws)) := Kp.store (G.sub a hm) ha
  refine ⟨kp.sm G.sm, W.st _ _ _ hw (.inr ⟨_, ha⟩) G.wok, G.wad, G.sub, fun b z => kp.liv b (G.liv b z), G.len, fun b hb' => ?_, fun i e h => ?_, G.sep⟩
  · obtain ⟨z1, z2, z3, z4⟩ := G.bs b hb'
    have z := hb b hb'
    refine ⟨⟨fun x o n y => ?_, fun x xs y => ?_, fun x o u y => ?_, fun x y => kp.liv x (z1.liv x y)⟩, z2, z3, z4⟩
    · have hx : x ≠ a := fun q => by rw [q, z] at y; cases y
      rw [upd_ne hx]; exact z1.same x o n y
    · have hx : x ≠ a := fun q => by rw [q, z] at y; cases y
      rw [upd_ne hx]; exact z1.tup x xs y
    · have hx : x ≠ a := fun q => by rw [q, z] at y; cases y
      rw [upd_ne hx]; exact z1.frz x o u y
  · obtain ⟨v, y1, y2⟩ := G.ent i e h
    refine ⟨v, y1, y2.move kp (fun a z => .inl z) fun b ho ev z n => ⟨z, fun o' y => ?_⟩⟩
    have hb : b ≠ a := fun q => n (by rw [q]; exact hm)
    rw [upd_ne hb]; exact y
/-- the moment as a base: what stays is all but k -/
theorem Gd.baseK (G : Gd W K B M0 ρ σ H M) {k : List Addr} (hw : ∀ a ∈ W.ad, a ∈ k) (ho : ∀ a, Owns ρ σ a → a ∈ k) : Gd W K (⟨H, k, M⟩ :: B) M0 ρ σ H M :=
  ⟨G.sm, G.wok, G.wad, G.sub, G.liv, G.len, fun b hb => by
    rcases List.mem_cons.mp hb with rfl | hb
    · exact ⟨Kp.refl _ _, hw, fun a z => .inl z, fun a o => .inl (ho a o)⟩
    · exact G.bs b hb, G.ent, G.sep⟩
end
/-! ### targets -/
def gNames : List Nat → TGs
  | [] => gNil
  | i :: is => gCons (gName i) (gNames is)
def gB (K : PySem.W.Frag) (tg : List Nat) (tp : Bool) : TG := match tp, tg with
  | false, [i] => gName i
  | true, tg => gTup K tg.length (gNames tg)
  | _, _ => fun _ _ _ _ => False
section
variable {X : Cx} {pos : Pos}
theorem gOne {i : Nat} {x : Str} (hN : X.N.Nodup) (hi : X.N[i]? = some x) (hx : Loc X.env.scope x) (hf : X.fn x = true ∨ X.env.scope.names.lookup x = some .local) : PG X (.Name x pos) (gB X.K [i] false) := pg_name hN hi hx hf
theorem gNilN : PGs X [] (gNames []) := pgs_nil
end
section
variable {W : Wk} {K : PySem.W.Frag} {B : List Bs} {M0 : List Addr} {ρ ρ' : En} {σ : L2.St} {H : Hp} {M : List Addr}
theorem names_go : ∀ {tg : List Nat} {xs : List PyData} {vs : List V} {ρ ρ' : En} {σ : L2.St} {Q : L2.St → Hp → Prop}, Gd W K B M0 ρ σ H M → RepL K H M vs xs → bindE tg xs ρ = some ρ' → (∀ i ∈ tg, i < σ.length) →
    (∀ σ', σ'.length = σ.length → (∀ j, j ∉ tg → σ'[j]? = σ[j]?) → Gd W K B M0 ρ' σ' H M → Q σ' H) → gNames tg vs σ H Q
  | [], [], _, _, _, _, _, G, .nil, e, _, q => by cases e; exact ⟨rfl, q _ rfl (fun _ _ => rfl) G⟩
  | i :: is, x :: xs, _, ρ, ρ', σ, Q, G, .cons r rr, e, hl, q => by
    have e : bindE is xs (En.put ρ i false (.d x)) = some ρ' := e
    refine ⟨_, _, rfl, ?_⟩
    have hi := hl i List.mem_cons_self
    refine names_go (G.put0 (u := .d x) hi r) rr e (fun j z => by rw [List.length_set]; exact hl j (List.mem_cons_of_mem _ z)) fun σ' h1 h2 G' => q σ' (by rw [h1, List.length_set]) (fun j hj => ?_) G'
    simp only [List.mem_cons, not_or] at hj
    rw [h2 j hj.2, List.getElem?_set_ne (Ne.symm hj.1)]
  | _ :: _, [], _, _, _, _, _, _, _, e, _, _ => by cases e
  | [], _ :: _, _, _, _, _, _, _, _, e, _, _ => by cases e
theorem bind_go {tg : List Nat} {tp : Bool} {x : PyData} {v : V} {C : En → Prop} {Q : L2.St → Hp → Prop} (G : Gd W K B M0 ρ σ H M) (r : Rep K H M v x) (d : bindT tg tp x ρ C) (hl : ∀ i ∈ tg, i < σ.length)
    (h : ∀ ρ' σ', σ'.length = σ.length → (∀ j, j ∉ tg → σ'[j]? = σ[j]?) → C ρ' → Gd W K B M0 ρ' σ' H M → Q σ' H) : gB K tg tp v σ H Q := by
  unfold bindT at d
  split at d
  · rename_i _ i
    exact h _ _ (by rw [List.length_set]) (fun j hj => by rw [List.getElem?_set_ne (fun z => hj (by simp [z]))]) d (G.put0 (u := .d _) (hl i (by simp)) r)
  · rename_i tg xs
    obtain ⟨ρ', e, c⟩ := d
    cases r with
    | tup hs q =>
      refine ⟨_, _, rfl, hs, ?_, names_go G q e hl fun σ' h1 h2 G' => h ρ' σ' h1 h2 c G'⟩
      have : ∀ {tg : List Nat} {xs : List PyData} {ρ : En}, bindE tg xs ρ = some ρ' → xs.length = tg.length := by
        intro tg
        induction tg with
        | nil => intro xs ρ e; cases xs with | nil => rfl | cons _ _ => cases e
        | cons i is ih => intro xs ρ e; cases xs with | nil => cases e | cons y ys => simp [ih (show bindE is ys _ = some ρ' from e)]
      rw [q.length]
      exact this e
  · exact d.elim
end
/-! ### what is walked -/
def WalkOk (W : Wk) (K : PySem.W.Frag) (J : It) (xs : List PyData) (H1 : Hp) (M1 : List Addr) : Prop :=
  ∀ (M : List Addr) (H : Hp), Kp M1 H1 H → (∀ a ∈ M, a ∈ M1 ∨ H1 a = none) → (∀ i x, xs[i]? = some x → J.go i H ∧ ∀ v H', J.yld i H v H' → Grown H H' ∧ ∀ M2, (∀ a ∈ M2, a ∈ M) → Rep K H' M2 v x) ∧ ∀ i, xs.length ≤ i → J.stop i H
def lI (Wp : Wk → Prop) (K : PySem.W.Frag) (mg : Str → Option Value) (E : XK) (m : DI) : TI := fun σ H Q => ∃ W B M0 ρ M P R, WP Wp W m.m ∧ Gd W K B M0 ρ σ H M ∧ m ρ P R ∧ XOk W K mg E M0 B R ∧
  ∀ xs ρ' J H' M', P xs ρ' → xs.length ≤ sizeLine → Gd (W.up m.m) K B M0 ρ' σ H' M' → WalkOk W K J xs H' M' → Q J H'
abbrev JI (Wp : Wk → Prop) (E : XK) (X : Cx) (tg e : Expr) (d : DI) : Prop := PI X tg e (lI Wp X.K X.mg E d)
theorem _root_.L2.PI.weak {X : Cx} {tg e : Expr} {t t' : TI} (h : PI X tg e t) (w : ∀ σ H Q, t' σ H Q → t σ H Q) : PI X tg e t' := ⟨fun pins s σ H Q I q => h.run pins s σ H Q I (w σ H Q q)⟩
theorem walk_list {W : Wk} {K : PySem.W.Frag} {a : Addr} {vs : List V} {ds : List PyData} {H : Hp} {M : List Addr} (hn : a ∉ M) (ha : H a = some (.lst vs)) (r : RepL K H M vs ds) : WalkOk W K (Itl K a) ds H M := by
  intro M2 H2 k n
  have ha2 := k.same a _ hn ha
  refine ⟨fun i x e => ?_, fun i hi => ⟨vs, SqL.of ha2, by rw [r.length]; exact hi⟩⟩
  obtain ⟨v, hv, rv⟩ := r.get e
  refine ⟨⟨vs, v, SqL.of ha2, hv⟩, fun v' H' ⟨e1, e2⟩ => ⟨.inl e1, fun M3 s => ?_⟩⟩
  subst e1
  have q := e2 vs (SqL.of ha2)
  rw [hv] at q; cases q
  exact (rv.move k n).less s
theorem walk_tup {K : PySem.W.Frag} {W : Wk} {a : Addr} {vs : List V} {ds : List PyData} {H : Hp} {M : List Addr} (ha : SqT K H a vs) (r : RepL K H M vs ds) : WalkOk W K (Itt K a) ds H M := by
  intro M2 H2 k n
  have ha2 := k.sqT ha
  refine ⟨fun i x e => ?_, fun i hi => ⟨vs, ha2, by rw [r.length]; exact hi⟩⟩
  obtain ⟨v, hv, rv⟩ := r.get e
  refine ⟨⟨vs, v, ha2, hv⟩, fun v' H' ⟨e1, e2⟩ => ⟨.inl e1, fun M3 s => ?_⟩⟩
  subst e1
  have q := e2 vs ha2
  rw [hv] at q; cases q
  exact (rv.move k n).less s
theorem walk_range {W : Wk} {K : PySem.W.Frag} {lo : Int} {n : Nat} {H : Hp} {M : List Addr} : WalkOk W K (Itr lo n) ((List.range n).map fun (k : Nat) => PyData.int (lo + (k : Int))) H M := by
  intro M2 H2 k nn
  refine ⟨fun i x e => ?_, fun i hi => show n ≤ i by simpa using hi⟩
  rw [List.getElem?_map] at e
  have hi : i < n := by
    by_cases hi : i < n
    · exact hi
    · rw [List.getElem?_eq_none (by simpa using Nat.le_of_not_lt hi)] at e; cases e
  rw [List.getElem?_range hi] at e
  cases e
  exact ⟨hi, fun v H' ⟨e1, e2⟩ => ⟨.inl e1, fun _ _ => by subst e2; exact Rep.int _⟩⟩
theorem walk_str {W : Wk} {K : PySem.W.Frag} {z : Str} {H : Hp} {M : List Addr} :
    WalkOk W K (Its z) (z.cps.toList.map sgn) H M := by
  intro M2 H2 k nn
  refine ⟨fun i x e => ?_, fun i hi => show z.cps.size ≤ i by simpa using hi⟩
  rw [List.getElem?_map] at e
  cases q : z.cps.toList[i]? with
  | none => rw [q] at e; cases e
  | some c =>
    rw [q] at e; cases e
    have q' : z.cps[i]? = some c := by rw [← Array.getElem?_toList]; exact q
    have hi : i < z.cps.size := (Array.getElem?_eq_some_iff.mp q').1
    refine ⟨hi, fun v H' y => ?_⟩
    obtain ⟨e1, c', e2, e3⟩ := y
    rw [q'] at e2; cases e2
    subst e3
    exact ⟨.inl e1, fun _ _ => Rep.str _⟩
end G9

/-! M10: what is walked; list comprehensions. -/
namespace G9
open PySem PySem.Spec L2 PyProof.Rows
section
variable {X : Cx} {tg l : Expr}
/-- a list, a tuple, a text is walked -/
def iSeq (K : PySem.W.Frag) (tl : TE) : TI := fun σ H R => tl σ H fun x H1 =>
  (∃ a xs, x = .ref a ∧ SqL K H1 a xs ∧ (xs.length ≤ sizeLine → R (Itl K a) H1)) ∨ ((∃ a xs, x = .ref a ∧ SqT K H1 a xs ∧ (xs.length ≤ sizeLine → R (Itt K a) H1)) ∨ ∃ z, x = .str z ∧ R (Its z) H1)
theorem pi_seq {tl : TE} (hl : PE X l tl) : PI X tg l (iSeq X.K tl) := by
  refine ⟨fun pins s σ H R I h => thn (hl.run pins s σ H _ I h) fun v s1 ⟨x, H1, I1, r1, q1⟩ => ?_⟩
  rcases q1 with ⟨a, xs, rfl, hq, q⟩ | ⟨a, xs, rfl, hq, q⟩ | ⟨z, rfl, q⟩
  · cases r1
    obtain ⟨its, rv, p, hz⟩ := I1.list hq
    exact wpAny_pyIter_list p.isList (pi_one (tk := s1.toks) I1 _ (turn_list a _) ⟨_, Heap.get?_push_size _ rfl, rfl, rfl⟩ (q hz))
  · cases r1
    obtain ⟨its, rv, p, hz⟩ := I1.tuple hq
    exact wpAny_pyIter_tuple (show s1.heap.IsTuple a its.toArray from p) (pi_one (tk := s1.toks) I1 _ (turn_tuple a _) ⟨_, Heap.get?_push_size _ rfl, rfl, rfl⟩ (q hz))
  · obtain ⟨t, rfl⟩ := r1
    cases ha : z.cps.all (· < 128)
    · exact wpAny_pyIter_wide ha (pi_one (tk := s1.toks) I1 _ (turn_str _ z t "str_iterator" (.inr rfl)) ⟨_, Heap.get?_push_size _ rfl, rfl, rfl⟩ q)
    · exact wpAny_pyIter_ascii ha (pi_one (tk := s1.toks) I1 _ (turn_str _ z t "str_ascii_iterator" (.inl rfl)) ⟨_, Heap.get?_push_size _ rfl, rfl, rfl⟩ q)
end
section
variable {Wp : Wk → Prop} {E : XK} {X : Cx} {ea eb ec e tg : Expr} {es rest : List Expr} {a b c : DO} {da db : DE} {pos p2 : Pos}
theorem wSeq (ja : JE Wp E X ea da) : JI Wp E X tg ea (wE da) :=
  (pi_seq ja).weak fun σ H Q ⟨W, B, M0, ρ, M, P, R, w, G, d, x, h⟩ => lE_go w G d x fun u fr ρ1 v H1 M1 c r => by
    obtain ⟨y, e, c⟩ := c
    have rr := r.val e
    cases y <;> try exact (show False from c).elim
    · obtain rfl := Rep.str_inv rr
      obtain ⟨hz, c⟩ := c
      refine .inr (.inr ⟨_, rfl, h _ _ _ _ _ c ?_ r.gd walk_str⟩)
      simpa [Str.length] using hz
    · cases rr with
      | lst hn ha q => exact .inl ⟨_, _, rfl, SqL.of ha, fun hz => h _ _ _ _ _ c (by rw [← q.length]; exact hz) r.gd (walk_list hn ha q)⟩
    · cases rr with
      | tup ha q => exact .inr (.inl ⟨_, _, rfl, ha, fun hz => h _ _ _ _ _ c (by rw [← q.length]; exact hz) r.gd (walk_tup ha q)⟩)
theorem wR1 (hg : Gl X "range") (hm : X.mg "range" = none) (ja : JE Wp E X ea da) (hs : starEach [ea] X.env = [(false, eval ea X.env)]) : JI Wp E X tg (.Call (.Name "range" p2) [ea] [] pos) (wRng1 da) :=
  (pi_range1 hg hm (pa_cons ja pa_nil hs) hs).weak fun σ H Q ⟨W, B, M0, ρ, M, P, R, w, G, d, x, h⟩ => lE_go w G d x fun u fr ρ1 v H1 M1 c r => by
    obtain ⟨n, rfl, h1, h2, c⟩ := c
    refine ⟨n, by rw [Rep.int_inv r.rep], h2, by omega, ?_⟩
    have z : rangeD 0 n = (List.range n.toNat).map fun (k : Nat) => PyData.int (0 + (k : Int)) := by unfold rangeD; rw [Int.sub_zero]
    rw [z] at c
    exact h _ _ _ _ _ c (by rw [List.length_map, List.length_range, sizeLine_eq]; omega) r.gd walk_range
theorem wR2 (hg : Gl X "range") (hm : X.mg "range" = none) (ja : JE Wp E X ea da) (jb : JE Wp E X eb db) (hs : starEach [ea, eb] X.env = [(false, eval ea X.env), (false, eval eb X.env)]) (hs2 : starEach [eb] X.env = [(false, eval eb X.env)]) :
    JI Wp E X tg (.Call (.Name "range" p2) [ea, eb] [] pos) (wRng2 da db) :=
  (pi_range2 hg hm (pa_cons ja (pa_cons jb pa_nil hs2) (by rw [hs, hs2])) hs hs2).weak fun σ H Q ⟨W, B, M0, ρ, M, P, R, w, G, d, x, h⟩ => lE_go w G d x fun u fr ρ1 v H1 M1 c r => lE_go' w r.gd c x fun u' fr' ρ2 v' H2 M2 c r' => by
    obtain ⟨m, n, rfl, rfl, h1, h2, c⟩ := c
    have e1 : v = .int m := Rep.int_inv r.rep
    have e2 : v' = .int n := Rep.int_inv r'.rep
    subst e1 e2
    refine ⟨m, n, rfl, ⟨by omega, by omega, h2.1, by omega⟩, ?_⟩
    exact h _ _ _ _ _ c (by unfold rangeD; rw [List.length_map, List.length_range, sizeLine_eq]; omega) r'.gd walk_range
end
/-! ### a list comprehension -/
section
variable {W : Wk} {K : PySem.W.Frag} {B : List Bs} {M0 : List Addr} {ρ : En} {σ : L2.St} {H H' : Hp} {M M' : List Addr}
/-- other names, other values: each entry is one that was, or tells a value that nobody owns -/
theorem Gd.reEnv (G : Gd W K B M0 ρ σ H M) {ρ2 : En} {σ2 : L2.St} (hl : ρ2.length = σ2.length)
    (h : ∀ (i : Nat) (e : Ent), ρ2[i]? = some (some e) → (ρ[i]? = some (some e) ∧ σ2[i]? = σ[i]?) ∨ (e.own = false ∧ ∃ v, σ2[i]? = some (some v) ∧ RepU W K H M v e.u)) : Gd W K B M0 ρ2 σ2 H M := by
  have old : ∀ {i : Nat} {e : Ent}, ρ2[i]? = some (some e) → e.own = true → ρ[i]? = some (some e) ∧ σ2[i]? = σ[i]? := fun h1 h2 => (h _ _ h1).elim id fun z => by rw [z.1] at h2; cases h2
  refine ⟨G.sm, G.wok, G.wad, G.sub, G.liv, hl, fun b hb => ?_, fun i e q => ?_, fun i j e e' a g1 g2 g3 g4 g5 g6 => ?_⟩
  · obtain ⟨q1, q2, q3, q4⟩ := G.bs b hb
    refine ⟨q1, q2, q3, fun a ⟨i, e, y1, y2, y3⟩ => q4 a ⟨i, e, (old y1 y2).1, y2, by rw [← (old y1 y2).2]; exact y3⟩⟩
  · rcases h i e q with ⟨q1, q2⟩ | ⟨q1, v, q2, q3⟩
    · obtain ⟨v, z1, z2⟩ := G.ent i e q1
      exact ⟨v, by rw [q2]; exact z1, z2⟩
    · refine ⟨v, q2, ?_⟩
      unfold EntOk
      rw [if_neg (by rw [q1]; simp)]
      exact q3
  · obtain ⟨a1, a2⟩ := old g1 g2
    obtain ⟨b1, b2⟩ := old g4 g5
    exact G.sep i j e e' a a1 g2 (by rw [← a2]; exact g3) b1 g5 (by rw [← b2]; exact g6)
theorem wipe_at (σ : L2.St) (j : Nat) : ∀ vs : List Nat, (L2.wipe σ vs)[j]? = if j ∈ vs ∧ j < σ.length then some none else σ[j]?
  | [] => by simp [L2.wipe]
  | v :: vs => by
    unfold L2.wipe
    by_cases h : v = j
    · subst h
      by_cases hl : v < σ.length
      · rw [List.getElem?_set_self (by rw [wipe_length]; exact hl), if_pos ⟨List.mem_cons_self, hl⟩]
      · rw [List.getElem?_eq_none (by rw [List.length_set, wipe_length]; omega), if_neg (fun z => hl z.2), List.getElem?_eq_none (by omega)]
    · rw [List.getElem?_set_ne h, wipe_at σ j vs]
      have e : (j ∈ v :: vs) ↔ j ∈ vs := by simp [Ne.symm h]
      simp only [e]
theorem wipeE_length (ρ : En) : ∀ vs : List Nat, (wipeE ρ vs).length = ρ.length
  | [] => rfl
  | v :: vs => by unfold wipeE; rw [List.length_set, wipeE_length ρ vs]
theorem wipeE_at (ρ : En) (j : Nat) : ∀ vs : List Nat, (wipeE ρ vs)[j]? = if j ∈ vs ∧ j < ρ.length then some none else ρ[j]?
  | [] => by simp [wipeE]
  | v :: vs => by
    unfold wipeE
    by_cases h : v = j
    · subst h
      by_cases hl : v < ρ.length
      · rw [List.getElem?_set_self (by rw [wipeE_length]; exact hl), if_pos ⟨List.mem_cons_self, hl⟩]
      · rw [List.getElem?_eq_none (by rw [List.length_set, wipeE_length]; omega), if_neg (fun z => hl z.2), List.getElem?_eq_none (by omega)]
    · rw [List.getElem?_set_ne h, wipeE_at ρ j vs]
      have e : (j ∈ v :: vs) ↔ j ∈ vs := by simp [Ne.symm h]
      simp only [e]
theorem backE_length (ρ ρ' : En) : ∀ vs : List Nat, (backE ρ ρ' vs).length = ρ'.length
  | [] => rfl
  | v :: vs => by unfold backE; rw [List.length_set, backE_length ρ ρ' vs]
theorem backE_some (ρ ρ' : En) (j : Nat) (e : Ent) : ∀ vs : List Nat, (backE ρ ρ' vs)[j]? = some (some e) → (j ∉ vs ∧ ρ'[j]? = some (some e)) ∨ (e.own = false ∧ ρ[j]? = some (some e))
  | [], h => .inl ⟨by simp, h⟩
  | v :: vs, h => by
    unfold backE at h
    by_cases hv : v = j
    · subst hv
      by_cases hl : v < (backE ρ ρ' vs).length
      · rw [List.getElem?_set_self hl] at h
        right
        split at h
        · rename_i u q
          cases h
          exact ⟨rfl, En.at_get q⟩
        · cases h
      · rw [List.getElem?_eq_none (by rw [List.length_set]; omega)] at h; cases h
    · rw [List.getElem?_set_ne hv] at h
      rcases backE_some ρ ρ' j e vs h with ⟨h1, h2⟩ | h2
      · exact .inl ⟨by simp only [List.mem_cons, not_or]; exact ⟨Ne.symm hv, h1⟩, h2⟩
      · exact .inr h2
theorem Gd.wiped (G : Gd W K B M0 ρ σ H M) (vs : List Nat) : Gd W K B M0 (wipeE ρ vs) (L2.wipe σ vs) H M := by
  refine G.reEnv (by rw [wipeE_length, wipe_length]; exact G.len) fun i e h => .inl ?_
  rw [wipeE_at] at h
  by_cases c : i ∈ vs ∧ i < ρ.length
  · rw [if_pos c] at h; cases h
  · rw [if_neg c] at h
    refine ⟨h, ?_⟩
    rw [wipe_at, if_neg (by rw [← G.len]; exact c)]
theorem wipe_eq {σ σ2 : L2.St} {vs tg : List Nat} (hl : σ2.length = (L2.wipe σ vs).length) (hs : ∀ j, j ∉ tg → σ2[j]? = (L2.wipe σ vs)[j]?) (sub : ∀ i ∈ tg, i ∈ vs) : L2.wipe σ2 vs = L2.wipe σ vs := by
  rw [wipe_length] at hl
  refine List.ext_getElem? fun j => ?_
  rw [wipe_at, wipe_at, hl]
  by_cases c : j ∈ vs ∧ j < σ.length
  · rw [if_pos c, if_pos c]
  · rw [if_neg c, if_neg c]
    by_cases hj : j ∈ tg
    · have : ¬ j < σ.length := fun z => c ⟨sub j hj, z⟩
      rw [List.getElem?_eq_none (by omega), List.getElem?_eq_none (by omega)]
    · rw [hs j hj, wipe_at, if_neg c]
end
section
variable {Wp : Wk → Prop} {E : XK} {X : Cx} {elt tgx iter : Expr} {ifs : List Expr} {scope : Scope} {own : List (Str × Nat)} {pos : Pos} {tg : List Nat} {tp : Bool} {di : DI} {dc : DT} {de : DE}
theorem lc_go {W : Wk} {B : List Bs} {M0 : List Addr} {ρ : En} {σ : L2.St} {H : Hp} {M : List Addr} {P : U → Bool → En → Prop} {R : RK} {Q : VK} {K : PySem.W.Frag} {mg : Str → Option Value} {vs : List Nat} (w : WP Wp W (di.m + sizeLine * (dc.m + de.m))) (G : Gd W K B M0 ρ σ H M) (d : dLc vs tg tp di dc de ρ P R) (x : XOk W K mg E M0 B R)
    (sub : ∀ i ∈ tg, i ∈ vs) (hl : ∀ i ∈ tg, i < σ.length)
    (h : ∀ u fr ρ' v H' M', P u fr ρ' → Res (W.up (di.m + sizeLine * (dc.m + de.m))) K B M0 ρ' σ H' M' v u fr → Q v H') : tLc (lI Wp K mg E di) (gB K tg tp) (lT Wp K mg E dc) (lE Wp K mg E de) vs σ H Q := by
  refine ⟨W, B, M0, ρ, M, _, R, w.le (Nat.le_add_right _ _), G, d, x, fun xs ρ1 J H1 M1 c hxs G1 wk D hD => ?_⟩
  have hB : ∀ b ∈ (⟨H1, M1, M1⟩ : Bs) :: B, b.h D = none := fun b hb => by
    rcases List.mem_cons.mp hb with rfl | hb
    · exact hD
    · exact G1.old hb hD
  have hDW : D ∉ W.ad := fun z => (W.up di.m).liv _ G1.wok D z hD
  have kk : ∀ i, di.m + i * (dc.m + de.m) + dc.m + de.m = di.m + (i + 1) * (dc.m + de.m) := fun i => by simp only [Nat.succ_mul, Nat.add_assoc]
  generalize hf : (fun (x : PyData) (ρ' : En) (k : Option PyData → En → Prop) => bindT tg tp x (wipeE ρ' vs) fun ρ2 => dc ρ2 (fun b ρ3 => if b = true then de ρ3 (fun u _ ρ4 => ∃ d, u = .d d ∧ k (some d) ρ4) X0 else k none ρ3) X0) = f at c
  have hfx : ∀ (x : PyData) (ρ' : En) (k : Option PyData → En → Prop), f x ρ' k = bindT tg tp x (wipeE ρ' vs) fun ρ2 => dc ρ2 (fun b ρ3 => if b = true then de ρ3 (fun u _ ρ4 => ∃ d, u = .d d ∧ k (some d) ρ4) X0 else k none ρ3) X0 := fun x ρ' k => by rw [← hf]
  let Iv : Nat → Hp → Prop := fun i H => ∃ ρ' M acc ds, Gd (W.up (di.m + i * (dc.m + de.m))) K (⟨H1, M1, M1⟩ :: B) (D :: M0) (wipeE ρ' vs) (L2.wipe σ vs) H M ∧ H D = some (.lst acc) ∧ RepL K H M acc ds ∧ acc.length ≤ i ∧ ρ'.length = σ.length ∧
    lcL f (xs.drop i) ρ' ds fun ds ρ' => P (.d (.list ds)) true (backE ρ1 ρ' vs)
  refine ⟨fun i m H => m = xs.length - i ∧ i ≤ xs.length ∧ Iv i H, ⟨xs.length, by simp, Nat.zero_le _, ρ1, D :: M1, [], [], ?_, upd_same, .nil, Nat.le_refl _, G1.len, c⟩, ?_⟩
  · exact ((G1.base.fence hD).wiped vs).mono (Nat.le_add_right _ _)
  rintro i m H2 ⟨rfl, hi, ρ', M2, acc, ds, G2, hDv, rl, hacc, hlen, c⟩
  obtain ⟨wk1, wk2⟩ := wk M2 H2 G2.kp G2.nw
  by_cases hlt : i < xs.length
  · have hx : xs[i]? = some xs[i] := by simp [hlt]
    rw [List.drop_eq_getElem_cons hlt] at c
    generalize xs[i] = xi at hx c
    obtain ⟨go, yl⟩ := wk1 i xi hx
    refine .inr ⟨go, Iv (i + 1), fun H' p' => ⟨xs.length - (i + 1), by omega, rfl, hlt, p'⟩, fun v H3 y => ?_⟩
    obtain ⟨gr, rv⟩ := yl v H3 y
    have rv := rv M2 fun _ z => z
    have G3 := G2.grown gr
    have rl3 : RepL K H3 M2 acc ds := rl.keep gr.kp
    have hD3 : H3 D = some (.lst acc) := (gr.kp (M := [])).same D _ (by simp) hDv
    have c : f xi ρ' (fun o ρ'' => match o with | some y => lcL f (xs.drop (i + 1)) ρ'' (ds ++ [y]) _ | none => lcL f (xs.drop (i + 1)) ρ'' ds _) := c
    rw [hfx] at c
    refine bind_go G3 rv c (fun j hj => by rw [wipe_length]; exact hl j hj) fun ρ2 σ2 e1 e2 c G4 => ⟨wipe_eq e1 e2 sub, ?_⟩
    have ws := wipe_eq e1 e2 sub
    have hD0 : ∀ {j : Nat} {ρ : En} {σ : L2.St} {H : Hp} {M : List Addr} {B : List Bs}, Gd (W.up j) K B (D :: M0) ρ σ H M → Gd (W.up j) K (⟨H, M.filter (fun a => decide (a ≠ D)), M⟩ :: B) (D :: M0) ρ σ H M := fun {j ρ σ H M B} G => by
      refine G.baseK (fun a z => List.mem_filter.mpr ⟨G.sub a (G.wad a z), decide_eq_true (fun e => hDW (by rw [← e]; exact z))⟩) fun a o => ?_
      obtain ⟨q1, q2, _⟩ := G.owned o
      exact List.mem_filter.mpr ⟨q1, decide_eq_true (fun e => q2 (by rw [e]; exact List.mem_cons_self))⟩
    have notin : ∀ {M : List Addr}, D ∉ M.filter (fun a => decide (a ≠ D)) := fun z => of_decide_eq_true (List.mem_filter.mp z).2 rfl
    have carry : ∀ {j : Nat} {ρ : En} {σ : L2.St} {H H' : Hp} {M M' : List Addr} {B : List Bs} {acc : List V} {ds : List PyData}, Gd (W.up j) K (⟨H, M.filter (fun a => decide (a ≠ D)), M⟩ :: B) (D :: M0) ρ σ H' M' → H D = some (.lst acc) → RepL K H M acc ds → H' D = some (.lst acc) ∧ RepL K H' M' acc ds :=
      fun G q r => ⟨G.kp.same D _ notin q, r.move (G.kp.more fun a z => (List.mem_filter.mp z).1) G.nw⟩
    have lt1 : di.m + i * (dc.m + de.m) + dc.m + de.m ≤ di.m + sizeLine * (dc.m + de.m) := by rw [kk]; exact Nat.add_le_add_left (Nat.mul_le_mul_right _ (by omega)) _
    refine ⟨_, _, D :: M0, ρ2, M2, _, X0, w.up (Nat.le_trans (Nat.le_add_right _ _) lt1), hD0 G4, c, XOk.none, fun k ρ3 H4 M4 c G5 => ?_⟩
    have G5 := G5.cast
    obtain ⟨hD4, rl4⟩ := carry G5 hD3 rl3
    have G5 := G5.tail
    cases k with
    | false =>
      refine ⟨ρ3, M4, acc, ds, ?_, hD4, rl4, Nat.le_succ_of_le hacc, ?_, c⟩
      · rw [← ws, ← kk]; exact (G5.wiped vs).mono (Nat.le_add_right _ _)
      · rw [G5.len, e1, wipe_length]
    | true =>
      refine ⟨_, _, D :: M0, ρ3, M4, _, X0, w.up lt1, hD0 G5, c, XOk.none, fun u fr ρ4 y H5 M5 c r => ?_⟩
      have r := r.cast
      obtain ⟨dd, rfl, c⟩ := c
      obtain ⟨hD5, rl5⟩ := carry r.gd hD4 rl4
      have G6 := r.gd.tail
      have ry : Rep K H5 M5 y dd := r.rep
      have kp : Kp M5 H5 (upd H5 D (.lst (acc ++ [y]))) := Kp.store (G6.sub D List.mem_cons_self) hD5
      refine ⟨acc, hD5, by omega, ρ4, M5, acc ++ [y], ds ++ [dd], ?_, upd_same, (rl5.append (.cons ry .nil)).keep kp, by rw [List.length_append, List.length_singleton]; omega, by rw [G6.len, e1, wipe_length], c⟩
      rw [← ws, ← kk]
      exact (G6.writeF List.mem_cons_self hDW hD5 hB).wiped vs
  · have e : i = xs.length := by omega
    subst e
    rw [List.drop_length] at c
    refine .inl ⟨wk2 _ (Nat.le_refl _), h _ _ _ _ _ (M2.filter (fun a => decide (a ≠ D))) c ?_⟩
    have G2 := G2.mono (Nat.add_le_add_left (Nat.mul_le_mul_right (dc.m + de.m) hxs) di.m)
    have G7 : Gd (W.up (di.m + sizeLine * (dc.m + de.m))) K (⟨H1, M1, M1⟩ :: B) (D :: M0) (backE ρ1 ρ' vs) σ H2 M2 := by
      refine G2.reEnv (by rw [backE_length]; exact hlen) fun j e hj => ?_
      rcases backE_some _ _ _ _ _ hj with ⟨h1, h2⟩ | ⟨h1, h2⟩
      · left
        rw [wipeE_at, wipe_at, if_neg (fun z => h1 z.1), if_neg (fun z => h1 z.1)]
        exact ⟨h2, rfl⟩
      · right
        obtain ⟨v, q1, q2⟩ := G1.ent j e h2
        unfold EntOk at q2
        rw [if_neg (by rw [h1]; simp)] at q2
        exact ⟨h1, v, q1, q2.move G2.kp G2.nw⟩
    have own : ∀ a, Owns (backE ρ1 ρ' vs) σ a → a ∈ M2 ∧ a ≠ D := fun a o => by
      obtain ⟨q1, q2, _⟩ := G7.owned o
      exact ⟨q1, fun e => q2 (by rw [e]; exact List.mem_cons_self)⟩
    have G8 := (G7.unfence G1.wad).tail
    have m0D : ∀ a ∈ M0, a ≠ D := fun a z e => G1.liv a (G1.sub a z) (by rw [e]; exact hD)
    have fl : ∀ a, a ∈ M2.filter (fun a => decide (a ≠ D)) ↔ a ∈ M2 ∧ a ≠ D := fun a => by rw [List.mem_filter, decide_eq_true_iff]
    have G9 := G8.reM (M' := M2.filter (fun a => decide (a ≠ D))) (fun a z => ((fl a).mp z).1) (fun a z => (fl a).mpr ⟨G8.sub a z, m0D a z⟩) fun a o => (fl a).mpr (own a o)
    refine ⟨G9, ?_⟩
    rw [if_pos rfl]
    refine ⟨D, acc, ds, rfl, rfl, hDv, rl.less fun a z => ?_, fun z => ((fl D).mp z).2 rfl, G8.reM (fun a z => ?_) (fun a z => ?_) fun a o => ?_, fun b hb => hB b (List.mem_cons_of_mem _ hb)⟩
    · rcases List.mem_cons.mp z with rfl | z
      · exact G2.sub _ List.mem_cons_self
      · exact ((fl a).mp z).1
    · rcases List.mem_cons.mp z with rfl | z
      · exact G2.sub _ List.mem_cons_self
      · exact ((fl a).mp z).1
    · exact List.mem_cons_of_mem _ ((fl a).mpr ⟨G8.sub a z, m0D a z⟩)
    · exact List.mem_cons_of_mem _ ((fl a).mpr (own a o))
theorem kIfs0 {X : Cx} : PTs X [] (lT Wp X.K X.mg E kTrue) := ⟨fun pins s σ H Q I ⟨W, B, M0, ρ, M, P, R, w, G, d, x, h⟩ => pts_nil.run pins s σ H Q I (h _ _ _ _ d G)⟩
theorem kIfs1 {X : Cx} {c : Expr} {t : DT} (j : JT Wp E X c t) : PTs X [c] (lT Wp X.K X.mg E t) := pts_one j
end
end G9

/-! M11: comprehensions as values, methods, calls of defs. -/
namespace G9
open PySem PySem.Spec L2 PyProof.Rows
theorem _root_.L2.PE.weakI {X : Cx} {e : Expr} {t t' : TE} (h : PE X e t) (w : ∀ pins s σ H Q, Inv X pins σ H s → t' σ H Q → t σ H Q) : PE X e t' := ⟨fun pins s σ H Q I q => h.run pins s σ H Q I (w pins s σ H Q I q)⟩
theorem _root_.L2.PS.weakI {X : Cx} {e : Stmt} {t t' : TS} (h : PS X e t) (w : ∀ pins s σ H D, Inv X pins σ H s → t' D σ H → t D σ H) : PS X e t' := ⟨fun pins s σ H D I q => h.run pins s σ H D I (w pins s σ H D I q)⟩
/-- what every rule asks of the context -/
structure Gx (X : Cx) : Prop where
  calm : X.calm = true
  gd : X.A.guards = some []
  un : X.A.units + 65 < cLine
  nd : X.N.Nodup
theorem Gx.blk {X : Cx} (g : Gx X) (s : Shared) (H : Hp) (sc : Scope) (env : Env) (fp : List Addr) : Gx (X.blk s H sc env fp) := ⟨g.calm, g.gd, g.un, g.nd⟩
section
variable {Wp : Wk → Prop} {E : XK} {X : Cx} {elt tgx iter : Expr} {ifs : List Expr} {scope : Scope} {own : List (Str × Nat)} {pos : Pos} {tg : List Nat} {tp : Bool} {di : DI} {dc : DT} {de : DE}
theorem own_lt {N : List Str} {sc scope : Scope} {own : List (Str × Nat)} (ok : BlkOk N sc scope own) {i : Nat} (h : i ∈ own.map (·.2)) : i < N.length := by
  obtain ⟨p, hp, rfl⟩ := List.mem_map.mp h
  exact (List.getElem?_eq_some_iff.mp (ok.ix p hp)).1
theorem jLc (g : Gx X) (hi : JI Wp E X tgx iter di) (ok : BlkOk X.N X.env.scope scope own) (sub : ∀ i ∈ tg, i ∈ own.map (·.2))
    (hg : ∀ (s : Shared) (H : Hp) (C : Addr) (cl : List (Str × Addr)) (fp : List Addr), PG (X.blk s H scope (compEnvC scope cl C X.env) fp) tgx (gB X.K tg tp))
    (ht : ∀ (s : Shared) (H : Hp) (C : Addr) (cl : List (Str × Addr)) (fp : List Addr), PTs (X.blk s H scope (compEnvC scope cl C X.env) fp) ifs (lT Wp X.K X.mg E dc))
    (he : ∀ (s : Shared) (H : Hp) (C : Addr) (cl : List (Str × Addr)) (fp : List Addr), JE Wp E (X.blk s H scope (compEnvC scope cl C X.env) fp) elt de)
    (hs : ∀ x, foldedSetIterable iter X.env x = pure x) : JE Wp E X (.ListComp elt [⟨tgx, iter, ifs, 0⟩] scope pos) (dLc (own.map (·.2)) tg tp di dc de) :=
  (pe_lc g.calm g.nd hi ok hg ht he hs).weakI fun pins s σ H Q I ⟨W, B, M0, ρ, M, P, R, w, G, d, x, h⟩ => lc_go w G d x sub (fun i hi => by rw [I.len]; exact own_lt ok (sub i hi)) h
end
/-! ### stores of one name -/
section
variable {Wp : Wk → Prop} {E : XK} {X : Cx} {W : Wk} {B : List Bs} {M0 : List Addr} {ρ : En} {σ : L2.St} {H : Hp} {M : List Addr} {DD : DK} {D : Ends} {H0 : Hp}
theorem lS_go {Wp : Wk → Prop} {K : PySem.W.Frag} {mg : Str → Option Value} {m : DS} (w : WP Wp W t) (G : Gd W K (⟨H0, W.ad, M0⟩ :: B) M0 ρ σ H M) (d : m ρ DD) (x : XOk W K mg E M0 (⟨H0, W.ad, M0⟩ :: B) DD.ex)
    (h1 : ∀ σ' ρ' H' M', σ'.length = σ.length → DD.nx ρ' → Gd (W.up m.m) K (⟨H0, W.ad, M0⟩ :: B) M0 ρ' σ' H' M' → D.nx σ' H') (h2 : ∀ u fr v H', DD.rt u fr → RetOk (W.up m.m) K H0 M0 H' v u fr → D.rt v H')
    (h3 : ∀ σ' ρ' H' M', σ'.length = σ.length → DD.bk ρ' → Gd (W.up m.m) K (⟨H0, W.ad, M0⟩ :: B) M0 ρ' σ' H' M' → D.bk σ' H') (h4 : ∀ σ' ρ' H' M', σ'.length = σ.length → DD.ct ρ' → Gd (W.up m.m) K (⟨H0, W.ad, M0⟩ :: B) M0 ρ' σ' H' M' → D.ct σ' H') (hle : m.m ≤ t := by first | exact Nat.le_refl _ | exact Nat.le_add_right _ _ | exact Nat.le_add_left _ _ | exact Nat.le_trans (Nat.le_add_right _ _) (Nat.le_add_right _ _) | exact Nat.add_le_add_left (Nat.le_add_right _ _) _ | exact Nat.add_le_add_left (Nat.le_add_left _ _) _) : lS Wp K mg E m D σ H :=
  ⟨W, H0, B, M0, ρ, M, DD, w.le hle, G, d, x, h1, h2, h3, h4⟩
theorem RetOk.cast {W : Wk} {K : PySem.W.Frag} {H0 : Hp} {M0 : List Addr} {H' : Hp} {v : V} {u : U} {fr : Bool} {a b : Nat} (r : RetOk ((W.up a).up b) K H0 M0 H' v u fr) : RetOk (W.up (a + b)) K H0 M0 H' v u fr := by
  rw [Wk.up_up] at r
  exact r
theorem lS_go' {Wp : Wk → Prop} {K : PySem.W.Frag} {mg : Str → Option Value} {m : DS} {j : Nat} (w : WP Wp W t) (G : Gd (W.up j) K (⟨H0, W.ad, M0⟩ :: B) M0 ρ σ H M) (d : m ρ DD) (x : XOk W K mg E M0 (⟨H0, W.ad, M0⟩ :: B) DD.ex)
    (h1 : ∀ σ' ρ' H' M', σ'.length = σ.length → DD.nx ρ' → Gd (W.up (j + m.m)) K (⟨H0, W.ad, M0⟩ :: B) M0 ρ' σ' H' M' → D.nx σ' H') (h2 : ∀ u fr v H', DD.rt u fr → RetOk (W.up (j + m.m)) K H0 M0 H' v u fr → D.rt v H')
    (h3 : ∀ σ' ρ' H' M', σ'.length = σ.length → DD.bk ρ' → Gd (W.up (j + m.m)) K (⟨H0, W.ad, M0⟩ :: B) M0 ρ' σ' H' M' → D.bk σ' H') (h4 : ∀ σ' ρ' H' M', σ'.length = σ.length → DD.ct ρ' → Gd (W.up (j + m.m)) K (⟨H0, W.ad, M0⟩ :: B) M0 ρ' σ' H' M' → D.ct σ' H') (hle : j + m.m ≤ t := by first | exact Nat.le_refl _ | exact Nat.le_add_right _ _ | exact Nat.le_add_left _ _ | exact Nat.le_trans (Nat.le_add_right _ _) (Nat.le_add_right _ _) | exact Nat.add_le_add_left (Nat.le_add_right _ _) _ | exact Nat.add_le_add_left (Nat.le_add_left _ _) _) : lS Wp K mg E m D σ H :=
  ⟨W.up j, H0, B, M0, ρ, M, DD, w.up hle, G, d, x.up, fun σ' ρ' H' M' e c G' => h1 _ _ _ _ e c G'.cast, fun u fr v H' c r => h2 _ _ _ _ c r.cast, fun σ' ρ' H' M' e c G' => h3 _ _ _ _ e c G'.cast, fun σ' ρ' H' M' e c G' => h4 _ _ _ _ e c G'.cast⟩
end
section
variable {Wp : Wk → Prop} {E : XK} {X : Cx} {e ea eb ec : Expr} {pos p1 p2 p3 : Pos} {i j : Nat} {x y : Str} {de da db : DE} {st : Stmt} {rest sa sb : List Stmt} {ds dt d1 d2 : DS}
theorem sNil : JB Wp E X [] sSkip := pss_nil.weak fun D σ H ⟨W, H0, B, M0, ρ, M, DD, w, G, d, x, h1, h2, h3, h4⟩ => h1 _ _ _ _ rfl d G
theorem sOne (h : JS Wp E X st ds) : JB Wp E X [st] ds := pss_one h
theorem sCons (h : JS Wp E X st ds) (hr : JB Wp E X rest dt) : JB Wp E X (st :: rest) (sSeq ds dt) :=
  (pss_cons h hr).weak fun D σ H ⟨W, H0, B, M0, ρ, M, DD, w, G, d, x, h1, h2, h3, h4⟩ => lS_go w G d x (fun σ' ρ' H' M' e1 c G' => lS_go' w G' c x (fun σ'' _ _ _ e2 => h1 _ _ _ _ (e2.trans e1)) h2 (fun σ'' _ _ _ e2 => h3 _ _ _ _ (e2.trans e1)) (fun σ'' _ _ _ e2 => h4 _ _ _ _ (e2.trans e1)))
    (fun u fr v H' c r => h2 _ _ _ _ c (r.mono (Nat.le_add_right _ _))) (fun σ' ρ' H' M' e c G' => h3 _ _ _ _ e c (G'.mono (Nat.le_add_right _ _))) (fun σ' ρ' H' M' e c G' => h4 _ _ _ _ e c (G'.mono (Nat.le_add_right _ _)))
theorem sPass : JS Wp E X (.Pass pos) sSkip := ps_pass.weak fun D σ H ⟨W, H0, B, M0, ρ, M, DD, w, G, d, x, h1, h2, h3, h4⟩ => h1 _ _ _ _ rfl d G
theorem sDoc {z : Str} {n : Nat} : JS Wp E X (.Expr (.Constant (.str z) n p1) pos) sSkip := ps_doc.weak fun D σ H ⟨W, H0, B, M0, ρ, M, DD, w, G, d, x, h1, h2, h3, h4⟩ => h1 _ _ _ _ rfl d G
theorem sBrk0 : JS Wp E X (.Break pos) sBrk := ps_break.weak fun D σ H ⟨W, H0, B, M0, ρ, M, DD, w, G, d, x, h1, h2, h3, h4⟩ => h3 _ _ _ _ rfl d G
theorem sCnt0 : JS Wp E X (.Continue pos) sCnt := ps_continue.weak fun D σ H ⟨W, H0, B, M0, ρ, M, DD, w, G, d, x, h1, h2, h3, h4⟩ => h4 _ _ _ _ rfl d G
theorem sSet0 (g : Gx X) (hi : X.N[i]? = some x) (hx : Loc X.env.scope x) (he : JE Wp E X e de) (hs : swapsWith e (some (.Name x p1)) pos.line X.env = pure false) (hf : X.fn x = true ∨ X.env.scope.names.lookup x = some .local) :
    JS Wp E X (.Assign [.Name x p1] e pos) (sSet i de) :=
  (ps_set g.nd hi hx he hs hf).weakI fun pins s σ H D I ⟨W, H0, B, M0, ρ, M, DD, w, G, d, x, h1, h2, h3, h4⟩ => lE_go w G d x fun u fr ρ' v H' M' c r => by
    have hl : i < σ.length := by rw [I.len]; exact (List.getElem?_eq_some_iff.mp hi).1
    obtain ⟨M2, G2⟩ := r.put hl
    exact h1 _ _ _ _ (by rw [List.length_set]) c G2
/-- name = [..], the comprehension on the name's line -/
theorem sSetLc {elt tgx iter : Expr} {ifs : List Expr} {scope : Scope} {own : List (Str × Nat)} {tg : List Nat} {tp : Bool} {di : DI} {dc : DT} {de : DE} (g : Gx X) (hy : X.N[i]? = some y) (hyl : X.env.scope.names.lookup y = some .local)
    (hsw : swapsWith (.ListComp elt [⟨tgx, iter, ifs, 0⟩] scope p2) (some (.Name y p1)) pos.line X.env = pure true) (hi : JI Wp E X tgx iter di) (ok : BlkOk X.N X.env.scope scope own) (sub : ∀ i ∈ tg, i ∈ own.map (·.2))
    (hg : ∀ (s : Shared) (H : Hp) (C : Addr) (cl : List (Str × Addr)) (fp : List Addr), PG (X.blk s H scope (compEnvC scope cl C X.env) fp) tgx (gB X.K tg tp))
    (ht : ∀ (s : Shared) (H : Hp) (C : Addr) (cl : List (Str × Addr)) (fp : List Addr), PTs (X.blk s H scope (compEnvC scope cl C X.env) fp) ifs (lT Wp X.K X.mg E dc))
    (he : ∀ (s : Shared) (H : Hp) (C : Addr) (cl : List (Str × Addr)) (fp : List Addr), JE Wp E (X.blk s H scope (compEnvC scope cl C X.env) fp) elt de)
    (hs : ∀ x, foldedSetIterable iter X.env x = pure x) : JS Wp E X (.Assign [.Name y p1] (.ListComp elt [⟨tgx, iter, ifs, 0⟩] scope p2) pos) (sSet i (dLc (own.map (·.2)) tg tp di dc de)) :=
  (ps_setLc g.calm g.nd hy hyl hsw hi ok hg ht he hs).weakI fun pins s σ H D I ⟨W, H0, B, M0, ρ, M, DD, w, G, d, x, h1, h2, h3, h4⟩ =>
    lc_go w G (show (dLc (own.map (·.2)) tg tp di dc de).f ρ (fun u fr ρ' => DD.nx (En.put ρ' i fr u)) DD.ex from d) x sub (fun i hi => by rw [I.len]; exact own_lt ok (sub i hi)) fun u fr ρ' v H' M' c r => by
      have hl : i < σ.length := by rw [I.len]; exact (List.getElem?_eq_some_iff.mp hy).1
      obtain ⟨M2, G2⟩ := r.put hl
      exact h1 _ _ _ _ (by rw [List.length_set]) c G2
theorem sDrop0 (he : JE Wp E X e de) (hs : swapsWith e none pos.line X.env = pure false) : JS Wp E X (.Expr e pos) (sDrop de) :=
  (ps_expr he hs).weak fun D σ H ⟨W, H0, B, M0, ρ, M, DD, w, G, d, x, h1, h2, h3, h4⟩ => lE_go w G d x fun u fr ρ' v H' M' c r => h1 _ _ _ _ rfl c r.gd
theorem Res.ret {K : PySem.W.Frag} {W : Wk} {B : List Bs} {M0 : List Addr} {ρ : En} {σ : L2.St} {H0 H : Hp} {M : List Addr} {v : V} {u : U} {fr : Bool} (r : Res W K (⟨H0, W.ad, M0⟩ :: B) M0 ρ σ H M v u fr) : RetOk W K H0 M0 H v u fr := by
  have rr := r.rep
  obtain ⟨G, r⟩ := r
  refine ⟨G.wok, G.kp, ?_⟩
  cases fr with
  | false => rw [if_neg (by simp)]; exact rr.move (Kp.refl _ _) fun a z => .inl (G.sub a z)
  | true =>
    rw [if_pos rfl] at r ⊢
    obtain ⟨a, vs, ds, q1, q2, q3, q4, q5, q6, q7⟩ := r
    exact ⟨a, vs, ds, q1, q2, q3, q4.less fun b z => (List.mem_cons.mp z).elim (fun e => by rw [e]; exact List.mem_cons_self) fun e => List.mem_cons_of_mem _ (G.sub b e), q7 _ List.mem_cons_self⟩
theorem sRet0 (he : JE Wp E X e de) : JS Wp E X (.Return (some e) pos) (sRet de) :=
  (ps_ret he).weak fun D σ H ⟨W, H0, B, M0, ρ, M, DD, w, G, d, x, h1, h2, h3, h4⟩ => lE_go w G d x fun u fr ρ' v H' M' c r => h2 _ _ _ _ c r.ret
theorem sRetV0 (he : JO Wp E X e (oSlot i)) : JS Wp E X (.Return (some e) pos) (sRetV i) :=
  (ps_ret he).weak fun D σ H ⟨W, H0, B, M0, ρ, M, DD, w, G, d, x, h1, h2, h3, h4⟩ => by
    obtain ⟨en, q, c⟩ := d
    refine lO_go (P := fun o ρ1 => o = .slot i ∧ ρ1 = ρ) (R := DD.ex) w G ⟨en, q, rfl, rfl⟩ x fun oa ρ1 v H1 M1 c1 G1 k1 => ?_
    obtain ⟨rfl, rfl⟩ := c1
    refine h2 _ _ _ _ c ?_
    obtain ⟨v', z1, z2⟩ := G1.ent i en (En.at_get q)
    have k1 : σ[i]? = some (some v) := k1
    rw [k1] at z1; cases z1
    refine ⟨G1.wok, G1.kp, ?_⟩
    unfold EntOk at z2
    split
    · rename_i ho
      rw [if_pos ho] at z2
      obtain ⟨a, vs, ds, e1, e2, q1, q2, q3, q4⟩ := z2
      have own : Owns ρ1 σ a := ⟨i, en, En.at_get q, ho, by rw [← e1]; exact k1⟩
      refine ⟨a, vs, ds, e1, e2, q3, q4.less fun b z => (List.mem_cons.mp z).elim (fun e => by rw [e]; exact q1) (G1.sub b), ?_⟩
      rcases (G1.bs _ List.mem_cons_self).2.2.2 a own with z | z
      · exact absurd (G1.wad a z) q2
      · exact z
    · rename_i ho
      rw [if_neg ho] at z2
      exact z2.move (Kp.refl _ _) fun a z => .inl (G1.sub a z)
theorem sRetN0 : JS Wp E X (.Return none pos) sRetN :=
  ps_retN.weak fun D σ H ⟨W, H0, B, M0, ρ, M, DD, w, G, d, x, h1, h2, h3, h4⟩ => h2 _ _ _ _ d (Res.ret (ρ := ρ) (.of G Rep.non))
theorem sIf0 {c : Expr} {dc : DT} (hc : JT Wp E X c dc) (ha : JB Wp E X sa d1) (hb : JB Wp E X sb d2) : JS Wp E X (.If c sa sb pos) (sIf dc d1 d2) :=
  (ps_if hc ha hb).weak fun D σ H ⟨W, H0, B, M0, ρ, M, DD, w, G, d, x, h1, h2, h3, h4⟩ => lT_go w G d x fun k ρ' H' M' c G' => by
    cases k with
    | true =>
      have le : dc.m + d1.m ≤ dc.m + (d1.m + d2.m) := Nat.add_le_add_left (Nat.le_add_right _ _) _
      exact lS_go' w G' c x (fun σ' ρ' H' M' e c G' => h1 _ _ _ _ e c (G'.mono le)) (fun u fr v H' c r => h2 _ _ _ _ c (r.mono le)) (fun σ' ρ' H' M' e c G' => h3 _ _ _ _ e c (G'.mono le)) (fun σ' ρ' H' M' e c G' => h4 _ _ _ _ e c (G'.mono le))
    | false =>
      have le : dc.m + d2.m ≤ dc.m + (d1.m + d2.m) := Nat.add_le_add_left (Nat.le_add_left _ _) _
      exact lS_go' w G' c x (fun σ' ρ' H' M' e c G' => h1 _ _ _ _ e c (G'.mono le)) (fun u fr v H' c r => h2 _ _ _ _ c (r.mono le)) (fun σ' ρ' H' M' e c G' => h3 _ _ _ _ e c (G'.mono le)) (fun σ' ρ' H' M' e c G' => h4 _ _ _ _ e c (G'.mono le))
/-- targets that take a tuple apart -/
theorem sSetT0 {tgx : Expr} {tg : List Nat} (g : Gx X) (he : JE Wp E X e de) (hg : PG X tgx (gB X.K tg true)) (ht : ∀ i ∈ tg, i < X.N.length) (hs : swapsWithSole [tgx] e pos.line X.env = pure false) (hw : swappedStores [tgx] e X.env = pure none)
    (h1 : (assignEach [tgx] X.env).map (·.2) = [assign tgx X.env]) : JS Wp E X (.Assign [tgx] e pos) (sSetT tg de) :=
  (ps_asg he hg hs hw h1).weakI fun pins s σ H D I ⟨W, H0, B, M0, ρ, M, DD, w, G, d, x, h1, h2, h3, h4⟩ => lE_go w G d x fun u fr ρ' v H' M' c r => by
    obtain ⟨y, e, c⟩ := c
    exact bind_go r.gd (r.val e) c (fun i hi => by rw [I.len]; exact ht i hi) fun ρ2 σ2 e1 _ c G2 => h1 _ _ _ _ e1 c G2
theorem sFor0 {tgx iter : Expr} {tg : List Nat} {tp : Bool} {di : DI} {body : List Stmt} {db : DS} (g : Gx X) (hp : PassesOwn (model X.prog X.w) X.A X.env X.xe) (hi : JI Wp E X tgx iter di) (hg : PG X tgx (gB X.K tg tp)) (ht : ∀ i ∈ tg, i < X.N.length) (hb : JB Wp E X body db)
    (hs : ∀ x, foldedSetIterable iter X.env x = pure x) : JS Wp E X (.For tgx iter body [] pos) (sFor tg tp di db) := by
  refine (ps_for hp g.calm hi hg hb hs).weakI fun pins s σ H D I ⟨W, H0, B, M0, ρ, M, DD, w, G, d, x, h1, h2, h3, h4⟩ => ?_
  refine ⟨W, _, M0, ρ, M, _, _, w.le (Nat.le_add_right _ _), G, d, x, fun xs ρ1 J H1 M1 c hxs G1 wk => ?_⟩
  generalize hf : (fun (x : PyData) (ρ' : En) (k : En → Prop) => bindT tg tp x ρ' fun ρ2 => db ρ2 { DD with nx := k, ct := k, bk := DD.nx }) = f at c
  have hfx : ∀ (x : PyData) (ρ' : En) (k : En → Prop), f x ρ' k = bindT tg tp x ρ' fun ρ2 => db ρ2 { DD with nx := k, ct := k, bk := DD.nx } := fun x ρ' k => by rw [← hf]
  let Iv : Nat → L2.St → Hp → Prop := fun i σ H => ∃ ρ' M, Gd (W.up (di.m + i * db.m)) X.K (⟨H1, M1, M1⟩ :: ⟨H0, W.ad, M0⟩ :: B) M0 ρ' σ H M ∧ σ.length = X.N.length ∧ forL f (xs.drop i) ρ' DD.nx
  refine ⟨fun i m σ H => m = xs.length - i ∧ i ≤ xs.length ∧ Iv i σ H, ⟨xs.length, by simp, Nat.zero_le _, ρ1, M1, G1.base.mono (Nat.le_add_right _ _), I.len, c⟩, ?_⟩
  rintro i m σ2 H2 ⟨rfl, hi, ρ2, M2, G2, hlen, c⟩
  obtain ⟨wk1, wk2⟩ := wk M2 H2 G2.kp G2.nw
  by_cases hlt : i < xs.length
  · have hx : xs[i]? = some xs[i] := by simp [hlt]
    rw [List.drop_eq_getElem_cons hlt] at c
    generalize xs[i] = xi at hx c
    obtain ⟨go, yl⟩ := wk1 i xi hx
    refine .inr ⟨go, Iv (i + 1), fun σ' H' p' => ⟨xs.length - (i + 1), by omega, rfl, hlt, p'⟩, fun v H3 y => ?_⟩
    obtain ⟨gr, rv⟩ := yl v H3 y
    have c : f xi ρ2 (fun ρ' => forL f (xs.drop (i + 1)) ρ' DD.nx) := c
    rw [hfx] at c
    refine bind_go (G2.grown gr) (rv M2 fun _ z => z) c (fun j hj => by rw [hlen]; exact ht j hj) fun ρ3 σ3 e1 e2 c G3 => ?_
    have G4 : Gd (W.up (di.m + i * db.m)) X.K (⟨H0, W.ad, M0⟩ :: ⟨H1, M1, M1⟩ :: B) M0 ρ3 σ3 H3 M2 := G3.sub_b fun b hb => by
      rcases List.mem_cons.mp hb with rfl | hb
      · exact List.mem_cons_of_mem _ List.mem_cons_self
      · rcases List.mem_cons.mp hb with rfl | hb
        · exact List.mem_cons_self
        · exact List.mem_cons_of_mem _ (List.mem_cons_of_mem _ hb)
    have back : ∀ {j ρ σ H M}, Gd (W.up j) X.K (⟨H0, W.ad, M0⟩ :: ⟨H1, M1, M1⟩ :: B) M0 ρ σ H M → Gd (W.up j) X.K (⟨H1, M1, M1⟩ :: ⟨H0, W.ad, M0⟩ :: B) M0 ρ σ H M := fun G => G.sub_b fun b hb => by
      rcases List.mem_cons.mp hb with rfl | hb
      · exact List.mem_cons_of_mem _ List.mem_cons_self
      · rcases List.mem_cons.mp hb with rfl | hb
        · exact List.mem_cons_self
        · exact List.mem_cons_of_mem _ (List.mem_cons_of_mem _ hb)
    have x2 : XOk W X.K X.mg E M0 (⟨H0, W.ad, M0⟩ :: ⟨H1, M1, M1⟩ :: B) DD.ex := x.more fun b hb => by
      rcases List.mem_cons.mp hb with rfl | hb
      · exact List.mem_cons_self
      · exact List.mem_cons_of_mem _ (List.mem_cons_of_mem _ hb)
    have out : ∀ {j ρ σ H M}, Gd (W.up j) X.K (⟨H0, W.ad, M0⟩ :: ⟨H1, M1, M1⟩ :: B) M0 ρ σ H M → Gd (W.up j) X.K (⟨H0, W.ad, M0⟩ :: B) M0 ρ σ H M := fun G => (back G).tail
    have e3 : σ3.length = X.N.length := by rw [e1]; exact hlen
    have kk : di.m + i * db.m + db.m = di.m + (i + 1) * db.m := by rw [Nat.succ_mul, Nat.add_assoc]
    have le : di.m + i * db.m + db.m ≤ di.m + sizeLine * db.m := by rw [kk]; exact Nat.add_le_add_left (Nat.mul_le_mul_right _ (by omega)) _
    have nxt : ∀ {ρ σ H M}, Gd (W.up (di.m + i * db.m + db.m)) X.K (⟨H0, W.ad, M0⟩ :: ⟨H1, M1, M1⟩ :: B) M0 ρ σ H M → Gd (W.up (di.m + (i + 1) * db.m)) X.K (⟨H1, M1, M1⟩ :: ⟨H0, W.ad, M0⟩ :: B) M0 ρ σ H M := fun G => by
      rw [← kk]; exact back G
    exact lS_go' (hle := le) w G4 c x2 (fun σ' ρ' H' M' e c G' => ⟨ρ', M', nxt G', e.trans e3, c⟩) (fun u fr v H' c r => h2 _ _ _ _ c (r.mono le)) (fun σ' ρ' H' M' e c G' => h1 _ _ _ _ (by rw [e, e3, I.len]) c ((out G').mono le)) fun σ' ρ' H' M' e c G' => ⟨ρ', M', nxt G', e.trans e3, c⟩
  · have e : i = xs.length := by omega
    subst e
    rw [List.drop_length] at c
    exact .inl ⟨wk2 _ (Nat.le_refl _), h1 _ _ _ _ (by rw [hlen, I.len]) c (G2.tail.mono (Nat.add_le_add_left (Nat.mul_le_mul_right _ hxs) _))⟩
end
end G9

/-! M12: methods, defs' promises and their calls, pairs of stores, while. -/
namespace G9
open PySem PySem.Spec L2 PyProof.Rows
section
variable {K : PySem.W.Frag} {W : Wk} {B : List Bs} {M0 : List Addr} {ρ : En} {σ : L2.St} {H H' : Hp} {M : List Addr}
theorem datas_of : ∀ {us : List U} {xs : List PyData}, datas us = some xs → us = xs.map .d
  | [], _, e => by cases e; rfl
  | .d x :: us, _, e => by
    have e : (datas us).map (x :: ·) = some _ := e
    cases q : datas us with
    | none => rw [q] at e; cases e
    | some ys => rw [q] at e; cases e; rw [datas_of q]; rfl
  | .deck :: us, _, e => by cases e
  | .ob _ :: us, _, e => by cases e
theorem RepL.dropLast {vs : List V} {ds : List PyData} (r : RepL K H M vs ds) : RepL K H M vs.dropLast ds.dropLast := by
  rw [List.dropLast_eq_take, List.dropLast_eq_take, r.length]
  exact r.take _
/-- an owned list at a slot -/
theorem Gd.at_own (G : Gd W K B M0 ρ σ H M) {i : Nat} {ds : List PyData} {v : V} (h : En.at ρ i = some ⟨true, .d (.list ds)⟩) (hv : σ[i]? = some (some v)) : ∃ a vs, v = .ref a ∧ a ∈ M ∧ H a = some (.lst vs) ∧ RepL K H M vs ds := by
  obtain ⟨v', h1, h2⟩ := G.ent i _ (En.at_get h)
  rw [hv] at h1; cases h1
  unfold EntOk at h2
  rw [if_pos rfl] at h2
  obtain ⟨a, vs, ds', e1, e2, q1, q2, q3, q4⟩ := h2
  cases e2
  exact ⟨a, vs, e1, q1, q3, q4⟩
end
def Mt.id : Mt → String
  | .append => "list.append"
  | .pop => "list.pop"
  | .popAt => "list.pop"
  | .join => "str.join"
  | .extend => "list.extend"
def Mt.ty : Mt → String
  | .join => "str"
  | _ => "list"
def Mt.nm : Mt → Str
  | .append => "append"
  | .pop => "pop"
  | .popAt => "pop"
  | .join => "join"
  | .extend => "extend"
def rMt (K : PySem.W.Frag) : Mt → V → List V → Hp → VK → Prop
  | .append => rAppend
  | .pop => rPop
  | .popAt => rPopAt
  | .join => fun x xs H Q => ∃ a p, ∃ ys : List Str, x = .str a ∧ xs = [.ref p] ∧ (SqL K H p (ys.map V.str) ∨ SqT K H p (ys.map V.str)) ∧ (ys.map (·.length)).sum + ys.length * a.length ≤ 16777216 ∧ Q (.str (Txt.join a ys)) H
  | .extend => rExtend
theorem mt_all {X : Cx} : ∀ m : Mt, MtR X m.id (rMt X.K m)
  | .append => mt_append
  | .pop => mt_pop
  | .popAt => mt_popAt
  | .join => mt_join
  | .extend => mt_extend
theorem mt_pa : ∀ m : Mt, PlainAttrs m.ty
  | .append => F.plainAttrs_list
  | .pop => F.plainAttrs_list
  | .popAt => F.plainAttrs_list
  | .join => F.plainAttrs_str
  | .extend => F.plainAttrs_list
theorem mt_slot : ∀ m : Mt, Slot m.ty m.nm m.id
  | .append => F.slot_list_append
  | .pop => F.slot_list_pop
  | .popAt => F.slot_list_pop
  | .join => F.slot_str_join
  | .extend => F.slot_list_extend
theorem mt_type : ∀ m : Mt, typeOf (.builtin m.id) = pure (.type "method_descriptor")
  | .append => F.type_list_append
  | .pop => F.type_list_pop
  | .popAt => F.type_list_pop
  | .join => F.type_str_join
  | .extend => F.type_list_extend
section
variable {K : PySem.W.Frag} {W : Wk} {B : List Bs} {M0 : List Addr} {ρ : En} {σ : L2.St} {H : Hp} {M : List Addr}
theorem mt_ty {m : Mt} {o : Opd} {v : V} (G : Gd W K B M0 ρ σ H M) (ok : OpdOk W K σ H M v o) (c : mtR m ρ o) : tyV K m.ty v H := by
  cases m with
  | join =>
    obtain ⟨s, e⟩ := c
    obtain rfl := RepPk.str_inv (OpdOk.pk G ok e)
    exact rfl
  | _ =>
    obtain ⟨ds, e⟩ := c
    obtain ⟨a, vs, rfl, ha, _⟩ := (OpdOk.pk G ok e).list_inv
    exact .inl ⟨rfl, vs, SqL.of ha⟩
theorem mt_go {m : Mt} {o : Opd} {v : V} {vs : List V} {xs : List PyData} {C : PyData → En → Prop} {Q : VK} (G : Gd W K B M0 ρ σ H M) (ok : OpdOk W K σ H M v o) (r : RepL K H M vs xs) (c : mtS m ρ o xs C)
    (h : ∀ z ρ' v' H' M', C z ρ' → Res W K B M0 ρ' σ H' M' v' (.d z) false → Q v' H') : rMt K m v vs H Q := by
  cases m with
  | append =>
    unfold mtS at c
    split at c <;> try contradiction
    rename_i x e
    cases e
    obtain ⟨i, ds, rfl, e2, hz, c⟩ := c
    obtain ⟨a, ws, rfl, ham, ha, rl⟩ := G.at_own e2 ok
    cases r with
    | cons r1 r2 =>
      cases r2
      have G2 := G.write (En.at_get e2) rfl ok ha (rl.append (.cons r1 .nil))
      exact ⟨a, ws, _, rfl, rfl, ha, by rw [rl.length]; exact hz, h _ _ _ _ _ c (.of G2 Rep.non)⟩
  | extend =>
    unfold mtS at c
    split at c <;> try contradiction
    rename_i ys e
    cases e
    obtain ⟨i, ds, rfl, e2, hz, c⟩ := c
    obtain ⟨a, ws, rfl, ham, ha, rl⟩ := G.at_own e2 ok
    cases r with
    | cons r1 r2 =>
      cases r2
      cases r1 with
      | lst hn hb q =>
        have G2 := G.write (En.at_get e2) rfl ok ha (rl.append q)
        exact ⟨a, _, ws, _, rfl, rfl, ha, hb, by rw [rl.length, q.length]; exact hz, h _ _ _ _ _ c (.of G2 Rep.non)⟩
  | pop =>
    unfold mtS at c
    split at c <;> try contradiction
    rename_i e
    cases e
    obtain ⟨i, ds, y, rfl, e2, hy, c⟩ := c
    obtain ⟨a, ws, rfl, ham, ha, rl⟩ := G.at_own e2 ok
    cases r
    obtain ⟨u, hu, ru⟩ := rl.get hy
    have G2 := G.write (En.at_get e2) rfl ok ha rl.dropLast
    exact ⟨a, ws, u, rfl, rfl, ha, by rw [rl.length]; exact hu, h _ _ _ _ _ c (.of G2 (ru.keep (Kp.store ham ha)))⟩
  | popAt =>
    unfold mtS at c
    split at c <;> try contradiction
    rename_i k e
    cases e
    obtain ⟨i, ds, j, y, rfl, e2, k1, k2, hj, hy, c⟩ := c
    obtain ⟨a, ws, rfl, ham, ha, rl⟩ := G.at_own e2 ok
    cases r with
    | cons r1 r2 =>
      cases r2
      obtain rfl := Rep.int_inv r1
      obtain ⟨u, hu, ru⟩ := rl.get hy
      have G2 := G.write (En.at_get e2) rfl ok ha (rl.eraseIdx j)
      exact ⟨a, ws, k, j, u, rfl, rfl, ha, k1, k2, by rw [rl.length]; exact (ixN_seq hj).1, hu, h _ _ _ _ _ c (.of G2 (ru.keep (Kp.store ham ha)))⟩
  | join =>
    unfold mtS at c
    split at c <;> try contradiction
    rename_i ys e
    cases e
    obtain ⟨s, zs, e1, e2, hz, c⟩ := c
    obtain rfl := RepPk.str_inv (OpdOk.pk G ok e1)
    cases r with
    | cons r1 r2 =>
      cases r2
      cases r1 with
      | lst hn hb q =>
        rw [strsD_map e2] at q
        rw [q.strs] at hb
        exact ⟨s, _, zs, rfl, rfl, .inl (SqL.of hb), hz, h _ _ _ _ _ c (Res.str G _)⟩
end
section
variable {Wp : Wk → Prop} {E : XK} {X : Cx} {o e : Expr} {es : List Expr} {do_ : DO} {aa : DA} {apos cpos : Pos} {m : Mt} {nm : Str}
theorem jMth0 (hnm : m.nm = nm) (ho : JO Wp E X o do_) (hbase : attributeBase o nm X.env (eval o X.env) = eval o X.env) (hline : (apos.endLine == cpos.line) = true) : JE Wp E X (.Call (.Attribute o nm apos) [] [] cpos) (dMth m do_ aNil) := by
  subst hnm
  refine (pe_bm0 (mt_pa m) (mt_slot m) (mt_type m) (mt_all m) ho hbase hline).weak fun σ H Q ⟨W, B, M0, ρ, M, P, R, w, G, d, x, h⟩ => ?_
  refine lO_go w G d x fun oo ρ1 v H1 M1 c G1 k1 => ?_
  obtain ⟨c1, xs, e, c⟩ := c
  cases e
  exact ⟨mt_ty G1 k1 c1, mt_go G1 k1 .nil c fun z ρ' v' H' M' c r => h _ _ _ _ _ _ c r⟩
theorem jMth (hnm : m.nm = nm) (ho : JO Wp E X o do_) (ha : JA Wp E X (e :: es) aa) (hbase : attributeBase o nm X.env (eval o X.env) = eval o X.env)
    (hfew : ((backTo cpos (starEach (e :: es) X.env)).all (fun x => !x.1) && (backToKw cpos (keywordEach [] X.env)).all (fun x => x.1.isSome)
      && decide ((e :: es).length + ([] : List Keyword).length + (if ([] : List Keyword).isEmpty then 0 else 1) < 30)) = true)
    (hline : (apos.endLine == cpos.line) = true) (hs : starEach (e :: es) X.env = (false, eval e X.env) :: starEach es X.env) (hplain : (backTo cpos (starEach es X.env)).any (·.1) = false) :
    JE Wp E X (.Call (.Attribute o nm apos) (e :: es) [] cpos) (dMth m do_ aa) := by
  subst hnm
  refine (pe_bm (mt_pa m) (mt_slot m) (mt_type m) (mt_all m) ho ha hbase hfew hline hs hplain).weak fun σ H Q ⟨W, B, M0, ρ, M, P, R, w, G, d, x, h⟩ => ?_
  refine lO_go w G d x fun oo ρ1 v H1 M1 c G1 k1 => ?_
  obtain ⟨c1, c⟩ := c
  refine ⟨mt_ty G1 k1 c1, lA_go' w G1.base c x.cons fun us ρ2 vs H2 M2 c G2 p => ?_⟩
  obtain ⟨xs, e, c⟩ := c
  exact mt_go G2.tail (OpdOk.later G2 k1) (datas_rep p e) c fun z ρ' v' H' M' c r => h _ _ _ _ _ _ c r
end
/-! ### promises -/
/-- a def's promise from its worth f: n arguments -/
def spG (Wp : Wk → Prop) (K : PySem.W.Frag) (mg : Str → Option Value) (n : Nat) (f : FSpec) : Sp := fun vs H Q E => ∃ W M us P R, WP Wp W f.m ∧ W.ok H ∧ (∀ a ∈ W.ad, a ∈ M) ∧ (∀ a ∈ M, H a ≠ none) ∧ (∃ o u, H sysModules = some (.frz o u)) ∧
  vs.length = n ∧ Paired (RepU W K H M) vs us ∧ f us P R ∧ (∀ u fr v H', P u fr → RetOk (W.up f.m) K H M H' v u fr → Q v H') ∧ (∀ x C od H', R x → ExnAt K mg H' M x C od → Kp W.ad H H' → (∃ k, (W.up k).ok H') → E C od H')
section
variable {K : PySem.W.Frag} {W : Wk} {B : List Bs} {M0 : List Addr} {ρ : En} {σ : L2.St} {H H' : Hp} {M : List Addr}
/-- behind a call that gave a list of its own -/
theorem Gd.calledN (G : Gd W K B M0 ρ σ H M) (k : Kp W.ad H H') (w : W.ok H') {p : Addr} (hp : H p = none) (hl : H' p ≠ none) : Gd W K B M0 ρ σ H' (p :: M) := by
  have wm : ∀ a ∈ W.ad, a ∈ M := fun a z => G.sub a (G.wad a z)
  have G1 := G.called k w
  refine ⟨G1.sm, w, G.wad, fun a z => List.mem_cons_of_mem _ (G.sub a z), fun a z => ?_, G.len, fun b hb => ?_, fun i e h => ?_, G.sep⟩
  · rcases List.mem_cons.mp z with rfl | z
    · exact hl
    · exact G1.liv a z
  · obtain ⟨q1, q2, q3, q4⟩ := G1.bs b hb
    refine ⟨q1, q2, fun a z => ?_, q4⟩
    rcases List.mem_cons.mp z with rfl | z
    · exact .inr (G.old hb hp)
    · exact q3 a z
  · obtain ⟨v, h1, h2⟩ := G.ent i e h
    refine ⟨v, h1, h2.move (k.more wm) (fun a z => ?_) fun a _ _ z n => ⟨List.mem_cons_of_mem _ z, fun o' e' => k.same a o' (fun y => n (G.wad a y)) e'⟩⟩
    rcases List.mem_cons.mp z with rfl | z
    · exact .inr hp
    · exact .inl z
theorem call_go {Wp : Wk → Prop} {mg : Str → Option Value} {E : XK} {n : Nat} {f : FSpec} {vs : List V} {us : List U} {P : U → Bool → En → Prop} {R : RK} {Q : VK} (w : WP Wp W f.m) (G : Gd W K B M0 ρ σ H M) (hl : vs.length = n) (p : Paired (RepU W K H M) vs us) (d : f us (fun u fr => P u fr ρ) R) (x : XOk W K mg E M0 B R)
    (h : ∀ u fr ρ' v H' M', P u fr ρ' → Res (W.up f.m) K B M0 ρ' σ H' M' v u fr → Q v H') : spG Wp K mg n f vs H Q E := by
  refine ⟨W, M, us, _, R, w, G.wok, fun a z => G.sub a (G.wad a z), G.liv, G.sm, hl, p, d, fun u fr v H' c r => ?_, fun y C od H' hr he hk hw => ?_⟩
  · obtain ⟨r1, r2, r3⟩ := r
    have Gu : Gd (W.up f.m) K B M0 ρ σ H M := Gd.mono (a := 0) (Nat.zero_le _) G
    have G1 := Gu.called r2 r1
    cases fr with
    | false => rw [if_neg (by simp)] at r3; exact h _ _ _ _ _ _ c (.of G1 r3)
    | true =>
      rw [if_pos rfl] at r3
      obtain ⟨a, ws, ds, rfl, rfl, q1, q2, q3⟩ := r3
      refine h _ _ _ _ _ _ c ⟨G1, ?_⟩
      rw [if_pos rfl]
      exact ⟨a, ws, ds, rfl, rfl, q1, q2, fun z => G.liv a z q3, Gu.calledN r2 r1 q3 (by rw [q1]; exact fun z => nomatch z), fun b hb => G.old hb q3⟩
  · rcases x with x | ⟨b, hb, x⟩
    · exact absurd hr (x y)
    · obtain ⟨k, hw⟩ := hw
      have Gu : Gd (W.up k) K B M0 ρ σ H M := Gd.mono (a := 0) (Nat.zero_le _) G
      have G1 := Gu.called hk hw
      refine x y C od H' hr ⟨he.1, ?_⟩ (G1.bs b hb).1 ⟨k, hw⟩
      have e2 := he.2
      cases q : y.fld with
      | none => rw [q] at e2; exact e2
      | some fd =>
        rw [q] at e2
        obtain ⟨a, v, e3, e4, e5⟩ := e2
        exact ⟨a, v, e3, e4, e5.less G.sub⟩
theorem call_go' {Wp : Wk → Prop} {mg : Str → Option Value} {E : XK} {n j : Nat} {f : FSpec} {vs : List V} {us : List U} {P : U → Bool → En → Prop} {R : RK} {Q : VK} (w : WP Wp W t) (G : Gd (W.up j) K B M0 ρ σ H M) (hl : vs.length = n) (p : Paired (RepU W K H M) vs us) (d : f us (fun u fr => P u fr ρ) R) (x : XOk W K mg E M0 B R)
    (h : ∀ u fr ρ' v H' M', P u fr ρ' → Res (W.up (j + f.m)) K B M0 ρ' σ H' M' v u fr → Q v H') (hle : j + f.m ≤ t := by first | exact Nat.le_refl _ | exact Nat.le_add_right _ _ | exact Nat.le_add_left _ _ | exact Nat.le_trans (Nat.le_add_right _ _) (Nat.le_add_right _ _) | exact Nat.add_le_add_left (Nat.le_add_right _ _) _ | exact Nat.add_le_add_left (Nat.le_add_left _ _) _) : spG Wp K mg n f vs H Q E :=
  call_go (w.up hle) G hl p d x.up fun u fr ρ' v H' M' c r => h _ _ _ _ _ _ c r.cast
theorem Paired.len {α β : Type} {F : α → β → Prop} : ∀ {xs : List α} {ys : List β}, Paired F xs ys → xs.length = ys.length
  | _, _, .nil => rfl
  | _, _, .cons _ t => congrArg (· + 1) (Paired.len t)
end
section
variable {Wp : Wk → Prop} {E : XK} {X : Cx} {CX : CXT} {k n : Nat} {f : Addr} {fd : FuncData} {ps ks : List Str} {sp : FSpec} {x : Str} {p pos : Pos} {e : Expr} {es : List Expr} {aa : DA}
/-- f(..): the number of arguments is told by the code -/
theorem jCall0 (F : FnG X.prog X.w X.K X.mg X.base CX k f fd ps (spG Wp X.K X.mg 0 sp)) (hr : RmG k X.A) (hg : Gl X x) (hm : X.mg x = some (.ref f)) (hk : PySem.W.keepIn X.K (.ref f) = true) (hb : Binds X.K fd ps []) (hx : Passes CX X E)
    (hdb : (x == ("__debug__" : Str)) = false) : JE Wp E X (.Call (.Name x p) [] [] pos) (dCall sp aNil) :=
  ((pe_callG F hr hg hm hk hb hx hdb).1).weak fun σ H Q ⟨W, B, M0, ρ, M, P, R, w, G, d, x, h⟩ => call_go (P := P) (vs := []) (w.le (by show sp.m ≤ 0 + sp.m; omega)) G rfl .nil d x fun u fr ρ' v H' M' c r => h _ _ _ _ _ _ c (r.mono (by show sp.m ≤ 0 + sp.m; omega))
/-- the arguments' number, from a want -/
def aLen (n : Nat) (aa : DA) : DA := ⟨aa.m, fun ρ P R => aa ρ (fun us ρ' => us.length = n ∧ P us ρ') R⟩
theorem jCall (F : FnG X.prog X.w X.K X.mg X.base CX k f fd ps (spG Wp X.K X.mg n sp)) (hr : RmG k X.A) (hg : Gl X x) (hm : X.mg x = some (.ref f)) (hk : PySem.W.keepIn X.K (.ref f) = true) (hb : Binds X.K fd ps []) (hx : Passes CX X E)
    (hdb : (x == ("__debug__" : Str)) = false) (ha : JA Wp E X (e :: es) aa) (h1 : starEach (e :: es) X.env = (false, eval e X.env) :: starEach es X.env) (h2 : (backTo pos (starEach es X.env)).any (·.1) = false) :
    JE Wp E X (.Call (.Name x p) (e :: es) [] pos) (dCall sp (aLen n aa)) :=
  ((pe_callG F hr hg hm hk hb hx hdb).2 ha h1 h2).weak fun σ H Q ⟨W, B, M0, ρ, M, P, R, w, G, d, x, h⟩ => lA_go (m := aa) (P := fun us ρ' => us.length = n ∧ sp.f us (fun u fr => P u fr ρ') R) w G d x fun us ρ1 vs H1 M1 c G1 p => by
    rw [List.append_nil]
    exact call_go' w G1 (by rw [Paired.len p]; exact c.1) p c.2 x h
end
end G9

/-! M13: a def's promise from its body's want; calls by name; stores in pairs; while. -/
namespace G9
open PySem PySem.Spec L2 PyProof.Rows
/-- the names at the entry -/
def startE (N : List Str) (us : List U) : En := us.map (fun u => some ⟨false, u⟩) ++ List.replicate (N.length - us.length) none
def dk (P : U → Bool → Prop) (R : RK) : DK := { nx := fun _ => P (.d .none) false, rt := P, ex := R }
section
variable {P : Program} {w : World} {K : PySem.W.Frag} {mg : Str → Option Value} {base : Heap} {CX : CXT} {k : Nat} {f : Addr} {fd : FuncData} {qual : Str} {body : List Stmt} {scope : Scope} {cdv : Value} {N ps : List Str} {Wp : Wk → Prop}
theorem start_gd {W : Wk} {H : Hp} {M : List Addr} {vs : List V} {us : List U} (w1 : W.ok H) (w2 : ∀ a ∈ W.ad, a ∈ M) (w3 : ∀ a ∈ M, H a ≠ none) (sm : ∃ o u, H sysModules = some (.frz o u)) (p : Paired (RepU W K H M) vs us) :
    Gd W K [⟨H, W.ad, M⟩] M (startE N us) (L2.start N vs) H M := by
  have no : ∀ {i : Nat} {e : Ent}, (startE N us)[i]? = some (some e) → e.own = false ∧ ∃ v, (L2.start N vs)[i]? = some (some v) ∧ RepU W K H M v e.u := by
    intro i e h
    have hl := Paired.len p
    unfold startE at h
    by_cases hi : i < us.length
    · rw [List.getElem?_append_left (by simpa using hi), List.getElem?_map] at h
      have : ∀ {vs : List V} {us : List U} {i : Nat} {u : U}, Paired (RepU W K H M) vs us → us[i]? = some u → ∃ v, vs[i]? = some v ∧ RepU W K H M v u := by
        intro vs us i u p
        induction p generalizing i with
        | nil => intro e; simp at e
        | cons r t ih =>
          intro e
          cases i with
          | zero => simp at e; subst e; exact ⟨_, rfl, r⟩
          | succ i => exact ih (by simpa using e)
      cases q : us[i]? with
      | none => rw [q] at h; cases h
      | some u =>
        rw [q] at h; cases h
        obtain ⟨v, h1, h2⟩ := this p q
        refine ⟨rfl, v, ?_, h2⟩
        unfold L2.start
        rw [List.getElem?_append_left (by rw [List.length_map]; omega), List.getElem?_map, h1]
        rfl
    · rw [List.getElem?_append_right (by simpa using hi), List.getElem?_replicate] at h
      split at h <;> cases h
  refine ⟨sm, w1, w2, fun _ z => z, w3, ?_, fun b hb => ?_, fun i e h => ?_, fun i j e e' a h1 h2 _ _ _ _ => ?_⟩
  · unfold startE L2.start
    rw [List.length_append, List.length_append, List.length_map, List.length_map, List.length_replicate, List.length_replicate, Paired.len p]
  · obtain rfl : b = _ := List.mem_singleton.mp hb
    exact ⟨Kp.refl _ _, fun _ z => z, fun _ z => .inl z, fun a ⟨i, e, h1, h2, _⟩ => by rw [(no h1).1] at h2; cases h2⟩
  · obtain ⟨h1, v, h2, h3⟩ := no h
    refine ⟨v, h2, ?_⟩
    unfold EntOk
    rw [if_neg (by rw [h1]; simp)]
    exact h3
  · rw [(no h1).1] at h2; cases h2
/-- the promise from the body's want -/
theorem fnG_dw {spec : FSpec} {d : DS} (D : Def K f fd qual body scope cdv) (S : FnScope N ps scope)
    (jb : ∀ A outer s H E, RmG k (A.deeper (envOfC qual scope s.heap.objs.size f cdv)) → JB Wp E (cxOf CX P w K mg base N qual scope f cdv A outer s H E) body d)
    (hm : d.m ≤ spec.m) (law : ∀ us P R, us.length = ps.length → spec.f us P R → d.f (startE N us) (dk P R)) : FnG P w K mg base CX (k + 1) f fd ps (spG Wp K mg ps.length spec) := by
  refine fnG_of D S (fun ⟨W, M, us, P, R, _, _, _, _, _, h, _⟩ => h) fun A outer s H vs Q E hr sp => ?_
  obtain ⟨W, M, us, P, R, wp, w1, w2, w3, sm, hl, p, sp, q1, q2⟩ := sp
  refine ⟨_, jb A outer s H E hr, ?_⟩
  refine lS_go (B := []) (wp.le hm) (start_gd w1 w2 w3 sm p) (law us P R (by rw [← Paired.len p]; exact hl) sp) (.inr ⟨_, List.mem_cons_self, fun x C od H' h1 h2 h3 h4 => q2 x C od H' h1 h2 h3 h4⟩) (fun σ' ρ' H' M' _ c G => ?_) (fun u fr v H' c r => q1 u fr v H' c (r.mono hm)) (fun _ _ _ _ _ c _ => c.elim) fun _ _ _ _ _ c _ => c.elim
  exact q1 _ _ _ _ c ((Res.ret (W := W.up d.m) (ρ := ρ') (u := .d .none) (.of G Rep.non)).mono hm)
end
/-! ### calls by name -/
section
variable {Wp : Wk → Prop} {E : XK} {X : Cx} {CX : CXT} {k n : Nat} {f : Addr} {fd : FuncData} {ps ks : List Str} {sp : FSpec} {x : Str} {p pos kpos : Pos} {e : Expr} {es : List Expr} {kws : List Keyword} {aa ak : DA} {de : DE} {nm : Option Str}
abbrev JK (Wp : Wk → Prop) (E : XK) (X : Cx) (kws : List Keyword) (d : DA) : Prop := PK X kws (lA Wp X.K X.mg E d)
theorem kwNil : JK Wp E X [] aNil := ⟨fun pos pins s σ H Q I ⟨W, B, M0, ρ, M, P, R, w, G, d, x, h⟩ => pk_nil.run pos pins s σ H Q I (h _ _ _ _ _ d G .nil)⟩
theorem kwCons (je : JE Wp E X e de) (jr : JK Wp E X kws ak) : JK Wp E X (⟨nm, e, kpos⟩ :: kws) (aCons de ak) :=
  ⟨fun pos pins s σ H Q I ⟨W, B, M0, ρ, M, P, R, w, G, d, x, h⟩ => (pk_cons je jr).run pos pins s σ H Q I (lE_go w G d x fun u fr ρ1 v H1 M1 c r => lA_go' w r.gd.base c x.cons fun us ρ2 vs H2 M2 c G2 p =>
    h _ _ _ _ _ c G2.tail (.cons (G2.repU r.rep) p))⟩
/-- the arguments in the parameters' order: places in (positional ++ named) -/
def pick {α : Type} (ix : List Nat) (xs ys : List α) : List α := ix.filterMap fun i => (xs ++ ys)[i]?
theorem Paired.app {α β : Type} {F : α → β → Prop} : ∀ {xs zs : List α} {ys ws : List β}, Paired F xs ys → Paired F zs ws → Paired F (xs ++ zs) (ys ++ ws)
  | _, _, _, _, .nil, q => q
  | _, _, _, _, .cons r t, q => .cons r (Paired.app t q)
theorem Paired.at {α β : Type} {F : α → β → Prop} : ∀ {xs : List α} {ys : List β} (i : Nat), Paired F xs ys → (∃ a b, xs[i]? = some a ∧ ys[i]? = some b ∧ F a b) ∨ (xs[i]? = none ∧ ys[i]? = none)
  | _, _, _, .nil => .inr ⟨rfl, rfl⟩
  | _, _, 0, .cons r _ => .inl ⟨_, _, rfl, rfl, r⟩
  | _, _, i + 1, .cons _ t => Paired.at i t
theorem Paired.picked {α β : Type} {F : α → β → Prop} {xs zs : List α} {ys ws : List β} (p : Paired F xs ys) (q : Paired F zs ws) : ∀ ix : List Nat, Paired F (pick ix xs zs) (pick ix ys ws)
  | [] => .nil
  | i :: ix => by
    unfold pick
    rcases Paired.at i (Paired.app p q) with ⟨a, b, h1, h2, h3⟩ | ⟨h1, h2⟩
    · rw [List.filterMap_cons_some h1, List.filterMap_cons_some h2]
      exact .cons h3 (Paired.picked p q ix)
    · rw [List.filterMap_cons_none h1, List.filterMap_cons_none h2]
      exact Paired.picked p q ix
/-- the names' values find their parameters -/
def KB (K : PySem.W.Frag) (fd : FuncData) (ps ks : List Str) (np : Nat) (ix : List Nat) : Prop :=
  ∀ (s : Shared) (us ws : List Value), K.In s.heap → us.length = np → ws.length = ks.length → BindsTo s fd ⟨us, ks.zip ws⟩ (ps.zip (pick ix us ws))
def dCallK (sp : FSpec) (np nk n : Nat) (ix : List Nat) (es ks : DA) : DE := ⟨es.m + ks.m + sp.m, fun ρ P R => es ρ (fun us ρ1 => us.length = np ∧ ks ρ1 (fun ws ρ2 => ws.length = nk ∧ (pick ix us ws).length = n ∧ sp (pick ix us ws) (fun u fr => P u fr ρ2) R) R) R⟩
theorem jCallK0 {ix : List Nat} (F : FnG X.prog X.w X.K X.mg X.base CX k f fd ps (spG Wp X.K X.mg n sp)) (hr : RmG k X.A) (hg : Gl X x) (hm : X.mg x = some (.ref f)) (hk : PySem.W.keepIn X.K (.ref f) = true) (hb : KB X.K fd ps ks 0 ix) (hx : Passes CX X E)
    (hkw : JK Wp E X kws ak) (hall : (backToKw pos (keywordEach kws X.env)).all (·.1.isSome) = true) (hks : (backToKw pos (keywordEach kws X.env)).filterMap (·.1) = ks)
    (hdb : (x == ("__debug__" : Str)) = false) (h1 : (backToKw pos (keywordEach kws X.env)).any (·.1.isNone) = false) : JE Wp E X (.Call (.Name x p) [] kws pos) (dCallK sp 0 ks.length n ix aNil ak) := by
  refine ⟨fun pins s σ H Q I ⟨W, B, M0, ρ, M, P, R, w, G, d, x, h⟩ => ?_⟩
  refine wpAny_Call_Name_kw (ld_glob I hg hm ?_ hdb)
  have e0 : ak.m + sp.m = (dCallK sp 0 ks.length n ix aNil ak).m := by show ak.m + sp.m = 0 + ak.m + sp.m; omega
  have w := w.le (Nat.le_of_eq e0)
  have z := hkw.run pos pins s σ H (fun vs H' => vs.length = ks.length ∧ (pick ix [] vs).length = n ∧ spG Wp X.K X.mg n sp (pick ix [] vs) H' Q E) I (lA_go (m := ak) (P := fun ws ρ2 => ws.length = ks.length ∧ (pick ix [] ws).length = n ∧ sp.f (pick ix [] ws) (fun u fr => P u fr ρ2) R) w G (show 0 = 0 ∧ _ from d).2 x fun us ρ1 zs H1 M1 c G1 p => by
    refine ⟨by rw [Paired.len p]; exact c.1, ?_, ?_⟩
    · rw [Paired.len (Paired.picked .nil p ix)]; exact c.2.1
    · exact call_go' w G1 (by rw [Paired.len (Paired.picked .nil p ix)]; exact c.2.1) (Paired.picked .nil p ix) c.2.2 x fun u fr ρ' v H' M' c r => h _ _ _ _ _ _ c (r.mono (by show ak.m + sp.m ≤ 0 + ak.m + sp.m; omega)))
  refine PySem.W.callWith_KW0 (h₀ := X.base) I.ok.mod.kin hk hall (thn z fun ws s2 ⟨zs, H2, I2, rz, q2⟩ => ⟨I2.kIn, ?_⟩) (by show (false || _) = false; rw [Bool.false_or]; exact h1)
  rw [hks]
  have r2 := Paired.picked (.nil : Vals [] []) rz ix
  exact runG F hr hx I2 (hb s2 [] ws I2.kIn rfl (by rw [← rz.length]; exact q2.1)) r2 q2.2.2
theorem jCallK {ix : List Nat} {np : Nat} (F : FnG X.prog X.w X.K X.mg X.base CX k f fd ps (spG Wp X.K X.mg n sp)) (hr : RmG k X.A) (hg : Gl X x) (hm : X.mg x = some (.ref f)) (hk : PySem.W.keepIn X.K (.ref f) = true) (hb : KB X.K fd ps ks np ix) (hx : Passes CX X E)
    (ha : JA Wp E X (e :: es) aa) (hkw : JK Wp E X kws ak) (hall : (backToKw pos (keywordEach kws X.env)).all (·.1.isSome) = true) (hks : (backToKw pos (keywordEach kws X.env)).filterMap (·.1) = ks)
    (hdb : (x == ("__debug__" : Str)) = false) (h1 : starEach (e :: es) X.env = (false, eval e X.env) :: starEach es X.env) (h2 : ((backTo pos (starEach (e :: es) X.env)).any (·.1) || (backToKw pos (keywordEach kws X.env)).any (·.1.isNone)) = false) :
    JE Wp E X (.Call (.Name x p) (e :: es) kws pos) (dCallK sp np ks.length n ix aa ak) := by
  refine ⟨fun pins s σ H Q I ⟨W, B, M0, ρ, M, P, R, w, G, d, x, h⟩ => ?_⟩
  refine wpAny_Call_Name_kw (ld_glob I hg hm ?_ hdb)
  have z := ha.run pos pins s σ H (fun vs H' => vs.length = np ∧ lA Wp X.K X.mg E ak σ H' fun zs H2 => zs.length = ks.length ∧ spG Wp X.K X.mg n sp (pick ix vs zs) H2 Q E) I (lA_go w G d x fun us ρ1 zs H1 M1 c G1 p => by
    refine ⟨by rw [Paired.len p]; exact c.1, lA_go' w G1.base c.2 x.cons fun ws ρ2 zs2 H2 M2 c G2 p2 => ?_⟩
    have pp := Paired.picked (Paired.moveU G2.kp G2.nw p) p2 ix
    exact ⟨by rw [Paired.len p2]; exact c.1, call_go' w G2.tail (by rw [Paired.len pp]; exact c.2.1) pp c.2.2 x h⟩)
  refine PySem.W.callWith_KW (h₀ := X.base) I.ok.mod.kin hk hall (thn z fun us s1 ⟨vs, H1, I1, r1, q⟩ => thn (hkw.run pos pins s1 σ H1 _ I1 q.2) fun ws s2 ⟨zs, H2, I2, rz, q2⟩ => ⟨I2.kIn, ?_⟩) h2 h1
  rw [hks]
  exact runG F hr hx I2 (hb s2 us ws I2.kIn (by rw [← r1.length]; exact q.1) (by rw [← rz.length]; exact q2.1)) (Paired.picked r1 rz ix) q2.2
end
/-! ### stores in pairs, while -/
theorem Res.with {W : Wk} {K : PySem.W.Frag} {B : List Bs} {M0 : List Addr} {ρ : En} {σ : L2.St} {H1 H : Hp} {M1 M : List Addr} {v v0 : V} {u u0 : U} {fr : Bool} {i : Nat} {b : Bs} (r : Res W K B M0 ρ σ H M v u fr) (hb : b ∈ B) (eb : b = ⟨H1, M1, M1⟩) (r0 : RepU W K H1 M1 v0 u0) (hi : i < σ.length) :
    Res W K B M0 (En.put ρ i false u0) (σ.set i (some v0)) H M v u fr := by
  subst eb
  obtain ⟨G, r⟩ := r
  obtain ⟨z1, _, z3, _⟩ := G.bs _ hb
  refine ⟨G.put0 hi (r0.move z1 z3), ?_⟩
  split
  · rename_i hf
    rw [if_pos hf] at r
    obtain ⟨a, vs, ds, q1, q2, q3, q4, q5, q6, q7⟩ := r
    obtain ⟨y1, _, y3, _⟩ := q6.bs _ hb
    exact ⟨a, vs, ds, q1, q2, q3, q4, q5, q6.put0 hi (r0.move y1 y3), q7⟩
  · rename_i hf
    rw [if_neg hf] at r
    exact r
section
variable {Wp : Wk → Prop} {E : XK} {X : Cx} {ea eb ec : Expr} {pos px py pz pt : Pos} {i j l : Nat} {x y z : Str} {da db dc : DE}
theorem sPar0 {kt k2 pt2} (g : Gx X) (hi : X.N[i]? = some x) (hj : X.N[j]? = some y) (hij : i ≠ j) (hx : X.env.scope.names.lookup x = some .local) (hy : X.env.scope.names.lookup y = some .local) (ja : JE Wp E X ea da) (jb : JE Wp E X eb db)
    (ha1 : starEach [ea, eb] X.env = (false, eval ea X.env) :: starEach [eb] X.env) (ha2 : starEach [eb] X.env = (false, eval eb X.env) :: starEach [] X.env)
    (hw : swappedStores [.Tuple [.Name x px, .Name y py] kt pt] (.Tuple [ea, eb] k2 pt2) X.env = pure (some [x, y]))
    (hs : swapsWithSole [.Tuple [.Name x px, .Name y py] kt pt] (.Tuple [ea, eb] k2 pt2) pos.line X.env = pure false) :
    JS Wp E X (.Assign [.Tuple [.Name x px, .Name y py] kt pt] (.Tuple [ea, eb] k2 pt2) pos) (sPar i j da db) :=
  (ps_par g.calm g.nd hi hj hij hx hy (pa_cons ja (pa_cons jb pa_nil ha2) ha1) hw hs).weakI fun pins s σ H D I ⟨W, H0, B, M0, ρ, M, DD, w, G, d, xo, h1, h2, h3, h4⟩ => lE_go w G d xo fun u fr ρ1 v H1 M1 c r => lE_go' w r.gd.base c xo.cons fun u' fr' ρ2 v' H2 M2 c r' => by
    have li : i < σ.length := by rw [I.len]; exact (List.getElem?_eq_some_iff.mp hi).1
    have lj : j < σ.length := by rw [I.len]; exact (List.getElem?_eq_some_iff.mp hj).1
    obtain ⟨M3, G3⟩ := (r'.with List.mem_cons_self rfl r.rep li).put (i := j) (by rw [List.length_set]; exact lj)
    exact ⟨v, v', rfl, h1 _ _ _ _ (by rw [List.length_set, List.length_set]) c G3.tail⟩
theorem sPar30 {kt k2 pt2} (g : Gx X) (hi : X.N[i]? = some x) (hj : X.N[j]? = some y) (hl : X.N[l]? = some z) (hij : i ≠ j) (hil : i ≠ l) (hjl : j ≠ l) (hx : X.env.scope.names.lookup x = some .local) (hy : X.env.scope.names.lookup y = some .local) (hz : X.env.scope.names.lookup z = some .local) (ja : JE Wp E X ea da) (jb : JE Wp E X eb db) (jc : JE Wp E X ec dc)
    (ha1 : starEach [ea, eb, ec] X.env = (false, eval ea X.env) :: starEach [eb, ec] X.env) (ha2 : starEach [eb, ec] X.env = (false, eval eb X.env) :: starEach [ec] X.env) (ha3 : starEach [ec] X.env = (false, eval ec X.env) :: starEach [] X.env)
    (hw : swappedStores [.Tuple [.Name x px, .Name y py, .Name z pz] kt pt] (.Tuple [ea, eb, ec] k2 pt2) X.env = pure (some [x, y, z]))
    (hs : swapsWithSole [.Tuple [.Name x px, .Name y py, .Name z pz] kt pt] (.Tuple [ea, eb, ec] k2 pt2) pos.line X.env = pure false) :
    JS Wp E X (.Assign [.Tuple [.Name x px, .Name y py, .Name z pz] kt pt] (.Tuple [ea, eb, ec] k2 pt2) pos) (sPar3 i j l da db dc) :=
  (ps_par3 g.calm g.nd hi hj hl hij hil hjl hx hy hz (pa_cons ja (pa_cons jb (pa_cons jc pa_nil ha3) ha2) ha1) hw hs).weakI fun pins s σ H D I ⟨W, H0, B, M0, ρ, M, DD, w, G, d, xo, h1, h2, h3, h4⟩ =>
    lE_go w G d xo fun u fr ρ1 v H1 M1 c r => lE_go' w r.gd.base c xo.cons fun u' fr' ρ2 v' H2 M2 c r' => lE_go' w r'.gd.base c xo.cons.cons fun u2 fr2 ρ3 v2 H3 M3 c r2 => by
    have li : i < σ.length := by rw [I.len]; exact (List.getElem?_eq_some_iff.mp hi).1
    have lj : j < σ.length := by rw [I.len]; exact (List.getElem?_eq_some_iff.mp hj).1
    have ll : l < σ.length := by rw [I.len]; exact (List.getElem?_eq_some_iff.mp hl).1
    obtain ⟨M4, G4⟩ := ((r2.with (List.mem_cons_of_mem _ List.mem_cons_self) rfl r.rep li).with (i := j) List.mem_cons_self rfl r'.rep (by rw [List.length_set]; exact lj)).put (i := l) (by rw [List.length_set, List.length_set]; exact ll)
    exact ⟨v, v', v2, rfl, h1 _ _ _ _ (by rw [List.length_set, List.length_set, List.length_set]) c G4.tail.tail⟩
end
end G9

/-! M14: the rules in short, their side goals closed by themselves. -/
namespace G9
open PySem PySem.Spec L2 PyProof.Rows
theorem pass0G {X : Cx} {E : XK} : Passes CX0 X E := fun _ _ _ _ _ _ _ h => h.elim
/-- a def of the module that keeps its promise: what a caller needs -/
structure Cal (P : Program) (w : World) (K : PySem.W.Frag) (mg : Str → Option Value) (base : Heap) (CX : CXT) (Wp : Wk → Prop) (j : Nat) (x : Str) (st : Stmt) (ps : List Str) (sp : FSpec) : Prop where
  ex : ∃ f fd, Fun K x x st f fd ∧ FnG P w K mg base CX j f fd ps (spG Wp K mg ps.length sp) ∧ mg x = some (.ref f)
section
variable {P : Program} {w : World} {K : PySem.W.Frag} {mg : Str → Option Value} {base : Heap} {CX : CXT} {k : Nat} {f : Addr} {fd : FuncData} {x : Str} {st : Stmt} {N ps : List Str} {Wp : Wk → Prop}
/-- THE RULE for a def: its body's want, its law -/
theorem cal_of {spec : FSpec} {d : DS} (F : Fun K x x st f fd) (hm : mg x = some (.ref f)) (S : FnScope N ps (defScope st))
    (jb : ∀ cdv A outer s H E, RmG k (A.deeper (envOfC x (defScope st) s.heap.objs.size f cdv)) → Gx (cxOf CX P w K mg base N x (defScope st) f cdv A outer s H E) → JB Wp E (cxOf CX P w K mg base N x (defScope st) f cdv A outer s H E) (defBody st) d)
    (le : d.m ≤ spec.m) (law : ∀ us P R, us.length = ps.length → spec.f us P R → d.f (startE N us) (dk P R)) : Cal P w K mg base CX Wp (k + 1) x st ps spec := by
  obtain ⟨oc, od, kV, doc, pm, an, cdv, ct, osl, e, lk, hcd⟩ := F.ex
  have D : Def K f fd x (defBody st) (defScope st) cdv := ⟨⟨_, _, _, _, _, _, _, _, _, _, _, e, lk⟩, hcd⟩
  refine ⟨f, fd, F, fnG_dw D S (fun A outer s H E hr => jb cdv A outer s H E hr ⟨rfl, hr.gd, ?_, S.nd⟩) le law, hm⟩
  have := hr.rm.un
  show A.units + 3 + 65 < cLine
  have h2 : A.units + 3 + 16 * k + 200 < cLine := hr.rm.un
  omega
end
section
variable {Wp : Wk → Prop} {E : XK} {X : Cx} {CX : CXT} {k j np : Nat} {st : Stmt} {ps ks : List Str} {sp : FSpec} {x : Str} {p pos : Pos} {e : Expr} {es : List Expr} {aa ak : DA} {kws : List Keyword} {ix : List Nat}
theorem qCall0 (hr : RmG k X.A) (c : Cal X.prog X.w X.K X.mg X.base CX Wp j x st [] sp) (hx : Passes CX X E)
    (hb : ∀ (kV doc pm : Value) (an : Option Addr) (cdv ct : Value) (us : List Value), us.length = ([] : List Str).length → bindArgs (PySem.W.fnOf x x (defArgs st) (defBody st) (defScope st) .none kV doc pm an cdv ct) ⟨us, []⟩ = pure (([] : List Str).zip us))
    (hj : j ≤ k := by decide) (hg : Gl X x := by rfl) (hdb : (x == ("__debug__" : Str)) = false := by decide) : JE Wp E X (.Call (.Name x p) [] [] pos) (dCall sp aNil) := by
  obtain ⟨f, fd, F, G, m⟩ := c.ex
  exact jCall0 (G.mono hj) hr hg m F.kp (F.binds hb) hx hdb
theorem qCall {n : Nat} (hr : RmG k X.A) (c : Cal X.prog X.w X.K X.mg X.base CX Wp j x st ps sp) (hx : Passes CX X E)
    (hb : ∀ (kV doc pm : Value) (an : Option Addr) (cdv ct : Value) (us : List Value), us.length = ps.length → bindArgs (PySem.W.fnOf x x (defArgs st) (defBody st) (defScope st) .none kV doc pm an cdv ct) ⟨us, []⟩ = pure (ps.zip us)) (ha : JA Wp E X (e :: es) aa)
    (hj : j ≤ k := by decide) (hg : Gl X x := by rfl) (hdb : (x == ("__debug__" : Str)) = false := by decide) (h1 : starEach (e :: es) X.env = (false, eval e X.env) :: starEach es X.env := by rfl) (h2 : (backTo pos (starEach es X.env)).any (·.1) = false := by rfl) (hn : ps.length = n := by rfl) :
    JE Wp E X (.Call (.Name x p) (e :: es) [] pos) (dCall sp (aLen n aa)) := by
  subst hn
  obtain ⟨f, fd, F, G, m⟩ := c.ex
  exact jCall (G.mono hj) hr hg m F.kp (F.binds hb) hx hdb ha h1 h2
theorem kb_of {K : PySem.W.Frag} {f : Addr} {fd : FuncData} (F : Fun K x x st f fd)
    (hb : ∀ (kV doc pm : Value) (an : Option Addr) (cdv ct : Value) (us ws : List Value), us.length = np → ws.length = ks.length → bindArgs (PySem.W.fnOf x x (defArgs st) (defBody st) (defScope st) .none kV doc pm an cdv ct) ⟨us, ks.zip ws⟩ = pure (ps.zip (pick ix us ws))) : KB K fd ps ks np ix := by
  obtain ⟨oc, od, kV, doc, pm, an, cdv, ct, osl, rfl, lk, hcd⟩ := F.ex
  exact fun s us ws _ h1 h2 => .of_eq (hb kV doc pm an cdv ct us ws h1 h2)
theorem qCallK0 {n nk : Nat} (hr : RmG k X.A) (c : Cal X.prog X.w X.K X.mg X.base CX Wp j x st ps sp) (hx : Passes CX X E) (ks : List Str) (ix : List Nat)
    (hb : ∀ (kV doc pm : Value) (an : Option Addr) (cdv ct : Value) (us ws : List Value), us.length = 0 → ws.length = ks.length → bindArgs (PySem.W.fnOf x x (defArgs st) (defBody st) (defScope st) .none kV doc pm an cdv ct) ⟨us, ks.zip ws⟩ = pure (ps.zip (pick ix us ws))) (hkw : JK Wp E X kws ak)
    (hj : j ≤ k := by decide) (hg : Gl X x := by rfl) (hdb : (x == ("__debug__" : Str)) = false := by decide) (hall : (backToKw pos (keywordEach kws X.env)).all (·.1.isSome) = true := by rfl) (hks : (backToKw pos (keywordEach kws X.env)).filterMap (·.1) = ks := by rfl)
    (h1 : (backToKw pos (keywordEach kws X.env)).any (·.1.isNone) = false := by rfl) (hn : ps.length = n := by rfl) (hnk : ks.length = nk := by rfl) : JE Wp E X (.Call (.Name x p) [] kws pos) (dCallK sp 0 nk n ix aNil ak) := by
  subst hn hnk
  obtain ⟨f, fd, F, G, m⟩ := c.ex
  exact jCallK0 (G.mono hj) hr hg m F.kp (kb_of F hb) hx hkw hall hks hdb h1
theorem qCallK {n nk : Nat} (hr : RmG k X.A) (c : Cal X.prog X.w X.K X.mg X.base CX Wp j x st ps sp) (hx : Passes CX X E) (ks : List Str) (np : Nat) (ix : List Nat)
    (hb : ∀ (kV doc pm : Value) (an : Option Addr) (cdv ct : Value) (us ws : List Value), us.length = np → ws.length = ks.length → bindArgs (PySem.W.fnOf x x (defArgs st) (defBody st) (defScope st) .none kV doc pm an cdv ct) ⟨us, ks.zip ws⟩ = pure (ps.zip (pick ix us ws))) (ha : JA Wp E X (e :: es) aa) (hkw : JK Wp E X kws ak)
    (hj : j ≤ k := by decide) (hg : Gl X x := by rfl) (hdb : (x == ("__debug__" : Str)) = false := by decide) (hall : (backToKw pos (keywordEach kws X.env)).all (·.1.isSome) = true := by rfl) (hks : (backToKw pos (keywordEach kws X.env)).filterMap (·.1) = ks := by rfl)
    (h1 : starEach (e :: es) X.env = (false, eval e X.env) :: starEach es X.env := by rfl) (h2 : ((backTo pos (starEach (e :: es) X.env)).any (·.1) || (backToKw pos (keywordEach kws X.env)).any (·.1.isNone)) = false := by rfl) (hn : ps.length = n := by rfl) (hnk : ks.length = nk := by rfl) :
    JE Wp E X (.Call (.Name x p) (e :: es) kws pos) (dCallK sp np nk n ix aa ak) := by
  subst hn hnk
  obtain ⟨f, fd, F, G, m⟩ := c.ex
  exact jCallK (G.mono hj) hr hg m F.kp (kb_of F hb) hx ha hkw hall hks hdb h1 h2
end
/-! ### names -/
section
variable {Wp : Wk → Prop} {E : XK} {X : Cx} {x y : Str} {pos p1 p2 p3 cpos apos : Pos} {e ea eb ec o : Expr} {es rest : List Expr} {a b c do_ : DO} {da db de dcc : DE} {dc : DT} {aa : DA} {st : Stmt} {sts sa sb : List Stmt} {ds d1 d2 : DS} {i j l : Nat}
theorem qV (i : Nat) (hN : X.N[i]? = some x := by rfl) (hv : Vis X.env.scope x := by first | exact Or.inl rfl | exact Or.inr (Or.inl rfl) | exact Or.inr (Or.inr rfl)) (hd : (x == ("__debug__" : Str)) = false := by decide)
    (hcd : (x == ("__classdict__" : Str)) = false := by decide) : JE Wp E X (.Name x pos) (dVar i) := jVar hN hv hd hcd
theorem qO (i : Nat) (hN : X.N[i]? = some x := by rfl) (hv : Vis X.env.scope x := by first | exact Or.inl rfl | exact Or.inr (Or.inl rfl) | exact Or.inr (Or.inr rfl)) (hd : (x == ("__debug__" : Str)) = false := by decide)
    (hcd : (x == ("__classdict__" : Str)) = false := by decide) : JO Wp E X (.Name x pos) (oSlot i) := oVar hN hv hd hcd
theorem qGI {n : Int} (hm : ∃ t, X.mg x = some (.int n t)) (hg : Gl X x := by rfl) (hd : (x == ("__debug__" : Str)) = false := by decide) : JE Wp E X (.Name x pos) (dCon (.int n)) := let ⟨_, h⟩ := hm; jGlobI hg h hd
theorem qGS {n : Str} (hm : ∃ t, X.mg x = some (.str n t)) (hg : Gl X x := by rfl) (hd : (x == ("__debug__" : Str)) = false := by decide) : JE Wp E X (.Name x pos) (dCon (.str n)) := let ⟨_, h⟩ := hm; jGlobS hg h hd
theorem qCmp (cm : Cm) (g : Gx X) (ja : JO Wp E X ea a) (jb : JO Wp E X eb b) (hm : behindInMarks (cmO cm) eb = false := by rfl) : JE Wp E X (.Compare ea [cmO cm] [eb] pos) (dCmp cm a b) := jCmp g.un ja jb hm
theorem qCmp2 (cm cm' : Cm) (g : Gx X) (ja : JO Wp E X ea a) (jb : JO Wp E X eb b) (jc : JO Wp E X ec c) (hm : lastMarks [cmO cm, cmO cm'] [eb, ec] = false := by with_unfolding_all rfl) : JE Wp E X (.Compare ea [cmO cm, cmO cm'] [eb, ec] pos) (dCmp2 cm cm' a b c) := jCmp2 g.un ja jb jc hm
theorem qkCmp (cm : Cm) (g : Gx X) (ja : JO Wp E X ea a) (jb : JO Wp E X eb b) (hm : behindInMarks (cmO cm) eb = false := by rfl) : JT Wp E X (.Compare ea [cmO cm] [eb] pos) (kE (dCmp cm a b)) := kCmp g.un ja jb hm
theorem qkCmp2 (cm cm' : Cm) (g : Gx X) (ja : JO Wp E X ea a) (jb : JO Wp E X eb b) (jc : JO Wp E X ec c) (hm : lastMarks [cmO cm, cmO cm'] [eb, ec] = false := by with_unfolding_all rfl) : JT Wp E X (.Compare ea [cmO cm, cmO cm'] [eb, ec] pos) (kE (dCmp2 cm cm' a b c)) := kCmp2 g.un ja jb jc hm
theorem qkOf (ja : JE Wp E X ea da) (he : ∀ whole, isTrue ea X.env whole = (do let v ← whole; standAt ea.pos; holding [v] (truthy v)) := by intro _; rfl) : JT Wp E X ea (kE da) := kOf ja he
theorem qkName (i : Nat) (ja : JO Wp E X ea (oSlot i)) (he : ∀ whole, isTrue ea X.env whole = (do let v ← whole; standAt ea.pos; holding [v] (truthy v)) := by intro _; rfl) : JT Wp E X ea (kVar i) := kName ja he
theorem qaCons (je : JE Wp E X e de) (jr : JA Wp E X es aa) (hs : starEach (e :: es) X.env = (false, eval e X.env) :: starEach es X.env := by rfl) : JA Wp E X (e :: es) (aCons de aa) := aCons0 je jr hs
theorem qIdx (ja : JO Wp E X ea a) (jb : JO Wp E X eb b) (hs : PlainIx eb := by intro _ _; rfl) : JE Wp E X (.Subscript ea eb pos) (dIdx a b) := jIdx ja jb hs
theorem qBif {u : Value} (b : Bi) (g : Gx X) (hm : X.mg x = none) (ja : JO Wp E X ea a) (hbv : b.val = some u := by rfl) (hv : bootBuiltins x = some u := by rfl) (hg : Gl X x := by rfl) (hn : x ≠ "__name__" := by decide) (hdb : (x == ("__debug__" : Str)) = false := by decide)
    (hs : starEach [ea] X.env = (false, eval ea X.env) :: starEach [] X.env := by rfl) (hpl : (backTo pos (starEach [] X.env)).any (·.1) = false := by rfl) : JE Wp E X (.Call (.Name x p2) [ea] [] pos) (dBif b a) := jBif g.calm g.gd g.un hbv hv hg hm hn hdb ja hs hpl
theorem qIsi (t : Ty) (hm : X.mg "isinstance" = none) (hmt : X.mg y = none) (ja : JO Wp E X ea a) (hg : Gl X "isinstance" := by rfl) (hgt : Gl X y := by rfl) (hvt : bootBuiltins y = some (.type t.nm) := by rfl) (hn : y ≠ "__name__" := by decide) (hdb : (y == ("__debug__" : Str)) = false := by decide)
    (hs : starEach [ea, .Name y p3] X.env = (false, eval ea X.env) :: starEach [.Name y p3] X.env := by rfl) (hs2 : starEach [.Name y p3] X.env = (false, eval (.Name y p3) X.env) :: starEach [] X.env := by rfl) (hpl : (backTo pos (starEach [.Name y p3] X.env)).any (·.1) = false := by rfl) :
    JE Wp E X (.Call (.Name "isinstance" p2) [ea, .Name y p3] [] pos) (dIsi a t) := jIsi hg hm hgt hmt hvt hn hdb ja hs hs2 hpl
theorem qMth0 (m : Mt) (ho : JO Wp E X o do_) (hbase : attributeBase o m.nm X.env (eval o X.env) = eval o X.env := by rfl) (hline : (apos.endLine == cpos.line) = true := by rfl) : JE Wp E X (.Call (.Attribute o m.nm apos) [] [] cpos) (dMth m do_ aNil) := jMth0 rfl ho hbase hline
theorem qMth (m : Mt) (ho : JO Wp E X o do_) (ha : JA Wp E X (e :: es) aa) (hbase : attributeBase o m.nm X.env (eval o X.env) = eval o X.env := by rfl)
    (hfew : ((backTo cpos (starEach (e :: es) X.env)).all (fun x => !x.1) && (backToKw cpos (keywordEach [] X.env)).all (fun x => x.1.isSome)
      && decide ((e :: es).length + ([] : List Keyword).length + (if ([] : List Keyword).isEmpty then 0 else 1) < 30)) = true := by rfl)
    (hline : (apos.endLine == cpos.line) = true := by rfl) (hs : starEach (e :: es) X.env = (false, eval e X.env) :: starEach es X.env := by rfl) (hplain : (backTo cpos (starEach es X.env)).any (·.1) = false := by rfl) :
    JE Wp E X (.Call (.Attribute o m.nm apos) (e :: es) [] cpos) (dMth m do_ aa) := jMth rfl ho ha hbase hfew hline hs hplain
/-! ### walks and comprehensions -/
theorem qR1 {tg : Expr} (hm : X.mg "range" = none) (ja : JE Wp E X ea da) (hg : Gl X "range" := by rfl) (hs : starEach [ea] X.env = [(false, eval ea X.env)] := by rfl) : JI Wp E X tg (.Call (.Name "range" p2) [ea] [] pos) (wRng1 da) := wR1 hg hm ja hs
theorem qR2 {tg : Expr} (hm : X.mg "range" = none) (ja : JE Wp E X ea da) (jb : JE Wp E X eb db) (hg : Gl X "range" := by rfl) (hs : starEach [ea, eb] X.env = [(false, eval ea X.env), (false, eval eb X.env)] := by rfl) (hs2 : starEach [eb] X.env = [(false, eval eb X.env)] := by rfl) :
    JI Wp E X tg (.Call (.Name "range" p2) [ea, eb] [] pos) (wRng2 da db) := wR2 hg hm ja jb hs hs2
theorem qgN (g : Gx X) (i : Nat) (hi : X.N[i]? = some x := by rfl) (hx : Loc X.env.scope x := by first | exact Or.inl rfl | exact Or.inr rfl) (hf : X.fn x = true ∨ X.env.scope.names.lookup x = some .local := by first | exact Or.inl rfl | exact Or.inr rfl) : PG X (.Name x pos) (gB X.K [i] false) := gOne g.nd hi hx hf
theorem qgT {n : Nat} {tg : List Nat} (g : Gx X) (h : PGs X es (gNames tg)) (hn : (assignEach es X.env).length = tg.length := by rfl) (hst : (assignEach es X.env).findIdx? (·.1) = none := by rfl) : PG X (.Tuple es n pos) (gB X.K tg true) := pg_tup g.calm h hn hst
theorem qgs {tg : List Nat} (h1 : PG X e (gB X.K [i] false)) (h2 : PGs X es (gNames tg)) (hs : (assignEach (e :: es) X.env).map (·.2) = assign e X.env :: (assignEach es X.env).map (·.2) := by rfl) : PGs X (e :: es) (gNames (i :: tg)) := pgs_cons h1 h2 hs
theorem qLc {elt tgx iter : Expr} {ifs : List Expr} {scope : Scope} {tg : List Nat} {tp : Bool} {di : DI} {dc : DT} {de : DE} (own : List (Str × Nat)) (vs : List Nat) (g : Gx X) (hi : JI Wp E X tgx iter di)
    (hg : ∀ (s : Shared) (H : Hp) (C : Addr) (cl : List (Str × Addr)) (fp : List Addr), PG (X.blk s H scope (compEnvC scope cl C X.env) fp) tgx (gB X.K tg tp))
    (ht : ∀ (s : Shared) (H : Hp) (C : Addr) (cl : List (Str × Addr)) (fp : List Addr), PTs (X.blk s H scope (compEnvC scope cl C X.env) fp) ifs (lT Wp X.K X.mg E dc))
    (he : ∀ (s : Shared) (H : Hp) (C : Addr) (cl : List (Str × Addr)) (fp : List Addr), JE Wp E (X.blk s H scope (compEnvC scope cl C X.env) fp) elt de)
    (ok : blkC X.N X.env.scope scope own = true) (sub : ∀ i ∈ tg, i ∈ own.map (·.2) := by decide) (hvs : own.map (·.2) = vs := by rfl) (hs : ∀ x, foldedSetIterable iter X.env x = pure x := by intro _; rfl) : JE Wp E X (.ListComp elt [⟨tgx, iter, ifs, 0⟩] scope pos) (dLc vs tg tp di dc de) := by
  subst hvs
  exact jLc g hi (blkOk_by ok) sub hg ht he hs
/-! ### statements -/
theorem qSet (i : Nat) (g : Gx X) (he : JE Wp E X e de) (hi : X.N[i]? = some x := by rfl) (hx : Loc X.env.scope x := by first | exact Or.inl rfl | exact Or.inr rfl) (hs : swapsWith e (some (.Name x p1)) pos.line X.env = pure false := by rfl)
    (hf : X.fn x = true ∨ X.env.scope.names.lookup x = some .local := by first | exact Or.inl rfl | exact Or.inr rfl) : JS Wp E X (.Assign [.Name x p1] e pos) (sSet i de) := sSet0 g hi hx he hs hf
theorem qSetLc {elt tgx iter : Expr} {ifs : List Expr} {scope : Scope} {tg : List Nat} {tp : Bool} {di : DI} {dc : DT} {de : DE} (i : Nat) (own : List (Str × Nat)) (vs : List Nat) (g : Gx X) (hi : JI Wp E X tgx iter di)
    (hg : ∀ (s : Shared) (H : Hp) (C : Addr) (cl : List (Str × Addr)) (fp : List Addr), PG (X.blk s H scope (compEnvC scope cl C X.env) fp) tgx (gB X.K tg tp))
    (ht : ∀ (s : Shared) (H : Hp) (C : Addr) (cl : List (Str × Addr)) (fp : List Addr), PTs (X.blk s H scope (compEnvC scope cl C X.env) fp) ifs (lT Wp X.K X.mg E dc))
    (he : ∀ (s : Shared) (H : Hp) (C : Addr) (cl : List (Str × Addr)) (fp : List Addr), JE Wp E (X.blk s H scope (compEnvC scope cl C X.env) fp) elt de) (ok : blkC X.N X.env.scope scope own = true)
    (hk : X.env.scope.kind = .function := by rfl) (hy : X.N[i]? = some y := by rfl) (hyl : X.env.scope.names.lookup y = some .local := by rfl) (hl : (p1.line == p2.line) = true := by rfl) (hna : (scope.names.any fun (n, k) => n == y && (k == .local || k == .cell)) = false := by rfl)
    (sub : ∀ i ∈ tg, i ∈ own.map (·.2) := by decide) (hvs : own.map (·.2) = vs := by rfl) (hs : ∀ x, foldedSetIterable iter X.env x = pure x := by intro _; rfl) :
    JS Wp E X (.Assign [.Name y p1] (.ListComp elt [⟨tgx, iter, ifs, 0⟩] scope p2) pos) (sSet i (dLc vs tg tp di dc de)) := by
  subst hvs
  exact sSetLc g hy hyl (sw_true hk hyl hl hna) hi (blkOk_by ok) sub hg ht he hs
theorem qDrop (he : JE Wp E X e de) (hs : swapsWith e none pos.line X.env = pure false := by rfl) : JS Wp E X (.Expr e pos) (sDrop de) := sDrop0 he hs
theorem qRetV (i : Nat) (he : JO Wp E X e (oSlot i)) : JS Wp E X (.Return (some e) pos) (sRetV i) := sRetV0 he
theorem qSetT {tgx : Expr} {tg : List Nat} (g : Gx X) (he : JE Wp E X e de) (hg : PG X tgx (gB X.K tg true)) (ht : tg.all (fun i => decide (i < X.N.length)) = true := by rfl) (hs : swapsWithSole [tgx] e pos.line X.env = pure false := by rfl) (hw : swappedStores [tgx] e X.env = pure none := by rfl)
    (h1 : (assignEach [tgx] X.env).map (·.2) = [assign tgx X.env] := by rfl) : JS Wp E X (.Assign [tgx] e pos) (sSetT tg de) := sSetT0 g he hg (fun i hi => of_decide_eq_true (List.all_eq_true.mp ht i hi)) hs hw h1
theorem qFor {tgx iter : Expr} {tg : List Nat} {tp : Bool} {di : DI} {body : List Stmt} {db : DS} (g : Gx X) (hp : PassesOwn (model X.prog X.w) X.A X.env X.xe) (hi : JI Wp E X tgx iter di) (hg : PG X tgx (gB X.K tg tp)) (hb : JB Wp E X body db)
    (ht : tg.all (fun i => decide (i < X.N.length)) = true := by rfl) (hs : ∀ x, foldedSetIterable iter X.env x = pure x := by intro _; rfl) : JS Wp E X (.For tgx iter body [] pos) (sFor tg tp di db) := sFor0 g hp hi hg (fun i hi => of_decide_eq_true (List.all_eq_true.mp ht i hi)) hb hs
theorem qPar {kt k2 : Nat} {pt pt2 : Pos} (i j : Nat) (g : Gx X) (ja : JE Wp E X ea da) (jb : JE Wp E X eb db) (hi : X.N[i]? = some x := by rfl) (hj : X.N[j]? = some y := by rfl) (hij : i ≠ j := by decide) (hx : X.env.scope.names.lookup x = some .local := by rfl) (hy : X.env.scope.names.lookup y = some .local := by rfl)
    (ha1 : starEach [ea, eb] X.env = (false, eval ea X.env) :: starEach [eb] X.env := by rfl) (ha2 : starEach [eb] X.env = (false, eval eb X.env) :: starEach [] X.env := by rfl)
    (hw : swappedStores [.Tuple [.Name x p1, .Name y p2] kt pt] (.Tuple [ea, eb] k2 pt2) X.env = pure (some [x, y]) := by rfl)
    (hs : swapsWithSole [.Tuple [.Name x p1, .Name y p2] kt pt] (.Tuple [ea, eb] k2 pt2) pos.line X.env = pure false := by rfl) :
    JS Wp E X (.Assign [.Tuple [.Name x p1, .Name y p2] kt pt] (.Tuple [ea, eb] k2 pt2) pos) (sPar i j da db) := sPar0 g hi hj hij hx hy ja jb ha1 ha2 hw hs
theorem qPar3 {z : Str} {kt k2 : Nat} {pt pt2 : Pos} (i j l : Nat) (g : Gx X) (ja : JE Wp E X ea da) (jb : JE Wp E X eb db) (jc : JE Wp E X ec dcc) (hi : X.N[i]? = some x := by rfl) (hj : X.N[j]? = some y := by rfl) (hl : X.N[l]? = some z := by rfl) (hij : i ≠ j := by decide) (hil : i ≠ l := by decide) (hjl : j ≠ l := by decide)
    (hx : X.env.scope.names.lookup x = some .local := by rfl) (hy : X.env.scope.names.lookup y = some .local := by rfl) (hz : X.env.scope.names.lookup z = some .local := by rfl)
    (ha1 : starEach [ea, eb, ec] X.env = (false, eval ea X.env) :: starEach [eb, ec] X.env := by rfl) (ha2 : starEach [eb, ec] X.env = (false, eval eb X.env) :: starEach [ec] X.env := by rfl) (ha3 : starEach [ec] X.env = (false, eval ec X.env) :: starEach [] X.env := by rfl)
    (hw : swappedStores [.Tuple [.Name x p1, .Name y p2, .Name z p3] kt pt] (.Tuple [ea, eb, ec] k2 pt2) X.env = pure (some [x, y, z]) := by rfl)
    (hs : swapsWithSole [.Tuple [.Name x p1, .Name y p2, .Name z p3] kt pt] (.Tuple [ea, eb, ec] k2 pt2) pos.line X.env = pure false := by rfl) :
    JS Wp E X (.Assign [.Tuple [.Name x p1, .Name y p2, .Name z p3] kt pt] (.Tuple [ea, eb, ec] k2 pt2) pos) (sPar3 i j l da db dcc) := sPar30 g hi hj hl hij hil hjl hx hy hz ja jb jc ha1 ha2 ha3 hw hs
/-- an exception leaves the def's loop as it leaves the def -/
theorem owns_cx {CX : CXT} {P : Program} {w : World} {K : PySem.W.Frag} {mg : Str → Option Value} {base : Heap} {N : List Str} {qual : Str} {scope : Scope} {f : Addr} {cd : Value} {A : Around} {outer : List Env} {s : Shared} {H : Hp} {E : XK} :
    PassesOwn (model P w) (cxOf CX P w K mg base N qual scope f cd A outer s H E).A (cxOf CX P w K mg base N qual scope f cd A outer s H E).env (cxOf CX P w K mg base N qual scope f cd A outer s H E).xe := passes_of (X := cxOf CX P w K mg base N qual scope f cd A outer s H E) rfl
end
end G9

/-! E1: an own exception class without own __init__ is raised; isinstance of a caught one; a call that may raise. -/
namespace G9
open PySem PySem.Spec L2 PyProof.Rows
/-- what the written part says of such a class -/
structure ExcK (K : PySem.W.Frag) (mg : Str → Option Value) (nm : Str) (C : Addr) : Prop where
  g : mg nm = some (.ref C)
  kp : PySem.W.keepIn K (.ref C) = true
  ex : PySem.W.excIn K C [Value.type "ValueError", Value.type "Exception", Value.type "BaseException", Value.type "object"] "ValueError.__new__" = true
  sub : PySem.W.subIn K (.ref C) (.type "BaseException") = some true
  ty : PySem.W.typeIn K (.ref C) = some (.type "type")
def sRaise (c : Str) : DS := ⟨0, fun _ D => D.ex ⟨c, none⟩⟩
section
variable {Wp : Wk → Prop} {E : XK} {X : Cx} {x m : Str} {j : Nat} {p p2 pos pos2 : Pos}
theorem qRaise (tk : Takes X (fun cls d _ H => E cls d H)) (g : Gx X) (hx : ∃ C, ExcK X.K X.mg x C) (hg : Gl X x := by rfl) (hdb : (x == ("__debug__" : Str)) = false := by decide) :
    JS Wp E X (.Raise (some (.Call (.Name x p) [.Constant (.str m) j p2] [] pos)) none pos2) (sRaise x) := by
  obtain ⟨C, F⟩ := hx
  refine (ps_raise g.calm tk (pmk_own PySem.F.excBase_ValueError F.ex F.g F.kp (raises_own F.sub F.ty) hg hdb)).weak fun D σ H ⟨W, H0, B, M0, ρ, M, DD, w, G, d, xo, h1, h2, h3, h4⟩ => ?_
  rcases xo with z | ⟨b, hb, z⟩
  · exact absurd d (z _)
  · have G0 : Gd (W.up 0) X.K (⟨H0, W.ad, M0⟩ :: B) M0 ρ σ H M := Gd.mono (a := 0) (Nat.le_refl 0) G
    exact z ⟨x, none⟩ (.ref C) none H d ⟨F.g, rfl⟩ (G.bs b hb).1 ⟨0, G0.wok⟩
end
/-- isinstance(e, T), e the exception that the suite holds, T a tuple of classes -/
def rIsET (K : PySem.W.Frag) (D a : Addr) : List V → Hp → VK → Prop := fun xs H Q => ∃ (tp : Addr) (cs : List V) (us : List Value) (b : Bool), xs = [.ref a, .ref tp] ∧ H tp = some (.tup cs) ∧ Paired ClsV cs us ∧ PySem.W.kitAny K (.ref D) us = some b ∧ Q (.bl b) H
theorem call_isET {X : Cx} {a D : Addr} {oe : Obj} {pn : List (Addr × Obj)} (C : ExcC X.K D) (hz : Zc (.ref D) none oe) (hf : ∃ vs, oe.data = .fields vs) : CallR (X.suite a ((a, oe) :: pn)) (.builtin "isinstance") (rIsET X.K D a) := by
  intro pins s σ H xs us Q I r h
  obtain ⟨tp, cs, ws, b, rfl, hT, k, e, q⟩ := h
  obtain ⟨u1, u2, rfl, r1, r2⟩ := vals2 r
  cases (show u1 = Value.ref a from r1)
  cases (show u2 = Value.ref tp from r2)
  obtain ⟨hget, _⟩ := I.pin (a, oe) (List.mem_append.mpr (.inl List.mem_cons_self))
  obtain ⟨vs, hv⟩ := hf
  have J : PySem.W.InstAt s.heap a oe D none := by
    obtain ⟨oc, od, oda, osl⟩ := oe
    obtain ⟨h1, h2⟩ := hz
    dsimp only at h1 h2 hv
    subst h1 h2 hv
    exact ⟨hget, rfl, rfl, trivial⟩
  obtain ⟨_, its, rv, o, h1, h2, n, h3⟩ := (show ObjOk X.prog X.w H s.heap tp (.tup cs) from I.hok tp _ hT)
  have e3 := ClsV.all k rv
  subst e3
  obtain ⟨oc, od, dt, sl⟩ := o
  simp only at h2 h3
  subst h2 h3
  exact PySem.W.kia_tup (PySem.W.handS_kitx_exc C.hg C.hk C.hs C.hd C.ha C.hn C.ht C.hm) I.kIn J h1 e (fun z => nomatch z) fun tk => ⟨.bl b, H, I.kept (t' := tk) fun _ _ z => z, rfl, q⟩
/-! ### a call that may raise -/
section
variable {X : Cx} {CX : CXT} {k : Nat} {f : Addr} {fd : FuncData} {ps : List Str} {sp : Sp} {E : L2.St → XK} {x : Str} {p pos : Pos} {e : Expr} {es : List Expr} {t : TA}
theorem runGS {pins : List (Addr × Obj)} {σ : L2.St} {H : Hp} {s : Shared} {Q : VK} {us us' : List Value} {kw : List (Str × Value)} {vs : List V} (F : FnG X.prog X.w X.K X.mg X.base CX k f fd ps sp) (hr : RmG k X.A) (hx : PassesAt CX X σ (E σ)) (I : Inv X pins σ H s)
    (hb : BindsTo s fd ⟨us, kw⟩ (ps.zip us')) (r : Vals vs us') (h : sp vs H Q (E σ)) : wpAny (model X.prog X.w) X.A (call (.ref f) us kw) (EP X pins σ Q) X.xe s := by
  refine wpAny_call (codeAny_mono (F.run (atG I hr) hb r h) fun r s' hq => ?_)
  rcases r with e | fl
  · exact hx pins H s e s' I hq
  · cases fl <;> first | exact hq.elim | exact I.after hq
theorem pe_callGS (F : FnG X.prog X.w X.K X.mg X.base CX k f fd ps sp) (hr : RmG k X.A) (hg : Gl X x) (hm : X.mg x = some (.ref f)) (hk : PySem.W.keepIn X.K (.ref f) = true) (hb : Binds X.K fd ps []) (hx : ∀ σ, PassesAt CX X σ (E σ))
    (ha : PA X (e :: es) t) (hdb : (x == ("__debug__" : Str)) = false := by decide) (he : starEach (e :: es) X.env = (false, eval e X.env) :: starEach es X.env := by rfl) (hpl : (backTo pos (starEach es X.env)).any (·.1) = false := by rfl) :
    PE X (.Call (.Name x p) (e :: es) [] pos) (tCallS sp E t) := by
  refine ⟨fun pins s σ H Q I h => ?_⟩
  refine wpAny_Call_Name_kw (ld_glob I hg hm ?_ hdb)
  refine PySem.W.callWith_K (h₀ := X.base) I.ok.mod.kin hk (thn (ha.run pos pins s σ H _ I h) fun us s1 ⟨vs, H1, I1, r, q⟩ => ⟨I1.kIn, ?_⟩) he hpl
  have b := hb s1 us I1.kIn (by rw [List.append_nil, ← r.length]; exact F.len q)
  rw [List.append_nil] at b
  exact runGS F hr (hx σ) I1 b r q
end
end G9

/-! P2: t[::-1] of a tuple. -/
namespace G9
open PySem PySem.Spec L2 PyProof.Rows
section
variable {prog : Program} {w : World} {A : Around} {E : Value → Shared → Prop} {s : Shared}
theorem rev_adjust (n : Nat) : Builtin.Slice.sliceAdjust none none (-1) (n : Int) = ((n : Int) - 1, -1) := by
  unfold Builtin.Slice.sliceAdjust
  simp
theorem rev_places (n : Nat) : Builtin.Slice.slicePlaces ((n : Int) - 1) (-1) (-1) = n := by
  unfold Builtin.Slice.slicePlaces
  simp
  omega
theorem fm_congr {α β : Type} {f g : α → Option β} : ∀ {l : List α}, (∀ a ∈ l, f a = g a) → l.filterMap f = l.filterMap g
  | [], _ => rfl
  | a :: l, h => by
    have e := fm_congr (l := l) fun b hb => h b (List.mem_cons_of_mem _ hb)
    rw [List.filterMap_cons, List.filterMap_cons, h a List.mem_cons_self, e]
theorem rev_pick (xs : Array Value) : ((List.range xs.size).filterMap fun (k : Nat) => xs[(((xs.size : Nat) : Int) - 1 + (k : Int) * -1).toNat]?) = xs.toList.reverse := by
  have h : ∀ k, k < xs.size → xs[(((xs.size : Nat) : Int) - 1 + (k : Int) * -1).toNat]? = xs.toList.reverse[k]? := fun k hk => by
    have e : (((xs.size : Nat) : Int) - 1 + (k : Int) * -1).toNat = xs.size - 1 - k := by omega
    rw [e, List.getElem?_reverse (by simpa using hk), ← Array.getElem?_toList, Array.length_toList]
  refine List.ext_getElem? fun j => ?_
  have : ((List.range xs.size).filterMap fun (k : Nat) => xs[(((xs.size : Nat) : Int) - 1 + (k : Int) * -1).toNat]?) = (List.range xs.size).filterMap fun k => xs.toList.reverse[k]? := by
    refine fm_congr fun k hk => h k (by simpa using hk)
  rw [this]
  have hl : xs.size = xs.toList.reverse.length := by simp
  rw [hl]
  generalize xs.toList.reverse = ys
  congr 1
  induction ys with
  | nil => rfl
  | cons y ys ih =>
    rw [List.length_cons, List.range_succ_eq_map, List.filterMap_cons_some (by rfl : (y :: ys)[0]? = some y), List.filterMap_map]
    congr 1
theorem tup_rev {t sl : Addr} {items : Array Value} {vl vu vs : Value} {Q : Value → Shared → Prop} (ht : IsTup s.heap t items) (hs : s.heap.IsSliceOf sl vl vu vs) (pl : IsPart vl none) (pu : IsPart vu none) (ps : IsPart vs (some (-1)))
    (h : Q (.ref s.heap.objs.size) { s with heap := s.heap.push { cls := .type "tuple", data := .seq items.toList.reverse.toArray } }) (hsz : items.size ≤ sizeLine) : wpAny (model prog w) A (getItem (.ref t) (.ref sl)) Q E s := by
  have big : sizeOk (.seq items.toList.reverse.toArray) := by
    show items.toList.reverse.toArray.size ≤ sizeLine
    simpa using hsz
  obtain ⟨os, hos, hcs, hds⟩ := id hs
  have hTs : s.TypeIs (.ref sl) "slice" := ⟨os, hos, hcs⟩
  unfold getItem
  try with_reducible refine wpAny_holding ?_
  first | refine wpAny_bind (wpAny_pure ?_) | skip
  refine wpAny_bind (wpAny_sequenceKey ht.typeIs (by decide) ?_)
  refine wpAny_bind (wpAny_callSpecial?_slot (name := Str.ofString "__getitem__") ht.typeIs PyProof.Rows.slot_tuple_getitem
    (wpAny_call_entry PyProof.Rows.slot_tuple_getitem ht.typeIs entry_tuple_getitem ?_ (args_tuple_getitem _ _)))
  show wpAny _ _ (Builtin.Tuple.tupleItemsOf (.ref t) >>= _) _ _ s
  refine wpAny_bind (tupleItemsOf_ ht ?_)
  refine wpAny_bind (wpAny_typeOf hTs ?_)
  rw [if_pos (by decide)]
  refine wpAny_bind (m := Builtin.Slice.sliceApplied (.ref sl) (pure (items.size : Int))) ?_
  unfold Builtin.Slice.sliceApplied Builtin.Slice.sliceFields
  refine wpAny_bind (wpAny_bind (wpAny_field hos hds (x := vl) rfl (wpAny_bind (wpAny_field hos hds (x := vu) rfl (wpAny_bind (wpAny_field hos hds (x := vs) rfl (wpAny_pure ?_)))))))
  refine wpAny_bind (HT.slicePart_ ps ?_)
  show wpAny _ _ (if ((-1 : Int) == 0) = true then _ else _) _ _ s
  rw [if_neg (by decide)]
  refine wpAny_bind (HT.slicePart_ pl (wpAny_bind (HT.slicePart_ pu (wpAny_bind (wpAny_pure ?_)))))
  show wpAny _ _ (match Builtin.Slice.sliceAdjust none none (-1) ((items.size : Nat) : Int) with | (lo, hi) => pure (lo, (-1 : Int), Builtin.Slice.slicePlaces lo hi (-1))) _ _ s
  rw [rev_adjust]
  show wpAny _ _ (pure (((items.size : Nat) : Int) - 1, (-1 : Int), Builtin.Slice.slicePlaces (((items.size : Nat) : Int) - 1) (-1) (-1))) _ _ s
  rw [rev_places]
  refine wpAny_pure ?_
  show wpAny _ _ (if ((((items.size : Nat) : Int) - 1) == 0 && (-1 : Int) == 1 && items.size == items.size) = true then _ else _) _ _ s
  rw [if_neg (by rw [Bool.and_eq_true, Bool.and_eq_true]; rintro ⟨⟨_, q⟩, _⟩; exact absurd q (by decide)), rev_pick]
  first
    | exact wpAny_bind (m := Builtin.Tuple.tupleExact _) (wpAny_newObj_type (wpAny_pure ⟨_, rfl, wpAny_pure h⟩) big)
    | exact wpAny_bind (m := Builtin.Tuple.tupleExact _) (wpAny_newObj_type (wpAny_bind (wpAny_pure (wpAny_pure ⟨_, rfl, wpAny_pure h⟩))) big)
    | exact wpAny_bind (wpAny_bind (m := Builtin.Tuple.tupleExact _) (wpAny_newObj_type (wpAny_pure (wpAny_pure ⟨_, rfl, wpAny_pure h⟩)) big))
    | exact wpAny_bind (wpAny_bind (m := Builtin.Tuple.tupleExact _) (wpAny_newObj_type (wpAny_pure ⟨_, rfl, wpAny_pure h⟩) big))
end
section
variable {Wp : Wk → Prop} {E : XK} {X : Cx} {ea : Expr} {a : DO} {pos p1 p2 p3 : Pos} {k : Nat}
/-- xs[::-1], a list or a tuple -/
def tRevA (K : PySem.W.Frag) (te : TE) : TE := fun σ H Q => te σ H fun x H1 => ∃ a xs, x = .ref a ∧ ((SqL K H1 a xs ∧ ∀ p, H1 p = none → Q (.ref p) (upd H1 p (.lst xs.reverse))) ∨ (SqT K H1 a xs ∧ ∀ p, H1 p = none → Q (.ref p) (upd H1 p (.tup xs.reverse))))
theorem pe_revA {e : Expr} {te : TE} (he : PE X e te) : PE X (.Subscript e (.Slice none none (some (.UnaryOp .USub (.Constant (.int 1) k p1) p2)) p3) pos) (tRevA X.K te) := by
  refine ⟨fun pins s σ H Q I h => Subscript_ (thn (he.run pins s σ H _ I h) fun v s1 ⟨x, H1, I1, r1, a, xs, ex, q⟩ => ?_)⟩
  subst ex
  cases r1
  have step : PO X (some (.UnaryOp .USub (.Constant (.int 1) k p1) p2)) (tPart (tUn (rU fun i => .int (-i)) (tC (.int 1)))) := po_some (pe_un un_neg pe_int)
  refine wpAny_Slice (thn (po_none.run pins s1 σ H1 (fun o H2 => o = none ∧ H2 = H1) I1 ⟨rfl, rfl⟩) fun vl s2 ⟨l, H2, I2, pl, el, e2⟩ => ?_)
  subst el e2
  refine thn (po_none.run pins s2 σ H2 (fun o H3 => o = none ∧ H3 = H2) I2 ⟨rfl, rfl⟩) fun vu s3 ⟨u, H3, I3, pu, eu, e3⟩ => ?_
  subst eu e3
  refine thn (step.run pins s3 σ H3 (fun o H4 => o = some (-1) ∧ H4 = H3) I3 ⟨1, rfl, -1, rfl, rfl, rfl⟩) fun vs s4 ⟨o, H4, I4, ps, eo, e4⟩ => ?_
  subst eo e4
  have I5 : Inv X pins σ H4 { s4 with heap := s4.heap.push { cls := .type "slice", data := .fields #[vl, vu, vs] } } := I4.kept (t' := s4.toks) fun b ob q => Heap.get?_push_of_some _ q
  have fr := I5.hok.fresh (Nat.le_refl _)
  show wpAny (model X.prog X.w) X.A (subscriptTail e (.Slice none none (some (.UnaryOp .USub (.Constant (.int 1) k p1) p2)) p3) (.ref a) (.ref s4.heap.objs.size)) (EP X pins σ Q) X.xe { s4 with heap := s4.heap.push { cls := .type "slice", data := .fields #[vl, vu, vs] } }
  rcases q with ⟨hx, q⟩ | ⟨hx, q⟩
  · obtain ⟨its, r, ht, hz⟩ := I5.list hx
    have hlen := r.length
    refine tail_any (ops := [.ref a, .ref s4.heap.objs.size]) ht.isList.typeIs (PySem.slot_list_getitem.lookup) ?_ (by with_unfolding_all rfl)
    refine wpAny_getItem_list_slice ht.isList (Heap.IsSliceOf.new _ vl vu vs) pl pu ps (by decide) ?_ (by rw [List.size_toArray]; omega)
    rw [PySem.W.krv_pick]
    exact ⟨.ref _, _, I5.laid (t' := s4.toks) (o := .lst xs.reverse) (fun b ob q => Heap.get?_push_of_some _ q) (Nat.le_refl _) ⟨by rw [List.length_reverse]; exact hz, _, 0, r.reverse, Heap.get?_push_size _ rfl⟩, rfl, q _ fr⟩
  · obtain ⟨its, r, ht, hz⟩ := I5.tuple hx
    have hlen := r.length
    refine tail_any (ops := [.ref a, .ref s4.heap.objs.size]) ht.typeIs (PyProof.Rows.slot_tuple_getitem.lookup) ?_ (by with_unfolding_all rfl)
    refine tup_rev ht (Heap.IsSliceOf.new _ vl vu vs) pl pu ps ?_ (by rw [List.size_toArray]; omega)
    exact ⟨.ref _, _, I5.laid (t' := s4.toks) (o := .tup xs.reverse) (fun b ob q => Heap.get?_push_of_some _ q) (Nat.le_refl _) ⟨by rw [List.length_reverse]; exact hz, _, r.reverse, IsTup.new _ _⟩, rfl, q _ fr⟩
end
end G9

/-! P3: enumerate(t) of a tuple. -/
namespace G9
open PySem PySem.Spec L2 PyProof.Rows
theorem enum_new1 {v : Value} {o : Obj} {Hh : Heap → Prop} (Bg : Begins v o Hh) :
    Meets (Builtin.«enumerate.__new__» ⟨[.type "enumerate", v], []⟩) (fun _ R s => Hh s.heap ∧
      R (.ok (.ret (.ref (s.heap.push o).objs.size))) { s with heap := (s.heap.push o).push { cls := .type "enumerate", data := .fields #[.none, .bool false, .ref s.heap.objs.size, rawInt 0, .none, .none] } }) :=
  .of_wp fun prog w A R s h => by
    obtain ⟨hp, g, d, tk, os⟩ := s
    obtain ⟨h1, h⟩ := h
    have hsub := sub_enumerate
    have q1 : ∀ {A' : Around} {E : Value → Shared → Prop} {Q : Value → Shared → Prop}, Q (.ref hp.objs.size) ⟨hp.push o, g, d, tk, os⟩ → wpAny (model prog w) A' (pyIter v) Q E ⟨hp, g, d, tk, os⟩ :=
      fun q => Bg.iter prog w _ _ ⟨hp, g, d, tk, os⟩ _ h1 q
    wp_walk using q1
    refine wpAny_stack_any fun st => wpAny_pure ?_
    split
    · rename_i c _ _ _ _ _
      cases (c == Value.type "enumerate")
      · wp_walk using q1
        exact ⟨_, rfl, h⟩
      · wp_walk using q1
        exact ⟨_, rfl, h⟩
    · wp_walk using q1
      exact ⟨_, rfl, h⟩
section
variable {prog : Program} {w : World} {A : Around} {E : Value → Shared → Prop} {s : Shared}
theorem enum_tuple {l : Addr} {items : Array Value} {Q : Value → Shared → Prop} (hL : s.heap.IsTuple l items)
    (h : ∀ h', IsEnum h' (s.heap.objs.size + 1) s.heap.objs.size 0 .none → h'.IsTupleIter s.heap.objs.size l 0 → (∀ b o, s.heap.get? b = some o → h'.get? b = some o) → Q (.ref (s.heap.objs.size + 1)) { s with heap := h' }) :
    wpAny (model prog w) A (call (.type "enumerate") [.ref l]) Q E s := by
  refine callType_new F.called_enumerate (by decide) (F.typeCall_enumerate_1 _) (F.newCall_enumerate_1 _) (fun obj => F.args_object_init_2 obj _) F.entry_enumerate_new (enum_new1 (begins_tuple l items)) ⟨hL, ?_⟩
  have hz : (s.heap.push { cls := .type "tuple_iterator", data := .fields #[.ref l, .int 0 0] }).objs.size = s.heap.objs.size + 1 := Heap.size_push ..
  show _ ∧ _
  rw [hz]
  have he : IsEnum ((s.heap.push { cls := .type "tuple_iterator", data := .fields #[.ref l, .int 0 0] }).push
      { cls := .type "enumerate", data := .fields #[.none, .bool false, .ref s.heap.objs.size, rawInt 0, .none, .none] }) (s.heap.objs.size + 1) s.heap.objs.size 0 .none := by
    have := Heap.get?_push_size (s.heap.push { cls := .type "tuple_iterator", data := .fields #[.ref l, .int 0 0] })
      (o := { cls := .type "enumerate", data := .fields #[.none, .bool false, .ref s.heap.objs.size, rawInt 0, .none, .none] }) rfl
    rw [hz] at this; exact this
  exact ⟨⟨_, he, rfl⟩, h _ he ⟨_, Heap.get?_push_of_some _ (Heap.get?_push_size _ rfl), rfl, rfl⟩ fun b o x => Heap.get?_push_of_some _ (Heap.get?_push_of_some _ x)⟩
end
/-- the tuple at a, each item in a new pair -/
def IteT (K : PySem.W.Frag) (a : Addr) : It :=
  ⟨fun i H => ∃ (xs : List V) (x : V), SqT K H a xs ∧ xs[i]? = some x, fun i H v H' => ∃ T x, v = .ref T ∧ H T = none ∧ H' = upd H T (.tup [.int (i : Nat), x]) ∧ ∀ xs, SqT K H a xs → xs[i]? = some x, fun i H => ∃ xs : List V, SqT K H a xs ∧ xs.length ≤ i⟩
theorem turn_enumT {P : Program} {w : World} {K : PySem.W.Frag} {elts : List Expr} {kk : Nat} {tpos : Pos} (a e it : Addr) :
    Turn P w K (.Tuple elts kk tpos) (IteT K a) [e, it] e (fun i h => (∃ old, IsEnum h e it ((i : Nat) : Int) old) ∧ h.IsTupleIter it a i ∧ e ≠ it ∧ a ≠ it ∧ a ≠ e) where
  mem := by simp
  obj := fun i h st b hb => by
    obtain ⟨⟨old, he⟩, ⟨o, ho, hc, hd⟩, _⟩ := st
    rcases (by simpa using hb : b = e ∨ b = it) with rfl | rfl
    · exact ⟨_, he, fun v q => nomatch q⟩
    · exact ⟨o, ho, fun v q => by rw [hd] at q; cases q⟩
  keep := fun i h h' st k => let ⟨⟨old, he⟩, hi, hne⟩ := st; ⟨⟨old, k e (by simp) _ he⟩, hi.at fun o q => k it (by simp) o q, hne⟩
  item := by
    intro X hP hw hK hc i pins s σ H E I hf st hg
    subst hP hw hK
    obtain ⟨⟨old, he⟩, hit, hne, ha1, ha2⟩ := st
    obtain ⟨xs, x, hq, hx⟩ := hg
    obtain ⟨its, rv, p, hz⟩ := I.tuple hq
    obtain ⟨u, hu, ru⟩ := rv.get hx
    have hel : e < s.heap.objs.size := Heap.lt_size he
    have hil : it < s.heap.objs.size := by obtain ⟨_, q, _⟩ := hit; exact Heap.lt_size q
    have hlt : i < its.toArray.size := by
      rw [List.size_toArray]
      exact (List.getElem?_eq_some_iff.mp hu).1
    have D := Draws.tuple (prog := X.prog) (w := X.w) (A := X.A.in1) (I.ok.hd hc) it a ha1 its.toArray
    refine wpAny_pyNext_enum_itemC D he ⟨hit, show s.heap.IsTuple a its.toArray from p⟩ hlt hne (by simp [hne, Ne.symm ha2]) fun x' h' tk hP ho hs' hT hsz hk => ?_
    have ex : x' = u := by
      have hP : its.toArray[i]? = some x' := hP
      have e2 : its[i]? = some x' := by simpa using hP
      rw [hu] at e2; cases e2; rfl
    subst ex
    refine ⟨_, rfl, wpAny_letOwnedTupleGo_enum (s := { s with heap := h', toks := tk + 1 }) ho fun h'' he' sb => ?_⟩
    have hT2 : h''.get? s.heap.objs.size = some { cls := .type "tuple", data := .seq #[.int i tk, x'] } := (sb.2 _ (Nat.ne_of_gt hel)).trans hT
    have new : ObjOk X.prog X.w (upd H s.heap.objs.size (.tup [.int (i : Nat), x])) h'' s.heap.objs.size (.tup [.int (i : Nat), x]) :=
      ⟨by show 2 ≤ sizeLine; decide, [.int i tk, x'], .cons ⟨_, rfl⟩ (.cons ru .nil), ⟨_, hT2, rfl, _, rfl⟩⟩
    have I1 : Inv X pins σ (upd H s.heap.objs.size (.tup [.int (i : Nat), x])) { s with heap := h'', toks := tk + 1 } :=
      I.turnedNew (ch := [e, it]) (fun b ob hb q => (sb.2 b (fun z => hb (by simp [z]))).trans (hk b ob (fun z => hb (by simp [z])) (fun z => hb (by simp [z])) q)) hf (Nat.le_refl _) new
    refine ⟨.ref s.heap.objs.size, _, I1, rfl, ⟨_, x, rfl, I.hok.fresh (Nat.le_refl _), rfl, fun ys hy => by rw [I.tuple_inj hy hq]; exact hx⟩, ⟨⟨x', ?_⟩, hs'.1.at fun o q => (sb.2 it (Ne.symm hne)).trans q, hne, ha1, ha2⟩, fun b hb => ?_⟩
    · have e1 : ((i + 1 : Nat) : Int) = (i : Int) + 1 := by omega
      rw [e1]; exact he'
    · have hb' : b < s.heap.objs.size := by
        rcases (by simpa using hb : b = e ∨ b = it) with rfl | rfl
        · exact hel
        · exact hil
      rw [upd_ne (Nat.ne_of_lt hb')]
      exact (hf b hb).1
  done := by
    intro X hP hw hK hc i pins s σ H E I hf st hg
    subst hP hw hK
    obtain ⟨⟨old, he⟩, hit, hne, ha1, ha2⟩ := st
    obtain ⟨xs, hq, hx⟩ := hg
    obtain ⟨its, rv, p, hz⟩ := I.tuple hq
    obtain ⟨f0, f1, f2, f3, f4, f5⟩ := hf it (by simp)
    have hl := rv.length
    have hT : s.TypeIs (.ref e) "enumerate" := ⟨_, he, rfl⟩
    unfold pyNext
    refine wpAny_bind (wpAny_attempt (wpAny_callSpecial?_slot (name := Str.ofString "__next__") hT PySem.F.slot_enumerate_next
      (wpAny_call_entry PySem.F.slot_enumerate_next hT PySem.F.entry_enumerate_next ?_ (PySem.F.args_enumerate_next_1 _))))
    show wpAny _ _ (field (.ref e) 2 >>= _) _ _ _
    refine wpAny_bind (wpAny_field he rfl (x := .ref it) rfl ?_)
    have nx : its.toArray[i]? = none := by
      rw [← Array.getElem?_toList]
      exact List.getElem?_eq_none (by simp; omega)
    refine wpAny_bind (wpAny_nextOf_tuple_end (I.ok.hd hc) hit (show s.heap.IsTuple a its.toArray from p) nx fun h' ex hs' hex => ?_)
    obtain ⟨oe, hoe, hce⟩ := hex
    refine wpAny_bind (wpAny_isInstance (T := "StopIteration") (b := true) ⟨oe, hoe, hce⟩ isSubtype_stop ?_)
    exact wpAny_pure ⟨rfl, I.turned (t' := s.toks) (fun b o hb q => hs' b o hb q) f0 f1 f3 f4 f5⟩
  self := fun A i s Q E st h => let ⟨⟨_, he⟩, _⟩ := st; wpAny_pyIter_enum he h
/-- enumerate(xs), a list or a tuple -/
def iEnumA (K : PySem.W.Frag) (ta : TA) : TI := fun σ H R => ta σ H fun vs H1 => ∃ a xs, vs = [.ref a] ∧ ((SqL K H1 a xs ∧ (xs.length ≤ sizeLine → R (Ite K a) H1)) ∨ (SqT K H1 a xs ∧ (xs.length ≤ sizeLine → R (IteT K a) H1)))
theorem pi_enumA {X : Cx} {e : Expr} {ta : TA} {p pos tpos : Pos} {elts : List Expr} {kk : Nat} (hg : Gl X "enumerate") (hm : X.mg "enumerate" = none) (ha : PA X [e] ta) (hs : starEach [e] X.env = [(false, eval e X.env)]) :
    PI X (.Tuple elts kk tpos) (.Call (.Name "enumerate" p) [e] [] pos) (iEnumA X.K ta) := by
  refine ⟨fun pins s σ H R I h => Call_ (ld_blt I hg hm boot_enumerate (PyProof.Rows.callWith_type1 (thn (ha.run pos pins s σ H _ I h) fun us s1 ⟨vs, H1, I1, r1, a, xs, ex, q1⟩ => ?_) hs rfl))⟩
  subst ex
  cases r1 with
  | cons r rr =>
    cases rr
    cases r
    have fp : ∀ b ∈ [s1.heap.objs.size + 1, s1.heap.objs.size], FpOk X pins H1 b := fun b hb => by
      have hle : s1.heap.objs.size ≤ b := by
        rcases (by simpa using hb : b = s1.heap.objs.size + 1 ∨ b = s1.heap.objs.size) with rfl | rfl
        · exact Nat.le_add_right _ _
        · exact Nat.le_refl _
      exact I1.fpOk hle (I1.hok.fresh hle)
    rcases q1 with ⟨hq, q⟩ | ⟨hq, q⟩
    · obtain ⟨its, rv, p', hz⟩ := I1.list hq
      refine call_enumerate_list p'.isList fun h' he hit hsz hk => wpAny_pyIter_enum he ?_
      exact ⟨_, [s1.heap.objs.size + 1, s1.heap.objs.size], _, _, H1, rfl, I1.kept (t' := s1.toks) hk, turn_enum a (s1.heap.objs.size + 1) s1.heap.objs.size, ⟨⟨.none, he⟩, hit, Nat.succ_ne_self _⟩, fp, q hz⟩
    · obtain ⟨its, rv, p', hz⟩ := I1.tuple hq
      have hlt : a < s1.heap.objs.size := p'.lt
      refine enum_tuple (show s1.heap.IsTuple a its.toArray from p') fun h' he hit hk => wpAny_pyIter_enum he ?_
      exact ⟨_, [s1.heap.objs.size + 1, s1.heap.objs.size], _, _, H1, rfl, I1.kept (t' := s1.toks) hk, turn_enumT a (s1.heap.objs.size + 1) s1.heap.objs.size, ⟨⟨.none, he⟩, hit, Nat.succ_ne_self _, Nat.ne_of_lt hlt, Nat.ne_of_lt (Nat.lt_succ_of_lt hlt)⟩, fp, q hz⟩
end G9

/-! P4: zip(t, u, strict=True) of two tuples of one length. -/
namespace G9
open PySem PySem.Spec L2 PyProof.Rows RZ
abbrev IsZipS (h : Heap) (z TI TO : Addr) (f0 : Value) : Prop :=
  h.get? z = some { cls := .type "zip", dict := none, data := .fields #[f0, .bool false, .bool true, .ref TI, .ref TO], slots := #[] }
section
variable {prog : Program} {w : World} {A : Around} {E : Value → Shared → Prop} {s : Shared}
theorem noe_item {it l : Addr} {i : Nat} {items} {x : Value} {Q : Option Value → Shared → Prop} (hit : s.heap.IsTupleIter it l i) (hl : s.heap.IsTuple l items) (hx : items[i]? = some x)
    (hQ : ∀ h', h'.IsTupleIter it l (i + 1) → Heap.SameBut it s.heap h' → Q (some x) { s with heap := h' }) : wpAny (model prog w) A (Builtin.SmallTypes.nextOrEnd (.ref it)) Q E s := by
  unfold Builtin.SmallTypes.nextOrEnd
  exact wpAny_bind (wpAny_attempt (nextOf_tuple_item hit hl hx fun h' a b => wpAny_pure (hQ h' a b)))
theorem noe_end {it l : Addr} {i : Nat} {items} {Q : Option Value → Shared → Prop} (hh : A.handled = none) (hit : s.heap.IsTupleIter it l i) (hl : s.heap.IsTuple l items) (hx : items[i]? = none)
    (hQ : ∀ h', Heap.ExtBut it s.heap h' → Q none { s with heap := h' }) : wpAny (model prog w) A (Builtin.SmallTypes.nextOrEnd (.ref it)) Q E s := by
  unfold Builtin.SmallTypes.nextOrEnd
  refine wpAny_bind (wpAny_attempt (nextOf_tuple_end hh hit hl hx fun h' e a he => ?_))
  obtain ⟨o, ho, hc⟩ := he
  exact wpAny_bind (wpAny_isInstance (T := "StopIteration") (b := true) ⟨o, ho, hc⟩ isSubtype_stop (wpAny_pure (hQ h' a)))
theorem zipS_next_item {z TI TO i1 i2 l1 l2 : Addr} {k1 k2 : Nat} {xs ys : Array Value} {x y a b : Value} {Q : Value → Shared → Prop} (D : ZipApart z TI TO i1 i2 l1 l2)
    (hz : IsZipS s.heap z TI TO .none) (hTI : IsPair s.heap TI (.ref i1) (.ref i2)) (hTO : IsPair s.heap TO a b)
    (h1 : s.heap.IsTupleIter i1 l1 k1) (h2 : s.heap.IsTupleIter i2 l2 k2) (hl1 : s.heap.IsTuple l1 xs) (hl2 : s.heap.IsTuple l2 ys) (hx : xs[k1]? = some x) (hy : ys[k2]? = some y)
    (hQ : ∀ h', IsZipS h' z TI TO (rawInt s.heap.objs.size) → IsPair h' TO x y → h'.IsTupleIter i1 l1 (k1 + 1) → h'.IsTupleIter i2 l2 (k2 + 1) → IsPair h' s.heap.objs.size x y → h'.objs.size = s.heap.objs.size + 1 →
      (∀ c o, c ≠ z → c ≠ TO → c ≠ i1 → c ≠ i2 → s.heap.get? c = some o → h'.get? c = some o) → Q (.ref s.heap.objs.size) { s with heap := h' }) :
    wpAny (model prog w) A (Builtin.«zip.__next__» ⟨[.ref z], []⟩) (fun fin s' => ∃ v, fin = .done (.ret v) ∧ Q v s') E s := by
  show wpAny _ _ (field (.ref z) 2 >>= _) _ _ _
  refine wpAny_bind (wpAny_field hz rfl (x := .bool true) rfl ?_)
  show wpAny _ _ (field (.ref z) 3 >>= _) _ _ _
  refine wpAny_bind (wpAny_field hz rfl (x := .ref TI) rfl ?_)
  refine wpAny_bind (wpAny_seqItems hTI rfl ?_)
  show wpAny _ _ (Builtin.SmallTypes.ownedTupleIsFree (.ref z) >>= _) _ _ _
  refine wpAny_bind ?_
  unfold Builtin.SmallTypes.ownedTupleIsFree
  refine wpAny_bind (wpAny_field hz rfl (x := .none) rfl (wpAny_pure ?_))
  simp only [if_true]
  refine wpAny_bind (wpAny_rule ?_)
  refine wpAny_bind (wpAny_field hz rfl (x := .ref TO) rfl ?_)
  refine wpAny_bind (wpAny_setField_rec hz (by simp) fun h₁ hz₁ hs₁ => ?_)
  replace hz₁ : IsZipS h₁ z TI TO .ellipsis := hz₁
  refine wpAny_bind ?_
  simp only [List.zipIdx_cons, List.zipIdx_nil, List.forIn_cons, List.forIn_nil]
  refine wpAny_bind (wpAny_bind (wpAny_onRaise ?_))
  show wpAny _ _ (Builtin.SmallTypes.nextOrEnd (.ref i1)) _ _ _
  refine noe_item (h1.extBut hs₁.extBut D.i1z) (hl1.extBut hs₁.extBut D.l1z) hx fun h₂ h1₂ hs₂ => ?_
  have hTO₂ : IsPair h₂ TO a b := hs₂.extBut _ _ D.TOi1 (hs₁.extBut _ _ D.TOz hTO)
  refine wpAny_bind (wpAny_seqItems hTO₂ rfl ?_)
  refine wpAny_bind (wpAny_updateSeq_pair hTO₂ fun h₃ hTO₃ hs₃ => ?_)
  replace hTO₃ : IsPair h₃ TO x b := hTO₃
  refine wpAny_bind (wpAny_letGo (wpAny_pure ?_))
  refine wpAny_bind (wpAny_bind (wpAny_onRaise ?_))
  show wpAny _ _ (Builtin.SmallTypes.nextOrEnd (.ref i2)) _ _ _
  refine noe_item (((h2.extBut hs₁.extBut D.i2z).extBut hs₂.extBut D.i12.symm).extBut hs₃.extBut D.TOi2.symm)
    (((hl2.extBut hs₁.extBut D.l2z).extBut hs₂.extBut D.l2i1).extBut hs₃.extBut D.l2TO) hy fun h₄ h2₄ hs₄ => ?_
  have hTO₄ : IsPair h₄ TO x b := hs₄.extBut _ _ D.TOi2 hTO₃
  refine wpAny_bind (wpAny_seqItems hTO₄ rfl ?_)
  refine wpAny_bind (wpAny_updateSeq_pair hTO₄ fun h₅ hTO₅ hs₅ => ?_)
  replace hTO₅ : IsPair h₅ TO x y := hTO₅
  refine wpAny_bind (wpAny_letGo (wpAny_pure (wpAny_pure ?_)))
  refine wpAny_bind (wpAny_seqItems hTO₅ rfl ?_)
  refine wpAny_bind (wpAny_newTuple ?_)
  have hsz : h₅.objs.size = s.heap.objs.size := by rw [hs₅.1, hs₄.1, hs₃.1, hs₂.1, hs₁.1]
  have hz₅ : IsZipS h₅ z TI TO .ellipsis := hs₅.extBut _ _ D.TOz.symm (hs₄.extBut _ _ D.i2z.symm (hs₃.extBut _ _ D.TOz.symm (hs₂.extBut _ _ D.i1z.symm hz₁)))
  have hk₅ : ∀ c o, c ≠ z → c ≠ TO → c ≠ i1 → c ≠ i2 → s.heap.get? c = some o → h₅.get? c = some o := fun c o c1 c2 c3 c4 e =>
    hs₅.extBut _ _ c2 (hs₄.extBut _ _ c4 (hs₃.extBut _ _ c2 (hs₂.extBut _ _ c3 (hs₁.extBut _ _ c1 e))))
  have h1₅ : h₅.IsTupleIter i1 l1 (k1 + 1) := ((h1₂.extBut hs₃.extBut D.TOi1.symm).extBut hs₄.extBut D.i12).extBut hs₅.extBut D.TOi1.symm
  have h2₅ : h₅.IsTupleIter i2 l2 (k2 + 1) := h2₄.extBut hs₅.extBut D.TOi2.symm
  have hzlt : z < h₅.objs.size := Heap.lt_size hz₅
  show wpAny _ _ (Builtin.SmallTypes.ownedTupleHandOut (.ref z) (.ref h₅.objs.size) >>= _) _ _ _
  refine wpAny_bind ?_
  unfold Builtin.SmallTypes.ownedTupleHandOut
  have hz₆ : IsZipS (h₅.push { cls := .type "tuple", data := .seq #[x, y] }) z TI TO .ellipsis := Heap.get?_push_of_some _ hz₅
  refine wpAny_bind (wpAny_setField_rec hz₆ (by simp) fun h₇ hz₇ hs₇ => ?_)
  replace hz₇ : IsZipS h₇ z TI TO (rawInt h₅.objs.size) := hz₇
  refine wpAny_setField_rec hz₇ (by simp) fun h₈ hz₈ hs₈ => ?_
  replace hz₈ : IsZipS h₈ z TI TO (rawInt h₅.objs.size) := hz₈
  have up : ∀ c o, c ≠ z → h₅.get? c = some o → h₈.get? c = some o := fun c o c1 e => hs₈.extBut _ _ c1 (hs₇.extBut _ _ c1 (Heap.get?_push_of_some _ e))
  have hT₈ : IsPair h₈ h₅.objs.size x y := hs₈.extBut _ _ (Nat.ne_of_gt hzlt) (hs₇.extBut _ _ (Nat.ne_of_gt hzlt) (Heap.get?_push_size _ rfl))
  have hz8 : h₈.objs.size = h₅.objs.size + 1 := by rw [hs₈.1, hs₇.1, Heap.size_push]
  rw [hsz] at hz₈ hT₈ hz8
  refine wpAny_pure ⟨_, rfl, ?_⟩
  show Q (.ref h₅.objs.size) _
  rw [hsz]
  exact hQ h₈ hz₈ (up _ _ D.TOz hTO₅) (h1₅.at fun o e => up _ o D.i1z e) (h2₅.at fun o e => up _ o D.i2z e) hT₈ hz8 fun c o c1 c2 c3 c4 e => up c o c1 (hk₅ c o c1 c2 c3 c4 e)
theorem zipS_next_end {z TI TO i1 i2 l1 l2 : Addr} {k1 k2 : Nat} {xs ys : Array Value} {a b : Value} {Q : Fin → Shared → Prop} (hh : A.handled = none) (D : ZipApart z TI TO i1 i2 l1 l2)
    (hz : IsZipS s.heap z TI TO .none) (hTI : IsPair s.heap TI (.ref i1) (.ref i2)) (hTO : IsPair s.heap TO a b)
    (h1 : s.heap.IsTupleIter i1 l1 k1) (h2 : s.heap.IsTupleIter i2 l2 k2) (hl1 : s.heap.IsTuple l1 xs) (hl2 : s.heap.IsTuple l2 ys) (hx : xs[k1]? = none) (hy : ys[k2]? = none)
    (hE : ∀ h' e, (∀ c o, c ≠ z → c ≠ TO → c ≠ i1 → c ≠ i2 → s.heap.get? c = some o → h'.get? c = some o) → (∃ o, h'.get? e = some o ∧ o.cls = .type "StopIteration") → E (.ref e) { s with heap := h' }) :
    wpAny (model prog w) A (Builtin.«zip.__next__» ⟨[.ref z], []⟩) Q E s := by
  show wpAny _ _ (field (.ref z) 2 >>= _) _ _ _
  refine wpAny_bind (wpAny_field hz rfl (x := .bool true) rfl ?_)
  show wpAny _ _ (field (.ref z) 3 >>= _) _ _ _
  refine wpAny_bind (wpAny_field hz rfl (x := .ref TI) rfl ?_)
  refine wpAny_bind (wpAny_seqItems hTI rfl ?_)
  show wpAny _ _ (Builtin.SmallTypes.ownedTupleIsFree (.ref z) >>= _) _ _ _
  refine wpAny_bind ?_
  unfold Builtin.SmallTypes.ownedTupleIsFree
  refine wpAny_bind (wpAny_field hz rfl (x := .none) rfl (wpAny_pure ?_))
  simp only [if_true]
  refine wpAny_bind (wpAny_rule ?_)
  refine wpAny_bind (wpAny_field hz rfl (x := .ref TO) rfl ?_)
  refine wpAny_bind (wpAny_setField_rec hz (by simp) fun h₁ hz₁ hs₁ => ?_)
  replace hz₁ : IsZipS h₁ z TI TO .ellipsis := hz₁
  refine wpAny_bind ?_
  simp only [List.zipIdx_cons, List.zipIdx_nil, List.forIn_cons, List.forIn_nil]
  refine wpAny_bind (wpAny_bind (wpAny_onRaise ?_))
  show wpAny _ _ (Builtin.SmallTypes.nextOrEnd (.ref i1)) _ _ _
  refine noe_end hh (h1.extBut hs₁.extBut D.i1z) (hl1.extBut hs₁.extBut D.l1z) hx fun h₂ hs₂ => ?_
  have hz₂ : IsZipS h₂ z TI TO .ellipsis := hs₂ _ _ D.i1z.symm hz₁
  refine wpAny_bind (wpAny_setField_rec hz₂ (by simp) fun h₃ hz₃ hs₃ => ?_)
  have h2₃ : h₃.IsTupleIter i2 l2 k2 := ((h2.extBut hs₁.extBut D.i2z).extBut hs₂ D.i12.symm).extBut hs₃.extBut D.i2z
  have hl2₃ : h₃.IsTuple l2 ys := ((hl2.extBut hs₁.extBut D.l2z).extBut hs₂ D.l2i1).extBut hs₃.extBut D.l2z
  refine wpAny_bind ?_
  have key : ∀ {Q : Fin → Shared → Prop} {t : Sem Fin}, t = (do
      if (0 : Nat) > 0 then
        rule "zip.__next__.shorter"; raiseError "ValueError" s!"zip() argument {0 + 1} is shorter than {if (0 : Nat) == 1 then "argument 1" else s!"arguments 1-{0}"}"
      for (it, j) in (([.ref i1, .ref i2] : List Value).drop 1).zipIdx 1 do
        if (← Builtin.SmallTypes.nextOrEnd it).isSome then
          rule "zip.__next__.longer"; raiseError "ValueError" s!"zip() argument {j + 1} is longer than {if j == 1 then "argument 1" else s!"arguments 1-{j}"}"
      rule "zip.__next__.all-ended"; Builtin.SmallTypes.stopIteration) → wpAny (model prog w) A t Q E { s with heap := h₃ } := by
    intro Q t e
    subst e
    rw [if_neg (by omega)]
    simp only [List.drop_succ_cons, List.drop_zero, List.zipIdx_cons, List.zipIdx_nil, List.forIn_cons, List.forIn_nil]
    refine wpAny_bind (wpAny_bind (wpAny_bind (noe_end hh h2₃ hl2₃ hy fun h₄ hs₄ => ?_)))
    simp only [Option.isSome_none, Bool.false_eq_true, if_false]
    refine wpAny_pure (wpAny_pure (wpAny_bind (wpAny_rule ?_)))
    show wpAny _ _ (newExc (.type "StopIteration") [] >>= _) _ _ _
    refine wpAny_bind ?_
    simp only [newExc, newTuple]
    refine wpAny_bind (wpAny_newObj_type ?_ (by size_fits))
    refine wpAny_bind (m := firstArgMember _ _) (wpAny_of_eq (a := Value.none) (by first | rfl | (simp only [firstArgMember]; rfl)) ?_)
    refine wpAny_newObj_type ?_ (by size_fits)
    simp only [raiseNew]
    refine wpAny_bind (wpAny_handled ?_)
    first | rw [show A.in1.handled = none from hh] | rw [hh]
    refine wpAny_bind (wpAny_pure (wpAny_throw ?_))
    refine hE _ _ (fun c o c1 c2 c3 c4 q => ?_) ⟨_, Heap.get?_push_size _ rfl, rfl⟩
    exact Heap.get?_push_of_some _ (Heap.get?_push_of_some _ (hs₄ _ _ c4 (hs₃.extBut _ _ c1 (hs₂ _ _ c3 (hs₁.extBut _ _ c1 q)))))
  exact key rfl
theorem zipS_item {z TI TO i1 i2 l1 l2 : Addr} {k1 k2 : Nat} {xs ys : Array Value} {x y a b : Value} {Q : Option Value → Shared → Prop} (D : ZipApart z TI TO i1 i2 l1 l2)
    (hz : IsZipS s.heap z TI TO .none) (hTI : IsPair s.heap TI (.ref i1) (.ref i2)) (hTO : IsPair s.heap TO a b)
    (h1 : s.heap.IsTupleIter i1 l1 k1) (h2 : s.heap.IsTupleIter i2 l2 k2) (hl1 : s.heap.IsTuple l1 xs) (hl2 : s.heap.IsTuple l2 ys) (hx : xs[k1]? = some x) (hy : ys[k2]? = some y)
    (hQ : ∀ h', IsZipS h' z TI TO (rawInt s.heap.objs.size) → IsPair h' TO x y → h'.IsTupleIter i1 l1 (k1 + 1) → h'.IsTupleIter i2 l2 (k2 + 1) → IsPair h' s.heap.objs.size x y → h'.objs.size = s.heap.objs.size + 1 →
      (∀ c o, c ≠ z → c ≠ TO → c ≠ i1 → c ≠ i2 → s.heap.get? c = some o → h'.get? c = some o) → Q (some (.ref s.heap.objs.size)) { s with heap := h' }) :
    wpAny (model prog w) A (pyNext (.ref z)) Q E s := by
  have hT : s.TypeIs (.ref z) "zip" := ⟨_, hz, rfl⟩
  unfold pyNext
  exact wpAny_bind (wpAny_attempt (wpAny_callSpecial?_slot (name := Str.ofString "__next__") hT PySem.F.slot_zip_next
    (wpAny_call_entry PySem.F.slot_zip_next hT PySem.F.entry_zip_next (zipS_next_item D hz hTI hTO h1 h2 hl1 hl2 hx hy fun h' a1 a2 a3 a4 a5 a6 a7 => wpAny_pure (hQ h' a1 a2 a3 a4 a5 a6 a7)) (PySem.F.args_zip_next_1 _))))
theorem zipS_end {z TI TO i1 i2 l1 l2 : Addr} {k1 k2 : Nat} {xs ys : Array Value} {a b : Value} {Q : Option Value → Shared → Prop} (hh : A.handled = none) (D : ZipApart z TI TO i1 i2 l1 l2)
    (hz : IsZipS s.heap z TI TO .none) (hTI : IsPair s.heap TI (.ref i1) (.ref i2)) (hTO : IsPair s.heap TO a b)
    (h1 : s.heap.IsTupleIter i1 l1 k1) (h2 : s.heap.IsTupleIter i2 l2 k2) (hl1 : s.heap.IsTuple l1 xs) (hl2 : s.heap.IsTuple l2 ys) (hx : xs[k1]? = none) (hy : ys[k2]? = none)
    (hQ : ∀ h', (∀ c o, c ≠ z → c ≠ TO → c ≠ i1 → c ≠ i2 → s.heap.get? c = some o → h'.get? c = some o) → Q none { s with heap := h' }) : wpAny (model prog w) A (pyNext (.ref z)) Q E s := by
  have hT : s.TypeIs (.ref z) "zip" := ⟨_, hz, rfl⟩
  unfold pyNext
  refine wpAny_bind (wpAny_attempt (wpAny_callSpecial?_slot (name := Str.ofString "__next__") hT PySem.F.slot_zip_next
    (wpAny_call_entry PySem.F.slot_zip_next hT PySem.F.entry_zip_next (zipS_next_end hh D hz hTI hTO h1 h2 hl1 hl2 hx hy fun h' e hk he => ?_) (PySem.F.args_zip_next_1 _))))
  obtain ⟨o, ho, hc⟩ := he
  exact wpAny_bind (wpAny_isInstance (T := "StopIteration") (b := true) ⟨o, ho, hc⟩ isSubtype_stop (wpAny_pure (hQ _ hk)))
theorem zipS_let {elts : List Expr} {x1} {pos : Pos} {z TI TO T : Addr} {Q : Unit → Shared → Prop} (hz : IsZipS s.heap z TI TO (rawInt T))
    (hQ : ∀ h', IsZipS h' z TI TO .none → Heap.SameBut z s.heap h' → Q () { s with heap := h' }) : wpAny (model prog w) A (letOwnedTupleGo (.Tuple elts x1 pos) (.ref z) (.ref T)) Q E s := by
  unfold letOwnedTupleGo
  refine wpAny_bind (wpAny_load hz ?_)
  show wpAny _ _ (if (["enumerate", "zip", "dict_itemiterator", "dict_reverseitemiterator", "odict_iterator", "itertools.zip_longest", "itertools.pairwise"].contains "zip" &&
      (#[rawInt T, .bool false, .bool true, .ref TI, .ref TO] : Array Value)[0]? == some (rawInt T)) = true then _ else _) Q E s
  rw [if_pos (by simp)]
  refine wpAny_bind (wpAny_rule ?_)
  show wpAny _ _ (setField (.ref z) 0 .none) Q E s
  exact wpAny_setField_rec hz (by simp) fun h' hz' hs' => hQ h' hz' hs'
theorem zipS_iter {z TI TO : Addr} {f0 : Value} {Q : Value → Shared → Prop} (hz : IsZipS s.heap z TI TO f0) (h : Q (.ref z) s) : wpAny (model prog w) A (pyIter (.ref z)) Q E s := by
  have hT : s.TypeIs (.ref z) "zip" := ⟨_, hz, rfl⟩
  refine wpAny_pyIter_slot hT PySem.F.slot_zip_iter (wpAny_call_entry PySem.F.slot_zip_iter hT PySem.F.entry_zip_iter ?_ (PySem.F.args_zip_iter_1 _))
  show wpAny _ _ (ret (.ref z)) _ _ s
  exact wpAny_pure ⟨_, rfl, "zip", _, hT, PySem.F.slot_zip_next.lookup, h⟩
end
abbrev zS1 (h : Heap) (l1 : Addr) : Heap := h.push { cls := .type "tuple_iterator", data := .fields #[.ref l1, .int 0 0] }
abbrev zS2 (h : Heap) (l1 l2 : Addr) : Heap := (zS1 h l1).push { cls := .type "tuple_iterator", data := .fields #[.ref l2, .int 0 0] }
abbrev zS3 (h : Heap) (l1 l2 : Addr) : Heap := (zS2 h l1 l2).push { cls := .type "tuple", data := .seq #[.ref h.objs.size, .ref (zS1 h l1).objs.size] }
abbrev zS4 (h : Heap) (l1 l2 : Addr) : Heap := (zS3 h l1 l2).push { cls := .type "tuple", data := .seq #[.none, .none] }
abbrev zS5 (h : Heap) (l1 l2 : Addr) : Heap := (zS4 h l1 l2).push { cls := .type "zip", data := .fields #[.none, .bool false, .bool true, .ref (zS2 h l1 l2).objs.size, .ref (zS3 h l1 l2).objs.size] }
theorem zipS_new (l1 l2 : Addr) (xs ys : Array Value) :
    Meets (Builtin.«zip.__new__» ⟨[.type "zip", .ref l1, .ref l2], [(Str.ofString "strict", .bool true)]⟩) (fun _ R s => s.heap.IsTuple l1 xs ∧ s.heap.IsTuple l2 ys ∧
      R (.ok (.ret (.ref (zS4 s.heap l1 l2).objs.size))) { s with heap := zS5 s.heap l1 l2 }) :=
  .of_wp fun prog w A R s h => by
    obtain ⟨hp, g, d, tk, os⟩ := s; obtain ⟨hl1, hl2, h⟩ := h
    have hsub := sub_zip
    have e1 : (Str.ofString "strict" != ("strict" : Str)) = false := by decide +kernel
    have hL1 : Heap.IsTuple (Shared.heap ⟨hp, g, d, tk, os⟩) l1 xs := hl1
    have hL2 : Heap.IsTuple (Shared.heap ⟨hp.push { cls := .type "tuple_iterator", data := .fields #[.ref l1, .int 0 0] }, g, d, tk, os⟩) l2 ys := Heap.IsTuple.push hl2 _
    wp_walk using wpAny_pyIter_tuple hL1, wpAny_pyIter_tuple hL2
    exact ⟨_, rfl, h⟩
theorem typeCall_zipS (a b c : Value) : checkTypeCall "zip" ⟨[a, b], [(Str.ofString "strict", c)]⟩ = pure () := by kernel_rfl
theorem newCall_zipS (a b c : Value) : checkBuiltinCall "zip.__new__" ⟨[.type "zip", a, b], [(Str.ofString "strict", c)]⟩ = pure () := by kernel_rfl
theorem initArgs_zipS (obj a b c : Value) : argsOk "object.__init__" ⟨[obj, a, b], [(Str.ofString "strict", c)]⟩ := by unfold argsOk; kernel_rfl
section
variable {prog : Program} {w : World} {A : Around} {E : Value → Shared → Prop} {s : Shared}
theorem call_zipS {l1 l2 : Addr} {xs ys : Array Value} {Q : Value → Shared → Prop} (hl1 : s.heap.IsTuple l1 xs) (hl2 : s.heap.IsTuple l2 ys)
    (h : ∀ h', IsZipS h' (s.heap.objs.size + 4) (s.heap.objs.size + 2) (s.heap.objs.size + 3) .none → IsPair h' (s.heap.objs.size + 2) (.ref s.heap.objs.size) (.ref (s.heap.objs.size + 1)) →
      IsPair h' (s.heap.objs.size + 3) .none .none → h'.IsTupleIter s.heap.objs.size l1 0 → h'.IsTupleIter (s.heap.objs.size + 1) l2 0 →
      (∀ c o, s.heap.get? c = some o → h'.get? c = some o) → Q (.ref (s.heap.objs.size + 4)) { s with heap := h' }) :
    wpAny (model prog w) A (call (.type "zip") [.ref l1, .ref l2] [(Str.ofString "strict", .bool true)]) Q E s := by
  refine callType_newKw PySem.F.called_zip (by decide) (typeCall_zipS _ _ _) (newCall_zipS _ _ _) (fun obj => initArgs_zipS obj _ _ _) PySem.F.entry_zip_new (zipS_new l1 l2 xs ys) ⟨hl1, hl2, ?_⟩
  have z1 : (zS1 s.heap l1).objs.size = s.heap.objs.size + 1 := Heap.size_push ..
  have z2 : (zS2 s.heap l1 l2).objs.size = s.heap.objs.size + 2 := by rw [Heap.size_push, z1]
  have z3 : (zS3 s.heap l1 l2).objs.size = s.heap.objs.size + 3 := by rw [Heap.size_push, z2]
  have z4 : (zS4 s.heap l1 l2).objs.size = s.heap.objs.size + 4 := by rw [Heap.size_push, z3]
  have g5 : (zS5 s.heap l1 l2).get? (zS4 s.heap l1 l2).objs.size = some _ := Heap.get?_push_size _ rfl
  have g4 : (zS5 s.heap l1 l2).get? (zS3 s.heap l1 l2).objs.size = some _ := Heap.get?_push_of_some _ (Heap.get?_push_size _ rfl)
  have g3 : (zS5 s.heap l1 l2).get? (zS2 s.heap l1 l2).objs.size = some _ := Heap.get?_push_of_some _ (Heap.get?_push_of_some _ (Heap.get?_push_size _ rfl))
  have g2 : (zS5 s.heap l1 l2).get? (zS1 s.heap l1).objs.size = some _ := Heap.get?_push_of_some _ (Heap.get?_push_of_some _ (Heap.get?_push_of_some _ (Heap.get?_push_size _ rfl)))
  have g1 : (zS5 s.heap l1 l2).get? s.heap.objs.size = some _ := Heap.get?_push_of_some _ (Heap.get?_push_of_some _ (Heap.get?_push_of_some _ (Heap.get?_push_of_some _ (Heap.get?_push_size _ rfl))))
  show _ ∧ _
  rw [z2, z3, z4] at g5
  rw [z1, z2] at g3
  rw [z3] at g4
  rw [z1] at g2
  rw [z4]
  exact ⟨⟨_, g5, rfl⟩, h _ g5 g3 g4 ⟨_, g1, rfl, rfl⟩ ⟨_, g2, rfl, rfl⟩ fun c o x =>
    Heap.get?_push_of_some _ (Heap.get?_push_of_some _ (Heap.get?_push_of_some _ (Heap.get?_push_of_some _ (Heap.get?_push_of_some _ x))))⟩
end
/-- the tuples at a and b of one length, the items in new pairs -/
def ItzS (K : PySem.W.Frag) (a b : Addr) : It :=
  ⟨fun i H => ∃ (xs ys : List V) (x y : V), SqT K H a xs ∧ SqT K H b ys ∧ xs[i]? = some x ∧ ys[i]? = some y,
    fun i H v H' => ∃ T x y, v = .ref T ∧ H T = none ∧ H' = upd H T (.tup [x, y]) ∧ (∀ xs, SqT K H a xs → xs[i]? = some x) ∧ ∀ ys, SqT K H b ys → ys[i]? = some y,
    fun i H => ∃ xs ys : List V, SqT K H a xs ∧ SqT K H b ys ∧ xs.length ≤ i ∧ ys.length ≤ i⟩
theorem five {c z TI TO i1 i2 : Addr} (h : c ∈ [z, TI, TO, i1, i2]) : c = z ∨ c = TI ∨ c = TO ∨ c = i1 ∨ c = i2 := by simpa using h
theorem turn_zipS {P : Program} {w : World} {K : PySem.W.Frag} {elts : List Expr} {kk : Nat} {tpos : Pos} {a b z TI TO i1 i2 : Addr} (D : ZipApart z TI TO i1 i2 a b) :
    Turn P w K (.Tuple elts kk tpos) (ItzS K a b) [z, TI, TO, i1, i2] z (fun i h => IsZipS h z TI TO .none ∧ IsPair h TI (.ref i1) (.ref i2) ∧ (∃ x y, IsPair h TO x y) ∧ h.IsTupleIter i1 a i ∧ h.IsTupleIter i2 b i) where
  mem := by simp
  obj := fun i h st c hc => by
    obtain ⟨hz, hTI, ⟨x, y, hTO⟩, ⟨o1, e1, _, d1⟩, ⟨o2, e2, _, d2⟩⟩ := st
    rcases five hc with rfl | rfl | rfl | rfl | rfl
    · exact ⟨_, hz, fun v q => nomatch q⟩
    · exact ⟨_, hTI, fun v q => nomatch q⟩
    · exact ⟨_, hTO, fun v q => nomatch q⟩
    · exact ⟨o1, e1, fun v q => by rw [d1] at q; cases q⟩
    · exact ⟨o2, e2, fun v q => by rw [d2] at q; cases q⟩
  keep := fun i h h' st k => by
    obtain ⟨hz, hTI, ⟨x, y, hTO⟩, h1, h2⟩ := st
    exact ⟨k z (by simp) _ hz, k TI (by simp) _ hTI, ⟨x, y, k TO (by simp) _ hTO⟩, h1.at fun o q => k i1 (by simp) o q, h2.at fun o q => k i2 (by simp) o q⟩
  item := by
    intro X hP hw hK hc i pins s σ H E I hf st hg
    subst hP hw hK
    obtain ⟨hz, hTI, ⟨x0, y0, hTO⟩, h1, h2⟩ := st
    obtain ⟨xs, ys, x, y, hqx, hqy, hx, hy⟩ := hg
    obtain ⟨its, rv, p, _⟩ := I.tuple hqx
    obtain ⟨its2, rv2, p2, _⟩ := I.tuple hqy
    obtain ⟨u, hu, ru⟩ := rv.get hx
    obtain ⟨u2, hu2, ru2⟩ := rv2.get hy
    have hzl : z < s.heap.objs.size := Heap.lt_size hz
    refine zipS_item D hz hTI hTO h1 h2 p p2 (x := u) (y := u2) (by simpa using hu) (by simpa using hu2) fun h' z' TO' h1' h2' hT hsz hk => ?_
    refine ⟨_, rfl, zipS_let (s := { s with heap := h' }) z' fun h'' z'' sb => ?_⟩
    have hT2 : h''.get? s.heap.objs.size = some { cls := .type "tuple", data := .seq #[u, u2] } := (sb.2 _ (Nat.ne_of_gt hzl)).trans hT
    have new : ObjOk X.prog X.w (upd H s.heap.objs.size (.tup [x, y])) h'' s.heap.objs.size (.tup [x, y]) :=
      ⟨by show 2 ≤ sizeLine; decide, [u, u2], .cons ru (.cons ru2 .nil), ⟨_, hT2, rfl, _, rfl⟩⟩
    have I1 : Inv X pins σ (upd H s.heap.objs.size (.tup [x, y])) { s with heap := h'' } :=
      I.turnedNew (t' := s.toks) (ch := [z, TI, TO, i1, i2]) (fun c o hb q => (sb.2 c (fun q' => hb (by simp [q']))).trans (hk c o (fun q' => hb (by simp [q'])) (fun q' => hb (by simp [q'])) (fun q' => hb (by simp [q'])) (fun q' => hb (by simp [q'])) q)) hf (Nat.le_refl _) new
    refine ⟨.ref s.heap.objs.size, _, I1, rfl, ⟨_, x, y, rfl, I.hok.fresh (Nat.le_refl _), rfl, fun l hl => by rw [I.tuple_inj hl hqx]; exact hx, fun l hl => by rw [I.tuple_inj hl hqy]; exact hy⟩, ⟨z'', ?_, ⟨u, u2, ?_⟩, ?_, ?_⟩, fun c hcm => ?_⟩
    · exact (sb.2 _ D.TIz).trans (hk _ _ D.TIz D.TITO D.TIi1 D.TIi2 hTI)
    · exact (sb.2 _ D.TOz).trans TO'
    · exact h1'.at fun o q => (sb.2 _ D.i1z).trans q
    · exact h2'.at fun o q => (sb.2 _ D.i2z).trans q
    · have hlt : c < s.heap.objs.size := by
        rcases five hcm with rfl | rfl | rfl | rfl | rfl
        · exact hzl
        · exact Heap.lt_size hTI
        · exact Heap.lt_size hTO
        · obtain ⟨_, e1, _⟩ := h1; exact Heap.lt_size e1
        · obtain ⟨_, e2, _⟩ := h2; exact Heap.lt_size e2
      rw [upd_ne (Nat.ne_of_lt hlt)]
      exact (hf c hcm).1
  done := by
    intro X hP hw hK hc i pins s σ H E I hf st hg
    subst hP hw hK
    obtain ⟨hz, hTI, ⟨x0, y0, hTO⟩, h1, h2⟩ := st
    obtain ⟨xs, ys, hqx, hqy, e1, e2⟩ := hg
    obtain ⟨its, rv, p, _⟩ := I.tuple hqx
    obtain ⟨its2, rv2, p2, _⟩ := I.tuple hqy
    have l1 := rv.length
    have l2 := rv2.length
    exact zipS_end (I.ok.hd hc) D hz hTI hTO h1 h2 p p2 (by simp; omega) (by simp; omega) fun h' hk => ⟨rfl, I.turnedL (t' := s.toks) (ch := [z, TI, TO, i1, i2]) (fun c o hb q =>
      hk c o (fun q' => hb (by simp [q'])) (fun q' => hb (by simp [q'])) (fun q' => hb (by simp [q'])) (fun q' => hb (by simp [q'])) q) hf⟩
  self := fun A i s Q E st h => zipS_iter st.1 h
def iZipS (K : PySem.W.Frag) (ta : TA) : TI := fun σ H R => ta σ H fun vs H1 => ∃ a b xs ys, vs = [.ref a, .ref b] ∧ SqT K H1 a xs ∧ SqT K H1 b ys ∧ (xs.length ≤ sizeLine → R (ItzS K a b) H1)
theorem cw_type {M : Model} {A : Around} {E : Value → Shared → Prop} {s : Shared} {pos : Pos} {T : String} {args : List (Bool × Sem Value)} {kws : List (Option Str × Sem Value)} {Q : Value → Shared → Prop} (hplain : (args.any (·.1) || kws.any (·.1.isNone)) = false)
    (h : wpAny M A (evalArgs (.type T) true args kws) (fun a s₁ => wpAny M A (call (.type T) ([] ++ a.pos) a.kw) Q E s₁) E s) : wpAny M A (callWith pos (.type T) [] args kws) Q E s := by
  unfold callWith
  refine wpAny_bind (wpAny_holding (wpAny_mono h (fun a s₁ h₁ => wpAny_bind (wpAny_standAt ?_)) fun _ _ x => x))
  simp only [hplain]
  refine wpAny_bind (wpAny_pure ?_)
  exact wpAny_bind (wpAny_mono h₁ (fun r s₂ hr => wpAny_bind (wpAny_holding (wpAny_point (wpAny_pure hr)))) fun _ _ x => x)
theorem pi_zipS {X : Cx} {e e2 : Expr} {ta : TA} {p pos tpos kp p2 : Pos} {elts : List Expr} {kk i : Nat} (hg : Gl X "zip") (hm : X.mg "zip" = none) (ha : PA X [e, e2] ta)
    (hs : starEach [e, e2] X.env = (false, eval e X.env) :: starEach [e2] X.env) (hpl : ((backTo pos (starEach [e, e2] X.env)).any (·.1) || (backToKw pos (keywordEach [⟨some "strict", .Constant (.bool true) i p2, kp⟩] X.env)).any (·.1.isNone)) = false)
    (hall : (backToKw pos (keywordEach [⟨some "strict", .Constant (.bool true) i p2, kp⟩] X.env)).all (·.1.isSome) = true) :
    PI X (.Tuple elts kk tpos) (.Call (.Name "zip" p) [e, e2] [⟨some "strict", .Constant (.bool true) i p2, kp⟩] pos) (iZipS X.K ta) := by
  refine ⟨fun pins s σ H R I h => ?_⟩
  have kw : PK X [⟨some "strict", .Constant (.bool true) i p2, kp⟩] (tCons (tC (.bl true)) tNil) := pk_cons pe_bl pk_nil
  refine wpAny_Call_Name_kw (ld_blt I hg hm PyProof.Rows.boot_zip (cw_type hpl (evalArgs_kw2 hall ?_ hs)) (by decide) (by decide))
  refine thn (ha.run pos pins s σ H _ I h) fun us s1 ⟨vs, H1, I1, r1, a, b, xs, ys, ex, hqx, hqy, q⟩ => ?_
  subst ex
  refine thn (kw.run pos pins s1 σ H1 (fun zs H2 => zs = [.bl true] ∧ H2 = H1) I1 ⟨rfl, rfl⟩) fun ws s2 ⟨zs, H2, I2, rz, e1, e2⟩ => ?_
  subst e1 e2
  cases r1 with
  | cons r rr =>
  cases rr with
  | cons r' rr =>
  cases rr
  cases r
  cases r'
  cases rz with
  | cons r3 rr =>
  cases rr
  cases r3
  have fresh5 : ∀ c, c ∈ [s2.heap.objs.size + 4, s2.heap.objs.size + 2, s2.heap.objs.size + 3, s2.heap.objs.size, s2.heap.objs.size + 1] → FpOk X pins H2 c := fun c hcm => by
    have hle : s2.heap.objs.size ≤ c := by
      rcases five hcm with rfl | rfl | rfl | rfl | rfl
      · exact Nat.le_add_right _ _
      · exact Nat.le_add_right _ _
      · exact Nat.le_add_right _ _
      · exact Nat.le_refl _
      · exact Nat.le_add_right _ _
    exact I2.fpOk hle (I2.hok.fresh hle)
  obtain ⟨its, rv, q1, hz⟩ := I2.tuple hqx
  obtain ⟨its2, rv2, q2, _⟩ := I2.tuple hqy
  refine call_zipS (show s2.heap.IsTuple a its.toArray from q1) (show s2.heap.IsTuple b its2.toArray from q2) fun h' hz' hTI hTO h1 h2 hk => zipS_iter hz' ?_
  exact ⟨s2.heap.objs.size + 4, [s2.heap.objs.size + 4, s2.heap.objs.size + 2, s2.heap.objs.size + 3, s2.heap.objs.size, s2.heap.objs.size + 1], _, _, H2, rfl, I2.kept (t' := s2.toks) hk,
    turn_zipS (PySem.W.ktu_apart s2.heap.objs.size a b q1.lt q2.lt), ⟨hz', hTI, ⟨_, _, hTO⟩, h1, h2⟩, fresh5, q hz⟩
end G9

/-! M15: more forms: xs[::-1], {}, {k: n}, list(dict(pairs)), enumerate, zip strict. -/
namespace G9
open PySem PySem.Spec L2 PyProof.Rows
/-! ### wants -/
/-- xs[::-1] -/
def rvS (x : PyData) (Q : PyData → Bool → Prop) : Prop := match x with
  | .list xs => Q (.list xs.reverse) true
  | .tuple xs => Q (.tuple xs.reverse) false
  | _ => False
def dRev (a : DO) : DE := ⟨a.m, fun ρ P R => a ρ (fun oa ρ1 => ∃ x, rs ρ1 oa = some (.d x) ∧ rvS x fun z fr => P (.d z) fr ρ1) R⟩
/-- one more key, where it is not yet there -/
def keyIn (acc : List Str) (k : Str) : List Str := if k ∈ acc then acc else acc ++ [k]
/-- the keys of dict(pairs), each once -/
def uniqK : List PyData → List Str → Option (List Str)
  | [], acc => some acc
  | .tuple [.str k, _] :: r, acc => uniqK r (keyIn acc k)
  | _, _ => none
def dUniq (a : DO) : DE := ⟨a.m, fun ρ P R => a ρ (fun oa ρ1 => ∃ xs, rs ρ1 oa = some (.d (.list xs)) ∧ ((∃ ks, uniqK xs [] = some ks ∧ P (.d (.list (ks.map .str))) true ρ1) ∨ ∃ kss, uniqT xs [] = some kss ∧ P (.d (.list (kss.map tupS))) true ρ1)) R⟩
/-- sorted(dict(pairs)) -/
def dSrtD (a : DO) : DE := ⟨a.m, fun ρ P R => a ρ (fun oa ρ1 => ∃ xs, rs ρ1 oa = some (.d (.list xs)) ∧ ((∃ ks, uniqK xs [] = some ks ∧ ks.length < 64 ∧ ∀ ms : List Str, ms.Perm ks → sortedS ms = true → P (.d (.list (ms.map .str))) true ρ1) ∨
  ∃ kss, uniqT xs [] = some kss ∧ ∀ mss : List (List Str), mss.Perm kss → mss.Pairwise (fun a b => ltSS b a = false) → P (.d (.list (mss.map tupS))) true ρ1)) R⟩
def enumD (xs : List PyData) : List PyData := (List.range xs.length).zipWith (fun (i : Nat) x => .tuple [.int (i : Int), x]) xs
def wEnum (a : DE) : DI := ⟨a.m, fun ρ P R => a ρ (fun u _ ρ1 => ∃ xs, (u = .d (.tuple xs) ∨ u = .d (.list xs)) ∧ P (enumD xs) ρ1) R⟩
def zipD (xs ys : List PyData) : List PyData := xs.zipWith (fun x y => .tuple [x, y]) ys
def wZipS (a b : DE) : DI := ⟨a.m + b.m, fun ρ P R => a ρ (fun u _ ρ1 => b ρ1 (fun u' _ ρ2 => ∃ xs ys, u = .d (.tuple xs) ∧ u' = .d (.tuple ys) ∧ xs.length = ys.length ∧ P (zipD xs ys) ρ2) R) R⟩
section
variable {W : Wk} {K : PySem.W.Frag}
theorem enumD_at {xs : List PyData} {i : Nat} {x : PyData} (h : (enumD xs)[i]? = some x) : ∃ y, xs[i]? = some y ∧ x = .tuple [.int (i : Int), y] := by
  unfold enumD at h
  rw [List.getElem?_zipWith] at h
  cases q : xs[i]? with
  | none => rw [q] at h; cases q2 : (List.range xs.length)[i]? <;> rw [q2] at h <;> cases h
  | some y =>
    have hi : i < xs.length := (List.getElem?_eq_some_iff.mp q).1
    rw [q, List.getElem?_range hi] at h
    cases h
    exact ⟨y, rfl, rfl⟩
theorem enumD_len (xs : List PyData) : (enumD xs).length = xs.length := by
  unfold enumD
  rw [List.length_zipWith, List.length_range, Nat.min_self]
theorem zipD_at {xs ys : List PyData} {i : Nat} {x : PyData} (h : (zipD xs ys)[i]? = some x) : ∃ y z, xs[i]? = some y ∧ ys[i]? = some z ∧ x = .tuple [y, z] := by
  unfold zipD at h
  rw [List.getElem?_zipWith] at h
  cases q : xs[i]? with
  | none => rw [q] at h; cases q2 : ys[i]? <;> rw [q2] at h <;> cases h
  | some y =>
    cases q2 : ys[i]? with
    | none => rw [q, q2] at h; cases h
    | some z => rw [q, q2] at h; cases h; exact ⟨y, z, rfl, rfl, rfl⟩
theorem zipD_len {xs ys : List PyData} (h : xs.length = ys.length) : (zipD xs ys).length = xs.length := by
  unfold zipD
  rw [List.length_zipWith, h, Nat.min_self]
theorem rep_pair {H : Hp} {M M2 : List Addr} {T : Addr} {v v2 : V} {x y : PyData} (hT : H T = none) (r : Rep K H M v x) (r2 : Rep K H M v2 y) (s : ∀ a ∈ M2, a ∈ M) : Rep K (upd H T (.tup [v, v2])) M2 (.ref T) (.tuple [x, y]) :=
  (Rep.tup (SqT.of upd_same) ((RepL.cons r (.cons r2 .nil)).keep (Kp.fresh hT))).less s
theorem walk_enumL {a : Addr} {vs : List V} {ds : List PyData} {H : Hp} {M : List Addr} (hn : a ∉ M) (ha : H a = some (.lst vs)) (r : RepL K H M vs ds) : WalkOk W K (Ite K a) (enumD ds) H M := by
  intro M2 H2 k n
  have ha2 := k.same a _ hn ha
  refine ⟨fun i x e => ?_, fun i hi => ⟨vs, SqL.of ha2, by rw [enumD_len] at hi; rw [r.length]; exact hi⟩⟩
  obtain ⟨y, e', rfl⟩ := enumD_at e
  obtain ⟨v, hv, rv⟩ := r.get e'
  refine ⟨⟨vs, v, SqL.of ha2, hv⟩, fun v' H' ⟨T, x', e1, hT, e2, e3⟩ => ⟨.inr ⟨T, _, hT, e2⟩, fun M3 s => ?_⟩⟩
  have q := e3 vs (SqL.of ha2)
  rw [hv] at q; cases q
  subst e1 e2
  exact rep_pair hT (.int _) (rv.move k n) s
theorem walk_enumT {a : Addr} {vs : List V} {ds : List PyData} {H : Hp} {M : List Addr} (ha : SqT K H a vs) (r : RepL K H M vs ds) : WalkOk W K (IteT K a) (enumD ds) H M := by
  intro M2 H2 k n
  have ha2 := k.sqT ha
  refine ⟨fun i x e => ?_, fun i hi => ⟨vs, ha2, by rw [enumD_len] at hi; rw [r.length]; exact hi⟩⟩
  obtain ⟨y, e', rfl⟩ := enumD_at e
  obtain ⟨v, hv, rv⟩ := r.get e'
  refine ⟨⟨vs, v, ha2, hv⟩, fun v' H' ⟨T, x', e1, hT, e2, e3⟩ => ⟨.inr ⟨T, _, hT, e2⟩, fun M3 s => ?_⟩⟩
  have q := e3 vs ha2
  rw [hv] at q; cases q
  subst e1 e2
  exact rep_pair hT (.int _) (rv.move k n) s
theorem walk_zipS {a b : Addr} {vs ws : List V} {ds es : List PyData} {H : Hp} {M : List Addr} (ha : SqT K H a vs) (hb : SqT K H b ws) (r : RepL K H M vs ds) (r2 : RepL K H M ws es) (hl : ds.length = es.length) : WalkOk W K (ItzS K a b) (zipD ds es) H M := by
  intro M2 H2 k n
  have ha2 := k.sqT ha
  have hb2 := k.sqT hb
  refine ⟨fun i x e => ?_, fun i hi => ⟨vs, ws, ha2, hb2, by rw [zipD_len hl] at hi; rw [r.length]; exact hi, by rw [zipD_len hl, hl] at hi; rw [r2.length]; exact hi⟩⟩
  obtain ⟨y, z, e1, e2, rfl⟩ := zipD_at e
  obtain ⟨v, hv, rv⟩ := r.get e1
  obtain ⟨u, hu, ru⟩ := r2.get e2
  refine ⟨⟨vs, ws, v, u, ha2, hb2, hv, hu⟩, fun v' H' ⟨T, x', y', e1, hT, e2, e3, e4⟩ => ⟨.inr ⟨T, _, hT, e2⟩, fun M3 s => ?_⟩⟩
  have q := e3 vs ha2
  rw [hv] at q; cases q
  have q := e4 ws hb2
  rw [hu] at q; cases q
  subst e1 e2
  exact rep_pair hT (rv.move k n) (ru.move k n) s
/-! ### the keys of dict(pairs) -/
theorem keys_put (kvs : List (Key × V)) (k : Str) (v : V) (acc : List Str) (h : kvs.map (·.1) = acc.map Sum.inr) : (putK kvs (.inr k) v).map (·.1) = (keyIn acc k).map Sum.inr := by
  have e : (kvs.any fun kv => decide (kv.1 = Sum.inr k)) = decide (k ∈ acc) := by
    have e1 : (kvs.any fun kv => decide (kv.1 = Sum.inr k)) = ((kvs.map (·.1)).any fun z => decide (z = Sum.inr k)) := by rw [List.any_map]; rfl
    rw [e1, h, List.any_map, Bool.eq_iff_iff]
    simp
  unfold putK keyIn
  rw [e]
  by_cases hk : k ∈ acc
  · rw [if_pos (decide_eq_true hk), if_pos hk, List.map_map, ← h]
    refine List.map_congr_left fun kv _ => ?_
    show (if kv.1 = Sum.inr k then (kv.1, v) else kv).1 = kv.1
    split <;> rfl
  · rw [if_neg (by rw [decide_eq_false hk]; simp), if_neg hk, List.map_append, List.map_append, h]
    rfl
theorem uniq_go {H : Hp} {M : List Addr} : ∀ {xs : List PyData} {vs : List V} {acc ks : List Str} {kvs0 : List (Key × V)}, RepL K H M vs xs → uniqK xs acc = some ks → kvs0.map (·.1) = acc.map Sum.inr →
    ∃ (ps : List Addr) (kvs : List (Key × V)), vs = ps.map V.ref ∧ Paired (fun p kv => SqT K H p [kV kv.1, kv.2]) ps kvs ∧ (mergeK kvs0 kvs).map (·.1) = ks.map Sum.inr
  | [], _, acc, ks, kvs0, .nil, e, h => by cases e; exact ⟨[], [], rfl, .nil, h⟩
  | .tuple [.str k, d] :: xs, _, acc, ks, kvs0, .cons r t, e, h => by
    have e : uniqK xs (keyIn acc k) = some ks := e
    cases r with
    | tup hs q =>
      cases q with
      | cons q1 q2 =>
        cases q2 with
        | cons q2 q3 =>
          cases q3
          obtain rfl := Rep.str_inv q1
          rename_i a vv
          obtain ⟨ps, kvs, h1, h2, h3⟩ := uniq_go (kvs0 := putK kvs0 (.inr k) vv) t e (keys_put _ _ _ _ h)
          exact ⟨a :: ps, (.inr k, vv) :: kvs, by rw [h1]; rfl, .cons hs h2, h3⟩
  | .none :: _, _, _, _, _, .cons _ _, e, _ => by cases e
  | .bool _ :: _, _, _, _, _, .cons _ _, e, _ => by cases e
  | .int _ :: _, _, _, _, _, .cons _ _, e, _ => by cases e
  | .str _ :: _, _, _, _, _, .cons _ _, e, _ => by cases e
  | .list _ :: _, _, _, _, _, .cons _ _, e, _ => by cases e
  | .dict _ :: _, _, _, _, _, .cons _ _, e, _ => by cases e
  | .tuple [] :: _, _, _, _, _, .cons _ _, e, _ => by cases e
  | .tuple [x] :: _, _, _, _, _, .cons _ _, e, _ => by cases x <;> cases e
  | .tuple (.str _ :: _ :: _ :: _) :: _, _, _, _, _, .cons _ _, e, _ => by cases e
  | .tuple (.none :: _ :: _) :: _, _, _, _, _, .cons _ _, e, _ => by cases e
  | .tuple (.bool _ :: _ :: _) :: _, _, _, _, _, .cons _ _, e, _ => by cases e
  | .tuple (.int _ :: _ :: _) :: _, _, _, _, _, .cons _ _, e, _ => by cases e
  | .tuple (.list _ :: _ :: _) :: _, _, _, _, _, .cons _ _, e, _ => by cases e
  | .tuple (.tuple _ :: _ :: _) :: _, _, _, _, _, .cons _ _, e, _ => by cases e
  | .tuple (.dict _ :: _ :: _) :: _, _, _, _, _, .cons _ _, e, _ => by cases e
end
section
variable {Wp : Wk → Prop} {E : XK} {X : Cx} {ea eb : Expr} {a : DO} {da db : DE} {pos p1 p2 p3 p4 : Pos} {i j : Nat}
theorem qRev {i : Nat} (ja : JO Wp E X ea a) : JE Wp E X (.Subscript ea (.Slice none none (some (.UnaryOp .USub (.Constant (.int 1) i p1) p2)) p3) pos) (dRev a) :=
  (pe_revA ja).weak fun σ H Q ⟨W, B, M0, ρ, M, P, R, w, G, d, x, h⟩ => lO_go w G d x fun oa ρ1 v H1 M1 c G1 k1 => by
    obtain ⟨y, h1, f⟩ := c
    have r := OpdOk.pk G1 k1 h1
    cases y <;> try exact (show False from f).elim
    · obtain ⟨a, vs, rfl, ha, q⟩ := r.list_inv
      exact ⟨a, vs, rfl, .inl ⟨SqL.of ha, fun p hp => h _ _ _ _ _ _ f (Res.new G1 hp q.reverse)⟩⟩
    · obtain ⟨a, vs, rfl, ha, q⟩ := r.tup_inv
      exact ⟨a, vs, rfl, .inr ⟨ha, fun p hp => h _ _ _ _ _ _ f (Res.newT G1 hp q.reverse)⟩⟩
theorem qDict0 : JE Wp E X (.Dict [] [] pos) (dCon (.dict [])) :=
  pe_dnewK.weak fun σ H Q ⟨W, B, M0, ρ, M, P, R, w, G, d, x, h⟩ p hp => h _ _ _ _ _ _ d (.of (G.grow hp) (Rep.dct (kvs := []) (ds := []) (fun z => G.liv p z hp) upd_same .nil))
theorem qDict1 {k : Str} {n : Int} (hl : ([some (Expr.Constant (.str k) i p1)] : List (Option Expr)).length = [Expr.Constant (.int n) j p2].length := by rfl) : JE Wp E X (.Dict [some (.Constant (.str k) i p1)] [.Constant (.int n) j p2] pos) (dCon (.dict [(.str k, .int n)])) := by
  refine (pe_disp (pps_cons pe_str pe_int pps_nil) rfl rfl (by simp) (by simp)).weak fun σ H Q ⟨W, B, M0, ρ, M, P, R, w, G, d, x, h⟩ p hp => ?_
  refine ⟨upd_same, [(.inr k, .int n)], rfl, by simp, ?_⟩
  rw [upd_upd]
  exact h _ _ _ _ _ _ d (.of (G.grow hp) (Rep.dct (kvs := [(.inr k, .int n)]) (ds := [.int n]) (fun z => G.liv p z hp) upd_same (.cons (.int n) .nil)))
theorem qUniq (g : Gx X) (h1 : X.mg "list" = none) (h2 : X.mg "dict" = none) (ja : JO Wp E X ea a) (hg1 : Gl X "list" := by rfl) (hg2 : Gl X "dict" := by rfl)
    (hs1 : starEach [.Call (.Name "dict" p2) [ea] [] p3] X.env = (false, eval (.Call (.Name "dict" p2) [ea] [] p3) X.env) :: starEach [] X.env := by rfl) (hs2 : starEach [ea] X.env = (false, eval ea X.env) :: starEach [] X.env := by rfl)
    (hp1 : (backTo pos (starEach [] X.env)).any (·.1) = false := by rfl) (hp2 : (backTo p3 (starEach [] X.env)).any (·.1) = false := by rfl) : JE Wp E X (.Call (.Name "list" p1) [.Call (.Name "dict" p2) [ea] [] p3] [] pos) (dUniq a) := by
  have inner := pe_callTy (X := X) (p := p2) (pos := p3) ((call_dictP g.calm).or (call_dictT g.calm g.un)) hg2 h2 (by rfl) (pa_cons ja pa_nil hs2) (by decide) (by decide) hs2 hp2
  refine (pe_callTy ((call_list_dK g.calm).or (call_listT g.calm)) hg1 h1 (by rfl) (pa_cons inner pa_nil hs1) (by decide) (by decide) hs1 hp1).weak fun σ H Q ⟨W, B, M0, ρ, M, P, R, w, G, d, x, h⟩ => ?_
  refine lO_go w G d x fun oa ρ1 v H1 M1 c G1 k1 => ?_
  obtain ⟨xs, e1, ⟨ks, e2, c⟩ | ⟨kss, e2, c⟩⟩ := c
  · obtain ⟨l, vs, rfl, hl, rl⟩ := (OpdOk.pk G1 k1 e1).list_inv
    obtain ⟨ps, kvs, q1, q2, q3⟩ := uniq_go (kvs0 := []) rl e2 rfl
    subst q1
    refine .inl ⟨l, ps, kvs, rfl, SqL.of hl, q2, fun p hp => .inl ⟨p, _, rfl, upd_same, fun q hq => ?_⟩⟩
    have e : (mergeK [] kvs).map (fun kv => kV kv.1) = ks.map V.str := by
      have : (mergeK [] kvs).map (fun kv => kV kv.1) = ((mergeK [] kvs).map (·.1)).map kV := by rw [List.map_map]; rfl
      rw [this, q3, List.map_map]; rfl
    rw [e]
    exact h _ _ _ _ _ _ c (Res.new (G1.grow hp) hq (RepL.of_strs _))
  · obtain ⟨l, vs, rfl, hl, rl⟩ := (OpdOk.pk G1 k1 e1).list_inv
    obtain ⟨ps, ks0, q1, q2, q3⟩ := uniqT_go (acc := []) rl e2
    subst q1
    refine .inr ⟨l, ps, ks0, rfl, SqL.of hl, q2, fun p bs hp hb hz => .inr ⟨p, bs, rfl, upd_same, hz, fun q hq => ?_⟩⟩
    rw [q3] at hb
    exact h _ _ _ _ _ _ c (Res.new (G1.grow hp) hq ((RepL.of_tups hb).keep (Kp.fresh hp)))
theorem qSrtD (g : Gx X) (h1 : X.mg "sorted" = none) (h2 : X.mg "dict" = none) (ja : JO Wp E X ea a) (hg1 : Gl X "sorted" := by rfl) (hg2 : Gl X "dict" := by rfl)
    (hs1 : starEach [.Call (.Name "dict" p2) [ea] [] p3] X.env = (false, eval (.Call (.Name "dict" p2) [ea] [] p3) X.env) :: starEach [] X.env := by rfl) (hs2 : starEach [ea] X.env = (false, eval ea X.env) :: starEach [] X.env := by rfl)
    (hp1 : (backTo pos (starEach [] X.env)).any (·.1) = false := by rfl) (hp2 : (backTo p3 (starEach [] X.env)).any (·.1) = false := by rfl) : JE Wp E X (.Call (.Name "sorted" p1) [.Call (.Name "dict" p2) [ea] [] p3] [] pos) (dSrtD a) := by
  have un := g.un
  have inner := pe_callTy (X := X) (p := p2) (pos := p3) ((call_dictP g.calm).or (call_dictT g.calm g.un)) hg2 h2 (by rfl) (pa_cons ja pa_nil hs2) (by decide) (by decide) hs2 hp2
  refine (pe_callB ((call_sortedD g.calm).or (cr_sortDT g.calm (by omega))) hg1 h1 (by rfl) (pa_cons inner pa_nil hs1) (by decide) (by decide) hs1 hp1).weak fun σ H Q ⟨W, B, M0, ρ, M, P, R, w, G, d, x, h⟩ => ?_
  refine lO_go w G d x fun oa ρ1 v H1 M1 c G1 k1 => ?_
  obtain ⟨xs, e1, ⟨ks, e2, h64, c⟩ | ⟨kss, e2, c⟩⟩ := c
  · obtain ⟨l, vs, rfl, hl, rl⟩ := (OpdOk.pk G1 k1 e1).list_inv
    obtain ⟨ps, kvs, q1, q2, q3⟩ := uniq_go (kvs0 := []) rl e2 rfl
    subst q1
    refine .inl ⟨l, ps, kvs, rfl, SqL.of hl, q2, fun p hp => .inl ⟨p, _, ks, rfl, .inl upd_same, q3, h64, fun ys q pm so hq => ?_⟩⟩
    exact h _ _ _ _ _ _ (c ys pm so) (Res.new (G1.grow hp) hq (RepL.of_strs _))
  · obtain ⟨l, vs, rfl, hl, rl⟩ := (OpdOk.pk G1 k1 e1).list_inv
    obtain ⟨ps, ks0, q1, q2, q3⟩ := uniqT_go (acc := []) rl e2
    subst q1
    refine .inr ⟨l, ps, ks0, rfl, SqL.of hl, q2, fun p bs hp hb hz => .inr ⟨p, bs, kss, rfl, upd_same, hz, ?_, fun ys mss q pp pm pw hq => ?_⟩⟩
    · rw [q3] at hb
      exact L2.Paired.mapP hb fun _ _ ⟨t, e, k⟩ => ⟨t, e, (Kp.fresh (M := []) hp).sqT k⟩
    · exact h _ _ _ _ _ _ (c mss pm pw) (Res.new (G1.grow hp) hq (RepL.of_tups pp))
theorem qEnum {elts : List Expr} {kk : Nat} {tpos : Pos} (g : Gx X) (hm : X.mg "enumerate" = none) (ja : JE Wp E X ea da) (hg : Gl X "enumerate" := by rfl) (hs : starEach [ea] X.env = [(false, eval ea X.env)] := by rfl) :
    JI Wp E X (.Tuple elts kk tpos) (.Call (.Name "enumerate" p1) [ea] [] pos) (wEnum da) :=
  (pi_enumA hg hm (pa_cons ja pa_nil hs) hs).weak fun σ H Q ⟨W, B, M0, ρ, M, P, R, w, G, d, x, h⟩ => lE_go w G d x fun u fr ρ1 v H1 M1 c r => by
    obtain ⟨xs, e | e, c⟩ := c
    · have rr := r.val e
      cases rr with
      | tup ha q => exact ⟨_, _, rfl, .inr ⟨ha, fun hz => h _ _ _ _ _ c (by rw [enumD_len, ← q.length]; exact hz) r.gd (walk_enumT ha q)⟩⟩
    · have rr := r.val e
      cases rr with
      | lst hn ha q => exact ⟨_, _, rfl, .inl ⟨SqL.of ha, fun hz => h _ _ _ _ _ c (by rw [enumD_len, ← q.length]; exact hz) r.gd (walk_enumL hn ha q)⟩⟩
theorem qZipS {elts : List Expr} {kk i : Nat} {tpos kp : Pos} (g : Gx X) (hm : X.mg "zip" = none) (ja : JE Wp E X ea da) (jb : JE Wp E X eb db) (hg : Gl X "zip" := by rfl) (hs : starEach [ea, eb] X.env = (false, eval ea X.env) :: starEach [eb] X.env := by rfl) (hs2 : starEach [eb] X.env = (false, eval eb X.env) :: starEach [] X.env := by rfl)
    (hpl : ((backTo pos (starEach [ea, eb] X.env)).any (·.1) || (backToKw pos (keywordEach [⟨some "strict", .Constant (.bool true) i p2, kp⟩] X.env)).any (·.1.isNone)) = false := by rfl)
    (hall : (backToKw pos (keywordEach [⟨some "strict", .Constant (.bool true) i p2, kp⟩] X.env)).all (·.1.isSome) = true := by rfl) :
    JI Wp E X (.Tuple elts kk tpos) (.Call (.Name "zip" p1) [ea, eb] [⟨some "strict", .Constant (.bool true) i p2, kp⟩] pos) (wZipS da db) :=
  (pi_zipS hg hm (pa_cons ja (pa_cons jb pa_nil hs2) hs) hs hpl hall).weak fun σ H Q ⟨W, B, M0, ρ, M, P, R, w, G, d, x, h⟩ => lE_go w G d x fun u fr ρ1 v H1 M1 c r => lE_go' w r.gd.base c x.cons fun u' fr' ρ2 v' H2 M2 c r' => by
    obtain ⟨xs, ys, rfl, rfl, hl, c⟩ := c
    have r1 : Rep X.K H2 M2 v (.tuple xs) := r'.gd.rep r.rep
    have r2 : Rep X.K H2 M2 v' (.tuple ys) := r'.rep
    cases r1 with
    | tup ha q =>
      cases r2 with
      | tup hb q2 => exact ⟨_, _, _, _, rfl, ha, hb, fun hz => h _ _ _ _ _ c (by rw [zipD_len hl, ← q.length]; exact hz) r'.gd.tail (walk_zipS ha hb q q2 hl)⟩
end
end G9

/-! D1: a law's source of draws: a dict (its cells, a digest, a count). -/
namespace G9
open PySem PySem.Spec L2 PyProof.Rows
theorem Kp.put {M : List Addr} {H : Hp} {p : Addr} {xs ys : List (Key × V)} (hp : p ∈ M) (h : H p = some (.dK xs)) : Kp M H (upd H p (.dK ys)) := by
  refine ⟨fun a u n e => ?_, fun a u e => ?_, fun a o' u e => ?_, fun a e => ?_⟩
  · rw [upd_ne (fun z => n (by rw [z]; exact hp))]; exact e
  · rw [upd_ne (ne_of e h (fun z => nomatch z))]; exact e
  · rw [upd_ne (ne_of e h (fun z => nomatch z))]; exact e
  · by_cases z : a = p
    · rw [z, upd_same]; exact fun q => nomatch q
    · rw [upd_ne z]; exact e
/-- three keys -/
def tri (k1 k2 k3 : Str) (a b c : V) : List (Key × V) := [(.inr k1, a), (.inr k2, b), (.inr k3, c)]
theorem tri1 {k1 k2 k3 : Str} {a b c : V} : valV (tri k1 k2 k3 a b c) (.inr k1) = some a := valV_pos rfl
theorem tri2 {k1 k2 k3 : Str} {a b c : V} (h : k1 ≠ k2) : valV (tri k1 k2 k3 a b c) (.inr k2) = some b := by
  unfold tri
  rw [valV_neg (fun e => h (Sum.inr.inj e))]
  exact valV_pos rfl
theorem tri3 {k1 k2 k3 : Str} {a b c : V} (h : k1 ≠ k3) (h2 : k2 ≠ k3) : valV (tri k1 k2 k3 a b c) (.inr k3) = some c := by
  unfold tri
  rw [valV_neg (fun e => h (Sum.inr.inj e)), valV_neg (fun e => h2 (Sum.inr.inj e))]
  exact valV_pos rfl
theorem tri_put {k1 k2 k3 : Str} {a b c d : V} (h : k1 ≠ k3) (h2 : k2 ≠ k3) : putK (tri k1 k2 k3 a b c) (.inr k3) d = tri k1 k2 k3 a b d := by
  unfold putK tri
  have e1 : ¬ (Sum.inr k1 : Key) = Sum.inr k3 := fun e => h (Sum.inr.inj e)
  have e2 : ¬ (Sum.inr k2 : Key) = Sum.inr k3 := fun e => h2 (Sum.inr.inj e)
  simp [e1, e2]
structure DeckAt (k1 k2 k3 : Str) (dk c : Addr) (n : Nat) (H : Hp) : Prop where
  ex : ∃ (cs : List Int) (dg ct : Int), H dk = some (.dK (tri k1 k2 k3 (.ref c) (.int dg) (.int ct))) ∧ H c = some (.lst (cs.map V.int)) ∧ cs.length ≤ 63 ∧ 0 ≤ dg ∧ dg < 4294967296 ∧ 0 ≤ ct ∧ ct ≤ n
def deckW (k1 k2 k3 : Str) (dk c : Addr) (n : Nat) : Wk where
  dk := dk
  ad := [dk, c]
  okN := DeckAt k1 k2 k3 dk c
  n := n
  st0 := fun n H a o ha _ ⟨cs, dg, ct, h1, h2, h⟩ => by
    simp only [List.mem_cons, List.not_mem_nil, or_false, not_or] at ha
    exact ⟨cs, dg, ct, by rw [upd_ne (Ne.symm ha.1)]; exact h1, by rw [upd_ne (Ne.symm ha.2)]; exact h2, h⟩
  liv0 := fun n H ⟨cs, dg, ct, h1, h2, _⟩ a ha => by
    simp only [List.mem_cons, List.not_mem_nil, or_false] at ha
    rcases ha with rfl | rfl
    · rw [h1]; exact fun z => nomatch z
    · rw [h2]; exact fun z => nomatch z
  mono0 := fun n m H h ⟨cs, dg, ct, h1, h2, h3, h4, h5, h6, h7⟩ => ⟨cs, dg, ct, h1, h2, h3, h4, h5, h6, by omega⟩
def IsDeck (k1 k2 k3 : Str) (W : Wk) : Prop := ∃ dk c n, W = deckW k1 k2 k3 dk c n
theorem IsDeck.up {k1 k2 k3 : Str} {W : Wk} (h : IsDeck k1 k2 k3 W) (k : Nat) : IsDeck k1 k2 k3 (W.up k) := by
  obtain ⟨dk, c, n, rfl⟩ := h
  exact ⟨dk, c, n + k, rfl⟩
/-- * of ints whose sizes are known -/
def rMulB : R2 := rI IntMulOk fun i j => .int (i * j)
theorem op_mulB {X : Cx} : OpR X (binaryOp .Mult) rMulB := opI fun _ _ _ _ _ _ _ hc q => mul_int q hc
theorem shaped_ints (cs : List Int) : SeqAt.shaped (.list (cs.map .int)) = true := by
  have h1 : ∀ cs : List Int, PyData.canLayAll0 (cs.map .int) = true := fun cs => by
    induction cs with
    | nil => rfl
    | cons c cs ih => simp [PyData.canLayAll0, PyData.canLay0, ih]
  have h2 : ∀ cs : List Int, PyData.depthAll (cs.map .int) ≤ 1 := fun cs => by
    induction cs with
    | nil => simp [PyData.depthAll]
    | cons c cs ih => simp [PyData.depthAll, PyData.depth]; first | exact ih | omega
  unfold SeqAt.shaped
  rw [Bool.and_eq_true, decide_eq_true_iff]
  refine ⟨by simp [PyData.canLay0, h1], ?_⟩
  have := h2 cs
  simp only [PyData.depth]
  omega
theorem dp_ints {K : PySem.W.Frag} {H : Hp} {a : Addr} {cs : List Int} (h : SqL K H a (cs.map V.int)) : Dp K H (.ref a) (.list (cs.map .int)) := by
  refine .lst h ?_
  clear h
  induction cs with
  | nil => exact .nil
  | cons c cs ih => exact .cons (.int c) ih
theorem eqv_empty (cs : List Int) : PyData.eqv (.list (cs.map .int)) (.list []) = cs.isEmpty := by
  cases cs with
  | nil => rfl
  | cons c cs => rfl
/-- a count within the line may be multiplied -/
theorem count_mul {c : Int} (h0 : 0 ≤ c) (h : c ≤ LIM) (k : Int) (hk : 0 ≤ k) (hk2 : k < 4294967296) : IntMulOk (k * c) c := by
  have e : (LIM : Int) = 2 ^ 500000 := by unfold LIM; rw [Int.natCast_pow]; rfl
  rw [e] at h
  have hc : c.natAbs < 2 ^ 500001 := by
    have : c.natAbs ≤ 2 ^ 500000 := by
      have h2 : ((c.natAbs : Nat) : Int) ≤ ((2 ^ 500000 : Nat) : Int) := by rw [Int.natCast_pow]; rw [Int.natAbs_of_nonneg h0]; exact h
      exact Int.ofNat_le.mp h2
    exact Nat.lt_of_le_of_lt this (Nat.pow_lt_pow_right (by omega) (by omega))
  have hkc : (k * c).natAbs < 2 ^ 500033 := by
    rw [Int.natAbs_mul]
    have h1 : k.natAbs < 2 ^ 32 := by omega
    calc k.natAbs * c.natAbs < 2 ^ 32 * 2 ^ 500001 := Nat.mul_lt_mul_of_lt_of_lt h1 hc
      _ = 2 ^ 500033 := by rw [← Nat.pow_add]
  exact IntMulOk.of_le (intBits_le hkc) (intBits_le hc) (by omega)
theorem fmod_range {a n : Int} (h : 0 < n) : 0 ≤ a.fmod n ∧ a.fmod n < n := by
  rw [Int.fmod_eq_emod_of_nonneg a (Int.le_of_lt h)]
  exact ⟨Int.emod_nonneg _ (by omega), Int.emod_lt_of_pos _ h⟩
theorem cm_fmod {a n j : Int} (h : 0 < n) (h2 : n < 18446744073709551616) : CMul (a.fmod n) j := by
  obtain ⟨r1, r2⟩ := fmod_range (a := a) h
  exact .inl ⟨by omega, by omega⟩
end G9

/-! E6: a call that does not draw, seen without the deck. -/
namespace G9
open PySem PySem.Spec L2 PyProof.Rows
theorem DeckAt.keep {k1 k2 k3 : Str} {dk c : Addr} {n : Nat} {H H' : Hp} (h : DeckAt k1 k2 k3 dk c n H) (k : Kp [] H H') : DeckAt k1 k2 k3 dk c n H' := by
  obtain ⟨cs, dg, ct, h1, h2, r⟩ := h.ex
  exact ⟨cs, dg, ct, k.same _ _ (by simp) h1, k.same _ _ (by simp) h2, r⟩
/-- a world without a deck -/
def W00 : Wk := { dk := 0, ad := [], okN := fun _ _ => True, n := 0, st0 := fun _ _ _ _ _ _ _ => trivial, liv0 := (fun _ _ _ _ h => (nomatch h)), mono0 := fun _ _ _ _ _ => trivial }
theorem ok_keep {k1 k2 k3 : Str} {W : Wk} {t : Nat} {H H' : Hp} (w : WP (IsDeck k1 k2 k3) W t) (h : W.ok H) (k : Kp [] H H') (m : Nat) : (W.up m).ok H' := by
  obtain ⟨dk, c, n, e⟩ := w.2 0
  have e : W = deckW k1 k2 k3 dk c n := e
  subst e
  have h : DeckAt k1 k2 k3 dk c n H := h
  have z : (deckW k1 k2 k3 dk c n).up 0 = deckW k1 k2 k3 dk c n := rfl
  exact Wk.mono (a := 0) (Nat.zero_le m) (show DeckAt k1 k2 k3 dk c n H' from h.keep k)
theorem pair_d {K : PySem.W.Frag} {H : Hp} {M : List Addr} {W W' : Wk} : ∀ {vs : List V} {us : List U}, (∀ u ∈ us, ∃ d, u = .d d) → Paired (RepU W K H M) vs us → Paired (RepU W' K H M) vs us
  | _, _, _, .nil => .nil
  | _, _, h, .cons r t => by
    obtain ⟨d, rfl⟩ := h _ List.mem_cons_self
    exact .cons r (pair_d (fun u hu => h u (List.mem_cons_of_mem _ hu)) t)
end G9

/-! E15: an own exception class with its own __init__ (Base.__init__(self, text); self.f = x) is raised. -/
namespace G9
open PySem PySem.Spec L2 PyProof.Rows
/-- the base class: its __init__ is ValueError's -/
structure BasI (K : PySem.W.Frag) (mg : Str → Option Value) (nm : Str) : Prop where
  ex : ∃ CL mc, mg nm = some (.ref CL) ∧ ClX.CRead K CL mc ∧ PySem.W.findCls K (.ref CL) mc "__init__" = some (.val (.builtin "ValueError.__init__"))
section
variable {X : Cx} {e : Expr} {es : List Expr} {ta : TA} {b : Str} {p p1 p2 pos : Pos}
theorem pe_baseinit {pl : Sem Bool} (T : BasI X.K X.mg b) (ha : PA X (e :: es) ta) (hg : Gl X b := by rfl) (hdb : (b == ("__debug__" : Str)) = false := by decide)
    (hc : eval (.Call (.Attribute (.Name b p1) "__init__" p2) (e :: es) [] pos) X.env = (do
      let ov ← eval (.Name b p1) X.env
      standAt p2.atName
      let (f, first) ← holding [ov] (getMethod ov "__init__" pl)
      callWith pos f first (backTo pos (starEach (e :: es) X.env)) (backToKw pos (keywordEach [] X.env))) := by rfl)
    (he : starEach (e :: es) X.env = (false, eval e X.env) :: starEach es X.env := by rfl) (hpl : (backTo pos (starEach es X.env)).any (·.1) = false := by rfl) :
    PE X (.Call (.Attribute (.Name b p1) "__init__" p2) (e :: es) [] pos) (tVeI X.K ta) := by
  obtain ⟨CL, mc, gm, rd, at_⟩ := T.ex
  refine ⟨fun pins s σ H Q I h => ?_⟩
  refine PySem.W.methodCall_KW (ld_glob I hg gm ?_ hdb) hc
  refine PySem.W.method_cls I.kIn rd.ga (PySem.W.cls_value I.kIn rd.rd at_ (by decide +kernel) ?_)
  show wpAny _ _ (callWith pos (Value.builtin "ValueError.__init__") [] (backTo pos (starEach (e :: es) X.env)) []) _ _ _
  refine PyProof.Rows.callWith_method1 (thn (ha.run pos pins _ σ H _ (I.tok _) h) fun us s1 ⟨vs, H1, I1, r1, a, C, ws, ev, hl, T, ea, q⟩ => ?_) he hpl
  subst ev
  cases r1 with
  | @cons _ u0 _ ur ra rw' =>
    obtain rfl : u0 = Value.ref a := ra
    have hlen : ur.length ≤ sizeLine := by
      rw [← Paired.length rw', sizeLine_eq]
      omega
    exact oinit_ok T I1 ea hlen fun s' J => ⟨.non, H1, J, rfl, q⟩
end
/-- the promise of such an __init__ -/
def spInit (K : PySem.W.Frag) (C : Addr) (fld : Str) : Sp := fun vs H Q _ => ∃ (a : Addr) (v : V), vs = [.ref a, v] ∧ OexC K C ∧ PySem.W.findIn K (.ref C) fld = some none ∧ H a = some (exo a C none) ∧
  ∀ dx, H dx = none → dx ≠ a → Q .non (upd (upd H dx (exd dx [(fld, v)])) a (exo a C (some dx)))
/-- such a class -/
structure OinC (P : Program) (w : World) (K : PySem.W.Frag) (mg : Str → Option Value) (base : Heap) (nm fld : Str) : Prop where
  ex : ∃ C fI fd x, mg nm = some (.ref C) ∧ OexC K C ∧ PySem.W.findIn K (.ref C) "__init__" = some (some (.ref fI)) ∧ PySem.W.typeIn K (.ref fI) = some (.type "function") ∧ PySem.W.findIn K (.ref C) fld = some none ∧
    FnOk P w K mg base CX0 1 fI fd ["self", x] (spInit K C fld) ∧ Binds K fd ["self", x] []
def sRaiseF (c f : Str) (a : DE) : DS := ⟨a.m, fun ρ D => a ρ (fun u _ _ => ∃ d, u = .d d ∧ D.ex ⟨c, some (f, d)⟩) D.ex⟩
section
variable {Wp : Wk → Prop} {E : XK} {X : Cx} {x fld : Str} {p pos pos2 : Pos} {e : Expr} {da : DE} {k : Nat}
theorem qRaiseF (tk : Takes X (fun cls d _ H => E cls d H)) (g : Gx X) (hr : RmG k X.A) (hk : 2 ≤ k) (hx : OinC X.prog X.w X.K X.mg X.base x fld) (je : JE Wp E X e da) (hg : Gl X x := by rfl) (hdb : (x == ("__debug__" : Str)) = false := by decide)
    (he : starEach [e] X.env = (false, eval e X.env) :: starEach [] X.env := by rfl) (hpl : (backTo pos (starEach [] X.env)).any (·.1) = false := by rfl) :
    JS Wp E X (.Raise (some (.Call (.Name x p) [e] [] pos)) none pos2) (sRaiseF x fld da) := by
  obtain ⟨C, fI, fd, y, gm, ox, iC, tI, nf, F1, hb⟩ := hx.ex
  refine (ps_raise g.calm tk (pmk_oex ox iC tI F1 (hr.rm.mono hk) hb .nil pass0 hg gm (pa_cons je pa_nil he) hdb he hpl)).weak fun D σ H ⟨W, H0, B, M0, ρ, M, DD, w, G, d, xo, h1, h2, h3, h4⟩ => ?_
  refine lE_go w G d xo fun u fr ρ1 v H1 M1 c r => ?_
  obtain ⟨dd, rfl, c⟩ := c
  have rr : Rep X.K H1 M1 v dd := r.rep
  have G1 := r.gd
  refine ⟨by show 1 ≤ 1000; omega, fun a ha => ⟨a, v, rfl, ox, nf, upd_same, fun dx hdx ne => ⟨rfl, dx, [(fld, v)], upd_same, by rw [upd_ne ne, upd_same], ?_, ?_⟩⟩⟩
  · rw [upd_ne ne] at hdx; exact hdx
  have hd1 : H1 dx = none := by rw [upd_ne ne] at hdx; exact hdx
  have eH : upd (del (upd (upd (upd H1 a (exo a C none)) dx (exd dx [(fld, v)])) a (exo a C (some dx))) a) dx (.xd [(fld, v)]) = upd H1 dx (.xd [(fld, v)]) := by
    funext b
    by_cases e1 : b = dx
    · rw [e1, upd_same, upd_same]
    · rw [upd_ne e1, upd_ne e1]
      by_cases e2 : b = a
      · rw [e2, del_same, ha]
      · rw [del_ne e2, upd_ne e2, upd_ne e1, upd_ne e2]
  rw [eH]
  have G2 := G1.grow (o := .xd [(fld, v)]) hd1
  rcases xo with z | ⟨b, hb', z⟩
  · exact absurd c (z _)
  · exact z ⟨x, some (fld, dd)⟩ (.ref C) (some dx) _ c ⟨gm, dx, v, rfl, upd_same, rr.move (Kp.fresh hd1) fun a ha => .inl (G1.sub a ha)⟩ (G2.bs b hb').1 ⟨_, G2.wok⟩
end
end G9

/-! H14: a lambda without parameters is made and called: only its table changes; no repr is under way. -/
namespace G9
open PySem PySem.Spec L2 PyProof.Rows LamX
abbrev lamQ (X : Cx) : Str := X.env.qual ++ "<lambda>"
abbrev lamO (X : Cx) (params : Arguments) (body : Expr) (scope : Scope) (pm : Value) (c' : Addr) (ctv : Value) : Obj :=
  PySem.W.kla_obj "<lambda>" (lamQ X) params body scope (cloFrom X.env.cells scope.names []) pm c' ctv
theorem Kp.tab {H : Hp} {P : Addr} {ps qs : Array Value} (h : H P = some (.tbl ps)) : Kp [P] H (upd H P (.tbl qs)) := by
  have ne : ∀ {a : Addr} {u : HO}, H a = some u → (∀ z, u ≠ .tbl z) → a ≠ P := fun e n z => n ps (Option.some.inj (e.symm.trans (by rw [z]; exact h)))
  refine ⟨fun a u n e => ?_, fun a u e => ?_, fun a o' u e => ?_, fun a e => ?_⟩
  · rw [upd_ne (fun z => n (by rw [z]; exact List.mem_singleton.mpr rfl))]; exact e
  · rw [upd_ne (ne e fun _ z => nomatch z)]; exact e
  · rw [upd_ne (ne e fun _ z => nomatch z)]; exact e
  · by_cases z : a = P
    · rw [z, upd_same]; exact fun q => nomatch q
    · rw [upd_ne z]; exact e
/-- one more code object in the table -/
theorem TabS.more {H : Hp} {P c' : Addr} {q : Str} {pos : Pos} {ps : Array Value} (hP : H P = some (.tbl ps)) (ok : TriplesOk ps.toList) (am : ∀ (pos : Pos) (cv : Value), codeAmong pos ps.toList = some cv → ∃ c, cv = .ref c ∧ H c = some (CodeO c q)) (n : H c' = none) :
    TabS (upd (upd H P (.tbl (ps ++ #[rawInt pos.line, rawInt pos.col, .ref c']))) c' (CodeO c' q)) P q := by
  have np : P ≠ c' := ne_of_none hP n
  have el : (ps ++ #[rawInt pos.line, rawInt pos.col, Value.ref c']).toList = ps.toList ++ [rawInt pos.line, rawInt pos.col, Value.ref c'] := Array.toList_append
  refine ⟨_, by rw [upd_ne np, upd_same], by rw [el]; exact PySem.TriplesOk_snoc _ _ _ _ ok, fun pos2 cv hcv => ?_⟩
  rw [el] at hcv
  rcases among_app _ ok hcv with z | rfl
  · obtain ⟨c0, e1, e2⟩ := am _ _ z
    exact ⟨c0, e1, by rw [upd_ne (ne_of_none e2 n), upd_ne (ne_of e2 hP (codeO_ne ps))]; exact e2⟩
  · exact ⟨c', rfl, upd_same⟩
section
variable {X : Cx} {pins : List (Addr × Obj)} {σ : L2.St} {H : Hp} {s : Shared}
theorem lam_make3 {c P : Addr} {params : Arguments} {body : Expr} {scope : Scope} {pos : Pos} {E Q : Value → Shared → Prop} (I : Inv X pins σ H s) (TB : TabB X.base X.mg c P) (hcode : X.env.code = .ref c) (hT : TabS H P (lamQ X))
    (hdef : defaultsOf params X.env = ([], [])) (hfree : ∀ y ∈ scope.names, y.2 = .free → ∃ c, X.env.cells.lookup y.1 = some c)
    (h : ∀ (f c' : Addr) (pm ctv : Value) (H1 : Hp) (s' : Shared), Inv X pins σ H1 s' → Kp [P] H H1 → TabS H1 P (lamQ X) → s'.heap.get? f = some (lamO X params body scope pm c' ctv) → H1 f = none → f ∉ frs X.stack → H1 c' = some (CodeO c' (lamQ X)) → Q (.ref f) s') :
    wpAny (model X.prog X.w) X.A (eval (.Lambda params body scope pos) X.env) Q E s := by
  obtain ⟨ps, tP, ok3, am⟩ := hT
  have oP : s.heap.get? P = some { cls := .none, data := .fields ps } := I.hok P _ tP
  have bP := TB.bm.keeps I.bk
  have cd := TB.code.keeps I.bk
  have gl := I.mod.glob.keeps I.bk
  have out : ∀ {f : Addr}, s.heap.objs.size ≤ f → f ∉ frs X.stack := fun {f} hf z => (List.mem_cons.mp (I.stkSub _ z)).elim (fun e => absurd I.lt (by rw [← e]; exact Nat.not_lt.mpr hf)) (I.nofs hf)
  apply PySem.W.kla_eval hdef
  rcases hc : codeAmong pos ps.toList with _ | cv
  · apply PySem.W.kla_makeFunction (mg := X.mg) (c := c) (P := P) (ps := ps) (closure_ok hfree) I.ok.glob gl hcode cd oP ok3 hc TB.gP bP
    intro c' ctv g tk hx hge hlt hrec htb
    obtain ⟨_, oc, vs, t, e2, hoc, hd, hv⟩ := hrec
    cases e2
    have big : s.heap.objs.size ≤ g.objs.size := Nat.le_trans hge (Nat.le_of_lt hlt)
    have nC : H c' = none := I.hok.fresh hge
    have I1 := inv_table (t' := tk) (more := #[rawInt pos.line, rawInt pos.col, .ref c']) (h' := g.push (lamO X params body scope ((X.mg "__name__").getD .none) c' ctv)) I tP (fun b o hb e => Heap.get?_push_of_some _ (hx b o hb e)) (Heap.get?_push_of_some _ htb) hge
      ⟨oc, vs, t, Heap.get?_push_of_some _ hoc, hd, hv⟩
    refine h _ c' _ ctv _ _ I1 ((Kp.tab tP).trans (Kp.fresh (by rw [upd_ne (Ne.symm (ne_of_none tP nC))]; exact nC))) (TabS.more tP ok3 am nC) (Heap.get?_push_size _ rfl) ?_ (out big) upd_same
    rw [upd_ne (Nat.ne_of_gt hlt), upd_ne (Nat.ne_of_gt (Nat.lt_of_lt_of_le (Heap.lt_size oP) big))]
    exact I.hok.fresh big
  · obtain ⟨c', rfl, hco⟩ := am pos cv hc
    apply PySem.W.kla_makeFunctionHit (mg := X.mg) (c := c) (P := P) (ps := ps) (closure_ok hfree) I.ok.glob gl hcode cd oP ok3 hc bP
    intro ctv g tk hx big
    have I1 : Inv X pins σ H { s with heap := g.push (lamO X params body scope ((X.mg "__name__").getD .none) c' ctv), toks := tk } := I.kept fun b o e => Heap.get?_push_of_some _ (hx b o e)
    exact h _ c' _ ctv H _ I1 (Kp.refl _ _) ⟨ps, tP, ok3, am⟩ (Heap.get?_push_size _ rfl) (I.hok.fresh big) (out big) hco
/-- x(), in the def that got the lambda -/
theorem pe_actG {CXg : CXT} {Eg : XK} {Ng : List Str} {qg : Str} {sg : Scope} {g f c' : Addr} {cdg pm ctv : Value} {params : Arguments} {body : Expr} {scope : Scope} {k i : Nat} {a : Str} {pn : List (Addr × Obj)} {xe : Value → Shared → Prop} {E : L2.St → XK} {tb : XK → TE} {p1 p2 : Pos}
    (I : Inv X pins σ H s) (L : LamS X.env.scope scope) (hf : s.heap.get? f = some (lamO X params body scope pm c' ctv)) (hfn : H f = none) (hfr : f ∉ frs X.stack) (hbind : bindArgs (PySem.W.kla_fn "<lambda>" (lamQ X) params body scope (cloFrom X.env.cells scope.names []) pm (.ref c') ctv) ⟨[], []⟩ = pure [])
    (hx : ∀ σ, PassesAt (L2.CX X.prog X.w) ((cxOf CXg X.prog X.w X.K X.mg X.base Ng qg sg g cdg X.A X.stack s H Eg).tr pn xe) σ (E σ)) (hr : RmG (k + 1) (X.A.deeper (envOfC qg sg s.heap.objs.size g cdg)))
    (hbody : ∀ (E : XK) (A : Around) (outer : List Env) (s : Shared) (H : Hp), RmG k (A.deeper (lamEnv X scope s.heap.objs.size f c')) → PE (lamCx X A outer s H E scope f c') body (tb E))
    (hN : Ng[i]? = some a) (hv : Vis sg a) (hd : (a == ("__debug__" : Str)) = false := by decide) (hcd : (a == ("__classdict__" : Str)) = false := by decide) :
    PE ((cxOf CXg X.prog X.w X.K X.mg X.base Ng qg sg g cdg X.A X.stack s H Eg).tr pn xe) (.Call (.Name a p1) [] [] p2) (fun σZ HZ Q => σZ[i]? = some (some (.ref f)) ∧ HZ c' = some (CodeO c' (lamQ X)) ∧ tb (E σZ) σ HZ Q) := by
  refine ⟨fun pinsZ sZ σZ HZ Q IZ ⟨hs, hc, ht⟩ => wpAny_Call_Name_kw (thn ((pe_var (pos := p1) (i := i) hN hv hd hcd).run pinsZ sZ σZ HZ (fun v H1 => v = .ref f ∧ H1 = HZ) IZ ⟨.ref f, hs, rfl, rfl⟩) ?_)⟩
  rintro u s1 ⟨v, H1, I1, r1, rfl, rfl⟩
  obtain rfl : u = Value.ref f := r1
  have of1 : s1.heap.get? f = some (lamO X params body scope pm c' ctv) := I1.base.keep f _ hf hfn hfr fun z => nomatch (show f ∈ ([] : List Addr) from z)
  obtain ⟨⟨oc, vs, t, hoc, hdc, hvc⟩, _, _⟩ := I1.hok c' _ hc
  refine PySem.W.callWith_F0 ⟨_, _, _, _, of1⟩ (wpAny_call ?_)
  have rc : codeAny (model X.prog X.w) (X.A.deeper (envOfC qg sg s.heap.objs.size g cdg)) (.call (.ref f) ⟨[], []⟩) (CR (L2.CX X.prog X.w) (envOfC qg sg s.heap.objs.size g cdg :: X.stack) X.prog X.w H1 s1 Q (E σZ)) s1 := by
    apply PySem.W.kla_callFunE hr.rm.depth of1 rfl L.co L.gen rfl ⟨c', oc, vs, t, rfl, hoc, hdc, hvc⟩
    rw [hbind]
    refine wpAny_pure (wpAny_newFunctionEnv (fun y hy => (L.own y hy).2) (fun y hy => absurd hy (by simp)) (fun h1 hns hsb => ⟨I1.nolimit.fresh _ hsb, ?_⟩) L.kind)
    have J := lam_start2 (tk := s1.toks + ([] : List (Str × Value)).length) (E := E σZ) (c' := c') (f := f) I L I1.env0 hr.rm.hd I1.base hns fun b o e => hsb.extBut b o (Nat.ne_of_lt (Heap.lt_size e)) (Heap.get?_push_of_some _ e)
    refine PySem.W.kla_codeExpr (wpAny_mono ((hbody _ _ _ s1 H1 ⟨hr.rm.deeper _, hr.gd⟩).run [] _ _ H1 Q J ht) ?_ fun _ _ hq => hq)
    rintro v s' ⟨w', H', J', rv, q⟩
    exact ⟨w', H', J'.os, J'.bare, J'.base, J'.hok, rv, q⟩
  refine codeAny_mono rc fun r s' hq => ?_
  rcases r with e | fl
  · exact hx σZ pinsZ H1 s1 e s' I1 hq
  · cases fl <;> first | exact hq.elim | exact I1.after hq
end
end G9

/-! D3: a law: its script, its source of draws, the rest of it. -/
namespace G9
open PySem PySem.Spec L2 PyProof.Rows
def spLaw (K : PySem.W.Frag) : Sp := fun vs H Q _ => ∃ (a : Addr) (ns : List Int), vs = [.ref a] ∧ (∃ o u, H sysModules = some (.frz o u)) ∧ SqL K H a (ns.map V.int) ∧ ∀ H', Q (.bl true) H'
theorem law_gd {W : Wk} {K : PySem.W.Frag} {H : Hp} {v0 : Option V} {n : Nat} (ok : W.ok H) (sm : ∃ o u, H sysModules = some (.frz o u)) :
    Gd W K [⟨H, W.ad, W.ad⟩] W.ad (none :: some ⟨false, .deck⟩ :: List.replicate n none) (v0 :: some (.ref W.dk) :: List.replicate n none) H W.ad := by
  have no : ∀ {i : Nat} {e : Ent}, (none :: some ⟨false, .deck⟩ :: List.replicate n none : En)[i]? = some (some e) → i = 1 ∧ e = ⟨false, .deck⟩ := by
    intro i e h
    match i, h with
    | 0, h => cases h
    | 1, h => cases h; exact ⟨rfl, rfl⟩
    | i + 2, h =>
      have h : (List.replicate n none : En)[i]? = some (some e) := h
      rw [List.getElem?_replicate] at h
      split at h <;> cases h
  refine ⟨sm, ok, fun _ z => z, fun _ z => z, W.liv H ok, ?_, fun b hb => ?_, fun i e h => ?_, fun i j e e' a h1 h2 _ _ _ _ => ?_⟩
  · simp
  · obtain rfl : b = _ := List.mem_singleton.mp hb
    exact ⟨Kp.refl _ _, fun _ z => z, fun _ z => .inl z, fun a ⟨i, e, h1, h2, _⟩ => by obtain ⟨_, rfl⟩ := no h1; cases h2⟩
  · obtain ⟨rfl, rfl⟩ := no h
    refine ⟨_, rfl, ?_⟩
    unfold EntOk
    rw [if_neg (by simp)]
    rfl
  · obtain ⟨_, rfl⟩ := no h1; cases h2
theorem law_go {Wp : Wk → Prop} {W : Wk} {K : PySem.W.Frag} {mg : Str → Option Value} {E : XK} {d : DS} {H : Hp} {v0 : Option V} {n : Nat} {Q : VK} (wp : WP Wp W d.m) (ok : W.ok H) (sm : ∃ o u, H sysModules = some (.frz o u))
    (hl : ∀ (P : U → Bool → Prop) (R : RK), P (.d (.bool true)) false → d.f (none :: some ⟨false, .deck⟩ :: List.replicate n none) (dk P R)) (q : ∀ H', Q (.bl true) H') :
    lS Wp K mg E d { nx := fun _ H' => Q .non H', rt := Q } (v0 :: some (.ref W.dk) :: List.replicate n none) H := by
  refine ⟨W, H, [], W.ad, _, W.ad, dk (fun u fr => u = .d (.bool true) ∧ fr = false) X0, wp, law_gd ok sm, hl _ _ ⟨rfl, rfl⟩, .inl fun _ z => z, fun σ' ρ' H' M' _ c G => ?_, fun u fr v H' c r => ?_, fun _ _ _ _ _ c _ => c.elim, fun _ _ _ _ _ c _ => c.elim⟩
  · obtain ⟨c, _⟩ := (show U.d .none = U.d (.bool true) ∧ _ from c)
    cases c
  · obtain ⟨rfl, rfl⟩ := c
    have r := r.2.2
    rw [if_neg (by simp)] at r
    rw [show v = .bl true from Rep.bool_inv r]
    exact q H'
end G9

/-! H15: worlds with a table of code objects; the want of x(lambda: e); the end of a law whose def makes lambdas. -/
namespace G9
open PySem PySem.Spec L2 PyProof.Rows LamX
structure LamW (P : Addr) (q : Str) (W : Wk) : Prop where
  tab : ∀ H, W.ok H → TabS H P q
  ad : P ∈ W.ad
  kp : ∀ H H', W.ok H → Kp [P] H H' → TabS H' P q → W.ok H'
  kn : ∀ H H', W.ok H → Kp [] H H' → W.ok H'
/-- one name alone -/
def onlyE (n i : Nat) (d : PyData) : En := (List.replicate n none).set i (some ⟨false, .d d⟩)
def shD (d : PyData) (Q : PyData → Prop) : Prop := PyData.showable d = true ∧ d.depth ≤ 64 ∧ d.shown.length ≤ sizeLine ∧ Q (.str d.shown)
/-- what a handed-over e is worth: its value, or the sets of its Conflict, written -/
def dLam (de : DE) (n i : Nat) : DE := ⟨de.m, fun ρ P R => ∃ d, En.at ρ i = some ⟨false, .d d⟩ ∧ ρ.length = n ∧ de.f (onlyE n i d) (fun u _ _ => ∃ x, u = .d x ∧ shD (.tuple [.str "returned", x]) fun s => P (.d s) false ρ)
  (fun x => ∃ y, x = ⟨"Conflict", some ("sets", y)⟩ ∧ shD (.tuple [.str "conflict", y]) fun s => P (.d s) false ρ)⟩
theorem only_at {n i j : Nat} {d : PyData} {e : Ent} (h : (onlyE n i d)[j]? = some (some e)) : i = j ∧ e = ⟨false, .d d⟩ := by
  unfold onlyE at h
  by_cases hij : i = j
  · subst hij
    rw [List.getElem?_set] at h
    rw [if_pos rfl] at h
    split at h <;> cases h
    exact ⟨rfl, rfl⟩
  · rw [List.getElem?_set_ne hij, List.getElem?_replicate] at h
    split at h <;> cases h
theorem gd_only {W : Wk} {K : PySem.W.Frag} {H : Hp} {M : List Addr} {σ : L2.St} {v : V} {d : PyData} {n i : Nat} (sm : ∃ o u, H sysModules = some (.frz o u)) (ok : W.ok H) (wad : ∀ a ∈ W.ad, a ∈ M) (liv : ∀ a ∈ M, H a ≠ none) (hn : n = σ.length) (hv : σ[i]? = some (some v)) (r : Rep K H M v d) :
    Gd W K [⟨H, W.ad, M⟩] M (onlyE n i d) σ H M := by
  refine ⟨sm, ok, wad, fun _ z => z, liv, by simp [onlyE, hn], fun b hb => ?_, fun j e h => ?_, fun j l e e' a h1 h2 _ _ _ _ => ?_⟩
  · obtain rfl : b = _ := List.mem_singleton.mp hb
    exact ⟨Kp.refl _ _, fun _ z => z, fun _ z => .inl z, fun a ⟨j, e, h1, h2, _⟩ => by obtain ⟨_, rfl⟩ := only_at h1; cases h2⟩
  · obtain ⟨rfl, rfl⟩ := only_at h
    refine ⟨v, hv, ?_⟩
    unfold EntOk
    rw [if_neg (by simp)]
    exact r
  · obtain ⟨_, rfl⟩ := only_at h1; cases h2
/-! ### the deck with a table -/
def deckT (k1 k2 k3 : Str) (P : Addr) (q : Str) (dk c : Addr) (n : Nat) : Wk where
  dk := dk
  ad := [dk, c, P]
  okN := fun n H => DeckAt k1 k2 k3 dk c n H ∧ TabS H P q
  n := n
  st0 := fun n H a o ha hl ⟨h1, h2⟩ => by
    have na : a ≠ P := fun z => ha (by rw [z]; simp)
    refine ⟨(deckW k1 k2 k3 dk c n).st0 n H a o (fun z => ha ?_) hl h1, ?_⟩
    · rcases List.mem_cons.mp (show a ∈ [dk, c] from z) with z | z
      · rw [z]; simp
      · rw [List.mem_singleton.mp z]; simp
    · obtain ⟨ps, e1, e2, e3⟩ := h2
      refine ⟨ps, by rw [upd_ne (Ne.symm na)]; exact e1, e2, fun pos cv h => ?_⟩
      obtain ⟨c0, y1, y2⟩ := e3 pos cv h
      have nc : c0 ≠ a := fun z => by
        rw [z] at y2
        rcases hl with z2 | ⟨xs, z2⟩ <;> rw [z2] at y2
        · cases y2
        · have y2 := Option.some.inj y2
          unfold CodeO at y2
          cases y2
      exact ⟨c0, y1, by rw [upd_ne nc]; exact y2⟩
  liv0 := fun n H ⟨h1, h2⟩ a ha => by
    rcases List.mem_cons.mp ha with rfl | ha
    · exact (deckW k1 k2 k3 a c n).liv0 n H h1 a (by show a ∈ [a, c]; simp)
    rcases List.mem_cons.mp ha with rfl | ha
    · exact (deckW k1 k2 k3 dk a n).liv0 n H h1 a (by show a ∈ [dk, a]; simp)
    · obtain ⟨ps, e1, _⟩ := h2
      rw [List.mem_singleton.mp ha, e1]
      exact fun z => nomatch z
  mono0 := fun n m H h ⟨h1, h2⟩ => ⟨(deckW k1 k2 k3 dk c n).mono0 n m H h h1, h2⟩
def IsDeckT (k1 k2 k3 : Str) (P : Addr) (q : Str) (W : Wk) : Prop := ∃ dk c n, W = deckT k1 k2 k3 P q dk c n
theorem TabS.keep {H H' : Hp} {P : Addr} {q : Str} {M : List Addr} (t : TabS H P q) (k : Kp M H H') (n : P ∉ M) (nc : ∀ a ∈ M, ∀ q, H a ≠ some (CodeO a q)) : TabS H' P q := by
  obtain ⟨ps, e1, e2, e3⟩ := t
  refine ⟨ps, k.same _ _ n e1, e2, fun pos cv h => ?_⟩
  obtain ⟨c0, y1, y2⟩ := e3 pos cv h
  exact ⟨c0, y1, k.same _ _ (fun z => nc c0 z q y2) y2⟩
theorem code_ne {c : Addr} {q : Str} {u : HO} (h : ∀ φ, u ≠ .ext φ) : u ≠ CodeO c q := fun z => by unfold CodeO at z; exact h _ z
theorem deck_kp {k1 k2 k3 : Str} {dk c P : Addr} {q : Str} {n m : Nat} {H H' : Hp} (d : DeckAt k1 k2 k3 dk c n H) (t : TabS H P q) (k : Kp [dk, c] H H') : TabS H' P q := by
  obtain ⟨cs, dg, ct, h1, h2, _⟩ := d.ex
  obtain ⟨ps, e1, _⟩ := id t
  refine TabS.keep t k (fun z => ?_) fun a z q2 y => ?_
  · rcases List.mem_cons.mp z with z | z
    · rw [z, h1] at e1; cases e1
    · rw [List.mem_singleton.mp z, h2] at e1; cases e1
  · rcases List.mem_cons.mp z with rfl | z
    · rw [h1] at y; exact absurd (Option.some.inj y) (code_ne fun _ z => by cases z)
    · rw [List.mem_singleton.mp z] at y; rw [h2] at y; exact absurd (Option.some.inj y) (code_ne fun _ z => by cases z)
theorem IsDeckT.lam {k1 k2 k3 : Str} {P : Addr} {q : Str} {W : Wk} (h : IsDeckT k1 k2 k3 P q W) : LamW P q W := by
  obtain ⟨dk, c, n, rfl⟩ := h
  refine ⟨fun H h => h.2, by show P ∈ [dk, c, P]; simp, fun H H' ⟨h1, h2⟩ k t => ⟨?_, t⟩, fun H H' ⟨h1, h2⟩ k => ⟨?_, TabS.keep h2 k (by simp) (by simp)⟩⟩
  · obtain ⟨cs, dg, ct, e1, e2, r⟩ := h1.ex
    obtain ⟨ps, e3, _⟩ := h2
    exact ⟨cs, dg, ct, k.same _ _ (fun z => by rw [List.mem_singleton.mp z, e3] at e1; cases e1) e1, k.same _ _ (fun z => by rw [List.mem_singleton.mp z, e3] at e2; cases e2) e2, r⟩
  · obtain ⟨cs, dg, ct, e1, e2, r⟩ := h1.ex
    exact ⟨cs, dg, ct, k.same _ _ (by simp) e1, k.same _ _ (by simp) e2, r⟩
theorem repU_dk {K : PySem.W.Frag} {H : Hp} {M : List Addr} {W W' : Wk} (e : W.dk = W'.dk) {v : V} {u : U} (r : RepU W K H M v u) : RepU W' K H M v u := by
  cases u with
  | d x => exact r
  | deck => exact (show v = _ from r).trans (by rw [e])
  | ob _ => exact r
theorem pair_dk {K : PySem.W.Frag} {H : Hp} {M : List Addr} {W W' : Wk} (e : W.dk = W'.dk) : ∀ {vs : List V} {us : List U}, Paired (RepU W K H M) vs us → Paired (RepU W' K H M) vs us
  | _, _, .nil => .nil
  | _, _, .cons r t => .cons (repU_dk e r) (pair_dk e t)
/-- a def that draws, in the world with a table -/
theorem spG_deckT {K : PySem.W.Frag} {mg : Str → Option Value} {k1 k2 k3 : Str} {P : Addr} {q : Str} {n : Nat} {f : FSpec} {vs : List V} {H : Hp} {Q : VK} {E : XK} (h : spG (IsDeckT k1 k2 k3 P q) K mg n f vs H Q E) : spG (IsDeck k1 k2 k3) K mg n f vs H Q E := by
  obtain ⟨W, M, us, P', R, wp, wok, wad, wliv, sm, hl, pr, hs, q1, q2⟩ := h
  obtain ⟨dk, c, N, e⟩ := wp.2 0
  have e : W = deckT k1 k2 k3 P q dk c N := e
  subst e
  obtain ⟨o1, o2⟩ := (show DeckAt k1 k2 k3 dk c N H ∧ TabS H P q from wok)
  have s2 : ∀ a ∈ [dk, c], a ∈ [dk, c, P] := fun a z => by
    rcases List.mem_cons.mp z with z | z
    · rw [z]; simp
    · rw [List.mem_singleton.mp z]; simp
  have up : ∀ {k : Nat} {H' : Hp}, DeckAt k1 k2 k3 dk c (N + k) H' → Kp [dk, c] H H' → ((deckT k1 k2 k3 P q dk c N).up k).ok H' := fun d k => ⟨d, deck_kp (m := 0) o1 o2 k⟩
  refine ⟨deckW k1 k2 k3 dk c N, M, us, P', R, ⟨wp.1, fun k => ⟨dk, c, N + k, rfl⟩⟩, o1, fun a z => wad a (s2 a z), wliv, sm, hl, pair_dk rfl pr, hs, fun u fr v H' hp r => q1 u fr v H' hp ⟨up r.1 r.2.1, r.2.1.more s2, ?_⟩, fun x C od H' hr he hk ⟨k, hw⟩ => q2 x C od H' hr he (hk.more s2) ⟨k, up hw hk⟩⟩
  have r3 := r.2.2
  split at r3
  · rename_i hf; rw [if_pos hf]; exact r3
  · rename_i hf; rw [if_neg hf]; exact repU_dk rfl r3
theorem fnG_deckT {Pr : Program} {w : World} {K : PySem.W.Frag} {mg : Str → Option Value} {base : Heap} {CX : CXT} {k1 k2 k3 : Str} {P : Addr} {q : Str} {k n : Nat} {f : Addr} {fd : FuncData} {ps : List Str} {sp : FSpec}
    (F : FnG Pr w K mg base CX k f fd ps (spG (IsDeck k1 k2 k3) K mg n sp)) : FnG Pr w K mg base CX k f fd ps (spG (IsDeckT k1 k2 k3 P q) K mg n sp) := F.imp fun h => spG_deckT h
/-! ### a def whose code object is known -/
theorem code_of_tab {K : PySem.W.Frag} {x : Str} {st : Stmt} {f c P : Addr} {fd : FuncData} (a : PySem.W.nsIn K mainGlobals x = some (some (.ref f))) (F : Fun K x x st f fd) (t : PySem.W.tabIn K x = some (c, P)) : fd.code = .ref c := by
  obtain ⟨oc, od, kV, doc, pm, an, cdv, ct, osl, e, lk, hcd⟩ := F.ex
  unfold PySem.W.tabIn at t
  rw [a] at t
  dsimp only at t
  rw [lk] at t
  dsimp only at t
  split at t <;> try cases t
  rename_i c0 hc
  split at t <;> try cases t
  split at t <;> cases t
  exact hc
theorem cal_ofC {P : Program} {w : World} {K : PySem.W.Frag} {mg : Str → Option Value} {base : Heap} {CX : CXT} {Wp : Wk → Prop} {k : Nat} {x : Str} {st : Stmt} {N ps : List Str} {f c : Addr} {fd : FuncData} {spec : FSpec} {d : DS} (F : Fun K x x st f fd) (hm : mg x = some (.ref f)) (hc : fd.code = .ref c) (S : FnScope N ps (defScope st))
    (jb : ∀ A outer s H E, RmG k (A.deeper (envOfC x (defScope st) s.heap.objs.size f (.ref c))) → Gx (cxOf CX P w K mg base N x (defScope st) f (.ref c) A outer s H E) → JB Wp E (cxOf CX P w K mg base N x (defScope st) f (.ref c) A outer s H E) (defBody st) d)
    (le : d.m ≤ spec.m) (law : ∀ us P R, us.length = ps.length → spec.f us P R → d.f (startE N us) (dk P R)) : Cal P w K mg base CX Wp (k + 1) x st ps spec := by
  obtain ⟨oc, od, kV, doc, pm, an, cdv, ct, osl, e, lk, hcd⟩ := F.ex
  have ec : cdv = .ref c := by rw [e] at hc; exact hc
  subst ec
  have D : Def K f fd x (defBody st) (defScope st) (.ref c) := ⟨⟨_, _, _, _, _, _, _, _, _, _, _, e, lk⟩, hcd⟩
  refine ⟨f, fd, F, fnG_dw D S (fun A outer s H E hr => jb A outer s H E hr ⟨rfl, hr.gd, ?_, S.nd⟩) le law, hm⟩
  have := hr.rm.un
  show A.units + 3 + 65 < cLine
  have h2 : A.units + 3 + 16 * k + 200 < cLine := hr.rm.un
  omega
end G9

/-! H16: the end of a law one of whose defs makes lambdas: its table is told. -/
namespace G9
open PySem PySem.Spec L2 PyProof.Rows LamX
def scriptHT (K : PySem.W.Frag) (a P : Addr) (o om : Obj) (xs : List V) : Hp := fun b => if b = P then some (.tbl #[]) else scriptH K a o om xs b
theorem law_callGT {Pr : Program} {w : World} {K : PySem.W.Frag} {mg mb : Str → Option Value} {CX : CXT} {k : Nat} {fa a c P : Addr} {fd : FuncData} {x : Str} {sp : Sp} {s1 : Shared} {vs : List Value} {ns : List Int}
    (kin : K.In s1.heap) (hns : s1.heap.Ns mainGlobals mg) (hb : s1.heap.Ns builtinsNs mb) (hbb : ∀ x : Str, x ≠ "__name__" → mb x = bootBuiltins x) (hlim : s1.heap.NoLimit) (hg : s1.gens = #[])
    (hmods : ∃ mm, s1.heap.Ns sysModules mm) (km : K.lookup sysModules = none)
    (hT : s1.heap.get? P = some { cls := .none, data := .fields #[] }) (nT : K.lookup P = none) (C : PySem.W.CodeHd s1.heap c P)
    (hbm : ∃ (bm : Addr) (ob : Obj), mg "__builtins__" = some (.ref bm) ∧ bm ≠ builtinsNs ∧ s1.heap.get? bm = some ob ∧ ob.cls = .type "module" ∧ ob.dict = some builtinsNs ∧ ob.data = .plain)
    (ha : s1.heap.get? a = some { cls := .type "list", data := .seq vs.toArray }) (hi : IntsAre vs ns) (hl : ns.length ≤ sizeLine) (hr : Room k callerA)
    (F : ∀ base : Heap, K.In base → base.Ns mainGlobals mg → TabB base mg c P → FnG Pr w K mg base CX k fa fd [x] sp) (hbind : ∀ (s : Shared) (u : Value), BindsTo s fd ⟨[u], []⟩ [(x, u)])
    (hsp : ∀ H : Hp, (∃ o u, H sysModules = some (.frz o u)) → H P = some (.tbl #[]) → SqL K H a (ns.map V.int) → sp [.ref a] H (fun v _ => v = .bl true) fun _ _ _ => False)
    (hCX : ∀ H e s', CX [] H s1 (fun _ _ _ => False) e s' → False) :
    codeAny (model Pr w) callerA (.call (.ref fa) ⟨[.ref a], []⟩) (fun r s' => r = .ok (.ret (.bool true)) ∧ OldK s1.heap s'.heap ∧ s'.os = s1.os ∧ AllBare s'.gens) s1 := by
  obtain ⟨mm, om, mes, mep, hom, hdm, _⟩ := hmods
  let o : Obj := { cls := .type "list", data := .seq vs.toArray }
  have apart : ∀ {b : Addr} {u : Obj}, s1.heap.get? b = some u → u.data ≠ .fields #[] → b ≠ P := fun e n z => by
    rw [z, hT] at e
    cases e
    exact n rfl
  have aP : a ≠ P := apart ha fun z => by cases z
  have mP : sysModules ≠ P := apart hom fun z => by rw [z] at hdm; cases hdm
  have am : a ≠ sysModules := fun z => by
    rw [z, hom] at ha
    cases ha
    have hdm : Data.seq vs.toArray _ = Data.dict mes mep := hdm
    cases hdm
  let H : Hp := scriptHT K a P o om (ns.map V.int)
  have told : ∀ {b u}, H b = some u → (b = P ∧ u = .tbl #[]) ∨ (b = a ∧ K.lookup a = none ∧ u = .frz o (.lst (ns.map V.int))) ∨ (b = sysModules ∧ u = .frz om (.own 0)) := fun {b u} h => by
    have h : (if b = P then some (.tbl #[]) else scriptH K a o om (ns.map V.int) b) = some u := h
    split at h
    · rename_i z; cases h; exact .inl ⟨z, rfl⟩
    · exact .inr (scriptH_some h)
  have lenV := hi.length
  have okS : ObjOk Pr w H s1.heap a (.lst (ns.map V.int)) := ⟨by rw [List.length_map]; exact hl, vs, _, vals_ints hi, ha⟩
  have hok : HOk Pr w H s1.heap := fun b u z => by
    rcases told z with ⟨rfl, rfl⟩ | ⟨rfl, _, rfl⟩ | ⟨rfl, rfl⟩
    · exact hT
    · exact ⟨ha, okS⟩
    · exact ⟨hom, _, hom⟩
  have tabP : H P = some (.tbl #[]) := if_pos rfl
  have mods : H sysModules = some (.frz om (.own 0)) := by
    show (if sysModules = P then _ else scriptH K a o om _ sysModules) = _
    rw [if_neg mP]
    unfold scriptH
    rw [if_neg (fun z => am z.1.symm), if_pos rfl]
  have script : SqL K H a (ns.map V.int) := by
    cases z : K.lookup a with
    | none => exact .inl (.inr ⟨o, by
        show (if a = P then _ else scriptH K a o om _ a) = _
        rw [if_neg aP]
        exact if_pos ⟨rfl, z⟩⟩)
    | some u =>
      have e := kin a u z
      rw [ha] at e; cases e
      exact .inr ⟨_, vs.toArray, _, z, rfl, rfl, rfl, by rw [List.size_toArray, lenV]; exact hl, by simpa using vals_ints hi⟩
  have hide : ∀ {b : Addr} {u : Obj}, s1.heap.get? b = some u → (∀ y, H b ≠ some y) → (hidT s1.heap H).get? b = some u := fun {b u} e n => hidT_get e (by
    cases z : H b with
    | none => rfl
    | some y => exact absurd z (n y))
  have hideD : ∀ {b : Addr} {u : Obj}, s1.heap.get? b = some u → (∀ vs n, u.data ≠ .seq vs n) → u.data ≠ .fields #[] → b ≠ sysModules → (hidT s1.heap H).get? b = some u := fun {b u} e h1 h2 nb => hide e fun y z => by
    rcases told z with ⟨z, _⟩ | ⟨rfl, _, _⟩ | ⟨rfl, _⟩
    · exact apart e h2 z
    · rw [ha] at e; cases e; exact h1 _ _ rfl
    · exact nb rfl
  have hideNs : ∀ {b : Addr} {m : Str → Option Value}, b ≠ sysModules → s1.heap.Ns b m → (hidT s1.heap H).Ns b m := fun {b m} nb ⟨u, es, ep, e, d, r⟩ =>
    ⟨u, es, ep, hideD e (fun vs n z => by rw [d] at z; cases z) (fun z => by rw [d] at z; cases z) nb, d, r⟩
  have kb : K.In (hidT s1.heap H) := fun b u e => hide (kin b u e) fun y z => by
    rcases told z with ⟨rfl, _⟩ | ⟨rfl, n, _⟩ | ⟨rfl, _⟩
    · rw [nT] at e; cases e
    · rw [n] at e; cases e
    · rw [km] at e; cases e
  obtain ⟨mc, l1, l2⟩ := hlim
  have nB : (hidT s1.heap H).Ns mainGlobals mg := hideNs (by decide) hns
  have e0 : Env0 Pr w K mg (hidT s1.heap H) callerA [] s1 H :=
    ⟨rfl, ⟨kb, nB, ⟨mb, hideNs (by decide) hb, hbb⟩, mc, hideNs (by decide) l1, l2⟩, fun b u e => of_hidT e, Nat.le_of_eq (hidT_size _ _), trivial, fun b z => absurd (show b ∈ ([] : List Addr) from z) (by simp), hok, .of_eq hg⟩
  have TB : TabB (hidT s1.heap H) mg c P := by
    refine ⟨?_, ?_, fun z => ?_⟩
    · obtain ⟨oc, us, file, tf, flags, tg, inF, text, tt, e1, r1, r2, r3, r4, r5, r6, r7, r8, hne⟩ := C
      refine ⟨oc, us, file, tf, flags, tg, inF, text, tt, hideD e1 (fun vs n z => by rw [r2] at z; cases z) (fun z => by rw [r2] at z; cases z; simp at r3) (fun z => ?_), r1, r2, r3, r4, r5, r6, r7, r8, hne⟩
      rw [z, hom] at e1
      cases e1
      rw [hdm] at r2
      cases r2
    · obtain ⟨bm, ob, b1, b2, b3, b4, b5, b6⟩ := hbm
      refine ⟨bm, ob, b1, b2, fun z => ?_, apart b3 (fun z => by rw [b6] at z; cases z), hideD b3 (fun vs n z => by rw [b6] at z; cases z) (fun z => by rw [b6] at z; cases z) (fun z => ?_), b4, b5, b6⟩
      · obtain ⟨u, es, ep, e, d, _⟩ := hns
        rw [z, e] at b3
        cases b3
        rw [b6] at d
        cases d
      · rw [z, hom] at b3
        cases b3
        rw [b6] at hdm
        cases hdm
    · obtain ⟨u, es, ep, e, d, _⟩ := hns
      exact apart e (fun q => by rw [d] at q; cases q) z
  refine codeAny_mono ((F _ kb nB TB).run ⟨rmG_caller hr, e0⟩ (hbind s1 (.ref a)) (us := [.ref a]) (vs := [.ref a]) (.cons rfl .nil) (hsp H ⟨_, _, mods⟩ tabP script)) fun r s' h => ?_
  rcases r with e | fl
  · exact (hCX H e s' h).elim
  rcases fl with _ | _ | _ | u
  case next => exact h.elim
  case brk => exact h.elim
  case cont => exact h.elim
  case ret =>
    obtain ⟨v, H', os, bare, un, hok', r', q⟩ := h
    have q : v = .bl true := q
    subst q
    obtain rfl : u = Value.bool true := r'
    have kept : ∀ b y, b ≠ P → s1.heap.get? b = some y → s'.heap.get? b = some y := fun b y nb e => by
      cases z : H b with
      | none => exact un.keep b y e z (fun z => absurd (show b ∈ ([] : List Addr) from z) (by simp)) (by simp)
      | some u =>
        rcases told z with ⟨z, _⟩ | ⟨rfl, _, rfl⟩ | ⟨rfl, rfl⟩
        · exact absurd z nb
        · obtain ⟨e2, _⟩ := hok' b _ (un.frzs b _ _ z)
          rw [ha] at e; cases e
          exact e2
        · obtain ⟨e2, _⟩ := hok' _ _ (un.frzs _ _ _ z)
          rw [hom] at e; cases e
          exact e2
    obtain ⟨more, hm⟩ := un.tbls P #[] tabP
    have hm : s'.heap.get? P = some { cls := .none, data := .fields more } := by
      have z := hok' P _ hm
      rw [Array.empty_append] at z
      exact z
    refine ⟨rfl, ⟨fun b y e => ?_, fun b y e => ?_⟩, os, bare⟩
    · by_cases hb : b = P
      · subst hb
        rw [hT] at e
        cases e
        exact .inr (.inl ⟨(C.tab hT).isCodeTable, rfl, #[], more, rfl, by rw [Array.empty_append]; exact hm⟩)
      · exact .inl (kept b y hb e)
    · by_cases hb : b = P
      · subst hb; exact ⟨_, hm⟩
      · exact ⟨y, kept b y hb e⟩
def tabB (K : PySem.W.Frag) (y : Str) : Bool := match PySem.W.tabIn K y with
  | some (_, P) => (K.lookup P).isNone
  | none => false
theorem tabB_ok {K : PySem.W.Frag} {y : Str} (h : tabB K y = true) : ∃ c P, PySem.W.tabIn K y = some (c, P) ∧ K.lookup P = none := by
  unfold tabB at h
  split at h
  · rename_i c P e
    exact ⟨c, P, e, Option.isNone_iff_eq_none.mp h⟩
  · cases h
theorem walk_ofGT {l : PySem.W.OpenLaw} {n k : Nat} {q : Program} {loose : List Str} {XP : (Str → Option Value) → Heap → Prop} {YP : World → Heap → Prop} {d : DefRec} {K : Params → PySem.W.Frag} {CX : World → CXT} {sp : World → Addr → Sp} {x y : Str} {dy : DefRec}
    (hn : l.most = some n) (hn2 : n ≤ sizeLine) (hdf : d.params.defaults = []) (hr : Room k callerA) (hi : importsNone q = true) (hk : ∀ p, (K p).lookup sysModules = none)
    (hy : (recsOf q).find? (fun e => e.name == y) = some dy) (ht : ∀ p, tabB (K p) y = true)
    (hY : ∀ (w : World) (h : Heap), YP w h → (K w.params).In h)
    (F : ∀ (w : World) (mg : Str → Option Value) (fa : Addr) (h : Heap) (c P : Addr), (K w.params).In h → h.Ns mainGlobals mg → mg d.name = some (.ref fa) → PySem.W.tabIn (K w.params) y = some (c, P) →
      ∃ fd : FuncData, (∀ (s : Shared) (u : Value), BindsTo s fd ⟨[u], []⟩ [(x, u)]) ∧
        ∀ base : Heap, (K w.params).In base → base.Ns mainGlobals mg → TabB base mg c P → FnG l.prog w (K w.params) mg base (CX w) k fa fd [x] (sp w P))
    (hsp : ∀ (w : World) (H : Hp) (a P : Addr) (ns : List Int), ns.length ≤ n → (∃ o u, H sysModules = some (.frz o u)) → H P = some (.tbl #[]) → SqL (K w.params) H a (ns.map V.int) → sp w P [.ref a] H (fun v _ => v = .bl true) fun _ _ _ => False)
    (hCX : ∀ (w : World) (H : Hp) (s : Shared) (e : Value) (s' : Shared), CX w [] H s (fun _ _ _ => False) e s' → False) :
    PySem.W.WalkO q loose XP YP l.row.toRowW d [] (fun f vs => PySem.call f vs) := by
  refine Att.attach_call hn hdf ?_
  intro w s0 s1 mg mb fa o pm cd doc a vs ns G Y ho hd hcd hmg hobj hints hlen hg
  obtain ⟨c, P, e1, e2⟩ := tabB_ok (ht w.params)
  obtain ⟨fd, hb, hF⟩ := F w mg fa _ c P (hY w _ Y) G.T.g hmg e1
  have hm := (G.T.seer hi).mods
  obtain ⟨C, hT⟩ := PySem.W.tab_of G.T (hY w _ Y) hy e1
  exact law_callGT (hY w _ Y) G.T.g G.T.b G.T.builtins G.T.nolimit hg (hm.imp fun _ z => z.1) (hk _) hT e2 C G.T.bmain hobj hints (Nat.le_trans hlen hn2) hr hF hb (fun H h1 h2 h3 => hsp w H a P ns hlen h1 h2 h3) fun H e s' => hCX w H s1 e s'
def spLawT (K : PySem.W.Frag) (P : Addr) : Sp := fun vs H Q _ => ∃ (a : Addr) (ns : List Int), vs = [.ref a] ∧ (∃ o u, H sysModules = some (.frz o u)) ∧ H P = some (.tbl #[]) ∧ SqL K H a (ns.map V.int) ∧ ∀ H', Q (.bl true) H'
end G9

/-! H17: isinstance of a caught error that has a dict of its own. -/
namespace G9
open PySem PySem.Spec L2 PyProof.Rows
theorem exc_kit {K : PySem.W.Frag} {D x : Addr} {ox : Obj} {od : Option Obj} (C : ExcC K D) : PySem.W.KitX K (.ref x) (.ref D) (fun h => PySem.W.InstAt h x ox D od) :=
  PySem.W.kitx_exc (by
    obtain ⟨cd, hc, _⟩ := PySem.W.any_some C.hd
    rw [hc]; rfl) C.hg C.hk C.hs C.ha C.hn C.ht C.hm
/-- its dict is told -/
def XdAt (H : Hp) (dd : Addr) : Prop := ∃ fs, H dd = some (.xd fs)
def rIsF (K : PySem.W.Frag) (D a dd : Addr) : List V → Hp → VK → Prop := fun xs H Q => XdAt H dd ∧ ∃ (c : V) (cv : Value) (b : Bool), xs = [.ref a, c] ∧ (∀ u, RelV c u → u = cv) ∧ PySem.W.kitOne K (.ref D) cv = some b ∧ Q (.bl b) H
def rIsTF (K : PySem.W.Frag) (D a dd : Addr) : List V → Hp → VK → Prop := fun xs H Q => XdAt H dd ∧ ∃ (tp : Addr) (cs : List V) (us : List Value) (b : Bool), xs = [.ref a, .ref tp] ∧ H tp = some (.tup cs) ∧ Paired ClsV cs us ∧ PySem.W.kitAny K (.ref D) us = some b ∧ Q (.bl b) H
section
variable {X : Cx} {a D dd : Addr} {oe : Obj} {pn : List (Addr × Obj)}
theorem inst_xd {pins : List (Addr × Obj)} {s : Shared} {σ : L2.St} {H : Hp} (I : Inv (X.suite a ((a, oe) :: pn)) pins σ H s) (hz : Zc (.ref D) (some dd) oe) (hf : ∃ vs, oe.data = .fields vs) (hd : XdAt H dd) : ∃ od, PySem.W.InstAt s.heap a oe D (some od) := by
  obtain ⟨fs, hd⟩ := hd
  obtain ⟨mA, hns, _⟩ : ObjOk X.prog X.w H s.heap dd (.xd fs) := I.hok dd _ hd
  obtain ⟨od, ho, _⟩ := lookIn_ns hns
  obtain ⟨hget, _⟩ := I.pin (a, oe) (List.mem_append_left _ List.mem_cons_self)
  obtain ⟨vs, hv⟩ := hf
  exact ⟨od, hget, hz.1, by unfold PySem.W.notCls; rw [hv], by rw [hz.2]; exact ho⟩
theorem call_isF (C : ExcC X.K D) (hz : Zc (.ref D) (some dd) oe) (hf : ∃ vs, oe.data = .fields vs) : CallR (X.suite a ((a, oe) :: pn)) (.builtin "isinstance") (rIsF X.K D a dd) := by
  intro pins s σ H xs us Q I r h
  obtain ⟨hd, c, cv, b, rfl, hcv, e, q⟩ := h
  obtain ⟨u1, u2, rfl, r1, r2⟩ := vals2 r
  cases (show u1 = Value.ref a from r1)
  have ec := hcv _ r2
  subst ec
  obtain ⟨od, J⟩ := inst_xd I hz hf hd
  exact PySem.W.kia_one (exc_kit C) I.kIn J e (fun z => nomatch z) fun tk => ⟨.bl b, H, I.kept (t' := tk) fun _ _ z => z, rfl, q⟩
theorem call_isTF (C : ExcC X.K D) (hz : Zc (.ref D) (some dd) oe) (hf : ∃ vs, oe.data = .fields vs) : CallR (X.suite a ((a, oe) :: pn)) (.builtin "isinstance") (rIsTF X.K D a dd) := by
  intro pins s σ H xs us Q I r h
  obtain ⟨hd, tp, cs, ws, b, rfl, hT, k, e, q⟩ := h
  obtain ⟨u1, u2, rfl, r1, r2⟩ := vals2 r
  cases (show u1 = Value.ref a from r1)
  cases (show u2 = Value.ref tp from r2)
  obtain ⟨od, J⟩ := inst_xd I hz hf hd
  obtain ⟨_, its, rv, o, h1, h2, n, h3⟩ := (show ObjOk X.prog X.w H s.heap tp (.tup cs) from I.hok tp _ hT)
  have e3 := ClsV.all k rv
  subst e3
  obtain ⟨oc, od2, dt, sl⟩ := o
  simp only at h2 h3
  subst h2 h3
  exact PySem.W.kia_tup (exc_kit C) I.kIn J h1 e (fun z => nomatch z) fun tk => ⟨.bl b, H, I.kept (t' := tk) fun _ _ z => z, rfl, q⟩
end
end G9

/-! H18: own exception classes over KeyError: how one is made. -/
namespace PySem
namespace G9K
open PySem.W PySem.Calls PyProof.Rows PySem.HandSPX
abbrev keTail : List Value := [.type "KeyError", .type "LookupError", .type "Exception", .type "BaseException", .type "object"]
theorem store_KE : StoreFacts "KeyError" keTail "object.__setattr__" "object" := {
  mro := by kernel_rfl, slot := PySem.F.store_LookupError.slot |> fun _ => .of (owner := "object") (n := "__setattr__") (by rw [typeLookup_type, builtinLookup_eq_fast]; kernel_rfl) (by decide +kernel) (by decide +kernel) (by decide +kernel) (by first | exact .inl (by decide +kernel) | exact .inr (by decide +kernel)) (by rw [isSubtype_type]; kernel_rfl),
  entry := PySem.F.store_LookupError.entry, kind := PySem.F.store_LookupError.kind, split := PySem.F.store_LookupError.split, hasOwner := by decide +kernel, args := PySem.F.store_LookupError.args, passes := fun self => by kernel_rfl }
section
variable {M : Model} {prog : Program} {w : World} {A : Around} {E : Value → Shared → Prop} {R : Result → Shared → Prop} {h : Heap} {g : Array GenState} {d : Drawn} {t : Nat} {os : OsState}
variable {nm q : Str} {C N : Addr} {bs bm : List Value} {hdct : Bool} {sn : List Str} {sub : List Value} {ab : Bool} {col : Option Bool} {dd : Option Addr} {k0 k1 k2 k3 k5 : Option Value} {rest : List Value}
/-- the class's own object -/
abbrev keObj (nm q : Str) (C N : Addr) (bs bm : List Value) (hdct : Bool) (sn : List Str) (sub : List Value) (ab : Bool) (col : Option Bool) (dd : Option Addr) (k0 k1 k2 k3 k5 : Option Value) : Obj := excClassObj nm q C N bs bm hdct sn sub ab col dd k0 k1 k2 k3 k5 "LookupError.__new__"
theorem ke_has (ht : ∀ X : String, bm.contains (.type X) = keTail.contains (.type X)) (X : String) : (Value.ref C :: bm).contains (.type X) = keTail.contains (.type X) := by
  rw [List.contains_cons, ht X]
  rfl
/-- what is used of the builtin that makes the object: its owner O, the builtin base's mro bmB -/
structure NewX (O newId : String) (bmB : List Value) : Prop where
  ends : newId.endsWith ".__new__" = true
  owner : newId.dropRight 8 = O
  entry : entryFor table newId = some Builtin.«BaseException.__new__»
  quiet : newId.startsWith "lifetime." = false
  canon : Manifest.canonical newId = Manifest.canonical "BaseException.__new__"
  kind : builtinKind newId = some .builtinFn
  split : splitId newId = some (O, "__new__")
  row : Manifest.signature? newId = some ⟨.any, O, O, .cls, [⟨"args", .varPos, false⟩, ⟨"kwargs", .varKw, false⟩]⟩
  star : (O != "*") = true
  hasO : bmB.contains (.type O) = true
  noA : bmB.contains (.type "AttributeError") = false
  noN : bmB.contains (.type "NameError") = false
theorem NewX.of {B newId initId : String} {bmF bmB : List Value} (F : ExcBaseFacts B newId initId bmF) (h1 : bmB.contains (.type B) = true) (h2 : bmB.contains (.type "AttributeError") = false) (h3 : bmB.contains (.type "NameError") = false) : NewX B newId bmB :=
  ⟨F.ends, F.owner, F.entry, F.quiet, F.canon, F.newKind, F.newSplit, F.newRow, F.noStar, h1, h2, h3⟩
theorem newx_VE : NewX "ValueError" "ValueError.__new__" veTail := .of PySem.F.excBase_ValueError (by decide +kernel) (by decide +kernel) (by decide +kernel)
theorem newx_KE : NewX "LookupError" "LookupError.__new__" keTail := .of PySem.F.excBase_LookupError (by decide +kernel) (by decide +kernel) (by decide +kernel)
variable {O newId : String} {bmB : List Value} {kw : List (Str × Value)}
theorem bx_has (ht : ∀ X : String, bm.contains (.type X) = bmB.contains (.type X)) {X : String} {b : Bool} (e : bmB.contains (.type X) = b) : (Value.ref C :: bm).contains (.type X) = b := by
  rw [List.contains_cons, ht X, e]
  rfl
theorem bx_check_new {Q : Unit → Shared → Prop} (F : NewX O newId bmB) (ht : ∀ X : String, bm.contains (.type X) = bmB.contains (.type X)) (hC : h.get? C = some (excClassObj nm q C N bs bm hdct sn sub ab col dd k0 k1 k2 k3 k5 newId)) (hq : Q () ⟨h, g, d, t, os⟩) :
    wpAny M A (checkBuiltinCall newId ⟨.ref C :: rest, kw⟩) Q E ⟨h, g, d, t, os⟩ := by
  have one := bx_has (C := C) ht F.hasO
  have star := F.star
  simp only [checkBuiltinCall, F.kind, F.split, F.row]
  repeat first
    | refine wpAny_loadPart_at hC ?_
    | (refine wpAny_isSubtype_exc hC ?_; rw [one])
    | refine wpAny_staticBase_exc hC ?_
    | refine wpAny_madeBy_exc hC ?_
    | simp only [bne_self_eq_false, Bool.false_eq_true, if_false]
    | wp_step
  exact hq
theorem bx_new (F : NewX O newId bmB) (ht : ∀ X : String, bm.contains (.type X) = bmB.contains (.type X)) (hC : h.get? C = some (excClassObj nm q C N bs bm hdct sn sub ab col dd k0 k1 k2 k3 k5 newId)) (hr : rest.length ≤ sizeLine)
    (hq : R (.ok (.ret (.ref (h.objs.size + 1)))) ⟨(h.push (PySem.W.kdv_tup rest)).push (excO C h.objs.size), g, d, t, os⟩) : codeAny (model prog w) A (.builtin newId ⟨.ref C :: rest, kw⟩) R ⟨h, g, d, t, os⟩ := by
  have ends := F.ends
  have one := bx_has (C := C) ht F.hasO
  have two := bx_has (C := C) ht F.noA
  have three := bx_has (C := C) ht F.noN
  apply codeAny_builtinAt F.entry
  unfold Builtin.«BaseException.__new__»; refine wpAt_bind ?_; show wpAt _ _ _ (stack >>= _) _ _ _
  refine wpAt_bind (wpAt_stack fun p below => wpAt_of_wpAny ?_); wp_walk
  refine wpAt_of_wpAny ?_
  rw [F.owner]
  repeat first
    | with_reducible refine wpAny_madeHere_exc F.canon hC ?_
    | with_reducible refine wpAny_loadPart_at hC ?_
    | (with_reducible refine wpAny_isSubtype_exc hC ?_; first | rw [one] | rw [two] | rw [three])
    | wp_step
  show R _ _
  rw [Heap.size_push]
  exact hq
theorem bx_type_call {fI : Addr} {Q : Fin → Shared → Prop} (F : NewX O newId bmB) (ht : ∀ X : String, bm.contains (.type X) = bmB.contains (.type X)) (hC : h.get? C = some (excClassObj nm q C N bs bm hdct sn sub ab col dd k0 k1 k2 k3 k5 newId)) (hr : rest.length ≤ sizeLine)
    (hi : PySem.W.Looks (model prog w) h (typeLookup (.ref C) "__init__") (some (.ref fI))) (hb : ∀ self, PySem.W.Looks (model prog w) h (bindSpecial (.ref fI) self) (.ref fI, [self]))
    (hq : codeAny (model prog w) A (.call (.ref fI) ⟨.ref (h.objs.size + 1) :: rest, kw⟩) (fun r s' => match r with | .ok (.ret v) => v = .none ∧ Q (.done (.ret (.ref (h.objs.size + 1)))) s' | .ok _ => False | .error e => E e s') ⟨(h.push (PySem.W.kdv_tup rest)).push (excO C h.objs.size), g, d, t, os⟩) :
    wpAny (model prog w) A (Builtin.«type.__call__» ⟨.ref C :: rest, kw⟩) Q E ⟨h, g, d, t, os⟩ := by
  repeat first | with_reducible refine wpAny_loadPart_at hC ?_ | with_reducible refine wpAny_madeBy_exc hC ?_ | wp_step
  apply codeAny_call_builtin_code (Code.quiet_builtin _ F.quiet) (bx_check_new F ht hC ?_)
  apply bx_new F ht hC hr
  show wpAny _ _ _ _ _ _
  have kp : ∀ b o, h.get? b = some o → ((h.push (PySem.W.kdv_tup rest)).push (excO C h.objs.size)).get? b = some o := fun b o e => Heap.get?_push_of_some _ (Heap.get?_push_of_some _ e)
  have at1 : ((h.push (PySem.W.kdv_tup rest)).push (excO C h.objs.size)).get? (h.objs.size + 1) = some (excO C h.objs.size) := by heap_get
  have own : (Value.ref C :: bm).contains (.ref C) = true := by simp
  unfold isInstance
  repeat first | with_reducible refine wpAny_loadPart_at at1 ?_ | (with_reducible refine wpAny_isSubtype_exc (kp _ _ hC) ?_; rw [own]) | wp_step
  show wpAny _ _ (typeLookup (.ref C) _) _ _ _
  refine (hi.keeps kp).at (wpAny_holding (wpAny_bind (((hb _).keeps kp).at (wpAny_bind (wpAny_call (codeAny_mono hq fun r s' z => ?_))))))
  rcases r with e | (v | _ | _ | _) <;> first | exact z | exact z.elim | skip
  obtain ⟨rfl, z⟩ := z
  first | exact wpAny_pure (wpAny_pure z) | (wp_walk; exact z)
theorem bx_call {fI : Addr} (F : NewX O newId bmB) (ht : ∀ X : String, bm.contains (.type X) = bmB.contains (.type X)) (hC : h.get? C = some (excClassObj nm q C N bs bm hdct sn sub ab col dd k0 k1 k2 k3 k5 newId)) (hr : rest.length ≤ sizeLine)
    (hi : PySem.W.Looks (model prog w) h (typeLookup (.ref C) "__init__") (some (.ref fI))) (hb : ∀ self, PySem.W.Looks (model prog w) h (bindSpecial (.ref fI) self) (.ref fI, [self]))
    (hq : codeAny (model prog w) (A.under (.builtin "type.__call__" ⟨.ref C :: rest, kw⟩)) (.call (.ref fI) ⟨.ref (h.objs.size + 1) :: rest, kw⟩) (PySem.W.InitBack (h.objs.size + 1) R) ⟨(h.push (PySem.W.kdv_tup rest)).push (excO C h.objs.size), g, d, t, os⟩) :
    codeAny (model prog w) A (.call (.ref C) ⟨rest, kw⟩) R ⟨h, g, d, t, os⟩ := by
  have look := tc_lookup
  have bind := tc_bind (.ref C)
  have ty : (⟨h, g, d, t, os⟩ : Shared).TypeIs (.ref C) "type" := ⟨_, hC, rfl⟩
  apply codeAny_of_tree
  show wpAny _ _ (callAny (.ref C) _) _ _ _
  repeat any_goals first | assumption | with_reducible refine wpAny_loadPart_at hC ?_ | wp_step
  refine ⟨rfl, codeAny_call_builtin_at (Code.quiet_builtin _ (by decide +kernel)) entry_typeCall (wpAny_check_type_call_sub hC (bx_type_call F ht hC hr hi hb (codeAny_mono hq fun r s' z => ?_)))⟩
  rcases r with e | (v | _ | _ | _) <;> exact z
/-- KeyError.__init__(e, ..): the args are laid anew -/
theorem ke_init {e t0 : Addr} (ht : ∀ X : String, bm.contains (.type X) = keTail.contains (.type X)) (hC : h.get? C = some (keObj nm q C N bs bm hdct sn sub ab col dd k0 k1 k2 k3 k5)) (he : h.get? e = some (excO C t0)) (hr : rest.length ≤ sizeLine)
    (hq : ∀ h' t1, (∀ b o, b ≠ e → h.get? b = some o → h'.get? b = some o) → h'.get? e = some (excO C t1) → R (.ok (.ret .none)) ⟨h', g, d, t, os⟩) : codeAny (model prog w) A (.call (.builtin "KeyError.__init__") ⟨.ref e :: rest, []⟩) R ⟨h, g, d, t, os⟩ := by
  have F := PyProof.Rows.excClass_KeyError
  have one : (Value.ref C :: bm).contains (.type "KeyError") = true := (ke_has ht _).trans (by decide +kernel)
  have star := F.notStar
  refine codeAny_call_builtin F.init.plain F.initEntry ?_
  have chk : ∀ {Q : Unit → Shared → Prop} {E : Value → Shared → Prop} {A : Around}, Q () ⟨h, g, d, t, os⟩ → wpAny (model prog w) A (checkBuiltinCall "KeyError.__init__" ⟨.ref e :: rest, []⟩) Q E ⟨h, g, d, t, os⟩ := fun {Q E A} z => by
    simp only [checkBuiltinCall, F.initKind, F.initSplit, F.initSig]
    repeat first
      | with_reducible refine wpAny_loadPart_at he ?_
      | with_reducible refine wpAny_loadPart_at hC ?_
      | (with_reducible refine wpAny_isSubtype_exc hC ?_; rw [one])
      | wp_step
    refine wpAny_onRaise ?_
    rw [show ∀ (a b : String) (n : Nat), Bind.check ⟨.positional, "*", "KeyError", .self, [⟨"args", .varPos, false⟩]⟩ a b n (List.map (fun x => x.fst) ({ pos := Value.ref e :: rest } : Args).kw) = pure () from fun a b n => check_star_args ..]
    exact wpAny_pure z
  refine chk ?_
  wp_walk
  refine hq _ h.objs.size (fun b o hb ho => ?_) ?_
  · rw [Heap.get?_update_other _ _ (Ne.symm hb)]; exact Heap.get?_push_of_some _ ho
  · rw [Heap.get?_update_self _ (Heap.get?_push_of_some _ he) rfl]; rfl
open Builtin Builtin.ObjectAttr in
/-- the first field: a dict is laid for it -/
theorem bx_store {x : Addr} {fv : Array Value} {cd : ClassData} {name : Str} {tk : Tok} {v : Value} {b : Bool} {Q : Fin → Shared → Prop} (hx : h.get? x = some { cls := .ref C, data := .fields fv }) (hcls : PySem.W.Looks M h (classData C) cd) (hh : cd.hasDict = true)
    (hq : ∀ h' tk' dx, (∀ b o, b ≠ x → h.get? b = some o → h'.get? b = some o) → h.objs.size ≤ dx → dx ≠ x → h'.get? x = some { cls := .ref C, dict := some dx, data := .fields fv } → h'.Ns1 dx (fun y => if y = name then some v else none) → Q (.done (.ret .none)) ⟨h', g, d, tk', os⟩) :
    wpAny M A (storeInOwnDict (.ref x) (.ref C) (.str name tk) name v b) Q E ⟨h, g, d, t, os⟩ := by
  have xs : x ≠ h.objs.size := Nat.ne_of_lt (Heap.lt_size hx)
  obtain ⟨_, _, _, _, _, hd, _, _, _, _, _⟩ := cd
  dsimp only at hh
  subst hh
  unfold storeInOwnDict ownDictForStores
  repeat first | with_reducible refine store_in_new ?_ ?_ | with_reducible refine wpAny_loadPart_at hx ?_ | with_reducible refine hcls.at ?_ | wp_step
  · exact ⟨_, #[], _, (Heap.get?_update_ne _ _ _ _ xs.symm).trans (Heap.get?_push_at rfl rfl), rfl, fun e he => absurd he (by simp), fun _ => rfl⟩
  · intro h' tk' hn hs
    have x1 : (h.push { cls := .type "dict", data := .dict #[] }).get? x = some { cls := .ref C, data := .fields fv } := Heap.get?_push_of_some _ hx
    exact hq h' tk' h.objs.size (fun b o hb ho => (hs.2 b (Nat.ne_of_lt (Heap.lt_size ho))).trans ((Heap.get?_update_ne _ _ _ _ hb).trans (Heap.get?_push_of_some _ ho))) (Nat.le_refl _) xs.symm ((hs.2 x xs).trans (Heap.get?_update_self _ x1 rfl)) hn
end
end G9K
end PySem

/-! H11a: checks of exception classes. -/
namespace G9
open PySem PySem.Spec L2 PyProof.Rows
def exRow (K : PySem.W.Frag) (C : Addr) : Bool := match K.lookup C with
  | some ⟨.type "type", _, .cls cd, sl⟩ => (match cd.mro, sl.toList with
    | .ref D :: ms, [_, _, _, _, some (.builtin nw), _] => (D == C && nw == "ValueError.__new__") && ((!cd.hasDel && cd.hasDict) && PySem.HandSPX.refsVE ms)
    | _, _ => false)
  | _ => false
def oexB (K : PySem.W.Frag) (C : Addr) : Bool := exRow K C && (decide (PySem.W.findIn K (.ref C) "__setattr__" = some (some (.builtin "object.__setattr__"))) && (decide (PySem.W.subIn K (.ref C) (.type "BaseException") = some true) && (decide (PySem.W.typeIn K (.ref C) = some (.type "type")) && PySem.W.keepIn K (.ref C))))
def ecB (K : PySem.W.Frag) (D : Addr) : Bool := decide (PySem.W.findIn K (.ref D) "__getattribute__" = some (some (.builtin "BaseException.__getattribute__"))) && (decide (PySem.W.findIn K (.ref D) "__getattr__" = some none) && (decide (PySem.W.subIn K (.ref D) (.type "BaseException") = some true) && (PySem.W.hasDictIn K D &&
  (decide (PySem.W.findIn K (.ref D) "__class__" = some (some (.builtin "object.__class__"))) && (decide (PySem.W.specialIn K (.builtin "object.__class__") "__get__" = some (some (.builtin "getset_descriptor.__get__"))) && (decide (PySem.W.takesIn K (.builtin "object.__class__") = some true) && decide (PySem.W.mroIn K D (.type "object") = some true)))))))
/-- the base class whose __init__ is called by its name -/
def basB (K : PySem.W.Frag) (CL : Addr) : Bool := PySem.W.readsIn K CL (.type "type") && (decide (PySem.W.specialIn K (.ref CL) "__getattribute__" = some (some (.builtin "type.__getattribute__"))) && (match PySem.W.findCls K (.ref CL) (.type "type") "__init__" with
  | some (.val v) => decide (v = .builtin "ValueError.__init__")
  | _ => false))
def mk0B (K : PySem.W.Frag) (C : Addr) : Bool := PySem.W.makesIn K C && (decide (PySem.W.findIn K (.ref C) "__init__" = some (some (.builtin "object.__init__"))) && (decide (PySem.W.mroIn K C (.type "object") = some true) && PySem.W.keepIn K (.ref C)))
end G9

/-! H2: several except clauses, each with a name. -/
namespace G9
open PySem PySem.Spec L2 PyProof.Rows
/-- one clause: the class, the slot of its name, what its suite does -/
abbrev ClA := Value × Nat × (Addr → Value → Option Addr → TS)
/-- the ends of a suite whose name is in slot i -/
def endA (D : Ends) (i : Nat) : Ends := { nx := fun σ' H' => D.nx (σ'.set i none) H', rt := D.rt, bk := fun σ' H' => D.bk (σ'.set i none) H', ct := fun σ' H' => D.ct (σ'.set i none) H' }
def wAll (K : PySem.W.Frag) (Wout : WX) (D : Ends) : List ClA → WX
  | [] => Wout
  | (c, i, ts) :: r => fun cls d σ H => ∃ b, PySem.W.exmOne K cls c = some b ∧ (b = true → ∀ a, H a = none → ts a cls d (endA D i) (σ.set i (some (.ref a))) H) ∧ (b = false → wAll K Wout D r cls d σ H)
inductive HdsA (X : Cx) : List ExceptHandler → List ClA → Prop
  | nil : HdsA X [] []
  | cons {x n : Str} {i : Nat} {c : Value} {ts : Addr → Value → Option Addr → TS} {b₀ : Stmt} {suite : List Stmt} {np pos' : Pos} {hds : List ExceptHandler} {l : List ClA} (hc : Names X x c) (hi : X.N[i]? = some n) (hln : X.env.kindOf n = some .local)
      (hsu : ∀ (a : Addr) (oe : Obj) (cls : Value) (d : Option Addr) (pn : List (Addr × Obj)), Zc cls d oe → (∃ vs, oe.data = .fields vs) → PSs (X.suite a ((a, oe) :: pn)) (b₀ :: suite) (ts a cls d)) (r : HdsA X hds l) :
      HdsA X (.ExceptHandler (some (.Name x np)) (some n) (b₀ :: suite) pos' :: hds) ((c, i, ts) :: l)
section
variable {X : Cx} {body : List Stmt} {h₀ : ExceptHandler} {hds : List ExceptHandler} {l : List ClA} {pos : Pos} {tb : WX → TS} {Wout : WX}
theorem ps_try_all (hs : X.stack = X.env :: X.outer) (hf : X.env.frame = some X.env.locals) (hN : X.N.Nodup) (tk : Takes X Wout)
    (hb : ∀ (W : WX) (pn : List (Addr × Obj)) (xe : Value → Shared → Prop), Takes (X.tr pn xe) W → PassesOwn (model X.prog X.w) X.A X.env xe → PSs (X.tr pn xe) body (tb W))
    (hh : HdsA X (h₀ :: hds) l) : PS X (.Try body (h₀ :: hds) [] [] pos) (fun D σ H => tb (wAll X.K Wout D l) D σ H) := by
  refine ⟨fun pins s σ H D I h => ?_⟩
  have ok := I.ok
  have hfr : X.A.frames = some (X.env :: X.outer) := by rw [ok.frames, hs]
  refine wpAny_Try_except ?_
  refine wpAny_mono ((hb (wAll X.K Wout D l) (X.pn ++ pins) (fun e s₁ => wpAny (model X.prog X.w) X.A (noteFrame e X.env) (fun _ s₂ => wpAny (model X.prog X.w) X.A (setFlight e none) (fun _ s₃ =>
    wpAny (model X.prog X.w) X.A (handleBy e X.env (h₀ :: hds)) (SP X pins D) X.xe s₃) X.xe s₂) X.xe s₁) (fun u s' xx => ?_) PassesOwn.looking).run [] s σ H D (I.toTry _) h) (fun f s1 hsp => ?_) (fun e s1 he => he)
  · obtain ⟨a, B, sI, pins', σ', H', cls, d, rfl, J', nb, up, sky, na, os, ag, w⟩ := xx
    have J : Inv X pins σ' H' sI := J'.ofTry ok
    have sky' : Sky B (X.env :: X.outer) a (Zc cls d) X.env.locals s'.heap := by rw [← hs]; exact sky
    show wpAny (model X.prog X.w) X.A (noteFrame (.ref a) X.env) _ _ _
    refine Sky.land Zc.steady hfr hf sky' fun h3 fl3 up3 => ?_
    have J3 : Inv X pins σ' H' { s' with heap := h3 } := J.landed nb fl3.1 (up.trans up3) os ag
    obtain ⟨oe3, vs3, he3, hz3, hd3⟩ := fl3.there
    have notFr : ∀ {h : Heap} {o : Obj} {vs : Array Value}, h.FunFrames B (X.env :: X.outer) → h.get? a = some o → o.data = .fields vs → a ∉ frs (X.env :: X.outer) := fun {h o vs} ff e dd hm => by
      obtain ⟨_, o', e', hnf⟩ := ff.mem hm
      rw [e] at e'; cases e'
      exact hnf _ dd
    have nfr := notFr fl3.2.2.1 he3 hd3
    have nL : a ≠ X.env.locals := fun z => nfr (List.mem_filterMap.mpr ⟨X.env, List.mem_cons_self, by rw [hf, z]⟩)
    have nF : a ∉ X.fs := fun hm => by
      obtain ⟨e, he, q⟩ := List.mem_filterMap.mp hm
      exact nfr (List.mem_filterMap.mpr ⟨e, List.mem_cons_of_mem _ he, q⟩)
    have S3 := J3.suite he3 hd3 na nL nF
    have go : ∀ {hds' : List ExceptHandler} {l' : List ClA}, HdsA X hds' l' → wAll X.K Wout D l' cls d σ' H' →
        wpAny (model X.prog X.w) X.A (handleBy (.ref a) X.env hds') (SP X pins D) X.xe { s' with heap := h3 } := by
      intro hds' l' hk
      induction hk with
      | nil =>
        intro w
        refine wpAny_handleBy_nil ?_
        obtain ⟨k1, k2, k3, oe, vs, T, oT, ts', he, hz, hd, h1, hr⟩ := id fl3
        unfold PySem.passOn
        refine wpAny_bind (wpAny_field he hd h1 ?_)
        rw [if_neg (show ¬ ((Value.ref T == Value.none) = true) from by simp)]
        have fin : wpAny (model X.prog X.w) X.A (setFlight (.ref a) X.env.frame) (fun _ s4 => wpAny (model X.prog X.w) X.A (throw (.ref a) : Sem Flow) (SP X pins D) X.xe s4) X.xe { s' with heap := h3 } := by
          rw [hf]
          refine HandSPX.setFlight_upZ fl3 fun h4 hh4 up4 => wpAny_throw (tk _ _ ?_)
          exact ⟨a, B, sI, pins, σ', H', cls, d, rfl, J, nb, (up.trans up3).trans up4, .inr (.inr (by rw [hs]; exact hh4)), na, os, ag, w⟩
        first
          | exact wpAny_bind (wpAny_pure (wpAny_bind fin))
          | exact wpAny_bind fin
      | @cons x n i c ts b₀ suite np pos' hds2 l2 hc hi hln hsu r ih =>
        intro w
        obtain ⟨b, hb1, hyes, hno⟩ := w
        have hloc : Loc X.env.scope n := .inl hln
        refine wpAny_handleBy_cons (codeAny_handlers_test ?_) (by intro q; cases q)
        have LT : PySem.W.Looks (model X.prog X.w) h3 (typeOf (.ref a)) cls := fun A Q E s k q => wpAny_typeOf_ref (k _ _ he3) (by rw [hz3.1]; exact q)
        have LM := PySem.W.exm_one (M := model X.prog X.w) (J3.kIn) LT hb1
        have test : ∀ {Q : Value → Shared → Prop} {E : Value → Shared → Prop}, Q c { s' with heap := h3 } → wpAny (model X.prog X.w) (X.A.mark (some (.ref a))) (eval (.Name x np) X.env) Q E { s' with heap := h3 } := fun {Q E} q => by
          obtain ⟨hg, hdbg, hm | ⟨hm, hv, hnn⟩⟩ := hc
          · exact ld_glob (X := X.suite a ((a, oe3) :: (X.pn ++ pins))) S3 hg hm q hdbg
          · exact ld_blt (X := X.suite a ((a, oe3) :: (X.pn ++ pins))) S3 hg hm hv q hnn hdbg
        refine test (LM.here ?_)
        cases b with
        | true =>
          refine codeAny_handlers_suite_as ?_
          refine HandSPX.lands_againZ fl3 fun h4 fl4 up4 => ?_
          have J4 : Inv X pins σ' H' { s' with heap := h4 } := J.landed nb fl4.1 ((up.trans up3).trans up4) os ag
          obtain ⟨oe4, vs4, he4, hz4, hd4⟩ := fl4.there
          have S4 := J4.suite he4 hd4 na nL nF
          refine store_ok (X := X.suite a ((a, oe4) :: (X.pn ++ pins))) (v := .ref a) S4 hN hi hloc rfl (fun s5 S5 => ?_) (.inr hln)
          refine wpAny_mono ((hsu a oe4 cls d (X.pn ++ pins) hz4 ⟨_, hd4⟩).run [] s5 _ H' _ S5 (hyes rfl a na)) (fun f s6 hsp => ?_) (fun _ _ z => False.elim z)
          have end_ : ∀ {σ6 : L2.St} {H6 : Hp} {Q : Shared → Prop}, Inv (X.suite a ((a, oe4) :: (X.pn ++ pins))) [] σ6 H6 s6 → (∀ s7, Inv X pins (σ6.set i none) H6 s7 → Q s7) →
              wpAny (model X.prog X.w) X.A (do bindName X.env n .none; unbindBehindTheSuite X.env n pos') (fun _ s7 => Q s7) X.xe s6 := fun {σ6 H6 Q} S6 hq => gone_ok (S6.unsuite ok) hN hi hln hq
          cases f with
          | next =>
            obtain ⟨σ6, H6, S6, q6⟩ := hsp
            exact end_ S6 fun s7 J7 => ⟨_, _, J7, q6⟩
          | brk =>
            obtain ⟨σ6, H6, S6, q6⟩ := hsp
            exact end_ S6 fun s7 J7 => ⟨_, _, J7, q6⟩
          | cont =>
            obtain ⟨σ6, H6, S6, q6⟩ := hsp
            exact end_ S6 fun s7 J7 => ⟨_, _, J7, q6⟩
          | ret u =>
            obtain ⟨v6, σ6, H6, S6, r6, q6⟩ := hsp
            exact end_ S6 fun s7 J7 => ⟨_, _, _, J7, r6, q6⟩
        | false =>
          show wpAny _ X.A (handleBy (.ref a) X.env hds2) _ _ _
          exact ih (hno rfl)
    exact go hh w
  · cases f with
    | next =>
      obtain ⟨σ', H', J', q⟩ := hsp
      exact wpAny_execs_nil ⟨σ', H', J'.ofTry ok, q⟩
    | brk =>
      obtain ⟨σ', H', J', q⟩ := hsp
      exact ⟨σ', H', J'.ofTry ok, q⟩
    | cont =>
      obtain ⟨σ', H', J', q⟩ := hsp
      exact ⟨σ', H', J'.ofTry ok, q⟩
    | ret u =>
      obtain ⟨v, σ', H', J', r, q⟩ := hsp
      exact ⟨v, σ', H', J'.ofTry ok, r, q⟩
end
end G9

/-! H1: objects are made and methods called, where no repr is under way (FnG). -/
namespace G9
open PySem PySem.Spec L2 PyProof.Rows
theorem RmG.make {k : Nat} {A : Around} (r : RmG (k + 1) A) (C : Addr) (us : List Value) (kw : List (Str × Value)) : RmG k (A.under (.builtin "type.__call__" ⟨.ref C :: us, kw⟩)) := ⟨r.rm.make C us kw, by first | exact r.gd | (simpa [Around.under] using r.gd)⟩
section
variable {X : Cx} {CX : CXT} {k : Nat} {f C : Addr} {fd : FuncData} {ps : List Str} {sp : Sp} {E : XK} {x m : Str} {p pos apos : Pos} {e o : Expr} {es : List Expr} {ta : TE} {t : TA}
theorem run_makeG {pins : List (Addr × Obj)} {σ : L2.St} {H : Hp} {s : Shared} {Q : VK} {us : List Value} {vs : List V} (M : Mk X.K C f) (F : FnG X.prog X.w X.K X.mg X.base CX k f fd ps sp) (hr : RmG (k + 1) X.A) (hb : Binds X.K fd ps [])
    (hx : Passes CX X E) (I : Inv X pins σ H s) (r : Vals vs us)
    (h : ∀ x dx, H x = none → H dx = none → dx ≠ x → sp (.ref x :: vs) (upd (upd H dx (.own x)) x (.ins C dx [])) (fun v H2 => v = .non ∧ Q (.ref x) H2) E) :
    wpAny (model X.prog X.w) X.A (call (.ref C) us) (EP X pins σ Q) X.xe s := by
  have hq := h (s.heap.objs.size + 1) s.heap.objs.size (I.hok.fresh (Nat.le_succ _)) (I.hok.fresh (Nat.le_refl _)) (Nat.ne_of_lt (Nat.lt_succ_self _))
  have I2 := Inv.made (C := C) I
  have r2 : Vals (V.ref (s.heap.objs.size + 1) :: vs) (Value.ref (s.heap.objs.size + 1) :: us) := .cons rfl r
  have hl : ((Value.ref (s.heap.objs.size + 1) :: us) ++ []).length = ps.length := by
    have e := r2.length
    rw [F.len hq] at e
    rw [List.append_nil]
    exact e.symm
  have b := hb _ (Value.ref (s.heap.objs.size + 1) :: us) I2.kIn hl
  rw [List.append_nil] at b
  refine wpAny_call (make_map (f := f) I.kIn M.makes M.init (beq_iff_eq.mp M.fn) (codeAny_mono (F.run (A := X.A.under (.builtin "type.__call__" ⟨.ref C :: us, []⟩)) (outer := X.stack) ⟨hr.make C us [], I2.env0.make C us []⟩ b r2 hq) fun r s' hq' => ?_))
  cases r with
  | error e => exact hx pins σ _ _ e s' I2 hq'
  | ok fl =>
    cases fl with
    | ret u =>
      obtain ⟨v, H', I3, rv, ev, q3⟩ := I2.after hq'
      subst ev
      exact ⟨rv, ⟨V.ref (s.heap.objs.size + 1), H', I3, rfl, q3⟩⟩
    | next => exact False.elim hq'
    | brk => exact False.elim hq'
    | cont => exact False.elim hq'
theorem pe_makeG (M : Mk X.K C f) (F : FnG X.prog X.w X.K X.mg X.base CX k f fd ps sp) (hr : RmG (k + 1) X.A) (hg : Gl X x) (hm : X.mg x = some (.ref C)) (hb : Binds X.K fd ps []) (hx : Passes CX X E)
    (ha : PA X (e :: es) t) (hdb : (x == ("__debug__" : Str)) = false := by decide) (he : starEach (e :: es) X.env = (false, eval e X.env) :: starEach es X.env := by rfl) (hpl : (backTo pos (starEach es X.env)).any (·.1) = false := by rfl) :
    PE X (.Call (.Name x p) (e :: es) [] pos) (tMake C sp [] E t) := by
  refine ⟨fun pins s σ H Q I h => ?_⟩
  refine wpAny_Call_Name_kw (ld_glob I hg hm ?_ hdb)
  refine PySem.W.callWith_K (h₀ := X.base) I.ok.mod.kin M.kp (thn (ha.run pos pins s σ H _ I h) fun us s1 ⟨vs, H1, I1, r, q⟩ => ⟨I1.kIn, run_makeG M F hr hb hx I1 r fun x dx h1 h2 h3 => ?_⟩) he hpl
  have z := q x dx h1 h2 h3
  rw [List.append_nil] at z
  exact z
theorem pe_makeG0 (M : Mk X.K C f) (F : FnG X.prog X.w X.K X.mg X.base CX k f fd ps sp) (hr : RmG (k + 1) X.A) (hg : Gl X x) (hm : X.mg x = some (.ref C)) (hb : Binds X.K fd ps []) (hx : Passes CX X E)
    (hdb : (x == ("__debug__" : Str)) = false := by decide) : PE X (.Call (.Name x p) [] [] pos) (tMake C sp [] E tNil) := by
  refine ⟨fun pins s σ H Q I h => ?_⟩
  refine wpAny_Call_Name_kw (ld_glob I hg hm ?_ hdb)
  exact PySem.W.callWith_K0 I.kIn M.kp (run_makeG (us := []) (vs := []) M F hr hb hx I .nil h)
theorem pe_methG {pl : Sem Bool} (he : PE X o ta) (c : Cls X.K C) (hm : Meth X.K C m f) (F : FnG X.prog X.w X.K X.mg X.base CX k f fd ps sp) (hr : RmG k X.A) (hb : Binds X.K fd ps []) (hx : Passes CX X E) (ha : PA X (e :: es) t)
    (hst : starEach (e :: es) X.env = (false, eval e X.env) :: starEach es X.env := by rfl) (hpl : (backTo pos (starEach es X.env)).any (·.1) = false := by rfl)
    (ht : eval (.Call (.Attribute o m apos) (e :: es) [] pos) X.env = (do
      let ov ← eval o X.env
      standAt apos.atName
      let (f, first) ← holding [ov] (getMethod ov m pl)
      callWith pos f first (backTo pos (starEach (e :: es) X.env)) (backToKw pos (keywordEach [] X.env))) := by rfl) :
    PE X (.Call (.Attribute o m apos) (e :: es) [] pos) (tMeth C m sp [] E ta t) := by
  refine ⟨fun pins s σ H Q I h => ?_⟩
  refine PySem.W.methodCall_KW (pl := pl) (thn (he.run pins s σ H _ I h) fun u s1 ⟨x, H1, I1, rx, a, dx, fs, ex, ea, l, q⟩ => ?_) ht
  subst ex
  obtain rfl : u = Value.ref a := rx
  refine getmeth_ok I1 ea c hm l ?_
  refine PySem.W.callWith_K (first := [.ref a]) (h₀ := X.base) I1.ok.mod.kin hm.kp (thn (ha.run pos pins s1 σ H1 _ I1 q) fun us s2 ⟨vs, H2, I2, r, q2⟩ => ⟨I2.kIn, ?_⟩) hst hpl
  have q2 : sp (V.ref a :: (vs ++ [])) H2 Q E := q2
  rw [List.append_nil] at q2
  have rr : Vals (V.ref a :: vs) (Value.ref a :: us) := .cons rfl r
  have b := hb s2 (.ref a :: us) I2.kIn (by rw [List.append_nil, ← F.len q2]; exact rr.length.symm)
  rw [List.append_nil] at b
  exact runG (us' := .ref a :: us) (vs := .ref a :: vs) F hr hx I2 b (.cons rfl r) q2
theorem pe_methG0 {pl : Sem Bool} (he : PE X o ta) (c : Cls X.K C) (hm : Meth X.K C m f) (F : FnG X.prog X.w X.K X.mg X.base CX k f fd ps sp) (hr : RmG k X.A) (hb : Binds X.K fd ps []) (hx : Passes CX X E)
    (ht : eval (.Call (.Attribute o m apos) [] [] pos) X.env = (do
      let ov ← eval o X.env
      standAt apos.atName
      let (f, first) ← holding [ov] (getMethod ov m pl)
      callWith pos f first (backTo pos (starEach [] X.env)) (backToKw pos (keywordEach [] X.env))) := by rfl) :
    PE X (.Call (.Attribute o m apos) [] [] pos) (tMeth C m sp [] E ta tNil) := by
  refine ⟨fun pins s σ H Q I h => ?_⟩
  refine PySem.W.methodCall_KW (pl := pl) (thn (he.run pins s σ H _ I h) fun u s1 ⟨x, H1, I1, rx, a, dx, fs, ex, ea, l, q⟩ => ?_) ht
  subst ex
  obtain rfl : u = Value.ref a := rx
  refine getmeth_ok I1 ea c hm l ?_
  have b := hb s1 [.ref a] I1.kIn (by rw [List.append_nil]; exact (F.len q).symm ▸ rfl)
  rw [List.append_nil] at b
  exact PySem.W.callWith_K0 (first := [.ref a]) I1.kIn hm.kp (runG (us := [.ref a]) (us' := [.ref a]) (vs := [.ref a]) F hr hx I1 b (.cons rfl .nil) q)
end
end G9

/-! S1: sets of texts on the heap: add, sorted. -/
namespace G9
open PySem PySem.Spec L2 PyProof.Rows PySem.Froz
/-- a set of texts stands at a, its members are l; it can be walked -/
def SetS (P : Program) (w : World) (h : Heap) (a : Addr) (l : List Str) : Prop :=
  ∃ D : SD, h.get? a = some (sObj "set" D) ∧ TxOk P w D l ∧ l.Nodup ∧ l.length < scanBound ∧ Ris D.2.2.place.toList ∧ (w.params.followText "set-order" = true ∨ D.2.2.led = true)
section
variable {P : Program} {w : World} {A : Around} {E : Value → Shared → Prop} {s : Shared} {a : Addr} {l : List Str} {k : Str} {u : Tok}
theorem SetS.keep {h h' : Heap} (R : SetS P w h a l) (q : ∀ o, h.get? a = some o → h'.get? a = some o) : SetS P w h' a l := by
  obtain ⟨D, h1, h2⟩ := R
  exact ⟨D, q _ h1, h2⟩
theorem tail_ris {ep : Nat} {es : Array (Int × Value)} {t : SetTable} {b : Bool} (h : Ris t.place.toList) : Ris (tailTx ep es t b).2.2.place.toList := by
  unfold tailTx
  split
  · exact relayAll_ris t es _
  · exact h
theorem tail_led {ep : Nat} {es : Array (Int × Value)} {t : SetTable} {b : Bool} : (tailTx ep es t b).2.2.led = t.led := by
  unfold tailTx
  split
  · exact relayAll_led t es _
  · rfl
theorem addTx_ris {h : Int} {v : Value} {D : SD} (r : Ris D.2.2.place.toList) : Ris (addTx h v D).2.2.place.toList := by
  unfold addTx
  refine tail_ris ?_
  have z := layNew_ris D.2.2 D.1 h v r
  split <;> exact z
theorem addTx_led {h : Int} {v : Value} {D : SD} : (addTx h v D).2.2.led = D.2.2.led := by
  unfold addTx
  rw [tail_led]
  have z := layNew_led D.2.2 D.1 h v
  split <;> exact z
/-- a member is added once more -/
theorem add_old {D : SD} {T : String} {Q : Bool → Shared → Prop} (ho : s.heap.get? a = some (sObj T D)) (F : TxOk P w D l) (hk : k ∈ l) (hb : l.length < scanBound) (h : Q false s) :
    wpAny (model P w) A (setAddHashed a (.str k u) (hashStr w k)) Q E s := by
  obtain ⟨es, ep, t⟩ := D
  have hsz : es.size < scanBound := by rw [show es.size = l.length from F.sz]; exact hb
  have hel : ElemsOf (PySem.strKind P w) es.toList := F.el
  have hft : t.fits es.size = true := F.fit
  have hkey : (PySem.strKind P w).is k (.str k u) = true := is_str k u
  obtain ⟨e, he, hke⟩ := (F.mem k).mp hk
  unfold setAddHashed
  unfold setAddHashedIn
  refine wpAny_holding (wpAny_bind (wpAny_setState_of (o := sObj T (es, ep, t)) ho rfl hft ?_))
  dsimp only
  rw [byScan_of rfl hsz hel]
  simp only [↓reduceIte]
  unfold setAddByScan
  refine wpAny_bind (wpAny_bind (wpAny_rule (wpAny_bind (wpAny_setScan_of (k := k) hkey ho rfl hft hel ?_))))
  cases hf : List.findIdx? (fun e => (PySem.strKind P w).is k e.2) es.toList with
  | some j => exact wpAny_pure (wpAny_pure h)
  | none =>
    have z := List.findIdx?_eq_none_iff.mp hf e he
    rw [hke] at z
    cases z
/-- the members behind an add -/
def insS (k : Str) (l : List Str) : List Str := if k ∈ l then l else k :: l
theorem setS_add {Q : Value → Shared → Prop} (R : SetS P w s.heap a l) (room : l.length + 1 < scanBound)
    (hQ : ∀ h', Heap.SameBut a s.heap h' → SetS P w h' a (insS k l) → Q .none { s with heap := h', toks := s.toks + 1 }) : wpAny (model P w) A (call (.builtin "set.add") [.ref a, .str k u]) Q E s := by
  obtain ⟨D, ho, Fx, nd, hb, r, ld⟩ := R
  have hT : s.TypeIs (.ref a) "set" := ⟨_, ho, rfl⟩
  refine wpAny_call_entry F.slot_set_add hT F.entry_set_add ?_ (F.args_set_add_2 _ _)
  unfold Builtin.«set.add» Builtin.Frozenset.oneOther
  simp only [List.isEmpty_nil, bind_assoc]
  unfold Builtin.Frozenset.addrOf setAdd
  refine wpAny_bind (wpAny_pure ?_)
  try dsimp only
  refine wpAny_bind (wpAny_pure ?_)
  try dsimp only
  refine wpAny_bind (wpAny_holding (wpAny_bind ((PySem.strKind P w).pyHash (is_str k u) ?_)))
  by_cases hk : k ∈ l
  · refine add_old (s := { s with toks := s.toks + 1 }) ho Fx hk hb ?_
    refine wpAny_pure ⟨_, rfl, hQ s.heap (Heap.SameBut.refl a s.heap) ?_⟩
    unfold insS
    rw [if_pos hk]
    exact ⟨D, ho, Fx, nd, hb, r, ld⟩
  · refine add_x (s := { s with toks := s.toks + 1 }) ho Fx hk room ?_
    refine wpAny_pure ⟨_, rfl, hQ _ (Heap.SameBut.update s.heap a _) ?_⟩
    unfold insS
    rw [if_neg hk]
    exact ⟨_, get_upd _ ho rfl, add_ok u Fx, List.nodup_cons.mpr ⟨hk, nd⟩, room, addTx_ris r, ld.imp id fun z => by rw [addTx_led]; exact z⟩
theorem setS_new {h : Heap} : SetS P w (h.push { cls := .type "set", dict := none, data := .set #[] 0 (.fresh 0 0 (!w.params.followText "set-order")) }) h.objs.size [] :=
  ⟨(#[], 0, .fresh 0 0 (!w.params.followText "set-order")), Heap.get?_push_size _ rfl, TxOk.nil rfl, List.nodup_nil, by decide, List.Pairwise.nil, by
    show _ ∨ (!w.params.followText "set-order") = true
    cases w.params.followText "set-order"
    · exact .inr rfl
    · exact .inl rfl⟩
def strV : Value → Str
  | .str x _ => x
  | _ => ⟨#[]⟩
theorem strs_are : ∀ {vs : List Value}, (∀ v ∈ vs, ∃ k t, v = Value.str k t) → StrsAre vs (vs.map strV)
  | [], _ => .nil
  | v :: vs, h => by
    obtain ⟨k, t, e⟩ := h v List.mem_cons_self
    subst e
    exact .cons k t (strs_are fun u hu => h u (List.mem_cons_of_mem _ hu))
theorem perm_of_sub {α : Type} [DecidableEq α] : ∀ {l m : List α}, l.Nodup → (∀ k ∈ l, k ∈ m) → l.length = m.length → m.Perm l
  | [], m, _, _, e => by
    have e : m.length = 0 := e.symm
    rw [List.eq_nil_of_length_eq_zero e]
  | k :: l, m, nd, h, e => by
    obtain ⟨n1, n2⟩ := List.nodup_cons.mp nd
    have hk := h k List.mem_cons_self
    refine (List.perm_cons_erase hk).trans ((perm_of_sub n2 (fun j hj => ?_) ?_).cons k)
    · exact (List.mem_erase_of_ne (fun z => n1 (by rw [← z]; exact hj))).mpr (h j (List.mem_cons_of_mem _ hj))
    · rw [List.length_erase_of_mem hk, ← e]
      rfl
/-- sorted of it -/
theorem sorted_setS {Q : Value → Shared → Prop} (R : SetS P w s.heap a l) (hh : A.handled = none) (h64 : l.length < 64)
    (hQ : ∀ s' p (out : Array Value) (c : Nat) (ns : List Str), (∀ b o, s.heap.get? b = some o → s'.heap.get? b = some o) → s'.gens = s.gens → s'.os = s.os → s.heap.objs.size ≤ p →
      s'.heap.get? p = some (seqObj "list" out c) → StrsAre out.toList ns → sortedS ns = true → ns.Perm l → Q (.ref p) s') : wpAny (model P w) A (call (.builtin "sorted") [.ref a]) Q E s := by
  obtain ⟨⟨es, ep, t⟩, ho, F, nd, hb, r, ld⟩ := R
  refine Calls.call_function_entry kind_sorted plain_sorted entry_sorted (args_sorted1 _) ?_
  unfold Builtin.«sorted»
  refine wpAny_bind (m := checkCount "sorted" 1 1 _) (wpAny_pure ?_)
  have hsz : es.size = l.length := F.sz
  refine wpAny_bind (collect_set (A := A.in1) hh (⟨_, ho, rfl, rfl⟩ : SetAt s.heap a es ep t) F.fit (by rw [hsz]; exact hb) r ld fun s1 vs k1 hz g1 o1 pm => ?_)
  have hvl : vs.length = l.length := by rw [pm.length_eq, List.length_map, Array.length_toList]; exact hsz
  have el := F.el
  have hI : StrsAre vs (vs.map strV) := strs_are fun v hv => by
    obtain ⟨e, he, q⟩ := List.mem_map.mp (pm.mem_iff.mp hv)
    obtain ⟨⟨k, hk, _⟩, _⟩ := el e he
    obtain ⟨t, ht⟩ := Value.isStrOf_shape hk
    exact ⟨k, t, by rw [← q]; exact ht⟩
  have hlen64 : vs.length < 64 := by rw [hvl]; exact h64
  refine wpAny_bind (wpAny_newList ?_ (by rw [sizeLine_eq]; omega))
  have hoL : (s1.heap.push (seqObj "list" vs.toArray 0)).get? s1.heap.objs.size = some (seqObj "list" vs.toArray 0) := Heap.get?_push_size _ rfl
  have pk : (vs.map strV).Perm l := by
    have q := pm.map strV
    rw [List.map_map] at q
    refine q.trans (perm_of_sub nd (fun k hk => ?_) (by rw [List.length_map, Array.length_toList]; exact hsz.symm))
    obtain ⟨e, he, z⟩ := (F.mem k).mp hk
    obtain ⟨t, ht⟩ := Value.isStrOf_shape z
    refine List.mem_map.mpr ⟨e, he, ?_⟩
    show strV e.2 = k
    rw [ht]
    rfl
  refine wpAny_bind (wpAny_holding (wpAny_call_entry slot_list_sort ⟨_, hoL, rfl⟩ entry_list_sort (list_sort_treeK strKind_oneLt hoL hI.keysOf (fun v₁ v₂ rest e => keyKind_strs (by rw [← e]; exact hI)) hlen64 fun st' hp hs => ?_) (args_list_sort _)))
  obtain ⟨ns, a1, a2, a3⟩ := sorted_out_str hI hp hs
  refine ⟨_, rfl, ?_⟩
  obtain ⟨c, hc⟩ := sortedHeap_at (vs := vs) (out := (arrOf st').map (·.2)) hoL
  refine wpAny_pure ⟨_, rfl, hQ _ s1.heap.objs.size _ c ns (fun b o e => ?_) g1 o1 hz hc a1 a3 (a2.trans pk)⟩
  have e1 := k1 b o e
  have hlt := Heap.lt_size e1
  show (sortedHeap (s1.heap.push (seqObj "list" vs.toArray 0)) s1.heap.objs.size vs _).get? b = some o
  rw [sortedHeap_old (Nat.ne_of_lt hlt) (by rw [size_push']; exact Nat.lt_succ_of_lt hlt)]
  exact Heap.get?_push_of_some _ e1
end
end G9

/-! S2: set comprehensions with two clauses, of texts. -/
namespace G9
open PySem PySem.Spec L2 PyProof.Rows PySem.Froz
abbrev sc2 (e t i t' i' : Expr) (cs cs' : List Expr) (sc : Scope) (p : Pos) : Expr := .SetComp e [⟨t, i, cs, 0⟩, ⟨t', i', cs', 0⟩] sc p
section
variable {P : Program} {w : World} {A : Around} {R : Result → Shared → Prop} {s : Shared} {e t i t' i' : Expr} {cs cs' : List Expr} {sc : Scope} {p : Pos} {it acc : Value} {env : Env}
abbrev testS (cs : List Expr) (env : Env) : Sem Bool := forIn cs true fun c r => if r = true then do let ok ← isTrue c env (eval c env); pure (ForInStep.yield ok) else pure (ForInStep.yield r)
abbrev NB (P : Program) (w : World) (A : Around) (env : Env) (R : Result → Shared → Prop) : Value → Shared → Prop := notedBy (model P w) A env fun x z => R (.error x) z
theorem outS (e t i t' i' : Expr) (cs cs' : List Expr) (sc : Scope) (p : Pos) (it acc : Value) (env : Env) : compTurn (sc2 e t i t' i' cs cs' sc p) 0 it acc env = (do
      standAt i.pos
      match ← pyNext it with
      | none => pure (.done .next)
      | some v =>
        letOwnedTupleGo t it v
        assign t env v
        let mut go := true
        for c in cs do
          if go then go ← isTrue c env (eval c env)
        if go then
          let y ← eval i' env
          standAt i'.pos
          let y ← foldedSetIterable i' env y
          let _ ← runOwn (.compStart (sc2 e t i t' i' cs cs' sc p) 1 (← holding [y] (pyIter y)) acc env) env
        again (.compLoop (sc2 e t i t' i' cs cs' sc p) 0 it acc env)) := by rfl
theorem innS (e t i t' i' : Expr) (cs cs' : List Expr) (sc : Scope) (p : Pos) (it acc : Value) (env : Env) : compTurn (sc2 e t i t' i' cs cs' sc p) 1 it acc env = (do
      standAt i'.pos
      match ← pyNext it with
      | none => pure (.done .next)
      | some v =>
        letOwnedTupleGo t' it v
        assign t' env v
        let mut go := true
        for c in cs' do
          if go then go ← isTrue c env (eval c env)
        if go then
          (do let y ← eval e env; standAt e.pos; let _ ← call (.builtin "set.add") [acc, y])
        again (.compLoop (sc2 e t i t' i' cs cs' sc p) 1 it acc env)) := by rfl
theorem loopOut (hf : ∀ x, foldedSetIterable i' env x = pure x) (J : Nat → Shared → Prop)
    (turn : ∀ n s, J n s → wpAny (model P w) A (pyNext it) (fun r s1 => match r with
      | none => R (.ok .next) s1
      | some v => wpAny (model P w) A (letOwnedTupleGo t it v) (fun _ s2 => wpAny (model P w) A (assign t env v) (fun _ s3 => wpAny (model P w) A (testS cs env) (fun b s4 =>
            if b = true then wpAny (model P w) A (eval i' env) (fun x s5 => wpAny (model P w) A (pyIter x) (fun it1 s6 =>
              codeAny (model P w) A (.compStart (sc2 e t i t' i' cs cs' sc p) 1 it1 acc env) (fun r z => match r with
                | .ok _ => ∃ m, m < n ∧ J m z
                | .error _ => False) s6) (NB P w A env R) s5) (NB P w A env R) s4
            else ∃ m, m < n ∧ J m s4) (NB P w A env R) s3) (NB P w A env R) s2) (NB P w A env R) s1) (NB P w A env R) s)
    (n : Nat) (h : J n s) : codeAny (model P w) A (.compLoop (sc2 e t i t' i' cs cs' sc p) 0 it acc env) R s := by
  refine codeAny_loop rfl J (fun n s hJ => ?_) n h
  show wpAny _ A ((compTurn (sc2 e t i t' i' cs cs' sc p) 0 it acc env).onRaise (fun x => do noteFrame x env; theTreesLotGoes x)) _ _ s
  refine wpAny_noted ?_
  rw [outS]
  refine wpAny_bind (wpAny_standAt (wpAny_bind (wpAny_mono (turn n s hJ) (fun r s1 q1 => ?_) fun _ _ z => z)))
  cases r with
  | none => exact wpAny_pure q1
  | some v =>
    refine wpAny_bind (wpAny_mono q1 (fun _ s2 q2 => wpAny_bind (wpAny_mono q2 (fun _ s3 q3 => wpAny_bind (wpAny_mono q3 (fun b s4 q4 => ?_) fun _ _ z => z)) fun _ _ z => z)) fun _ _ z => z)
    cases b with
    | false => exact wpAny_pure ⟨rfl, q4⟩
    | true =>
      refine wpAny_bind (wpAny_mono q4 (fun x s5 q5 => wpAny_bind (wpAny_standAt (wpAny_bind (wpAny_of_eq (hf x) (wpAny_bind (wpAny_holding (wpAny_mono q5 (fun it1 s6 q6 => ?_) fun _ _ z => z))))))) fun _ _ z => z)
      refine wpAny_bind (wpAny_runOwn ?_)
      rw [Around.mark_none]
      refine codeAny_mono q6 fun r z hr => ?_
      cases r with
      | error x => exact hr.elim
      | ok f =>
        first
          | exact wpAny_pure ⟨rfl, hr⟩
          | exact wpAny_bind (wpAny_pure (wpAny_pure ⟨rfl, hr⟩))
theorem loopInn (J : Nat → Shared → Prop)
    (turn : ∀ n s, J n s → wpAny (model P w) A (pyNext it) (fun r s1 => match r with
      | none => R (.ok .next) s1
      | some v => wpAny (model P w) A (letOwnedTupleGo t' it v) (fun _ s2 => wpAny (model P w) A (assign t' env v) (fun _ s3 => wpAny (model P w) A (testS cs' env) (fun b s4 =>
            if b = true then wpAny (model P w) A (eval e env) (fun x s5 => wpAny (model P w) A (call (.builtin "set.add") [acc, x]) (fun _ s6 => ∃ m, m < n ∧ J m s6) (NB P w A env R) s5) (NB P w A env R) s4
            else ∃ m, m < n ∧ J m s4) (NB P w A env R) s3) (NB P w A env R) s2) (NB P w A env R) s1) (NB P w A env R) s)
    (n : Nat) (h : J n s) : codeAny (model P w) A (.compLoop (sc2 e t i t' i' cs cs' sc p) 1 it acc env) R s := by
  refine codeAny_loop rfl J (fun n s hJ => ?_) n h
  show wpAny _ A ((compTurn (sc2 e t i t' i' cs cs' sc p) 1 it acc env).onRaise (fun x => do noteFrame x env; theTreesLotGoes x)) _ _ s
  refine wpAny_noted ?_
  rw [innS]
  refine wpAny_bind (wpAny_standAt (wpAny_bind (wpAny_mono (turn n s hJ) (fun r s1 q1 => ?_) fun _ _ z => z)))
  cases r with
  | none => exact wpAny_pure q1
  | some v =>
    refine wpAny_bind (wpAny_mono q1 (fun _ s2 q2 => wpAny_bind (wpAny_mono q2 (fun _ s3 q3 => wpAny_bind (wpAny_mono q3 (fun b s4 q4 => ?_) fun _ _ z => z)) fun _ _ z => z)) fun _ _ z => z)
    cases b with
    | false => exact wpAny_pure ⟨rfl, q4⟩
    | true => exact wpAny_bind (wpAny_bind (wpAny_mono q4 (fun x s5 q5 => wpAny_bind (wpAny_standAt (wpAny_bind (wpAny_mono q5 (fun _ s6 q6 => wpAny_pure (wpAny_pure ⟨rfl, q6⟩)) fun _ _ z => z)))) fun _ _ z => z))
theorem startInn (h0 : codeAny (model P w) A (.compLoop (sc2 e t i t' i' cs cs' sc p) 1 it acc env) R s)
    (h : wpAny (model P w) A (pyIter it) (fun it' z => codeAny (model P w) A (.compLoop (sc2 e t i t' i' cs cs' sc p) 1 it' acc env) R z) (NB P w A env R) s) : codeAny (model P w) A (.compStart (sc2 e t i t' i' cs cs' sc p) 1 it acc env) R s := by
  refine codeAny_of_tree ?_
  show wpAny _ _ ((compStart (sc2 e t i t' i' cs cs' sc p) 1 it acc env).onRaise (fun x => do noteFrame x env; standAt theWindowsPlace)) _ _ s
  refine wpAny_notedAt ?_
  unfold compStart
  show wpAny _ _ (ask >>= _) _ _ s
  refine wpAny_bind (wpAny_askSetting (wpAny_ite ?_))
  split
  · first
      | exact wpAny_bind (wpAny_pure (wpAny_pure ⟨rfl, h0⟩))
      | exact wpAny_pure ⟨rfl, h0⟩
  · first
      | exact wpAny_bind (wpAny_rule (wpAny_bind (wpAny_standAt (wpAny_bind (wpAny_mono h (fun _ _ q => wpAny_pure ⟨rfl, q⟩) fun _ _ x => x)))))
      | (refine wpAny_bind (wpAny_rule ?_); show wpAny _ _ (standAt i'.pos >>= _) _ _ s; exact wpAny_bind (wpAny_standAt (wpAny_bind (wpAny_mono h (fun _ _ q => wpAny_pure ⟨rfl, q⟩) fun _ _ x => x))))
end
end G9

/-! S3: the set comprehension with two clauses, walked; sorted of a set. -/
namespace G9
open PySem PySem.Spec L2 PyProof.Rows PySem.Froz
def SetSO (P : Program) (w : World) (a : Addr) (l : List Str) : HO := .ext fun h => SetS P w h a l
theorem setSO_ok {w : World} {P : Program} {H : Hp} {h : Heap} {a : Addr} {l : List Str} (R : SetS P w h a l) : ObjOk P w H h a (SetSO P w a l) := by
  have ⟨D, h1, _⟩ := R
  exact ⟨R, ⟨_, h1⟩, fun _ _ p q => SetS.keep p q⟩
section
variable {X : Cx} {pins : List (Addr × Obj)} {σ : L2.St} {H : Hp} {s : Shared}
theorem addS_ok {E : Value → Shared → Prop} {D : Addr} {l : List Str} {y : Str} {tk : Tok} {Q : Value → Shared → Prop} (I : Inv X pins σ H s) (hD : H D = some (SetSO X.prog X.w D l)) (room : l.length + 1 < scanBound)
    (h : ∀ z, Inv X pins σ (upd H D (SetSO X.prog X.w D (insS y l))) z → Q .none z) : wpAny (model X.prog X.w) X.A (call (.builtin "set.add") [.ref D, .str y tk]) Q E s := by
  refine setS_add (I.hok D _ hD).1 room fun h' sb new => ?_
  have ⟨o, g, _⟩ := new
  exact h _ (I.write (e := D) (t' := s.toks + 1) (by rw [hD]; trivial) (.inl rfl) (fun b u hb hu => (sb.2 b hb).trans hu) ⟨_, g⟩ (setSO_ok new))
/-- {e for .. in .. if .. for .. in .. if ..}, of texts; D: the new set -/
def tSc2 (P : Program) (w : World) (wo : TI) (go : TG) (co : TT) (wi : TI) (gi : TG) (ci : TT) (te : TE) (vs us : List Nat) : TE := fun σ H Q => wo σ H fun J H1 => ∀ D, H1 D = none → ∃ U : Nat → Nat → Hp → Prop, (∃ m, U 0 m (upd H1 D (SetSO P w D []))) ∧ ∀ i m H, U i m H →
  (J.stop i H ∧ Q (.ref D) H) ∨ (J.go i H ∧ ∃ Nx : Hp → Prop, (∀ H', Nx H' → ∃ m', m' < m ∧ U (i + 1) m' H') ∧ ∀ x H', J.yld i H x H' → go x (wipe σ vs) H' fun σ2 H2 => wipe σ2 vs = wipe σ vs ∧ co σ2 H2 fun b H3 =>
    if b = true then wi σ2 H3 fun J1 H4 => ∃ U1 : Nat → Nat → Hp → Prop, (∃ m, U1 0 m H4) ∧ ∀ j k H, U1 j k H →
      (J1.stop j H ∧ Nx H) ∨ (J1.go j H ∧ ∃ Ny : Hp → Prop, (∀ H', Ny H' → ∃ k', k' < k ∧ U1 (j + 1) k' H') ∧ ∀ x H', J1.yld j H x H' → gi x (wipe σ2 us) H' fun σ3 H5 => wipe σ3 us = wipe σ2 us ∧ ci σ3 H5 fun b H6 =>
        if b = true then te σ3 H6 fun y H7 => ∃ z l, y = .str z ∧ H7 D = some (SetSO P w D l) ∧ l.length + 1 < scanBound ∧ Ny (upd H7 D (SetSO P w D (insS z l))) else Ny H6)
    else Nx H3)
variable {e t i t' i' : Expr} {cs cs' : List Expr} {sc : Scope} {p : Pos} {own : List (Str × Nat)} {us : List Nat} {wo wi : TI} {go gi : TG} {co ci : TT} {te : TE}
theorem pe_sc2 (hc : X.calm = true) (hN : X.N.Nodup) (ok : BlkOk X.N X.env.scope sc own) (hu : ∀ j ∈ us, j ∈ own.map (·.2)) (ho : PI X t i wo)
    (hgo : ∀ (s : Shared) (H : Hp) (C : Addr) (cl : List (Str × Addr)) (fp : List Addr), PG (X.blk s H sc (compEnvC sc cl C X.env) fp) t go)
    (hco : ∀ (s : Shared) (H : Hp) (C : Addr) (cl : List (Str × Addr)) (fp : List Addr), PTs (X.blk s H sc (compEnvC sc cl C X.env) fp) cs co)
    (hwi : ∀ (s : Shared) (H : Hp) (C : Addr) (cl : List (Str × Addr)) (fp : List Addr), PI (X.blk s H sc (compEnvC sc cl C X.env) fp) t' i' wi)
    (hgi : ∀ (s : Shared) (H : Hp) (C : Addr) (cl : List (Str × Addr)) (fp : List Addr), PG (X.blk s H sc (compEnvC sc cl C X.env) fp) t' gi)
    (hci : ∀ (s : Shared) (H : Hp) (C : Addr) (cl : List (Str × Addr)) (fp : List Addr), PTs (X.blk s H sc (compEnvC sc cl C X.env) fp) cs' ci)
    (hte : ∀ (s : Shared) (H : Hp) (C : Addr) (cl : List (Str × Addr)) (fp : List Addr), PE (X.blk s H sc (compEnvC sc cl C X.env) fp) e te)
    (f1 : ∀ x, foldedSetIterable i X.env x = pure x := by intro _; rfl) (f2 : ∀ env x, foldedSetIterable i' env x = pure x := by intro _ _; rfl) :
    PE X (sc2 e t i t' i' cs cs' sc p) (tSc2 X.prog X.w wo go co wi gi ci te (own.map (·.2)) us) := by
  refine ⟨fun pins s σ H Q I h => ?_⟩
  rw [PpSet.eval_SetComp]
  have free : ∀ y ∈ sc.names, y.2 = .free → ∃ c, X.env.cells.lookup y.1 = some c := fun y hy q => (ok.free y hy q).elim (fun k => I.ok.has _ (.inl k)) fun k => I.ok.has _ (.inr k)
  refine wpAny_comprehension_free (use := none) rfl f1 (closure_ok free) ok.kind (fun y hy q => by rw [ok.uniq y hy, q]) ?_
  refine thn (ho.run pins s σ H _ I h) fun _ s1 q1 => thn q1 fun _ s2 q2 => ?_
  obtain ⟨it, fp, tn, J, H2, rfl, I2, T, st2, fp2, q⟩ := q2
  refine PpSet.newSet_ok (newEnv_comp ?_)
  generalize hD : s2.heap.objs.size = D
  have D0 : H2 D = none := I2.hok.fresh (Nat.le_of_eq hD)
  obtain ⟨U, ⟨m0, u0⟩, turn⟩ := q D D0
  generalize hs3 : ({ s2 with heap := s2.heap.push { cls := .type "set", dict := none, data := .set #[] 0 (.fresh 0 0 (!X.w.params.followText "set-order")) } } : Shared) = s3
  have hp3 : s3.heap = s2.heap.push { cls := .type "set", dict := none, data := .set #[] 0 (.fresh 0 0 (!X.w.params.followText "set-order")) } := by rw [← hs3]
  have I3 : Inv X pins σ (upd H2 D (SetSO X.prog X.w D [])) s3 := by
    rw [← hs3]
    refine I2.laid (t' := s2.toks) (fun _ _ z => Heap.get?_push_of_some _ z) (Nat.le_of_eq hD) ?_
    rw [← hD]
    exact setSO_ok setS_new
  have lo : ∀ b ∈ fp, b < s2.heap.objs.size := fun b hb => (T.obj _ _ st2 b hb).elim fun o z => Heap.lt_size z.1
  have fp3 : ∀ b ∈ fp, FpOk X pins (upd H2 D (SetSO X.prog X.w D [])) b ∧ b < s3.heap.objs.size := fun b hb => by
    have l0 := lo b hb
    have ne : b ≠ D := by rw [← hD]; exact Nat.ne_of_lt l0
    exact ⟨⟨by rw [upd_ne ne]; exact (fp2 b hb).1, (fp2 b hb).2⟩, by rw [hp3, Heap.size_push]; exact Nat.lt_succ_of_lt l0⟩
  have st3 : tn 0 s3.heap := T.keep _ _ _ st2 fun b _ o z => by rw [hp3]; exact Heap.get?_push_of_some _ z
  have I4 := block_start I3 ok hN fp3
  have no3 : ∀ b ∈ fp, (upd H2 D (SetSO X.prog X.w D [])) b = none := fun b hb => (fp3 b hb).1.1
  show codeAny _ _ (.compStart (sc2 e t i t' i' cs cs' sc p) 0 (.ref it) (.ref D) (compEnvC sc (cellsFrom (s3.heap.objs.size + 1) sc.names (cloFrom X.env.cells sc.names [])) s3.heap.objs.size X.env)) (compPost (model X.prog X.w) X.A X.xe none (EP X pins σ Q) (.ref D) s3.heap.objs.size) { s3 with heap := pushCells (s3.heap.push { cls := .type "dict", data := .dict #[] }) sc.names }
  generalize hcl : cellsFrom (s3.heap.objs.size + 1) sc.names (cloFrom X.env.cells sc.names []) = cl at I4 ⊢
  have a1 := hgo s3 (upd H2 D (SetSO X.prog X.w D [])) s3.heap.objs.size cl fp
  have a2 := hco s3 (upd H2 D (SetSO X.prog X.w D [])) s3.heap.objs.size cl fp
  have a3 := hwi s3 (upd H2 D (SetSO X.prog X.w D [])) s3.heap.objs.size cl fp
  have a4 := hgi s3 (upd H2 D (SetSO X.prog X.w D [])) s3.heap.objs.size cl fp
  have a5 := hci s3 (upd H2 D (SetSO X.prog X.w D [])) s3.heap.objs.size cl fp
  have a6 := hte s3 (upd H2 D (SetSO X.prog X.w D [])) s3.heap.objs.size cl fp
  generalize hce : compEnvC sc cl s3.heap.objs.size X.env = ce at I4 a1 a2 a3 a4 a5 a6 ⊢
  have cL : ce.locals = s3.heap.objs.size := by subst hce; rfl
  generalize hH3 : upd H2 D (SetSO X.prog X.w D []) = H3 at I3 I4 a1 a2 a3 a4 a5 a6 u0 no3 fp3
  generalize hs4 : ({ s3 with heap := pushCells (s3.heap.push { cls := .type "dict", data := .dict #[] }) sc.names } : Shared) = s4 at I4 ⊢
  have st4 : tn 0 s4.heap := T.keep _ _ _ st3 fun b _ o z => by rw [← hs4]; exact pushCells_keeps _ _ _ _ (Heap.get?_push_of_some _ z)
  let X' : Cx := X.blk s3 H3 sc ce fp
  have fpo : ∀ {σ' : L2.St} {H' : Hp} {z : Shared}, Inv X' [] σ' H' z → (∀ b ∈ fp, H' b = none) → ∀ b ∈ fp, FpOk X' [] H' b := fun {_ _ _} I' hn b hb =>
    ⟨hn b hb, (I'.ok.exf b hb).1, I'.ok.exfs b hb, .inl hb, fun x c q => (I'.ok.exf b hb).2 x c q, fun r hr => absurd (show r ∈ ([] : List (Addr × Obj)) ++ [] from hr) (by simp)⟩
  let Z : Nat → Shared → Prop := fun n z => ∃ j H', Inv X' [] (wipe σ (own.map (·.2))) H' z ∧ tn j z.heap ∧ (∀ b ∈ fp, H' b = none) ∧ U j n H'
  have loop : codeAny (model X.prog X.w) X.A (.compLoop (sc2 e t i t' i' cs cs' sc p) 0 (.ref it) (.ref D) ce) (compPost (model X.prog X.w) X.A X.xe none (EP X pins σ Q) (.ref D) s3.heap.objs.size) s4 := by
    refine loopOut (f2 ce) Z ?_ m0 ⟨0, H3, I4, st4, no3, u0⟩
    rintro n s5 ⟨j, H5, I5, st5, n5, u5⟩
    rcases turn j n H5 u5 with ⟨stop, qq⟩ | ⟨goes, Nx, hNx, step⟩
    · refine thnF (T.done X' rfl rfl rfl hc j [] s5 _ H5 (fun _ _ => False) I5 (fpo I5 n5) st5 stop) fun r s6 ⟨hr, I6⟩ => ?_
      subst hr
      have I7 : Inv X pins σ H5 s6 := I3.call' (ch := fp) I6.os I6.base I6.hok I6.bare fun b hb => ⟨(fp3 b hb).1.2.2.2.1, (fp3 b hb).1.2.1, (fp3 b hb).1.2.2.2.2.1, (fp3 b hb).1.2.2.2.2.2⟩
      have nC : H5 s3.heap.objs.size = none := by
        have z : H5 ce.locals = none := I6.free
        rwa [cL] at z
      obtain ⟨m, hm, _⟩ := I6.loc
      have hm : s6.heap.Ns ce.locals m := hm
      rw [cL] at hm
      refine ⟨m, hm, fun h'' sb => ?_⟩
      obtain ⟨g0, g1, g2, g3, g4, g5⟩ := I3.fpOk (Nat.le_refl _) nC
      exact ⟨.ref D, H5, I7.turned (t' := s6.toks) (fun b o hb z => (sb.2 b hb).trans z) nC g1 g3 g4 g5, rfl, qq⟩
    · refine thnF (T.item X' rfl rfl rfl hc j [] s5 _ H5 (fun _ _ => False) I5 (fpo I5 n5) st5 goes) fun r s6 ⟨u, hr, h6⟩ => ?_
      subst hr
      refine thnF h6 fun _ s7 ⟨x, H7, I7, r7, y7, st7, n7⟩ => ?_
      refine thnF (a1.run _ s7 _ H7 x u _ (I7.pinned (fpo I7 n7) (T.obj _ _ st7)) r7 (step x H7 y7)) fun _ s8 ⟨σ8, H8, I8, w8, q8⟩ => ?_
      refine thnF (a2.run _ s8 σ8 H8 _ I8 q8) fun b s9 ⟨H9, I9, q9⟩ => ?_
      have fin : ∀ {σ9 : L2.St} {z : Shared} {H' : Hp}, Inv X' ([] ++ pinsAt fp s7.heap) σ9 H' z → (wipe σ (own.map (·.2))).length = σ9.length → (∀ (k : Nat) v, (wipe σ (own.map (·.2)))[k]? = some (some v) → σ9[k]? = some (some v)) → Nx H' → ∃ m, m < n ∧ Z m z := fun {_ z H'} I' hl hk nx => by
        obtain ⟨m', lt, u'⟩ := hNx H' nx
        have pin' : ∀ b ∈ fp, ∀ o, s7.heap.get? b = some o → z.heap.get? b = some o ∧ H' b = none := fun b hb o q =>
          let y := I'.pin (b, o) (List.mem_append_right _ (List.mem_append_right _ (mem_pinsAt hb q)))
          ⟨y.1, y.2.1⟩
        refine ⟨m', lt, j + 1, H', (I'.unpinned (pins := [])).weak hl hk, T.keep _ _ _ st7 fun b hb o q => (pin' b hb o q).1, fun b hb => ?_, u'⟩
        obtain ⟨o, q, _⟩ := T.obj _ _ st7 b hb
        exact (pin' b hb o q).2
      have l8 : (wipe σ (own.map (·.2))).length = σ8.length := by rw [← w8, wipe_length]
      have k8 : ∀ (k : Nat) v, (wipe σ (own.map (·.2)))[k]? = some (some v) → σ8[k]? = some (some v) := fun k v q => by
        rw [← w8] at q
        exact (wipe_some q).1
      have k9 : ∀ (k : Nat) v, (wipe σ (own.map (·.2)))[k]? = some (some v) → (wipe σ8 us)[k]? = some (some v) := fun k v q => by
        rw [← w8] at q
        obtain ⟨q1, q2⟩ := wipe_some q
        rw [wipe_out fun z => q2 (hu k z)]
        exact q1
      cases b with
      | false =>
        simp only [Bool.false_eq_true, if_false] at q9 ⊢
        exact fin I9 l8 k8 q9
      | true =>
        simp only [if_true] at q9 ⊢
        refine thnF (a3.run _ s9 σ8 H9 _ I9 q9) fun _ s10 q10 => thnF q10 fun _ s11 q11 => ?_
        obtain ⟨it1, fq, tm, J1, H11, rfl, I11, T1, st11, fp11, U1, ⟨m1, u1⟩, turn1⟩ := q11
        have fpo1 : ∀ {H' : Hp}, (∀ b ∈ fq, H' b = none) → ∀ b ∈ fq, FpOk X' ([] ++ pinsAt fp s7.heap) H' b := fun hn b hb => ⟨hn b hb, (fp11 b hb).2⟩
        let Z1 : Nat → Shared → Prop := fun k z => ∃ j H', Inv X' ([] ++ pinsAt fp s7.heap) (wipe σ8 us) H' z ∧ tm j z.heap ∧ (∀ b ∈ fq, H' b = none) ∧ U1 j k H'
        have inner : codeAny (model X.prog X.w) X.A (.compLoop (sc2 e t i t' i' cs cs' sc p) 1 (.ref it1) (.ref D) ce) (fun r z => match r with
              | .ok _ => ∃ m, m < n ∧ Z m z
              | .error _ => False) s11 := by
          refine loopInn Z1 ?_ m1 ⟨0, H11, I11.weak (wipe_length _ _) (fun k v q => (wipe_some q).1), st11, fun b hb => (fp11 b hb).1, u1⟩
          rintro k s12 ⟨j1, H12, I12, st12, n12, u12⟩
          rcases turn1 j1 k H12 u12 with ⟨stop1, nx1⟩ | ⟨go1, Ny, hNy, step1⟩
          · refine thnF (T1.done X' rfl rfl rfl hc j1 _ s12 (wipe σ8 us) H12 (fun _ _ => False) I12 (fpo1 n12) st12 stop1) fun r s13 ⟨hr, I13⟩ => ?_
            subst hr
            exact fin I13 (l8.trans (wipe_length σ8 us).symm) k9 nx1
          · refine thnF (T1.item X' rfl rfl rfl hc j1 _ s12 (wipe σ8 us) H12 (fun _ _ => False) I12 (fpo1 n12) st12 go1) fun r s13 ⟨v1, hr, h13⟩ => ?_
            subst hr
            refine thnF h13 fun _ s14 ⟨x1, H14, I14, r14, y14, st14, n14⟩ => ?_
            refine thnF (a4.run _ s14 (wipe σ8 us) H14 x1 v1 _ (I14.pinned (fpo1 n14) (T1.obj _ _ st14)) r14 (step1 x1 H14 y14)) fun _ s15 ⟨σ15, H15, I15, w15, q15⟩ => ?_
            refine thnF (a5.run _ s15 σ15 H15 _ I15 q15) fun b1 s16 ⟨H16, I16, q16⟩ => ?_
            have fin1 : ∀ {z : Shared} {H' : Hp}, Inv X' (([] ++ pinsAt fp s7.heap) ++ pinsAt fq s14.heap) σ15 H' z → Ny H' → ∃ m, m < k ∧ Z1 m z := fun {z H'} I' nx => by
              obtain ⟨m', lt, u'⟩ := hNy H' nx
              have pin' : ∀ b ∈ fq, ∀ o, s14.heap.get? b = some o → z.heap.get? b = some o ∧ H' b = none := fun b hb o q =>
                let y := I'.pin (b, o) (List.mem_append_right _ (List.mem_append_right _ (mem_pinsAt hb q)))
                ⟨y.1, y.2.1⟩
              refine ⟨m', lt, j1 + 1, H', I'.unpinned.weak (by rw [← w15, wipe_length]) (fun k v q => by rw [← w15] at q; exact (wipe_some q).1), T1.keep _ _ _ st14 fun b hb o q => (pin' b hb o q).1, fun b hb => ?_, u'⟩
              obtain ⟨o, q, _⟩ := T1.obj _ _ st14 b hb
              exact (pin' b hb o q).2
            cases b1 with
            | false =>
              simp only [Bool.false_eq_true, if_false] at q16 ⊢
              exact fin1 I16 q16
            | true =>
              simp only [if_true] at q16 ⊢
              refine thnF (a6.run _ s16 σ15 H16 _ I16 q16) fun z s17 ⟨yv, H17, I17, r17, ys, l, ey, hD17, hz17, nx⟩ => ?_
              subst ey
              obtain ⟨tk, rfl⟩ := r17
              exact addS_ok (X := X') I17 hD17 hz17 fun s18 I18 => fin1 I18 nx
        exact startInn inner (T1.self X.A 0 _ _ _ st11 inner)
  exact PpSet.codeAny_compStart_set loop (T.self X.A 0 _ _ _ st4 loop)
end
end G9

/-! S4: sorted({n for ns in e for n in ns}), texts, over wants. -/
namespace G9
open PySem PySem.Spec L2 PyProof.Rows
/-- sorted of a set of texts -/
def rSetS (P : Program) (w : World) : List V → Hp → VK → Prop := fun vs H Q => ∃ (a : Addr) (l : List Str), vs = [V.ref a] ∧ H a = some (SetSO P w a l) ∧ l.length < 64 ∧
  ∀ ns p, sortedS ns = true → ns.Perm l → H p = none → Q (.ref p) (upd H p (.lst (ns.map V.str)))
theorem cr_setS {X : Cx} (hc : X.calm = true) : CallR X (.builtin "sorted") (rSetS X.prog X.w) := by
  intro pins s σ H vs us Q I r h
  obtain ⟨a, l, rfl, ha, h64, q⟩ := h
  rw [Vals.ref1 r]
  refine sorted_setS (I.hok a _ ha).1 (I.ok.hd hc) h64 fun z p out c ns k g o hp hg hi hs hm => ?_
  have hlen : (ns.map V.str).length ≤ sizeLine := by rw [List.length_map, hm.length_eq, sizeLine_eq]; omega
  have hn : H p = none := I.hok.fresh hp
  have J : Inv X pins σ (upd H p (.lst (ns.map V.str))) { s with heap := z.heap, gens := z.gens, drawn := z.drawn, toks := z.toks } :=
    I.call (ch := []) (Un.laid k hp hn) (I.hok.laid k hp ⟨hlen, out.toList, c, vals_of_strs hi, hg⟩) (by rw [g]; exact I.bare) (fun _ y => nomatch y)
  have e : z = { s with heap := z.heap, gens := z.gens, drawn := z.drawn, toks := z.toks } := by
    cases z; cases s; cases o; rfl
  rw [e]
  exact ⟨.ref p, _, J, rfl, q ns p hs hm hn⟩
theorem nodup_len {α : Type} [DecidableEq α] : ∀ {l m : List α}, l.Nodup → (∀ k ∈ l, k ∈ m) → l.length ≤ m.length
  | [], m, _, _ => Nat.zero_le _
  | k :: l, m, nd, h => by
    obtain ⟨n1, n2⟩ := List.nodup_cons.mp nd
    have hk := h k List.mem_cons_self
    have z := nodup_len (m := m.erase k) n2 fun j hj => (List.mem_erase_of_ne (fun z => n1 (by rw [← z]; exact hj))).mpr (h j (List.mem_cons_of_mem _ hj))
    rw [List.length_erase_of_mem hk] at z
    have := List.length_pos_of_mem hk
    rw [List.length_cons]
    omega
theorem insS_nd {k : Str} {l : List Str} (h : l.Nodup) : (insS k l).Nodup := by
  unfold insS
  split
  · exact h
  · rename_i n
    exact List.nodup_cons.mpr ⟨n, h⟩
theorem insS_mem {k j : Str} {l : List Str} : j ∈ insS k l ↔ j ∈ l ∨ j = k := by
  unfold insS
  split
  · rename_i n
    exact ⟨.inl, fun z => z.elim id fun e => by rw [e]; exact n⟩
  · rw [List.mem_cons]
    exact Or.comm
theorem upd_upd' {H : Hp} {p : Addr} {a b : HO} : upd (upd H p a) p b = upd H p b := by
  funext q
  by_cases e : q = p
  · subst e; rw [upd_same, upd_same]
  · rw [upd_ne e, upd_ne e, upd_ne e]
/-- tuples or lists of texts -/
def seqsD : List PyData → Option (List (List Str))
  | [] => some []
  | .tuple xs :: r => (strsD xs).bind fun ss => (seqsD r).map (ss :: ·)
  | .list xs :: r => (strsD xs).bind fun ss => (seqsD r).map (ss :: ·)
  | _ => none
def SqAt (K : PySem.W.Frag) (H : Hp) (v : V) (ss : List Str) : Prop := ∃ t, v = .ref t ∧ (SqT K H t (ss.map V.str) ∨ SqL K H t (ss.map V.str))
theorem sqL_fresh {K : PySem.W.Frag} {H : Hp} {D a : Addr} {o : HO} {xs : List V} (hD : H D = none) (h : SqL K H a xs) : SqL K (upd H D o) a xs := by
  rcases h with (h | ⟨u, h⟩) | h
  · exact .inl (.inl (by rw [upd_ne (ne_of_none h hD)]; exact h))
  · exact .inl (.inr ⟨u, by rw [upd_ne (ne_of_none h hD)]; exact h⟩)
  · exact .inr h
theorem seqs_paired {K : PySem.W.Frag} {H : Hp} {M : List Addr} : ∀ {vs : List V} {xs : List PyData} {nss : List (List Str)}, RepL K H M vs xs → seqsD xs = some nss → Paired (SqAt K H) vs nss
  | _, [], _, r, e => by cases e; cases r; exact .nil
  | _, x :: xs, nss, r, e => by
    have e : ∃ ys ss tt, (x = .tuple ys ∨ x = .list ys) ∧ strsD ys = some ss ∧ seqsD xs = some tt ∧ nss = ss :: tt := by
      cases x with
      | tuple ys =>
        have e : (strsD ys).bind (fun ss => (seqsD xs).map (ss :: ·)) = some _ := e
        cases q : strsD ys with
        | none => rw [q] at e; cases e
        | some ss =>
          rw [q] at e
          have e : (seqsD xs).map (ss :: ·) = some _ := e
          cases q2 : seqsD xs with
          | none => rw [q2] at e; cases e
          | some tt => rw [q2] at e; cases e; exact ⟨ys, ss, tt, .inl rfl, q, rfl, rfl⟩
      | list ys =>
        have e : (strsD ys).bind (fun ss => (seqsD xs).map (ss :: ·)) = some _ := e
        cases q : strsD ys with
        | none => rw [q] at e; cases e
        | some ss =>
          rw [q] at e
          have e : (seqsD xs).map (ss :: ·) = some _ := e
          cases q2 : seqsD xs with
          | none => rw [q2] at e; cases e
          | some tt => rw [q2] at e; cases e; exact ⟨ys, ss, tt, .inr rfl, q, rfl, rfl⟩
      | _ => cases e
    obtain ⟨ys, ss, tt, hx, q, q2, rfl⟩ := e
    cases r with
    | cons r0 r1 =>
      refine .cons ?_ (seqs_paired r1 q2)
      rcases hx with rfl | rfl
      · cases r0 with
        | tup ha rl => exact ⟨_, rfl, .inl (by rw [strsD_inv q] at rl; rw [← rl.strs]; exact ha)⟩
      · cases r0 with
        | lst hn ha rl => exact ⟨_, rfl, .inr (by rw [strsD_inv q] at rl; rw [← rl.strs]; exact SqL.of ha)⟩
theorem seqsD_of : ∀ ss : List (List Str), seqsD (ss.map tupS) = some ss
  | [] => rfl
  | s :: r => by
    show (strsD (s.map .str)).bind (fun ss => (seqsD (r.map tupS)).map (ss :: ·)) = _
    rw [seqsD_of r]
    have : ∀ ss : List Str, strsD (ss.map .str) = some ss := fun ss => by
      induction ss with
      | nil => rfl
      | cons a t ih => show (strsD (t.map .str)).map (a :: ·) = _; rw [ih]; rfl
    rw [this]
    rfl
def dUni (it : DE) : DE := ⟨it.m, fun ρ P R => it ρ (fun u _ ρ1 => ∃ (xs : List PyData) (nss : List (List Str)) (ks : List Str), (u = .d (.tuple xs) ∨ u = .d (.list xs)) ∧ seqsD xs = some nss ∧ (∀ n ∈ nss.flatten, n ∈ ks) ∧ ks.length < 64 ∧
  ∀ ms : List Str, sortedS ms = true → ms.Nodup → (∀ k, k ∈ ms ↔ k ∈ nss.flatten) → P (.d (.list (ms.map .str))) true ρ1) R⟩
theorem paired_get {α β : Type} {R : α → β → Prop} : ∀ {xs : List α} {ys : List β}, Paired R xs ys → ∀ (i : Nat) (x : α), xs[i]? = some x → ∃ y, ys[i]? = some y ∧ R x y
  | _, _, .nil, i, x, e => by simp at e
  | _, _, .cons r t, i, x, e => by
    cases i with
    | zero => simp at e; subst e; exact ⟨_, rfl, r⟩
    | succ i => exact paired_get t i x (by simpa using e)
theorem paired_len {α β : Type} {R : α → β → Prop} : ∀ {xs : List α} {ys : List β}, Paired R xs ys → xs.length = ys.length
  | _, _, .nil => rfl
  | _, _, .cons r t => by simp [paired_len t]
theorem take_flat {α : Type} {l : List (List α)} {i : Nat} {x : List α} (h : l[i]? = some x) : (l.take (i + 1)).flatten = (l.take i).flatten ++ x := by
  rw [List.take_add_one, h]
  simp
theorem uni_core {P : Program} {w : World} {K : PySem.W.Frag} {i j : Nat} {vs : List Nat} {σ : L2.St} {H1 : Hp} {xs : List V} {nss : List (List Str)} {ks : List Str} {Q : VK} {J : It} (hi : i < σ.length) (hj : j < σ.length) (hij : i ≠ j) (iv : i ∈ vs) (jv : j ∈ vs)
    (hx : Paired (SqAt K H1) xs nss) (hks : ∀ n ∈ nss.flatten, n ∈ ks) (h64 : ks.length < 64)
    (hJ : ∀ H, (∀ a ys, SqT K H1 a ys → SqT K H a ys) → (∀ D o, H = upd H1 D o → H1 D = none → (J.stop xs.length H) ∧ ∀ n, n < xs.length → J.go n H ∧ ∀ x H', J.yld n H x H' → H' = H ∧ xs[n]? = some x))
    (h : ∀ D l, H1 D = none → l.Nodup → (∀ k, k ∈ l ↔ k ∈ nss.flatten) → Q (.ref D) (upd H1 D (SetSO P w D l))) :
    ∀ D, H1 D = none → ∃ U : Nat → Nat → Hp → Prop, (∃ m, U 0 m (upd H1 D (SetSO P w D []))) ∧ ∀ n m H, U n m H →
  (J.stop n H ∧ Q (.ref D) H) ∨ (J.go n H ∧ ∃ Nx : Hp → Prop, (∀ H', Nx H' → ∃ m', m' < m ∧ U (n + 1) m' H') ∧ ∀ x H', J.yld n H x H' → gB K [i] false x (wipe σ vs) H' fun σ2 H2 => wipe σ2 vs = wipe σ vs ∧ tYes σ2 H2 fun b H3 =>
    if b = true then iSeq K (tVar i) σ2 H3 fun J1 H4 => ∃ U1 : Nat → Nat → Hp → Prop, (∃ m, U1 0 m H4) ∧ ∀ n1 k H, U1 n1 k H →
      (J1.stop n1 H ∧ Nx H) ∨ (J1.go n1 H ∧ ∃ Ny : Hp → Prop, (∀ H', Ny H' → ∃ k', k' < k ∧ U1 (n1 + 1) k' H') ∧ ∀ x H', J1.yld n1 H x H' → gB K [j] false x (wipe σ2 [j]) H' fun σ3 H5 => wipe σ3 [j] = wipe σ2 [j] ∧ tYes σ3 H5 fun b H6 =>
        if b = true then tVar j σ3 H6 fun y H7 => ∃ z l, y = .str z ∧ H7 D = some (SetSO P w D l) ∧ l.length + 1 < scanBound ∧ Ny (upd H7 D (SetSO P w D (insS z l))) else Ny H6)
    else Nx H3) := by
  intro D hD
  have kp : ∀ {o : HO} {a : Addr} {ys : List V}, SqT K H1 a ys → SqT K (upd H1 D o) a ys := fun h => (Kp.fresh (M := []) hD).sqT h
  have bnd : ∀ {l : List Str}, l.Nodup → (∀ k, k ∈ l → k ∈ nss.flatten) → l.length + 1 < scanBound := fun nd hm => by
    have z := nodup_len (m := ks) nd fun k hk => hks k (hm k hk)
    have z2 : 65 < scanBound := by decide
    omega
  have hlen := paired_len hx
  refine ⟨fun n m H => m = xs.length - n ∧ n ≤ xs.length ∧ ∃ l, H = upd H1 D (SetSO P w D l) ∧ l.Nodup ∧ ∀ k, k ∈ l ↔ k ∈ (nss.take n).flatten, ⟨xs.length, by simp, Nat.zero_le _, [], rfl, List.nodup_nil, fun k => by simp⟩, ?_⟩
  rintro n m H ⟨rfl, hn, l, rfl, nd, hm⟩
  obtain ⟨st, gos⟩ := hJ _ (fun a ys q => kp q) D _ rfl hD
  by_cases hlt : n < xs.length
  · obtain ⟨go, yl⟩ := gos n hlt
    refine .inr ⟨go, fun H' => ∃ l, H' = upd H1 D (SetSO P w D l) ∧ l.Nodup ∧ ∀ k, k ∈ l ↔ k ∈ (nss.take (n + 1)).flatten, fun H' q => ⟨xs.length - (n + 1), by omega, rfl, hlt, q⟩, fun x H' y => ?_⟩
    obtain ⟨rfl, hx0⟩ := yl x H' y
    obtain ⟨ss, hss, t, rfl, ht⟩ := paired_get hx n x hx0
    have kl : ∀ {o : HO} {a : Addr} {ys : List V}, SqL K H1 a ys → SqL K (upd H1 D o) a ys := fun h => sqL_fresh hD h
    have li : i < (wipe σ vs).length := by rw [wipe_length]; exact hi
    have e2 : ∀ {q : Nat} {v : V} {τ : L2.St} {us : List Nat}, q ∈ us → wipe (τ.set q (some v)) us = wipe τ us := fun {q v τ us} hq => by
      refine List.ext_getElem? fun a => ?_
      rw [wipe_at, wipe_at, List.length_set]
      by_cases c : a ∈ us ∧ a < τ.length
      · rw [if_pos c, if_pos c]
      · rw [if_neg c, if_neg c]
        by_cases e : q = a
        · subst e
          have lt : ¬ q < τ.length := fun z => c ⟨hq, z⟩
          rw [List.getElem?_eq_none (by rw [List.length_set]; omega), List.getElem?_eq_none (by omega)]
        · rw [List.getElem?_set_ne e]
    have ww : ∀ {us : List Nat}, wipe (wipe σ us) us = wipe σ us := fun {us} => by
      refine List.ext_getElem? fun a => ?_
      rw [wipe_at, wipe_length, wipe_at]
      by_cases c : a ∈ us ∧ a < σ.length
      · rw [if_pos c, if_pos c]
      · rw [if_neg c, if_neg c]
    refine ⟨by rw [e2 iv, ww], ?_⟩
    unfold tYes
    dsimp only
    rw [if_pos rfl]
    rcases ht with ht | ht
    · refine ⟨.ref t, by rw [List.getElem?_set_self li], .inr (.inl ⟨t, ss.map V.str, rfl, kp ht, fun _ => ?_⟩)⟩
      refine ⟨fun n1 k H => k = ss.length - n1 ∧ n1 ≤ ss.length ∧ ∃ l, H = upd H1 D (SetSO P w D l) ∧ l.Nodup ∧ ∀ k, k ∈ l ↔ k ∈ (nss.take n).flatten ++ ss.take n1, ⟨ss.length, by simp, Nat.zero_le _, l, rfl, nd, fun k => by simpa using hm k⟩, ?_⟩
      rintro n1 k H ⟨rfl, hn1, l1, rfl, nd1, hm1⟩
      by_cases hlt1 : n1 < ss.length
      · have g1 : ss[n1]? = some ss[n1] := by simp [hlt1]
        generalize ss[n1] = z at g1
        have gv : (ss.map V.str)[n1]? = some (.str z) := by rw [List.getElem?_map, g1]; rfl
        refine .inr ⟨⟨ss.map V.str, .str z, kp ht, gv⟩, fun H' => ∃ l, H' = upd H1 D (SetSO P w D l) ∧ l.Nodup ∧ ∀ k, k ∈ l ↔ k ∈ (nss.take n).flatten ++ ss.take (n1 + 1), fun H' q => ⟨ss.length - (n1 + 1), by omega, rfl, hlt1, q⟩, fun x H' y => ?_⟩
        obtain ⟨rfl, y2⟩ := y
        have y3 := y2 _ (kp ht)
        rw [gv] at y3
        cases y3
        refine ⟨e2 List.mem_cons_self |>.trans ?_, ?_⟩
        · refine List.ext_getElem? fun a => ?_
          rw [wipe_at, wipe_length, wipe_at]
          by_cases c : a ∈ [j] ∧ a < ((wipe σ vs).set i (some (V.ref t))).length
          · rw [if_pos c, if_pos c]
          · rw [if_neg c, if_neg c]
        · dsimp only
          rw [if_pos rfl]
          refine ⟨.str z, by rw [List.getElem?_set_self (by rw [wipe_length, List.length_set, wipe_length]; exact hj)], z, l1, rfl, upd_same, bnd nd1 fun k hk => ?_, insS z l1, upd_upd', insS_nd nd1, fun k => ?_⟩
          · have hk := (hm1 k).mp hk
            rw [← List.take_append_drop (n + 1) nss, List.flatten_append, take_flat hss]
            rcases List.mem_append.mp hk with q | q
            · exact List.mem_append_left _ (List.mem_append_left _ q)
            · exact List.mem_append_left _ (List.mem_append_right _ (List.mem_of_mem_take q))
          · rw [insS_mem, hm1 k, List.take_add_one, g1]
            simp [or_assoc]
      · have e : n1 = ss.length := by omega
        subst e
        refine .inl ⟨⟨ss.map V.str, kp ht, by simp⟩, l1, rfl, nd1, fun k => ?_⟩
        rw [hm1 k, take_flat hss, List.take_length]
    · refine ⟨.ref t, by rw [List.getElem?_set_self li], .inl ⟨t, ss.map V.str, rfl, kl ht, fun _ => ?_⟩⟩
      refine ⟨fun n1 k H => k = ss.length - n1 ∧ n1 ≤ ss.length ∧ ∃ l, H = upd H1 D (SetSO P w D l) ∧ l.Nodup ∧ ∀ k, k ∈ l ↔ k ∈ (nss.take n).flatten ++ ss.take n1, ⟨ss.length, by simp, Nat.zero_le _, l, rfl, nd, fun k => by simpa using hm k⟩, ?_⟩
      rintro n1 k H ⟨rfl, hn1, l1, rfl, nd1, hm1⟩
      by_cases hlt1 : n1 < ss.length
      · have g1 : ss[n1]? = some ss[n1] := by simp [hlt1]
        generalize ss[n1] = z at g1
        have gv : (ss.map V.str)[n1]? = some (.str z) := by rw [List.getElem?_map, g1]; rfl
        refine .inr ⟨⟨ss.map V.str, .str z, kl ht, gv⟩, fun H' => ∃ l, H' = upd H1 D (SetSO P w D l) ∧ l.Nodup ∧ ∀ k, k ∈ l ↔ k ∈ (nss.take n).flatten ++ ss.take (n1 + 1), fun H' q => ⟨ss.length - (n1 + 1), by omega, rfl, hlt1, q⟩, fun x H' y => ?_⟩
        obtain ⟨rfl, y2⟩ := y
        have y3 := y2 _ (kl ht)
        rw [gv] at y3
        cases y3
        refine ⟨e2 List.mem_cons_self |>.trans ?_, ?_⟩
        · refine List.ext_getElem? fun a => ?_
          rw [wipe_at, wipe_length, wipe_at]
          by_cases c : a ∈ [j] ∧ a < ((wipe σ vs).set i (some (V.ref t))).length
          · rw [if_pos c, if_pos c]
          · rw [if_neg c, if_neg c]
        · dsimp only
          rw [if_pos rfl]
          refine ⟨.str z, by rw [List.getElem?_set_self (by rw [wipe_length, List.length_set, wipe_length]; exact hj)], z, l1, rfl, upd_same, bnd nd1 fun k hk => ?_, insS z l1, upd_upd', insS_nd nd1, fun k => ?_⟩
          · have hk := (hm1 k).mp hk
            rw [← List.take_append_drop (n + 1) nss, List.flatten_append, take_flat hss]
            rcases List.mem_append.mp hk with q | q
            · exact List.mem_append_left _ (List.mem_append_left _ q)
            · exact List.mem_append_left _ (List.mem_append_right _ (List.mem_of_mem_take q))
          · rw [insS_mem, hm1 k, List.take_add_one, g1]
            simp [or_assoc]
      · have e : n1 = ss.length := by omega
        subst e
        refine .inl ⟨⟨ss.map V.str, kl ht, by simp⟩, l1, rfl, nd1, fun k => ?_⟩
        rw [hm1 k, take_flat hss, List.take_length]
  · have e : n = xs.length := by omega
    subst e
    refine .inl ⟨st, h D l hD nd fun k => ?_⟩
    rw [hm k, hlen, List.take_length]
section
variable {Wp : Wk → Prop} {E : XK} {X : Cx} {ea : Expr} {da : DE} {pos p2 p3 q0 q1 q2 q3 : Pos} {y1 y2 y3 y4 : Str} {scope : Scope}
theorem jUni (g : Gx X) (i j : Nat) {own : List (Str × Nat)} (ja : JE Wp E X ea da) (ok : BlkOk X.N X.env.scope scope own) (hij : i ≠ j) (iv : i ∈ own.map (·.2)) (jv : j ∈ own.map (·.2))
    (h1 : ∀ (s : Shared) (H : Hp) (C : Addr) (cl : List (Str × Addr)) (fp : List Addr), PG (X.blk s H scope (compEnvC scope cl C X.env) fp) (.Name y1 q1) (gB X.K [i] false))
    (h2 : ∀ (s : Shared) (H : Hp) (C : Addr) (cl : List (Str × Addr)) (fp : List Addr), PE (X.blk s H scope (compEnvC scope cl C X.env) fp) (.Name y2 q2) (tVar i))
    (h3 : ∀ (s : Shared) (H : Hp) (C : Addr) (cl : List (Str × Addr)) (fp : List Addr), PG (X.blk s H scope (compEnvC scope cl C X.env) fp) (.Name y3 q3) (gB X.K [j] false))
    (h4 : ∀ (s : Shared) (H : Hp) (C : Addr) (cl : List (Str × Addr)) (fp : List Addr), PE (X.blk s H scope (compEnvC scope cl C X.env) fp) (.Name y4 q0) (tVar j))
    (hm : X.mg "sorted" = none) (hg : Gl X "sorted") (hs : starEach [sc2 (.Name y4 q0) (.Name y1 q1) ea (.Name y3 q3) (.Name y2 q2) [] [] scope p3] X.env = (false, eval (sc2 (.Name y4 q0) (.Name y1 q1) ea (.Name y3 q3) (.Name y2 q2) [] [] scope p3) X.env) :: starEach [] X.env)
    (hpl : (backTo pos (starEach [] X.env)).any (·.1) = false) (f1 : ∀ x, foldedSetIterable ea X.env x = pure x) :
    JE Wp E X (.Call (.Name "sorted" p2) [sc2 (.Name y4 q0) (.Name y1 q1) ea (.Name y3 q3) (.Name y2 q2) [] [] scope p3] [] pos) (dUni da) := by
  refine (pe_callB (cr_setS g.calm) hg hm (by rfl) (pa_cons (pe_sc2 g.calm g.nd ok (us := [j]) (wi := iSeq X.K (tVar i)) (fun a z => by rw [List.mem_singleton.mp z]; exact jv) (pi_seq ja) h1 (fun _ _ _ _ _ => pts_nil) (fun s H C cl fp => pi_seq (h2 s H C cl fp)) h3 (fun _ _ _ _ _ => pts_nil) h4 f1) pa_nil hs) (by decide) (by decide) hs hpl).weakI fun pins s σ H Q I ⟨W, B, M0, ρ, M, P, R, w, G, d, x, h⟩ => ?_
  have li : i < σ.length := by rw [I.len]; exact own_lt ok iv
  have lj : j < σ.length := by rw [I.len]; exact own_lt ok jv
  refine lE_go w G d x fun u fr ρ1 v H1 M1 c r => ?_
  obtain ⟨xs, nss, ks, hu, e, hk, h64, c⟩ := c
  have fin : ∀ D l, H1 D = none → l.Nodup → (∀ k, k ∈ l ↔ k ∈ nss.flatten) → rSetS X.prog X.w [V.ref D] (upd H1 D (SetSO X.prog X.w D l)) Q := fun D l hD nd hm => by
    refine ⟨D, l, rfl, upd_same, Nat.lt_of_le_of_lt (nodup_len (m := ks) nd fun k z => hk k ((hm k).mp z)) h64, fun ns p a1 a2 hp => ?_⟩
    exact h _ _ _ _ _ _ (c ns a1 (a2.nodup_iff.mpr nd) fun k => a2.mem_iff.trans (hm k)) (Res.new (r.gd.grow hD) hp (RepL.of_strs ns))
  rcases hu with rfl | rfl
  · cases (r.val rfl) with
    | tup ha q =>
      rename_i a vs
      refine .inr (.inl ⟨a, vs, rfl, ha, fun _ => ?_⟩)
      refine uni_core (P := X.prog) (w := X.w) (Q := fun v H2 => rSetS X.prog X.w [v] H2 Q) (J := Itt X.K a) li lj hij iv jv (seqs_paired q e) hk h64 (fun H kp D o hH hD => ⟨⟨vs, kp _ _ ha, Nat.le_refl _⟩, fun n hn => ⟨⟨vs, vs[n], kp _ _ ha, by simp [hn]⟩, fun x H' y => ?_⟩⟩) fin
      obtain ⟨e1, e2⟩ := y
      exact ⟨e1, e2 vs (kp _ _ ha)⟩
  · cases (r.val rfl) with
    | lst hn0 ha q =>
      rename_i a vs
      have hq : ∀ {H : Hp} {D : Addr} {o : HO}, H = upd H1 D o → H1 D = none → SqL X.K H a vs := fun e0 hD => by
        refine SqL.of ?_
        rw [e0, upd_ne fun z => by rw [z, hD] at ha; cases ha]
        exact ha
      refine .inl ⟨a, vs, rfl, SqL.of ha, fun _ => ?_⟩
      refine uni_core (P := X.prog) (w := X.w) (Q := fun v H2 => rSetS X.prog X.w [v] H2 Q) (J := Itl X.K a) li lj hij iv jv (seqs_paired q e) hk h64 (fun H kp D o hH hD => ⟨⟨vs, hq hH hD, Nat.le_refl _⟩, fun n hn => ⟨⟨vs, vs[n], hq hH hD, by simp [hn]⟩, fun x H' y => ?_⟩⟩) fin
      obtain ⟨e1, e2⟩ := y
      exact ⟨e1, e2 vs (hq hH hD)⟩
theorem qTV (i : Nat) (hN : X.N[i]? = some y1 := by rfl) (hv : Vis X.env.scope y1 := by first | exact Or.inl rfl | exact Or.inr (Or.inl rfl) | exact Or.inr (Or.inr rfl)) (hd : (y1 == ("__debug__" : Str)) = false := by decide)
    (hcd : (y1 == ("__classdict__" : Str)) = false := by decide) : PE X (.Name y1 pos) (tVar i) := pe_var hN hv hd hcd
theorem qUni (i j : Nat) (own : List (Str × Nat)) (g : Gx X) (hm : X.mg "sorted" = none) (ja : JE Wp E X ea da)
    (h1 : ∀ (s : Shared) (H : Hp) (C : Addr) (cl : List (Str × Addr)) (fp : List Addr), PG (X.blk s H scope (compEnvC scope cl C X.env) fp) (.Name y1 q1) (gB X.K [i] false))
    (h2 : ∀ (s : Shared) (H : Hp) (C : Addr) (cl : List (Str × Addr)) (fp : List Addr), PE (X.blk s H scope (compEnvC scope cl C X.env) fp) (.Name y2 q2) (tVar i))
    (h3 : ∀ (s : Shared) (H : Hp) (C : Addr) (cl : List (Str × Addr)) (fp : List Addr), PG (X.blk s H scope (compEnvC scope cl C X.env) fp) (.Name y3 q3) (gB X.K [j] false))
    (h4 : ∀ (s : Shared) (H : Hp) (C : Addr) (cl : List (Str × Addr)) (fp : List Addr), PE (X.blk s H scope (compEnvC scope cl C X.env) fp) (.Name y4 q0) (tVar j)) (ok : blkC X.N X.env.scope scope own = true) (hij : i ≠ j := by decide) (iv : i ∈ own.map (·.2) := by decide) (jv : j ∈ own.map (·.2) := by decide)
    (hg : Gl X "sorted" := by rfl) (hs : starEach [sc2 (.Name y4 q0) (.Name y1 q1) ea (.Name y3 q3) (.Name y2 q2) [] [] scope p3] X.env = (false, eval (sc2 (.Name y4 q0) (.Name y1 q1) ea (.Name y3 q3) (.Name y2 q2) [] [] scope p3) X.env) :: starEach [] X.env := by rfl)
    (hpl : (backTo pos (starEach [] X.env)).any (·.1) = false := by rfl) (f1 : ∀ x, foldedSetIterable ea X.env x = pure x := by intro _; rfl) :
    JE Wp E X (.Call (.Name "sorted" p2) [sc2 (.Name y4 q0) (.Name y1 q1) ea (.Name y3 q3) (.Name y2 q2) [] [] scope p3] [] pos) (dUni da) := jUni g i j ja (blkOk_by ok) hij iv jv h1 h2 h3 h4 hm hg hs hpl f1
end
end G9

/-! T1: sets of tuples of texts: search, add. -/
namespace G9
open PySem PySem.Spec L2 PyProof.Rows
/-- a tuple of these texts stands at a -/
abbrev TkS (P : Program) (w : World) (h : Heap) (k : List Str) (a : Addr) : Prop := IsTupleKey (PySem.strKind P w) h k a
abbrev hsT (P : Program) (w : World) (k : List Str) : Int := tupleKeyHash (PySem.strKind P w) k
abbrev stp (m : Nat) (h : Int) (c : Nat) : SetTable.Probe := nth m (runAt m (SetTable.bits h % (m + 1)) (SetTable.bits h)) c
theorem nth_dm {m : Nat} : ∀ (n : Nat) {p : SetTable.Probe}, p.dummy = none → (nth m p n).dummy = none
  | 0, _, h => h
  | n + 1, p, h => nth_dm n (by
    show (adv m p).dummy = none
    unfold adv
    split
    · exact h
    · exact h)
abbrev rwsT (P : Program) (w : World) (L : List (Addr × List Str)) : List (Int × Value) := L.map fun p => (hsT P w p.2, Value.ref p.1)
/-- at a: a set of the tuples L -/
structure TT (P : Program) (w : World) (h : Heap) (a : Addr) (L : List (Addr × List Str)) (es : Array (Int × Value)) (ep : Nat) (t : SetTable) : Prop where
  obj : ∃ o, h.get? a = some o ∧ o.ExactSet ∧ o.data = .set es ep t
  rws : es.toList = rwsT P w L
  tb : TabOk t (L.map fun p => hsT P w p.2)
  uq : (L.map (·.2)).Nodup
  mem : ∀ p ∈ L, TkS P w h p.2 p.1
  sd : w.params.followText "set-order" = true ∨ t.led = true
  rm : L.length * 5 < t.mask * 3
  fw : L.length < 64
section
variable {P : Program} {w : World} {A : Around} {E : Value → Shared → Prop} {s : Shared}
theorem cls_str (n : Nat) (x : Str) (t : Tok) : ofAClassStatement n (.str x t) = pure false := by cases n <;> rfl
theorem hbv_str (n : Nat) (x : Str) (t : Tok) : hashByValue n (.str x t) = pure false := by cases n <;> rfl
theorem its_str {k : List Str} {vs : List Value} (h : ItemsAre (PySem.strKind P w) k vs) : ∀ v ∈ vs, ∃ x t, v = Value.str x t := by
  induction h with
  | nil => exact fun _ q => nomatch q
  | cons r _ ih =>
    intro v hv
    rcases List.mem_cons.mp hv with rfl | hv
    · obtain ⟨t, e⟩ := Value.isStrOf_shape r
      exact ⟨_, t, e⟩
    · exact ih v hv
theorem cls_tup {k : List Str} {b : Addr} {Q : Bool → Shared → Prop} (hk : TkS P w s.heap k b) (h : Q false s) : wpAny (model P w) A (ofAClassStatement 8 (.ref b)) Q E s := by
  have ty := hk.typeIs
  obtain ⟨o, its, n, ho, _, hd, hi⟩ := hk
  unfold ofAClassStatement
  refine wpAny_bind (wpAny_typeOf ty ?_)
  dsimp only
  have e : (("tuple" : String) == "tuple") = true := by decide
  simp only [e, if_true, Bool.not_true, Bool.false_eq_true, if_false]
  try refine wpAny_bind (wpAny_pure ?_)
  try simp only [Bool.not_true, Bool.false_eq_true, if_false]
  show wpAny _ _ (seqItems? (.ref b) >>= _) _ _ s
  refine wpAny_bind (wpAny_seqItems ho hd ?_)
  dsimp only
  refine wpAny_bind ?_
  show wpAny _ _ (forIn its _ _) _ _ s
  rw [← Array.forIn_toList]
  refine wpAny_forIn_list _ (fun l r z => r.1 = none ∧ z = s ∧ ∀ v ∈ l, ∃ x t, v = Value.str x t) _ (fun v l r z ⟨hr, hz, q⟩ => ?_) (fun r z ⟨hr, hz, _⟩ => ?_) _ _ ⟨rfl, rfl, its_str hi⟩
  · obtain ⟨x, t, rfl⟩ := q v List.mem_cons_self
    rw [cls_str]
    refine wpAny_bind (wpAny_pure ?_)
    simp only [Bool.false_eq_true, if_false]
    exact wpAny_pure ⟨rfl, hz, fun u hu => q u (List.mem_cons_of_mem _ hu)⟩
  · obtain ⟨r1, r2⟩ := r
    cases (show r1 = none from hr)
    subst hz
    exact wpAny_pure h
theorem hbv_tup {k : List Str} {b : Addr} {Q : Bool → Shared → Prop} (hk : TkS P w s.heap k b) (h : ∀ c, Q c s) : wpAny (model P w) A (hashByValue 8 (.ref b)) Q E s := by
  have ty := hk.typeIs
  obtain ⟨o, its, n, ho, _, hd, hi⟩ := hk
  unfold hashByValue
  refine wpAny_bind (wpAny_specialOf ty PySem.F.slot_tuple_hash.lookup ?_)
  show wpAny _ _ (seqItems? (.ref b) >>= _) _ _ s
  refine wpAny_bind (wpAny_seqItems ho hd ?_)
  refine wpAny_bind ?_
  show wpAny _ _ (forIn its _ _) _ _ s
  rw [← Array.forIn_toList]
  refine wpAny_forIn_list _ (fun l r z => r.1 = none ∧ z = s ∧ ∀ v ∈ l, ∃ x t, v = Value.str x t) _ (fun v l r z ⟨hr, hz, q⟩ => ?_) (fun r z ⟨hr, hz, _⟩ => ?_) _ _ ⟨rfl, rfl, its_str hi⟩
  · obtain ⟨x, t, rfl⟩ := q v List.mem_cons_self
    rw [hbv_str]
    refine wpAny_bind (wpAny_pure ?_)
    simp only [Bool.not_false, if_true]
    subst hz
    exact wpAny_pure (wpAny_pure (h false))
  · obtain ⟨r1, r2⟩ := r
    cases (show r1 = none from hr)
    subst hz
    exact wpAny_pure (h true)
theorem see_tup {k : List Str} {b : Addr} {Q : Bool → Shared → Prop} (hk : TkS P w s.heap k b) {ys : List Value} (hy : ∀ y ∈ ys, ∃ k' c, y = Value.ref c ∧ TkS P w s.heap k' c) (h : Q false s) :
    wpAny (model P w) A (searchCouldBeSeen (.ref b) ys) Q E s := by
  unfold searchCouldBeSeen
  refine wpAny_bind ?_
  refine wpAny_forIn_list _ (fun l r z => r.1 = none ∧ z = s ∧ ∀ y ∈ l, ∃ k' c, y = Value.ref c ∧ TkS P w s.heap k' c) _ (fun v l r z ⟨hr, hz, q⟩ => ?_) (fun r z ⟨hr, hz, _⟩ => ?_) _ _ ⟨rfl, rfl, hy⟩
  · obtain ⟨k', c, rfl, hc⟩ := q v List.mem_cons_self
    have q' : ∀ y ∈ l, ∃ k' c, y = Value.ref c ∧ TkS P w s.heap k' c := fun u hu => q u (List.mem_cons_of_mem _ hu)
    subst hz
    dsimp only
    by_cases hv : (b == c || (carriedByValue (.ref b) && carriedByValue (.ref c))) = true
    · exact wp_if_pos hv (wpAny_pure ⟨rfl, rfl, q'⟩)
    · refine wp_if_neg hv (wpAny_bind (wpAny_eqIsQuiet_tuple hk ?_))
      simp only [Bool.not_true, Bool.false_eq_true, if_false]
      refine wpAny_bind (wpAny_eqIsQuiet_tuple hc ?_)
      simp only [Bool.not_true, Bool.false_eq_true, if_false]
      refine wpAny_bind (cls_tup hk ?_)
      simp only [Bool.false_eq_true, if_false]
      refine wpAny_bind (cls_tup hc ?_)
      simp only [Bool.false_eq_true, if_false]
      exact wpAny_pure ⟨rfl, rfl, q'⟩
  · obtain ⟨r1, r2⟩ := r
    cases (show r1 = none from hr)
    subst hz
    exact wpAny_pure h
variable {a : Addr} {L : List (Addr × List Str)} {es : Array (Int × Value)} {ep : Nat} {t : SetTable}
theorem rws_len {L : List (Addr × List Str)} {es : Array (Int × Value)} (h : es.toList = rwsT P w L) : es.size = L.length := by
  have z := congrArg List.length h
  rw [List.length_map, Array.length_toList] at z
  exact z
theorem TT.fit (R : TT P w s.heap a L es ep t) : t.fits es.size = true := by
  have h1 := R.tb.sz
  rw [List.length_map] at h1
  have h2 := rws_len R.rws
  have h3 := R.rm
  have h4 : t.place.size + 0 ≤ t.mask := by omega
  have h5 : t.place.size = es.size := by omega
  unfold SetTable.fits SetTable.fill
  rw [R.tb.dm, h5] at *
  simp only [Array.size_empty, beq_self_eq_true, Bool.true_and, decide_eq_true_eq]
  omega
theorem TT.ent (R : TT P w s.heap a L es ep t) {i : Nat} {p : Addr × List Str} (h : L[i]? = some p) : es[i]? = some (hsT P w p.2, Value.ref p.1) := by
  rw [← Array.getElem?_toList, R.rws, List.getElem?_map, h]
  rfl
theorem TT.hAt (R : TT P w s.heap a L es ep t) {i : Nat} {p : Addr × List Str} (h : L[i]? = some p) : (es[i]?.map (·.1)).getD 0 = hsT P w p.2 := by
  rw [R.ent h]
  rfl
theorem TT.gw (R : TT P w s.heap a L es ep t) : ¬ t.gaveWay = true := by
  unfold SetTable.gaveWay
  rw [mask_odd R.tb.mok]
  decide
/-- the search from the c-th step on -/
theorem srchT (R : TT P w s.heap a L es ep t) {x : Addr} {k : List Str} (hx : TkS P w s.heap k x) (hu : A.units < cLine) {K : Nat} (hf : K < 10 * SetTable.turns t.mask) (hK : way t.mask (hsT P w k) K ∉ t.place.toList)
    (hb : ∀ c, c < K → way t.mask (hsT P w k) c ∈ t.place.toList) {Q : SetFound → Shared → Prop} (h1 : k ∈ L.map (·.2) → Q (.there none) s) (h0 : k ∉ L.map (·.2) → Q (.free (way t.mask (hsT P w k) K) false) s) :
    ∀ (f c : Nat) (st : Option SetTable.Probe), st.getD (t.probeStart (hsT P w k)) = stp t.mask (hsT P w k) c → c ≤ K → K - c < f →
      (∀ (i : Nat) p, L[i]? = some p → p.2 = k → ∃ c', c ≤ c' ∧ c' < K ∧ t.place.toList[i]? = some (way t.mask (hsT P w k) c')) → wpAny (model P w) A (setSearchFrom a (.ref x) (hsT P w k) true f st) Q E s
  | 0, _, _, _, _, z, _ => absurd z (Nat.not_lt_zero _)
  | f + 1, c, st, e0, hc, hf1, hre => by
    obtain ⟨o, ho, hex, hd⟩ := R.obj
    rw [setSearchFrom_succ]
    refine wpAny_bind (wpAny_setState_of ho hd R.fit ?_)
    dsimp only
    refine wp_if_neg R.gw ?_
    try refine wpAny_bind (wpAny_pure ?_)
    have sh : ∀ q, nth t.mask (stp t.mask (hsT P w k) c) q = stp t.mask (hsT P w k) (c + q) := fun q => (nth_add t.mask c _ q).symm
    have e1 : ∀ q, (nth t.mask (stp t.mask (hsT P w k) c) q).j = way t.mask (hsT P w k) (c + q) := fun q => congrArg SetTable.Probe.j (sh q)
    have eK : c + (K - c) = K := by omega
    rcases go_spec t R.tb.ris R.tb.dm (fun i => (es[i]?.map (·.1)).getD 0) (hsT P w k) (10 * SetTable.turns t.mask) (K - c) (stp t.mask (hsT P w k) c) (nth_dm c rfl) (by omega)
      (fun q hq => by rw [e1]; exact hb (c + q) (by omega)) (by rw [e1, eK]; exact hK) with ⟨q, i, hq, hi, hh, hno, hp⟩ | ⟨hno, hp⟩
    · rw [e1] at hi
      have hp' : t.probe (fun i => (es[i]?.map (·.1)).getD 0) (hsT P w k) (st.getD (t.probeStart (hsT P w k))) = some (.candidate (way t.mask (hsT P w k) (c + q)) i (stp t.mask (hsT P w k) (c + (q + 1)))) := by
        rw [e0, ← e1, ← sh]
        exact hp
      rw [hp']
      dsimp only
      have il : i < L.length := by
        have z1 := (List.getElem?_eq_some_iff.mp hi).1
        have z2 := R.tb.sz
        rw [Array.length_toList] at z1
        rw [List.length_map] at z2
        omega
      obtain ⟨p, hpi⟩ : ∃ p, L[i]? = some p := ⟨_, List.getElem?_eq_getElem il⟩
      have pm : p ∈ L := List.mem_of_getElem? hpi
      have go : wpAny (model P w) A (searchRest a (.ref x) (hsT P w k) true f es t (way t.mask (hsT P w k) (c + q)) i (stp t.mask (hsT P w k) (c + (q + 1)))) Q E s := by
        unfold searchRest
        rw [R.ent hpi]
        dsimp only
        refine wpAny_bind (wpAny_holding (wpAny_eqBool_tuple hu (R.mem p pm) hx (wpAny_bind (wpAny_setState_of ho hd R.fit ?_))))
        dsimp only
        by_cases hk : p.2 = k
        · exact wp_if_pos (by simp [hk]) (wpAny_pure (h1 (List.mem_map.mpr ⟨p, pm, hk⟩)))
        · refine wp_if_neg (by simp [hk]) ?_
          try refine wpAny_bind (wpAny_pure ?_)
          rw [sameMem]
          dsimp only
          have hs : t.slot (way t.mask (hsT P w k) (c + q)) = .live i := slot_live R.tb.ris hi
          simp only [if_true, hs, R.ent hpi]
          refine wpAny_bind (wpAny_isSame_ref_self (wpAny_bind (wpAny_pure ?_)))
          simp only [if_true]
          refine wp_if_neg (by simp [hk]) (srchT R hx hu hf hK hb h1 h0 f (c + (q + 1)) _ rfl (by omega) (by omega) fun j p0 hj hk0 => ?_)
          obtain ⟨c', a1, a2, a3⟩ := hre j p0 hj hk0
          refine ⟨c', ?_, a2, a3⟩
          rcases Nat.lt_trichotomy c' (c + q) with z | z | z
          · refine absurd ((R.hAt hj).trans (congrArg (hsT P w) hk0)) (hno (c' - c) j (by omega) ?_)
            rw [e1, show c + (c' - c) = c' by omega]
            exact a3
          · rw [z] at a3
            have s0 := slot_live R.tb.ris a3
            rw [hs] at s0
            injection s0 with s0
            rw [← s0, hpi] at hj
            cases hj
            exact absurd hk0 hk
          · omega
      by_cases hl : t.led = true
      · refine wp_if_neg (by simp [hl]) ?_
        try refine wpAny_bind (wpAny_pure ?_)
        exact go
      · refine wp_if_pos (by simp [hl]) (wpAny_bind (see_tup hx (fun y hy => ?_) ?_))
        · obtain ⟨e, he, rfl⟩ := List.mem_map.mp hy
          have he1 : e ∈ es ∧ e.1 = hsT P w k := by simpa using he
          have he2 : e ∈ es.toList := by simpa using he1.1
          rw [R.rws] at he2
          obtain ⟨p2, hp2, rfl⟩ := List.mem_map.mp he2
          exact ⟨p2.2, p2.1, rfl, R.mem p2 hp2⟩
        · refine wp_if_neg (by decide) ?_
          try refine wpAny_bind (wpAny_pure ?_)
          exact go
    · have hp' : t.probe (fun i => (es[i]?.map (·.1)).getD 0) (hsT P w k) (st.getD (t.probeStart (hsT P w k))) = some (.empty (way t.mask (hsT P w k) K) none) := by
        have e2 := e1 (K - c)
        rw [eK] at e2
        rw [e0, ← e2]
        exact hp
      rw [hp']
      dsimp only
      refine wpAny_pure (h0 fun hm => ?_)
      obtain ⟨p0, hp0, hk0⟩ := List.mem_map.mp hm
      obtain ⟨j, hj⟩ := List.mem_iff_getElem?.mp hp0
      obtain ⟨c', a1, a2, a3⟩ := hre j p0 hj hk0
      refine absurd ((R.hAt hj).trans (congrArg (hsT P w) hk0)) (hno (c' - c) j (by omega) ?_)
      rw [e1, show c + (c' - c) = c' by omega]
      exact a3
theorem srchAt (R : TT P w s.heap a L es ep t) {x : Addr} {k : List Str} (hx : TkS P w s.heap k x) (hu : A.units < cLine) {Q : SetFound → Shared → Prop} (h1 : k ∈ L.map (·.2) → Q (.there none) s)
    (h0 : ∀ K, k ∉ L.map (·.2) → way t.mask (hsT P w k) K ∉ t.place.toList → (∀ c, c < K → way t.mask (hsT P w k) c ∈ t.place.toList) → Q (.free (way t.mask (hsT P w k) K) false) s) : wpAny (model P w) A (setSearch a (.ref x) (hsT P w k) true) Q E s := by
  have rm := R.rm
  obtain ⟨K, k1, k2, k3⟩ := R.tb.first (by rw [List.length_map]; omega) (hsT P w k)
  have big : K < 100000 := by
    have : SetTable.turns t.mask ≤ 142 := by
      unfold SetTable.turns
      rcases R.tb.mok with e | e | e <;> omega
    omega
  unfold setSearch
  refine srchT R hx hu k1 k2 k3 h1 (fun n => h0 K n k2 k3) 100000 0 none rfl (Nat.zero_le _) (by omega) fun i p hp hk => ?_
  have hi : (L.map fun p => hsT P w p.2)[i]? = some (hsT P w k) := by rw [List.getElem?_map, hp, ← hk]; rfl
  have il : i < t.place.toList.length := by
    have z1 := (List.getElem?_eq_some_iff.mp hp).1
    have z2 := R.tb.sz
    rw [List.length_map] at z2
    rw [Array.length_toList]
    omega
  obtain ⟨j, hj⟩ : ∃ j, t.place.toList[i]? = some j := ⟨_, List.getElem?_eq_getElem il⟩
  obtain ⟨c, hc, e⟩ := R.tb.before k2 hi hj
  exact ⟨c, Nat.zero_le _, hc, by rw [hj, e]⟩
theorem tkS_but {h h' : Heap} {k : List Str} {a b : Addr} {o : Obj} {es : Array (Int × Value)} {ep : Nat} {t : SetTable} (hb : TkS P w h k b) (ho : h.get? a = some o) (hd : o.data = .set es ep t) (hs : Heap.SameBut a h h') : TkS P w h' k b := by
  obtain ⟨o', its, n, ho', r⟩ := hb
  refine ⟨o', its, n, (hs.2 b fun e => ?_).trans ho', r⟩
  rw [e, ho] at ho'
  cases ho'
  rw [hd] at r
  exact nomatch r.2.1
theorem tkS_keep {h h' : Heap} {k : List Str} {b : Addr} (x : TkS P w h k b) (q : ∀ c o, h.get? c = some o → h'.get? c = some o) : TkS P w h' k b := by
  obtain ⟨o, its, n, ho, r⟩ := x
  exact ⟨o, its, n, q b o ho, r⟩
theorem range_map : ∀ {α : Type} (l : List α), (List.range l.length).filterMap (fun i => l[i]?) = l := by
  intro α l
  have key : ∀ n, n ≤ l.length → (List.range n).filterMap (fun i => l[i]?) = l.take n := by
    intro n
    induction n with
    | zero => exact fun _ => rfl
    | succ n ih =>
      intro hn
      rw [List.range_succ, List.filterMap_append, ih (by omega), List.take_add_one, List.getElem?_eq_getElem hn]
      simp [List.getElem?_eq_getElem hn]
  rw [key _ (Nat.le_refl _), List.take_length]
/-- entries in another order -/
theorem reorder (es : Array (Int × Value)) (order : Array Nat) (hr : es.toList = rwsT P w L) (hp : order.toList.Perm (List.range L.length)) :
    ∃ M, (order.filterMap (es[·]?)).toList = rwsT P w M ∧ M.Perm L ∧ (M.map fun p => hsT P w p.2) = order.toList.map fun i => (es.map (·.1)).getD i 0 := by
  have ent : ∀ i, es[i]? = L[i]?.map fun p : Addr × List Str => (hsT P w p.2, Value.ref p.1) := fun i => by rw [← Array.getElem?_toList, hr, List.getElem?_map]
  have fm : ∀ l : List Nat, l.filterMap (fun i => es[i]?) = rwsT P w (l.filterMap fun i => L[i]?) := fun l => by
    show _ = List.map _ _
    rw [List.map_filterMap]
    congr 1
    funext i
    rw [ent i]
  have hm : ∀ l : List Nat, (∀ i ∈ l, i < L.length) → ((l.filterMap fun i => L[i]?).map fun p => hsT P w p.2) = l.map fun i => (es.map (·.1)).getD i 0 := by
    intro l
    induction l with
    | nil => exact fun _ => rfl
    | cons i l ih =>
      intro hl
      have il := hl i List.mem_cons_self
      rw [List.filterMap_cons_some (List.getElem?_eq_getElem il), List.map_cons, List.map_cons, ih fun j hj => hl j (List.mem_cons_of_mem _ hj)]
      congr 1
      rw [Array.getD_eq_getD_getElem?, Array.getElem?_map, ent i, List.getElem?_eq_getElem il]
      rfl
  refine ⟨order.toList.filterMap fun i => L[i]?, ?_, ?_, hm _ fun i hi => List.mem_range.mp (hp.mem_iff.mp hi)⟩
  · rw [← fm]
    simp
  · have z := hp.filterMap fun i => L[i]?
    rw [range_map] at z
    exact z
theorem relayT {o : Obj} (ho : s.heap.get? a = some o) (hex : o.ExactSet) (hd : o.data = .set es ep t) (hr : es.toList = rwsT P w L) (hsz : t.place.size = es.size) (hdm : t.dummies = #[]) (hfl : es.size ≤ t.mask) (nd : (L.map (·.2)).Nodup)
    (tup : ∀ p ∈ L, TkS P w s.heap p.2 p.1) (ld : w.params.followText "set-order" = true ∨ t.led = true) (fw : L.length < 64) {wanted M : Nat} (hw : SetTable.sizeAbove wanted - 1 = M) (hM : MaskOk M) (hw2 : SetTable.sizeAbove wanted ≤ 128) (hn : L.length * 5 < M * 3)
    {Q : Unit → Shared → Prop} (q : ∀ h' L' es' ep' t', Heap.SameBut a s.heap h' → TT P w h' a L' es' ep' t' → L'.Perm L → Q () { s with heap := h' }) : wpAny (model P w) A (setRelay a wanted) Q E s := by
  have hl : es.size = L.length := rws_len hr
  have fit : t.fits es.size = true := by
    unfold SetTable.fits SetTable.fill
    rw [hdm, hsz]
    simp only [Array.size_empty, beq_self_eq_true, Bool.true_and, decide_eq_true_eq]
    omega
  obtain ⟨t', order, e, hp, tb, em, el, _, ed⟩ := relaid_ok t (hs := es.map (·.1)) (wanted := wanted) hw hM (by rw [Array.size_map, hl]; omega)
  rw [Array.size_map, hl] at hp
  obtain ⟨L2, r1, r2, r3⟩ := reorder es order hr hp
  rw [← r3] at tb
  have hs2 : (order.filterMap (es[·]?)).size = es.size := by rw [rws_len r1, r2.length_eq, hl]
  rw [setRelay_eq]
  refine wpAny_bind (wpAny_setState_of ho hd fit ?_)
  dsimp only
  refine wp_if_neg (by rw [sizeLine_eq]; omega) ?_
  try refine wpAny_bind (wpAny_pure ?_)
  rw [e]
  dsimp only
  refine wpAny_bind (wp_if_neg (by rw [hs2]; simp) ?_)
  try refine wpAny_bind (wpAny_pure ?_)
  refine wpAny_pure ?_
  dsimp only
  refine wpAny_storeSet_of ho hd ?_ (by rw [hs2, hl, sizeLine_eq]; omega)
  have sb : Heap.SameBut a s.heap (s.heap.update a (Obj.putSet (order.filterMap (es[·]?)) t')) := Heap.SameBut.update ..
  exact q _ L2 _ (ep + 1) t' sb ⟨⟨_, store_at ho hd, ⟨hex.1, hex.2.1, hex.2.2⟩, rfl⟩, r1, tb, (r2.map (·.2)).nodup_iff.mpr nd, fun p hp => tkS_but (tup p (r2.mem_iff.mp hp)) ho hd sb, by rw [el]; exact ld, by rw [r2.length_eq, em]; exact hn, by rw [r2.length_eq]; exact fw⟩ r2
/-- one is added -/
theorem addT (R : TT P w s.heap a L es ep t) {x : Addr} {k : List Str} (hx : TkS P w s.heap k x) (hu : A.units < cLine) (fw : L.length + 1 < 64) {Q : Bool → Shared → Prop}
    (q : ∀ b h' L' es' ep' t', Heap.SameBut a s.heap h' → TT P w h' a L' es' ep' t' → (k ∈ L.map (·.2) → L' = L) → (k ∉ L.map (·.2) → L'.Perm ((x, k) :: L)) → Q b { s with heap := h' }) : wpAny (model P w) A (setAddHashed a (.ref x) (hsT P w k)) Q E s := by
  obtain ⟨o, ho, hex, hd⟩ := R.obj
  have hl := rws_len R.rws
  have rm := R.rm
  unfold setAddHashed
  refine wpAny_holding ?_
  rw [show (100000 : Nat) = 99999 + 1 from rfl, setAddHashedIn_succ]
  refine wpAny_bind (wpAny_setState_of ho hd R.fit ?_)
  dsimp only
  refine wp_if_neg (by simp [byScan, Value.scannable]) ?_
  try refine wpAny_bind (wpAny_pure ?_)
  refine wpAny_bind (srchAt R hx hu (fun hm => ?_) fun K hm hK hb => ?_)
  · dsimp only
    exact wpAny_pure (q false s.heap L es ep t (Heap.SameBut.refl a s.heap) R (fun _ => rfl) fun z => absurd hm z)
  · dsimp only
    refine wpAny_bind (wpAny_setState_of ho hd R.fit ?_)
    dsimp only
    obtain ⟨q1, q2, q3, q4, q5, _, _, _, q9⟩ := R.tb.put hK hb
    generalize hpt : t.put (way t.mask (hsT P w k) K) = pt at q1 q3 q4 q5 q9 ⊢
    obtain ⟨t1, i⟩ := pt
    dsimp only at q1 q3 q4 q5 q9 ⊢
    subst q1
    have hin : (SetTable.insertAt es (SetTable.below t.place (way t.mask (hsT P w k) K)) (hsT P w k, Value.ref x)).toList = rwsT P w (L.take (SetTable.below t.place (way t.mask (hsT P w k) K)) ++ (x, k) :: L.drop (SetTable.below t.place (way t.mask (hsT P w k) K))) := by
      rw [SetTable.toList_insertAt, R.rws]
      simp only [rwsT, List.map_append, List.map_cons, List.map_take, List.map_drop]
    generalize hpp : SetTable.below t.place (way t.mask (hsT P w k) K) = i at q2 q3 hin ⊢
    have pm := put_perm L i (x, k)
    have hlen : (L.take i ++ (x, k) :: L.drop i).length = L.length + 1 := pm.length_eq
    have hhs : (L.take i ++ (x, k) :: L.drop i).map (fun p => hsT P w p.2) = (L.map fun p => hsT P w p.2).take i ++ hsT P w k :: (L.map fun p => hsT P w p.2).drop i := by
      simp only [List.map_append, List.map_cons, List.map_take, List.map_drop]
    rw [← hhs] at q3
    have nd1 : ((L.take i ++ (x, k) :: L.drop i).map (·.2)).Nodup := (pm.map (·.2)).nodup_iff.mpr (List.nodup_cons.mpr ⟨hm, R.uq⟩)
    have hes := (rws_len hin).trans hlen
    generalize SetTable.insertAt es i (hsT P w k, Value.ref x) = es1 at hin hes ⊢
    generalize L.take i ++ (x, k) :: L.drop i = L1 at pm hlen q3 nd1 hin
    -- whatever becomes of the plain mark
    have tail : ∀ t2 : SetTable, t2.mask = t1.mask → t2.place = t1.place → t2.dummies = t1.dummies → t2.led = t1.led → t2.tooFull = t1.tooFull → TabOk t2 (L1.map fun p => hsT P w p.2) →
        wpAny (model P w) A (do
          storeSet a es1 t2
          if !false && t2.tooFull then setRelay a (SetTable.grown (es.size + 1))
          return true) Q E s := by
      intro t2 m2 p2 d2 l2 f2 tb2
      refine wpAny_bind (wpAny_storeSet_of ho hd ?_ (by rw [hes, sizeLine_eq]; omega))
      have sb : Heap.SameBut a s.heap (s.heap.update a (Obj.putSet es1 t2)) := Heap.SameBut.update ..
      have ho1 := store_at (es' := es1) (t' := t2) ho hd
      generalize s.heap.update a (Obj.putSet es1 t2) = h1 at sb ho1 ⊢
      have tup1 : ∀ p ∈ L1, TkS P w h1 p.2 p.1 := fun p hp => by
        rcases List.mem_cons.mp (pm.mem_iff.mp hp) with e | hp
        · rw [e]; exact tkS_but hx ho hd sb
        · exact tkS_but (R.mem p hp) ho hd sb
      have ld1 : w.params.followText "set-order" = true ∨ t2.led = true := by rw [l2, q5]; exact R.sd
      by_cases hf : t1.tooFull = true
      · have full : (L.length + 1) * 5 ≥ t1.mask * 3 := by
          have z := hf
          unfold SetTable.tooFull at z
          rw [decide_eq_true_eq, q9, List.length_map] at z
          exact z
        rw [hl]
        have two : (t.mask = 7 ∧ L.length = 4) ∨ (t.mask = 31 ∧ L.length = 18) := by
          rw [q4] at full
          rcases R.tb.mok with e | e | e
          · rw [e] at full rm; exact .inl ⟨e, by omega⟩
          · rw [e] at full rm; exact .inr ⟨e, by omega⟩
          · rw [e] at full; omega
        have go : ∀ M, SetTable.sizeAbove (SetTable.grown (L.length + 1)) - 1 = M → MaskOk M → SetTable.sizeAbove (SetTable.grown (L.length + 1)) ≤ 128 → (L.length + 1) * 5 < M * 3 →
            wpAny (model P w) A (setRelay a (SetTable.grown (L.length + 1))) (fun _ z => wpAny (model P w) A (pure true) Q E z) E { s with heap := h1 } := fun M g1 g2 g3 g4 => by
          have z2 := tb2.sz
          rw [List.length_map, hlen] at z2
          refine relayT (s := { s with heap := h1 }) ho1 ⟨hex.1, hex.2.1, hex.2.2⟩ rfl hin (by rw [z2, hes]) (by rw [d2]; exact q3.dm) (by rw [hes, m2, q4]; rcases two with ⟨e, e2⟩ | ⟨e, e2⟩ <;> omega) nd1 tup1 ld1 (by rw [hlen]; exact fw) g1 g2 g3 (by rw [hlen]; exact g4) ?_
          intro h2 L2 es2 ep2 t3 sb2 R2 pm2
          exact wpAny_pure (q true h2 L2 es2 ep2 t3 (sb.trans sb2) R2 (fun z => absurd z hm) fun _ => pm2.trans pm)
        have cont : wpAny (model P w) A (setRelay a (SetTable.grown (L.length + 1))) (fun _ z => wpAny (model P w) A (pure true) Q E z) E { s with heap := h1 } := by
          rcases two with ⟨_, e2⟩ | ⟨_, e2⟩
          · exact go 31 (by rw [e2, size_20]) (.inr (.inl rfl)) (by rw [e2, size_20]; decide) (by omega)
          · exact go 127 (by rw [e2, size_76]) (.inr (.inr rfl)) (by rw [e2, size_76]; decide) (by omega)
        first
          | exact wp_if_pos (by simp [f2, hf]) (wpAny_bind cont)
          | exact wpAny_bind (wp_if_pos (by simp [f2, hf]) cont)
      · have fin : wpAny (model P w) A (pure true) Q E { s with heap := h1 } := by
          refine wpAny_pure (q true h1 L1 es1 (ep + 1) t2 sb ⟨⟨_, ho1, ⟨hex.1, hex.2.1, hex.2.2⟩, rfl⟩, hin, tb2, nd1, tup1, ld1, ?_, by rw [hlen]; exact fw⟩ (fun z => absurd z hm) fun _ => pm)
          have z := hf
          unfold SetTable.tooFull at z
          rw [decide_eq_true_eq, q9, List.length_map] at z
          rw [hlen, m2]
          omega
        first
          | exact wp_if_neg (by simp [f2, hf]) fin
          | exact wpAny_bind (wp_if_neg (by simp [f2, hf]) (wpAny_pure fin))
    have same : TabOk { t1 with plain := false } (L1.map fun p => hsT P w p.2) := ⟨q3.ris, q3.dm, q3.sz, q3.mok, q3.bd, q3.reach⟩
    by_cases hpl : t1.plain = true
    · first
        | refine wpAny_bind (wp_if_pos hpl (hbv_tup hx fun c => ?_))
        | refine wp_if_pos hpl (wpAny_bind (hbv_tup hx fun c => ?_))
      cases c with
      | true => exact tail t1 rfl rfl rfl rfl rfl q3
      | false => exact tail { t1 with plain := false } rfl rfl rfl rfl rfl same
    · first
        | refine wpAny_bind (wp_if_neg hpl (wpAny_pure ?_))
        | refine wp_if_neg hpl (wpAny_bind (wpAny_pure ?_))
      exact tail t1 rfl rfl rfl rfl rfl q3
end
end G9

/-! T2: set(xs), of a list or a tuple: texts, tuples of texts. -/
namespace G9
open PySem PySem.Spec L2 PyProof.Rows PySem.Froz
/-- how a set at S fares while items are added: Z i h behind i of them -/
structure Adds (P : Program) (w : World) (S : Addr) (h0 : Heap) (n : Nat) (Pv : Nat → Value → Prop) (Z : Nat → Heap → Prop) : Prop where
  keep : ∀ i h h', Z i h → (∀ o, h.get? S = some o → h'.get? S = some o) → (∀ b o, h0.get? b = some o → h'.get? b = some o) → Z i h'
  step : ∀ (A : Around) (E : Value → Shared → Prop) i v (s : Shared) (Q : Bool → Shared → Prop), A.units < cLine → i < n → Pv i v → (∀ b o, h0.get? b = some o → s.heap.get? b = some o) → Z i s.heap →
    (∀ b h' tk, s.toks ≤ tk → Heap.SameBut S s.heap h' → Z (i + 1) h' → Q b { s with heap := h', toks := tk }) → wpAny (model P w) A (setAdd S v) Q E s
abbrev setNew (w : World) : Obj := { cls := .type "set", dict := none, data := .set #[] 0 (.fresh 0 0 (!w.params.followText "set-order")) }
section
variable {P : Program} {w : World} {A : Around} {E : Value → Shared → Prop} {s : Shared}
theorem updGo {I S : Addr} {fp wr : List Addr} {G : Array GenState → Array GenState → Prop} {n : Nat} {Pv : Nat → Value → Prop} {St : Nat → Shared → Prop} {R : Result → Shared → Prop} {h0 : Heap} {Z : Nat → Heap → Prop}
    (W : WalksS P w A.in1 I fp wr G n Pv St) (D : Adds P w S h0 n Pv Z) (no : S ∉ fp) (n0 : h0.get? S = none) (nw : ∀ b ∈ wr, h0.get? b = none) (hu : A.in1.units < cLine) :
    ∀ (k i : Nat) (s : Shared), n - i = k → i ≤ n → St i s → (∀ b o, h0.get? b = some o → s.heap.get? b = some o) → Z i s.heap →
      (∀ z, Moved (S :: wr) G s z → (∀ b o, h0.get? b = some o → z.heap.get? b = some o) → Z n z.heap → R (.ok (.ret .none)) z) → codeAny (model P w) A (.builtin "set.update.loop" ⟨[.ref S, .ref I], []⟩) R s := by
  have nS : S ∉ wr := fun z => no (W.sub _ z)
  have kp : ∀ {s z : Shared}, Moved wr G s z → (∀ b o, h0.get? b = some o → s.heap.get? b = some o) → ∀ b o, h0.get? b = some o → z.heap.get? b = some o := fun m k b o e => m.heap b o (fun hb => by rw [nw b hb] at e; cases e) (k b o e)
  intro k
  induction k with
  | zero =>
    intro i s hk hi st k0 z0 fin
    have e : i = n := by omega
    subst e
    refine codeAny_builtin PyProof.Rows.F.entry_set_update_loop ?_
    rw [Around.under_plainId PyProof.Rows.F.plain_set_update_loop _]
    show wpAny _ A.in1 (pyNext (.ref I) >>= _) _ _ s
    refine wpAny_bind (W.done s _ _ st fun z m => ?_)
    show wpAny _ A.in1 (ret Value.none) _ _ z
    exact wpAny_pure (fin z (m.mono fun b hb => List.mem_cons_of_mem _ hb) (kp m k0) (D.keep _ _ _ z0 (fun o e => m.heap S o nS e) (kp m k0)))
  | succ k ih =>
    intro i s hk hi st k0 z0 fin
    have lt : i < n := by omega
    refine codeAny_builtin PyProof.Rows.F.entry_set_update_loop ?_
    rw [Around.under_plainId PyProof.Rows.F.plain_set_update_loop _]
    show wpAny _ A.in1 (pyNext (.ref I) >>= _) _ _ s
    refine wpAny_bind (W.item i s _ _ lt st fun v z hv st1 m => ?_)
    have k1 := kp m k0
    show wpAny _ A.in1 (holding [v] (setAdd S v) >>= _) _ _ z
    refine wpAny_bind (wpAny_holding (D.step _ _ i v z _ hu lt hv k1 (D.keep _ _ _ z0 (fun o e => m.heap S o nS e) k1) fun b h' tk le sb zz => ?_))
    have k2 : ∀ b o, h0.get? b = some o → h'.get? b = some o := fun b o e => (sb.2 b fun q => by rw [q, n0] at e; cases e).trans (k1 b o e)
    refine wpAny_pure ⟨plainId_quiet PyProof.Rows.F.plain_set_update_loop _, ih (i + 1) _ (by omega) lt (W.frame _ z _ _ st1 le fun b hb o e => (sb.2 b fun q => no (by rw [← q]; exact hb)).trans e) k2 zz fun y m2 k3 z3 => ?_⟩
    exact fin y (Moved.trans W.gtrans ((m.mono fun b hb => List.mem_cons_of_mem _ hb).then_heap le fun b o hb e => (sb.2 b fun q => hb (by rw [q]; exact List.mem_cons_self)).trans e) m2) k3 z3
/-- set(x), x at l an iterable of the items: what must be known of it -/
def SetSrc (P : Program) (w : World) (l : Addr) (items : Array Value) (s : Shared) : Prop := (∃ o, s.heap.get? l = some o ∧ (o.cls = .type "list" ∨ o.cls = .type "tuple") ∧ ∃ n, o.data = .seq items n)
theorem setCall {l : Addr} {items : Array Value} {Z : Nat → Heap → Prop} {Q : Value → Shared → Prop} (hh : A.handled = none) (hu : A.units + 3 < cLine) (hl : SetSrc P w l items s) (D : Adds P w s.heap.objs.size s.heap items.size (fun i v => items[i]? = some v) Z)
    (z0 : ∀ h : Heap, h.get? s.heap.objs.size = some (setNew w) → (∀ b o, s.heap.get? b = some o → h.get? b = some o) → Z 0 h)
    (q : ∀ (h' : Heap) (tk : Nat), Z items.size h' → (∀ b o, s.heap.get? b = some o → h'.get? b = some o) → Q (.ref s.heap.objs.size) { s with heap := h', toks := tk }) : wpAny (model P w) A (call (.type "set") [.ref l]) Q E s := by
  obtain ⟨c, tl, m1⟩ := PySem.F.called_set.mro
  have m2 := PySem.F.called_set.made; have m3 := PySem.F.called_set.sub
  refine wpAny_call (codeAny_of_tree (show wpAny _ _ (callAny (.type "set") _) _ _ _ from wpAny_pure ⟨Code.quiet_builtin _ (by decide +kernel), codeAny_builtin PySem.F.entry_type_call ?_⟩))
  rw [Around.under_plain (weight_type_call_type "set" [.ref l] []) rfl]
  have m4 := PySem.F.called_set.notType; have m5 := PySem.F.called_set.canCreate; have m6 := PySem.F.typeCall_set_1 (.ref l)
  repeat (any_goals (first | assumption | wp_step))
  refine codeAny_mono (code_set_led1 (.ref l) (E := E) (Q₁ := fun v z => v = .ref s.heap.objs.size ∧ z = { s with heap := s.heap.push (setNew w) }) ⟨rfl, rfl⟩) fun r z hr => ?_
  cases r with
  | error e => exact hr
  | ok fl =>
    cases fl with
    | ret v =>
      obtain ⟨rfl, rfl⟩ := hr
      have gS : (s.heap.push (setNew w)).get? s.heap.objs.size = some (setNew w) := Heap.get?_push_size _ rfl
      have ty : Shared.TypeIs { s with heap := s.heap.push (setNew w) } (.ref s.heap.objs.size) "set" := ⟨_, gS, rfl⟩
      have n1 := PySem.F.called_set.init.lookup; have n2 := PySem.F.called_set.init.bind (.ref s.heap.objs.size)
      repeat (any_goals (first | assumption | wp_step))
      refine codeAny_mono (codeAny_call_builtin (R := wants (fun r z => r = .none ∧ ∃ h' tk, z = { s with heap := h', toks := tk } ∧ Z items.size h' ∧ (∀ b o, s.heap.get? b = some o → h'.get? b = some o)) E)
        PySem.F.called_set.init.plain PySem.F.entry_set_init (check_set_init_1 ty ?_)) fun r2 z2 hr2 => ?_
      · have lS : l < s.heap.objs.size := by obtain ⟨o, ho, _⟩ := hl; exact Heap.lt_size ho
        have z1 : (s.heap.push (setNew w)).objs.size = s.heap.objs.size + 1 := Heap.size_push ..
        have neI : l ≠ (s.heap.push (setNew w)).objs.size := by rw [z1]; exact Nat.ne_of_lt (Nat.lt_succ_of_lt lS)
        have noS : s.heap.objs.size ∉ [(s.heap.push (setNew w)).objs.size, l] := by
          rw [z1]
          intro h
          rcases List.mem_cons.mp h with e | h
          · exact Nat.ne_of_lt (Nat.lt_succ_self _) e
          · exact Nat.ne_of_gt lS (List.mem_singleton.mp h)
        have out : ∀ b, s.heap.objs.size ≤ b → s.heap.get? b = none := fun b hb => by
          cases e : s.heap.get? b with
          | none => rfl
          | some o => exact absurd (Heap.lt_size e) (Nat.not_lt_of_le hb)
        have h3 : A.in1.in1.in1.handled = none := by simp [hh]
        have fin : ∀ {wr : List Addr} {G : Array GenState → Array GenState → Prop} {y z : Shared} {R : Flow → Shared → Prop}, True := fun {_ _ _ _ _} => trivial
        obtain ⟨⟨oc, odi, oda, osl⟩, ho, hc, nn, hd⟩ := hl
        simp only at hc hd
        subst hd
        rcases hc with hc | hc
        · subst hc
          have ho' : (s.heap.push (setNew w)).get? l = some { cls := .type "list", dict := odi, data := .seq items nn, slots := osl } := Heap.get?_push_of_some _ ho
          have k1 := PySem.F.sub_list_set; have k2 := PySem.F.sub_list_frozenset
          have k3 : (Value.type "list" == Value.type "dict") = false := by decide
          have hl1 : (s.heap.push (setNew w)).IsList l items := ⟨_, ho', rfl, nn, rfl⟩
          unfold Builtin.«set.__init__» noKeywords Builtin.Frozenset.updateFrom
          generalize hPI : pyIter = PI
          wp_walk
          subst hPI
          refine wpAny_pyIter_list hl1 (wpAny_bind (wpAny_runValue ?_))
          refine updGo (h0 := s.heap) (Walks.list h3 _ l neI items).toS D noS (out _ (Nat.le_refl _)) (fun b hb => out b (by rw [List.mem_singleton.mp hb, z1]; exact Nat.le_succ _)) hu (items.size - 0) 0 _ (by omega) (Nat.zero_le _)
            ⟨⟨_, Heap.get?_push_size _ rfl, rfl, rfl⟩, hl1.push _⟩ (fun b o e => Heap.get?_push_of_some _ (Heap.get?_push_of_some _ e)) (z0 _ (Heap.get?_push_of_some _ gS) fun b o e => Heap.get?_push_of_some _ (Heap.get?_push_of_some _ e)) fun y m k zz => ?_
          obtain ⟨h', g2, d2, tk, os2⟩ := y
          cases (show g2 = s.gens from m.gens)
          cases (show d2 = s.drawn from m.drawn)
          cases (show os2 = s.os from m.os)
          exact (show wpAny _ _ _ _ _ _ from wpAny_pure (show wpAny _ _ (ret Value.none) _ _ _ from wpAny_pure ⟨rfl, h', tk, rfl, zz, k⟩))
        · subst hc
          have ho' : (s.heap.push (setNew w)).get? l = some { cls := .type "tuple", dict := odi, data := .seq items nn, slots := osl } := Heap.get?_push_of_some _ ho
          have k1 := PySem.F.sub_tuple_set; have k2 := PySem.F.sub_tuple_frozenset
          have k3 : (Value.type "tuple" == Value.type "dict") = false := by decide
          have hl1 : (s.heap.push (setNew w)).IsTuple l items := ⟨_, ho', rfl, nn, rfl⟩
          unfold Builtin.«set.__init__» noKeywords Builtin.Frozenset.updateFrom
          generalize hPI : pyIter = PI
          wp_walk
          subst hPI
          refine wpAny_pyIter_tuple hl1 (wpAny_bind (wpAny_runValue ?_))
          refine updGo (h0 := s.heap) (Walks.tuple h3 _ l neI items).toS D noS (out _ (Nat.le_refl _)) (fun b hb => out b (by rw [List.mem_singleton.mp hb, z1]; exact Nat.le_succ _)) hu (items.size - 0) 0 _ (by omega) (Nat.zero_le _)
            ⟨⟨_, Heap.get?_push_size _ rfl, rfl, rfl⟩, hl1.push _⟩ (fun b o e => Heap.get?_push_of_some _ (Heap.get?_push_of_some _ e)) (z0 _ (Heap.get?_push_of_some _ gS) fun b o e => Heap.get?_push_of_some _ (Heap.get?_push_of_some _ e)) fun y m k zz => ?_
          obtain ⟨h', g2, d2, tk, os2⟩ := y
          cases (show g2 = s.gens from m.gens)
          cases (show d2 = s.drawn from m.drawn)
          cases (show os2 = s.os from m.os)
          exact (show wpAny _ _ _ _ _ _ from wpAny_pure (show wpAny _ _ (ret Value.none) _ _ _ from wpAny_pure ⟨rfl, h', tk, rfl, zz, k⟩))
      · cases r2 with
        | error e => exact hr2
        | ok fl2 =>
          cases fl2 with
          | ret r =>
            obtain ⟨rfl, h', tk, rfl, zz, k⟩ := hr2
            repeat (any_goals (first | assumption | wp_step))
            exact q _ _ zz k
          | _ => exact hr2.elim
    | _ => exact hr.elim
end
end G9

/-! T3: sorted(set(xs)), over wants. -/
namespace G9
open PySem PySem.Spec L2 PyProof.Rows PySem.Froz
section
variable {P : Program} {w : World} {A : Around} {E : Value → Shared → Prop} {s : Shared}
/-- a text is put in -/
theorem setS_put {a : Addr} {l : List Str} {k : Str} {u : Tok} {Q : Bool → Shared → Prop} (R : SetS P w s.heap a l) (room : l.length + 1 < scanBound)
    (q : ∀ b h', Heap.SameBut a s.heap h' → SetS P w h' a (insS k l) → Q b { s with heap := h', toks := s.toks + 1 }) : wpAny (model P w) A (setAdd a (.str k u)) Q E s := by
  obtain ⟨D, ho, Fx, nd, hb, r, ld⟩ := R
  unfold setAdd
  refine wpAny_holding (wpAny_bind ((PySem.strKind P w).pyHash (is_str k u) ?_))
  by_cases hk : k ∈ l
  · refine add_old (s := { s with toks := s.toks + 1 }) ho Fx hk hb (q _ s.heap (Heap.SameBut.refl a s.heap) ?_)
    unfold insS
    rw [if_pos hk]
    exact ⟨D, ho, Fx, nd, hb, r, ld⟩
  · refine add_x (s := { s with toks := s.toks + 1 }) ho Fx hk room (q _ _ (Heap.SameBut.update s.heap a _) ?_)
    unfold insS
    rw [if_neg hk]
    exact ⟨_, get_upd _ ho rfl, add_ok u Fx, List.nodup_cons.mpr ⟨hk, nd⟩, room, addTx_ris r, ld.imp id fun z => by rw [addTx_led]; exact z⟩
theorem addsS {S : Addr} {h0 : Heap} {items : Array Value} {ss : List Str} (hi : StrsAre items.toList ss) (h64 : ss.length < 64) :
    Adds P w S h0 items.size (fun i v => items[i]? = some v) (fun i h => ∃ l, SetS P w h S l ∧ ∀ k, k ∈ l ↔ k ∈ ss.take i) where
  keep := fun i h h' ⟨l, R, m⟩ q _ => ⟨l, R.keep q, m⟩
  step := fun A E i v s Q hu lt hv _ ⟨l, R, m⟩ q => by
    have hv' : items.toList[i]? = some v := by rw [Array.getElem?_toList]; exact hv
    have go : ∀ {us : List Value} {ss : List Str} {i : Nat}, StrsAre us ss → us[i]? = some v → ∃ k t, ss[i]? = some k ∧ v = .str k t := by
      intro us ss i h
      induction h generalizing i with
      | nil => intro z; simp at z
      | cons x t r ih =>
        intro z
        cases i with
        | zero => simp at z; exact ⟨x, t, rfl, z.symm⟩
        | succ i => exact ih (by simpa using z)
    obtain ⟨k, t, hk, rfl⟩ := go hi hv'
    have nd : l.Nodup := by obtain ⟨D, _, _, nd, _⟩ := R; exact nd
    have ll : l.length ≤ ss.length := nodup_len nd fun j hj => List.mem_of_mem_take ((m j).mp hj)
    have sb : 64 < scanBound := by decide
    refine setS_put R (by omega) fun b h' sb R' => q b h' _ (Nat.le_succ _) sb ⟨_, R', fun j => ?_⟩
    rw [insS_mem, m j, List.take_add_one, hk]
    simp
/-- what the set has of the first i tuples -/
structure Has (ks : List (Addr × List Str)) (i : Nat) (L : List (Addr × List Str)) : Prop where
  sub : ∀ p ∈ L, p ∈ ks
  all : ∀ p ∈ ks.take i, p.2 ∈ L.map (·.2)
  len : L.length ≤ i
theorem addsT {S : Addr} {h0 : Heap} {items : Array Value} {ks : List (Addr × List Str)} (hi : items.toList = ks.map fun p => Value.ref p.1) (hk : ∀ p ∈ ks, TkS P w h0 p.2 p.1) (h64 : ks.length < 64) :
    Adds P w S h0 items.size (fun i v => items[i]? = some v) (fun i h => ∃ L es ep t, TT P w h S L es ep t ∧ Has ks i L) where
  keep := fun i h h' ⟨L, es, ep, t, R, g⟩ q k => ⟨L, es, ep, t, ⟨let ⟨o, ho, r⟩ := R.obj; ⟨o, q o ho, r⟩, R.rws, R.tb, R.uq, fun p hp => tkS_keep (hk p (g.sub p hp)) k, R.sd, R.rm, R.fw⟩, g⟩
  step := fun A E i v s Q hu lt hv k0 ⟨L, es, ep, t, R, g⟩ q => by
    have hv' : items.toList[i]? = some v := by rw [Array.getElem?_toList]; exact hv
    rw [hi, List.getElem?_map] at hv'
    obtain ⟨p, hp, rfl⟩ := Option.map_eq_some_iff.mp hv'
    have pm : p ∈ ks := List.mem_of_getElem? hp
    have hx : TkS P w s.heap p.2 p.1 := tkS_keep (hk p pm) k0
    have il : i < ks.length := (List.getElem?_eq_some_iff.mp hp).1
    have gl := g.len
    unfold setAdd
    refine wpAny_holding (wpAny_bind (wpAny_pyHash_tuple hu hx ?_))
    refine addT (s := { s with toks := s.toks + (p.2.length + 1) }) R hx hu (by omega) fun b h' L' es' ep' t' sb R' c1 c2 => q b h' _ (Nat.le_add_right _ _) sb ⟨L', es', ep', t', R', ?_⟩
    have tk : ks.take (i + 1) = ks.take i ++ [p] := by rw [List.take_add_one, hp]; rfl
    by_cases c : p.2 ∈ L.map (·.2)
    · rw [c1 c]
      refine ⟨g.sub, fun r hr => ?_, by omega⟩
      rw [tk] at hr
      rcases List.mem_append.mp hr with z | z
      · exact g.all r z
      · rw [List.mem_singleton.mp z]; exact c
    · have pe := c2 c
      refine ⟨fun r hr => ?_, fun r hr => ?_, by rw [pe.length_eq, List.length_cons]; omega⟩
      · rcases List.mem_cons.mp (pe.mem_iff.mp hr) with z | z
        · rw [z]; exact pm
        · exact g.sub r z
      · rw [(pe.map (·.2)).mem_iff, List.map_cons]
        rw [tk] at hr
        rcases List.mem_append.mp hr with z | z
        · exact List.mem_cons_of_mem _ (g.all r z)
        · rw [List.mem_singleton.mp z]; exact List.mem_cons_self
theorem tt_new {h : Heap} {a : Addr} (ho : h.get? a = some (setNew w)) : TT P w h a [] #[] 0 (.fresh 0 0 (!w.params.followText "set-order")) where
  obj := ⟨_, ho, ⟨rfl, rfl, rfl⟩, rfl⟩
  rws := rfl
  tb := ⟨List.Pairwise.nil, rfl, rfl, .inl rfl, (fun _ z => by cases z), (fun _ _ _ z => by simp at z)⟩
  uq := List.nodup_nil
  mem := fun _ z => by cases z
  sd := by
    show _ ∨ (!w.params.followText "set-order") = true
    cases w.params.followText "set-order"
    · exact .inr rfl
    · exact .inl rfl
  rm := show 0 * 5 < 7 * 3 by decide
  fw := show 0 < 64 by decide
theorem setS_at {h : Heap} {a : Addr} (ho : h.get? a = some (setNew w)) : SetS P w h a [] :=
  ⟨(#[], 0, .fresh 0 0 (!w.params.followText "set-order")), ho, TxOk.nil rfl, List.nodup_nil, by decide, List.Pairwise.nil, by
    show _ ∨ (!w.params.followText "set-order") = true
    cases w.params.followText "set-order"
    · exact .inr rfl
    · exact .inl rfl⟩
end
/-- the set at a, the tuples left out -/
def T0 (P : Program) (w : World) (h : Heap) (a : Addr) (L : List (Addr × List Str)) : Prop := ∃ (es : Array (Int × Value)) (ep : Nat) (t : SetTable), (∃ o, h.get? a = some o ∧ o.ExactSet ∧ o.data = .set es ep t) ∧ es.toList = rwsT P w L ∧ TabOk t (L.map fun p => hsT P w p.2) ∧ (L.map (·.2)).Nodup ∧
    (w.params.followText "set-order" = true ∨ t.led = true) ∧ L.length * 5 < t.mask * 3 ∧ L.length < 64
def STO (P : Program) (w : World) (a : Addr) (L : List (Addr × List Str)) : HO := .ext fun h => T0 P w h a L
theorem sto_ok {P : Program} {w : World} {H : Hp} {h : Heap} {a : Addr} {L : List (Addr × List Str)} (R : T0 P w h a L) : ObjOk P w H h a (STO P w a L) := by
  have ⟨es, ep, t, ⟨o, ho, _⟩, _⟩ := R
  exact ⟨R, ⟨o, ho⟩, fun h1 h2 ⟨es, ep, t, ⟨o, ho, r⟩, q⟩ k => ⟨es, ep, t, ⟨o, k o ho, r⟩, q⟩⟩
section
variable {X : Cx} {pins : List (Addr × Obj)} {σ : L2.St} {H : Hp} {s : Shared}
theorem its_of {P : Program} {w : World} : ∀ {k : List Str} {us : List Value}, Vals (k.map V.str) us → ItemsAre (PySem.strKind P w) k us
  | [], _, .nil => .nil
  | x :: k, _, .cons r t => by
    obtain ⟨u, rfl⟩ := r
    exact .cons (is_str x u) (its_of t)
theorem tkS_of {b : Addr} {k : List Str} (I : Inv X pins σ H s) (h : SqT X.K H b (k.map V.str)) : TkS X.prog X.w s.heap k b := by
  obtain ⟨its, r, ⟨o, ho, hc, n, hd⟩, _⟩ := I.tuple h
  exact ⟨o, its.toArray, n, ho, hc, hd, by simpa using its_of r⟩
/-- set(xs): texts, or a list of tuples of texts -/
def rSetX (K : PySem.W.Frag) (P : Program) (w : World) : List V → Hp → VK → Prop := fun vs H Q => ∃ l : Addr, vs = [V.ref l] ∧
  ((∃ ss : List Str, (SqL K H l (ss.map V.str) ∨ SqT K H l (ss.map V.str)) ∧ ss.length < 64 ∧ ∀ a m, H a = none → m.Nodup → (∀ k, k ∈ m ↔ k ∈ ss) → Q (.ref a) (upd H a (SetSO P w a m))) ∨
   ∃ ks : List (Addr × List Str), SqL K H l (ks.map fun p => V.ref p.1) ∧ (∀ p ∈ ks, SqT K H p.1 (p.2.map V.str)) ∧ ks.length < 64 ∧ ∀ a L, H a = none → (∀ p ∈ L, p ∈ ks) → (∀ p ∈ ks, p.2 ∈ L.map (·.2)) → (L.map (·.2)).Nodup → Q (.ref a) (upd H a (STO P w a L)))
theorem refs_val : ∀ {ks : List (Addr × List Str)} {us : List Value}, Vals (ks.map fun p => V.ref p.1) us → us = ks.map fun p => Value.ref p.1
  | [], _, .nil => rfl
  | p :: ks, _, .cons r t => by
    cases r
    rw [refs_val t]
    rfl
theorem cr_setX (hc : X.calm = true) (hu : X.A.units + 64 < cLine) : CallR X (.type "set") (rSetX X.K X.prog X.w) := by
  intro pins s σ H vs us Q I r h
  obtain ⟨l, rfl, h⟩ := h
  rw [Vals.ref1 r]
  have nn : H s.heap.objs.size = none := I.hok.fresh (Nat.le_refl _)
  rcases h with ⟨ss, hl, h64, q⟩ | ⟨ks, hl, hk, h64, q⟩
  · have src : ∃ its, Vals (ss.map V.str) its ∧ SetSrc X.prog X.w l its.toArray s := by
      rcases hl with hl | hl
      · obtain ⟨its, rv, ⟨o, n, ho, hc, _, hd⟩, _⟩ := I.list hl
        exact ⟨its, rv, o, ho, .inl hc, n, hd⟩
      · obtain ⟨its, rv, ⟨o, ho, hc, n, hd⟩, _⟩ := I.tuple hl
        exact ⟨its, rv, o, ho, .inr hc, n, hd⟩
    obtain ⟨its, rv, src⟩ := src
    refine setCall (I.ok.hd hc) (by omega) src (addsS (ss := ss) (by simpa using Vals.strs rv) h64) (fun h g _ => ⟨[], setS_at g, fun k => by simp⟩) fun h' tk ⟨m, R, hm⟩ k => ?_
    have sz : its.toArray.size = ss.length := by rw [List.size_toArray, ← rv.length, List.length_map]
    rw [sz, List.take_length] at hm
    have nd : m.Nodup := by obtain ⟨D, _, _, nd, _⟩ := R; exact nd
    exact ⟨.ref _, _, I.laid (t' := tk) k (Nat.le_refl _) (setSO_ok R), rfl, q _ m nn nd hm⟩
  · obtain ⟨its, rv, ⟨o, n, ho, hc', _, hd⟩, _⟩ := I.list hl
    have ev := refs_val rv
    refine setCall (I.ok.hd hc) (by omega) ⟨o, ho, .inl hc', n, hd⟩ (addsT (ks := ks) (by simpa using ev) (fun p hp => tkS_of I (hk p hp)) h64) (fun h g _ => ⟨[], _, _, _, tt_new g, fun _ z => (nomatch z), fun _ z => by simp at z, Nat.le_refl _⟩) fun h' tk ⟨L, es, ep, t, R, g⟩ k => ?_
    have sz : its.toArray.size = ks.length := by rw [ev]; simp
    refine ⟨.ref _, _, I.laid (t' := tk) k (Nat.le_refl _) (sto_ok ⟨es, ep, t, R.obj, R.rws, R.tb, R.uq, R.sd, R.rm, R.fw⟩), rfl, q _ L nn g.sub (fun p hp => g.all p ?_) R.uq⟩
    rw [sz, List.take_length]
    exact hp
/-- sorting what was gathered -/
theorem sortSS_any {arg : Value} {Q : VK} {nss0 : List (List Str)} (hu : X.A.units + 2 < cLine)
    (col : ∀ (E' : Value → Shared → Prop) (Q' : List Value → Shared → Prop), (∀ vs its nss s1, Inv X pins σ H s1 → Vals vs its → vs.length ≤ sizeLine → Paired (TuAt X.K H) vs nss → nss.Perm nss0 → Q' its s1) → wpAny (model X.prog X.w) X.A.in1 (collect arg) Q' E' s)
    (q : ∀ ys mss p, Paired (TuAt X.K H) ys mss → mss.Perm nss0 → mss.Pairwise (fun a b => ltSS b a = false) → H p = none → Q (.ref p) (upd H p (.lst ys))) :
    wpAny (model X.prog X.w) X.A (call (.builtin "sorted") [arg]) (EP X pins σ Q) X.xe s := by
  refine Calls.call_function_entry kind_sorted plain_sorted entry_sorted (args_sorted1 _) ?_
  unfold Builtin.«sorted»
  refine wpAny_bind (m := checkCount "sorted" 1 1 _) (wpAny_pure (wpAny_bind (col _ _ fun vs its nss s1 I rv hz hx pm => ?_)))
  have tu : ∀ {t : Addr} {ss : List Str}, SqT X.K H t (ss.map V.str) → TsAt s1.heap (.ref t) ss := fun ht => by
    obtain ⟨its2, r2, p2, _⟩ := I.tuple ht
    exact ⟨_, its2, rfl, p2, Vals.strs r2⟩
  obtain ⟨e1, e2⟩ := refs_back rv fun x m => by
    obtain ⟨ss, t, e, _⟩ := paired_mem hx x m
    exact ⟨t, e⟩
  classical
  let k : Value → List Str := fun v => if h : ∃ ss, TsAt s1.heap v ss then h.choose else []
  have hk : ∀ {v : Value} {ss : List Str}, TsAt s1.heap v ss → k v = ss := fun {v ss} h => by
    have z : ∃ ss, TsAt s1.heap v ss := ⟨ss, h⟩
    show (if h : ∃ ss, TsAt s1.heap v ss then h.choose else []) = ss
    rw [dif_pos z]
    exact z.choose_spec.inj h
  have all : ∀ {xs : List V} {nss : List (List Str)} {its : List Value}, Paired (TuAt X.K H) xs nss → Vals xs its → nss = its.map k ∧ ∀ v ∈ its, ∃ t, v = .ref t ∧ SqT X.K H t ((k v).map V.str) := by
    intro xs nss its p
    induction p generalizing its with
    | nil => intro r; cases r; exact ⟨rfl, fun _ h => nomatch h⟩
    | cons h t ih =>
      intro r
      cases r with
      | cons r0 r =>
        obtain ⟨i1, i2⟩ := ih r
        obtain ⟨t, rfl, ht⟩ := h
        cases r0
        have e := hk (tu ht)
        refine ⟨by rw [List.map_cons, e, i1], fun v hv => ?_⟩
        rcases List.mem_cons.mp hv with rfl | hv
        · exact ⟨t, rfl, by rw [e]; exact ht⟩
        · exact i2 v hv
  obtain ⟨en, hv⟩ := all hx rv
  have hp : ∀ v ∈ its, TsAt s1.heap v (k v) := fun v hm => by
    obtain ⟨t, rfl, ht⟩ := hv v hm
    exact tu ht
  have hl := rv.length
  refine wpAny_bind (wpAny_newList ?_ (by rw [← hl]; exact hz))
  have hL : (s1.heap.push (seqObj "list" its.toArray 0)).get? s1.heap.objs.size = some (seqObj "list" its.toArray 0) := Heap.get?_push_size _ rfl
  refine wpAny_bind (wpAny_holding (wpAny_call_entry slot_list_sort ⟨_, hL, rfl⟩ entry_list_sort
    (SrtO.list_sort_ord (s := { s1 with heap := s1.heap.push (seqObj "list" its.toArray 0) }) (swo_ss k) hL (by rw [← hl]; exact hz) (fun h2 => ?_) fun out g1 g2 => ⟨_, rfl, ?_⟩) (args_list_sort _)))
  · refine sortable_ss (s := { s1 with heap := s1.heap.push (seqObj "list" its.toArray 0) }) (k := k) (by show X.A.units + 1 + 1 < cLine; omega) (by omega) (fun v hm => (hp v hm).keeps fun b o e _ => Heap.get?_push_of_some _ e) fun o e => ?_
    have e' : some o = some (seqObj "list" its.toArray 0) := e.symm.trans hL
    cases e'
    intro c
    exact absurd (Value.type.inj c) (by decide)
  · have h3 : ∀ u ∈ out, ∃ a, u = Value.ref a := fun u hu => e2 u (g2.perm.mem_iff.mp hu)
    obtain ⟨c, hc'⟩ := sortedHeap_at (vs := its) (out := out.toArray) hL
    have pr : ∀ {out : List Value}, (∀ u ∈ out, u ∈ its) → Paired (TuAt X.K H) (out.map backV) (out.map k) := by
      intro out
      induction out with
      | nil => exact fun _ => .nil
      | cons v out ih =>
        intro m
        obtain ⟨t, e, ht⟩ := hv v (m v List.mem_cons_self)
        exact .cons ⟨t, by rw [e]; rfl, ht⟩ (ih fun u hu => m u (List.mem_cons_of_mem _ hu))
    refine wpAny_pure ⟨_, rfl, .ref s1.heap.objs.size, upd H s1.heap.objs.size (.lst (out.map backV)), I.laid (t' := s1.toks) (fun b o e => ?_) (Nat.le_refl _) ⟨?_, out, c, vals_back h3, hc'⟩, rfl, q _ _ _ (pr fun u hu => g2.perm.mem_iff.mp hu) (((g2.perm.map k).trans (by rw [← en])).trans pm) (List.pairwise_map.mpr g1) (I.hok.fresh (Nat.le_refl _))⟩
    · have lt : b < s1.heap.objs.size := Heap.lt_size e
      rw [sortedHeap_old (Nat.ne_of_lt lt) (by rw [size_push']; exact Nat.lt_succ_of_lt lt)]
      exact Heap.get?_push_of_some _ e
    · rw [List.length_map, g2.perm.length_eq, ← hl]
      exact hz
/-- sorted of a set of tuples of texts -/
def rSrtX (K : PySem.W.Frag) (P : Program) (w : World) : List V → Hp → VK → Prop := fun vs H Q => ∃ (a : Addr) (L : List (Addr × List Str)), vs = [V.ref a] ∧ H a = some (STO P w a L) ∧ (∀ p ∈ L, SqT K H p.1 (p.2.map V.str)) ∧
  ∀ ys mss p, Paired (TuAt K H) ys mss → mss.Perm (L.map (·.2)) → mss.Pairwise (fun a b => ltSS b a = false) → H p = none → Q (.ref p) (upd H p (.lst ys))
theorem paired_refs {K : PySem.W.Frag} : ∀ {L : List (Addr × List Str)}, (∀ p ∈ L, SqT K H p.1 (p.2.map V.str)) → Paired (TuAt K H) (L.map fun p => V.ref p.1) (L.map (·.2))
  | [], _ => .nil
  | p :: L, h => .cons ⟨p.1, rfl, h p List.mem_cons_self⟩ (paired_refs fun q hq => h q (List.mem_cons_of_mem _ hq))
theorem vals_refs' : ∀ (ks : List (Addr × List Str)), Vals (ks.map fun p => V.ref p.1) (ks.map fun p => Value.ref p.1)
  | [] => .nil
  | _ :: ks => .cons rfl (vals_refs' ks)
theorem perm_back {α β : Type} [BEq β] [LawfulBEq β] {f : α → β} : ∀ {L : List α} {vs : List β}, vs.Perm (L.map f) → ∃ M : List α, vs = M.map f ∧ M.Perm L
  | L, [], h => by
    have z := h.length_eq
    rw [List.length_map] at z
    exact ⟨[], rfl, by rw [List.eq_nil_of_length_eq_zero z.symm]⟩
  | L, v :: vs, h => by
    have hv : v ∈ L.map f := h.mem_iff.mp List.mem_cons_self
    obtain ⟨a, ha, rfl⟩ := List.mem_map.mp hv
    obtain ⟨l1, l2, rfl⟩ := List.append_of_mem ha
    have p1 : (l1 ++ a :: l2).Perm (a :: (l1 ++ l2)) := List.perm_middle
    have p2 := h.trans (p1.map f)
    obtain ⟨M, rfl, pm⟩ := perm_back (L := l1 ++ l2) (List.perm_cons _ |>.mp p2)
    exact ⟨a :: M, rfl, (pm.cons a).trans p1.symm⟩
theorem cr_srtX (hc : X.calm = true) (hu : X.A.units + 2 < cLine) : CallR X (.builtin "sorted") (rSrtX X.K X.prog X.w) := by
  intro pins s σ H vs us Q I r h
  obtain ⟨a, L, rfl, ha, hk, q⟩ := h
  rw [Vals.ref1 r]
  obtain ⟨es, ep, t, ⟨o, ho, hex, hd⟩, rw1, tb, uq, sd, rm, fw⟩ : T0 X.prog X.w s.heap a L := (I.hok a _ ha).1
  have R : TT X.prog X.w s.heap a L es ep t := ⟨⟨o, ho, hex, hd⟩, rw1, tb, uq, fun p hp => tkS_of I (hk p hp), sd, rm, fw⟩
  have sz := rws_len rw1
  refine sortSS_any (nss0 := L.map (·.2)) hu (fun E' Q' go => ?_) q
  refine collect_set (A := X.A.in1) (I.ok.hd hc) (⟨o, ho, hex.1, hd⟩ : SetAt s.heap a es ep t) R.fit (by rw [sz]; exact Nat.lt_trans fw (by decide)) tb.ris sd fun s1 vs k1 hz g1 o1 pm => ?_
  have ee : es.toList.map (·.2) = L.map fun p => Value.ref p.1 := by
    rw [rw1, List.map_map]
    rfl
  rw [ee] at pm
  obtain ⟨M, rfl, pM⟩ := perm_back pm
  have J : Inv X pins σ H s1 := I.call' (ch := []) o1 (Un.kept k1) (I.hok.kept k1) (by rw [g1]; exact I.bare) (fun _ y => nomatch y)
  exact go _ _ (M.map (·.2)) s1 J (vals_refs' M) (by rw [List.length_map, pM.length_eq, sizeLine_eq]; omega) (paired_refs fun p hp => hk p (pM.mem_iff.mp hp)) (pM.map _)
end
/-- sorted(set(xs)) -/
def dSrtS (a : DO) : DE := ⟨a.m, fun ρ P R => a ρ (fun oa ρ1 => (∃ ss : List Str, (rs ρ1 oa = some (.d (.list (ss.map .str))) ∨ rs ρ1 oa = some (.d (.tuple (ss.map .str)))) ∧ ss.length < 64 ∧ ∀ ms : List Str, sortedS ms = true → ms.Nodup → (∀ k, k ∈ ms ↔ k ∈ ss) → P (.d (.list (ms.map .str))) true ρ1) ∨
  ∃ nss : List (List Str), rs ρ1 oa = some (.d (.list (nss.map tupS))) ∧ nss.length < 64 ∧ ∀ mss : List (List Str), mss.Nodup → (∀ k, k ∈ mss ↔ k ∈ nss) → mss.Pairwise (fun a b => ltSS b a = false) → P (.d (.list (mss.map tupS))) true ρ1) R⟩
theorem reps_tups {K : PySem.W.Frag} {H : Hp} {M : List Addr} : ∀ {nss : List (List Str)} {vs : List V}, RepL K H M vs (nss.map tupS) → ∃ ks : List (Addr × List Str), vs = ks.map (fun p => V.ref p.1) ∧ ks.map (·.2) = nss ∧ ∀ p ∈ ks, SqT K H p.1 (p.2.map V.str)
  | [], _, r => by cases r; exact ⟨[], rfl, rfl, fun _ z => nomatch z⟩
  | ss :: nss, _, r => by
    cases r with
    | cons r0 r1 =>
      obtain ⟨ks, rfl, e, h⟩ := reps_tups r1
      have r0 : Rep K H M _ (.tuple (ss.map .str)) := r0
      cases r0 with
      | tup ha rl =>
        refine ⟨(_, ss) :: ks, rfl, by rw [List.map_cons, e], fun p hp => ?_⟩
        rcases List.mem_cons.mp hp with rfl | hp
        · rw [← rl.strs]; exact ha
        · exact h p hp
section
variable {Wp : Wk → Prop} {E : XK} {X : Cx} {ea : Expr} {a : DO} {pos p1 p2 p3 : Pos}
theorem qSrtS (g : Gx X) (h1 : X.mg "sorted" = none) (h2 : X.mg "set" = none) (ja : JO Wp E X ea a) (hg1 : Gl X "sorted" := by rfl) (hg2 : Gl X "set" := by rfl)
    (hs1 : starEach [.Call (.Name "set" p2) [ea] [] p3] X.env = (false, eval (.Call (.Name "set" p2) [ea] [] p3) X.env) :: starEach [] X.env := by rfl) (hs2 : starEach [ea] X.env = (false, eval ea X.env) :: starEach [] X.env := by rfl)
    (hp1 : (backTo pos (starEach [] X.env)).any (·.1) = false := by rfl) (hp2 : (backTo p3 (starEach [] X.env)).any (·.1) = false := by rfl) : JE Wp E X (.Call (.Name "sorted" p1) [.Call (.Name "set" p2) [ea] [] p3] [] pos) (dSrtS a) := by
  have un := g.un
  have inner := pe_callTy (X := X) (p := p2) (pos := p3) (cr_setX g.calm (by omega)) hg2 h2 (by rfl) (pa_cons ja pa_nil hs2) (by decide) (by decide) hs2 hp2
  refine (pe_callB ((cr_setS g.calm).or (cr_srtX g.calm (by omega))) hg1 h1 (by rfl) (pa_cons inner pa_nil hs1) (by decide) (by decide) hs1 hp1).weak fun σ H Q ⟨W, B, M0, ρ, M, P, R, w, G, d, x, h⟩ => ?_
  refine lO_go w G d x fun oa ρ1 v H1 M1 c G1 k1 => ?_
  rcases c with ⟨ss, e1, h64, c⟩ | ⟨nss, e1, h64, c⟩
  · have src : ∃ l, v = V.ref l ∧ (SqL X.K H1 l (ss.map V.str) ∨ SqT X.K H1 l (ss.map V.str)) := by
      rcases e1 with e1 | e1
      · obtain ⟨l, vs, rfl, hl, rl⟩ := (OpdOk.pk G1 k1 e1).list_inv
        exact ⟨l, rfl, .inl (SqL.of (by rw [← rl.strs]; exact hl))⟩
      · obtain ⟨l, vs, rfl, hl, rl⟩ := (OpdOk.pk G1 k1 e1).tup_inv
        exact ⟨l, rfl, .inr (by rw [← rl.strs]; exact hl)⟩
    obtain ⟨l, rfl, hl⟩ := src
    refine ⟨l, rfl, .inl ⟨ss, hl, h64, fun p m hp nd hm => .inl ⟨p, m, rfl, upd_same, Nat.lt_of_le_of_lt (nodup_len nd fun k z => (hm k).mp z) h64, fun ms q so pm hq => ?_⟩⟩⟩
    exact h _ _ _ _ _ _ (c ms so (pm.nodup_iff.mpr nd) fun k => pm.mem_iff.trans (hm k)) (Res.new (G1.grow hp) hq (RepL.of_strs _))
  · obtain ⟨l, vs, rfl, hl, rl⟩ := (OpdOk.pk G1 k1 e1).list_inv
    obtain ⟨ks, rfl, rfl, hk⟩ := reps_tups rl
    refine ⟨l, rfl, .inr ⟨ks, SqL.of hl, hk, by rw [List.length_map] at h64; exact h64, fun p L hp sub all nd => .inr ⟨p, L, rfl, upd_same, fun q hq => (Kp.fresh (M := []) hp).sqT (hk q (sub q hq)), fun ys mss q pp pm pw hq => ?_⟩⟩⟩
    refine h _ _ _ _ _ _ (c mss (pm.nodup_iff.mpr nd) (fun k => ?_) pw) (Res.new (G1.grow hp) hq (RepL.of_tups pp))
    rw [pm.mem_iff]
    constructor
    · intro z
      obtain ⟨q, hq, rfl⟩ := List.mem_map.mp z
      exact List.mem_map.mpr ⟨q, sub q hq, rfl⟩
    · intro z
      obtain ⟨q, hq, rfl⟩ := List.mem_map.mp z
      exact all q hq
end
end G9

/-! E2: sets of ints: sorted(set(xs)), sorted({b for a, b in xs}), over wants. -/
namespace G9
open PySem PySem.Spec L2 PyProof.Rows PySem.Froz
def insI (k : Int) (l : List Int) : List Int := if k ∈ l then l else k :: l
theorem insI_nd {k : Int} {l : List Int} (h : l.Nodup) : (insI k l).Nodup := by
  unfold insI
  split
  · exact h
  · rename_i n
    exact List.nodup_cons.mpr ⟨n, h⟩
theorem insI_mem {k j : Int} {l : List Int} : j ∈ insI k l ↔ j ∈ l ∨ j = k := by
  unfold insI
  split
  · rename_i n
    exact ⟨.inl, fun z => z.elim id fun e => by rw [e]; exact n⟩
  · rw [List.mem_cons]
    exact Or.comm
/-- the set of the ints l at a -/
abbrev SI (l : List Int) : Int → Bool := fun j => decide (j ∈ l)
def SetIO (w : World) (a : Addr) (l : List Int) : HO := SetO w a (SI l) l.length
theorem si_ins (k : Int) (l : List Int) : (fun j => SI l j || decide (j = k)) = SI (insI k l) := by
  funext j
  show (decide (j ∈ l) || decide (j = k)) = decide (j ∈ insI k l)
  rw [Bool.eq_iff_iff]
  simp [insI_mem]
theorem si_len (k : Int) (l : List Int) : (if SI l k = true then l.length else l.length + 1) = (insI k l).length := by
  unfold insI SI
  by_cases h : k ∈ l <;> simp [h]
section
variable {P : Program} {w : World} {A : Around} {E : Value → Shared → Prop} {s : Shared}
theorem setI_put {a : Addr} {l : List Int} {k : Int} {u : Tok} {Q : Bool → Shared → Prop} (R : SetR w s.heap a (SI l) l.length) (room : l.length + 1 < scanBound)
    (q : ∀ b h', Heap.SameBut a s.heap h' → SetR w h' a (SI (insI k l)) (insI k l).length → Q b { s with heap := h', toks := s.toks + 1 }) : wpAny (model P w) A (setAdd a (.int k u)) Q E s := by
  unfold setAdd
  refine wpAny_holding (wpAny_bind ((intKind P w).pyHash (intKind_is P w k u) ?_))
  refine setR_add_hashed (s := { s with toks := s.toks + 1 }) R room fun h' sb r => q _ h' sb ?_
  rw [si_ins, si_len] at r
  exact r
theorem addsI {S : Addr} {h0 : Heap} {items : Array Value} {ns : List Int} (hi : IntsAre items.toList ns) (h64 : ns.length < 64) :
    Adds P w S h0 items.size (fun i v => items[i]? = some v) (fun i h => ∃ l : List Int, l.Nodup ∧ SetR w h S (SI l) l.length ∧ ∀ k, k ∈ l ↔ k ∈ ns.take i) where
  keep := fun i h h' ⟨l, nd, R, m⟩ q _ => ⟨l, nd, R.at q, m⟩
  step := fun A E i v s Q hu lt hv _ ⟨l, nd, R, m⟩ q => by
    have hv' : items.toList[i]? = some v := by rw [Array.getElem?_toList]; exact hv
    have go : ∀ {us : List Value} {ns : List Int} {i : Nat}, IntsAre us ns → us[i]? = some v → ∃ k t, ns[i]? = some k ∧ v = .int k t := by
      intro us ns i h
      induction h generalizing i with
      | nil => intro z; simp at z
      | cons x t r ih =>
        intro z
        cases i with
        | zero => simp at z; exact ⟨x, t, rfl, z.symm⟩
        | succ i => exact ih (by simpa using z)
    obtain ⟨k, t, hk, rfl⟩ := go hi hv'
    have bl : l.length ≤ ns.length := nodup_len nd fun j hj => List.mem_of_mem_take ((m j).mp hj)
    have room : l.length + 1 < scanBound := by have : 65 < scanBound := by decide
                                               omega
    refine setI_put R room fun b h' sb r => q b h' _ (Nat.le_succ _) sb ⟨_, insI_nd nd, r, fun j => ?_⟩
    rw [insI_mem, m j, List.take_add_one, hk]
    simp
end
section
variable {X : Cx} {pins : List (Addr × Obj)} {σ : L2.St} {H : Hp} {s : Shared}
/-- set(xs) of a list of ints -/
def rSetIL (K : PySem.W.Frag) (w : World) : List V → Hp → VK → Prop := fun vs H Q => ∃ (l : Addr) (ns : List Int), vs = [V.ref l] ∧ SqL K H l (ns.map V.int) ∧ ns.length < 64 ∧ ∀ a m, H a = none → m.Nodup → (∀ k, k ∈ m ↔ k ∈ ns) → Q (.ref a) (upd H a (SetIO w a m))
theorem cr_setIL (hc : X.calm = true) (hu : X.A.units + 64 < cLine) : CallR X (.type "set") (rSetIL X.K X.w) := by
  intro pins s σ H vs us Q I r h
  obtain ⟨l, ns, rfl, hl, h64, q⟩ := h
  rw [Vals.ref1 r]
  have nn : H s.heap.objs.size = none := I.hok.fresh (Nat.le_refl _)
  obtain ⟨its, rv, ⟨o, n, ho, hc', _, hd⟩, _⟩ := I.list hl
  refine setCall (I.ok.hd hc) (by omega) ⟨o, ho, .inl hc', n, hd⟩ (addsI (ns := ns) (by simpa using ints_of_vals rv) h64) (fun h g _ => ⟨[], List.nodup_nil, ?_, fun k => by simp⟩) fun h' tk ⟨m, nd, R, hm⟩ k => ?_
  · have z := setR_fresh (h := s.heap) X.w
    have e : (fun _ : Int => false) = SI [] := by funext j; simp [SI]
    rw [e] at z
    exact z.at fun o q => by
      rw [Heap.get?_push_size _ rfl] at q
      cases q
      exact g
  · have sz : its.toArray.size = ns.length := by rw [List.size_toArray, ← rv.length, List.length_map]
    rw [sz, List.take_length] at hm
    exact ⟨.ref _, _, I.laid (t' := tk) k (Nat.le_refl _) (setO_new R), rfl, q _ m nn nd hm⟩
theorem addI_ok {E : Value → Shared → Prop} {D : Addr} {l : List Int} {y : Int} {tk : Tok} {Q : Value → Shared → Prop} (I : Inv X pins σ H s) (hD : H D = some (SetIO X.w D l)) (room : l.length + 1 < scanBound)
    (h : ∀ z, Inv X pins σ (upd H D (SetIO X.w D (insI y l))) z → Q .none z) : wpAny (model X.prog X.w) X.A (call (.builtin "set.add") [.ref D, .int y tk]) Q E s := by
  have R := setO_get I hD
  refine setR_add R room fun h' sb new => ?_
  rw [si_ins, si_len] at new
  have ⟨o, _, _, _, g, _⟩ := new
  exact h _ (I.write (e := D) (t' := s.toks + 1) (by rw [hD]; trivial) (.inl rfl) (fun b u hb hu => (sb.2 b hb).trans hu) ⟨_, g⟩ (setO_new new))
end
section
variable {X : Cx}
/-- {e for .. in .. if ..}, of ints; D: the new set -/
def tScI (w : World) (wo : TI) (go : TG) (co : L2.TT) (te : TE) (vs : List Nat) : TE := fun σ H Q => wo σ H fun J H1 => ∀ D, H1 D = none → ∃ U : Nat → Nat → Hp → Prop, (∃ m, U 0 m (upd H1 D (SetIO w D []))) ∧ ∀ i m H, U i m H →
  (J.stop i H ∧ Q (.ref D) H) ∨ (J.go i H ∧ ∃ Nx : Hp → Prop, (∀ H', Nx H' → ∃ m', m' < m ∧ U (i + 1) m' H') ∧ ∀ x H', J.yld i H x H' → go x (wipe σ vs) H' fun σ2 H2 => wipe σ2 vs = wipe σ vs ∧ co σ2 H2 fun b H3 =>
    if b = true then te σ2 H3 fun y H7 => ∃ z l, y = .int z ∧ H7 D = some (SetIO w D l) ∧ l.length + 1 < scanBound ∧ Nx (upd H7 D (SetIO w D (insI z l))) else Nx H3)
variable {e t i : Expr} {cs : List Expr} {sc : Scope} {p : Pos} {own : List (Str × Nat)} {wo : TI} {go : TG} {co : L2.TT} {te : TE}
theorem pe_scI (hc : X.calm = true) (hN : X.N.Nodup) (ok : BlkOk X.N X.env.scope sc own) (ho : PI X t i wo)
    (hgo : ∀ (s : Shared) (H : Hp) (C : Addr) (cl : List (Str × Addr)) (fp : List Addr), PG (X.blk s H sc (compEnvC sc cl C X.env) fp) t go)
    (hco : ∀ (s : Shared) (H : Hp) (C : Addr) (cl : List (Str × Addr)) (fp : List Addr), PTs (X.blk s H sc (compEnvC sc cl C X.env) fp) cs co)
    (hte : ∀ (s : Shared) (H : Hp) (C : Addr) (cl : List (Str × Addr)) (fp : List Addr), PE (X.blk s H sc (compEnvC sc cl C X.env) fp) e te)
    (f1 : ∀ x, foldedSetIterable i X.env x = pure x := by intro _; rfl) :
    PE X (.SetComp e [⟨t, i, cs, 0⟩] sc p) (tScI X.w wo go co te (own.map (·.2))) := by
  refine ⟨fun pins s σ H Q I h => ?_⟩
  rw [PpSet.eval_SetComp]
  have free : ∀ y ∈ sc.names, y.2 = .free → ∃ c, X.env.cells.lookup y.1 = some c := fun y hy q => (ok.free y hy q).elim (fun k => I.ok.has _ (.inl k)) fun k => I.ok.has _ (.inr k)
  refine wpAny_comprehension_free (use := none) rfl f1 (closure_ok free) ok.kind (fun y hy q => by rw [ok.uniq y hy, q]) ?_
  refine thn (ho.run pins s σ H _ I h) fun _ s1 q1 => thn q1 fun _ s2 q2 => ?_
  obtain ⟨it, fp, tn, J, H2, rfl, I2, T, st2, fp2, q⟩ := q2
  refine PpSet.newSet_ok (newEnv_comp ?_)
  generalize hD : s2.heap.objs.size = D
  have D0 : H2 D = none := I2.hok.fresh (Nat.le_of_eq hD)
  obtain ⟨U, ⟨m0, u0⟩, turn⟩ := q D D0
  generalize hs3 : ({ s2 with heap := s2.heap.push { cls := .type "set", dict := none, data := .set #[] 0 (.fresh 0 0 (!X.w.params.followText "set-order")) } } : Shared) = s3
  have hp3 : s3.heap = s2.heap.push { cls := .type "set", dict := none, data := .set #[] 0 (.fresh 0 0 (!X.w.params.followText "set-order")) } := by rw [← hs3]
  have I3 : Inv X pins σ (upd H2 D (SetIO X.w D [])) s3 := by
    rw [← hs3]
    refine I2.laid (t' := s2.toks) (fun _ _ z => Heap.get?_push_of_some _ z) (Nat.le_of_eq hD) ?_
    rw [← hD]
    refine setO_new ?_
    have z := setR_fresh (h := s2.heap) X.w
    have e : (fun _ : Int => false) = SI [] := by funext j; simp [SI]
    rw [e] at z
    exact z
  have lo : ∀ b ∈ fp, b < s2.heap.objs.size := fun b hb => (T.obj _ _ st2 b hb).elim fun o z => Heap.lt_size z.1
  have fp3 : ∀ b ∈ fp, FpOk X pins (upd H2 D (SetIO X.w D [])) b ∧ b < s3.heap.objs.size := fun b hb => by
    have l0 := lo b hb
    have ne : b ≠ D := by rw [← hD]; exact Nat.ne_of_lt l0
    exact ⟨⟨by rw [upd_ne ne]; exact (fp2 b hb).1, (fp2 b hb).2⟩, by rw [hp3, Heap.size_push]; exact Nat.lt_succ_of_lt l0⟩
  have st3 : tn 0 s3.heap := T.keep _ _ _ st2 fun b _ o z => by rw [hp3]; exact Heap.get?_push_of_some _ z
  have I4 := block_start I3 ok hN fp3
  have no3 : ∀ b ∈ fp, (upd H2 D (SetIO X.w D [])) b = none := fun b hb => (fp3 b hb).1.1
  show codeAny _ _ (.compStart (.SetComp e [⟨t, i, cs, 0⟩] sc p) 0 (.ref it) (.ref D) (compEnvC sc (cellsFrom (s3.heap.objs.size + 1) sc.names (cloFrom X.env.cells sc.names [])) s3.heap.objs.size X.env)) (compPost (model X.prog X.w) X.A X.xe none (EP X pins σ Q) (.ref D) s3.heap.objs.size) { s3 with heap := pushCells (s3.heap.push { cls := .type "dict", data := .dict #[] }) sc.names }
  generalize hcl : cellsFrom (s3.heap.objs.size + 1) sc.names (cloFrom X.env.cells sc.names []) = cl at I4 ⊢
  have a1 := hgo s3 (upd H2 D (SetIO X.w D [])) s3.heap.objs.size cl fp
  have a2 := hco s3 (upd H2 D (SetIO X.w D [])) s3.heap.objs.size cl fp
  have a6 := hte s3 (upd H2 D (SetIO X.w D [])) s3.heap.objs.size cl fp
  generalize hce : compEnvC sc cl s3.heap.objs.size X.env = ce at I4 a1 a2 a6 ⊢
  have cL : ce.locals = s3.heap.objs.size := by subst hce; rfl
  generalize hH3 : upd H2 D (SetIO X.w D []) = H3 at I3 I4 a1 a2 a6 u0 no3 fp3
  generalize hs4 : ({ s3 with heap := pushCells (s3.heap.push { cls := .type "dict", data := .dict #[] }) sc.names } : Shared) = s4 at I4 ⊢
  have st4 : tn 0 s4.heap := T.keep _ _ _ st3 fun b _ o z => by rw [← hs4]; exact pushCells_keeps _ _ _ _ (Heap.get?_push_of_some _ z)
  let X' : Cx := X.blk s3 H3 sc ce fp
  have fpo : ∀ {σ' : L2.St} {H' : Hp} {z : Shared}, Inv X' [] σ' H' z → (∀ b ∈ fp, H' b = none) → ∀ b ∈ fp, FpOk X' [] H' b := fun {_ _ _} I' hn b hb =>
    ⟨hn b hb, (I'.ok.exf b hb).1, I'.ok.exfs b hb, .inl hb, fun x c q => (I'.ok.exf b hb).2 x c q, fun r hr => absurd (show r ∈ ([] : List (Addr × Obj)) ++ [] from hr) (by simp)⟩
  let Z : Nat → Shared → Prop := fun n z => ∃ j H', Inv X' [] (wipe σ (own.map (·.2))) H' z ∧ tn j z.heap ∧ (∀ b ∈ fp, H' b = none) ∧ U j n H'
  have loop : codeAny (model X.prog X.w) X.A (.compLoop (.SetComp e [⟨t, i, cs, 0⟩] sc p) 0 (.ref it) (.ref D) ce) (compPost (model X.prog X.w) X.A X.xe none (EP X pins σ Q) (.ref D) s3.heap.objs.size) s4 := by
    refine PpSet.compLoopS_any Z ?_ m0 ⟨0, H3, I4, st4, no3, u0⟩
    rintro n s5 ⟨j, H5, I5, st5, n5, u5⟩
    rcases turn j n H5 u5 with ⟨stop, qq⟩ | ⟨goes, Nx, hNx, step⟩
    · refine thnF (T.done X' rfl rfl rfl hc j [] s5 _ H5 (fun _ _ => False) I5 (fpo I5 n5) st5 stop) fun r s6 ⟨hr, I6⟩ => ?_
      subst hr
      have I7 : Inv X pins σ H5 s6 := I3.call' (ch := fp) I6.os I6.base I6.hok I6.bare fun b hb => ⟨(fp3 b hb).1.2.2.2.1, (fp3 b hb).1.2.1, (fp3 b hb).1.2.2.2.2.1, (fp3 b hb).1.2.2.2.2.2⟩
      have nC : H5 s3.heap.objs.size = none := by
        have z : H5 ce.locals = none := I6.free
        rwa [cL] at z
      obtain ⟨m, hm, _⟩ := I6.loc
      have hm : s6.heap.Ns ce.locals m := hm
      rw [cL] at hm
      refine ⟨m, hm, fun h'' sb => ?_⟩
      obtain ⟨g0, g1, g2, g3, g4, g5⟩ := I3.fpOk (Nat.le_refl _) nC
      exact ⟨.ref D, H5, I7.turned (t' := s6.toks) (fun b o hb z => (sb.2 b hb).trans z) nC g1 g3 g4 g5, rfl, qq⟩
    · refine thnF (T.item X' rfl rfl rfl hc j [] s5 _ H5 (fun _ _ => False) I5 (fpo I5 n5) st5 goes) fun r s6 ⟨u, hr, h6⟩ => ?_
      subst hr
      refine thnF h6 fun _ s7 ⟨x, H7, I7, r7, y7, st7, n7⟩ => ?_
      refine thnF (a1.run _ s7 _ H7 x u _ (I7.pinned (fpo I7 n7) (T.obj _ _ st7)) r7 (step x H7 y7)) fun _ s8 ⟨σ8, H8, I8, w8, q8⟩ => ?_
      refine thnF (a2.run _ s8 σ8 H8 _ I8 q8) fun b s9 ⟨H9, I9, q9⟩ => ?_
      have fin : ∀ {z : Shared} {H' : Hp}, Inv X' ([] ++ pinsAt fp s7.heap) σ8 H' z → Nx H' → ∃ m, m < n ∧ Z m z := fun {z H'} I' nx => by
        obtain ⟨m', lt, u'⟩ := hNx H' nx
        have pin' : ∀ b ∈ fp, ∀ o, s7.heap.get? b = some o → z.heap.get? b = some o ∧ H' b = none := fun b hb o q =>
          let y := I'.pin (b, o) (List.mem_append_right _ (List.mem_append_right _ (mem_pinsAt hb q)))
          ⟨y.1, y.2.1⟩
        refine ⟨m', lt, j + 1, H', (I'.unpinned (pins := [])).weak (by rw [← w8, wipe_length]) (fun k v q => by rw [← w8] at q; exact (wipe_some q).1), T.keep _ _ _ st7 fun b hb o q => (pin' b hb o q).1, fun b hb => ?_, u'⟩
        obtain ⟨o, q, _⟩ := T.obj _ _ st7 b hb
        exact (pin' b hb o q).2
      cases b with
      | false =>
        simp only [Bool.false_eq_true, if_false] at q9 ⊢
        exact fin I9 q9
      | true =>
        simp only [if_true] at q9 ⊢
        refine thnF (a6.run _ s9 σ8 H9 _ I9 q9) fun z s10 ⟨yv, H10, I10, r10, ys, l, ey, hD10, hz10, nx⟩ => ?_
        subst ey
        obtain ⟨tk, rfl⟩ := r10
        exact addI_ok (X := X') I10 hD10 hz10 fun s11 I11 => fin I11 nx
  exact PpSet.codeAny_compStart_set loop (T.self X.A 0 _ _ _ st4 loop)
end
end G9

/-! E3: pairs (text, int): dict(list(ps)), {a: b for a, b in ps}, d.get(k), sorted({b for a, b in ps}), sorted(set(ns)), over wants. -/
namespace G9
open PySem PySem.Spec L2 PyProof.Rows PySem.Froz
def prD (p : Str × Int) : PyData := .tuple [.str p.1, .int p.2]
def kvI (p : Str × Int) : Key × V := (.inr p.1, .int p.2)
def enD (p : Str × Int) : PyData × PyData := (.str p.1, .int p.2)
def dicD (qs : List (Str × Int)) : PyData := .dict (qs.map enD)
def putP (acc : List (Str × Int)) (p : Str × Int) : List (Str × Int) := if (acc.any fun q => decide (q.1 = p.1)) = true then acc.map (fun q => if q.1 = p.1 then (q.1, p.2) else q) else acc ++ [p]
def mrg (ps : List (Str × Int)) : List (Str × Int) := ps.foldl putP []
theorem put_kv (qs : List (Str × Int)) (p : Str × Int) : putK (qs.map kvI) (.inr p.1) (.int p.2) = (putP qs p).map kvI := by
  have e : ((qs.map kvI).any fun kv => decide (kv.1 = Sum.inr p.1)) = (qs.any fun q => decide (q.1 = p.1)) := by
    rw [List.any_map]
    congr 1
    funext q
    simp [kvI]
  unfold putK putP
  rw [e]
  by_cases h : (qs.any fun q => decide (q.1 = p.1)) = true
  · rw [if_pos h, if_pos h, List.map_map, List.map_map]
    refine List.map_congr_left fun q _ => ?_
    show (if (Sum.inr q.1 : Key) = Sum.inr p.1 then ((Sum.inr q.1 : Key), V.int p.2) else (Sum.inr q.1, V.int q.2)) = kvI (if q.1 = p.1 then (q.1, p.2) else q)
    by_cases z : q.1 = p.1
    · rw [if_pos z, if_pos (by rw [z])]; rfl
    · rw [if_neg z, if_neg (fun y => z (Sum.inr.inj y))]; rfl
  · rw [if_neg h, if_neg h, List.map_append]
    rfl
theorem mrg_kv : ∀ (ps acc : List (Str × Int)), mergeK (acc.map kvI) (ps.map kvI) = (ps.foldl putP acc).map kvI
  | [], acc => rfl
  | p :: ps, acc => by
    show mergeK (putK (acc.map kvI) (.inr p.1) (.int p.2)) (ps.map kvI) = _
    rw [put_kv, mrg_kv ps]
    rfl
theorem putP_len (acc : List (Str × Int)) (p : Str × Int) : (putP acc p).length ≤ acc.length + 1 := by
  unfold putP
  split
  · rw [List.length_map]; omega
  · rw [List.length_append]; exact Nat.le_refl _
theorem fold_len : ∀ (ps acc : List (Str × Int)), (ps.foldl putP acc).length ≤ acc.length + ps.length
  | [], acc => Nat.le_refl _
  | p :: ps, acc => by
    have := fold_len ps (putP acc p)
    have := putP_len acc p
    rw [List.foldl_cons, List.length_cons]
    omega
theorem val_kv (qs : List (Str × Int)) (k : Str) : valV (qs.map kvI) (.inr k) = (qs.lookup k).map V.int := by
  induction qs with
  | nil => rfl
  | cons q r ih =>
    by_cases z : q.1 = k
    · rw [List.map_cons, valV_pos (show (kvI q).1 = Sum.inr k by rw [← z]; rfl)]
      obtain ⟨a, b⟩ := q
      have z : a = k := z
      subst z
      simp [List.lookup, kvI]
    · rw [List.map_cons, valV_neg (fun y => z (Sum.inr.inj y)), ih]
      obtain ⟨a, b⟩ := q
      have z : ¬ a = k := z
      have e : (k == a) = false := by simpa using fun y => z y.symm
      simp [List.lookup, e]
section
variable {K : PySem.W.Frag} {H : Hp} {M : List Addr}
theorem reps_int : ∀ (qs : List (Str × Int)), RepL K H M ((qs.map kvI).map (·.2)) (qs.map fun p => .int p.2)
  | [] => .nil
  | p :: r => .cons (.int p.2) (reps_int r)
theorem zip_en (qs : List (Str × Int)) : ((qs.map kvI).map fun p => keyD p.1).zip (qs.map fun p => PyData.int p.2) = qs.map enD := by
  induction qs with
  | nil => rfl
  | cons q r ih => rw [List.map_cons, List.map_cons, List.map_cons, List.zip_cons_cons, ih]; rfl
theorem rep_dic {a : Addr} {qs : List (Str × Int)} (hn : a ∉ M) (ha : H a = some (.dK (qs.map kvI))) : Rep K H M (.ref a) (dicD qs) := by
  have r := Rep.dct (K := K) hn ha (reps_int qs)
  rw [zip_en] at r
  exact r
theorem dic_back : ∀ {kvs : List (Key × V)} {ds : List PyData} {qs : List (Str × Int)}, RepL K H M (kvs.map (·.2)) ds → (kvs.map fun p => keyD p.1).zip ds = qs.map enD → kvs = qs.map kvI
  | [], _, qs, r, e => by
    cases r
    cases qs with
    | nil => rfl
    | cons q r => cases e
  | kv :: kvs, dds, qs, r, e => by
    cases r with
    | @cons _ _ dd dds' r0 r1 =>
      cases qs with
      | nil => cases e
      | cons q qs =>
        rw [List.map_cons, List.zip_cons_cons, List.map_cons] at e
        injection e with e0 e1
        have i := dic_back r1 e1
        obtain ⟨k, v⟩ := kv
        have e2 : keyD k = .str q.1 := congrArg Prod.fst e0
        have e3 : dd = PyData.int q.2 := congrArg Prod.snd e0
        subst e3
        have e4 := Rep.int_inv r0
        have e4 : v = .int q.2 := e4
        rw [i, e4]
        cases k with
        | inl n => cases e2
        | inr x =>
          have e2 : PyData.str x = .str q.1 := e2
          injection e2 with e2
          rw [e2]
          rfl
theorem dic_inv {v : V} {qs : List (Str × Int)} (r : Rep K H M v (dicD qs)) : ∃ a, v = .ref a ∧ a ∉ M ∧ H a = some (.dK (qs.map kvI)) := by
  unfold dicD at r
  generalize hq : qs.map enD = l at r
  cases r with
  | dct hn ha rl => exact ⟨_, rfl, hn, by rw [← dic_back rl hq.symm]; exact ha⟩
theorem reps_pr : ∀ {ps : List (Str × Int)} {vs : List V}, RepL K H M vs (ps.map prD) → ∃ as : List Addr, vs = as.map V.ref ∧ Paired (fun a (p : Str × Int) => SqT K H a [V.str p.1, V.int p.2]) as ps
  | [], _, r => by cases r; exact ⟨[], rfl, .nil⟩
  | p :: ps, _, r => by
    cases r with
    | cons r0 r1 =>
      obtain ⟨as, rfl, h⟩ := reps_pr r1
      have r0 : Rep K H M _ (.tuple [.str p.1, .int p.2]) := r0
      cases r0 with
      | tup ha rl =>
        cases rl with
        | cons q1 q2 =>
          cases q2 with
          | cons q2 q3 =>
            cases q3
            have e1 := Rep.str_inv q1
            have e2 := Rep.int_inv q2
            subst e1 e2
            exact ⟨_ :: as, rfl, .cons ha h⟩
end
theorem pair_kv {K : PySem.W.Frag} {H H' : Hp} (k : Kp [] H H') : ∀ {as : List Addr} {ps : List (Str × Int)}, Paired (fun a (p : Str × Int) => SqT K H a [V.str p.1, V.int p.2]) as ps → Paired (fun a (kv : Key × V) => SqT K H' a [kV kv.1, kv.2]) as (ps.map kvI)
  | _, _, .nil => .nil
  | _, _, .cons h t => .cons (k.sqT h) (pair_kv k t)
theorem wipe_put {q : Nat} {v : V} {τ : L2.St} {us : List Nat} (hq : q ∈ us) : wipe (τ.set q (some v)) us = wipe τ us := by
  refine List.ext_getElem? fun a => ?_
  rw [wipe_at, wipe_at, List.length_set]
  by_cases c : a ∈ us ∧ a < τ.length
  · rw [if_pos c, if_pos c]
  · rw [if_neg c, if_neg c]
    by_cases e : q = a
    · subst e
      have lt : ¬ q < τ.length := fun z => c ⟨hq, z⟩
      rw [List.getElem?_eq_none (by rw [List.length_set]; omega), List.getElem?_eq_none (by omega)]
    · rw [List.getElem?_set_ne e]
theorem wipe_two {σ : L2.St} {us : List Nat} : wipe (wipe σ us) us = wipe σ us := by
  refine List.ext_getElem? fun a => ?_
  rw [wipe_at, wipe_length, wipe_at]
  by_cases c : a ∈ us ∧ a < σ.length
  · rw [if_pos c, if_pos c]
  · rw [if_neg c, if_neg c]
/-! ### the wants -/
def dMin2 (a b : DE) : DE := ⟨a.m + b.m, fun ρ P R => a ρ (fun u _ ρ1 => ∃ i, u = .d (.int i) ∧ b ρ1 (fun u' _ ρ2 => ∃ j, u' = .d (.int j) ∧ P (.d (.int (if j < i then j else i))) false ρ2) R) R⟩
/-- sorted(set(ns)) -/
def dSrtI (a : DO) : DE := ⟨a.m, fun ρ P R => a ρ (fun oa ρ1 => ∃ ns : List Int, rs ρ1 oa = some (.d (.list (ns.map .int))) ∧ ns.length < 64 ∧ ∀ ms : List Int, ms.Pairwise (· < ·) → (∀ k, k ∈ ms ↔ k ∈ ns) → P (.d (.list (ms.map .int))) true ρ1) R⟩
/-- sorted({b for a, b in ps}) -/
def dSrtC (a : DE) : DE := ⟨a.m, fun ρ P R => a ρ (fun u _ ρ1 => ∃ ps : List (Str × Int), u = .d (.tuple (ps.map prD)) ∧ ps.length < 64 ∧ ∀ ms : List Int, ms.Pairwise (· < ·) → (∀ k, k ∈ ms ↔ k ∈ ps.map (·.2)) → P (.d (.list (ms.map .int))) true ρ1) R⟩
/-- {a: b for a, b in ps} -/
def dDcP (a : DE) : DE := ⟨a.m, fun ρ P R => a ρ (fun u _ ρ1 => ∃ ps : List (Str × Int), u = .d (.tuple (ps.map prD)) ∧ ps.length < 64 ∧ P (.d (dicD (mrg ps))) false ρ1) R⟩
/-- dict(list(ps)) -/
def dDctL (a : DO) : DE := ⟨a.m, fun ρ P R => a ρ (fun oa ρ1 => ∃ ps : List (Str × Int), rs ρ1 oa = some (.d (.tuple (ps.map prD))) ∧ P (.d (dicD (mrg ps))) false ρ1) R⟩
def lkD (qs : List (Str × Int)) (k : Str) : PyData := ((qs.lookup k).map PyData.int).getD .none
/-- d.get(k); d.get(k, None) -/
def dGet (a b : DO) : DE := ⟨a.m + b.m, fun ρ P R => a ρ (fun oa ρ1 => (∃ qs : List (Str × Int), rs ρ1 oa = some (.d (dicD qs))) ∧ b ρ1 (fun ob ρ2 => ∃ (qs : List (Str × Int)) (k : Str), rs ρ2 oa = some (.d (dicD qs)) ∧ rs ρ2 ob = some (.d (.str k)) ∧ P (.d (lkD qs k)) false ρ2) R) R⟩
section
variable {Wp : Wk → Prop} {E : XK} {X : Cx} {ea eb ec : Expr} {a b : DO} {da : DE} {pos p1 p2 p3 q0 q1 apos : Pos} {y1 y2 : Str} {scope : Scope}
theorem qSrtI (g : Gx X) (h1 : X.mg "sorted" = none) (h2 : X.mg "set" = none) (ja : JO Wp E X ea a) (hg1 : Gl X "sorted" := by rfl) (hg2 : Gl X "set" := by rfl)
    (hs1 : starEach [.Call (.Name "set" p2) [ea] [] p3] X.env = (false, eval (.Call (.Name "set" p2) [ea] [] p3) X.env) :: starEach [] X.env := by rfl) (hs2 : starEach [ea] X.env = (false, eval ea X.env) :: starEach [] X.env := by rfl)
    (hp1 : (backTo pos (starEach [] X.env)).any (·.1) = false := by rfl) (hp2 : (backTo p3 (starEach [] X.env)).any (·.1) = false := by rfl) : JE Wp E X (.Call (.Name "sorted" p1) [.Call (.Name "set" p2) [ea] [] p3] [] pos) (dSrtI a) := by
  have un := g.un
  have inner := pe_callTy (X := X) (p := p2) (pos := p3) (cr_setIL g.calm (by omega)) hg2 h2 (by rfl) (pa_cons ja pa_nil hs2) (by decide) (by decide) hs2 hp2
  refine (pe_callB (cr_sortedSet g.calm) hg1 h1 (by rfl) (pa_cons inner pa_nil hs1) (by decide) (by decide) hs1 hp1).weak fun σ H Q ⟨W, B, M0, ρ, M, P, R, w, G, d, x, h⟩ => ?_
  refine lO_go w G d x fun oa ρ1 v H1 M1 c G1 k1 => ?_
  obtain ⟨ns, e1, h64, c⟩ := c
  obtain ⟨l, vs, rfl, hl, rl⟩ := (OpdOk.pk G1 k1 e1).list_inv
  refine ⟨l, ns, rfl, SqL.of (by rw [← rl.ints]; exact hl), h64, fun p m hp nd hm => ⟨p, SI m, m.length, rfl, upd_same, Nat.lt_of_le_of_lt (nodup_len nd fun k z => (hm k).mp z) h64, fun ms q pw mm _ hq => ?_⟩⟩
  exact h _ _ _ _ _ _ (c ms pw fun k => by rw [mm k, ← hm k]; simp [SI]) (Res.new (G1.grow hp) hq (RepL.of_ints _))
/-- d.get(k) -/
theorem qGet1 (g : Gx X) (ja : JO Wp E X ea a) (jb : JO Wp E X eb b) (h1 : attributeBase ea "get" X.env (eval ea X.env) = eval ea X.env := by rfl)
    (h2 : ((backTo pos (starEach [eb] X.env)).all (fun x => !x.1) && (backToKw pos (keywordEach [] X.env)).all (fun x => x.1.isSome)
      && decide (([eb] : List Expr).length + ([] : List Keyword).length + (if ([] : List Keyword).isEmpty then 0 else 1) < 30)) = true := by rfl) (h3 : (apos.endLine == pos.line) = true := by rfl) (h4 : backTo pos (starEach [eb] X.env) = [(false, eval eb X.env)] := by rfl) :
    JE Wp E X (.Call (.Attribute ea "get" apos) [eb] [] pos) (dGet a b) := by
  have un := g.un
  refine (pe_dget1 (by omega) ja jb ⟨h1, h2, h3, h4⟩).weak fun σ H Q ⟨W, B, M0, ρ, M, P, R, w, G, d, x, h⟩ => ?_
  refine lO_go w G d x fun oa ρ1 v H1 M1 c G1 k1 => ?_
  obtain ⟨⟨qs0, e0⟩, c⟩ := c
  obtain ⟨l, rfl, _, hl⟩ := dic_inv (OpdOk.pk G1 k1 e0)
  refine ⟨l, rfl, .inl ⟨_, .inl hl⟩, lO_go' w G1.base c x.cons fun ob ρ2 u H2 M2 c2 G2 k2 => ?_⟩
  obtain ⟨qs, k, e1, e2, c⟩ := c2
  obtain ⟨l', el, _, hl2⟩ := dic_inv (OpdOk.pk G2 (OpdOk.later G2 k1) e1)
  cases el
  obtain rfl := RepPk.str_inv (OpdOk.pk G2 k2 e2)
  refine ⟨_, DGet.k (k := .inr k) hl2, ?_⟩
  rw [val_kv]
  refine h _ _ _ _ _ _ c (.of G2.tail ?_)
  unfold lkD
  cases qs.lookup k with
  | none => exact Rep.non
  | some n => exact Rep.int n
/-- d.get(k, None) -/
theorem qGet2 {i : Nat} (g : Gx X) (ja : JO Wp E X ea a) (jb : JO Wp E X eb b) (h1 : attributeBase ea "get" X.env (eval ea X.env) = eval ea X.env := by rfl)
    (h2 : ((backTo pos (starEach [eb, .Constant .none i p2] X.env)).all (fun x => !x.1) && (backToKw pos (keywordEach [] X.env)).all (fun x => x.1.isSome)
      && decide (([eb, .Constant .none i p2] : List Expr).length + ([] : List Keyword).length + (if ([] : List Keyword).isEmpty then 0 else 1) < 30)) = true := by rfl) (h3 : (apos.endLine == pos.line) = true := by rfl) (h4 : backTo pos (starEach [eb, .Constant .none i p2] X.env) = [(false, eval eb X.env), (false, eval (.Constant .none i p2) X.env)] := by rfl) :
    JE Wp E X (.Call (.Attribute ea "get" apos) [eb, .Constant .none i p2] [] pos) (dGet a b) := by
  have un := g.un
  refine (pe_dget2 (by omega) ja jb pe_non ⟨h1, h2, h3, h4⟩).weak fun σ H Q ⟨W, B, M0, ρ, M, P, R, w, G, d, x, h⟩ => ?_
  refine lO_go w G d x fun oa ρ1 v H1 M1 c G1 k1 => ?_
  obtain ⟨⟨qs0, e0⟩, c⟩ := c
  obtain ⟨l, rfl, _, hl⟩ := dic_inv (OpdOk.pk G1 k1 e0)
  refine ⟨l, rfl, .inl ⟨_, .inl hl⟩, lO_go' w G1.base c x.cons fun ob ρ2 u H2 M2 c2 G2 k2 => ?_⟩
  obtain ⟨qs, k, e1, e2, c⟩ := c2
  obtain ⟨l', el, _, hl2⟩ := dic_inv (OpdOk.pk G2 (OpdOk.later G2 k1) e1)
  cases el
  obtain rfl := RepPk.str_inv (OpdOk.pk G2 k2 e2)
  refine ⟨_, DGet.k (k := .inr k) hl2, ?_⟩
  rw [val_kv]
  refine h _ _ _ _ _ _ c (.of G2.tail ?_)
  unfold lkD
  cases qs.lookup k with
  | none => exact Rep.non
  | some n => exact Rep.int n
/-- dict(list(ps)) -/
theorem qDctL (g : Gx X) (h1 : X.mg "dict" = none) (h2 : X.mg "list" = none) (ja : JO Wp E X ea a) (hg1 : Gl X "dict" := by rfl) (hg2 : Gl X "list" := by rfl)
    (hs1 : starEach [.Call (.Name "list" p2) [ea] [] p3] X.env = (false, eval (.Call (.Name "list" p2) [ea] [] p3) X.env) :: starEach [] X.env := by rfl) (hs2 : starEach [ea] X.env = (false, eval ea X.env) :: starEach [] X.env := by rfl)
    (hp1 : (backTo pos (starEach [] X.env)).any (·.1) = false := by rfl) (hp2 : (backTo p3 (starEach [] X.env)).any (·.1) = false := by rfl) : JE Wp E X (.Call (.Name "dict" p1) [.Call (.Name "list" p2) [ea] [] p3] [] pos) (dDctL a) := by
  have inner := pe_callTy (X := X) (p := p2) (pos := p3) call_list_of hg2 h2 (by rfl) (pa_cons ja pa_nil hs2) (by decide) (by decide) hs2 hp2
  refine (pe_callTy (call_dictP g.calm) hg1 h1 (by rfl) (pa_cons inner pa_nil hs1) (by decide) (by decide) hs1 hp1).weak fun σ H Q ⟨W, B, M0, ρ, M, P, R, w, G, d, x, h⟩ => ?_
  refine lO_go w G d x fun oa ρ1 v H1 M1 c G1 k1 => ?_
  obtain ⟨ps, e1, c⟩ := c
  obtain ⟨l, vs, rfl, hl, rl⟩ := (OpdOk.pk G1 k1 e1).tup_inv
  obtain ⟨as, rfl, pp⟩ := reps_pr rl
  refine ⟨l, as.map V.ref, rfl, .inr hl, fun q hq => ⟨q, as, ps.map kvI, rfl, SqL.of upd_same, ?_, fun p hp => ?_⟩⟩
  · exact pair_kv (Kp.fresh hq) pp
  · have e : mergeK [] (ps.map kvI) = (mrg ps).map kvI := mrg_kv ps []
    rw [e]
    have G2 := G1.grow (o := .lst (as.map V.ref)) hq
    exact h _ _ _ _ _ _ c (.of (G2.grow hp) (rep_dic (fun z => G2.liv p z hp) upd_same))
variable {tgx : Expr} {own : List (Str × Nat)} {i j : Nat}
/-- {a: b for a, b in ps} -/
theorem qDcP (i j : Nat) (own : List (Str × Nat)) (g : Gx X) (ja : JE Wp E X ea da)
    (h1 : ∀ (s : Shared) (H : Hp) (C : Addr) (cl : List (Str × Addr)) (fp : List Addr), PG (X.blk s H scope (compEnvC scope cl C X.env) fp) tgx (gB X.K [i, j] true))
    (h2 : ∀ (s : Shared) (H : Hp) (C : Addr) (cl : List (Str × Addr)) (fp : List Addr), PE (X.blk s H scope (compEnvC scope cl C X.env) fp) (.Name y1 q0) (tVar i))
    (h3 : ∀ (s : Shared) (H : Hp) (C : Addr) (cl : List (Str × Addr)) (fp : List Addr), PE (X.blk s H scope (compEnvC scope cl C X.env) fp) (.Name y2 q1) (tVar j)) (okc : blkC X.N X.env.scope scope own = true) (hij : i ≠ j := by decide) (iv : i ∈ own.map (·.2) := by decide) (jv : j ∈ own.map (·.2) := by decide)
    (f1 : ∀ x, foldedSetIterable ea X.env x = pure x := by intro _; rfl) :
    JE Wp E X (.DictComp (.Name y1 q0) (.Name y2 q1) [⟨tgx, ea, [], 0⟩] scope pos) (dDcP da) := by
  have ok := blkOk_by okc
  refine (pe_dc g.calm g.nd (pi_seq ja) ok h1 (fun _ _ _ _ _ => pts_nil) h2 h3 f1).weakI fun pins s σ H Q I ⟨W, B, M0, ρ, M, P, R, w, G, d, x, h⟩ => ?_
  have li : i < σ.length := by rw [I.len]; exact own_lt ok iv
  have lj : j < σ.length := by rw [I.len]; exact own_lt ok jv
  refine lE_go w G d x fun u fr ρ1 v H1 M1 c r => ?_
  obtain ⟨ps, rfl, h64, c⟩ := c
  obtain ⟨a, vs, rfl, ha, rl⟩ := (Rep.pk (r.val rfl)).tup_inv
  obtain ⟨as, rfl, pp⟩ := reps_pr rl
  have ll := paired_len pp
  refine .inr (.inl ⟨a, as.map V.ref, rfl, ha, fun _ D hD => ?_⟩)
  refine dc_tup (K := X.K) (a := a) (xs := as.map V.ref) (Qd := fun H => Q (.ref D) H) (fun n H => H = upd H1 D (.dK ((mrg (ps.take n)).map kvI))) rfl (fun n H _ e => by rw [e]; exact (Kp.fresh (M := []) hD).sqT ha) ?_ ?_
  · rintro n x H hx rfl
    rw [List.getElem?_map] at hx
    obtain ⟨t, ht, rfl⟩ := Option.map_eq_some_iff.mp hx
    obtain ⟨p, hp, hs⟩ := paired_get pp n t ht
    refine ⟨t, _, rfl, (Kp.fresh (M := []) hD).sqT hs, rfl, _, _, rfl, _, _, rfl, rfl, ?_⟩
    have ww : wipe (((wipe σ (own.map (·.2))).set i (some (V.str p.1))).set j (some (V.int p.2))) (own.map (·.2)) = wipe σ (own.map (·.2)) := by rw [wipe_put jv, wipe_put iv, wipe_two]
    refine ⟨ww, ?_⟩
    unfold tYes
    dsimp only
    rw [if_pos rfl]
    refine ⟨.str p.1, by rw [List.getElem?_set_ne (Ne.symm hij), List.getElem?_set_self (by rw [wipe_length]; exact li)], .int p.2, by rw [List.getElem?_set_self (by rw [List.length_set, wipe_length]; exact lj)], _, .inr p.1, rfl, upd_same, ?_, ?_⟩
    · have z := fold_len (ps.take n) []
      rw [List.length_map]
      have z : (mrg (ps.take n)).length ≤ 0 + (ps.take n).length := z
      rw [List.length_take] at z
      rw [sizeLine_eq]
      omega
    · rw [upd_upd', put_kv]
      have e : mrg (ps.take (n + 1)) = putP (mrg (ps.take n)) p := by
        unfold mrg
        rw [List.take_add_one, hp, List.foldl_append]
        rfl
      rw [e]
  · rintro H rfl
    rw [List.length_map, ll, List.take_length]
    exact h _ _ _ _ _ _ c (.of (r.gd.grow hD) (rep_dic (fun z => r.gd.liv D z hD) upd_same))
/-- sorted({b for a, b in ps}) -/
theorem qSrtC (i j : Nat) (own : List (Str × Nat)) (g : Gx X) (hm : X.mg "sorted" = none) (ja : JE Wp E X ea da)
    (h1 : ∀ (s : Shared) (H : Hp) (C : Addr) (cl : List (Str × Addr)) (fp : List Addr), PG (X.blk s H scope (compEnvC scope cl C X.env) fp) tgx (gB X.K [i, j] true))
    (h3 : ∀ (s : Shared) (H : Hp) (C : Addr) (cl : List (Str × Addr)) (fp : List Addr), PE (X.blk s H scope (compEnvC scope cl C X.env) fp) (.Name y2 q1) (tVar j)) (okc : blkC X.N X.env.scope scope own = true) (hij : i ≠ j := by decide) (iv : i ∈ own.map (·.2) := by decide) (jv : j ∈ own.map (·.2) := by decide)
    (hg : Gl X "sorted" := by rfl) (hs : starEach [.SetComp (.Name y2 q1) [⟨tgx, ea, [], 0⟩] scope p3] X.env = (false, eval (.SetComp (.Name y2 q1) [⟨tgx, ea, [], 0⟩] scope p3) X.env) :: starEach [] X.env := by rfl)
    (hpl : (backTo pos (starEach [] X.env)).any (·.1) = false := by rfl) (f1 : ∀ x, foldedSetIterable ea X.env x = pure x := by intro _; rfl) :
    JE Wp E X (.Call (.Name "sorted" p2) [.SetComp (.Name y2 q1) [⟨tgx, ea, [], 0⟩] scope p3] [] pos) (dSrtC da) := by
  have ok := blkOk_by okc
  refine (pe_callB (cr_sortedSet g.calm) hg hm (by rfl) (pa_cons (pe_scI g.calm g.nd ok (pi_seq ja) h1 (fun _ _ _ _ _ => pts_nil) h3 f1) pa_nil hs) (by decide) (by decide) hs hpl).weakI fun pins s σ H Q I ⟨W, B, M0, ρ, M, P, R, w, G, d, x, h⟩ => ?_
  have li : i < σ.length := by rw [I.len]; exact own_lt ok iv
  have lj : j < σ.length := by rw [I.len]; exact own_lt ok jv
  refine lE_go w G d x fun u fr ρ1 v H1 M1 c r => ?_
  obtain ⟨ps, rfl, h64, c⟩ := c
  obtain ⟨a, vs, rfl, ha, rl⟩ := (Rep.pk (r.val rfl)).tup_inv
  obtain ⟨as, rfl, pp⟩ := reps_pr rl
  have ll := paired_len pp
  refine .inr (.inl ⟨a, as.map V.ref, rfl, ha, fun _ D hD => ?_⟩)
  refine ⟨fun n m H => m = as.length - n ∧ n ≤ as.length ∧ ∃ l, H = upd H1 D (SetIO X.w D l) ∧ l.Nodup ∧ ∀ k, k ∈ l ↔ k ∈ (ps.take n).map (·.2), ⟨as.length, by simp, Nat.zero_le _, [], rfl, List.nodup_nil, fun k => by simp⟩, ?_⟩
  rintro n m H ⟨rfl, hn, l, rfl, nd, hm2⟩
  have kp : ∀ {o : HO} {a : Addr} {ys : List V}, SqT X.K H1 a ys → SqT X.K (upd H1 D o) a ys := fun h => (Kp.fresh (M := []) hD).sqT h
  have bl : l.length ≤ ps.length := by
    have z := nodup_len (m := ps.map (·.2)) nd fun j hj => by
      obtain ⟨p, hp, rfl⟩ := List.mem_map.mp ((hm2 j).mp hj)
      exact List.mem_map.mpr ⟨p, List.mem_of_mem_take hp, rfl⟩
    rw [List.length_map] at z
    exact z
  by_cases hlt : n < as.length
  · refine .inr ⟨⟨as.map V.ref, V.ref as[n], kp ha, by simp [hlt]⟩, fun H' => ∃ l, H' = upd H1 D (SetIO X.w D l) ∧ l.Nodup ∧ ∀ k, k ∈ l ↔ k ∈ (ps.take (n + 1)).map (·.2), fun H' q => ⟨as.length - (n + 1), by omega, rfl, hlt, q⟩, fun x H' y => ?_⟩
    obtain ⟨rfl, y2⟩ := y
    have hx := y2 _ (kp ha)
    rw [List.getElem?_map] at hx
    obtain ⟨t, ht, rfl⟩ := Option.map_eq_some_iff.mp hx
    obtain ⟨p, hp, hs⟩ := paired_get pp n t ht
    refine ⟨t, _, rfl, kp hs, rfl, _, _, rfl, _, _, rfl, rfl, ?_⟩
    have ww : wipe (((wipe σ (own.map (·.2))).set i (some (V.str p.1))).set j (some (V.int p.2))) (own.map (·.2)) = wipe σ (own.map (·.2)) := by rw [wipe_put jv, wipe_put iv, wipe_two]
    refine ⟨ww, ?_⟩
    unfold tYes
    dsimp only
    rw [if_pos rfl]
    refine ⟨.int p.2, by rw [List.getElem?_set_self (by rw [List.length_set, wipe_length]; exact lj)], p.2, l, rfl, upd_same, ?_, insI p.2 l, upd_upd', insI_nd nd, fun k => ?_⟩
    · have : 65 < scanBound := by decide
      omega
    · rw [insI_mem, hm2 k, List.take_add_one, hp]
      simp
  · have e : n = as.length := by omega
    subst e
    refine .inl ⟨⟨as.map V.ref, kp ha, by simp⟩, D, SI l, l.length, rfl, upd_same, by omega, fun ms q pw mm _ hq => ?_⟩
    rw [ll, List.take_length] at hm2
    exact h _ _ _ _ _ _ (c ms pw fun k => by rw [mm k, ← hm2 k]; simp [SI]) (Res.new (r.gd.grow hD) hq (RepL.of_ints _))
/-- min(a, b) -/
theorem qMin2 {db : DE} (g : Gx X) (hm : X.mg "min" = none) (ja : JE Wp E X ea da) (jb : JE Wp E X eb db) (hg : Gl X "min" := by rfl)
    (hs : starEach [ea, eb] X.env = (false, eval ea X.env) :: starEach [eb] X.env := by rfl) (hs2 : starEach [eb] X.env = (false, eval eb X.env) :: starEach [] X.env := by rfl) (hp : (backTo pos (starEach [eb] X.env)).any (·.1) = false := by rfl) :
    JE Wp E X (.Call (.Name "min" p1) [ea, eb] [] pos) (dMin2 da db) := by
  refine (pe_callB (call_min2 g.calm) hg hm (by rfl) (pa_cons ja (pa_cons jb pa_nil hs2) hs) (by decide) (by decide) hs hp).weak fun σ H Q ⟨W, B, M0, ρ, M, P, R, w, G, d, x, h⟩ => ?_
  refine lE_go w G d x fun u fr ρ1 v H1 M1 c r => ?_
  obtain ⟨i, rfl, c⟩ := c
  refine lE_go' w r.gd.base c x.cons fun u2 fr2 ρ2 v2 H2 M2 c2 r2 => ?_
  obtain ⟨j, rfl, c⟩ := c2
  exact ⟨i, j, by rw [Rep.int_inv (r.val rfl), Rep.int_inv (r2.val rfl)], h _ _ _ _ _ _ c (.of r2.gd.tail (Rep.int _))⟩
end
end G9

/-! H4: dict comprehensions over a tuple of texts, whose values are made anew. -/
namespace G9
open PySem PySem.Spec L2 PyProof.Rows
theorem put_len (kvs : List (Key × V)) (k : Key) (v : V) : (putK kvs k v).length ≤ kvs.length + 1 := by
  unfold putK
  split
  · rw [List.length_map]; exact Nat.le_succ _
  · rw [List.length_append]; exact Nat.le_refl _
theorem Kp.dict {M : List Addr} {H : Hp} {p : Addr} {ks ls : List (Key × V)} (hp : p ∈ M) (h : H p = some (.dK ks)) : Kp M H (upd H p (.dK ls)) := by
  have ne : ∀ {b : Addr} {u : HO}, H b = some u → (∀ ks, u ≠ .dK ks) → b ≠ p := fun e n z => by rw [z, h] at e; cases e; exact n _ rfl
  refine ⟨fun a o na e => ?_, fun a xs e => ?_, fun a o u e => ?_, fun a e => ?_⟩
  · rw [upd_ne (fun z => na (by rw [z]; exact hp))]; exact e
  · rw [upd_ne (ne e fun _ z => nomatch z)]; exact e
  · rw [upd_ne (ne e fun _ z => nomatch z)]; exact e
  · by_cases z : a = p
    · rw [z, upd_same]; exact fun z => nomatch z
    · rw [upd_ne z]; exact e
/-- what is fresh at first may be written -/
theorem Kp.over {M : List Addr} {H H' : Hp} {p : Addr} (k : Kp (p :: M) H H') (h : H p = none) : Kp M H H' := by
  have ne : ∀ {b : Addr} {u : HO}, H b = some u → b ≠ p := fun e z => by rw [z, h] at e; cases e
  exact ⟨fun a o n e => k.same a o (fun m => (List.mem_cons.mp m).elim (ne e) n) e, k.tup, k.frz, k.liv⟩
theorem dc_new {K : PySem.W.Frag} {a : Addr} {ns : List Str} {tv : TE} {i : Nat} {vs : List Nat} {σ : L2.St} {H1 : Hp} {D : Addr} {Qd : Hp → Prop} (ha : SqT K H1 a (ns.map V.str)) (hl : ns.length ≤ 64) (hD : H1 D = none) (iv : i ∈ vs) (li : i < σ.length)
    (hv : ∀ s H4 Qz, Kp [] H1 H4 → (∀ z H5, Kp [] H4 H5 → Qz z H5) → tv ((wipe σ vs).set i (some (.str s))) H4 Qz) (hd : ∀ H kvs, Kp [] H1 H → H D = some (.dK kvs) → kvs.length ≤ ns.length → Qd H) :
    ∃ W : Nat → Nat → Hp → Prop, (∃ m, W 0 m (upd H1 D (.dK []))) ∧ ∀ j m H, W j m H →
      ((Itt K a).stop j H ∧ Qd H) ∨ ((Itt K a).go j H ∧ ∃ Nx : Hp → Prop, (∀ H', Nx H' → ∃ m', m' < m ∧ W (j + 1) m' H') ∧ ∀ x H', (Itt K a).yld j H x H' → gB K [i] false x (wipe σ vs) H' fun σ2 H2 => wipe σ2 vs = wipe σ vs ∧ tYes σ2 H2 fun b H3 =>
        if b = true then tVar i σ2 H3 fun y H4 => tv σ2 H4 fun z H5 => ∃ kvs k, y = kV k ∧ H5 D = some (.dK kvs) ∧ kvs.length < sizeLine ∧ Nx (upd H5 D (.dK (putK kvs k z))) else Nx H3) := by
  refine dc_tup (K := K) (a := a) (xs := ns.map V.str) (Qd := Qd) (fun n H => Kp [] H1 H ∧ ∃ kvs, H D = some (.dK kvs) ∧ kvs.length ≤ n) ⟨Kp.fresh hD, [], upd_same, Nat.le_refl _⟩ (fun n H _ e => e.1.sqT ha) ?_ ?_
  · rintro n x H hx ⟨k, kvs, hk, hn⟩
    rw [List.getElem?_map] at hx
    obtain ⟨s, hs, rfl⟩ := Option.map_eq_some_iff.mp hx
    have hi := (List.getElem?_eq_some_iff.mp hs).1
    refine ⟨by rw [wipe_put iv, wipe_two], ?_⟩
    unfold tYes
    dsimp only
    rw [if_pos rfl]
    refine ⟨.str s, by rw [List.getElem?_set_self (by rw [wipe_length]; exact li)], hv s H _ k fun z H5 k5 => ⟨kvs, .inr s, rfl, k5.same _ _ (by simp) hk, ?_, ?_, _, upd_same, ?_⟩⟩
    · rw [sizeLine_eq]; omega
    · have h5 : H5 D = some (.dK kvs) := k5.same _ _ (by simp) hk
      exact Kp.over (((k.trans k5).more (fun _ h => nomatch h)).trans (Kp.dict List.mem_cons_self h5)) hD
    · exact Nat.le_trans (put_len _ _ _) (by omega)
  · rintro H ⟨k, kvs, hk, hn⟩
    rw [List.length_map] at hn
    exact hd H kvs k hk hn
end G9

/-! H5: data rules used amid a walk by hand: an opaque self in slot 0 (as .deck), data in the others. -/
namespace G9
open PySem PySem.Spec L2 PyProof.Rows
/-- a world in which .deck is the object at a -/
def Wa (a : Addr) : Wk := { W00 with dk := a }
/-- the slots hold what ρ says, nothing is owned -/
structure Sl (a : Addr) (K : PySem.W.Frag) (M : List Addr) (ρ : En) (σ : L2.St) (H : Hp) : Prop where
  len : ρ.length = σ.length
  ent : ∀ (i : Nat) (e : Ent), ρ[i]? = some (some e) → e.own = false ∧ ∃ v, σ[i]? = some (some v) ∧ RepU (Wa a) K H M v e.u
  liv : ∀ b ∈ M, H b ≠ none
  sm : ∃ o u, H sysModules = some (.frz o u)
section
variable {a : Addr} {K : PySem.W.Frag} {M : List Addr} {ρ : En} {σ : L2.St} {H H' : Hp} {Wp : Wk → Prop} {mg : Str → Option Value} {E : XK}
theorem Sl.gd (S : Sl a K M ρ σ H) : Gd (Wa a) K [⟨H, [], M⟩] M ρ σ H M := by
  refine ⟨S.sm, trivial, (fun _ h => nomatch h), fun _ z => z, S.liv, S.len, fun b hb => ?_, fun i e h => ?_, fun i j e e' a h1 h2 _ _ _ _ => ?_⟩
  · obtain rfl : b = _ := List.mem_singleton.mp hb
    exact ⟨Kp.refl _ _, (fun _ h => nomatch h), fun _ z => .inl z, fun a ⟨i, e, h1, h2, _⟩ => by rw [(S.ent i e h1).1] at h2; cases h2⟩
  · obtain ⟨h1, v, h2, h3⟩ := S.ent i e h
    refine ⟨v, h2, ?_⟩
    unfold EntOk
    rw [if_neg (by rw [h1]; simp)]
    exact h3
  · rw [(S.ent _ _ h1).1] at h2; cases h2
theorem Sl.keep (S : Sl a K M ρ σ H) (k : Kp M H H') : Sl a K M ρ σ H' :=
  ⟨S.len, fun i e h => let ⟨h1, v, h2, h3⟩ := S.ent i e h; ⟨h1, v, h2, RepU.move k (fun b hb => .inl hb) h3⟩, fun b hb => k.liv b (S.liv b hb), k.sm S.sm⟩
theorem Sl.self (S : Sl a K M ρ σ H) {i : Nat} (h : ρ[i]? = some (some ⟨false, .deck⟩)) : σ[i]? = some (some (.ref a)) := by
  obtain ⟨_, v, h2, h3⟩ := S.ent i _ h
  have h3 : v = .ref a := h3
  rw [h2, h3]
theorem Sl.dat (S : Sl a K M ρ σ H) {i : Nat} {x : PyData} (h : ρ[i]? = some (some ⟨false, .d x⟩)) : ∃ v, σ[i]? = some (some v) ∧ Rep K H M v x := by
  obtain ⟨_, v, h2, h3⟩ := S.ent i _ h
  exact ⟨v, h2, h3⟩
/-- an expression that the data rules tell, amid a walk by hand: it changes nothing that there is -/
theorem Sl.expr (S : Sl a K M ρ σ H) {d : DE} {P : U → Bool → En → Prop} {Q : VK} (hw : WP Wp (Wa a) d.m) (h : d ρ P X0) (q : ∀ u ρ' v H', P u false ρ' → Kp [] H H' → RepU (Wa a) K H' M v u → Q v H') (hf : ∀ u ρ', ¬ P u true ρ') : lE Wp K mg E d σ H Q := by
  refine lE_go hw S.gd h XOk.none fun u fr ρ' v H' M' c r => ?_
  cases fr with
  | true => exact (hf u ρ' c).elim
  | false =>
    have G := r.gd
    have kb := (G.bs ⟨H, [], M⟩ List.mem_cons_self).1
    have r2 : RepU _ K H' M' v u := r.2
    refine q u ρ' v H' c kb ?_
    have := RepU.move (K := K) (M := M') (M' := M) (Kp.refl M' H') (fun b hb => .inl (G.sub b hb)) r2
    cases u with
    | d x => exact this
    | deck => exact this
    | ob _ => exact this
end
end G9

/-! H7: an object made inside a try (what it raises is taken at the slots of that moment); isinstance of a caught error as data. -/
namespace G9
open PySem PySem.Spec L2 PyProof.Rows
def tMakeS (C : Addr) (sp : Sp) (E : L2.St → XK) (t : TA) : TE := fun σ H Q => t σ H fun vs H1 => ∀ x dx, H1 x = none → H1 dx = none → dx ≠ x → sp (.ref x :: vs) (upd (upd H1 dx (.own x)) x (.ins C dx [])) (fun v H2 => v = .non ∧ Q (.ref x) H2) (E σ)
section
variable {X : Cx} {CX : CXT} {k : Nat} {f C : Addr} {fd : FuncData} {ps : List Str} {sp : Sp} {E : L2.St → XK} {x m : Str} {p pos apos : Pos} {e o : Expr} {es : List Expr} {ta : TE} {t : TA}
theorem run_makeGS {pins : List (Addr × Obj)} {σ : L2.St} {H : Hp} {s : Shared} {Q : VK} {us : List Value} {vs : List V} (M : Mk X.K C f) (F : FnG X.prog X.w X.K X.mg X.base CX k f fd ps sp) (hr : RmG (k + 1) X.A) (hb : Binds X.K fd ps [])
    (hx : PassesAt CX X σ (E σ)) (I : Inv X pins σ H s) (r : Vals vs us)
    (h : ∀ x dx, H x = none → H dx = none → dx ≠ x → sp (.ref x :: vs) (upd (upd H dx (.own x)) x (.ins C dx [])) (fun v H2 => v = .non ∧ Q (.ref x) H2) (E σ)) :
    wpAny (model X.prog X.w) X.A (call (.ref C) us) (EP X pins σ Q) X.xe s := by
  have hq := h (s.heap.objs.size + 1) s.heap.objs.size (I.hok.fresh (Nat.le_succ _)) (I.hok.fresh (Nat.le_refl _)) (Nat.ne_of_lt (Nat.lt_succ_self _))
  have I2 := Inv.made (C := C) I
  have r2 : Vals (V.ref (s.heap.objs.size + 1) :: vs) (Value.ref (s.heap.objs.size + 1) :: us) := .cons rfl r
  have hl : ((Value.ref (s.heap.objs.size + 1) :: us) ++ []).length = ps.length := by
    have e := r2.length
    rw [F.len hq] at e
    rw [List.append_nil]
    exact e.symm
  have b := hb _ (Value.ref (s.heap.objs.size + 1) :: us) I2.kIn hl
  rw [List.append_nil] at b
  refine wpAny_call (make_map (f := f) I.kIn M.makes M.init (beq_iff_eq.mp M.fn) (codeAny_mono (F.run (A := X.A.under (.builtin "type.__call__" ⟨.ref C :: us, []⟩)) (outer := X.stack) ⟨hr.make C us [], I2.env0.make C us []⟩ b r2 hq) fun r s' hq' => ?_))
  cases r with
  | error e => exact hx pins _ _ e s' I2 hq'
  | ok fl =>
    cases fl with
    | ret u =>
      obtain ⟨v, H', I3, rv, ev, q3⟩ := I2.after hq'
      subst ev
      exact ⟨rv, ⟨V.ref (s.heap.objs.size + 1), H', I3, rfl, q3⟩⟩
    | next => exact False.elim hq'
    | brk => exact False.elim hq'
    | cont => exact False.elim hq'
theorem pe_makeGS (M : Mk X.K C f) (F : FnG X.prog X.w X.K X.mg X.base CX k f fd ps sp) (hr : RmG (k + 1) X.A) (hg : Gl X x) (hm : X.mg x = some (.ref C)) (hb : Binds X.K fd ps []) (hx : ∀ σ, PassesAt CX X σ (E σ))
    (ha : PA X (e :: es) t) (hdb : (x == ("__debug__" : Str)) = false := by decide) (he : starEach (e :: es) X.env = (false, eval e X.env) :: starEach es X.env := by rfl) (hpl : (backTo pos (starEach es X.env)).any (·.1) = false := by rfl) :
    PE X (.Call (.Name x p) (e :: es) [] pos) (tMakeS C sp E t) := by
  refine ⟨fun pins s σ H Q I h => ?_⟩
  refine wpAny_Call_Name_kw (ld_glob I hg hm ?_ hdb)
  refine PySem.W.callWith_K (h₀ := X.base) I.ok.mod.kin M.kp (thn (ha.run pos pins s σ H _ I h) fun us s1 ⟨vs, H1, I1, r, q⟩ => ⟨I1.kIn, ?_⟩) he hpl
  exact run_makeGS M F hr hb (hx σ) I1 r q
end
/-- isinstance(e, C): e the caught error in slot i, the answer b -/
def dIs (i : Nat) (b : Bool) : DE := ⟨0, fun ρ P _ => ρ[i]? = some (some ⟨false, .deck⟩) ∧ P (.d (.bool b)) false ρ⟩
section
variable {X : Cx} {a D C : Addr} {oe : Obj} {pn : List (Addr × Obj)} {Wp : Wk → Prop} {E : XK} {i : Nat} {b : Bool} {e1 e2 : Expr} {p2 pos : Pos}
theorem dIs_go {K : PySem.W.Frag} {mg : Str → Option Value} {σ : L2.St} {H : Hp} {Q : VK} (hw : ∀ W, Wp W → W.dk = a) (h : lE Wp K mg E (dIs i b) σ H Q) : σ[i]? = some (some (.ref a)) ∧ Q (.bl b) H ∧ ∀ p o, H p = none → Q (.bl b) (upd H p o) := by
  obtain ⟨W, B, M0, ρ, M, P, R, w, G, ⟨e1, c⟩, x, h⟩ := h
  obtain ⟨v, h1, h2⟩ := G.ent i _ e1
  unfold EntOk at h2
  rw [if_neg (by simp)] at h2
  have h2 : v = .ref W.dk := h2
  have e : W.dk = a := hw _ (w.2 0)
  rw [e] at h2
  subst h2
  exact ⟨h1, h _ _ _ _ _ _ c (.of G (Rep.bl b)), fun p o hp => h _ _ _ _ _ _ c (.of (G.grow hp) (Rep.bl b))⟩
/-- of one class -/
theorem jIsE {c : V} {cv : Value} (T : ExcC X.K D) (hz : Zc (.ref D) none oe) (hf : ∃ vs, oe.data = .fields vs) (hw : ∀ W, Wp W → W.dk = a) (gi : X.mg "isinstance" = none) (hk : PySem.W.kitOne X.K (.ref D) cv = some b) (hcv : ∀ u, RelV c u → u = cv)
    (h1 : PE (X.suite a ((a, oe) :: pn)) e1 (tVar i)) (h2 : PE (X.suite a ((a, oe) :: pn)) e2 (tC c)) (hg : Gl (X.suite a ((a, oe) :: pn)) "isinstance" := by rfl)
    (he : starEach [e1, e2] (X.suite a ((a, oe) :: pn)).env = (false, eval e1 (X.suite a ((a, oe) :: pn)).env) :: starEach [e2] (X.suite a ((a, oe) :: pn)).env := by rfl) (he2 : starEach [e2] (X.suite a ((a, oe) :: pn)).env = (false, eval e2 (X.suite a ((a, oe) :: pn)).env) :: starEach [] (X.suite a ((a, oe) :: pn)).env := by rfl)
    (hpl : (backTo pos (starEach [e2] (X.suite a ((a, oe) :: pn)).env)).any (·.1) = false := by rfl) : JE Wp E (X.suite a ((a, oe) :: pn)) (.Call (.Name "isinstance" p2) [e1, e2] [] pos) (dIs i b) := by
  refine (pe_callB (call_isE T hz hf) hg gi rfl (pa_cons h1 (pa_cons h2 pa_nil he2) he) (by decide) (by decide) he hpl).weak fun σ H Q h => ?_
  obtain ⟨q1, q2, _⟩ := dIs_go hw h
  exact ⟨_, q1, c, cv, b, rfl, hcv, hk, q2⟩
/-- of three -/
theorem jIsE3 {C1 C2 C3 : Addr} (T : ExcC X.K D) (hz : Zc (.ref D) none oe) (hf : ∃ vs, oe.data = .fields vs) (hw : ∀ W, Wp W → W.dk = a) (gi : X.mg "isinstance" = none) (hk : PySem.W.kitAny X.K (.ref D) [.ref C1, .ref C2, .ref C3] = some b)
    (h1 : PE (X.suite a ((a, oe) :: pn)) e1 (tVar i)) (h2 : PE (X.suite a ((a, oe) :: pn)) e2 (tTup (tCons (tC (.ref C1)) (tCons (tC (.ref C2)) (tCons (tC (.ref C3)) tNil))))) (hg : Gl (X.suite a ((a, oe) :: pn)) "isinstance" := by rfl)
    (he : starEach [e1, e2] (X.suite a ((a, oe) :: pn)).env = (false, eval e1 (X.suite a ((a, oe) :: pn)).env) :: starEach [e2] (X.suite a ((a, oe) :: pn)).env := by rfl) (he2 : starEach [e2] (X.suite a ((a, oe) :: pn)).env = (false, eval e2 (X.suite a ((a, oe) :: pn)).env) :: starEach [] (X.suite a ((a, oe) :: pn)).env := by rfl)
    (hpl : (backTo pos (starEach [e2] (X.suite a ((a, oe) :: pn)).env)).any (·.1) = false := by rfl) : JE Wp E (X.suite a ((a, oe) :: pn)) (.Call (.Name "isinstance" p2) [e1, e2] [] pos) (dIs i b) := by
  refine (pe_callB (call_isET T hz hf) hg gi rfl (pa_cons h1 (pa_cons h2 pa_nil he2) he) (by decide) (by decide) he hpl).weak fun σ H Q h => ?_
  obtain ⟨q1, _, q2⟩ := dIs_go hw h
  exact ⟨_, q1, by show 3 ≤ sizeLine; rw [sizeLine_eq]; omega, fun p hp => ⟨p, _, _, b, rfl, upd_same, .cons (.own _) (.cons (.own _) (.cons (.own _) .nil)), hk, q2 p _ hp⟩⟩
end
end G9

/-! E17: exceptions of which it is kept that their own context is None (raised where nothing is handled). -/
namespace G9
open PySem PySem.Spec L2 PyProof.Rows
section
variable {Wp : Wk → Prop} {E : XK} {X : Cx} {x m : Str} {j : Nat} {p p2 pos pos2 : Pos}
theorem qRaiseN (tk : L2N.Takes X (fun cls d _ H => E cls d H)) (g : Gx X) (hx : ∃ C, ExcK X.K X.mg x C) (hg : Gl X x := by rfl) (hdb : (x == ("__debug__" : Str)) = false := by decide) :
    JS Wp E X (.Raise (some (.Call (.Name x p) [.Constant (.str m) j p2] [] pos)) none pos2) (sRaise x) := by
  obtain ⟨C, F⟩ := hx
  refine (L2N.ps_raise g.calm tk (L2N.pmk_own PySem.F.excBase_ValueError F.ex F.g F.kp (raises_own F.sub F.ty) hg hdb)).weak fun D σ H ⟨W, H0, B, M0, ρ, M, DD, w, G, d, xo, h1, h2, h3, h4⟩ => ?_
  rcases xo with z | ⟨b, hb, z⟩
  · exact absurd d (z _)
  · have G0 : Gd (W.up 0) X.K (⟨H0, W.ad, M0⟩ :: B) M0 ρ σ H M := Gd.mono (a := 0) (Nat.le_refl 0) G
    exact z ⟨x, none⟩ (.ref C) none H d ⟨F.g, rfl⟩ (G.bs b hb).1 ⟨0, G0.wok⟩
end
/-- C(e, ..) of a class with its own __init__, its context told -/
theorem pmk_oexN {X : Cx} {CX : CXT} {x : Str} {e : Expr} {es : List Expr} {ta : TA} {p pos : Pos} {C fI : Addr} {k : Nat} {fd : FuncData} {ps : List Str} {sp : Sp} (T : OexC X.K C) (iC : PySem.W.findIn X.K (.ref C) "__init__" = some (some (.ref fI))) (tI : PySem.W.typeIn X.K (.ref fI) = some (.type "function"))
    (F1 : FnOk X.prog X.w X.K X.mg X.base CX k fI fd ps sp) (hr : Room (k + 1) X.A) (hb : Binds X.K fd ps []) (hx : Passes CX X (fun _ _ _ => False)) (hg : Gl X x) (hm : X.mg x = some (.ref C)) (ha : PA X (e :: es) ta)
    (hdb : (x == ("__debug__" : Str)) = false := by decide) (he : starEach (e :: es) X.env = (false, eval e X.env) :: starEach es X.env := by rfl) (hpl : (backTo pos (starEach es X.env)).any (·.1) = false := by rfl) : L2N.PMk X (.Call (.Name x p) (e :: es) [] pos) (tMkO C sp [] ta) := by
  intro pins s σ H Q I h
  obtain ⟨c1, c2, c3, c4, cm, c5, c6, c7, c8, c9, d0, d1, d2, d3, d5, hC, hcm⟩ := T.cls
  refine wpAny_Call_Name_kw (ld_glob I hg hm (PySem.W.callWith_K (h₀ := X.base) I.ok.mod.kin T.kC (thn (ha.run pos pins s σ H _ I h) fun us s1 ⟨vs, H1, I1, r1, hz, q1⟩ => ⟨I1.kIn, ?_⟩) he hpl) hdb)
  show wpAny _ _ (call (.ref C) us) _ _ _
  obtain ⟨h0, g0, r0, t0, o0⟩ := s1
  have fr : H1 (h0.objs.size + 1) = none := I1.hok.fresh (Nat.le_succ _)
  have hq := q1 (h0.objs.size + 1) fr
  rw [List.append_nil] at hq
  have old : ∀ b o, h0.get? b = some o → ((h0.push (PySem.W.kdv_tup us)).push (PySem.HandSPX.excO C h0.objs.size)).get? b = some o := fun b o z => Heap.get?_push_of_some _ (Heap.get?_push_of_some _ z)
  have new : ((h0.push (PySem.W.kdv_tup us)).push (PySem.HandSPX.excO C h0.objs.size)).get? (h0.objs.size + 1) = some (PySem.HandSPX.excO C h0.objs.size) := by heap_get
  have I2 := I1.laid (t' := t0) old (Nat.le_succ _) (exo_ok (C := C) (H := upd H1 (h0.objs.size + 1) (exo (h0.objs.size + 1) C none)) (P := X.prog) (w := X.w) new)
  have r2 : Vals (V.ref (h0.objs.size + 1) :: vs) (Value.ref (h0.objs.size + 1) :: us) := .cons rfl r1
  have ln : (Value.ref (h0.objs.size + 1) :: us ++ []).length = ps.length := by rw [List.append_nil, ← r2.length]; exact F1.len _ _ _ _ hq
  have b2 := hb _ (Value.ref (h0.objs.size + 1) :: us) I2.kIn ln
  rw [List.append_nil] at b2
  refine wpAny_call (PySem.HandSPX.call_own F.excBase_ValueError (fun Y => PySem.HandSPX.refsVE_contains Y cm hcm) (I1.kIn _ _ hC) (PySem.W.looks_findIn I1.kIn iC) (fun self => PySem.W.bind_fn I1.kIn self tI) (by rw [← Paired.length r1, sizeLine_eq]; omega)
    (codeAny_mono (F1.run _ X.stack _ _ ⟨Value.ref (h0.objs.size + 1) :: us, []⟩ _ _ _ (fun _ _ _ => False) (hr.make C us []) (I2.env0.make C us []) b2 r2 hq) fun r s' hq' => ?_))
  rcases r with er | fl
  · exact hx pins σ _ _ er s' I2 hq'
  rcases fl with _ | _ | _ | u
  case next => exact hq'.elim
  case brk => exact hq'.elim
  case cont => exact hq'.elim
  obtain ⟨v, H2, os2, bare2, un2, hok2, rv, ev, d, fs, ea, ed, hd1, q2⟩ := hq'
  subst ev
  obtain ⟨h2, g2, w2, t2, o2⟩ := s'
  obtain ⟨_, G, J, kG, ge, hoe, na⟩ := mk_end0 (d2 := w2) (t2 := t2) I1 (Nat.le_succ _) old un2 hok2 os2 bare2 ea ed hd1
  exact ⟨rv, _, _, _, ⟨G, g2, w2, t2, o2⟩, _, .ref C, some d, rfl, J, kG, ge, hoe, ⟨rfl, rfl, fun vs hv => by cases hv; rfl⟩, rfl, rfl, na, rfl, bare2, raises_own T.exC T.tyC, q2⟩
section
variable {Wp : Wk → Prop} {E : XK} {X : Cx} {x fld : Str} {p pos pos2 : Pos} {e : Expr} {da : DE} {k : Nat}
theorem qRaiseFN (tk : L2N.Takes X (fun cls d _ H => E cls d H)) (g : Gx X) (hr : RmG k X.A) (hk : 2 ≤ k) (hx : OinC X.prog X.w X.K X.mg X.base x fld) (je : JE Wp E X e da) (hg : Gl X x := by rfl) (hdb : (x == ("__debug__" : Str)) = false := by decide)
    (he : starEach [e] X.env = (false, eval e X.env) :: starEach [] X.env := by rfl) (hpl : (backTo pos (starEach [] X.env)).any (·.1) = false := by rfl) :
    JS Wp E X (.Raise (some (.Call (.Name x p) [e] [] pos)) none pos2) (sRaiseF x fld da) := by
  obtain ⟨C, fI, fd, y, gm, ox, iC, tI, nf, F1, hb⟩ := hx.ex
  refine (L2N.ps_raise g.calm tk (pmk_oexN ox iC tI F1 (hr.rm.mono hk) hb pass0 hg gm (pa_cons je pa_nil he) hdb he hpl)).weak fun D σ H ⟨W, H0, B, M0, ρ, M, DD, w, G, d, xo, h1, h2, h3, h4⟩ => ?_
  refine lE_go w G d xo fun u fr ρ1 v H1 M1 c r => ?_
  obtain ⟨dd, rfl, c⟩ := c
  have rr : Rep X.K H1 M1 v dd := r.rep
  have G1 := r.gd
  refine ⟨by show 1 ≤ 1000; omega, fun a ha => ⟨a, v, rfl, ox, nf, upd_same, fun dx hdx ne => ⟨rfl, dx, [(fld, v)], upd_same, by rw [upd_ne ne, upd_same], ?_, ?_⟩⟩⟩
  · rw [upd_ne ne] at hdx; exact hdx
  have hd1 : H1 dx = none := by rw [upd_ne ne] at hdx; exact hdx
  have eH : upd (del (upd (upd (upd H1 a (exo a C none)) dx (exd dx [(fld, v)])) a (exo a C (some dx))) a) dx (.xd [(fld, v)]) = upd H1 dx (.xd [(fld, v)]) := by
    funext b
    by_cases e1 : b = dx
    · rw [e1, upd_same, upd_same]
    · rw [upd_ne e1, upd_ne e1]
      by_cases e2 : b = a
      · rw [e2, del_same, ha]
      · rw [del_ne e2, upd_ne e2, upd_ne e1, upd_ne e2]
  rw [eH]
  have G2 := G1.grow (o := .xd [(fld, v)]) hd1
  rcases xo with z | ⟨b, hb', z⟩
  · exact absurd c (z _)
  · exact z ⟨x, some (fld, dd)⟩ (.ref C) (some dx) _ c ⟨gm, dx, v, rfl, upd_same, rr.move (Kp.fresh hd1) fun a ha => .inl (G1.sub a ha)⟩ (G2.bs b hb').1 ⟨_, G2.wok⟩
end
end G9

/-! H3: C() of a class that has no __init__ of its own. -/
namespace G9
open PySem PySem.Spec L2 PyProof.Rows
/-- such a class -/
structure Mk0 (K : PySem.W.Frag) (C : Addr) : Prop where
  makes : PySem.W.makesIn K C = true
  init : PySem.W.findIn K (.ref C) "__init__" = some (some (.builtin "object.__init__"))
  top : PySem.W.mroIn K C (.type "object") = some true
  kp : PySem.W.keepIn K (.ref C) = true
def tMake0 (C : Addr) : TE := fun _ H Q => ∀ x dx, H x = none → H dx = none → dx ≠ x → Q (.ref x) (upd (upd H dx (.own x)) x (.ins C dx []))
section
variable {X : Cx} {C : Addr} {x : Str} {p pos : Pos}
theorem oi_go {prog : Program} {w : World} {A : Around} {R : Result → Shared → Prop} {K : PySem.W.Frag} {y : Addr} {o : Obj} {s : Shared} (X : K.In s.heap) (ho : s.heap.get? y = some o) (hc : o.cls = .ref C) (top : PySem.W.mroIn K C (.type "object") = some true)
    (q : R (.ok (.ret .none)) s) : codeAny (model prog w) A (.call (.builtin "object.__init__") ⟨[.ref y], []⟩) R s := by
  have t1 : PySem.W.Looks (model prog w) s.heap (typeOf (.ref y)) (.ref C) := NwA.type_at ho hc
  have t2 : PySem.W.Looks (model prog w) s.heap (isInstance (.ref y) (.type "object")) true := t1.andThen (PySem.W.looks_mroIn X top)
  refine codeAny_call_builtin PySem.W.oi_plain PySem.W.entry_oi (@PySem.W.check_slot (model prog w) _ _ _ "object.__init__" "object" "__init__" (.ref y) [] [] _ PySem.W.oi_kind PySem.W.oi_split t2 (NwA.oi_args_any (.ref y) [] []) ?_)
  obtain ⟨hh, g, d, t, os⟩ := s
  rw [PySem.W.oi_run]
  exact wpAny_pure q
theorem pe_make00 (M : Mk0 X.K C) (hr : Room 1 X.A) (hg : Gl X x) (hm : X.mg x = some (.ref C)) (hdb : (x == ("__debug__" : Str)) = false := by decide) : PE X (.Call (.Name x p) [] [] pos) (tMake0 C) := by
  refine ⟨fun pins s σ H Q I h => ?_⟩
  refine wpAny_Call_Name_kw (ld_glob I hg hm ?_ hdb)
  refine PySem.W.callWith_K0 I.kIn M.kp ?_
  have hq := h (s.heap.objs.size + 1) s.heap.objs.size (I.hok.fresh (Nat.le_succ _)) (I.hok.fresh (Nat.le_refl _)) (Nat.ne_of_lt (Nat.lt_succ_self _))
  have I2 := Inv.made (C := C) I
  refine wpAny_call (make_map0 I.kIn M.makes M.init (fun self => PySem.W.Looks.of_pure (PySem.W.oi_bind _)) (oi_go (C := C) (o := PySem.W.instObj C s.heap.objs.size) I2.kIn ?_ rfl M.top ?_))
  · have e := Heap.get?_push_size (s.heap.push PySem.W.emptyDict) (o := PySem.W.instObj C s.heap.objs.size) rfl
    have e0 : (s.heap.push PySem.W.emptyDict).objs.size = s.heap.objs.size + 1 := by simp [Heap.push]
    rw [e0] at e
    exact e
  · exact ⟨rfl, ⟨V.ref (s.heap.objs.size + 1), _, I2, rfl, hq⟩⟩
end
end G9

/-! H11: what the written part says of exception classes, as checks. -/
namespace G9
open PySem PySem.Spec L2 PyProof.Rows
theorem exRow_ok {K : PySem.W.Frag} {C : Addr} (q : exRow K C = true) : ∃ nm q N bs bm sn sub ab col dd k0 k1 k2 k3 k5, K.lookup C = some (excClassObj nm q C N bs bm true sn sub ab col dd k0 k1 k2 k3 k5 "ValueError.__new__") ∧ PySem.HandSPX.refsVE bm = true := by
  unfold exRow at q
  split at q <;> try cases q
  rename_i dd cd sl ho
  split at q <;> try cases q
  rename_i D ms k0 k1 k2 k3 nw k5 hm hs
  rw [Bool.and_eq_true, Bool.and_eq_true, Bool.and_eq_true, Bool.and_eq_true, beq_iff_eq, beq_iff_eq, Bool.not_eq_true'] at q
  obtain ⟨⟨rfl, rfl⟩, ⟨q1, q2⟩, q3⟩ := q
  obtain ⟨nm, bs, mro, ns, qn, hd, sn, sub, ab, col, del⟩ := cd
  dsimp only at hm q1 q2
  subst hm q1 q2
  obtain ⟨l⟩ := sl
  dsimp only at hs
  subst hs
  exact ⟨nm, qn, ns, bs, ms, sn, sub, ab, col, dd, k0, k1, k2, k3, k5, ho, q3⟩
theorem oexB_ok {K : PySem.W.Frag} {C : Addr} (q : oexB K C = true) : OexC K C := by
  unfold oexB at q
  simp only [Bool.and_eq_true, decide_eq_true_eq] at q
  exact ⟨exRow_ok q.1, q.2.1, q.2.2.1, q.2.2.2.1, q.2.2.2.2⟩
theorem ecB_ok {K : PySem.W.Frag} {D : Addr} (q : ecB K D = true) : ExcC K D := by
  unfold ecB at q
  simp only [Bool.and_eq_true, decide_eq_true_eq] at q
  exact ⟨q.1, q.2.1, q.2.2.1, q.2.2.2.1, q.2.2.2.2.1, q.2.2.2.2.2.1, q.2.2.2.2.2.2.1, q.2.2.2.2.2.2.2⟩
theorem basB_ok {K : PySem.W.Frag} {mg : Str → Option Value} {nm : Str} {CL : Addr} (g : mg nm = some (.ref CL)) (q : basB K CL = true) : BasI K mg nm := by
  unfold basB at q
  rw [Bool.and_eq_true, Bool.and_eq_true, decide_eq_true_eq] at q
  obtain ⟨q1, q2, q3⟩ := q
  split at q3
  · rename_i v e
    rw [of_decide_eq_true q3] at e
    exact ⟨CL, .type "type", g, ⟨q1, q2⟩, e⟩
  · cases q3
theorem mk0B_ok {K : PySem.W.Frag} {C : Addr} (q : mk0B K C = true) : Mk0 K C := by
  unfold mk0B at q
  simp only [Bool.and_eq_true, decide_eq_true_eq] at q
  exact ⟨q.1, q.2.1, q.2.2.1, q.2.2.2⟩
end G9

/-! H19: an own class over KeyError: its __init__ (KeyError.__init__(self, text); self.f = x). -/
namespace G9
open PySem PySem.Spec L2 PyProof.Rows PySem.G9K
/-- what the written part says of a class over KeyError -/
structure OexK (K : PySem.W.Frag) (C : Addr) : Prop where
  ini : PySem.W.excInitIn K C keTail "LookupError.__new__" = true
  ovr : PySem.W.excOver K C keTail = true
  hd : PySem.W.hasDictIn K C = true
  sa : PySem.W.findIn K (.ref C) "__setattr__" = some (some (.builtin "object.__setattr__"))
  exC : PySem.W.subIn K (.ref C) (.type "BaseException") = some true
  tyC : PySem.W.typeIn K (.ref C) = some (.type "type")
  kC : PySem.W.keepIn K (.ref C) = true
section
variable {X : Cx} {pins : List (Addr × Obj)} {σ : L2.St} {H : Hp} {s : Shared} {a C : Addr} {f : Str} {y : V} {u : Value} {E : Value → Shared → Prop} {A : Around}
/-- an exception of ours has got its first field -/
theorem inv_exf {h' : Heap} {tk dx t1 : Addr} (I : Inv X pins σ H s) (e : H a = some (exo a C none)) (ry : RelV y u) (k : ∀ b o, b ≠ a → s.heap.get? b = some o → h'.get? b = some o) (dn : s.heap.objs.size ≤ dx) (dne : dx ≠ a)
    (hx : h'.get? a = some ({ cls := .ref C, dict := some dx, data := .fields #[.ref t1, .none, .none, .none, .bool false, .none] } : Obj)) (hn : h'.Ns1 dx (fun y => if y = f then some u else none)) :
    Inv X pins σ (upd (upd H dx (exd dx [(f, y)])) a (exo a C (some dx))) { s with heap := h', toks := tk } := by
  have hnd : H dx = none := I.hok.fresh dn
  have nd : ∀ {b : Addr} {o : Obj}, s.heap.get? b = some o → b ≠ dx := fun {b o} q => Nat.ne_of_lt (Nat.lt_of_lt_of_le (Heap.lt_size q) dn)
  have na : ∀ {b : Addr}, H b = none → b ≠ a := fun {b} n z => by rw [z, e] at n; cases n
  have all : ∀ {b : Addr} {u : HO}, H b = some u → exo a C none ≠ u → upd (upd H dx (exd dx [(f, y)])) a (exo a C (some dx)) b = some u := fun q n => by
    rw [upd_ne (at_ne e q n), upd_ne (ne_of_none q hnd)]; exact q
  refine I.un ⟨fun b o q n _ _ => k b o (na n) q, fun b o q n _ _ => ⟨o.slots, k b o (na n) q⟩, fun b o q n _ => by rw [upd_ne (na n), upd_ne (nd q)]; exact n, fun b o q _ => ?_, fun b xs q => all q exo_tup, fun b o v q => all q exo_frz, fun b ps q => ⟨#[], by rw [all q exo_tbl]; simp⟩⟩ fun b o q => ?_
  · by_cases hb : b = a
    · exact ⟨_, by rw [hb]; exact hx⟩
    · exact ⟨o, k b o hb q⟩
  · by_cases hb : b = a
    · subst hb
      rw [upd_same] at q
      cases q
      exact exo_ok hx
    · rw [upd_ne hb] at q
      by_cases hd : b = dx
      · subst hd
        rw [upd_same] at q
        cases q
        exact exd_ok hn (relO_put (fs := []) ry fun g => True.intro)
      · rw [upd_ne hd] at q
        refine (I.hok b o q).stay (fun c v hc z => k c v ?_ z) (fun c hc => all hc exo_own) fun c xs hc => all hc exo_tup
        rcases hc with rfl | hc
        · exact hb
        · exact at_ne e hc exo_own
theorem ost_K {Q : Unit → Shared → Prop} (T : OexK X.K C) (I : Inv X pins σ H s) (e : H a = some (exo a C none)) (hno : PySem.W.findIn X.K (.ref C) f = some none) (ry : RelV y u)
    (h : ∀ dx s', H dx = none → dx ≠ a → Inv X pins σ (upd (upd H dx (exd dx [(f, y)])) a (exo a C (some dx))) s' → Q () s') : wpAny (model X.prog X.w) A (setAttr (.ref a) f u) Q E s := by
  obtain ⟨t1, ho⟩ := exo_at I.hok e
  have J : PySem.W.InstAt s.heap a { cls := .ref C, dict := none, data := .fields #[.ref t1, .none, .none, .none, .bool false, .none] } C none := ⟨ho, rfl, rfl, trivial⟩
  have tk : PySem.W.takerIn X.K C f = some none := by unfold PySem.W.takerIn; rw [hno]; rfl
  obtain ⟨cd, hcd, hh⟩ := PySem.W.any_some T.hd
  refine PySem.W.set_plain I.kIn J T.sa (PySem.W.osa_openX store_KE I.kIn J T.ovr tk fun b => ?_)
  obtain ⟨hp, g, d, t, os⟩ := s
  exact bx_store ho (PySem.W.looks_clsIn I.kIn hcd) hh fun h' tk' dx k dn dne hx hn => h dx _ (I.hok.fresh dn) dne (inv_exf (tk := tk') I e ry k dn dne hx hn)
/-- KeyError.__init__(self, ..) -/
theorem kinit_ok {us : List Value} {Q : Value → Shared → Prop} (T : OexK X.K C) (I : Inv X pins σ H s) (e : H a = some (exo a C none)) (hl : us.length ≤ sizeLine) (h : ∀ s', Inv X pins σ H s' → Q .none s') :
    wpAny (model X.prog X.w) A (call (.builtin "KeyError.__init__") (.ref a :: us)) Q E s := by
  obtain ⟨nm, N, qn, bs, bm, hdct, sn, sub, ab, col, dd, k0, k1, k2, k3, k5, hC, ht⟩ := PySem.W.excInit_of I.kIn T.ini
  obtain ⟨t1, ho⟩ := exo_at I.hok e
  obtain ⟨hp, g, d, t, os⟩ := s
  refine wpAny_call (ke_init ht hC ho hl fun h' t2 k hx => ?_)
  have J := I.write (t' := t) (x := a) (e := a) (o := exo a C none) (by rw [e]; exact True.intro) (.inl rfl) k ⟨_, hx⟩ (exo_ok hx)
  have eu : upd H a (exo a C none) = H := by
    funext b
    by_cases hb : b = a
    · rw [hb, upd_same, e]
    · rw [upd_ne hb]
  rw [eu] at J
  exact h _ J
end
/-! ### readings and rules -/
def tKeI (C : Addr) (ta : TA) : TE := fun σ H Q => ta σ H fun vs H1 => ∃ (a : Addr) (ws : List V), vs = .ref a :: ws ∧ ws.length ≤ 1000 ∧ H1 a = some (exo a C none) ∧ Q .non H1
def tOstK (C : Addr) (f : Str) (to te : TE) : TS := fun D σ H => te σ H fun y H1 => to σ H1 fun x H2 => ∃ a : Addr, x = .ref a ∧ H2 a = some (exo a C none) ∧ ∀ dx, H2 dx = none → dx ≠ a → D.nx σ (upd (upd H2 dx (exd dx [(f, y)])) a (exo a C (some dx)))
theorem typ_KE : typeOf (.type "KeyError") = pure (.type "type") := by kernel_rfl
section
variable {X : Cx} {C : Addr} {o e : Expr} {es : List Expr} {to te : TE} {ta : TA} {f : Str} {p p' p1 p2 pos : Pos}
theorem pe_keinit {pl : Sem Bool} (T : OexK X.K C) (hg : Gl X "KeyError") (hm : X.mg "KeyError" = none) (vV : PySem.W.findCls X.K (.type "KeyError") (.type "type") "__init__" = some (.val (.builtin "KeyError.__init__"))) (ha : PA X (e :: es) ta)
    (hc : eval (.Call (.Attribute (.Name "KeyError" p1) "__init__" p2) (e :: es) [] pos) X.env = (do
      let ov ← eval (.Name "KeyError" p1) X.env
      standAt p2.atName
      let (f, first) ← holding [ov] (getMethod ov "__init__" pl)
      callWith pos f first (backTo pos (starEach (e :: es) X.env)) (backToKw pos (keywordEach [] X.env))) := by rfl)
    (he : starEach (e :: es) X.env = (false, eval e X.env) :: starEach es X.env := by rfl) (hpl : (backTo pos (starEach es X.env)).any (·.1) = false := by rfl) :
    PE X (.Call (.Attribute (.Name "KeyError" p1) "__init__" p2) (e :: es) [] pos) (tKeI C ta) := by
  refine ⟨fun pins s σ H Q I h => ?_⟩
  refine PySem.W.methodCall_KW (ld_blt I hg hm boot_KeyError ?_ (by decide) (by decide)) hc
  obtain ⟨m, fr⟩ := I.fr
  refine PySem.W.method_type fr I.ok.mod.kin typ_KE (by decide +kernel) vV (by decide +kernel) ?_
  show wpAny _ _ (callWith pos (Value.builtin "KeyError.__init__") [] (backTo pos (starEach (e :: es) X.env)) []) _ _ _
  refine PyProof.Rows.callWith_method1 (thn (ha.run pos pins _ σ H _ (I.tok _) h) fun us s1 ⟨vs, H1, I1, r1, a, ws, ev, hl, ea, q⟩ => ?_) he hpl
  subst ev
  cases r1 with
  | @cons _ u0 _ ur ra rw' =>
    obtain rfl : u0 = Value.ref a := ra
    have hlen : ur.length ≤ sizeLine := by
      rw [← Paired.length rw', sizeLine_eq]
      omega
    exact kinit_ok T I1 ea hlen fun s' J => ⟨.non, H1, J, rfl, q⟩
theorem ps_ostK (T : OexK X.K C) (hno : PySem.W.findIn X.K (.ref C) f = some none) (ho : PE X o to) (he : PE X e te) (hs : swapsWith e (some (.Attribute o f p')) pos.line X.env = pure false := by rfl) : PS X (.Assign [.Attribute o f p'] e pos) (tOstK C f to te) := by
  refine ⟨fun pins s σ H D I h => ?_⟩
  refine plainObj_wpAny_Assign_Attribute (thn (he.run pins s σ H _ I h) fun v s1 ⟨y, H1, I1, r1, q1⟩ => thn (ho.run pins s1 σ H1 _ I1 q1) fun u s2 ⟨x, H2, I2, r2, a, ex, ea, q⟩ => ?_) hs
  subst ex
  obtain rfl : u = Value.ref a := r2
  exact ost_K T I2 ea hno r1 fun dx s' n ne J => ⟨σ, _, J, q dx n ne⟩
end
/-- the promise of an exception's __init__ -/
def spIni (C : Addr) (fld : Str) : Sp := fun vs H Q _ => ∃ (a : Addr) (v : V), vs = [.ref a, v] ∧ H a = some (exo a C none) ∧ ∀ dx, H dx = none → dx ≠ a → Q .non (upd (upd H dx (exd dx [(fld, v)])) a (exo a C (some dx)))
end G9

/-! H20: an own exception is made as a value, by place or by name; its field; isinstance of it. -/
namespace G9
open PySem PySem.Spec L2 PyProof.Rows PySem.G9K
structure OwnC (P : Program) (w : World) (K : PySem.W.Frag) (mg : Str → Option Value) (base : Heap) (nm fld : Str) (C : Addr) : Prop where
  gm : mg nm = some (.ref C)
  gk : PySem.W.nsIn K mainGlobals nm = some (some (.ref C))
  kC : PySem.W.keepIn K (.ref C) = true
  new : ∃ (O newId : String) (bmB : List Value), NewX O newId bmB ∧ PySem.W.excInitIn K C bmB newId = true
  ini : ∃ (fI : Addr) (fd : FuncData), PySem.W.findIn K (.ref C) "__init__" = some (some (.ref fI)) ∧ PySem.W.typeIn K (.ref fI) = some (.type "function") ∧ FnOk P w K mg base CX0 1 fI fd ["self", fld] (spIni C fld) ∧ Binds K fd (["self", fld] : List Str) [] ∧ KB K fd (ps := ["self", fld]) (ks := [fld]) (np := 1) (ix := [0, 1])
section
variable {X : Cx} {pins : List (Addr × Obj)} {σ : L2.St} {H : Hp} {s : Shared} {a C : Addr} {nm fld : Str} {v : V} {u : Value} {Q : VK}
theorem mkx_go {us : List Value} {kw : List (Str × Value)} {fI : Addr} {fd : FuncData} {O newId : String} {bmB : List Value} (N : NewX O newId bmB) (hC : PySem.W.excInitIn X.K C bmB newId = true) (iC : PySem.W.findIn X.K (.ref C) "__init__" = some (some (.ref fI))) (tI : PySem.W.typeIn X.K (.ref fI) = some (.type "function"))
    (F : FnOk X.prog X.w X.K X.mg X.base CX0 1 fI fd ["self", fld] (spIni C fld)) (hr : Room 2 X.A) (I : Inv X pins σ H s) (rv : RelV v u) (hus : us.length ≤ sizeLine) (hb : ∀ (s : Shared) (a : Addr), X.K.In s.heap → BindsTo s fd ⟨.ref a :: us, kw⟩ (List.zip (["self", fld] : List Str) [.ref a, u]))
    (q : ∀ a d, H a = none → H d = none → d ≠ a → Q (.ref a) (upd (upd H d (exd d [(fld, v)])) a (exo a C (some d)))) : wpAny (model X.prog X.w) X.A (call (.ref C) us kw) (EP X pins σ Q) X.xe s := by
  obtain ⟨nm, N', qn, bs, bm, hdct, sn, sub, ab, col, dd, k0, k1, k2, k3, k5, hO, ht⟩ := PySem.W.excInit_of I.kIn hC
  obtain ⟨hp, g, dr, tk, os⟩ := s
  have hsz : hp.objs.size ≤ hp.objs.size + 1 := Nat.le_succ _
  have hn : H (hp.objs.size + 1) = none := I.hok.fresh hsz
  have kk : ∀ b o, hp.get? b = some o → ((hp.push (PySem.W.kdv_tup us)).push (PySem.HandSPX.excO C hp.objs.size)).get? b = some o := fun b o e => Heap.get?_push_of_some _ (Heap.get?_push_of_some _ e)
  have hget : ((hp.push (PySem.W.kdv_tup us)).push (PySem.HandSPX.excO C hp.objs.size)).get? (hp.objs.size + 1) = some (PySem.HandSPX.excO C hp.objs.size) := by heap_get
  have I2 := I.laid (t' := tk) (a := hp.objs.size + 1) (o := exo (hp.objs.size + 1) C none) kk hsz (exo_ok hget)
  have eq3 : ∀ {a d : Addr} {o1 o2 o3 : HO}, d ≠ a → upd (upd (upd H a o1) d o2) a o3 = upd (upd H d o2) a o3 := fun {a d o1 o2 o3} ne => by
    funext b
    by_cases h1 : b = a
    · rw [h1, upd_same, upd_same]
    · rw [upd_ne h1, upd_ne h1]
      by_cases h2 : b = d
      · rw [h2, upd_same, upd_same]
      · rw [upd_ne h2, upd_ne h2, upd_ne h1]
  have hq : spIni C fld [.ref (hp.objs.size + 1), v] (upd H (hp.objs.size + 1) (exo (hp.objs.size + 1) C none)) (fun v' H2 => v' = .non ∧ Q (.ref (hp.objs.size + 1)) H2) (fun _ _ _ => False) :=
    ⟨_, v, rfl, upd_same, fun dx hd ne => ⟨rfl, by rw [eq3 ne]; exact q _ _ hn (by rw [upd_ne ne] at hd; exact hd) ne⟩⟩
  refine wpAny_call (bx_call N ht hO hus (PySem.W.looks_findIn I.kIn iC) (fun self => PySem.W.bind_fn I.kIn self tI)
    (codeAny_mono (F.run _ X.stack _ _ ⟨Value.ref (hp.objs.size + 1) :: us, kw⟩ [.ref (hp.objs.size + 1), u] [.ref (hp.objs.size + 1), v] _ (fun _ _ _ => False) (hr.make C us kw) (I2.env0.make C us kw) (hb _ _ I2.kIn) (.cons rfl (.cons rv .nil)) hq) fun r s' hq' => ?_))
  rcases r with e | fl
  · exact hq'.elim
  cases fl with
  | ret u =>
    obtain ⟨v2, H2, J, r2, ev, q2⟩ := I2.after hq'
    subst ev
    exact ⟨r2, .ref (hp.objs.size + 1), H2, J, rfl, q2⟩
  | next => exact False.elim hq'
  | brk => exact False.elim hq'
  | cont => exact False.elim hq'
variable {e : Expr} {te : TE} {p pos kpos : Pos}
def one1 (Q : V → Hp → Prop) : List V → Hp → Prop
  | [v], H => Q v H
  | _, _ => False
theorem one1_of {Q : V → Hp → Prop} : ∀ {vs : List V} {H : Hp}, one1 Q vs H → ∃ v, vs = [v] ∧ Q v H
  | [v], _, h => ⟨v, rfl, h⟩
def tMkx (C : Addr) (fld : Str) (te : TE) : TE := fun σ H Q => te σ H fun v H1 => ∀ a d, H1 a = none → H1 d = none → d ≠ a → Q (.ref a) (upd (upd H1 d (exd d [(fld, v)])) a (exo a C (some d)))
theorem pe_mkx (T : OwnC X.prog X.w X.K X.mg X.base nm fld C) (hr : Room 2 X.A) (he : PE X e te) (hg : Gl X nm := by rfl) (hdb : (nm == ("__debug__" : Str)) = false := by decide) (h1 : starEach [e] X.env = (false, eval e X.env) :: starEach [] X.env := by rfl) (h2 : (backTo pos (starEach [] X.env)).any (·.1) = false := by rfl) :
    PE X (.Call (.Name nm p) [e] [] pos) (tMkx C fld te) := by
  obtain ⟨fI, fd, iC, tI, F, hb, _⟩ := T.ini
  obtain ⟨O, newId, bmB, N, hC⟩ := T.new
  refine ⟨fun pins s σ H Q I h => ?_⟩
  refine wpAny_Call_Name_kw (ld_glob I hg T.gm ?_ hdb)
  have ha : PA X [e] (tCons te tNil) := pa_cons he pa_nil h1
  refine PySem.W.callWith_K (h₀ := X.base) I.ok.mod.kin T.kC (thn (ha.run pos pins s σ H (one1 fun v H1 => ∀ a d, H1 a = none → H1 d = none → d ≠ a → Q (.ref a) (upd (upd H1 d (exd d [(fld, v)])) a (exo a C (some d)))) I h) fun us s1 ⟨vs, H1, I1, r1, q⟩ => ⟨I1.kIn, ?_⟩) h1 h2
  obtain ⟨v, rfl, q⟩ := one1_of q
  cases r1 with
  | @cons _ u _ ur ra rw' =>
    cases rw'
    exact mkx_go N hC iC tI F hr I1 ra (by show 1 ≤ sizeLine; rw [sizeLine_eq]; omega) (fun s a kin => by
      have b := hb s [.ref a, u] kin rfl
      rw [List.append_nil] at b
      exact b) q
theorem pe_mkxK (T : OwnC X.prog X.w X.K X.mg X.base nm fld C) (hr : Room 2 X.A) (he : PE X e te) (hg : Gl X nm := by rfl) (hdb : (nm == ("__debug__" : Str)) = false := by decide) (hk : PK X [⟨some fld, e, kpos⟩] (tCons te tNil) := by exact pk_cons he pk_nil)
    (hall : (backToKw pos (keywordEach [⟨some fld, e, kpos⟩] X.env)).all (·.1.isSome) = true := by rfl) (hks : (backToKw pos (keywordEach [⟨some fld, e, kpos⟩] X.env)).filterMap (·.1) = [fld] := by rfl) (h1 : (backToKw pos (keywordEach [⟨some fld, e, kpos⟩] X.env)).any (·.1.isNone) = false := by rfl) :
    PE X (.Call (.Name nm p) [] [⟨some fld, e, kpos⟩] pos) (tMkx C fld te) := by
  obtain ⟨fI, fd, iC, tI, F, _, hb⟩ := T.ini
  obtain ⟨O, newId, bmB, N, hC⟩ := T.new
  refine ⟨fun pins s σ H Q I h => ?_⟩
  refine wpAny_Call_Name_kw (ld_glob I hg T.gm ?_ hdb)
  refine PySem.W.callWith_KW0 (h₀ := X.base) I.ok.mod.kin T.kC hall (thn (hk.run pos pins s σ H (one1 fun v H1 => ∀ a d, H1 a = none → H1 d = none → d ≠ a → Q (.ref a) (upd (upd H1 d (exd d [(fld, v)])) a (exo a C (some d)))) I h) fun ws s2 ⟨vs, H2, I2, r2, q⟩ => ⟨I2.kIn, ?_⟩) (by show (false || _) = false; rw [Bool.false_or]; exact h1)
  rw [hks]
  obtain ⟨v, rfl, q⟩ := one1_of q
  cases r2 with
  | @cons _ u _ ur ra rw' =>
    cases rw'
    exact mkx_go N hC iC tI F hr I2 ra (by show 0 ≤ sizeLine; omega) (fun s a kin => hb s [.ref a] [u] kin rfl rfl) q
/-! ### its field; isinstance of it -/
def ExAt (H : Hp) (a C : Addr) : Prop := (∃ d fs, H a = some (exo a C (some d)) ∧ H d = some (exd d fs)) ∨ H a = some (ExO (.ref C) a)
theorem exO_at {h : Heap} {cls : Value} (hok : HOk X.prog X.w H h) (he : H a = some (ExO cls a)) : ∃ (oe : Obj) (vs : Array Value), h.get? a = some oe ∧ Zc cls none oe ∧ oe.data = .fields vs := by
  have x : ObjOk X.prog X.w H h a (.ext fun h => ∃ (oe : Obj) (vs : Array Value), h.get? a = some oe ∧ Zc cls none oe ∧ oe.data = .fields vs ∧ vs[1]? = some .none ∧ vs[2]? = some .none ∧ 4 < vs.size) := hok a _ he
  obtain ⟨⟨oe, vs, e1, e2, e3, _⟩, _⟩ := x
  exact ⟨oe, vs, e1, e2, e3⟩
theorem inst_exd {d : Addr} {fs : List (Str × V)} (I : Inv X pins σ H s) (ea : H a = some (exo a C (some d))) (ed : H d = some (exd d fs)) : ∃ ox od, PySem.W.InstAt s.heap a ox C (some od) ∧ ∃ mA : Str → Option Value, (∀ f, RelO (fs.lookup f) (mA f)) ∧ ∀ name, PySem.W.lookIn name od = some (mA name) := by
  obtain ⟨t0, ho⟩ := exo_at I.hok ea
  obtain ⟨mA, hns, rel⟩ := exd_at I.hok ed
  obtain ⟨od, hod, hl⟩ := lookIn_ns hns
  exact ⟨_, od, ⟨ho, rfl, rfl, hod⟩, mA, rel, hl⟩
theorem inst_ex (I : Inv X pins σ H s) (h : ExAt H a C) : ∃ ox od, PySem.W.InstAt s.heap a ox C od := by
  rcases h with ⟨d, fs, ea, ed⟩ | ea
  · obtain ⟨ox, od, J, _⟩ := inst_exd I ea ed
    exact ⟨ox, _, J⟩
  · obtain ⟨oe, vs, e1, e2, e3⟩ := exO_at I.hok ea
    exact ⟨oe, none, e1, e2.1, by unfold PySem.W.notCls; rw [e3], by rw [e2.2]; trivial⟩
def tXo (K : PySem.W.Frag) (f : Str) (te : TE) : TE := fun σ H Q => te σ H fun x H1 => ∃ (a C d : Addr) (fs : List (Str × V)) (v : V), x = .ref a ∧ XfC K C ∧ PySem.W.findIn K (.ref C) f = some none ∧ H1 a = some (exo a C (some d)) ∧ H1 d = some (exd d fs) ∧ fs.lookup f = some v ∧ Q v H1
theorem pe_xo {n : Str} (he : PE X e te) (hb : attributeBase e n X.env (eval e X.env) = eval e X.env := by rfl) : PE X (.Attribute e n pos) (tXo X.K n te) := by
  refine ⟨fun pins s σ H Q I h => ?_⟩
  refine attr_of hb (thn (he.run pins s σ H _ I h) fun u s1 ⟨x, H1, I1, rx, a, C, d, fs, v, ex, T, hno, ea, ed, l, q⟩ => ?_)
  subst ex
  obtain rfl : u = Value.ref a := rx
  obtain ⟨ox, od, J, mA, rel, hl⟩ := inst_exd I1 ea ed
  obtain ⟨u, hu, ru⟩ := RelO.some_of (v := v) (o := mA n) (by rw [← l]; exact rel n)
  exact HandSPX.exc_get I1.kIn J T.ga T.gg T.exC (PySem.W.findObj_own T.hdC hno rfl (by rw [hl, hu])) (handed_of ru) ⟨v, H1, I1.tok _, ru, q⟩
def rIsO (K : PySem.W.Frag) : List V → Hp → VK → Prop := fun xs H Q => ∃ (a C : Addr) (c : V) (cv : Value) (b : Bool), xs = [.ref a, c] ∧ ExcC K C ∧ ExAt H a C ∧ (∀ u, RelV c u → u = cv) ∧ PySem.W.kitOne K (.ref C) cv = some b ∧ Q (.bl b) H
theorem call_isO : CallR X (.builtin "isinstance") (rIsO X.K) := by
  intro pins s σ H xs us Q I r h
  obtain ⟨a, C, c, cv, b, rfl, T, hx, hcv, e, q⟩ := h
  obtain ⟨u1, u2, rfl, r1, r2⟩ := vals2 r
  cases (show u1 = Value.ref a from r1)
  have ec := hcv _ r2
  subst ec
  obtain ⟨ox, od, J⟩ := inst_ex I hx
  exact PySem.W.kia_one (exc_kit T) I.kIn J e (fun z => nomatch z) fun tk => ⟨.bl b, H, I.kept (t' := tk) fun _ _ z => z, rfl, q⟩
end
end G9

/-! H21: exceptions in lists: what is wanted of their making, their fields, of isinstance, of lists of them. -/
namespace G9
open PySem PySem.Spec L2 PyProof.Rows
/-- not among the fenced ones, still -/
theorem nin_move {M M' : List Addr} {H : Hp} {a : Addr} (n : ∀ a ∈ M', a ∈ M ∨ H a = none) (h : a ∉ M) (l : H a ≠ none) : a ∉ M' := fun z => (n a z).elim h l
def excR (nm : Str) (fld : Option (Str × PyData)) : OR where
  rep := fun K H M v => ∃ a C, v = .ref a ∧ PySem.W.nsIn K mainGlobals nm = some (some (.ref C)) ∧ a ∉ M ∧ match fld with
    | none => H a = some (ExO (.ref C) a)
    | some (f, x) => ∃ d w, d ∉ M ∧ H a = some (exo a C (some d)) ∧ H d = some (exd d [(f, w)]) ∧ Rep K H M w x
  move := fun {K H H' M M' v} k n h => by
    obtain ⟨a, C, e1, e2, e3, h⟩ := h
    have some_ne : ∀ {b : Addr} {o : HO}, H b = some o → H b ≠ none := fun e z => by rw [e] at z; cases z
    cases fld with
    | none => exact ⟨a, C, e1, e2, nin_move n e3 (some_ne h), k.same _ _ e3 h⟩
    | some p =>
      obtain ⟨d, w, e4, h1, h2, r⟩ := h
      exact ⟨a, C, e1, e2, nin_move n e3 (some_ne h1), d, w, nin_move n e4 (some_ne h2), k.same _ _ e3 h1, k.same _ _ e4 h2, r.move k n⟩
def lstR (rs : List OR) : OR where
  rep := fun K H M v => ∃ a vs, v = .ref a ∧ a ∉ M ∧ H a = some (.lst vs) ∧ Paired (fun v r => r.rep K H M v) vs rs
  move := fun {K H H' M M' v} k n h => by
    obtain ⟨a, vs, e1, e2, h, p⟩ := h
    exact ⟨a, vs, e1, nin_move n e2 (by rw [h]; exact fun z => nomatch z), k.same _ _ e2 h, L2.Paired.mapP p fun v r h => r.move k n h⟩
def obs : List U → Option (List OR)
  | [] => some []
  | .ob x :: r => (obs r).map (x :: ·)
  | _ :: _ => none
theorem obs_rep {W : Wk} {K : PySem.W.Frag} {H : Hp} {M : List Addr} : ∀ {vs : List V} {us : List U} {rs : List OR}, Paired (RepU W K H M) vs us → obs us = some rs → Paired (fun v r => r.rep K H M v) vs rs
  | _, _, _, .nil, e => by cases e; exact .nil
  | _, .ob x :: us, _, .cons r t, e => by
    have e : (obs us).map (x :: ·) = some _ := e
    cases q : obs us with
    | none => rw [q] at e; cases e
    | some ys => rw [q] at e; cases e; exact .cons r (obs_rep t q)
  | _, .deck :: us, _, .cons r t, e => by cases e
  | _, .d _ :: us, _, .cons r t, e => by cases e
theorem Paired.getO {α β : Type} {F : α → β → Prop} : ∀ {xs : List α} {ys : List β}, Paired F xs ys → ∀ {i : Nat} {y : β}, ys[i]? = some y → ∃ x, xs[i]? = some x ∧ F x y
  | _, _, .nil, i, y, e => by simp at e
  | _, _, .cons h t, 0, y, e => by simp at e; subst e; exact ⟨_, rfl, h⟩
  | _, _, .cons h t, i + 1, y, e => Paired.getO t (by simpa using e)
theorem Paired.appO {α β : Type} {F : α → β → Prop} : ∀ {xs xs' : List α} {ys ys' : List β}, Paired F xs ys → Paired F xs' ys' → Paired F (xs ++ xs') (ys ++ ys')
  | _, _, _, _, .nil, q => q
  | _, _, _, _, .cons h t, q => .cons h (Paired.appO t q)
theorem Paired.takeO {α β : Type} {F : α → β → Prop} : ∀ {xs : List α} {ys : List β}, Paired F xs ys → ∀ n, Paired F (xs.take n) (ys.take n)
  | _, _, .nil, n => by simp; exact .nil
  | _, _, .cons h t, 0 => .nil
  | _, _, .cons h t, n + 1 => .cons h (Paired.takeO t n)
theorem Paired.dropO {α β : Type} {F : α → β → Prop} : ∀ {xs : List α} {ys : List β}, Paired F xs ys → ∀ n, Paired F (xs.drop n) (ys.drop n)
  | _, _, .nil, n => by simp; exact .nil
  | _, _, .cons h t, 0 => .cons h t
  | _, _, .cons h t, n + 1 => Paired.dropO t n
/-! ### walks -/
abbrev DIO := Wt (En → (List OR → En → Prop) → RK → Prop)
def wO (d : DE) : DIO := ⟨d.m, fun ρ P R => d ρ (fun u _ ρ1 => ∃ rs, u = .ob (lstR rs) ∧ rs.length ≤ sizeLine ∧ P rs ρ1) R⟩
def lcOL (f : OR → En → (PyData → En → Prop) → Prop) : List OR → En → List PyData → (List PyData → En → Prop) → Prop
  | [], ρ, acc, Q => Q acc ρ
  | x :: r, ρ, acc, Q => f x ρ fun y ρ' => lcOL f r ρ' (acc ++ [y]) Q
def dLcO (vs : List Nat) (i0 : Nat) (it : DIO) (e : DE) : DE := ⟨it.m + sizeLine * e.m, fun ρ P R => it.f ρ (fun rs ρ1 => lcOL (fun r ρ' k => e (En.put (wipeE ρ' vs) i0 false (.ob r)) (fun u _ ρ4 => ∃ d, u = .d d ∧ k d ρ4) X0) rs ρ1 [] fun ds ρ' => P (.d (.list ds)) true (backE ρ1 ρ' vs)) R⟩
def WalkOkO (K : PySem.W.Frag) (J : It) (rs : List OR) (H1 : Hp) (M1 : List Addr) : Prop :=
  ∀ (M : List Addr) (H : Hp), Kp M1 H1 H → (∀ a ∈ M, a ∈ M1 ∨ H1 a = none) → (∀ i r, rs[i]? = some r → J.go i H ∧ ∀ v H', J.yld i H v H' → Grown H H' ∧ ∀ M2, (∀ a ∈ M2, a ∈ M) → r.rep K H' M2 v) ∧ ∀ i, rs.length ≤ i → J.stop i H
def lIO (Wp : Wk → Prop) (K : PySem.W.Frag) (mg : Str → Option Value) (E : XK) (m : DIO) : TI := fun σ H Q => ∃ W B M0 ρ M P R, WP Wp W m.m ∧ Gd W K B M0 ρ σ H M ∧ m.f ρ P R ∧ XOk W K mg E M0 B R ∧
  ∀ xs ρ' J H' M', P xs ρ' → xs.length ≤ sizeLine → Gd (W.up m.m) K B M0 ρ' σ H' M' → WalkOkO K J xs H' M' → Q J H'
theorem walkO_list {K : PySem.W.Frag} {a : Addr} {vs : List V} {rs : List OR} {H : Hp} {M : List Addr} (hn : a ∉ M) (ha : H a = some (.lst vs)) (r : Paired (fun v r => r.rep K H M v) vs rs) : WalkOkO K (Itl K a) rs H M := by
  intro M2 H2 k n
  have ha2 := k.same a _ hn ha
  refine ⟨fun i x e => ?_, fun i hi => ⟨vs, SqL.of ha2, by rw [Paired.len r]; exact hi⟩⟩
  obtain ⟨v, hv, rv⟩ := Paired.getO r e
  refine ⟨⟨vs, v, SqL.of ha2, hv⟩, fun v' H' ⟨e1, e2⟩ => ⟨.inl e1, fun M3 s => ?_⟩⟩
  subst e1
  have q := e2 vs (SqL.of ha2)
  rw [hv] at q; cases q
  exact x.move k (fun a z => n a (s a z)) rv
section
variable {Wp : Wk → Prop} {E : XK} {X : Cx} {tg : Expr} {ea : Expr} {da : DE}
theorem wOL (ja : JE Wp E X ea da) : PI X tg ea (lIO Wp X.K X.mg E (wO da)) :=
  (pi_seq ja).weak fun σ H Q ⟨W, B, M0, ρ, M, P, R, w, G, d, x, h⟩ => lE_go w G d x fun u fr ρ1 v H1 M1 c r => by
    obtain ⟨rs, rfl, hz, c⟩ := c
    obtain ⟨a, vs, rfl, hn, ha, p⟩ := r.rep
    exact .inl ⟨_, _, rfl, SqL.of ha, fun _ => h _ _ _ _ _ c hz r.gd (walkO_list hn ha p)⟩
end
section
variable {Wp : Wk → Prop} {E : XK} {X : Cx} {elt tgx iter : Expr} {scope : Scope} {own : List (Str × Nat)} {pos : Pos} {i0 : Nat} {di : DIO} {de : DE}
theorem lcO_go {W : Wk} {B : List Bs} {M0 : List Addr} {ρ : En} {σ : L2.St} {H : Hp} {M : List Addr} {P : U → Bool → En → Prop} {R : RK} {Q : VK} {K : PySem.W.Frag} {mg : Str → Option Value} {vs : List Nat} (w : WP Wp W (di.m + sizeLine * de.m)) (G : Gd W K B M0 ρ σ H M) (d : dLcO vs i0 di de ρ P R) (x : XOk W K mg E M0 B R)
    (sub : i0 ∈ vs) (hl : i0 < σ.length)
    (h : ∀ u fr ρ' v H' M', P u fr ρ' → Res (W.up (di.m + sizeLine * de.m)) K B M0 ρ' σ H' M' v u fr → Q v H') : tLc (lIO Wp K mg E di) (gB K [i0] false) (lT Wp K mg E kTrue) (lE Wp K mg E de) vs σ H Q := by
  refine ⟨W, B, M0, ρ, M, _, R, w.le (Nat.le_add_right _ _), G, d, x, fun xs ρ1 J H1 M1 c hxs G1 wk D hD => ?_⟩
  have hB : ∀ b ∈ (⟨H1, M1, M1⟩ : Bs) :: B, b.h D = none := fun b hb => by
    rcases List.mem_cons.mp hb with rfl | hb
    · exact hD
    · exact G1.old hb hD
  have hDW : D ∉ W.ad := fun z => (W.up di.m).liv _ G1.wok D z hD
  have kk : ∀ i, di.m + i * de.m + de.m = di.m + (i + 1) * de.m := fun i => by simp only [Nat.succ_mul, Nat.add_assoc]
  generalize hf : (fun (r : OR) (ρ' : En) (k : PyData → En → Prop) => de (En.put (wipeE ρ' vs) i0 false (.ob r)) (fun u _ ρ4 => ∃ d, u = .d d ∧ k d ρ4) X0) = f at c
  have hfx : ∀ (r : OR) (ρ' : En) (k : PyData → En → Prop), f r ρ' k = de (En.put (wipeE ρ' vs) i0 false (.ob r)) (fun u _ ρ4 => ∃ d, u = .d d ∧ k d ρ4) X0 := fun r ρ' k => by rw [← hf]
  let Iv : Nat → Hp → Prop := fun i H => ∃ ρ' M acc ds, Gd (W.up (di.m + i * de.m)) K (⟨H1, M1, M1⟩ :: B) (D :: M0) (wipeE ρ' vs) (L2.wipe σ vs) H M ∧ H D = some (.lst acc) ∧ RepL K H M acc ds ∧ acc.length ≤ i ∧ ρ'.length = σ.length ∧
    lcOL f (xs.drop i) ρ' ds fun ds ρ' => P (.d (.list ds)) true (backE ρ1 ρ' vs)
  refine ⟨fun i m H => m = xs.length - i ∧ i ≤ xs.length ∧ Iv i H, ⟨xs.length, by simp, Nat.zero_le _, ρ1, D :: M1, [], [], ?_, upd_same, .nil, Nat.le_refl _, G1.len, c⟩, ?_⟩
  · exact ((G1.base.fence hD).wiped vs).mono (Nat.le_add_right _ _)
  rintro i m H2 ⟨rfl, hi, ρ', M2, acc, ds, G2, hDv, rl, hacc, hlen, c⟩
  obtain ⟨wk1, wk2⟩ := wk M2 H2 G2.kp G2.nw
  by_cases hlt : i < xs.length
  · have hx : xs[i]? = some xs[i] := by simp [hlt]
    rw [List.drop_eq_getElem_cons hlt] at c
    generalize xs[i] = xi at hx c
    obtain ⟨go, yl⟩ := wk1 i xi hx
    refine .inr ⟨go, Iv (i + 1), fun H' p' => ⟨xs.length - (i + 1), by omega, rfl, hlt, p'⟩, fun v H3 y => ?_⟩
    obtain ⟨gr, rv⟩ := yl v H3 y
    have rv := rv M2 fun _ z => z
    have G3 := G2.grown gr
    have rl3 : RepL K H3 M2 acc ds := rl.keep gr.kp
    have hD3 : H3 D = some (.lst acc) := (gr.kp (M := [])).same D _ (by simp) hDv
    have c : f xi ρ' (fun y ρ'' => lcOL f (xs.drop (i + 1)) ρ'' (ds ++ [y]) _) := c
    rw [hfx] at c
    have hi0 : i0 < (L2.wipe σ vs).length := by rw [wipe_length]; exact hl
    have G4 := G3.put0 (u := .ob xi) hi0 rv
    have e1 : ((L2.wipe σ vs).set i0 (some v)).length = (L2.wipe σ vs).length := List.length_set ..
    have e2 : ∀ j, j ∉ [i0] → ((L2.wipe σ vs).set i0 (some v))[j]? = (L2.wipe σ vs)[j]? := fun j hj => List.getElem?_set_ne (fun z => hj (by rw [z]; exact List.mem_singleton.mpr rfl))
    have ws := wipe_eq e1 e2 (fun j hj => by rw [List.mem_singleton.mp hj]; exact sub)
    refine ⟨ws, ?_⟩
    have hD0 : ∀ {j : Nat} {ρ : En} {σ : L2.St} {H : Hp} {M : List Addr} {B : List Bs}, Gd (W.up j) K B (D :: M0) ρ σ H M → Gd (W.up j) K (⟨H, M.filter (fun a => decide (a ≠ D)), M⟩ :: B) (D :: M0) ρ σ H M := fun {j ρ σ H M B} G => by
      refine G.baseK (fun a z => List.mem_filter.mpr ⟨G.sub a (G.wad a z), decide_eq_true (fun e => hDW (by rw [← e]; exact z))⟩) fun a o => ?_
      obtain ⟨q1, q2, _⟩ := G.owned o
      exact List.mem_filter.mpr ⟨q1, decide_eq_true (fun e => q2 (by rw [e]; exact List.mem_cons_self))⟩
    have notin : ∀ {M : List Addr}, D ∉ M.filter (fun a => decide (a ≠ D)) := fun z => of_decide_eq_true (List.mem_filter.mp z).2 rfl
    have carry : ∀ {j : Nat} {ρ : En} {σ : L2.St} {H H' : Hp} {M M' : List Addr} {B : List Bs} {acc : List V} {ds : List PyData}, Gd (W.up j) K (⟨H, M.filter (fun a => decide (a ≠ D)), M⟩ :: B) (D :: M0) ρ σ H' M' → H D = some (.lst acc) → RepL K H M acc ds → H' D = some (.lst acc) ∧ RepL K H' M' acc ds :=
      fun G q r => ⟨G.kp.same D _ notin q, r.move (G.kp.more fun a z => (List.mem_filter.mp z).1) G.nw⟩
    have lt1 : di.m + i * de.m + de.m ≤ di.m + sizeLine * de.m := by rw [kk]; exact Nat.add_le_add_left (Nat.mul_le_mul_right _ (by omega)) _
    refine ⟨_, _, D :: M0, _, M2, fun k ρ3 => k = true ∧ ρ3 = En.put (wipeE ρ' vs) i0 false (.ob xi), X0, w.up (Nat.le_trans (Nat.le_add_right _ _) lt1), hD0 G4, ⟨rfl, rfl⟩, XOk.none, fun k ρ3 H4 M4 ck G5 => ?_⟩
    obtain ⟨rfl, rfl⟩ := ck
    have G5 : Gd (W.up (di.m + i * de.m)) K _ (D :: M0) _ _ H4 M4 := G5
    obtain ⟨hD4, rl4⟩ := carry G5 hD3 rl3
    have G5 := G5.tail
    · refine ⟨_, _, D :: M0, _, M4, _, X0, w.up lt1, hD0 G5, c, XOk.none, fun u fr ρ4 y H5 M5 c r => ?_⟩
      have r := r.cast
      obtain ⟨dd, rfl, c⟩ := c
      obtain ⟨hD5, rl5⟩ := carry r.gd hD4 rl4
      have G6 := r.gd.tail
      have ry : Rep K H5 M5 y dd := r.rep
      have kp : Kp M5 H5 (upd H5 D (.lst (acc ++ [y]))) := Kp.store (G6.sub D List.mem_cons_self) hD5
      refine ⟨acc, hD5, by omega, ρ4, M5, acc ++ [y], ds ++ [dd], ?_, upd_same, (rl5.append (.cons ry .nil)).keep kp, by rw [List.length_append, List.length_singleton]; omega, by rw [G6.len, e1, wipe_length], c⟩
      rw [← ws, ← kk]
      exact (G6.writeF List.mem_cons_self hDW hD5 hB).wiped vs
  · have e : i = xs.length := by omega
    subst e
    rw [List.drop_length] at c
    refine .inl ⟨wk2 _ (Nat.le_refl _), h _ _ _ _ _ (M2.filter (fun a => decide (a ≠ D))) c ?_⟩
    have G2 := G2.mono (Nat.add_le_add_left (Nat.mul_le_mul_right de.m hxs) di.m)
    have G7 : Gd (W.up (di.m + sizeLine * de.m)) K (⟨H1, M1, M1⟩ :: B) (D :: M0) (backE ρ1 ρ' vs) σ H2 M2 := by
      refine G2.reEnv (by rw [backE_length]; exact hlen) fun j e hj => ?_
      rcases backE_some _ _ _ _ _ hj with ⟨h1, h2⟩ | ⟨h1, h2⟩
      · left
        rw [wipeE_at, wipe_at, if_neg (fun z => h1 z.1), if_neg (fun z => h1 z.1)]
        exact ⟨h2, rfl⟩
      · right
        obtain ⟨v, q1, q2⟩ := G1.ent j e h2
        unfold EntOk at q2
        rw [if_neg (by rw [h1]; simp)] at q2
        exact ⟨h1, v, q1, q2.move G2.kp G2.nw⟩
    have own : ∀ a, Owns (backE ρ1 ρ' vs) σ a → a ∈ M2 ∧ a ≠ D := fun a o => by
      obtain ⟨q1, q2, _⟩ := G7.owned o
      exact ⟨q1, fun e => q2 (by rw [e]; exact List.mem_cons_self)⟩
    have G8 := (G7.unfence G1.wad).tail
    have m0D : ∀ a ∈ M0, a ≠ D := fun a z e => G1.liv a (G1.sub a z) (by rw [e]; exact hD)
    have fl : ∀ a, a ∈ M2.filter (fun a => decide (a ≠ D)) ↔ a ∈ M2 ∧ a ≠ D := fun a => by rw [List.mem_filter, decide_eq_true_iff]
    have G9 := G8.reM (M' := M2.filter (fun a => decide (a ≠ D))) (fun a z => ((fl a).mp z).1) (fun a z => (fl a).mpr ⟨G8.sub a z, m0D a z⟩) fun a o => (fl a).mpr (own a o)
    refine ⟨G9, ?_⟩
    rw [if_pos rfl]
    refine ⟨D, acc, ds, rfl, rfl, hDv, rl.less fun a z => ?_, fun z => ((fl D).mp z).2 rfl, G8.reM (fun a z => ?_) (fun a z => ?_) fun a o => ?_, fun b hb => hB b (List.mem_cons_of_mem _ hb)⟩
    · rcases List.mem_cons.mp z with rfl | z
      · exact G2.sub _ List.mem_cons_self
      · exact ((fl a).mp z).1
    · rcases List.mem_cons.mp z with rfl | z
      · exact G2.sub _ List.mem_cons_self
      · exact ((fl a).mp z).1
    · exact List.mem_cons_of_mem _ ((fl a).mpr ⟨G8.sub a z, m0D a z⟩)
    · exact List.mem_cons_of_mem _ ((fl a).mpr (own a o))
end
end G9

/-! H22: rules for exceptions as values and lists of them. -/
namespace G9
open PySem PySem.Spec L2 PyProof.Rows
/-- what is told of the classes: which have which field; who is whose subclass -/
structure ExT (K : PySem.W.Frag) (names : List Str) (tabF : List (Str × Str)) : Prop where
  ec : ∀ nm ∈ names, ∀ C, PySem.W.nsIn K mainGlobals nm = some (some (.ref C)) → ExcC K C
  fl : ∀ nm f C, (nm, f) ∈ tabF → PySem.W.nsIn K mainGlobals nm = some (some (.ref C)) → XfC K C ∧ PySem.W.findIn K (.ref C) f = some none
/-- isinstance(an nm, D) is subT nm, for the class value D -/
def IsT (K : PySem.W.Frag) (names : List Str) (D : Value) (subT : Str → Bool) : Prop := ∀ nm ∈ names, ∀ C, PySem.W.nsIn K mainGlobals nm = some (some (.ref C)) → PySem.W.kitOne K (.ref C) D = some (subT nm)
def dMkx (nm fld : Str) (e : DE) : DE := ⟨e.m, fun ρ P R => e ρ (fun u _ ρ' => ∃ x, u = .d x ∧ P (.ob (excR nm (some (fld, x)))) false ρ') R⟩
def dMk0 (nm : Str) (e : DE) : DE := ⟨e.m, fun ρ P R => e ρ (fun _ _ ρ' => P (.ob (excR nm none)) false ρ') R⟩
def dFld (tabF : List (Str × Str)) (f : Str) (e : DE) : DE := ⟨e.m, fun ρ P R => e ρ (fun u _ ρ' => ∃ nm x, u = .ob (excR nm (some (f, x))) ∧ (nm, f) ∈ tabF ∧ P (.d x) false ρ') R⟩
def dIsO (names : List Str) (subT : Str → Bool) (e : DE) : DE := ⟨e.m, fun ρ P R => e ρ (fun u _ ρ' => ∃ nm fld, u = .ob (excR nm fld) ∧ nm ∈ names ∧ P (.d (.bool (subT nm))) false ρ') R⟩
def dLstO (es : DA) : DE := ⟨es.m, fun ρ P R => es ρ (fun us ρ1 => ∃ ls, obs us = some ls ∧ ls.length ≤ sizeLine ∧ P (.ob (lstR ls)) false ρ1) R⟩
def dAddO (a b : DO) : DE := ⟨a.m + b.m, fun ρ P R => a ρ (fun oa ρ1 => b ρ1 (fun ob ρ2 => ∃ ls ms, rs ρ2 oa = some (.ob (lstR ls)) ∧ rs ρ2 ob = some (.ob (lstR ms)) ∧ ls.length + ms.length ≤ sizeLine ∧ P (.ob (lstR (ls ++ ms))) false ρ2) R) R⟩
def dIdxO (a b : DO) : DE := ⟨a.m + b.m, fun ρ P R => a ρ (fun oa ρ1 => b ρ1 (fun ob ρ2 => ∃ ls i r, rs ρ2 oa = some (.ob (lstR ls)) ∧ rs ρ2 ob = some (.d (.int i)) ∧ atI ls i = some r ∧ P (.ob r) false ρ2) R) R⟩
def dSliO (a : DO) (lo hi : DP) : DE := ⟨a.m + lo.m + hi.m, fun ρ P R => a ρ (fun oa ρ1 => lo ρ1 (fun l ρ2 => hi ρ2 (fun h ρ3 => ∃ ls, rs ρ3 oa = some (.ob (lstR ls)) ∧ P (.ob (lstR (cutD ls l h))) false ρ3) R) R) R⟩
theorem OpdOk.ob {W : Wk} {K : PySem.W.Frag} {B : List Bs} {M0 : List Addr} {ρ : En} {σ : L2.St} {H : Hp} {M : List Addr} {v : V} {o : Opd} {r : OR} (G : Gd W K B M0 ρ σ H M) (ok : OpdOk W K σ H M v o) (h : rs ρ o = some (.ob r)) : r.rep K H M v := by
  cases o with
  | val u =>
    have h : u = .ob r := Option.some.inj h
    subst h
    exact ok
  | slot i =>
    have h : (En.at ρ i).map (·.u) = some (.ob r) := h
    cases q : En.at ρ i with
    | none => rw [q] at h; cases h
    | some e =>
      rw [q] at h
      have h : e.u = .ob r := Option.some.inj h
      obtain ⟨v', h1, h2⟩ := G.ent i e (En.at_get q)
      have ok : σ[i]? = some (some v) := ok
      rw [ok] at h1; cases h1
      unfold EntOk at h2
      split at h2
      · obtain ⟨a, vs, ds, rfl, e2, _⟩ := h2
        rw [h] at e2; cases e2
      · rw [h] at h2
        exact h2
theorem Paired.cutO {F : V → OR → Prop} {vs : List V} {ls : List OR} (p : Paired F vs ls) (lo hi : Option Int) : Paired F (cutV vs lo hi) (cutD ls lo hi) := by
  unfold cutV cutD
  rw [Paired.len p]
  exact Paired.takeO (Paired.dropO p _) _
theorem atO {F : V → OR → Prop} {vs : List V} {ls : List OR} {i : Int} {r : OR} (p : Paired F vs ls) (e : atI ls i = some r) : ∃ v, atI vs i = some v ∧ F v r := by
  unfold atI at e ⊢
  rw [Paired.len p]
  cases q : ixN ls.length i with
  | none => rw [q] at e; cases e
  | some j => rw [q] at e; exact Paired.getO p e
section
variable {Wp : Wk → Prop} {E : XK} {X : Cx} {e ea eb : Expr} {es : List Expr} {de : DE} {aa : DA} {a b : DO} {dl dh : DP} {nm fld f : Str} {k : Nat} {p p1 p2 p3 pos kpos : Pos} {names : List Str} {tabF : List (Str × Str)} {subT : Str → Bool}
theorem mkx_res {W : Wk} {B : List Bs} {M0 : List Addr} {ρ : En} {σ : L2.St} {H1 : Hp} {M1 : List Addr} {K : PySem.W.Frag} {v : V} {y : PyData} {fr : Bool} {C a d : Addr} (gk : PySem.W.nsIn K mainGlobals nm = some (some (.ref C))) (r : Res W K B M0 ρ σ H1 M1 v (.d y) fr) (ha : H1 a = none) (hd : H1 d = none) (ne : d ≠ a) :
    Res W K B M0 ρ σ (upd (upd H1 d (exd d [(fld, v)])) a (exo a C (some d))) M1 (.ref a) (.ob (excR nm (some (fld, y)))) false := by
  have ha' : upd H1 d (exd d [(fld, v)]) a = none := by rw [upd_ne (Ne.symm ne)]; exact ha
  have nm : ∀ {b : Addr}, H1 b = none → b ∉ M1 := fun e z => r.gd.liv _ z e
  have rv : Rep K H1 M1 v y := r.rep
  exact .of ((r.gd.grow hd).grow ha') ⟨a, C, rfl, gk, nm ha, d, v, nm hd, upd_same, by rw [upd_ne ne]; exact upd_same, rv.keep ((Kp.fresh hd).trans (Kp.fresh ha'))⟩
theorem qMkx (T : ∃ C, OwnC X.prog X.w X.K X.mg X.base nm fld C) (hr : RmG k X.A) (je : JE Wp E X e de) (hk : 2 ≤ k := by decide) (hg : Gl X nm := by rfl) (hdb : (nm == ("__debug__" : Str)) = false := by decide) (h1 : starEach [e] X.env = (false, eval e X.env) :: starEach [] X.env := by rfl) (h2 : (backTo pos (starEach [] X.env)).any (·.1) = false := by rfl) :
    JE Wp E X (.Call (.Name nm p) [e] [] pos) (dMkx nm fld de) := by
  obtain ⟨C, T⟩ := T
  exact (pe_mkx T (hr.rm.mono hk) je hg hdb h1 h2).weak fun σ H Q ⟨W, B, M0, ρ, M, P, R, w, G, d, x, h⟩ => lE_go w G d x fun u fr ρ1 v H1 M1 c r a dd ha hd ne => by
    obtain ⟨y, rfl, c⟩ := c
    exact h _ _ _ _ _ _ c (mkx_res T.gk r ha hd ne)
theorem qMkxK (T : ∃ C, OwnC X.prog X.w X.K X.mg X.base nm fld C) (hr : RmG k X.A) (je : JE Wp E X e de) (hk : 2 ≤ k := by decide) (hg : Gl X nm := by rfl) (hdb : (nm == ("__debug__" : Str)) = false := by decide)
    (hall : (backToKw pos (keywordEach [⟨some fld, e, kpos⟩] X.env)).all (·.1.isSome) = true := by rfl) (hks : (backToKw pos (keywordEach [⟨some fld, e, kpos⟩] X.env)).filterMap (·.1) = [fld] := by rfl) (h1 : (backToKw pos (keywordEach [⟨some fld, e, kpos⟩] X.env)).any (·.1.isNone) = false := by rfl) :
    JE Wp E X (.Call (.Name nm p) [] [⟨some fld, e, kpos⟩] pos) (dMkx nm fld de) := by
  obtain ⟨C, T⟩ := T
  exact (pe_mkxK T (hr.rm.mono hk) je hg hdb (pk_cons je pk_nil) hall hks h1).weak fun σ H Q ⟨W, B, M0, ρ, M, P, R, w, G, d, x, h⟩ => lE_go w G d x fun u fr ρ1 v H1 M1 c r a dd ha hd ne => by
    obtain ⟨y, rfl, c⟩ := c
    exact h _ _ _ _ _ _ c (mkx_res T.gk r ha hd ne)
/-- a class without its own __init__ -/
structure Own0 (K : PySem.W.Frag) (mg : Str → Option Value) (nm : Str) (C : Addr) : Prop where
  gm : mg nm = some (.ref C)
  gk : PySem.W.nsIn K mainGlobals nm = some (some (.ref C))
  kC : PySem.W.keepIn K (.ref C) = true
  ex : PySem.W.excIn K C [Value.type "ValueError", Value.type "Exception", Value.type "BaseException", Value.type "object"] "ValueError.__new__" = true
theorem qMk0 (T : ∃ C, Own0 X.K X.mg nm C) (je : JE Wp E X e de) (hg : Gl X nm := by rfl) (hdb : (nm == ("__debug__" : Str)) = false := by decide) (hs : starEach [e] X.env = (false, eval e X.env) :: starEach [] X.env := by rfl) : JE Wp E X (.Call (.Name nm p) [e] [] pos) (dMk0 nm de) := by
  obtain ⟨C, T⟩ := T
  exact (pe_exc1 PySem.F.excBase_ValueError T.ex T.gm T.kC hg je hs hdb).weak fun σ H Q ⟨W, B, M0, ρ, M, P, R, w, G, d, x, h⟩ => lE_go w G d x fun u fr ρ1 v H1 M1 c r a ha =>
    h _ _ _ _ _ _ c (.of (r.gd.grow ha) ⟨a, C, rfl, T.gk, fun z => r.gd.liv _ z ha, upd_same⟩)
theorem qFld {n : Str} (T : ExT X.K names tabF) (je : JE Wp E X e de) (hb : attributeBase e n X.env (eval e X.env) = eval e X.env := by rfl) : JE Wp E X (.Attribute e n pos) (dFld tabF n de) :=
  (pe_xo je hb).weak fun σ H Q ⟨W, B, M0, ρ, M, P, R, w, G, d, x, h⟩ => lE_go w G d x fun u fr ρ1 v H1 M1 c r => by
    obtain ⟨nm, y, rfl, hm, c⟩ := c
    obtain ⟨a, C, rfl, gk, na, dd, wv, nd, ha, hd, rw'⟩ := r.rep
    obtain ⟨h1, h2⟩ := T.fl nm n C hm gk
    exact ⟨a, C, dd, _, wv, rfl, h1, h2, ha, hd, by simp [List.lookup], h _ _ _ _ _ _ c (.of r.gd rw')⟩
theorem ex_at {K : PySem.W.Frag} {H : Hp} {M : List Addr} {v : V} {o : Option (Str × PyData)} (h : (excR nm o).rep K H M v) : ∃ a C, v = .ref a ∧ PySem.W.nsIn K mainGlobals nm = some (some (.ref C)) ∧ ExAt H a C := by
  obtain ⟨a, C, e1, e2, e3, h⟩ := h
  refine ⟨a, C, e1, e2, ?_⟩
  cases o with
  | none => exact .inr h
  | some p => obtain ⟨d, w, e4, h1, h2, r⟩ := h; exact .inl ⟨d, _, h1, h2⟩
theorem qIsO {D : Addr} {x : Str} (T : ExT X.K names tabF) (S : IsT X.K names (.ref D) subT) (gD : X.mg x = some (.ref D)) (gi : X.mg "isinstance" = none) (je : JE Wp E X e de) (hg : Gl X "isinstance" := by rfl) (hgx : Gl X x := by rfl) (hdb : (x == ("__debug__" : Str)) = false := by decide)
    (h1 : starEach [e, .Name x p3] X.env = (false, eval e X.env) :: starEach [.Name x p3] X.env := by rfl) (h2 : starEach [.Name x p3] X.env = (false, eval (.Name x p3) X.env) :: starEach [] X.env := by rfl) (hpl : (backTo pos (starEach [.Name x p3] X.env)).any (·.1) = false := by rfl) :
    JE Wp E X (.Call (.Name "isinstance" p2) [e, .Name x p3] [] pos) (dIsO names subT de) :=
  (pe_callB call_isO hg gi rfl (pa_cons je (pa_cons (pe_glob (v := .ref D) hgx gD rfl hdb) pa_nil h2) h1) (by decide) (by decide) h1 hpl).weak fun σ H Q ⟨W, B, M0, ρ, M, P, R, w, G, d, x, h⟩ => lE_go w G d x fun u fr ρ1 v H1 M1 c r => by
    obtain ⟨nm, fld, rfl, hm, c⟩ := c
    obtain ⟨a, C, rfl, gk, hx⟩ := ex_at r.rep
    exact ⟨a, C, .ref D, .ref D, _, rfl, T.ec nm hm C gk, hx, fun u h => h, S nm hm C gk, h _ _ _ _ _ _ c (Res.bool r.gd _)⟩
theorem qIsOB {t : String} {x : Str} (T : ExT X.K names tabF) (S : IsT X.K names (.type t) subT) (mx : X.mg x = none) (gi : X.mg "isinstance" = none) (je : JE Wp E X e de) (hv : bootBuiltins x = some (.type t) := by rfl) (hg : Gl X "isinstance" := by rfl) (hgx : Gl X x := by rfl) (hn : x ≠ "__name__" := by decide) (hdb : (x == ("__debug__" : Str)) = false := by decide)
    (h1 : starEach [e, .Name x p3] X.env = (false, eval e X.env) :: starEach [.Name x p3] X.env := by rfl) (h2 : starEach [.Name x p3] X.env = (false, eval (.Name x p3) X.env) :: starEach [] X.env := by rfl) (hpl : (backTo pos (starEach [.Name x p3] X.env)).any (·.1) = false := by rfl) :
    JE Wp E X (.Call (.Name "isinstance" p2) [e, .Name x p3] [] pos) (dIsO names subT de) :=
  (pe_callB call_isO hg gi rfl (pa_cons je (pa_cons (pe_bltn (v := .ty t) hgx mx hv rfl hn hdb) pa_nil h2) h1) (by decide) (by decide) h1 hpl).weak fun σ H Q ⟨W, B, M0, ρ, M, P, R, w, G, d, x, h⟩ => lE_go w G d x fun u fr ρ1 v H1 M1 c r => by
    obtain ⟨nm, fld, rfl, hm, c⟩ := c
    obtain ⟨a, C, rfl, gk, hx⟩ := ex_at r.rep
    exact ⟨a, C, .ty t, .type t, _, rfl, T.ec nm hm C gk, hx, fun u h => h, S nm hm C gk, h _ _ _ _ _ _ c (Res.bool r.gd _)⟩
theorem qLstO (j : JA Wp E X es aa) : JE Wp E X (.List es pos) (dLstO aa) :=
  (pe_lst j).weak fun σ H Q ⟨W, B, M0, ρ, M, P, R, w, G, d, x, h⟩ => lA_go w G d x fun us ρ1 vs H1 M1 c G1 p => by
    obtain ⟨ls, e, hz, c⟩ := c
    have r := obs_rep p e
    exact ⟨by rw [Paired.len r]; exact hz, fun q hq => h _ _ _ _ _ _ c (.of (G1.grow hq) ⟨q, _, rfl, fun z => G1.liv _ z hq, upd_same, L2.Paired.mapP r fun v s hs => s.move (Kp.fresh hq) (fun _ z => .inl z) hs⟩)⟩
theorem qIdxO (ja : JO Wp E X ea a) (jb : JO Wp E X eb b) (hs : PlainIx eb := by intro _ _; rfl) : JE Wp E X (.Subscript ea eb pos) (dIdxO a b) := by
  refine (pe_ix ix_seq ja jb hs).weak fun σ H Q ⟨W, B, M0, ρ, M, P, R, w, G, d, x, h⟩ => ?_
  refine lO_go w G d x fun oa ρ1 v H1 M1 c G1 k1 => lO_go' w G1.base c x.cons fun ob ρ2 u H2 M2 c2 G2 k2 => ?_
  obtain ⟨ls, i, r, h1, h2, e, c⟩ := c2
  obtain ⟨q, vs, rfl, nq, hq, pp⟩ := OpdOk.ob G2 (OpdOk.later G2 k1) h1
  obtain ⟨z, e2, rz⟩ := atO pp e
  exact .inl ⟨q, vs, i, z, rfl, (OpdOk.pk G2 k2 h2).int_inv, SqL.of hq, e2, h _ _ _ _ _ _ c (.of G2.tail rz)⟩
theorem qSliO {lo hi : Option Expr} (ja : JO Wp E X ea a) (jl : JP Wp E X lo dl) (jh : JP Wp E X hi dh) : JE Wp E X (.Subscript ea (.Slice lo hi none p2) pos) (dSliO a dl dh) := by
  refine (pe_slice sl_all ja jl jh).weak fun σ H Q ⟨W, B, M0, ρ, M, P, R, w, G, d, x, h⟩ => ?_
  refine lO_go w G d x fun oa ρ1 v H1 M1 c G1 k1 => ⟨_, ⟨H1, M1, M1⟩ :: B, M0, ρ1, M1, _, R, w.up (Nat.le_add_right _ _), G1.base, c, x.cons.up, fun l ρ2 H2 M2 c G2 => ⟨_, ⟨H1, M1, M1⟩ :: B, M0, ρ2, M2, _, R, w.up (Nat.le_refl _), G2.cast, c, x.cons.up, fun u ρ3 H3 M3 c G3 => ?_⟩⟩
  have G3 := G3.cast
  obtain ⟨ls, h1, c⟩ := c
  obtain ⟨q, vs, rfl, nq, hq, pp⟩ := OpdOk.ob G3 (OpdOk.later G3 k1) h1
  exact .inl ⟨q, vs, rfl, SqL.of hq, fun z hz => h _ _ _ _ _ _ c (.of (G3.tail.grow hz) ⟨z, _, rfl, fun y => G3.liv _ y hz, upd_same, L2.Paired.mapP (Paired.cutO pp l u) fun v s hs => s.move (Kp.fresh hz) (fun _ y => .inl y) hs⟩)⟩
theorem qAddO (ja : JO Wp E X ea a) (jb : JO Wp E X eb b) : JE Wp E X (.BinOp ea .Add eb pos) (dAddO a b) := by
  refine (pe_op op_addA ja jb).weak fun σ H Q ⟨W, B, M0, ρ, M, P, R, w, G, d, x, h⟩ => ?_
  refine lO_go w G d x fun oa ρ1 v H1 M1 c G1 k1 => lO_go' w G1.base c x.cons fun ob ρ2 u H2 M2 c2 G2 k2 => ?_
  obtain ⟨ls, ms, h1, h2, hz, c⟩ := c2
  obtain ⟨q, vs, rfl, nq, hq, pp⟩ := OpdOk.ob G2 (OpdOk.later G2 k1) h1
  obtain ⟨q', vs', rfl, nq', hq', pp'⟩ := OpdOk.ob G2 k2 h2
  refine .inr (.inr (.inl ⟨q, q', vs, vs', rfl, rfl, hq, hq', by rw [Paired.len pp, Paired.len pp']; exact hz, fun z hz => h _ _ _ _ _ _ c (.of (G2.tail.grow hz) ⟨z, _, rfl, fun y => G2.liv _ y hz, upd_same, L2.Paired.mapP (Paired.appO pp pp') fun v s hs => s.move (Kp.fresh hz) (fun _ y => .inl y) hs⟩)⟩))
theorem qLcO {elt tgx iter : Expr} {scope : Scope} {i0 : Nat} {di : DIO} (own : List (Str × Nat)) (vs : List Nat) (g : Gx X) (hi : PI X tgx iter (lIO Wp X.K X.mg E di))
    (hg : ∀ (s : Shared) (H : Hp) (C : Addr) (cl : List (Str × Addr)) (fp : List Addr), PG (X.blk s H scope (compEnvC scope cl C X.env) fp) tgx (gB X.K [i0] false))
    (he : ∀ (s : Shared) (H : Hp) (C : Addr) (cl : List (Str × Addr)) (fp : List Addr), JE Wp E (X.blk s H scope (compEnvC scope cl C X.env) fp) elt de)
    (ok : blkC X.N X.env.scope scope own = true) (sub : i0 ∈ vs := by decide) (hvs : own.map (·.2) = vs := by rfl) (hs : ∀ x, foldedSetIterable iter X.env x = pure x := by intro _; rfl) : JE Wp E X (.ListComp elt [⟨tgx, iter, [], 0⟩] scope pos) (dLcO vs i0 di de) := by
  subst hvs
  have ok := blkOk_by ok
  exact (pe_lc g.calm g.nd hi ok hg (fun _ _ _ _ _ => kIfs0) he hs).weakI fun pins s σ H Q I ⟨W, B, M0, ρ, M, P, R, w, G, d, x, h⟩ => lcO_go w G d x sub (by rw [I.len]; exact own_lt ok sub) h
end
end G9

/-! H23: x, y, z = (a, b, c) of any values by way of a tuple; {text: e}; raise of an own error over any base. -/
namespace G9
open PySem PySem.Spec L2 PyProof.Rows PySem.G9K
def putU : List Nat → List U → En → Option En
  | [], [], ρ => some ρ
  | i :: is, u :: us, ρ => putU is us (En.put ρ i false u)
  | _, _, _ => none
theorem namesU_go {W : Wk} {K : PySem.W.Frag} {B : List Bs} {M0 : List Addr} {H : Hp} {M : List Addr} : ∀ {tg : List Nat} {us : List U} {vs : List V} {ρ ρ' : En} {σ : L2.St} {Q : L2.St → Hp → Prop}, Gd W K B M0 ρ σ H M → Paired (RepU W K H M) vs us → putU tg us ρ = some ρ' → (∀ i ∈ tg, i < σ.length) →
    (∀ σ', σ'.length = σ.length → Gd W K B M0 ρ' σ' H M → Q σ' H) → gNames tg vs σ H Q
  | [], [], _, _, _, _, _, G, .nil, e, _, q => by cases e; exact ⟨rfl, q _ rfl G⟩
  | i :: is, u :: us, _, ρ, ρ', σ, Q, G, .cons r rr, e, hl, q => by
    refine ⟨_, _, rfl, ?_⟩
    exact namesU_go (G.put0 (hl i List.mem_cons_self) r) rr (show putU is us (En.put ρ i false u) = some ρ' from e) (fun j z => by rw [List.length_set]; exact hl j (List.mem_cons_of_mem _ z)) fun σ' h1 G' => q σ' (by rw [h1, List.length_set]) G'
  | _ :: _, [], _, _, _, _, _, _, _, e, _, _ => by cases e
  | [], _ :: _, _, _, _, _, _, _, _, e, _, _ => by cases e
def sSetU (tg : List Nat) (es : DA) : DS := ⟨es.m, fun ρ D => es ρ (fun us ρ' => us.length = tg.length ∧ us.length ≤ 100 ∧ ∃ ρ2, putU tg us ρ' = some ρ2 ∧ D.nx ρ2) D.ex⟩
section
variable {Wp : Wk → Prop} {E : XK} {X : Cx} {e : Expr} {es : List Expr} {de : DE} {aa : DA} {tg : List Nat} {pos p1 p2 p3 : Pos} {k3 i : Nat} {tgx : Expr} {k : Str}
theorem qSetU (ja : JA Wp E X es aa) (hg : PG X tgx (gB X.K tg true)) (ht : tg.all (fun i => decide (i < X.N.length)) = true := by rfl) (hs : swapsWithSole [tgx] (.Tuple es k3 p3) pos.line X.env = pure false := by rfl) (hw : swappedStores [tgx] (.Tuple es k3 p3) X.env = pure none := by rfl)
    (h1 : (assignEach [tgx] X.env).map (·.2) = [assign tgx X.env] := by rfl) : JS Wp E X (.Assign [tgx] (.Tuple es k3 p3) pos) (sSetU tg aa) :=
  (ps_asg (pe_tup ja) hg hs hw h1).weakI fun pins s σ H D I ⟨W, H0, B, M0, ρ, M, DD, w, G, d, x, h1, h2, h3, h4⟩ => lA_go w G d x fun us ρ1 vs H1 M1 c G1 p => by
    obtain ⟨hl, hz, ρ2, e, c⟩ := c
    have hv := Paired.len p
    refine ⟨by rw [hv, sizeLine_eq]; omega, fun T hT => ?_⟩
    have G2 := G1.grow (o := .tup vs) hT
    exact ⟨T, _, rfl, SqT.of upd_same, by rw [hv]; exact hl, namesU_go G2 (Paired.moveU (Kp.fresh hT) (fun _ z => .inl z) p) e (fun j hj => by rw [I.len]; exact of_decide_eq_true (List.all_eq_true.mp ht j hj)) fun σ' e1 G' => h1 _ _ _ _ e1 c G'⟩
end
end G9

/-! H24: an own exception is raised and caught at once; {text: e}. -/
namespace G9
open PySem PySem.Spec L2 PyProof.Rows PySem.G9K
/-- the exception that an except suite holds -/
def cauR (a : Addr) (o : Option (Addr × Str × PyData)) : OR where
  rep := fun K H M v => v = .ref a ∧ match o with
    | none => True
    | some (d, f, x) => ∃ w, d ∉ M ∧ H d = some (.xd [(f, w)]) ∧ Rep K H M w x
  move := fun {K H H' M M' v} k n h => by
    obtain ⟨e1, h⟩ := h
    refine ⟨e1, ?_⟩
    cases o with
    | none => trivial
    | some p =>
      obtain ⟨d, f, x⟩ := p
      obtain ⟨w, e2, h1, r⟩ := h
      exact ⟨w, nin_move n e2 (by rw [h1]; exact fun z => nomatch z), k.same _ _ e2 h1, r.move k n⟩
def dCaF (a d : Addr) (f : Str) (e : DE) : DE := ⟨e.m, fun ρ P R => e ρ (fun u _ ρ' => ∃ x, u = .ob (cauR a (some (d, f, x))) ∧ P (.d x) false ρ') R⟩
def dCaI (a : Addr) (od : Option Addr) (e : DE) : DE := ⟨e.m, fun ρ P R => e ρ (fun u _ ρ' => ∃ o, u = .ob (cauR a o) ∧ o.map (·.1) = od ∧ P (.d (.bool true)) false ρ') R⟩
theorem kit_me {K : PySem.W.Frag} {C : Addr} : PySem.W.kitOne K (.ref C) (.ref C) = some true := by
  unfold PySem.W.kitOne
  rw [if_pos (beq_self_eq_true _)]
section
variable {Wp : Wk → Prop} {E : XK} {X : Cx} {e : Expr} {de : DE} {a C dd : Addr} {oe : Obj} {pn : List (Addr × Obj)} {n x : Str} {p2 p3 pos : Pos}
theorem qCaF (T : XfC X.K C) (hno : PySem.W.findIn X.K (.ref C) n = some none) (hz : Zc (.ref C) (some dd) oe) (hf : ∃ vs, oe.data = .fields vs) (je : JE Wp E (X.suite a ((a, oe) :: pn)) e de) (hb : attributeBase e n X.env (eval e X.env) = eval e X.env := by rfl) :
    JE Wp E (X.suite a ((a, oe) :: pn)) (.Attribute e n pos) (dCaF a dd n de) :=
  (pe_xf T hno hz hf je hb).weak fun σ H Q ⟨W, B, M0, ρ, M, P, R, w, G, d, x, h⟩ => lE_go w G d x fun u fr ρ1 v H1 M1 c r => by
    obtain ⟨y, rfl, c⟩ := c
    obtain ⟨rfl, wv, nd, hd, rw'⟩ := r.rep
    exact ⟨rfl, rfl, dd, _, wv, rfl, hd, by simp [List.lookup], h _ _ _ _ _ _ c (.of r.gd rw')⟩
theorem qCaI (T : ExcC X.K C) (hz : Zc (.ref C) (some dd) oe) (hf : ∃ vs, oe.data = .fields vs) (gC : X.mg x = some (.ref C)) (gi : X.mg "isinstance" = none) (je : JE Wp E (X.suite a ((a, oe) :: pn)) e de) (hg : Gl (X.suite a ((a, oe) :: pn)) "isinstance" := by rfl) (hgx : Gl (X.suite a ((a, oe) :: pn)) x := by rfl) (hdb : (x == ("__debug__" : Str)) = false := by decide)
    (h1 : starEach [e, .Name x p3] X.env = (false, eval e X.env) :: starEach [.Name x p3] X.env := by rfl) (h2 : starEach [.Name x p3] X.env = (false, eval (.Name x p3) X.env) :: starEach [] X.env := by rfl) (hpl : (backTo pos (starEach [.Name x p3] X.env)).any (·.1) = false := by rfl) :
    JE Wp E (X.suite a ((a, oe) :: pn)) (.Call (.Name "isinstance" p2) [e, .Name x p3] [] pos) (dCaI a (some dd) de) :=
  (pe_callB (call_isF T hz hf) hg gi rfl (pa_cons je (pa_cons (pe_glob (v := .ref C) hgx gC rfl hdb) pa_nil h2) h1) (by decide) (by decide) h1 hpl).weak fun σ H Q ⟨W, B, M0, ρ, M, P, R, w, G, d, x, h⟩ => lE_go w G d x fun u fr ρ1 v H1 M1 c r => by
    obtain ⟨o, rfl, ho, c⟩ := c
    cases o with
    | none => cases ho
    | some q =>
      obtain ⟨d', f, y⟩ := q
      cases ho
      obtain ⟨rfl, wv, nd, hd, rw'⟩ := r.rep
      exact ⟨⟨_, hd⟩, .ref C, .ref C, true, rfl, fun u h => h, kit_me, h _ _ _ _ _ _ c (Res.bool r.gd _)⟩
theorem qCaI0 (T : ExcC X.K C) (hz : Zc (.ref C) none oe) (hf : ∃ vs, oe.data = .fields vs) (gC : X.mg x = some (.ref C)) (gi : X.mg "isinstance" = none) (je : JE Wp E (X.suite a ((a, oe) :: pn)) e de) (hg : Gl (X.suite a ((a, oe) :: pn)) "isinstance" := by rfl) (hgx : Gl (X.suite a ((a, oe) :: pn)) x := by rfl) (hdb : (x == ("__debug__" : Str)) = false := by decide)
    (h1 : starEach [e, .Name x p3] X.env = (false, eval e X.env) :: starEach [.Name x p3] X.env := by rfl) (h2 : starEach [.Name x p3] X.env = (false, eval (.Name x p3) X.env) :: starEach [] X.env := by rfl) (hpl : (backTo pos (starEach [.Name x p3] X.env)).any (·.1) = false := by rfl) :
    JE Wp E (X.suite a ((a, oe) :: pn)) (.Call (.Name "isinstance" p2) [e, .Name x p3] [] pos) (dCaI a none de) :=
  (pe_callB (call_isE T hz hf) hg gi rfl (pa_cons je (pa_cons (pe_glob (v := .ref C) hgx gC rfl hdb) pa_nil h2) h1) (by decide) (by decide) h1 hpl).weak fun σ H Q ⟨W, B, M0, ρ, M, P, R, w, G, d, x, h⟩ => lE_go w G d x fun u fr ρ1 v H1 M1 c r => by
    obtain ⟨o, rfl, ho, c⟩ := c
    obtain ⟨rfl, _⟩ := r.rep
    exact ⟨.ref C, .ref C, true, rfl, fun u h => h, kit_me, h _ _ _ _ _ _ c (Res.bool r.gd _)⟩
end
/-! ### raise of an own error, over any base -/
def tMkR (C : Addr) (fld : Str) (te : TE) : L2.St → Hp → XK → Prop := fun σ H Q => te σ H fun v H1 => ∀ d, H1 d = none → Q (.ref C) (some d) (upd H1 d (.xd [(fld, v)]))
section
variable {X : Cx} {C : Addr} {nm fld : Str} {e : Expr} {te : TE} {p pos : Pos}
theorem pmk_mkx (T : OwnC X.prog X.w X.K X.mg X.base nm fld C) (r : Raises X (.ref C)) (hr : Room 2 X.A) (he : PE X e te) (hg : Gl X nm := by rfl) (hdb : (nm == ("__debug__" : Str)) = false := by decide) (h1 : starEach [e] X.env = (false, eval e X.env) :: starEach [] X.env := by rfl) (h2 : (backTo pos (starEach [] X.env)).any (·.1) = false := by rfl) :
    PMk X (.Call (.Name nm p) [e] [] pos) (tMkR C fld te) := by
  obtain ⟨fI, fd, iC, tI, F, hbn, _⟩ := T.ini
  obtain ⟨O, newId, bmB, N, hC⟩ := T.new
  intro pins s σ H Q I h
  refine wpAny_Call_Name_kw (ld_glob I hg T.gm ?_ hdb)
  have ha : PA X [e] (tCons te tNil) := pa_cons he pa_nil h1
  refine PySem.W.callWith_K (h₀ := X.base) I.ok.mod.kin T.kC (thn (ha.run pos pins s σ H (one1 fun v H1 => ∀ d, H1 d = none → Q (.ref C) (some d) (upd H1 d (.xd [(fld, v)]))) I h) fun us s1 ⟨vs, H1, I1, r1, q⟩ => ⟨I1.kIn, ?_⟩) h1 h2
  obtain ⟨v, rfl, q⟩ := one1_of q
  cases r1 with
  | @cons _ u _ ur rv rw' =>
  cases rw'
  obtain ⟨nmq, N', qn, bs, bm, hdct, sn, sub, ab, col, dd, k0, k1, k2, k3, k5, hO, ht⟩ := PySem.W.excInit_of I1.kIn hC
  obtain ⟨hp, g, dr, tk, os⟩ := s1
  have hsz : hp.objs.size ≤ hp.objs.size + 1 := Nat.le_succ _
  have hn : H1 (hp.objs.size + 1) = none := I1.hok.fresh hsz
  have kk : ∀ b o, hp.get? b = some o → ((hp.push (PySem.W.kdv_tup [u])).push (PySem.HandSPX.excO C hp.objs.size)).get? b = some o := fun b o e => Heap.get?_push_of_some _ (Heap.get?_push_of_some _ e)
  have hget : ((hp.push (PySem.W.kdv_tup [u])).push (PySem.HandSPX.excO C hp.objs.size)).get? (hp.objs.size + 1) = some (PySem.HandSPX.excO C hp.objs.size) := by heap_get
  have I2 := I1.laid (t' := tk) (a := hp.objs.size + 1) (o := exo (hp.objs.size + 1) C none) kk hsz (exo_ok hget)
  have hq : spIni C fld [.ref (hp.objs.size + 1), v] (upd H1 (hp.objs.size + 1) (exo (hp.objs.size + 1) C none)) (fun v' H2 => v' = .non ∧ ∃ (d : Addr) (fs : List (Str × V)), H2 (hp.objs.size + 1) = some (exo (hp.objs.size + 1) C (some d)) ∧ H2 d = some (exd d fs) ∧ H1 d = none ∧ Q (.ref C) (some d) (upd (del H2 (hp.objs.size + 1)) d (.xd fs))) (fun _ _ _ => False) := by
    refine ⟨_, v, rfl, upd_same, fun dx hdx ne => ⟨rfl, dx, [(fld, v)], upd_same, by rw [upd_ne ne, upd_same], ?_, ?_⟩⟩
    · rw [upd_ne ne] at hdx; exact hdx
    have hd1 : H1 dx = none := by rw [upd_ne ne] at hdx; exact hdx
    have eH : upd (del (upd (upd (upd H1 (hp.objs.size + 1) (exo (hp.objs.size + 1) C none)) dx (exd dx [(fld, v)])) (hp.objs.size + 1) (exo (hp.objs.size + 1) C (some dx))) (hp.objs.size + 1)) dx (.xd [(fld, v)]) = upd H1 dx (.xd [(fld, v)]) := by
      funext b
      by_cases e1 : b = dx
      · rw [e1, upd_same, upd_same]
      · rw [upd_ne e1, upd_ne e1]
        by_cases e2 : b = hp.objs.size + 1
        · rw [e2, del_same, hn]
        · rw [del_ne e2, upd_ne e2, upd_ne e1, upd_ne e2]
    rw [eH]
    exact q dx hd1
  have hb : ∀ (s : Shared) (a : Addr), X.K.In s.heap → BindsTo s fd ⟨.ref a :: [u], []⟩ (List.zip (["self", fld] : List Str) [.ref a, u]) := fun s a kin => by
    have b := hbn s [.ref a, u] kin rfl
    rw [List.append_nil] at b
    exact b
  refine wpAny_call (bx_call N ht hO (by show 1 ≤ sizeLine; rw [sizeLine_eq]; omega) (PySem.W.looks_findIn I1.kIn iC) (fun self => PySem.W.bind_fn I1.kIn self tI)
    (codeAny_mono (F.run _ X.stack _ _ ⟨Value.ref (hp.objs.size + 1) :: [u], []⟩ [.ref (hp.objs.size + 1), u] [.ref (hp.objs.size + 1), v] _ (fun _ _ _ => False) (hr.make C [u] []) (I2.env0.make C [u] []) (hb _ _ I2.kIn) (.cons rfl (.cons rv .nil)) hq) fun r' s' hq' => ?_))
  rcases r' with er | fl
  · exact hq'.elim
  cases fl with
  | ret u2 =>
    obtain ⟨v2, H2, os2, bare2, un2, hok2, r2, ev, d, fs, ea, ed, hd1, q2⟩ := hq'
    subst ev
    obtain ⟨h2', g2, d2, t2, os'⟩ := s'
    exact ⟨r2, mk_end r I1 hsz kk un2 hok2 os2 bare2 ea ed hd1 q2⟩
  | next => exact False.elim hq'
  | brk => exact False.elim hq'
  | cont => exact False.elim hq'
theorem pmk_mk0 (T : Own0 X.K X.mg nm C) (r : Raises X (.ref C)) (he : PE X e te) (hg : Gl X nm := by rfl) (hdb : (nm == ("__debug__" : Str)) = false := by decide) (hs : starEach [e] X.env = (false, eval e X.env) :: starEach [] X.env := by rfl) :
    PMk X (.Call (.Name nm p) [e] [] pos) (fun σ H Q => te σ H fun _ H1 => Q (.ref C) none H1) := by
  intro pins s σ H Q I h
  refine wpAny_Call_Name_kw (ld_glob I hg T.gm ?_ hdb)
  refine PySem.W.callWith_K (h₀ := X.base) I.ok.mod.kin T.kC ?_ hs (by rfl)
  rw [hs]
  show wpAny _ _ (spliced ((false, eval e X.env) :: backTo pos (starEach [] X.env))) _ _ s
  refine Calls.spliced_cons (thn (he.run pins s σ H _ I h) fun u s1 ⟨v, H1, I1, r1, q1⟩ => ?_)
  refine Calls.spliced_nil ⟨I1.kIn, ?_⟩
  show wpAny _ _ (call (.ref C) [u]) _ _ _
  obtain ⟨bm, N, nm, qn, bs, hdct, sn, sub, ab, col, dd, k0, k1, k2, k3, k5, mN, hC, hN, hni, T'⟩ := exc_obj I1.kIn T.ex
  refine wpAny_call_exc_subT PySem.F.excBase_ValueError T' hC hN hni (fun h' a hm => ?_) (by show 1 ≤ sizeLine; rw [sizeLine_eq]; omega)
  exact mk_of I1 hm r q1 (I1.hok.gone hm.new)
end
/-! ### try: raise C(e) except Y (as n): suite -/
def wipeD (i : Nat) (D : DK) : DK := { D with nx := fun ρ => D.nx (wipeE ρ [i]), bk := fun ρ => D.bk (wipeE ρ [i]), ct := fun ρ => D.ct (wipeE ρ [i]) }
def sTryX (i : Nat) (fld : Str) (n : Nat) (e : DE) (su : Addr → Addr → DS) : DS := ⟨e.m + n, fun ρ D => e ρ (fun u _ ρ1 => ∃ x, u = .d x ∧ ∀ a d, (su a d) (En.put ρ1 i false (.ob (cauR a (some (d, fld, x))))) (wipeD i D)) D.ex⟩
def sTry0 (i : Nat) (n : Nat) (e : DE) (su : Addr → DS) : DS := ⟨e.m + n, fun ρ D => e ρ (fun _ _ ρ1 => ∀ a, (su a) (En.put ρ1 i false (.ob (cauR a none))) (wipeD i D)) D.ex⟩
def sTryO (n : Nat) (e : DE) (su : DS) : DS := ⟨e.m + n, fun ρ D => e ρ (fun u _ ρ1 => ∃ x, u = .d x ∧ su ρ1 D) D.ex⟩
section
variable {Wp : Wk → Prop} {E : XK} {X : Cx} {e : Expr} {de : DE} {C : Addr} {c : Value} {nm fld x n : Str} {i m k : Nat} {b₀ : Stmt} {suite : List Stmt} {p np pos pos1 pos2 pos' : Pos} {su : Addr → Addr → DS} {su0 : Addr → DS} {suO : DS}
theorem qTryX (i : Nat) (m : Nat) (g : Gx X) (T : OwnC X.prog X.w X.K X.mg X.base nm fld C) (r : Raises X (.ref C)) (hr : RmG k X.A) (em : PySem.W.exmOne X.K (.ref C) c = some true) (hc : Names X x c)
    (je : ∀ (pn : List (Addr × Obj)) (xe : Value → Shared → Prop), JE Wp E (X.tr pn xe) e de)
    (hsu : ∀ (a : Addr) (oe : Obj) (dd : Addr) (pn : List (Addr × Obj)), Zc (.ref C) (some dd) oe → (∃ vs, oe.data = .fields vs) → JB Wp E (X.suite a ((a, oe) :: pn)) (b₀ :: suite) (su a dd)) (hm : ∀ a d, (su a d).m ≤ m) (hk : 2 ≤ k := by decide)
    (hs : X.stack = X.env :: X.outer := by rfl) (hf : X.env.frame = some X.env.locals := by rfl) (hi : X.N[i]? = some n := by rfl) (hln : X.env.kindOf n = some .local := by rfl) (hg : Gl X nm := by rfl) (hdb : (nm == ("__debug__" : Str)) = false := by decide)
    (h1 : starEach [e] X.env = (false, eval e X.env) :: starEach [] X.env := by rfl) (h2 : (backTo pos1 (starEach [] X.env)).any (·.1) = false := by rfl) :
    JS Wp E X (.Try [.Raise (some (.Call (.Name nm p) [e] [] pos1)) none pos2] [.ExceptHandler (some (.Name x np)) (some n) (b₀ :: suite) pos'] [] [] pos) (sTryX i fld m de su) := by
  refine (ps_try_as (i := i) (tb := fun W => tSeq (fun _ σ H => tMkR C fld (lE Wp X.K X.mg E de) σ H fun cls d H' => W cls d σ H') tNext) (ts := fun a cls d D σ H => cls = .ref C ∧ ∃ dd, d = some dd ∧ lS Wp X.K X.mg E (su a dd) D σ H) (Wout := fun _ _ _ _ => False) hs hf g.nd hi hln hc LamX.takes0
    (fun W pn xe tk _ => pss_one (ps_raise (X := X.tr pn xe) g.calm tk (pmk_mkx (X := X.tr pn xe) T r (hr.rm.mono hk) (je pn xe) hg hdb h1 h2)))
    (fun a oe cls d pn hz hf => ⟨fun pins s σ H D I h' => by
      obtain ⟨rfl, dd, rfl, h'⟩ := h'
      exact (hsu a oe dd pn hz hf).run pins s σ H D I h'⟩)).weakI fun pins s σ H D I ⟨W, H0, B, M0, ρ, M, DD, w, G, d, x, q1, q2, q3, q4⟩ => ?_
  refine lE_go w G d x fun u fr ρ1 v H1 M1 c' r' => ?_
  obtain ⟨y, rfl, c'⟩ := c'
  intro dd hd
  refine ⟨true, em, fun _ a na => ⟨rfl, dd, rfl, ?_⟩, fun h => Bool.noConfusion h⟩
  have hi' : i < σ.length := by rw [I.len]; exact (List.getElem?_eq_some_iff.mp hi).1
  have rv : Rep X.K H1 M1 v y := r'.rep
  have G3 := (r'.gd.grow (o := .xd [(fld, v)]) hd).put0 (u := .ob (cauR a (some (dd, fld, y)))) (v := .ref a) hi' ⟨rfl, v, fun z => r'.gd.liv _ z hd, upd_same, rv.keep (Kp.fresh hd)⟩
  have le : de.m + (su a dd).m ≤ de.m + m := Nat.add_le_add_left (hm a dd) _
  refine lS_go' w G3 (c' a dd) x (fun σ' ρ' H' M' e c G' => q1 _ _ _ _ (by rw [List.length_set, e, List.length_set]) c ((G'.wiped [i]).mono le)) (fun u fr v H' c r => q2 _ _ _ _ c (r.mono le))
    (fun σ' ρ' H' M' e c G' => q3 _ _ _ _ (by rw [List.length_set, e, List.length_set]) c ((G'.wiped [i]).mono le)) (fun σ' ρ' H' M' e c G' => q4 _ _ _ _ (by rw [List.length_set, e, List.length_set]) c ((G'.wiped [i]).mono le)) (hle := le)
theorem qTry0 (i : Nat) (m : Nat) (g : Gx X) (T : Own0 X.K X.mg nm C) (r : Raises X (.ref C)) (em : PySem.W.exmOne X.K (.ref C) c = some true) (hc : Names X x c)
    (je : ∀ (pn : List (Addr × Obj)) (xe : Value → Shared → Prop), JE Wp E (X.tr pn xe) e de)
    (hsu : ∀ (a : Addr) (oe : Obj) (pn : List (Addr × Obj)), Zc (.ref C) none oe → (∃ vs, oe.data = .fields vs) → JB Wp E (X.suite a ((a, oe) :: pn)) (b₀ :: suite) (su0 a)) (hm : ∀ a, (su0 a).m ≤ m)
    (hs : X.stack = X.env :: X.outer := by rfl) (hf : X.env.frame = some X.env.locals := by rfl) (hi : X.N[i]? = some n := by rfl) (hln : X.env.kindOf n = some .local := by rfl) (hg : Gl X nm := by rfl) (hdb : (nm == ("__debug__" : Str)) = false := by decide)
    (h1 : starEach [e] X.env = (false, eval e X.env) :: starEach [] X.env := by rfl) :
    JS Wp E X (.Try [.Raise (some (.Call (.Name nm p) [e] [] pos1)) none pos2] [.ExceptHandler (some (.Name x np)) (some n) (b₀ :: suite) pos'] [] [] pos) (sTry0 i m de su0) := by
  refine (ps_try_as (i := i) (tb := fun W => tSeq (fun _ σ H => lE Wp X.K X.mg E de σ H fun _ H' => W (.ref C) none σ H') tNext) (ts := fun a cls d D σ H => cls = .ref C ∧ d = none ∧ lS Wp X.K X.mg E (su0 a) D σ H) (Wout := fun _ _ _ _ => False) hs hf g.nd hi hln hc LamX.takes0
    (fun W pn xe tk _ => pss_one (ps_raise (X := X.tr pn xe) g.calm tk (pmk_mk0 (X := X.tr pn xe) T r (je pn xe) hg hdb h1)))
    (fun a oe cls d pn hz hf => ⟨fun pins s σ H D I h' => by
      obtain ⟨rfl, rfl, h'⟩ := h'
      exact (hsu a oe pn hz hf).run pins s σ H D I h'⟩)).weakI fun pins s σ H D I ⟨W, H0, B, M0, ρ, M, DD, w, G, d, x, q1, q2, q3, q4⟩ => ?_
  refine lE_go w G d x fun u fr ρ1 v H1 M1 c' r' => ?_
  refine ⟨true, em, fun _ a na => ⟨rfl, rfl, ?_⟩, fun h => Bool.noConfusion h⟩
  have hi' : i < σ.length := by rw [I.len]; exact (List.getElem?_eq_some_iff.mp hi).1
  have G3 := r'.gd.put0 (u := .ob (cauR a none)) (v := .ref a) hi' ⟨rfl, True.intro⟩
  have le : de.m + (su0 a).m ≤ de.m + m := Nat.add_le_add_left (hm a) _
  refine lS_go' w G3 (c' a) x (fun σ' ρ' H' M' e c G' => q1 _ _ _ _ (by rw [List.length_set, e, List.length_set]) c ((G'.wiped [i]).mono le)) (fun u fr v H' c r => q2 _ _ _ _ c (r.mono le))
    (fun σ' ρ' H' M' e c G' => q3 _ _ _ _ (by rw [List.length_set, e, List.length_set]) c ((G'.wiped [i]).mono le)) (fun σ' ρ' H' M' e c G' => q4 _ _ _ _ (by rw [List.length_set, e, List.length_set]) c ((G'.wiped [i]).mono le)) (hle := le)
theorem qTryO (m : Nat) (g : Gx X) (T : OwnC X.prog X.w X.K X.mg X.base nm fld C) (r : Raises X (.ref C)) (hr : RmG k X.A) (em : PySem.W.exmOne X.K (.ref C) c = some true) (hc : Names X x c)
    (je : ∀ (pn : List (Addr × Obj)) (xe : Value → Shared → Prop), JE Wp E (X.tr pn xe) e de)
    (hsu : ∀ (a : Addr) (oe : Obj) (pn : List (Addr × Obj)), JB Wp E (X.suite a ((a, oe) :: pn)) (b₀ :: suite) suO) (hm : suO.m ≤ m) (hk : 2 ≤ k := by decide)
    (hs : X.stack = X.env :: X.outer := by rfl) (hf : X.env.frame = some X.env.locals := by rfl) (hg : Gl X nm := by rfl) (hdb : (nm == ("__debug__" : Str)) = false := by decide)
    (h1 : starEach [e] X.env = (false, eval e X.env) :: starEach [] X.env := by rfl) (h2 : (backTo pos1 (starEach [] X.env)).any (·.1) = false := by rfl) :
    JS Wp E X (.Try [.Raise (some (.Call (.Name nm p) [e] [] pos1)) none pos2] [.ExceptHandler (some (.Name x np)) none (b₀ :: suite) pos'] [] [] pos) (sTryO m de suO) := by
  refine (ps_try_only (tb := fun W => tSeq (fun _ σ H => tMkR C fld (lE Wp X.K X.mg E de) σ H fun cls d H' => W cls d σ H') tNext) (ts := fun a cls d D σ H => lS Wp X.K X.mg E suO D σ H) (Wout := fun _ _ _ _ => False) hs hf hc LamX.takes0
    (fun W pn xe tk _ => pss_one (ps_raise (X := X.tr pn xe) g.calm tk (pmk_mkx (X := X.tr pn xe) T r (hr.rm.mono hk) (je pn xe) hg hdb h1 h2)))
    (fun a oe cls d pn hz hf => hsu a oe pn)).weakI fun pins s σ H D I ⟨W, H0, B, M0, ρ, M, DD, w, G, d, x, q1, q2, q3, q4⟩ => ?_
  refine lE_go w G d x fun u fr ρ1 v H1 M1 c' r' => ?_
  obtain ⟨y, rfl, c'⟩ := c'
  intro dd hd
  refine ⟨true, em, fun _ a na => ?_, fun h => Bool.noConfusion h⟩
  have G3 := r'.gd.grow (o := .xd [(fld, v)]) hd
  have le : de.m + suO.m ≤ de.m + m := Nat.add_le_add_left hm _
  refine lS_go' w G3 c' x (fun σ' ρ' H' M' e c G' => q1 _ _ _ _ e c (G'.mono le)) (fun u fr v H' c r => q2 _ _ _ _ c (r.mono le))
    (fun σ' ρ' H' M' e c G' => q3 _ _ _ _ e c (G'.mono le)) (fun σ' ρ' H' M' e c G' => q4 _ _ _ _ e c (G'.mono le)) (hle := le)
end
/-! ### {text: name} -/
def dDictS (k : Str) (i : Nat) : DE := ⟨0, fun ρ P _ => ∃ x, En.at ρ i = some ⟨false, .d x⟩ ∧ P (.d (.dict [(.str k, x)])) false ρ⟩
section
variable {Wp : Wk → Prop} {E : XK} {X : Cx} {k x : Str} {l : Nat} {p1 p2 pos : Pos}
theorem qDictS (i : Nat) (hN : X.N[i]? = some x := by rfl) (hv : Vis X.env.scope x := by first | exact Or.inl rfl | exact Or.inr (Or.inl rfl) | exact Or.inr (Or.inr rfl)) (hd : (x == ("__debug__" : Str)) = false := by decide)
    (hcd : (x == ("__classdict__" : Str)) = false := by decide) : JE Wp E X (.Dict [some (.Constant (.str k) l p1)] [.Name x p2] pos) (dDictS k i) := by
  refine (pe_disp (pps_cons pe_str (pe_var hN hv hd hcd) pps_nil) rfl rfl (by simp) (by simp)).weak fun σ H Q ⟨W, B, M0, ρ, M, P, R, w, G, d, x, h⟩ p hp => ?_
  obtain ⟨y, e, c⟩ := d
  obtain ⟨v, h1, h2⟩ := G.ent i _ (En.at_get e)
  unfold EntOk at h2
  rw [if_neg (by simp)] at h2
  have h2 : Rep X.K H M v y := h2
  refine ⟨v, h1, upd_same, [(.inr k, v)], rfl, by simp, ?_⟩
  rw [upd_upd]
  exact h _ _ _ _ _ _ c (.of (G.grow hp) (Rep.dct (kvs := [(.inr k, v)]) (ds := [y]) (fun z => G.liv p z hp) upd_same (.cons (h2.keep (Kp.fresh hp)) .nil)))
end
end G9

namespace G9
open PySem PySem.Spec L2 PyProof.Rows
theorem lcL_pure {f : PyData → En → (Option PyData → En → Prop) → Prop} {Q : List PyData → En → Prop} (b : PyData → Bool) (g : PyData → PyData) (I : En → Prop) : ∀ {xs : List PyData} {ρ : En} {acc : List PyData}, I ρ →
    (∀ x ∈ xs, ∀ ρ k, I ρ → (∀ ρ', I ρ' → k (if b x = true then some (g x) else none) ρ') → f x ρ k) → (∀ ρ', I ρ' → Q (acc ++ (xs.filter b).map g) ρ') → lcL f xs ρ acc Q
  | [], ρ, acc, h0, _, q => by simpa [lcL] using q ρ h0
  | x :: r, ρ, acc, h0, st, q => by
    refine st x List.mem_cons_self ρ _ h0 fun ρ' h1 => ?_
    by_cases hb : b x = true
    · rw [if_pos hb]
      refine lcL_pure b g I h1 (fun y hy => st y (List.mem_cons_of_mem _ hy)) fun ρ2 h2 => ?_
      have := q ρ2 h2
      rw [List.filter_cons_of_pos hb, List.map_cons] at this
      rw [List.append_assoc]; exact this
    · rw [if_neg hb]
      refine lcL_pure b g I h1 (fun y hy => st y (List.mem_cons_of_mem _ hy)) fun ρ2 h2 => ?_
      have := q ρ2 h2
      rw [List.filter_cons_of_neg hb] at this
      exact this
theorem lcL_map {f : PyData → En → (Option PyData → En → Prop) → Prop} {Q : List PyData → En → Prop} (g : PyData → PyData) (I : En → Prop) {xs : List PyData} {ρ : En} (h : I ρ)
    (st : ∀ x ∈ xs, ∀ ρ k, I ρ → (∀ ρ', I ρ' → k (some (g x)) ρ') → f x ρ k) (q : ∀ ρ', I ρ' → Q (xs.map g) ρ') : lcL f xs ρ [] Q :=
  lcL_pure (fun _ => true) g I h (fun x hx ρ k i hk => st x hx ρ k i fun ρ' i' => by have := hk ρ' i'; rw [if_pos rfl] at this; exact this) fun ρ' i => by
    rw [List.nil_append, List.filter_eq_self.mpr (fun _ _ => rfl)]; exact q ρ' i
theorem lcL_inv0 {f : PyData → En → (Option PyData → En → Prop) → Prop} {Q : List PyData → En → Prop} (J : Nat → List PyData → En → Prop) : ∀ {xs : List PyData} {ρ : En} {acc : List PyData} {n : Nat}, J n acc ρ →
    (∀ n, ∀ x ∈ xs, ∀ acc ρ k, J n acc ρ → (∀ y ρ', J (n + 1) (acc ++ [y]) ρ' → k (some y) ρ') → (∀ ρ', J (n + 1) acc ρ' → k none ρ') → f x ρ k) → (∀ acc ρ', J (n + xs.length) acc ρ' → Q acc ρ') → lcL f xs ρ acc Q
  | [], ρ, acc, n, h0, _, q => q acc ρ h0
  | x :: r, ρ, acc, n, h0, st, q => by
    have q' : ∀ acc ρ', J (n + 1 + r.length) acc ρ' → Q acc ρ' := fun acc ρ' h => q acc ρ' (by rw [List.length_cons, ← Nat.add_assoc, Nat.add_right_comm]; exact h)
    exact st n x List.mem_cons_self acc ρ _ h0 (fun y ρ' h => lcL_inv0 J h (fun m y hy => st m y (List.mem_cons_of_mem _ hy)) q') (fun ρ' h => lcL_inv0 J h (fun m y hy => st m y (List.mem_cons_of_mem _ hy)) q')
theorem lcL_inv {f : PyData → En → (Option PyData → En → Prop) → Prop} {Q : List PyData → En → Prop} (J : Nat → List PyData → En → Prop) {xs : List PyData} {ρ : En} (h0 : J 0 [] ρ)
    (st : ∀ n, ∀ x ∈ xs, ∀ acc ρ k, J n acc ρ → (∀ y ρ', J (n + 1) (acc ++ [y]) ρ' → k (some y) ρ') → (∀ ρ', J (n + 1) acc ρ' → k none ρ') → f x ρ k) (q : ∀ acc ρ', J xs.length acc ρ' → Q acc ρ') : lcL f xs ρ [] Q :=
  lcL_inv0 J h0 st fun acc ρ' h => q acc ρ' (by rw [Nat.zero_add] at h; exact h)
theorem forL_inv0 {f : PyData → En → (En → Prop) → Prop} {Q : En → Prop} (J : Nat → En → Prop) (N : Nat) : ∀ {xs : List PyData} {ρ : En} {n : Nat}, n + xs.length = N → J n ρ →
    (∀ n x ρ k, n < N → x ∈ xs → J n ρ → (∀ ρ', J (n + 1) ρ' → k ρ') → f x ρ k) → (∀ ρ', J N ρ' → Q ρ') → forL f xs ρ Q
  | [], ρ, n, e, h0, _, q => q ρ (by rw [← e]; exact h0)
  | x :: r, ρ, n, e, h0, st, q => st n x ρ _ (by rw [List.length_cons] at e; omega) List.mem_cons_self h0 fun ρ' h => forL_inv0 J N (by rw [List.length_cons] at e; omega) h (fun m y ρ k hm hy => st m y ρ k hm (List.mem_cons_of_mem _ hy)) q
theorem forL_inv {f : PyData → En → (En → Prop) → Prop} {Q : En → Prop} (J : Nat → En → Prop) (N : Nat) {xs : List PyData} {ρ : En} (e : xs.length = N) (h : J 0 ρ)
    (st : ∀ n x ρ k, n < N → x ∈ xs → J n ρ → (∀ ρ', J (n + 1) ρ' → k ρ') → f x ρ k) (q : ∀ ρ', J N ρ' → Q ρ') : forL f xs ρ Q :=
  forL_inv0 J N (by rw [Nat.zero_add]; exact e) h st q
theorem iteB {b : Bool} {A B : Prop} (h : b = true → A) (h' : b = false → B) : if b = true then A else B := by
  cases b
  · rw [if_neg (by simp)]; exact h' rfl
  · rw [if_pos rfl]; exact h rfl
theorem gF {b : Bool} {A B : Prop} (h : B) (e : b = false := by rfl) : if b = true then A else B := by
  subst e; rw [if_neg (by simp)]; exact h
theorem gT {b : Bool} {A B : Prop} (h : A) (e : b = true := by rfl) : if b = true then A else B := by
  subst e; rw [if_pos rfl]; exact h
theorem tB {b : Bool} {Q : Bool → Prop} (h : b = true → Q true) (h' : b = false → Q false) : truS (.bool b) Q := by
  cases b
  · exact h' rfl
  · exact h rfl
theorem cLe {i j : Int} {Q : Bool → Prop} (h : i ≤ j → Q true) (h' : j < i → Q false) : cmS .le (.int i) (.int j) Q := by
  show Q (decide (i ≤ j))
  by_cases c : i ≤ j
  · rw [decide_eq_true c]; exact h c
  · rw [decide_eq_false c]; exact h' (by omega)
theorem cGt {i j : Int} {Q : Bool → Prop} (h : j < i → Q true) (h' : i ≤ j → Q false) : cmS .gt (.int i) (.int j) Q := by
  show Q (decide (j < i))
  by_cases c : j < i
  · rw [decide_eq_true c]; exact h c
  · rw [decide_eq_false c]; exact h' (by omega)
theorem cEq {i j : Int} {Q : Bool → Prop} (h : i = j → Q true) (h' : i ≠ j → Q false) : cmS .eq (.int i) (.int j) Q := by
  refine ⟨.inl ⟨rfl, rfl⟩, ?_⟩
  show Q (decide (i = j))
  by_cases c : i = j
  · rw [decide_eq_true c]; exact h c
  · rw [decide_eq_false c]; exact h' c
def letB (c : Nat) : Bool := decide (97 ≤ c) && decide (c ≤ 122)
def nameB : PyData → Bool
  | .str s => decide (1 ≤ s.length) && decide (s.length ≤ 6) && s.cps.toList.all letB
  | _ => false
/-- what is asked of a text: it is not long -/
def StrOk (x : PyData) : Prop := ∀ s, x = .str s → s.length ≤ sizeLine
theorem letters_mem (c : Nat) : decide (c ∈ ("abcdefghijklmnopqrstuvwxyz" : Str).cps.toList) = letB c := by
  have e : ("abcdefghijklmnopqrstuvwxyz" : Str).cps.toList = [97,98,99,100,101,102,103,104,105,106,107,108,109,110,111,112,113,114,115,116,117,118,119,120,121,122] := by decide +kernel
  rw [e]
  unfold letB
  rw [← Bool.decide_and, decide_eq_decide]
  simp only [List.mem_cons, List.not_mem_nil, or_false]
  omega
theorem boolsD_of : ∀ bs : List Bool, boolsD (bs.map .bool) = some bs
  | [] => rfl
  | b :: r => by show (boolsD (r.map .bool)).map (b :: ·) = _; rw [boolsD_of r]; rfl
theorem name_len {s : Str} : (decide ((1 : Int) ≤ (s.length : Int)) = true) ↔ 1 ≤ s.length := by rw [decide_eq_true_iff]; omega
theorem nameB_str {s : Str} (h1 : 1 ≤ s.length) (h2 : s.length ≤ 6) : nameB (.str s) = s.cps.toList.all letB := by
  simp only [nameB]
  rw [decide_eq_true h1, decide_eq_true h2]
  simp
theorem nameB_no {s : Str} (h : ¬ (1 ≤ s.length ∧ s.length ≤ 6)) : nameB (.str s) = false := by
  simp only [nameB, Bool.and_eq_false_iff, decide_eq_false_iff_not]
  exact .inl (by omega)
theorem cutD_init {α : Type} (xs : List α) : cutD xs none (some (-1)) = xs.dropLast := by
  unfold cutD
  rw [HT.sIx_none]
  have e : HT.sIx xs.length xs.length (some (-1)) = xs.length - 1 := by
    unfold HT.sIx
    simp only
    rw [if_pos (by omega)]
    omega
  rw [e, List.drop_zero, Nat.sub_zero, List.dropLast_eq_take]
theorem cutD_tail {α : Type} (xs : List α) : cutD xs (some 1) none = xs.tail := by
  unfold cutD
  rw [HT.sIx_none]
  have e : HT.sIx xs.length 0 (some 1) = min 1 xs.length := HT.sIx_nat _ _ 1
  rw [e]
  cases xs with
  | nil => rfl
  | cons x r =>
    have e2 : min 1 (x :: r).length = 1 := by rw [List.length_cons]; omega
    rw [e2, List.drop_one, List.tail_cons, List.length_cons, Nat.add_sub_cancel, List.take_length]
theorem cutD_mem {α : Type} {xs : List α} {lo hi : Option Int} {x : α} (h : x ∈ cutD xs lo hi) : x ∈ xs := List.mem_of_mem_drop (List.mem_of_mem_take h)
theorem cutD_len {α : Type} (xs : List α) (lo hi : Option Int) : (cutD xs lo hi).length ≤ xs.length := by
  unfold cutD
  rw [List.length_take, List.length_drop]
  omega
theorem cutD_map {α β : Type} (f : α → β) (xs : List α) (lo hi : Option Int) : cutD (xs.map f) lo hi = (cutD xs lo hi).map f := by
  unfold cutD
  rw [List.length_map, List.map_take, List.map_drop]
theorem cutS_mem {s : Str} {lo hi : Option Int} {c : Nat} (h : c ∈ (cutS s lo hi).cps.toList) : c ∈ s.cps.toList := by
  unfold cutS at h
  rw [List.toList_toArray] at h
  exact List.mem_of_mem_drop (List.mem_of_mem_take h)
theorem join_empty (zs : List Str) : (Txt.join "" zs).cps.toList = (zs.map fun z => z.cps.toList).flatten := by
  have go : ∀ zs : List Str, (Str.join "" zs).cps.toList = (zs.map fun z => z.cps.toList).flatten := fun zs => by
    induction zs with
    | nil => rfl
    | cons z r ih =>
      cases r with
      | nil => simp [Str.join]
      | cons y r =>
        show (z ++ ("" : Str) ++ Str.join "" (y :: r)).cps.toList = _
        have e : ∀ a b : Str, (a ++ b).cps.toList = a.cps.toList ++ b.cps.toList := fun a b => by show (a.cps ++ b.cps).toList = _; simp
        rw [e, e, ih]
        have e0 : ("" : Str).cps.toList = [] := rfl
        rw [e0, List.append_nil, List.map_cons (l := y :: r), List.flatten_cons]
  have e : Txt.join "" zs = Str.join "" zs := StrLaws.glued_eq_join _ _
  rw [e]
  exact go zs
/-! ### bounded data -/
structure Ok (x : PyData) (d w : Nat) : Prop where
  sh : x.showable = true
  lv : x.leavesShort 45 = true
  dp : x.depth ≤ d
  wt : x.weight ≤ w
theorem Ok.mono {x : PyData} {d w d' w' : Nat} (h : Ok x d w) (a : d ≤ d') (b : w ≤ w') : Ok x d' w' := ⟨h.sh, h.lv, Nat.le_trans h.dp a, Nat.le_trans h.wt b⟩
theorem Ok.str {s : Str} {w : Nat} (h : ∀ c ∈ s.cps.toList, c < 128) (hl : s.length ≤ w) : Ok (.str s) 0 w :=
  ⟨rfl, by simp only [PyData.leavesShort, List.all_eq_true, decide_eq_true_eq]; intro c hc; have := h c hc; have e : (16 : Nat) ^ 8 = 4294967296 := by decide
           omega, Nat.le_refl _, hl⟩
theorem ok_all {xs : List PyData} {d w : Nat} (h : ∀ x ∈ xs, Ok x d w) : PyData.showableAll xs = true ∧ PyData.leavesShortAll 45 xs = true ∧ PyData.depthAll xs ≤ d ∧ PyData.weightAll xs ≤ (w + 1) * xs.length := by
  induction xs with
  | nil => exact ⟨rfl, rfl, Nat.zero_le _, Nat.zero_le _⟩
  | cons x r ih =>
    obtain ⟨a, b, c, e⟩ := ih fun y hy => h y (List.mem_cons_of_mem _ hy)
    have hx := h x List.mem_cons_self
    refine ⟨by simp only [PyData.showableAll, hx.sh, a, Bool.and_self], by simp only [PyData.leavesShortAll, hx.lv, b, Bool.and_self], ?_, ?_⟩
    · simp only [PyData.depthAll]
      exact Nat.max_le.mpr ⟨hx.dp, c⟩
    · simp only [PyData.weightAll, List.length_cons, Nat.mul_add, Nat.mul_one]
      have := hx.wt
      omega
theorem Ok.tup {xs : List PyData} {d w n : Nat} (h : ∀ x ∈ xs, Ok x d w) (hn : xs.length ≤ n) : Ok (.tuple xs) (d + 1) ((w + 1) * n) := by
  obtain ⟨a, b, c, e⟩ := ok_all h
  refine ⟨by simp only [PyData.showable]; exact a, by simp only [PyData.leavesShort]; exact b, by simp only [PyData.depth]; omega, ?_⟩
  simp only [PyData.weight]
  exact Nat.le_trans e (Nat.mul_le_mul_left _ hn)
theorem Ok.lst {xs : List PyData} {d w n : Nat} (h : ∀ x ∈ xs, Ok x d w) (hn : xs.length ≤ n) : Ok (.list xs) (d + 1) ((w + 1) * n) := by
  obtain ⟨a, b, c, e⟩ := ok_all h
  refine ⟨by simp only [PyData.showable]; exact a, by simp only [PyData.leavesShort]; exact b, by simp only [PyData.depth]; omega, ?_⟩
  simp only [PyData.weight]
  exact Nat.le_trans e (Nat.mul_le_mul_left _ hn)
theorem Ok.shown {x : PyData} {d w : Nat} (h : Ok x d w) (hw : w ≤ 300000) : x.shown.length ≤ sizeLine := by
  have := PyData.shown_le 45 (by decide) x h.lv
  have := h.wt
  rw [sizeLine_eq]
  omega
theorem Ok.strLen {s : Str} {d w : Nat} (h : Ok (.str s) d w) : s.length ≤ w := h.wt
theorem weightAll_mem {xs : List PyData} {x : PyData} (h : x ∈ xs) : x.weight ≤ PyData.weightAll xs := by
  induction xs with
  | nil => cases h
  | cons y r ih =>
    simp only [PyData.weightAll]
    rcases List.mem_cons.mp h with rfl | h
    · omega
    · have := ih h; omega
/-! ### names -/
def ascB : List Str → Bool
  | a :: b :: r => ltS a b && ascB (b :: r)
  | _ => true
theorem ascB_zip : ∀ ss : List Str, (List.zipWith ltS ss.dropLast ss.tail).all id = ascB ss
  | [] => rfl
  | [_] => rfl
  | a :: b :: r => by
    show (ltS a b :: List.zipWith ltS (b :: r).dropLast (b :: r).tail).all id = (ltS a b && ascB (b :: r))
    rw [List.all_cons, ascB_zip (b :: r)]
    rfl
theorem mem_zipD {xs ys : List PyData} {x : PyData} (h : x ∈ zipD xs ys) : ∃ a ∈ xs, ∃ b ∈ ys, x = .tuple [a, b] := by
  unfold zipD at h
  obtain ⟨i, hi⟩ := List.getElem?_of_mem h
  rw [List.getElem?_zipWith] at hi
  cases ha : xs[i]? with
  | none => rw [ha] at hi; cases hi
  | some a =>
    cases hb : ys[i]? with
    | none => rw [ha, hb] at hi; cases hi
    | some b =>
      rw [ha, hb] at hi
      cases hi
      exact ⟨a, List.mem_of_getElem? ha, b, List.mem_of_getElem? hb, rfl⟩
end G9

/-! Q2: plain: short texts, ascending lists of names, party sets, maximal sets. -/
namespace G9
open PySem PySem.Spec L2 PyProof.Rows
theorem atI_some {α : Type} {xs : List α} {i : Int} (h0 : 0 ≤ i) (h : i < xs.length) : ∃ y, atI xs i = some y ∧ y ∈ xs := by
  obtain ⟨j, rfl⟩ := Int.eq_ofNat_of_zero_le h0
  have hj : j < xs.length := by omega
  exact ⟨xs[j], atI_nat (List.getElem?_eq_getElem hj), List.getElem_mem hj⟩
/-- a short text -/
structure Sht (n : Nat) (s : Str) : Prop where
  len : s.length ≤ n
  cps : ∀ c ∈ s.cps.toList, c < 128
theorem mulOk_one (c : Nat) (n : Int) (h0 : 0 ≤ n) (h : n ≤ 1000) : MulOk ⟨#[c]⟩ n := by
  have e : (⟨#[c]⟩ : Str).length = 1 := rfl
  refine ⟨?_, fun h1 _ => ?_, fun h1 _ => ?_⟩
  · simp only [Bool.or_eq_false_iff, decide_eq_false_iff_not]
    omega
  · rw [e]
    have : 1 ≤ (2 ^ 63 - 1 : Int) / n := (Int.le_ediv_iff_mul_le (by omega)).mpr (by omega)
    omega
  · rw [e]
    show decide (1 * n.toNat > sizeLine) = false
    rw [sizeLine_eq]
    exact decide_eq_false (by omega)
theorem sht_mul {c : Nat} {n : Int} {k : Nat} (hc : c < 128) (h : n ≤ k) : Sht k (Txt.mul ⟨#[c]⟩ n) := by
  have e := mul_one_list c n
  refine ⟨?_, fun x hx => ?_⟩
  · show (Txt.mul ⟨#[c]⟩ n).cps.size ≤ k
    rw [← Array.length_toList, e, List.length_replicate]
    omega
  · rw [e] at hx
    rw [List.eq_of_mem_replicate hx]
    exact hc
theorem letters_lt {c : Nat} (h : c ∈ ("abcdefghijklmnopqrstuvwxyz" : Str).cps.toList) : c < 128 := by
  have := letters_mem c
  rw [decide_eq_true h] at this
  have := this.symm
  unfold letB at this
  simp only [Bool.and_eq_true, decide_eq_true_iff] at this
  omega
theorem cat_list (a b : Str) : (a ++ b).cps.toList = a.cps.toList ++ b.cps.toList := by show (a.cps ++ b.cps).toList = _; simp
theorem Sht.cut {n : Nat} {s : Str} (h : Sht n s) (lo hi : Option Int) : Sht n (cutS s lo hi) := ⟨Nat.le_trans (cutS_length s lo hi) h.len, fun c hc => h.cps c (cutS_mem hc)⟩
theorem Sht.app {n m : Nat} {a b : Str} (h : Sht n a) (k : Sht m b) : Sht (n + m) (a ++ b) := by
  refine ⟨?_, fun c hc => ?_⟩
  · show (a ++ b).cps.size ≤ _
    rw [← Array.length_toList, cat_list, List.length_append]
    exact Nat.add_le_add h.len k.len
  · rw [cat_list] at hc
    exact (List.mem_append.mp hc).elim (h.cps c) (k.cps c)
theorem Sht.one {c : Nat} (h : c < 128) : Sht 1 ⟨#[c]⟩ := ⟨Nat.le_refl _, fun x hx => by rw [List.mem_singleton.mp hx]; exact h⟩
theorem Sht.mono {n m : Nat} {a : Str} (h : Sht n a) (k : n ≤ m) : Sht m a := ⟨Nat.le_trans h.len k, h.cps⟩
theorem strsD_of : ∀ ss : List Str, strsD (ss.map .str) = some ss
  | [] => rfl
  | b :: r => by show (strsD (r.map .str)).map (b :: ·) = _; rw [strsD_of r]; rfl
theorem tupsD_of : ∀ ss : List (List Str), tupsD (ss.map tupS) = some ss
  | [] => rfl
  | b :: r => by show (strsD (b.map .str)).bind (fun s => (tupsD (r.map tupS)).map (s :: ·)) = _; rw [strsD_of b, tupsD_of r]; rfl
theorem join_signs (cs : List Nat) : (Txt.join "" (cs.map fun c => (⟨#[c]⟩ : Str))).cps.toList = cs := by
  rw [join_empty, List.map_map]
  induction cs with
  | nil => rfl
  | cons c r ih => rw [List.map_cons, List.flatten_cons, ih]; rfl
theorem cNil {L : List PyData} {Q : Bool → Prop} (h : Q L.isEmpty) : cmS .eq (.list L) (.list []) Q := by
  refine ⟨.inr (.inl ⟨_, _, rfl, rfl, .inr rfl⟩), ?_⟩
  rw [eqv_len (.inr rfl)]
  cases L <;> exact h
theorem cNilN {L : List PyData} {Q : Bool → Prop} (h : Q (!L.isEmpty)) : cmS .ne (.list L) (.list []) Q := by
  refine ⟨.inr (.inl ⟨_, _, rfl, rfl, .inr rfl⟩), ?_⟩
  rw [eqv_len (.inr rfl)]
  cases L <;> exact h
theorem filter_not_empty {α : Type} (p : α → Bool) (xs : List α) : (xs.filter fun x => !p x).isEmpty = xs.all p := by
  induction xs with
  | nil => rfl
  | cons x r ih => cases h : p x <;> simp [List.filter_cons, h]; simpa using ih
theorem filter_empty {α : Type} (p : α → Bool) (xs : List α) : (xs.filter p).isEmpty = xs.all fun x => !p x := by
  induction xs with
  | nil => rfl
  | cons x r ih => cases h : p x <;> simp [List.filter_cons, h]; simpa using ih
/-! ### data that may be compared -/
structure Lay (x : PyData) (d : Nat) : Prop where
  cl : x.canLay0 = true
  dp : x.depth ≤ d
theorem Lay.sh {x : PyData} {d : Nat} (h : Lay x d) (hd : d ≤ 64) : SeqAt.shaped x = true := by
  unfold SeqAt.shaped
  rw [h.cl, decide_eq_true (Nat.le_trans h.dp hd)]
  rfl
theorem lay_all {xs : List PyData} {d : Nat} (h : ∀ x ∈ xs, Lay x d) : PyData.canLayAll0 xs = true ∧ PyData.depthAll xs ≤ d := by
  induction xs with
  | nil => exact ⟨rfl, Nat.zero_le _⟩
  | cons x r ih =>
    obtain ⟨a, b⟩ := ih fun y hy => h y (List.mem_cons_of_mem _ hy)
    have z := h x List.mem_cons_self
    exact ⟨by simp only [PyData.canLayAll0, z.cl, a, Bool.and_self], by simp only [PyData.depthAll]; exact Nat.max_le.mpr ⟨z.dp, b⟩⟩
theorem Lay.tup {xs : List PyData} {d : Nat} (h : ∀ x ∈ xs, Lay x d) : Lay (.tuple xs) (d + 1) := by
  obtain ⟨a, b⟩ := lay_all h
  exact ⟨by simp only [PyData.canLay0]; exact a, by simp only [PyData.depth]; omega⟩
theorem Lay.lst {xs : List PyData} {d : Nat} (h : ∀ x ∈ xs, Lay x d) : Lay (.list xs) (d + 1) := by
  obtain ⟨a, b⟩ := lay_all h
  exact ⟨by simp only [PyData.canLay0]; exact a, by simp only [PyData.depth]; omega⟩
theorem Lay.mono {x : PyData} {d d' : Nat} (h : Lay x d) (k : d ≤ d') : Lay x d' := ⟨h.cl, Nat.le_trans h.dp k⟩
theorem eqv_str (a b : Str) : PyData.eqv (.str a) (.str b) = decide (a = b) := by
  by_cases h : a = b
  · subst h; simp [PyData.eqv]
  · rw [decide_eq_false h]; simp [PyData.eqv, h]
/-- texts that are the same -/
theorem cNeS {a b : Str} {Q : Bool → Prop} (e : a = b) (h : Q false) : cmS .ne (.str a) (.str b) Q := by
  refine ⟨.inr (.inr ⟨_, _, rfl, rfl⟩), ?_⟩
  rw [eqv_str, decide_eq_true e]
  exact h
theorem cEqS {a b : Str} {Q : Bool → Prop} (e : a = b) (h : Q true) : cmS .eq (.str a) (.str b) Q := by
  refine ⟨.inr (.inr ⟨_, _, rfl, rfl⟩), ?_⟩
  rw [eqv_str, decide_eq_true e]
  exact h
theorem eqv_strs : ∀ a b : List Str, PyData.eqvAll (a.map .str) (b.map .str) = decide (a = b)
  | [], [] => by simp [PyData.eqvAll]
  | [], _ :: _ => by simp [PyData.eqvAll]
  | _ :: _, [] => by simp [PyData.eqvAll]
  | x :: a, y :: b => by
    simp only [List.map_cons, PyData.eqvAll]
    rw [eqv_str, eqv_strs a b]
    by_cases h : x = y <;> by_cases k : a = b <;> simp [h, k]
theorem eqv_tupS (a b : List Str) : PyData.eqv (tupS a) (tupS b) = decide (a = b) := by
  show PyData.eqv (.tuple _) (.tuple _) = _
  simp only [PyData.eqv]
  exact eqv_strs a b
theorem inD_str (s : Str) (ss : List Str) : inD (.str s) (ss.map .str) = decide (s ∈ ss) := by
  unfold inD
  induction ss with
  | nil => rfl
  | cons x r ih =>
    rw [List.map_cons, List.any_cons, ih, eqv_str, Bool.eq_iff_iff]
    simp only [Bool.or_eq_true, decide_eq_true_eq, List.mem_cons]
    exact or_congr ⟨Eq.symm, Eq.symm⟩ Iff.rfl
theorem inD_tup (s : List Str) (ss : List (List Str)) : inD (tupS s) (ss.map tupS) = decide (s ∈ ss) := by
  unfold inD
  induction ss with
  | nil => rfl
  | cons x r ih =>
    rw [List.map_cons, List.any_cons, ih, eqv_tupS, Bool.eq_iff_iff]
    simp only [Bool.or_eq_true, decide_eq_true_eq, List.mem_cons]
    exact or_congr ⟨Eq.symm, Eq.symm⟩ Iff.rfl
/-! ### ascending lists -/
def Asc (ss : List Str) : Prop := ss.Pairwise fun a b => ltS a b = true
theorem rising_pw : ∀ {ss : List Str} {p : Str}, risingS p ss = true → ∀ x ∈ ss, ltS x p = false
  | [], _, _, x, hx => nomatch hx
  | y :: r, p, h, x, hx => by
    have h : (!ltCps y.cps.toList p.cps.toList && risingS y r) = true := h
    rw [Bool.and_eq_true] at h
    have e : ltS y p = false := by
      have z : ltCps y.cps.toList p.cps.toList = false := by simpa using h.1
      rw [ltCps_eq] at z
      exact z
    rcases List.mem_cons.mp hx with rfl | hx
    · exact e
    · have z := rising_pw h.2 x hx
      cases c : ltS x p with
      | false => rfl
      | true =>
        cases d : ltS p y with
        | true => rw [ltS_trans c d] at z; cases z
        | false => rw [ltS_tri d e] at c; rw [c] at z; cases z
theorem sorted_pw : ∀ {ss : List Str}, sortedS ss = true → ss.Pairwise fun a b => ltS b a = false
  | [], _ => .nil
  | x :: r, h => by
    have h : risingS x r = true := h
    refine List.pairwise_cons.mpr ⟨rising_pw h, sorted_pw ?_⟩
    cases r with
    | nil => rfl
    | cons y t =>
      have h : (!ltCps y.cps.toList x.cps.toList && risingS y t) = true := h
      rw [Bool.and_eq_true] at h
      exact h.2
theorem asc_of {ss : List Str} (h : sortedS ss = true) (nd : ss.Nodup) : Asc ss := by
  have z := sorted_pw h
  unfold Asc
  induction ss with
  | nil => exact .nil
  | cons x r ih =>
    obtain ⟨z1, z2⟩ := List.pairwise_cons.mp z
    obtain ⟨n1, n2⟩ := List.nodup_cons.mp nd
    refine List.pairwise_cons.mpr ⟨fun y hy => ?_, ih (by
      have h : risingS x r = true := h
      cases r with
      | nil => rfl
      | cons y t =>
        have h : (!ltCps y.cps.toList x.cps.toList && risingS y t) = true := h
        rw [Bool.and_eq_true] at h
        exact h.2) n2 z2⟩
    cases c : ltS x y with
    | true => rfl
    | false => exact absurd (ltS_tri c (z1 y hy)) fun e => n1 (by rw [e]; exact hy)
theorem Asc.nd {ss : List Str} (h : Asc ss) : ss.Nodup := h.imp fun {a b} k e => by rw [e, ltS_irrefl] at k; cases k
theorem Asc.sub {a l : List Str} (h : Asc l) (k : a.Sublist l) : Asc a := List.Pairwise.sublist k h
theorem asc_uniq : ∀ {a b : List Str}, Asc a → Asc b → (∀ x, x ∈ a ↔ x ∈ b) → a = b
  | [], [], _, _, _ => rfl
  | [], y :: t, _, _, h => nomatch (h y).mpr List.mem_cons_self
  | x :: r, [], _, _, h => nomatch (h x).mp List.mem_cons_self
  | x :: r, y :: t, ha, hb, h => by
    obtain ⟨a1, a2⟩ := List.pairwise_cons.mp ha
    obtain ⟨b1, b2⟩ := List.pairwise_cons.mp hb
    have no : ∀ {p q : Str}, ltS p q = true → ltS q p = true → False := fun k l => by have := ltS_trans k l; rw [ltS_irrefl] at this; cases this
    have e : x = y := by
      rcases List.mem_cons.mp ((h x).mp List.mem_cons_self) with e | m
      · exact e
      · rcases List.mem_cons.mp ((h y).mpr List.mem_cons_self) with e | n
        · exact e.symm
        · exact (no (b1 x m) (a1 y n)).elim
    subst e
    rw [asc_uniq a2 b2 fun z => ⟨fun hz => ?_, fun hz => ?_⟩]
    · rcases List.mem_cons.mp ((h z).mp (List.mem_cons_of_mem _ hz)) with e | m
      · subst e; exact (no (a1 _ hz) (a1 _ hz)).elim
      · exact m
    · rcases List.mem_cons.mp ((h z).mpr (List.mem_cons_of_mem _ hz)) with e | m
      · subst e; exact (no (b1 _ hz) (b1 _ hz)).elim
      · exact m
theorem ascB_of {ss : List Str} (h : Asc ss) : ascB ss = true := by
  induction ss with
  | nil => rfl
  | cons x r ih =>
    obtain ⟨h1, h2⟩ := List.pairwise_cons.mp h
    cases r with
    | nil => rfl
    | cons y t =>
      show (ltS x y && ascB (y :: t)) = true
      rw [h1 y List.mem_cons_self, ih h2]
      rfl
theorem of_ascB : ∀ {ss : List Str}, ascB ss = true → Asc ss
  | [], _ => .nil
  | [x], _ => List.pairwise_singleton _ _
  | x :: y :: t, h => by
    have h : (ltS x y && ascB (y :: t)) = true := h
    rw [Bool.and_eq_true] at h
    have ih := of_ascB h.2
    refine List.pairwise_cons.mpr ⟨fun z hz => ?_, ih⟩
    rcases List.mem_cons.mp hz with rfl | hz
    · exact h.1
    · exact ltS_trans h.1 ((List.pairwise_cons.mp ih).1 z hz)
/-! ### lists of party sets -/
theorem keyInT_mem {acc : List (List Str)} {k x : List Str} : x ∈ keyInT acc k ↔ x ∈ acc ∨ x = k := by
  unfold keyInT
  split
  · rename_i h
    exact ⟨.inl, fun z => z.elim id fun e => by rw [e]; exact h⟩
  · rw [List.mem_append, List.mem_singleton]
theorem keyInT_nd {acc : List (List Str)} {k : List Str} (h : acc.Nodup) : (keyInT acc k).Nodup := by
  unfold keyInT
  split
  · exact h
  · rename_i n
    rw [List.nodup_append]
    exact ⟨h, List.nodup_cons.mpr ⟨(fun z => nomatch z), List.nodup_nil⟩, fun a ha b hb => by
      rw [List.mem_singleton.mp hb]
      intro e
      exact n (by rw [← e]; exact ha)⟩
theorem keyInT_len (acc : List (List Str)) (k : List Str) : (keyInT acc k).length ≤ acc.length + 1 := by
  unfold keyInT
  split
  · omega
  · rw [List.length_append, List.length_singleton]; omega
theorem uniqT_of (gs : List (List Str)) : ∀ acc : List (List Str), acc.Nodup → ∃ ks, uniqT (gs.map fun g => .tuple [tupS g, .bool true]) acc = some ks ∧ ks.Nodup ∧ ks.length ≤ acc.length + gs.length ∧ ∀ x, x ∈ ks ↔ x ∈ acc ∨ x ∈ gs := by
  induction gs with
  | nil => exact fun acc nd => ⟨acc, rfl, nd, Nat.le_refl _, fun x => by simp⟩
  | cons s r ih =>
    intro acc nd
    obtain ⟨ks, h1, h2, h3, h4⟩ := ih (keyInT acc s) (keyInT_nd nd)
    refine ⟨ks, ?_, h2, ?_, fun x => ?_⟩
    · show (strsD (s.map .str)).bind (fun ss => uniqT (r.map fun g => .tuple [tupS g, .bool true]) (keyInT acc ss)) = _
      rw [strsD_of]
      exact h1
    · have := keyInT_len acc s
      rw [List.length_cons]
      omega
    · rw [h4 x, keyInT_mem, List.mem_cons, or_assoc]
def AscT (kss : List (List Str)) : Prop := kss.Pairwise fun a b => ltSS a b = true
theorem ascT_of {kss : List (List Str)} (h : kss.Pairwise fun a b => ltSS b a = false) (nd : kss.Nodup) : AscT kss := by
  have z := h.and nd
  exact z.imp fun {a b} k => by
    cases c : ltSS a b with
    | true => rfl
    | false => exact absurd (ltSS_tri c k.1) k.2
theorem AscT.nd {kss : List (List Str)} (h : AscT kss) : kss.Nodup := h.imp fun {a b} k e => by rw [e, ltSS_irrefl] at k; cases k
theorem AscT.sub {a l : List (List Str)} (h : AscT l) (k : a.Sublist l) : AscT a := List.Pairwise.sublist k h
def subB (g f : List Str) : Bool := g.all fun n => decide (n ∈ f)
theorem subB_iff {g f : List Str} : subB g f = true ↔ ∀ n ∈ g, n ∈ f := by simp [subB]
/-- no other of ds holds g -/
def maxB (ds : List (List Str)) (g : List Str) : Bool := ds.all fun f => decide (f = g) || !subB g f
theorem sub_len {l a b : List Str} (nd : l.Nodup) (ha : a.Sublist l) (hb : b.Sublist l) (h : ∀ x ∈ a, x ∈ b) : a.length ≤ b.length ∧ (a.length = b.length → a = b) := by
  induction l generalizing a b with
  | nil => cases ha; cases hb; exact ⟨Nat.le_refl _, fun _ => rfl⟩
  | cons x l ih =>
    obtain ⟨n1, n2⟩ := List.nodup_cons.mp nd
    rcases List.sublist_cons_iff.mp ha with ha' | ⟨a', rfl, ha'⟩
    · rcases List.sublist_cons_iff.mp hb with hb' | ⟨b', rfl, hb'⟩
      · exact ih n2 ha' hb' h
      · obtain ⟨i1, i2⟩ := ih n2 ha' hb' fun y hy => by
          rcases List.mem_cons.mp (h y hy) with rfl | z
          · exact absurd (ha'.subset hy) n1
          · exact z
        exact ⟨by rw [List.length_cons]; omega, fun e => by rw [List.length_cons] at e; omega⟩
    · have hx := h x List.mem_cons_self
      rcases List.sublist_cons_iff.mp hb with hb' | ⟨b', rfl, hb'⟩
      · exact absurd (hb'.subset hx) n1
      · obtain ⟨i1, i2⟩ := ih n2 ha' hb' fun y hy => by
          rcases List.mem_cons.mp (h y (List.mem_cons_of_mem _ hy)) with rfl | z
          · exact absurd (ha'.subset hy) n1
          · exact z
        exact ⟨by simp only [List.length_cons]; omega, fun e => by simp only [List.length_cons] at e; rw [i2 (by omega)]⟩
/-- each set lies in a maximal one -/
theorem max_over {l : List Str} {ds : List (List Str)} (nd : l.Nodup) (h : ∀ g ∈ ds, g.Sublist l) : ∀ g ∈ ds, ∃ f ∈ ds.filter (maxB ds), ∀ x ∈ g, x ∈ f := by
  have go : ∀ (n : Nat) (g : List Str), g ∈ ds → l.length - g.length ≤ n → ∃ f ∈ ds.filter (maxB ds), ∀ x ∈ g, x ∈ f := by
    intro n
    induction n with
    | zero =>
      intro g hg hn
      refine ⟨g, List.mem_filter.mpr ⟨hg, ?_⟩, fun x hx => hx⟩
      unfold maxB
      rw [List.all_eq_true]
      intro f hf
      cases hs : subB g f with
      | false => simp
      | true =>
        obtain ⟨a1, a2⟩ := sub_len nd (h g hg) (h f hf) (subB_iff.mp hs)
        have := (h f hf).length_le
        rw [a2 (by omega)]
        simp
    | succ n ih =>
      intro g hg hn
      cases hm : maxB ds g with
      | true => exact ⟨g, List.mem_filter.mpr ⟨hg, hm⟩, fun x hx => hx⟩
      | false =>
        unfold maxB at hm
        rw [List.all_eq_false] at hm
        obtain ⟨f, hf, e⟩ := hm
        simp only [Bool.or_eq_true, decide_eq_true_eq, Bool.not_eq_true', not_or, Bool.not_eq_false] at e
        have hs := subB_iff.mp e.2
        obtain ⟨a1, a2⟩ := sub_len nd (h g hg) (h f hf) hs
        have : g.length ≠ f.length := fun z => e.1 (a2 z).symm
        obtain ⟨f', h1, h2⟩ := ih f hf (by omega)
        exact ⟨f', h1, fun x hx => h2 x (hs x hx)⟩
  exact fun g hg => go _ g hg (Nat.le_refl _)
/-- names -/
theorem Sht.ok {n : Nat} {s : Str} (h : Sht n s) : Ok (.str s) 0 n := Ok.str h.cps h.len
theorem Ok.names {n m : Nat} {ss : List Str} (h : ∀ s ∈ ss, Sht n s) (hl : ss.length ≤ m) : Ok (tupS ss) 1 ((n + 1) * m) :=
  Ok.tup (fun x hx => by obtain ⟨s, hs, rfl⟩ := List.mem_map.mp hx; exact (h s hs).ok) (by rw [List.length_map]; exact hl)
theorem Sht.lay {n : Nat} {s : Str} (h : Sht n s) (hn : n ≤ 1000) : Lay (.str s) 0 := by
  refine ⟨?_, Nat.le_refl _⟩
  simp only [PyData.canLay0, PyData.strOk]
  rw [Array.all_eq_true']
  intro c hc
  exact decide_eq_true (Nat.lt_trans (h.cps c (by simpa using hc)) (by decide))
theorem Lay.names {n : Nat} {ss : List Str} (h : ∀ s ∈ ss, Sht n s) (hn : n ≤ 1000) : Lay (tupS ss) 1 :=
  Lay.tup fun x hx => by obtain ⟨s, hs, rfl⟩ := List.mem_map.mp hx; exact (h s hs).lay hn
end G9

/-! Q3: plain: loops with what is behind them, drawn names, drawing without putting back. -/
namespace G9
open PySem PySem.Spec L2 PyProof.Rows
theorem lcL_pre0 {f : PyData → En → (Option PyData → En → Prop) → Prop} {Q : List PyData → En → Prop} (J : List PyData → List PyData → En → Prop) (all : List PyData) : ∀ {xs pre : List PyData} {ρ : En} {acc : List PyData}, pre ++ xs = all → J pre acc ρ →
    (∀ pre x acc ρ k, x ∈ all → pre.length < all.length → J pre acc ρ → (∀ y ρ', J (pre ++ [x]) (acc ++ [y]) ρ' → k (some y) ρ') → (∀ ρ', J (pre ++ [x]) acc ρ' → k none ρ') → f x ρ k) → (∀ acc ρ', J all acc ρ' → Q acc ρ') → lcL f xs ρ acc Q
  | [], pre, ρ, acc, e, h0, _, q => q acc ρ (by rw [← e, List.append_nil]; exact h0)
  | x :: r, pre, ρ, acc, e, h0, st, q => by
    have e' : pre ++ [x] ++ r = all := by rw [List.append_assoc]; exact e
    have hx : x ∈ all := by rw [← e]; exact List.mem_append_right _ List.mem_cons_self
    exact st pre x acc ρ _ hx (by rw [← e, List.length_append, List.length_cons]; omega) h0 (fun y ρ' h => lcL_pre0 J all e' h st q) (fun ρ' h => lcL_pre0 J all e' h st q)
theorem lcL_pre {f : PyData → En → (Option PyData → En → Prop) → Prop} {Q : List PyData → En → Prop} (J : List PyData → List PyData → En → Prop) {xs : List PyData} {ρ : En} (h0 : J [] [] ρ)
    (st : ∀ pre x acc ρ k, x ∈ xs → pre.length < xs.length → J pre acc ρ → (∀ y ρ', J (pre ++ [x]) (acc ++ [y]) ρ' → k (some y) ρ') → (∀ ρ', J (pre ++ [x]) acc ρ' → k none ρ') → f x ρ k) (q : ∀ acc ρ', J xs acc ρ' → Q acc ρ') : lcL f xs ρ [] Q :=
  lcL_pre0 J xs rfl h0 st q
/-- a comprehension of which nothing is wanted -/
theorem lcL_any {f : PyData → En → (Option PyData → En → Prop) → Prop} {Q : List PyData → En → Prop} (I : En → Prop) {xs : List PyData} {ρ : En} (h0 : I ρ)
    (st : ∀ x ∈ xs, ∀ ρ k, I ρ → (∀ o ρ', I ρ' → k o ρ') → f x ρ k) (q : ∀ acc ρ', I ρ' → Q acc ρ') : lcL f xs ρ [] Q :=
  lcL_inv (fun _ _ ρ => I ρ) h0 (fun _ x hx _ ρ k i h1 h2 => st x hx ρ k i fun o ρ' i' => match o with
    | some y => h1 y ρ' i'
    | none => h2 ρ' i') fun acc ρ' i => q acc ρ' i
theorem forL_pre0 {f : PyData → En → (En → Prop) → Prop} {Q : En → Prop} (J : List PyData → En → Prop) (all : List PyData) : ∀ {xs pre : List PyData} {ρ : En}, pre ++ xs = all → J pre ρ →
    (∀ pre x ρ k, x ∈ all → pre.length < all.length → J pre ρ → (∀ ρ', J (pre ++ [x]) ρ' → k ρ') → f x ρ k) → (∀ ρ', J all ρ' → Q ρ') → forL f xs ρ Q
  | [], pre, ρ, e, h0, _, q => q ρ (by rw [← e, List.append_nil]; exact h0)
  | x :: r, pre, ρ, e, h0, st, q => by
    have e' : pre ++ [x] ++ r = all := by rw [List.append_assoc]; exact e
    have hx : x ∈ all := by rw [← e]; exact List.mem_append_right _ List.mem_cons_self
    exact st pre x ρ _ hx (by rw [← e, List.length_append, List.length_cons]; omega) h0 fun ρ' h => forL_pre0 J all e' h st q
theorem forL_pre {f : PyData → En → (En → Prop) → Prop} {Q : En → Prop} (J : List PyData → En → Prop) {xs : List PyData} {ρ : En} (h0 : J [] ρ)
    (st : ∀ pre x ρ k, x ∈ xs → pre.length < xs.length → J pre ρ → (∀ ρ', J (pre ++ [x]) ρ' → k ρ') → f x ρ k) (q : ∀ ρ', J xs ρ' → Q ρ') : forL f xs ρ Q := forL_pre0 J xs rfl h0 st q
/-- a loop that keeps I -/
theorem forL_any {f : PyData → En → (En → Prop) → Prop} {Q : En → Prop} (I : En → Prop) {xs : List PyData} {ρ : En} (h0 : I ρ) (st : ∀ x ∈ xs, ∀ ρ k, I ρ → (∀ ρ', I ρ' → k ρ') → f x ρ k) (q : ∀ ρ', I ρ' → Q ρ') : forL f xs ρ Q :=
  forL_pre (fun _ ρ => I ρ) h0 (fun _ x ρ k hx _ i h => st x hx ρ k i h) q
theorem forL_ix0 {f : PyData → En → (En → Prop) → Prop} {Q : En → Prop} (J : Nat → En → Prop) (all : List PyData) : ∀ {xs pre : List PyData} {ρ : En}, pre ++ xs = all → J pre.length ρ →
    (∀ (i : Nat) x ρ k, all[i]? = some x → J i ρ → (∀ ρ', J (i + 1) ρ' → k ρ') → f x ρ k) → (∀ ρ', J all.length ρ' → Q ρ') → forL f xs ρ Q
  | [], pre, ρ, e, h0, _, q => q ρ (by rw [← e, List.append_nil]; exact h0)
  | x :: r, pre, ρ, e, h0, st, q => by
    have e' : pre ++ [x] ++ r = all := by rw [List.append_assoc]; exact e
    have hx : all[pre.length]? = some x := by rw [← e, List.getElem?_append_right (Nat.le_refl _), Nat.sub_self]; rfl
    exact st pre.length x ρ _ hx h0 fun ρ' h => forL_ix0 J all e' (by rw [List.length_append, List.length_singleton]; exact h) st q
/-- a loop, by the number of turns done -/
theorem forL_ix {f : PyData → En → (En → Prop) → Prop} {Q : En → Prop} (J : Nat → En → Prop) {xs : List PyData} {ρ : En} (h0 : J 0 ρ)
    (st : ∀ (i : Nat) x ρ k, xs[i]? = some x → J i ρ → (∀ ρ', J (i + 1) ρ' → k ρ') → f x ρ k) (q : ∀ ρ', J xs.length ρ' → Q ρ') : forL f xs ρ Q := forL_ix0 J xs (pre := []) rfl h0 st q
theorem lcL_ix0 {f : PyData → En → (Option PyData → En → Prop) → Prop} {Q : List PyData → En → Prop} (J : Nat → List PyData → En → Prop) (all : List PyData) : ∀ {xs pre : List PyData} {ρ : En} {acc : List PyData}, pre ++ xs = all → J pre.length acc ρ →
    (∀ (i : Nat) x acc ρ k, all[i]? = some x → J i acc ρ → (∀ y ρ', J (i + 1) (acc ++ [y]) ρ' → k (some y) ρ') → (∀ ρ', J (i + 1) acc ρ' → k none ρ') → f x ρ k) → (∀ acc ρ', J all.length acc ρ' → Q acc ρ') → lcL f xs ρ acc Q
  | [], pre, ρ, acc, e, h0, _, q => q acc ρ (by rw [← e, List.append_nil]; exact h0)
  | x :: r, pre, ρ, acc, e, h0, st, q => by
    have e' : pre ++ [x] ++ r = all := by rw [List.append_assoc]; exact e
    have hx : all[pre.length]? = some x := by rw [← e, List.getElem?_append_right (Nat.le_refl _), Nat.sub_self]; rfl
    exact st pre.length x acc ρ _ hx h0 (fun y ρ' h => lcL_ix0 J all e' (by rw [List.length_append, List.length_singleton]; exact h) st q) (fun ρ' h => lcL_ix0 J all e' (by rw [List.length_append, List.length_singleton]; exact h) st q)
theorem lcL_ix {f : PyData → En → (Option PyData → En → Prop) → Prop} {Q : List PyData → En → Prop} (J : Nat → List PyData → En → Prop) {xs : List PyData} {ρ : En} (h0 : J 0 [] ρ)
    (st : ∀ (i : Nat) x acc ρ k, xs[i]? = some x → J i acc ρ → (∀ y ρ', J (i + 1) (acc ++ [y]) ρ' → k (some y) ρ') → (∀ ρ', J (i + 1) acc ρ' → k none ρ') → f x ρ k) (q : ∀ acc ρ', J xs.length acc ρ' → Q acc ρ') : lcL f xs ρ [] Q := lcL_ix0 J xs (pre := []) rfl h0 st q
theorem range_at {lo hi : Int} {i : Nat} {x : PyData} (h : (rangeD lo hi)[i]? = some x) : x = .int (lo + (i : Int)) ∧ i < (hi - lo).toNat := by
  unfold rangeD at h
  rw [List.getElem?_map] at h
  by_cases c : i < (hi - lo).toNat
  · rw [List.getElem?_range c] at h
    cases h
    exact ⟨rfl, c⟩
  · rw [List.getElem?_eq_none (by rw [List.length_range]; omega)] at h
    cases h
theorem fmod_nat (a b : Nat) : ((a : Int)).fmod (b : Int) = ((a % b : Nat) : Int) := by
  rw [Int.fmod_eq_emod_of_nonneg _ (by omega)]
  rfl
theorem range_len (lo hi : Int) : (rangeD lo hi).length = (hi - lo).toNat := by unfold rangeD; rw [List.length_map, List.length_range]
theorem mem_range {lo hi : Int} {x : PyData} (h : x ∈ rangeD lo hi) : ∃ i : Int, x = .int i ∧ lo ≤ i ∧ i < hi := by
  obtain ⟨k, hk, rfl⟩ := List.mem_map.mp h
  have := List.mem_range.mp hk
  exact ⟨_, rfl, by omega, by omega⟩
/-! ### names -/
def Nm (s : Str) : Prop := nameB (.str s) = true
theorem Nm.iff {s : Str} : Nm s ↔ 1 ≤ s.length ∧ s.length ≤ 6 ∧ ∀ c ∈ s.cps.toList, letB c = true := by
  unfold Nm
  simp only [nameB, Bool.and_eq_true, decide_eq_true_eq, List.all_eq_true]
  rw [and_assoc]
theorem Nm.sht {s : Str} (h : Nm s) : Sht 6 s := by
  obtain ⟨_, h2, h3⟩ := Nm.iff.mp h
  refine ⟨h2, fun c hc => ?_⟩
  have := h3 c hc
  unfold letB at this
  simp only [Bool.and_eq_true, decide_eq_true_eq] at this
  omega
theorem letters_at {j : Nat} (h : j < 26) : ("abcdefghijklmnopqrstuvwxyz" : Str).cps.toList[j]? = some (97 + j) := by
  have e : ("abcdefghijklmnopqrstuvwxyz" : Str).cps.toList = [97,98,99,100,101,102,103,104,105,106,107,108,109,110,111,112,113,114,115,116,117,118,119,120,121,122] := by decide +kernel
  rw [e]
  have z : ∀ j : Fin 26, ([97,98,99,100,101,102,103,104,105,106,107,108,109,110,111,112,113,114,115,116,117,118,119,120,121,122] : List Nat)[j.val]? = some (97 + j.val) := by decide
  exact z ⟨j, h⟩
theorem letB_add {j : Nat} (h : j < 26) : letB (97 + j) = true := by
  unfold letB
  rw [decide_eq_true (by omega), decide_eq_true (by omega)]
  rfl
theorem letB_lt {c : Nat} (h : letB c = true) : c < 128 := by
  unfold letB at h
  simp only [Bool.and_eq_true, decide_eq_true_eq] at h
  omega
theorem letters_let {c : Nat} (h : c ∈ ("abcdefghijklmnopqrstuvwxyz" : Str).cps.toList) : letB c = true := by
  rw [← letters_mem c]
  exact decide_eq_true h
theorem cut_cat (s : Str) (k : Nat) : (cutS s none (some (k : Int))).cps.toList ++ (cutS s (some (k : Int)) none).cps.toList = s.cps.toList := by
  unfold cutS
  rw [HT.sIx_none, HT.sIx_none, HT.sIx_nat, HT.sIx_nat, List.drop_zero, Nat.sub_zero]
  have e : s.length = s.cps.toList.length := by rw [Array.length_toList]; rfl
  have e2 : (s.cps.toList.drop (min k s.length)).take (s.length - min k s.length) = s.cps.toList.drop (min k s.length) := by
    rw [List.take_of_length_le]
    rw [List.length_drop, ← e]
    exact Nat.le_refl _
  show (List.take _ _) ++ (List.take _ _) = _
  rw [e2, List.take_append_drop]
/-- the letter of name number i -/
def ltr (st i : Nat) : Nat := 97 + (st + 3 * i) % 26
/-- name number i -/
def nmS (m : Nat) (w : Str) (st i : Nat) : Str :=
  if m = 0 then ⟨#[ltr st i]⟩ else if m = 1 then cutS w none (some ((i % 6 : Nat) : Int)) ++ ⟨#[ltr st i]⟩ ++ cutS w (some ((i % 6 : Nat) : Int)) none else Txt.mul ⟨#[ltr st i]⟩ (1 + ((i % 6 : Nat) : Int))
theorem nm1_list (w : Str) (st i k : Nat) : (cutS w none (some (k : Int)) ++ (⟨#[ltr st i]⟩ : Str) ++ cutS w (some (k : Int)) none).cps.toList.Perm (ltr st i :: w.cps.toList) := by
  rw [cat_list, cat_list, List.append_assoc]
  refine List.perm_middle.trans ?_
  show (ltr st i :: ((cutS w none (some (k : Int))).cps.toList ++ (cutS w (some (k : Int)) none).cps.toList)).Perm _
  rw [cut_cat]
theorem ltr_let (st i : Nat) : letB (ltr st i) = true := letB_add (Nat.mod_lt _ (by decide))
theorem nmS_nm {m : Nat} {w : Str} {st i : Nat} (hw : w.length = 5) (hl : ∀ c ∈ w.cps.toList, letB c = true) : Nm (nmS m w st i) := by
  have z := ltr_let st i
  rw [Nm.iff]
  unfold nmS
  split
  · exact ⟨Nat.le_refl 1, (by decide : 1 ≤ 6), fun c hc => by rw [List.mem_singleton.mp hc]; exact z⟩
  · split
    · have p := nm1_list w st i (i % 6)
      have e : (cutS w none (some ((i % 6 : Nat) : Int)) ++ (⟨#[ltr st i]⟩ : Str) ++ cutS w (some ((i % 6 : Nat) : Int)) none).length = 6 := by
        have : (cutS w none (some ((i % 6 : Nat) : Int)) ++ (⟨#[ltr st i]⟩ : Str) ++ cutS w (some ((i % 6 : Nat) : Int)) none).cps.toList.length = 6 := by
          rw [p.length_eq, List.length_cons, Array.length_toList]
          have : w.cps.size = 5 := hw
          omega
        rw [Array.length_toList] at this
        exact this
      rw [e]
      refine ⟨by decide, by decide, fun c hc => ?_⟩
      rcases List.mem_cons.mp (p.mem_iff.mp hc) with rfl | h
      · exact z
      · exact hl c h
    · have e := mul_one_list (ltr st i) (1 + ((i % 6 : Nat) : Int))
      have l : (Txt.mul ⟨#[ltr st i]⟩ (1 + ((i % 6 : Nat) : Int))).length = 1 + i % 6 := by
        show (Txt.mul ⟨#[ltr st i]⟩ (1 + ((i % 6 : Nat) : Int))).cps.size = _
        rw [← Array.length_toList, e, List.length_replicate]
        omega
      rw [l]
      refine ⟨by omega, by omega, fun c hc => ?_⟩
      rw [e] at hc
      rw [List.eq_of_mem_replicate hc]
      exact z
theorem nmS_inj {m : Nat} {w : Str} {st i j : Nat} (hi : i < 12) (hj : j < 12) (h : nmS m w st i = nmS m w st j) : i = j := by
  have go : ltr st i = ltr st j → i = j := fun e => by unfold ltr at e; omega
  apply go
  unfold nmS at h
  split at h
  · have h : (⟨#[ltr st i]⟩ : Str).cps.toList = (⟨#[ltr st j]⟩ : Str).cps.toList := by rw [h]
    exact List.head_eq_of_cons_eq h
  · split at h
    · have p := (nm1_list w st i (i % 6)).symm
      rw [h] at p
      have p := p.trans (nm1_list w st j (j % 6))
      have c := p.count_eq (ltr st i)
      rw [List.count_cons, List.count_cons] at c
      by_cases e : ltr st j = ltr st i
      · exact e.symm
      · simp [e] at c
    · have e1 := mul_one_list (ltr st i) (1 + ((i % 6 : Nat) : Int))
      have e2 := mul_one_list (ltr st j) (1 + ((j % 6 : Nat) : Int))
      rw [h, e2] at e1
      have z1 : (1 + ((i % 6 : Nat) : Int)).toNat = i % 6 + 1 := by omega
      have z2 : (1 + ((j % 6 : Nat) : Int)).toNat = j % 6 + 1 := by omega
      rw [z1, z2, List.replicate_succ, List.replicate_succ] at e1
      exact (List.head_eq_of_cons_eq e1).symm
def nms (m : Nat) (w : Str) (st k : Nat) : List Str := (List.range k).map (nmS m w st)
theorem nms_nd {m : Nat} {w : Str} {st k : Nat} (hk : k ≤ 12) : (nms m w st k).Nodup := by
  unfold nms
  rw [List.Nodup, List.pairwise_map]
  refine List.Pairwise.imp_of_mem (fun {a b} ha hb hab => ?_) (List.pairwise_lt_range (n := k))
  have ha := List.mem_range.mp ha
  have hb := List.mem_range.mp hb
  intro e
  have := nmS_inj (by omega) (by omega) e
  omega
/-! ### drawing without putting back -/
theorem erase_perm {α : Type} {xs : List α} {j : Nat} {y : α} (h : xs[j]? = some y) : xs.Perm (y :: xs.eraseIdx j) := by
  induction xs generalizing j with
  | nil => simp at h
  | cons x r ih =>
    cases j with
    | zero => simp at h; subst h; exact List.Perm.refl _
    | succ j =>
      have z := ih (j := j) (by simpa using h)
      simp only [List.eraseIdx_cons_succ]
      exact (z.cons x).trans (List.Perm.swap y x _)
theorem map_erase (xs : List Str) (j : Nat) : (xs.map PyData.str).eraseIdx j = (xs.eraseIdx j).map .str := by
  induction xs generalizing j with
  | nil => simp
  | cons x r ih =>
    cases j with
    | zero => simp
    | succ j => simp only [List.map_cons, List.eraseIdx_cons_succ, ih]
def memD (b : List Str) : PyData → Bool
  | .str s => decide (s ∈ b)
  | _ => false
theorem filt_map (g : List Str) (sv : List Str) : ((sv.map PyData.str).filter fun x => !memD g x) = (sv.filter fun s => !decide (s ∈ g)).map .str := by
  rw [List.filter_map]
  rfl
theorem sub_back {acc : List PyData} {ss : List Str} (h : acc.Sublist (ss.map .str)) : ∃ ts : List Str, ts.Sublist ss ∧ acc = ts.map .str := by
  obtain ⟨ts, h1, h2⟩ := List.sublist_map_iff.mp h
  exact ⟨ts, h1, h2⟩
def grp : PyData → List Str
  | .tuple xs => (strsD xs).getD []
  | _ => []
theorem grp_tup (g : List Str) : grp (tupS g) = g := by show (strsD (g.map .str)).getD [] = g; rw [strsD_of]; rfl
/-- a scheme as data -/
def sch (p : Int) (sv cl : List Str) (ob ft : List (List Str)) : PyData := .tuple [.int p, tupS sv, tupS cl, .tuple (ob.map tupS), .tuple (ft.map tupS)]
def Anti (ob : List (List Str)) : Prop := ∀ a ∈ ob, ∀ b ∈ ob, a ≠ b → subB a b = false
theorem max_anti (ds : List (List Str)) : Anti (ds.filter (maxB ds)) := by
  intro a ha b hb ne
  obtain ⟨ha, hm⟩ := List.mem_filter.mp ha
  obtain ⟨hb, _⟩ := List.mem_filter.mp hb
  unfold maxB at hm
  have z := List.all_eq_true.mp hm b hb
  rw [Bool.or_eq_true, decide_eq_true_eq] at z
  rcases z with z | z
  · exact absurd z.symm ne
  · simpa using z
/-- the sets of a drawn scheme, over the servers sv, at most n of them -/
structure Sets (sv : List Str) (n : Nat) (ob : List (List Str)) : Prop where
  asc : AscT ob
  sub : ∀ g ∈ ob, g.Sublist sv
  anti : Anti ob
  ne : ob ≠ []
  len : ob.length ≤ n
theorem sets_of {sv : List Str} {n : Nat} {gs ds : List (List Str)} (nd : sv.Nodup) (h1 : AscT ds) (h2 : ∀ k, k ∈ ds ↔ k ∈ gs) (h3 : ∀ g ∈ gs, g.Sublist sv) (h4 : gs ≠ []) (h5 : gs.length ≤ n) : Sets sv n (ds.filter (maxB ds)) := by
  refine ⟨h1.sub List.filter_sublist, fun g hg => h3 g ((h2 g).mp (List.mem_filter.mp hg).1), max_anti ds, fun e => ?_, ?_⟩
  · cases gs with
    | nil => exact h4 rfl
    | cons g r =>
      obtain ⟨f, hf, _⟩ := max_over nd (fun g hg => h3 g ((h2 g).mp hg)) g ((h2 g).mpr List.mem_cons_self)
      rw [e] at hf
      exact nomatch hf
  · refine Nat.le_trans (Nat.le_trans List.filter_sublist.length_le (nodup_len h1.nd fun k hk => (h2 k).mp hk)) h5
structure Drawn (m : Nat) (p : Int) (sv cl : List Str) (ob ft : List (List Str)) : Prop where
  pr : p ∈ [2, 3, 5, 7, 101, 997, 499, 11]
  asv : Asc sv
  acl : Asc cl
  nsv : ∀ s ∈ sv, Nm s
  ncl : ∀ s ∈ cl, Nm s
  lsv : 2 ≤ sv.length ∧ sv.length ≤ m
  lcl : 1 ≤ cl.length ∧ cl.length ≤ 4
  dis : ∀ s ∈ sv, s ∉ cl
  sob : Sets sv 6 ob
  sft : Sets sv 6 ft
  fob : ∀ g ∈ ft, ∃ o : List Str, o ∈ ob ∧ g.Sublist o
end G9

/-! Q7a: what repr gives holds code points alone. -/
namespace G9
open PySem PySem.Spec L2 PyProof.Rows
/-! ### code points -/
def Cp (s : Str) : Prop := ∀ c ∈ s.cps.toList, c < 0x110000
theorem Cp.of (s : String) : Cp (Str.ofString s) := by
  intro c hc
  rw [Str.ofString_eq_toList] at hc
  obtain ⟨a, _, rfl⟩ := List.mem_map.mp (show c ∈ s.toList.map Char.toNat from hc)
  have := a.valid
  have e : a.toNat = a.val.toNat := rfl
  rcases this with h | ⟨_, h⟩ <;> (rw [e]; omega)
theorem Cp.app {a b : Str} (h : Cp a) (k : Cp b) : Cp (a ++ b) := fun c hc => by
  rw [cat_list] at hc
  exact (List.mem_append.mp hc).elim (h c) (k c)
theorem Cp.fr : ∀ (ts : List Str) (k : Nat) (acc : Str), Cp acc → (∀ t ∈ ts, Cp t) → Cp (textFrom k acc ts)
  | [], _, _, h, _ => h
  | t :: r, k, acc, h, hs => by
    show Cp (textFrom (k + 1) (acc ++ (if k > 0 then ", " else "" : String) ++ t) r)
    exact Cp.fr r _ _ ((h.app (Cp.of _)).app (hs t List.mem_cons_self)) fun x hx => hs x (List.mem_cons_of_mem _ hx)
theorem Cp.join {sep : Str} (h : Cp sep) : ∀ {ts : List Str}, (∀ t ∈ ts, Cp t) → Cp (Str.join sep ts)
  | [], _ => fun c hc => by cases hc
  | [x], hs => hs x List.mem_cons_self
  | x :: y :: r, hs => ((hs x List.mem_cons_self).app h).app (Cp.join h fun z hz => hs z (List.mem_cons_of_mem _ hz))
theorem Cp.list {ts : List Str} (h : ∀ t ∈ ts, Cp t) : Cp (listText ts) := (Cp.fr _ _ _ (Cp.of _) h).app (Cp.of _)
theorem Cp.tuple {ts : List Str} (h : ∀ t ∈ ts, Cp t) : Cp (tupleText ts) := ((Cp.of _).app (Cp.join (Cp.of _) h)).app (by split <;> exact Cp.of _)
theorem char_lt (a : Char) : a.toNat < 0x110000 := by
  have := a.valid
  have e : a.toNat = a.val.toNat := rfl
  rcases this with h | ⟨_, h⟩ <;> (rw [e]; omega)
theorem reprChar_lt {q c : Nat} (hq : q < 0x110000) (hc : c < 0x110000) : ∀ d ∈ Builtin.Str.reprChar q c, d < 0x110000 := by
  have hex : ∀ w, ∀ d ∈ List.replicate (w - ((Nat.toDigits 16 c).map Char.toNat).length) 48 ++ (Nat.toDigits 16 c).map Char.toNat, d < 0x110000 := fun w d hd => by
    rcases List.mem_append.mp hd with h | h
    · rw [List.eq_of_mem_replicate h]; decide
    · obtain ⟨a, _, rfl⟩ := List.mem_map.mp h
      exact char_lt a
  intro d hd
  unfold Builtin.Str.reprChar at hd
  dsimp only at hd
  have two : ∀ {a b : Nat}, a < 0x110000 → b < 0x110000 → d ∈ [a, b] → d < 0x110000 := fun ha hb h => by
    simp only [List.mem_cons, List.not_mem_nil, or_false] at h
    rcases h with rfl | rfl
    · exact ha
    · exact hb
  have th : ∀ {a b w : Nat}, a < 0x110000 → b < 0x110000 → d ∈ [a, b] ++ (List.replicate (w - ((Nat.toDigits 16 c).map Char.toNat).length) 48 ++ (Nat.toDigits 16 c).map Char.toNat) → d < 0x110000 := fun ha hb h => by
    rcases List.mem_append.mp h with h | h
    · exact two ha hb h
    · exact hex _ d h
  split at hd
  · exact two (by decide) hc hd
  split at hd
  · exact two (by decide) (by decide) hd
  split at hd
  · exact two (by decide) (by decide) hd
  split at hd
  · exact two (by decide) (by decide) hd
  split at hd
  · rw [List.mem_singleton.mp hd]; exact hc
  split at hd
  · exact th (by decide) (by decide) hd
  split at hd
  · exact th (by decide) (by decide) hd
  · exact th (by decide) (by decide) hd
theorem Cp.repr {x : Str} (h : Cp x) : Cp (reprText x) := by
  have hq : reprQuote x < 0x110000 := by unfold reprQuote; split <;> decide
  have go : ∀ (l : List Nat) (acc : Array Nat), (∀ c ∈ acc.toList, c < 0x110000) → (∀ c ∈ l, c < 0x110000) → ∀ c ∈ (l.foldl (fun out c => out ++ (Builtin.Str.reprChar (reprQuote x) c).toArray) acc).toList, c < 0x110000 := by
    intro l
    induction l with
    | nil => exact fun acc h _ => h
    | cons a r ih =>
      intro acc h1 h2
      refine ih _ (fun c hc => ?_) fun c hc => h2 c (List.mem_cons_of_mem _ hc)
      rw [Array.toList_append] at hc
      rcases List.mem_append.mp hc with h | h
      · exact h1 c h
      · exact reprChar_lt hq (h2 a List.mem_cons_self) c h
  intro c hc
  unfold reprText at hc
  have hc : c ∈ ((x.cps.foldl (fun out c => out ++ (Builtin.Str.reprChar (reprQuote x) c).toArray) #[reprQuote x]).push (reprQuote x)).toList := hc
  rw [Array.toList_push] at hc
  rcases List.mem_append.mp hc with h' | h'
  · rw [← Array.foldl_toList] at h'
    exact go _ _ (fun c hc => by rw [List.mem_singleton.mp hc]; exact hq) h c h'
  · rw [List.mem_singleton.mp h']; exact hq
mutual
theorem shown_cp : ∀ (x : PyData), x.canLay0 = true → Cp x.shown
  | .none, _ => Cp.of _
  | .bool true, _ => Cp.of _
  | .bool false, _ => Cp.of _
  | .int i, _ => Cp.of _
  | .str s, h => Cp.repr fun c hc => by
    have h : PyData.strOk s = true := h
    unfold PyData.strOk at h
    rw [Array.all_eq_true'] at h
    exact of_decide_eq_true (h c (by simpa using hc))
  | .list xs, h => Cp.list (shown_cps xs h)
  | .tuple xs, h => Cp.tuple (shown_cps xs h)
  | .dict _, h => by cases h
theorem shown_cps : ∀ (xs : List PyData), PyData.canLayAll0 xs = true → ∀ t ∈ PyData.shownAll xs, Cp t
  | [], _ => fun t ht => by cases ht
  | x :: r, h => fun t ht => by
    have h : (x.canLay0 && PyData.canLayAll0 r) = true := h
    rw [Bool.and_eq_true] at h
    rcases List.mem_cons.mp ht with rfl | ht
    · exact shown_cp x h.1
    · exact shown_cps r h.2 t ht
end
theorem Cp.lay {s : Str} (h : Cp s) : Lay (.str s) 0 := by
  refine ⟨?_, Nat.le_refl _⟩
  show PyData.strOk s = true
  unfold PyData.strOk
  rw [Array.all_eq_true']
  intro c hc
  exact decide_eq_true (h c (by simpa using hc))
theorem Lay.shown {x : PyData} {d : Nat} (h : Lay x d) : Lay (.str x.shown) 0 := (shown_cp x h.cl).lay
end G9

/-! S6: list comprehensions with two clauses, over wants. -/
namespace G9
open PySem PySem.Spec L2 PyProof.Rows
/-- turns that each may add to what is gathered -/
def lc2L (f : PyData → En → List PyData → (List PyData → En → Prop) → Prop) : List PyData → En → List PyData → (List PyData → En → Prop) → Prop
  | [], ρ, acc, Q => Q acc ρ
  | x :: r, ρ, acc, Q => f x ρ acc fun acc' ρ' => lc2L f r ρ' acc' Q
def dLc2 (vs tg : List Nat) (tp : Bool) (it : DI) (c : DT) (us tg1 : List Nat) (tp1 : Bool) (it1 : DI) (c1 : DT) (e : DE) : DE := ⟨it.m + 4096 * (c.m + (it1.m + 4096 * (c1.m + e.m))), fun ρ P R => it ρ (fun xs ρ1 => xs.length ≤ 4096 ∧
  lc2L (fun x ρ' acc k => bindT tg tp x (wipeE ρ' vs) fun ρ2 => c ρ2 (fun b ρ3 => if b = true then it1 ρ3 (fun ys ρ4 => ys.length ≤ 4096 ∧
      lcL (fun y ρ' k => bindT tg1 tp1 y (wipeE ρ' us) fun ρ2 => c1 ρ2 (fun b ρ3 => if b = true then e ρ3 (fun u _ ρ4 => ∃ d, u = .d d ∧ k (some d) ρ4) X0 else k none ρ3) X0) ys ρ4 acc k) X0 else k acc ρ3) X0)
    xs ρ1 [] fun ds ρ' => P (.d (.list ds)) true (backE ρ1 ρ' vs)) R⟩
section
variable {W : Wk} {K : PySem.W.Frag} {B : List Bs} {M0 : List Addr} {ρ : En} {σ : L2.St} {H : Hp} {M : List Addr}
/-- a fenced list that nobody owns is written: it is new to a base, or the base knows that it may change -/
theorem Gd.writeG (G : Gd W K B M0 ρ σ H M) {a : Addr} {vs ws : List V} (hm : a ∈ M0) (hw : a ∉ W.ad) (ha : H a = some (.lst vs)) (hb : ∀ b ∈ B, b.h a = none ∨ a ∈ b.k) : Gd W K B M0 ρ σ (upd H a (.lst ws)) M := by
  have kp : Kp M H (upd H a (.lst ws)) := Kp.store (G.sub a hm) ha
  refine ⟨kp.sm G.sm, W.st _ _ _ hw (.inr ⟨_, ha⟩) G.wok, G.wad, G.sub, fun b z => kp.liv b (G.liv b z), G.len, fun b hb' => ?_, fun i e h => ?_, G.sep⟩
  · obtain ⟨z1, z2, z3, z4⟩ := G.bs b hb'
    refine ⟨?_, z2, z3, z4⟩
    rcases hb b hb' with z | z
    · have ne : ∀ {x : Addr} {o : HO}, b.h x = some o → x ≠ a := fun y q => by rw [q, z] at y; cases y
      exact ⟨fun x o n y => by rw [upd_ne (ne y)]; exact z1.same x o n y, fun x xs y => by rw [upd_ne (ne y)]; exact z1.tup x xs y, fun x o u y => by rw [upd_ne (ne y)]; exact z1.frz x o u y, fun x y => kp.liv x (z1.liv x y)⟩
    · exact z1.trans (Kp.store z ha)
  · obtain ⟨v, y1, y2⟩ := G.ent i e h
    refine ⟨v, y1, y2.move kp (fun a z => .inl z) fun b ho ev z n => ⟨z, fun o' y => ?_⟩⟩
    have hb : b ≠ a := fun q => n (by rw [q]; exact hm)
    rw [upd_ne hb]; exact y
theorem wipe_sub {σ : L2.St} {vs us : List Nat} (h : ∀ j ∈ us, j ∈ vs) : L2.wipe (L2.wipe σ us) vs = L2.wipe σ vs := by
  refine List.ext_getElem? fun j => ?_
  rw [wipe_at, wipe_length, wipe_at, wipe_at]
  by_cases c : j ∈ vs ∧ j < σ.length
  · rw [if_pos c, if_pos c]
  · rw [if_neg c, if_neg c]
    by_cases d : j ∈ us ∧ j < σ.length
    · exact absurd ⟨h j d.1, d.2⟩ c
    · rw [if_neg d]
theorem wipeE_sub {ρ : En} {vs us : List Nat} (h : ∀ j ∈ us, j ∈ vs) : wipeE (wipeE ρ us) vs = wipeE ρ vs := by
  refine List.ext_getElem? fun j => ?_
  rw [wipeE_at, wipeE_length, wipeE_at, wipeE_at]
  by_cases c : j ∈ vs ∧ j < ρ.length
  · rw [if_pos c, if_pos c]
  · rw [if_neg c, if_neg c]
    by_cases d : j ∈ us ∧ j < ρ.length
    · exact absurd ⟨h j d.1, d.2⟩ c
    · rw [if_neg d]
theorem wipe_eq2 {σ σ2 : L2.St} {vs tg : List Nat} (hl : σ2.length = (L2.wipe σ vs).length) (hs : ∀ j, j ∉ tg → σ2[j]? = (L2.wipe σ vs)[j]?) (sub : ∀ i ∈ tg, i ∈ vs) : L2.wipe σ2 vs = L2.wipe σ vs := wipe_eq hl hs sub
end
section
variable {Wp : Wk → Prop} {E : XK} {X : Cx} {tg tg1 : List Nat} {tp tp1 : Bool} {di di1 : DI} {dc dc1 : DT} {de : DE}
theorem lc2_go {W : Wk} {B : List Bs} {M0 : List Addr} {ρ : En} {σ : L2.St} {H : Hp} {M : List Addr} {P : U → Bool → En → Prop} {R : RK} {Q : VK} {K : PySem.W.Frag} {mg : Str → Option Value} {vs us : List Nat} (w : WP Wp W (di.m + 4096 * (dc.m + (di1.m + 4096 * (dc1.m + de.m))))) (G : Gd W K B M0 ρ σ H M)
    (d : dLc2 vs tg tp di dc us tg1 tp1 di1 dc1 de ρ P R) (x : XOk W K mg E M0 B R)
    (sub : ∀ i ∈ tg, i ∈ vs) (sub1 : ∀ i ∈ tg1, i ∈ us) (uv : ∀ i ∈ us, i ∈ vs) (hl : ∀ i ∈ tg, i < σ.length) (hl1 : ∀ i ∈ tg1, i < σ.length)
    (h : ∀ u fr ρ' v H' M', P u fr ρ' → Res (W.up (di.m + 4096 * (dc.m + (di1.m + 4096 * (dc1.m + de.m))))) K B M0 ρ' σ H' M' v u fr → Q v H') : tLc2 (lI Wp K mg E di) (gB K tg tp) (lT Wp K mg E dc) (lI Wp K mg E di1) (gB K tg1 tp1) (lT Wp K mg E dc1) (lE Wp K mg E de) vs us σ H Q := by
  have sz : sizeLine = 16777216 := sizeLine_eq
  generalize hTI : dc1.m + de.m = TI at w h
  generalize hTO : dc.m + (di1.m + 4096 * TI) = TO at w h
  refine ⟨W, B, M0, ρ, M, _, R, w.le (Nat.le_add_right _ _), G, d, x, fun xs ρ1 J H1 M1 c0 hxs G1 wk D hD => ?_⟩
  obtain ⟨lx, c⟩ := c0
  have hB : ∀ b ∈ (⟨H1, M1, M1⟩ : Bs) :: B, b.h D = none := fun b hb => by
    rcases List.mem_cons.mp hb with rfl | hb
    · exact hD
    · exact G1.old hb hD
  have hDW : D ∉ W.ad := fun z => (W.up di.m).liv _ G1.wok D z hD
  generalize hf1 : (fun (y : PyData) (ρ' : En) (k : Option PyData → En → Prop) => bindT tg1 tp1 y (wipeE ρ' us) fun ρ2 => dc1 ρ2 (fun b ρ3 => if b = true then de ρ3 (fun u _ ρ4 => ∃ d, u = .d d ∧ k (some d) ρ4) X0 else k none ρ3) X0) = f1 at c
  have hf1x : ∀ (y : PyData) (ρ' : En) (k : Option PyData → En → Prop), f1 y ρ' k = bindT tg1 tp1 y (wipeE ρ' us) fun ρ2 => dc1 ρ2 (fun b ρ3 => if b = true then de ρ3 (fun u _ ρ4 => ∃ d, u = .d d ∧ k (some d) ρ4) X0 else k none ρ3) X0 := fun y ρ' k => by rw [← hf1]
  generalize hf : (fun (x : PyData) (ρ' : En) (acc : List PyData) (k : List PyData → En → Prop) => bindT tg tp x (wipeE ρ' vs) fun ρ2 => dc ρ2 (fun b ρ3 => if b = true then di1 ρ3 (fun ys ρ4 => ys.length ≤ 4096 ∧ lcL f1 ys ρ4 acc k) X0 else k acc ρ3) X0) = f at c
  have hfx : ∀ (x : PyData) (ρ' : En) (acc : List PyData) (k : List PyData → En → Prop), f x ρ' acc k = bindT tg tp x (wipeE ρ' vs) fun ρ2 => dc ρ2 (fun b ρ3 => if b = true then di1 ρ3 (fun ys ρ4 => ys.length ≤ 4096 ∧ lcL f1 ys ρ4 acc k) X0 else k acc ρ3) X0 := fun x ρ' acc k => by rw [← hf]
  let Iv : Nat → Hp → Prop := fun i H => ∃ ρ' M acc ds, Gd (W.up (di.m + i * TO)) K (⟨H1, M1, M1⟩ :: B) (D :: M0) (wipeE ρ' vs) (L2.wipe σ vs) H M ∧ H D = some (.lst acc) ∧ RepL K H M acc ds ∧ acc.length ≤ i * 4096 ∧ ρ'.length = σ.length ∧
    lc2L f (xs.drop i) ρ' ds fun ds ρ' => P (.d (.list ds)) true (backE ρ1 ρ' vs)
  refine ⟨fun i m H => m = xs.length - i ∧ i ≤ xs.length ∧ Iv i H, ⟨xs.length, by simp, Nat.zero_le _, ρ1, D :: M1, [], [], ?_, upd_same, .nil, Nat.zero_le _, G1.len, c⟩, ?_⟩
  · exact ((G1.base.fence hD).wiped vs).mono (Nat.le_add_right _ _)
  rintro i m H2 ⟨rfl, hi, ρ', M2, acc, ds, G2, hDv, rl, hacc, hlen, c⟩
  obtain ⟨wk1, wk2⟩ := wk M2 H2 G2.kp G2.nw
  have hD0 : ∀ {j : Nat} {ρ : En} {σ : L2.St} {H : Hp} {M : List Addr} {B : List Bs}, Gd (W.up j) K B (D :: M0) ρ σ H M → Gd (W.up j) K (⟨H, M.filter (fun a => decide (a ≠ D)), M⟩ :: B) (D :: M0) ρ σ H M := fun {j ρ σ H M B} G => by
    refine G.baseK (fun a z => List.mem_filter.mpr ⟨G.sub a (G.wad a z), decide_eq_true (fun e => hDW (by rw [← e]; exact z))⟩) fun a o => ?_
    obtain ⟨q1, q2, _⟩ := G.owned o
    exact List.mem_filter.mpr ⟨q1, decide_eq_true (fun e => q2 (by rw [e]; exact List.mem_cons_self))⟩
  have notin : ∀ {M : List Addr}, D ∉ M.filter (fun a => decide (a ≠ D)) := fun z => of_decide_eq_true (List.mem_filter.mp z).2 rfl
  have carry : ∀ {j : Nat} {ρ : En} {σ : L2.St} {H H' : Hp} {M M' : List Addr} {B : List Bs} {acc : List V} {ds : List PyData}, Gd (W.up j) K (⟨H, M.filter (fun a => decide (a ≠ D)), M⟩ :: B) (D :: M0) ρ σ H' M' → H D = some (.lst acc) → RepL K H M acc ds → H' D = some (.lst acc) ∧ RepL K H' M' acc ds :=
    fun G q r => ⟨G.kp.same D _ notin q, r.move (G.kp.more fun a z => (List.mem_filter.mp z).1) G.nw⟩
  by_cases hlt : i < xs.length
  · have hx : xs[i]? = some xs[i] := by simp [hlt]
    rw [List.drop_eq_getElem_cons hlt] at c
    generalize xs[i] = xi at hx c
    obtain ⟨go, yl⟩ := wk1 i xi hx
    refine .inr ⟨go, Iv (i + 1), fun H' p' => ⟨xs.length - (i + 1), by omega, rfl, hlt, p'⟩, fun v H3 y => ?_⟩
    obtain ⟨gr, rv⟩ := yl v H3 y
    have rv := rv M2 fun _ z => z
    have G3 := G2.grown gr
    have rl3 : RepL K H3 M2 acc ds := rl.keep gr.kp
    have hD3 : H3 D = some (.lst acc) := (gr.kp (M := [])).same D _ (by simp) hDv
    have c : f xi ρ' ds (fun ds' ρ'' => lc2L f (xs.drop (i + 1)) ρ'' ds' _) := c
    rw [hfx] at c
    refine bind_go G3 rv c (fun j hj => by rw [wipe_length]; exact hl j hj) fun ρ2 σ2 e1 e2 c G4 => ⟨wipe_eq e1 e2 sub, ?_⟩
    have ws := wipe_eq e1 e2 sub
    have tot : di.m + i * TO + TO ≤ di.m + 4096 * TO := by
      have : i * TO + TO ≤ 4096 * TO := by rw [← Nat.succ_mul]; exact Nat.mul_le_mul_right _ (by omega)
      omega
    have tO : dc.m + (di1.m + 4096 * TI) = TO := hTO
    refine ⟨_, _, D :: M0, ρ2, M2, _, X0, w.up (by omega), hD0 G4, c, XOk.none, fun k ρ3 H4 M4 c G5 => ?_⟩
    have G5 := G5.cast
    obtain ⟨hD4, rl4⟩ := carry G5 hD3 rl3
    have G5 := G5.tail
    cases k with
    | false =>
      refine ⟨ρ3, M4, acc, ds, ?_, hD4, rl4, by omega, ?_, c⟩
      · rw [← ws]
        exact (G5.wiped vs).mono (by rw [Nat.succ_mul]; omega)
      · rw [G5.len, e1, wipe_length]
    | true =>
      refine ⟨_, _, D :: M0, ρ3, M4, _, X0, w.up (by omega), hD0 G5, c, XOk.none, fun ys ρ4 J1 H5 M5 c0 hys G6 wi => ?_⟩
      obtain ⟨ly, c⟩ := c0
      have G6 := G6.cast
      obtain ⟨hD5, rl5⟩ := carry G6 hD4 rl4
      have G6 := G6.tail
      have len2 : σ2.length = σ.length := by rw [e1, wipe_length]
      let Iw : Nat → Hp → Prop := fun j H => ∃ ρ' M acc ds, Gd (W.up (di.m + i * TO + dc.m + di1.m + j * TI)) K (⟨H5, M5, M5⟩ :: ⟨H1, M1, M1⟩ :: B) (D :: M0) (wipeE ρ' us) (L2.wipe σ2 us) H M ∧ H D = some (.lst acc) ∧ RepL K H M acc ds ∧ acc.length ≤ i * 4096 + j ∧ ρ'.length = σ.length ∧
        lcL f1 (ys.drop j) ρ' ds fun ds' ρ'' => lc2L f (xs.drop (i + 1)) ρ'' ds' fun ds ρ' => P (.d (.list ds)) true (backE ρ1 ρ' vs)
      refine ⟨fun j m H => m = ys.length - j ∧ j ≤ ys.length ∧ Iw j H, ⟨ys.length, by simp, Nat.zero_le _, ρ4, M5, acc, ds, ?_, hD5, rl5, by omega, by rw [G6.len, len2], c⟩, ?_⟩
      · exact (G6.base.wiped us).mono (Nat.le_add_right _ _)
      rintro j m H6 ⟨rfl, hj, ρ5, M6, acc2, ds2, G7, hD6, rl6, hacc2, hlen2, c⟩
      obtain ⟨wi1, wi2⟩ := wi M6 H6 G7.kp G7.nw
      by_cases hlt2 : j < ys.length
      · have hy : ys[j]? = some ys[j] := by simp [hlt2]
        rw [List.drop_eq_getElem_cons hlt2] at c
        generalize ys[j] = yj at hy c
        obtain ⟨go2, yl2⟩ := wi1 j yj hy
        refine .inr ⟨go2, Iw (j + 1), fun H' p' => ⟨ys.length - (j + 1), by omega, rfl, hlt2, p'⟩, fun v2 H7 y2 => ?_⟩
        obtain ⟨gr2, rv2⟩ := yl2 v2 H7 y2
        have rv2 := rv2 M6 fun _ z => z
        have G8 := G7.grown gr2
        have rl7 : RepL K H7 M6 acc2 ds2 := rl6.keep gr2.kp
        have hD7 : H7 D = some (.lst acc2) := (gr2.kp (M := [])).same D _ (by simp) hD6
        have c : f1 yj ρ5 (fun o ρ'' => match o with | some y => lcL f1 (ys.drop (j + 1)) ρ'' (ds2 ++ [y]) _ | none => lcL f1 (ys.drop (j + 1)) ρ'' ds2 _) := c
        rw [hf1x] at c
        refine bind_go G8 rv2 c (fun j hj => by rw [wipe_length, len2]; exact hl1 j hj) fun ρ6 σ3 e3 e4 c G9 => ⟨wipe_eq e3 e4 sub1, ?_⟩
        have ws2 := wipe_eq e3 e4 sub1
        have tI : dc1.m + de.m = TI := hTI
        have jt : j * TI + TI ≤ 4096 * TI := by rw [← Nat.succ_mul]; exact Nat.mul_le_mul_right _ (by omega)
        refine ⟨_, _, D :: M0, ρ6, M6, _, X0, w.up (by omega), hD0 G9, c, XOk.none, fun k ρ7 H8 M8 c G10 => ?_⟩
        have G10 := G10.cast
        obtain ⟨hD8, rl8⟩ := carry G10 hD7 rl7
        have G10 := G10.tail
        cases k with
        | false =>
          refine ⟨ρ7, M8, acc2, ds2, ?_, hD8, rl8, by omega, ?_, c⟩
          · rw [← ws2]
            exact (G10.wiped us).mono (by rw [Nat.succ_mul]; omega)
          · rw [G10.len, e3, wipe_length, len2]
        | true =>
          refine ⟨_, _, D :: M0, ρ7, M8, _, X0, w.up (by omega), hD0 G10, c, XOk.none, fun u fr ρ8 y H9 M9 c r => ?_⟩
          have r := r.cast
          obtain ⟨dd, rfl, c⟩ := c
          obtain ⟨hD9, rl9⟩ := carry r.gd hD8 rl8
          have G11 := r.gd.tail
          have ry : Rep K H9 M9 y dd := r.rep
          have kp : Kp M9 H9 (upd H9 D (.lst (acc2 ++ [y]))) := Kp.store (G11.sub D List.mem_cons_self) hD9
          refine ⟨acc2, hD9, by omega, ρ8, M9, acc2 ++ [y], ds2 ++ [dd], ?_, upd_same, (rl9.append (.cons ry .nil)).keep kp, by rw [List.length_append, List.length_singleton]; omega, by rw [G11.len, e3, wipe_length, len2], c⟩
          rw [← ws2]
          refine ((G11.writeG List.mem_cons_self hDW hD9 fun b hb => ?_).wiped us).mono (by rw [Nat.succ_mul]; omega)
          rcases List.mem_cons.mp hb with rfl | hb
          · exact .inr (G6.sub D List.mem_cons_self)
          · exact .inl (hB b hb)
      · have e : j = ys.length := by omega
        subst e
        rw [List.drop_length] at c
        refine .inl ⟨wi2 _ (Nat.le_refl _), ρ5, M6, acc2, ds2, ?_, hD6, rl6, by omega, hlen2, c⟩
        have ww : L2.wipe (L2.wipe σ2 us) vs = L2.wipe σ vs := by rw [wipe_sub uv, ws]
        rw [← ww, ← wipeE_sub (ρ := ρ5) uv]
        refine (G7.tail.wiped vs).mono ?_
        have : ys.length * TI ≤ 4096 * TI := Nat.mul_le_mul_right _ ly
        rw [Nat.succ_mul]
        omega
  · have e : i = xs.length := by omega
    subst e
    rw [List.drop_length] at c
    refine .inl ⟨wk2 _ (Nat.le_refl _), h _ _ _ _ _ (M2.filter (fun a => decide (a ≠ D))) c ?_⟩
    have G2 := G2.mono (Nat.add_le_add_left (Nat.mul_le_mul_right TO lx) di.m)
    have G7 : Gd (W.up (di.m + 4096 * TO)) K (⟨H1, M1, M1⟩ :: B) (D :: M0) (backE ρ1 ρ' vs) σ H2 M2 := by
      refine G2.reEnv (by rw [backE_length]; exact hlen) fun j e hj => ?_
      rcases backE_some _ _ _ _ _ hj with ⟨h1, h2⟩ | ⟨h1, h2⟩
      · left
        rw [wipeE_at, wipe_at, if_neg (fun z => h1 z.1), if_neg (fun z => h1 z.1)]
        exact ⟨h2, rfl⟩
      · right
        obtain ⟨v, q1, q2⟩ := G1.ent j e h2
        unfold EntOk at q2
        rw [if_neg (by rw [h1]; simp)] at q2
        exact ⟨h1, v, q1, q2.move G2.kp G2.nw⟩
    have own : ∀ a, Owns (backE ρ1 ρ' vs) σ a → a ∈ M2 ∧ a ≠ D := fun a o => by
      obtain ⟨q1, q2, _⟩ := G7.owned o
      exact ⟨q1, fun e => q2 (by rw [e]; exact List.mem_cons_self)⟩
    have G8 := (G7.unfence G1.wad).tail
    have m0D : ∀ a ∈ M0, a ≠ D := fun a z e => G1.liv a (G1.sub a z) (by rw [e]; exact hD)
    have fl : ∀ a, a ∈ M2.filter (fun a => decide (a ≠ D)) ↔ a ∈ M2 ∧ a ≠ D := fun a => by rw [List.mem_filter, decide_eq_true_iff]
    have G9 := G8.reM (M' := M2.filter (fun a => decide (a ≠ D))) (fun a z => ((fl a).mp z).1) (fun a z => (fl a).mpr ⟨G8.sub a z, m0D a z⟩) fun a o => (fl a).mpr (own a o)
    refine ⟨G9, ?_⟩
    rw [if_pos rfl]
    refine ⟨D, acc, ds, rfl, rfl, hDv, rl.less fun a z => ?_, fun z => ((fl D).mp z).2 rfl, G8.reM (fun a z => ?_) (fun a z => ?_) fun a o => ?_, fun b hb => hB b (List.mem_cons_of_mem _ hb)⟩
    · rcases List.mem_cons.mp z with rfl | z
      · exact G2.sub _ List.mem_cons_self
      · exact ((fl a).mp z).1
    · rcases List.mem_cons.mp z with rfl | z
      · exact G2.sub _ List.mem_cons_self
      · exact ((fl a).mp z).1
    · exact List.mem_cons_of_mem _ ((fl a).mpr ⟨G8.sub a z, m0D a z⟩)
    · exact List.mem_cons_of_mem _ ((fl a).mpr (own a o))
theorem qLc2 {elt tgx iter tgy iter1 : Expr} {ifs ifs1 : List Expr} {scope : Scope} {pos : Pos} (own : List (Str × Nat)) (vs us : List Nat) (g : Gx X) (hi : JI Wp E X tgx iter di)
    (hg : ∀ (s : Shared) (H : Hp) (C : Addr) (cl : List (Str × Addr)) (fp : List Addr), PG (X.blk s H scope (compEnvC scope cl C X.env) fp) tgx (gB X.K tg tp))
    (ht : ∀ (s : Shared) (H : Hp) (C : Addr) (cl : List (Str × Addr)) (fp : List Addr), PTs (X.blk s H scope (compEnvC scope cl C X.env) fp) ifs (lT Wp X.K X.mg E dc))
    (hi1 : ∀ (s : Shared) (H : Hp) (C : Addr) (cl : List (Str × Addr)) (fp : List Addr), JI Wp E (X.blk s H scope (compEnvC scope cl C X.env) fp) tgy iter1 di1)
    (hg1 : ∀ (s : Shared) (H : Hp) (C : Addr) (cl : List (Str × Addr)) (fp : List Addr), PG (X.blk s H scope (compEnvC scope cl C X.env) fp) tgy (gB X.K tg1 tp1))
    (ht1 : ∀ (s : Shared) (H : Hp) (C : Addr) (cl : List (Str × Addr)) (fp : List Addr), PTs (X.blk s H scope (compEnvC scope cl C X.env) fp) ifs1 (lT Wp X.K X.mg E dc1))
    (he : ∀ (s : Shared) (H : Hp) (C : Addr) (cl : List (Str × Addr)) (fp : List Addr), JE Wp E (X.blk s H scope (compEnvC scope cl C X.env) fp) elt de)
    (ok : blkC X.N X.env.scope scope own = true) (sub : ∀ i ∈ tg, i ∈ own.map (·.2) := by decide) (sub1 : ∀ i ∈ tg1, i ∈ us := by decide) (uv : ∀ i ∈ us, i ∈ own.map (·.2) := by decide) (hvs : own.map (·.2) = vs := by rfl)
    (hs : ∀ x, foldedSetIterable iter X.env x = pure x := by intro _; rfl) (hs1 : ∀ env x, foldedSetIterable iter1 env x = pure x := by intro _ _; rfl) :
    JE Wp E X (.ListComp elt [⟨tgx, iter, ifs, 0⟩, ⟨tgy, iter1, ifs1, 0⟩] scope pos) (dLc2 vs tg tp di dc us tg1 tp1 di1 dc1 de) := by
  subst hvs
  have bk := blkOk_by ok
  exact (pe_lc2 g.calm g.nd hi bk uv hg ht hi1 hg1 ht1 he hs hs1).weakI fun pins s σ H Q I ⟨W, B, M0, ρ, M, P, R, w, G, d, x, h⟩ => lc2_go w G d x sub sub1 uv (fun i hi => by rw [I.len]; exact own_lt bk (sub i hi)) (fun i hi => by rw [I.len]; exact own_lt bk (uv i (sub1 i hi))) h
end
end G9

/-! Q4: plain: what a scheme is, told over data. -/
namespace G9
open PySem PySem.Spec L2 PyProof.Rows
theorem cNe {i j : Int} {Q : Bool → Prop} (h : i ≠ j → Q true) (h' : i = j → Q false) : cmS .ne (.int i) (.int j) Q := by
  refine ⟨.inl ⟨rfl, rfl⟩, ?_⟩
  show Q (!decide (i = j))
  by_cases c : i = j
  · rw [decide_eq_true c]; exact h' c
  · rw [decide_eq_false c]; exact h c
theorem cLt {i j : Int} {Q : Bool → Prop} (h : i < j → Q true) (h' : j ≤ i → Q false) : cmS .lt (.int i) (.int j) Q := by
  show Q (decide (i < j))
  by_cases c : i < j
  · rw [decide_eq_true c]; exact h c
  · rw [decide_eq_false c]; exact h' (by omega)
theorem cNilT {xs : List PyData} {Q : Bool → Prop} (hs : SeqAt.shaped (.tuple xs) = true) (h : Q xs.isEmpty) : cmS .eq (.tuple xs) (.tuple []) Q := by
  refine ⟨.inl ⟨hs, rfl⟩, ?_⟩
  have e : PyData.eqv (.tuple xs) (.tuple []) = xs.isEmpty := by
    cases xs with
    | nil => rfl
    | cons x r => simp [PyData.eqv, PyData.eqvAll]
  rw [e]
  exact h
/-- turns of two clauses, of which each adds what it adds -/
theorem lc2L_pure {f : PyData → En → List PyData → (List PyData → En → Prop) → Prop} {Q : List PyData → En → Prop} (g : PyData → List PyData) (I : En → Prop) : ∀ {xs : List PyData} {ρ : En} {acc : List PyData}, I ρ →
    (∀ x ∈ xs, ∀ ρ acc k, I ρ → (∀ ρ', I ρ' → k (acc ++ g x) ρ') → f x ρ acc k) → (∀ ρ', I ρ' → Q (acc ++ xs.flatMap g) ρ') → lc2L f xs ρ acc Q
  | [], ρ, acc, h0, _, q => by simpa [lc2L] using q ρ h0
  | x :: r, ρ, acc, h0, st, q => by
    refine st x List.mem_cons_self ρ acc _ h0 fun ρ' h1 => lc2L_pure g I h1 (fun y hy => st y (List.mem_cons_of_mem _ hy)) fun ρ2 h2 => ?_
    have z := q ρ2 h2
    rw [List.flatMap_cons, ← List.append_assoc] at z
    exact z
def intB (x : PyData) : Bool := isD x .int && !isD x .bool
/-! ### names, party sets -/
def ItemsOk (x : PyData) : Prop := ∀ xs, x = .tuple xs → ∀ y ∈ xs, StrOk y
def strsOf (xs : List PyData) : List Str := xs.filterMap fun | .str s => some s | _ => none
def setB : PyData → Bool
  | .tuple xs => xs.all nameB && ascB (strsOf xs)
  | _ => false
theorem names_strs {xs : List PyData} (h : xs.all nameB = true) : xs = (strsOf xs).map .str := by
  induction xs with
  | nil => rfl
  | cons x r ih =>
    rw [List.all_cons, Bool.and_eq_true] at h
    cases x <;> try (simp [nameB] at h; done)
    rename_i s
    show PyData.str s :: r = PyData.str s :: (strsOf r).map .str
    rw [← ih h.2]
theorem strsOf_map (ss : List Str) : strsOf (ss.map .str) = ss := by
  induction ss with
  | nil => rfl
  | cons s r ih => show s :: strsOf (r.map .str) = s :: r; rw [ih]
theorem setB_tup {ss : List Str} : setB (tupS ss) = true ↔ (∀ s ∈ ss, Nm s) ∧ Asc ss := by
  show ((ss.map PyData.str).all nameB && ascB (strsOf (ss.map .str))) = true ↔ _
  rw [Bool.and_eq_true, strsOf_map, List.all_map, List.all_eq_true]
  exact ⟨fun h => ⟨h.1, of_ascB h.2⟩, fun h => ⟨h.1, ascB_of h.2⟩⟩
theorem setB_of {x : PyData} (h : setB x = true) : ∃ ss, x = tupS ss ∧ (∀ s ∈ ss, Nm s) ∧ Asc ss := by
  cases x <;> try (cases h; done)
  rename_i xs
  have z := h
  simp only [setB, Bool.and_eq_true] at z
  have e := names_strs z.1
  refine ⟨strsOf xs, by rw [tupS, ← e], ?_⟩
  rw [e] at h
  exact setB_tup.mp h
theorem setB_grp {x : PyData} (h : setB x = true) : x = tupS (grp x) := by
  obtain ⟨ss, rfl, _⟩ := setB_of h
  rw [grp_tup]
def grps : PyData → List (List Str)
  | .tuple xs => xs.map grp
  | _ => []
theorem grps_tup (kss : List (List Str)) : grps (.tuple (kss.map tupS)) = kss := by
  show (kss.map tupS).map grp = kss
  rw [List.map_map]
  have : (grp ∘ tupS) = id := by funext g; exact grp_tup g
  rw [this, List.map_id]
theorem sets_tups {xs : List PyData} (h : xs.all setB = true) : xs = (xs.map grp).map tupS := by
  induction xs with
  | nil => rfl
  | cons x r ih =>
    rw [List.all_cons, Bool.and_eq_true] at h
    rw [List.map_cons, List.map_cons, ← setB_grp h.1, ← ih h.2]
/-! ### lists of party sets -/
def ascTB : List (List Str) → Bool
  | a :: b :: r => ltSS a b && ascTB (b :: r)
  | _ => true
theorem ascTB_zip : ∀ ss : List (List Str), (List.zipWith ltSS ss.dropLast ss.tail).all id = ascTB ss
  | [] => rfl
  | [_] => rfl
  | a :: b :: r => by
    show (ltSS a b :: List.zipWith ltSS (b :: r).dropLast (b :: r).tail).all id = (ltSS a b && ascTB (b :: r))
    rw [List.all_cons, ascTB_zip (b :: r)]
    rfl
theorem ascTB_of {ss : List (List Str)} (h : AscT ss) : ascTB ss = true := by
  induction ss with
  | nil => rfl
  | cons x r ih =>
    obtain ⟨h1, h2⟩ := List.pairwise_cons.mp h
    cases r with
    | nil => rfl
    | cons y t =>
      show (ltSS x y && ascTB (y :: t)) = true
      rw [h1 y List.mem_cons_self, ih h2]
      rfl
theorem of_ascTB : ∀ {ss : List (List Str)}, ascTB ss = true → AscT ss
  | [], _ => .nil
  | [x], _ => List.pairwise_singleton _ _
  | x :: y :: t, h => by
    have h : (ltSS x y && ascTB (y :: t)) = true := h
    rw [Bool.and_eq_true] at h
    have ih := of_ascTB h.2
    refine List.pairwise_cons.mpr ⟨fun z hz => ?_, ih⟩
    rcases List.mem_cons.mp hz with rfl | hz
    · exact h.1
    · exact ltSS_trans h.1 ((List.pairwise_cons.mp ih).1 z hz)
theorem leSS_not : ∀ a b : List Str, leSS a b = !ltSS b a
  | [], [] => rfl
  | [], _ :: _ => rfl
  | _ :: _, [] => rfl
  | x :: a, y :: b => by
    show (if x = y then leSS a b else !ltS y x) = !(if y = x then ltSS b a else ltS y x)
    by_cases e : x = y
    · rw [if_pos e, if_pos e.symm, leSS_not a b]
    · rw [if_neg e, if_neg (Ne.symm e)]
theorem ascTB_iff : ∀ ss : List (List Str), ascTB ss = true ↔ ∀ k, k + 1 < ss.length → ltSS (ss.getD k []) (ss.getD (k + 1) []) = true
  | [] => ⟨fun _ k h => absurd h (Nat.not_lt_zero _), fun _ => rfl⟩
  | [a] => ⟨fun _ k h => absurd h (by simp), fun _ => rfl⟩
  | a :: b :: r => by
    show (ltSS a b && ascTB (b :: r)) = true ↔ _
    rw [Bool.and_eq_true, ascTB_iff (b :: r)]
    constructor
    · rintro ⟨h1, h2⟩ k hk
      cases k with
      | zero => exact h1
      | succ k => exact h2 k (by simpa using hk)
    · exact fun h => ⟨h 0 (by simp), fun k hk => h (k + 1) (by simpa using hk)⟩
theorem ascB_iff : ∀ ss : List Str, ascB ss = true ↔ ∀ k, k + 1 < ss.length → ltS (ss.getD k "") (ss.getD (k + 1) "") = true
  | [] => ⟨fun _ k h => absurd h (Nat.not_lt_zero _), fun _ => rfl⟩
  | [a] => ⟨fun _ k h => absurd h (by simp), fun _ => rfl⟩
  | a :: b :: r => by
    show (ltS a b && ascB (b :: r)) = true ↔ _
    rw [Bool.and_eq_true, ascB_iff (b :: r)]
    constructor
    · rintro ⟨h1, h2⟩ k hk
      cases k with
      | zero => exact h1
      | succ k => exact h2 k (by simpa using hk)
    · exact fun h => ⟨h 0 (by simp), fun k hk => h (k + 1) (by simpa using hk)⟩
def antiB (kss : List (List Str)) : Bool := kss.all fun a => kss.all fun b => decide (a = b) || !subB a b
theorem antiB_iff {kss : List (List Str)} : antiB kss = true ↔ ∀ a ∈ kss, ∀ b ∈ kss, a = b ∨ subB a b = false := by
  unfold antiB
  simp only [List.all_eq_true, Bool.or_eq_true, decide_eq_true_eq, Bool.not_eq_true']
def setsB (sv : List Str) : PyData → Bool
  | .tuple xs => !xs.isEmpty && (xs.all setB && (ascTB (xs.map grp) && (antiB (xs.map grp) && (xs.map grp).all fun g => subB g sv)))
  | _ => false
theorem sets_of_true {sv : List Str} {x : PyData} (h : setsB sv x = true) (hn : 6 ≤ 8 := by omega) : ∃ kss : List (List Str), x = .tuple (kss.map tupS) ∧ ∀ g ∈ kss, ∀ s ∈ g, Sht 8 s := by
  cases x <;> try (cases h; done)
  rename_i xs
  simp only [setsB, Bool.and_eq_true] at h
  have e := sets_tups h.2.1
  refine ⟨xs.map grp, by rw [← e], fun g hg => ?_⟩
  obtain ⟨y, hy, rfl⟩ := List.mem_map.mp hg
  obtain ⟨ss, rfl, n1, _⟩ := setB_of (List.all_eq_true.mp h.2.1 y hy)
  rw [grp_tup]
  exact fun s hs => (n1 s hs).sht.mono hn
theorem other_mem {kss : List (List Str)} {i : Nat} {g f : List Str} (nd : kss.Nodup) (h : kss[i]? = some g) : f ∈ kss.take i ++ kss.drop (i + 1) ↔ f ∈ kss ∧ f ≠ g := by
  have hi := (List.getElem?_eq_some_iff.mp h).1
  have hg := (List.getElem?_eq_some_iff.mp h).2
  have e : kss = kss.take i ++ g :: kss.drop (i + 1) := by
    rw [← hg, ← List.drop_eq_getElem_cons hi, List.take_append_drop]
  have p : kss.Perm (g :: (kss.take i ++ kss.drop (i + 1))) := by
    have z := List.perm_middle (a := g) (l₁ := kss.take i) (l₂ := kss.drop (i + 1))
    rw [← e] at z
    exact z
  have nd2 := p.nodup_iff.mp nd
  obtain ⟨n1, _⟩ := List.nodup_cons.mp nd2
  rw [p.mem_iff, List.mem_cons]
  constructor
  · exact fun hf => ⟨.inr hf, fun e => n1 (by rw [← e]; exact hf)⟩
  · rintro ⟨hf, ne⟩
    exact hf.resolve_left ne
theorem cutD_take {α : Type} (xs : List α) {i : Nat} (h : i ≤ xs.length) : cutD xs none (some (i : Int)) = xs.take i := by
  unfold cutD
  rw [HT.sIx_none, HT.sIx_nat, List.drop_zero, Nat.sub_zero, Nat.min_eq_left h]
theorem cutD_drop {α : Type} (xs : List α) {i : Nat} (h : i ≤ xs.length) : cutD xs (some (i : Int)) none = xs.drop i := by
  unfold cutD
  rw [HT.sIx_none, HT.sIx_nat, Nat.min_eq_left h, List.take_of_length_le (by rw [List.length_drop]; exact Nat.le_refl _)]
/-! ### primes -/
def primeB : PyData → Bool
  | .int p => decide (2 ≤ p) && decide (p ≤ 997) && ((List.range (p - 2).toNat).all fun k => !decide ((2 + (k : Int)) * (2 + (k : Int)) ≤ p) || !decide (p.fmod (2 + (k : Int)) = 0))
  | _ => false
def primeL : PyData → Bool
  | .int p => decide (2 ≤ p) && decide (p ≤ 997) && ((List.range 30).all fun k => !(decide (p.fmod (2 + (k : Int)) = 0) && !decide (p = 2 + (k : Int))))
  | _ => false
def pA (n : Nat) : Bool := (List.range (n - 2)).all fun k => Nat.ble (n + 1) ((2 + k) * (2 + k)) || Nat.ble 1 (n % (2 + k))
def pA0 (n : Nat) : Bool := (List.range 30).all fun k => Nat.ble (n - 2) k || (Nat.ble (n + 1) ((2 + k) * (2 + k)) || Nat.ble 1 (n % (2 + k)))
def pB (n : Nat) : Bool := (List.range 30).all fun k => !(Nat.beq (n % (2 + k)) 0 && !Nat.beq n (2 + k))
theorem pA_eq {n : Nat} (h : n ≤ 997) : pA n = pA0 n := by
  unfold pA pA0
  rw [Bool.eq_iff_iff, List.all_eq_true, List.all_eq_true]
  constructor
  · intro z k hk
    by_cases c : k < n - 2
    · rw [z k (List.mem_range.mpr c), Bool.or_true]
    · rw [Nat.ble_eq.mpr (by omega), Bool.true_or]
  · intro z k hk
    have hk := List.mem_range.mp hk
    by_cases c : k < 30
    · have y := z k (List.mem_range.mpr c)
      rw [Bool.or_eq_true, Nat.ble_eq] at y
      exact y.resolve_left (by omega)
    · have : 32 * 32 ≤ (2 + k) * (2 + k) := Nat.mul_le_mul (by omega) (by omega)
      rw [Nat.ble_eq.mpr (by omega), Bool.true_or]
theorem pA0_pB : ∀ k : Fin 996, pA0 (k.val + 2) = pB (k.val + 2) := by decide +kernel
theorem pA_pB (k : Fin 996) : pA (k.val + 2) = pB (k.val + 2) := by rw [pA_eq (by omega), pA0_pB]
theorem prime_same (x : PyData) : primeB x = primeL x := by
  cases x <;> try rfl
  rename_i p
  simp only [primeB, primeL]
  by_cases h1 : 2 ≤ p
  · by_cases h2 : p ≤ 997
    · rw [decide_eq_true h1, decide_eq_true h2, Bool.true_and, Bool.true_and]
      obtain ⟨n, rfl⟩ := Int.eq_ofNat_of_zero_le (show 0 ≤ p by omega)
      have z := pA_pB ⟨n - 2, by omega⟩
      have e : n - 2 + 2 = n := by omega
      simp only [e] at z
      have a : ((List.range ((n : Int) - 2).toNat).all fun k => !decide ((2 + (k : Int)) * (2 + (k : Int)) ≤ (n : Int)) || !decide ((n : Int).fmod (2 + (k : Int)) = 0)) = pA n := by
        unfold pA
        have e1 : ((n : Int) - 2).toNat = n - 2 := by omega
        rw [e1]
        congr 1
        funext k
        have e2 : (n : Int).fmod (2 + (k : Int)) = ((n % (2 + k) : Nat) : Int) := fmod_nat n (2 + k)
        have e3 : (2 + (k : Int)) * (2 + (k : Int)) = (((2 + k) * (2 + k) : Nat) : Int) := by push_cast; rfl
        rw [e2, e3, Bool.eq_iff_iff]
        simp only [Bool.or_eq_true, Bool.not_eq_true', decide_eq_false_iff_not, Nat.ble_eq]
        generalize (2 + k) * (2 + k) = A
        generalize n % (2 + k) = B
        omega
      have b : ((List.range 30).all fun k => !(decide ((n : Int).fmod (2 + (k : Int)) = 0) && !decide ((n : Int) = 2 + (k : Int)))) = pB n := by
        unfold pB
        congr 1
        funext k
        have e2 : (n : Int).fmod (2 + (k : Int)) = ((n % (2 + k) : Nat) : Int) := fmod_nat n (2 + k)
        have e4 : ∀ a b : Nat, decide (((a : Nat) : Int) = ((b : Nat) : Int)) = Nat.beq a b := fun a b => by rw [Bool.eq_iff_iff, decide_eq_true_eq, Nat.beq_eq]; omega
        have e5 : (2 + (k : Int)) = ((2 + k : Nat) : Int) := by omega
        rw [e2, e5]
        have e6 := e4 (n % (2 + k)) 0
        have e7 := e4 n (2 + k)
        rw [← e7, ← e6]
        rfl
      rw [a, b, z, Bool.true_and]
    · rw [decide_eq_false h2, Bool.and_false, Bool.false_and, Bool.false_and]
  · rw [decide_eq_false h1, Bool.false_and, Bool.false_and, Bool.false_and]
/-! ### schemes -/
def schT (p sv cl ob ft : PyData) : Bool :=
  primeB p && (setB sv && (setB cl && (decide (2 ≤ (grp sv).length) && (!(grp cl).isEmpty && ((grp cl).all (fun n => !decide (n ∈ grp sv)) && (setsB (grp sv) ob && (setsB (grp sv) ft && (grps ft).all fun f => (grps ob).any fun o => subB f o)))))))
def schB : PyData → Bool
  | .tuple [p, sv, cl, ob, ft] => schT p sv cl ob ft
  | _ => false
/-! ### data over known texts -/
mutual
def wiD (ks : List Str) : PyData → Bool
  | .str s => decide (s ∈ ks)
  | .list xs => wiAll ks xs
  | .tuple xs => wiAll ks xs
  | _ => true
def wiAll (ks : List Str) : List PyData → Bool
  | [] => true
  | x :: r => wiD ks x && wiAll ks r
end
theorem wiAll_iff {ks : List Str} {xs : List PyData} : wiAll ks xs = true ↔ ∀ x ∈ xs, wiD ks x = true := by
  induction xs with
  | nil => simp [wiAll]
  | cons x r ih => simp [wiAll, ih]
structure Fit (ks : List Str) (x : PyData) (d w : Nat) : Prop where
  ok : Ok x d w
  lay : Lay x d
  wi : wiD ks x = true
theorem Fit.mono {ks : List Str} {x : PyData} {d w d' w' : Nat} (h : Fit ks x d w) (a : d ≤ d') (b : w ≤ w') : Fit ks x d' w' := ⟨h.ok.mono a b, h.lay.mono a, h.wi⟩
theorem Fit.tup {ks : List Str} {xs : List PyData} {d w n : Nat} (h : ∀ x ∈ xs, Fit ks x d w) (hn : xs.length ≤ n) : Fit ks (.tuple xs) (d + 1) ((w + 1) * n) :=
  ⟨Ok.tup (fun x hx => (h x hx).ok) hn, Lay.tup fun x hx => (h x hx).lay, by simp only [wiD]; exact wiAll_iff.mpr fun x hx => (h x hx).wi⟩
theorem Fit.lst {ks : List Str} {xs : List PyData} {d w n : Nat} (h : ∀ x ∈ xs, Fit ks x d w) (hn : xs.length ≤ n) : Fit ks (.list xs) (d + 1) ((w + 1) * n) :=
  ⟨Ok.lst (fun x hx => (h x hx).ok) hn, Lay.lst fun x hx => (h x hx).lay, by simp only [wiD]; exact wiAll_iff.mpr fun x hx => (h x hx).wi⟩
theorem Fit.items {ks : List Str} {xs : List PyData} {d w : Nat} (h : Fit ks (.tuple xs) d w) {y : PyData} (hy : y ∈ xs) : Fit ks y d w := by
  have a := h.ok
  have b := h.lay
  have c := h.wi
  have go : ∀ {xs : List PyData} {y : PyData}, y ∈ xs → (PyData.showableAll xs = true → y.showable = true) ∧ (PyData.leavesShortAll 45 xs = true → y.leavesShort 45 = true) ∧ y.depth ≤ PyData.depthAll xs ∧ (PyData.canLayAll0 xs = true → y.canLay0 = true) := by
    intro xs y hy
    induction xs with
    | nil => cases hy
    | cons x r ih =>
      simp only [PyData.showableAll, PyData.leavesShortAll, PyData.depthAll, PyData.canLayAll0, Bool.and_eq_true]
      rcases List.mem_cons.mp hy with rfl | hy
      · exact ⟨fun h => h.1, fun h => h.1, Nat.le_max_left _ _, fun h => h.1⟩
      · obtain ⟨i1, i2, i3, i4⟩ := ih hy
        exact ⟨fun h => i1 h.2, fun h => i2 h.2, Nat.le_trans i3 (Nat.le_max_right _ _), fun h => i4 h.2⟩
  obtain ⟨g1, g2, g3, g4⟩ := go hy
  have hd : PyData.depthAll xs + 1 ≤ d := by have := a.dp; simp only [PyData.depth] at this; exact this
  refine ⟨⟨g1 (by have := a.sh; simp only [PyData.showable] at this; exact this), g2 (by have := a.lv; simp only [PyData.leavesShort] at this; exact this), by omega, ?_⟩, ⟨g4 (by have := b.cl; simp only [PyData.canLay0] at this; exact this), by omega⟩, ?_⟩
  · have h1 := weightAll_mem hy
    have h2 : PyData.weightAll xs ≤ w := by have := a.wt; simp only [PyData.weight] at this; exact this
    omega
  · simp only [wiD] at c
    exact wiAll_iff.mp c y hy
theorem Fit.strOk {ks : List Str} {x : PyData} {d w : Nat} (h : Fit ks x d w) (hw : w ≤ 300000) : StrOk x := by
  rintro s rfl
  have := h.ok.wt
  rw [sizeLine_eq]
  exact Nat.le_trans this (by omega)
theorem Fit.itemsOk {ks : List Str} {x : PyData} {d w : Nat} (h : Fit ks x d w) (hw : w ≤ 300000) : ItemsOk x := by
  rintro xs rfl y hy
  exact (h.items hy).strOk hw
theorem len_weight : ∀ xs : List PyData, xs.length ≤ PyData.weightAll xs
  | [] => Nat.le_refl _
  | x :: r => by have := len_weight r; simp only [PyData.weightAll, List.length_cons]; omega
theorem Fit.len {ks : List Str} {xs : List PyData} {d w : Nat} (h : Fit ks (.tuple xs) d w) : xs.length ≤ w := by
  have h2 : PyData.weightAll xs ≤ w := by have := h.ok.wt; simp only [PyData.weight] at this; exact this
  exact Nat.le_trans (len_weight xs) h2
theorem Fit.names {ks ss : List Str} {d w : Nat} (h : Fit ks (tupS ss) d w) : ∀ s ∈ ss, s ∈ ks := fun s hs => by
  have z := (Fit.items h (List.mem_map.mpr ⟨s, hs, rfl⟩)).wi
  simpa [wiD] using z
end G9

/-! Q5: plain: drawn schemes are schemes; lists of data to be asked. -/
namespace G9
open PySem PySem.Spec L2 PyProof.Rows
theorem int_all : ∀ k : Fin 1400, (PyData.int ((k.val : Int) - 100)).leavesShort 45 = true ∧ (PyData.int ((k.val : Int) - 100)).weight ≤ 20 ∧ (PyData.int ((k.val : Int) - 100)).showable = true := by decide +kernel
theorem Ok.int {n : Int} (h1 : -100 ≤ n) (h2 : n < 1300) : Ok (.int n) 0 20 := by
  have z := int_all ⟨(n + 100).toNat, by omega⟩
  have e : (((n + 100).toNat : Nat) : Int) - 100 = n := by omega
  simp only [e] at z
  exact ⟨z.2.2, z.1, Nat.le_refl _, z.2.1⟩
theorem Fit.int {ks : List Str} {n : Int} (h1 : -100 ≤ n) (h2 : n < 1300) : Fit ks (.int n) 0 20 := ⟨Ok.int h1 h2, ⟨rfl, Nat.le_refl _⟩, rfl⟩
/-- a list of known names -/
structure NL (ks : List Str) (l : List Str) : Prop where
  m : ∀ s ∈ l, s ∈ ks ∧ Sht 8 s
  len : l.length ≤ 14
theorem NL.fit {ks l : List Str} (h : NL ks l) : Fit ks (tupS l) 1 126 :=
  Fit.tup (w := 8) (n := 14) (fun x hx => by
    obtain ⟨s, hs, rfl⟩ := List.mem_map.mp hx
    obtain ⟨a, b⟩ := h.m s hs
    exact ⟨b.ok, b.lay (by omega), by simp only [wiD]; exact decide_eq_true a⟩) (by rw [List.length_map]; exact h.len)
theorem NL.sub {ks l l' : List Str} (h : NL ks l) (s : ∀ x ∈ l', x ∈ l) (n : l'.length ≤ l.length) : NL ks l' := ⟨fun x hx => h.m x (s x hx), Nat.le_trans n h.len⟩
theorem NL.cut {ks l : List Str} (h : NL ks l) (lo hi : Option Int) : NL ks (cutD l lo hi) := h.sub (fun x hx => cutD_mem hx) (cutD_len l lo hi)
/-- a list of such -/
structure TL (ks : List Str) (kss : List (List Str)) : Prop where
  m : ∀ g ∈ kss, NL ks g
  len : kss.length ≤ 15
theorem TL.fit {ks : List Str} {kss : List (List Str)} (h : TL ks kss) : Fit ks (.tuple (kss.map tupS)) 2 1905 :=
  Fit.tup (w := 126) (n := 15) (fun x hx => by
    obtain ⟨g, hg, rfl⟩ := List.mem_map.mp hx
    exact (h.m g hg).fit) (by rw [List.length_map]; exact h.len)
/-- what may be asked -/
structure Ask (ks : List Str) (x : PyData) : Prop where
  ok : Ok x 60 300000
  it : ∀ xs, x = .tuple xs → ∀ y ∈ xs, Fit ks y 59 4096
theorem Ask.fit {ks : List Str} {x : PyData} {d w : Nat} (h : Fit ks x d w) (hd : d ≤ 59) (hw : w ≤ 4096) : Ask ks x := ⟨h.ok.mono (by omega) (by omega), by
  rintro xs rfl y hy
  exact (h.items hy).mono hd hw⟩
theorem Ask.tup {ks : List Str} {xs : List PyData} (h : ∀ x ∈ xs, Fit ks x 2 1905) (hn : xs.length ≤ 6) : Ask ks (.tuple xs) := ⟨(Ok.tup (fun x hx => (h x hx).ok) hn).mono (by omega) (by omega), by
  intro ys e y hy
  cases e
  exact (h y hy).mono (by omega) (by omega)⟩
theorem Ask.lst {ks : List Str} {xs : List PyData} (h : ∀ x ∈ xs, Fit ks x 2 1905) (hn : xs.length ≤ 6) : Ask ks (.list xs) := ⟨(Ok.lst (fun x hx => (h x hx).ok) hn).mono (by omega) (by omega), by
  intro ys e
  cases e⟩
def fitB (ks : List Str) (x : PyData) : Bool := x.showable && (x.leavesShort 45 && (decide (x.depth ≤ 59) && (decide (x.weight ≤ 4096) && (x.canLay0 && wiD ks x))))
theorem fit_of {ks : List Str} {x : PyData} (h : fitB ks x = true) : Fit ks x 59 4096 := by
  simp only [fitB, Bool.and_eq_true, decide_eq_true_eq] at h
  exact ⟨⟨h.1, h.2.1, h.2.2.1, h.2.2.2.1⟩, ⟨h.2.2.2.2.1, h.2.2.1⟩, h.2.2.2.2.2⟩
def askB (ks : List Str) (x : PyData) : Bool := x.showable && (x.leavesShort 45 && (decide (x.depth ≤ 60) && (decide (x.weight ≤ 300000) && (match x with | .tuple xs => xs.all (fitB ks) | _ => true))))
theorem ask_of {ks : List Str} {x : PyData} (h : askB ks x = true) : Ask ks x := by
  simp only [askB, Bool.and_eq_true, decide_eq_true_eq] at h
  refine ⟨⟨h.1, h.2.1, h.2.2.1, h.2.2.2.1⟩, ?_⟩
  rintro xs rfl y hy
  exact fit_of (List.all_eq_true.mp h.2.2.2.2 y hy)
structure AskL (ks : List Str) (n : Nat) (L : List PyData) : Prop where
  m : ∀ x ∈ L, Ask ks x
  len : L.length ≤ n
theorem AskL.app {ks : List Str} {n m : Nat} {L K : List PyData} (h : AskL ks n L) (k : AskL ks m K) : AskL ks (n + m) (L ++ K) :=
  ⟨fun x hx => (List.mem_append.mp hx).elim (h.m x) (k.m x), by rw [List.length_append]; exact Nat.add_le_add h.len k.len⟩
theorem AskL.nil {ks : List Str} : AskL ks 0 [] := ⟨(fun _ h => nomatch h), Nat.le_refl _⟩
theorem AskL.cons {ks : List Str} {n : Nat} {x : PyData} {L : List PyData} (h : Ask ks x) (k : AskL ks n L) : AskL ks (n + 1) (x :: L) :=
  ⟨fun y hy => (List.mem_cons.mp hy).elim (fun e => by rw [e]; exact h) (k.m y), by rw [List.length_cons]; exact Nat.succ_le_succ k.len⟩
theorem AskL.mono {ks : List Str} {n m : Nat} {L : List PyData} (h : AskL ks n L) (k : n ≤ m) : AskL ks m L := ⟨h.m, Nat.le_trans h.len k⟩
theorem AskL.one {ks : List Str} {x : PyData} (h : Ask ks x) : AskL ks 1 [x] := .cons h .nil
theorem AskL.two {ks : List Str} {x y : PyData} (h : Ask ks x) (k : Ask ks y) : AskL ks 2 [x, y] := .cons h (.cons k .nil)
theorem fits5 {ks : List Str} {a b c d e : PyData} (ha : Fit ks a 2 1905) (hb : Fit ks b 2 1905) (hc : Fit ks c 2 1905) (hd : Fit ks d 2 1905) (he : Fit ks e 2 1905) : ∀ x ∈ [a, b, c, d, e], Fit ks x 2 1905 := by
  intro x hx
  simp only [List.mem_cons, List.not_mem_nil, or_false] at hx
  rcases hx with rfl | rfl | rfl | rfl | rfl <;> assumption
theorem Ask.five {ks : List Str} {a b c d e : PyData} (ha : Fit ks a 2 1905) (hb : Fit ks b 2 1905) (hc : Fit ks c 2 1905) (hd : Fit ks d 2 1905) (he : Fit ks e 2 1905) : Ask ks (.tuple [a, b, c, d, e]) := Ask.tup (fits5 ha hb hc hd he) (by show 5 ≤ 6; omega)
/-- a drawn scheme, as far as it matters -/
structure Good3 (p : Int) (sv cl : List Str) (ob ft : List (List Str)) : Prop where
  pr : primeB (.int p) = true
  pn : 0 ≤ p ∧ p < 1000
  asv : Asc sv
  acl : Asc cl
  nsv : ∀ s ∈ sv, Nm s
  ncl : ∀ s ∈ cl, Nm s
  lsv : 2 ≤ sv.length ∧ sv.length ≤ 9
  lcl : 1 ≤ cl.length ∧ cl.length ≤ 4
  dis : ∀ s ∈ sv, s ∉ cl
  sob : Sets sv 11 ob
  sft : Sets sv 11 ft
  fob : ∀ g ∈ ft, ∃ o : List Str, o ∈ ob ∧ g.Sublist o
theorem Sets.mono {sv : List Str} {n m : Nat} {ob : List (List Str)} (h : Sets sv n ob) (k : n ≤ m) : Sets sv m ob := ⟨h.asc, h.sub, h.anti, h.ne, Nat.le_trans h.len k⟩
theorem Drawn.good {m : Nat} {p : Int} {sv cl : List Str} {ob ft : List (List Str)} (h : Drawn m p sv cl ob ft) (hm : m ≤ 9) : Good3 p sv cl ob ft := by
  refine ⟨?_, ?_, h.asv, h.acl, h.nsv, h.ncl, ⟨h.lsv.1, Nat.le_trans h.lsv.2 hm⟩, h.lcl, h.dis, h.sob.mono (by omega), h.sft.mono (by omega), h.fob⟩
  · have z := h.pr
    simp only [List.mem_cons, List.not_mem_nil, or_false] at z
    rcases z with rfl | rfl | rfl | rfl | rfl | rfl | rfl | rfl <;> decide +kernel
  · have z := h.pr
    simp only [List.mem_cons, List.not_mem_nil, or_false] at z
    omega
theorem sets_true {sv : List Str} {n : Nat} {ob : List (List Str)} (h : Sets sv n ob) (a : Asc sv) (nm : ∀ s ∈ sv, Nm s) : setsB sv (.tuple (ob.map tupS)) = true := by
  have e : (ob.map tupS).map grp = ob := grps_tup ob
  simp only [setsB, e, Bool.and_eq_true, Bool.not_eq_true']
  refine ⟨?_, ?_, ascTB_of h.asc, antiB_iff.mpr fun x hx y hy => ?_, ?_⟩
  · rw [List.isEmpty_map]
    have := h.ne
    cases ob with
    | nil => exact absurd rfl this
    | cons a r => rfl
  · rw [List.all_map, List.all_eq_true]
    intro g hg
    exact setB_tup.mpr ⟨fun s hs => nm s ((h.sub g hg).subset hs), a.sub (h.sub g hg)⟩
  · by_cases c : x = y
    · exact .inl c
    · exact .inr (h.anti x hx y hy c)
  · rw [List.all_eq_true]
    exact fun g hg => subB_iff.mpr fun n hn => (h.sub g hg).subset hn
theorem good_sch {p : Int} {sv cl : List Str} {ob ft : List (List Str)} (h : Good3 p sv cl ob ft) : schB (sch p sv cl ob ft) = true := by
  show schT (.int p) (tupS sv) (tupS cl) (.tuple (ob.map tupS)) (.tuple (ft.map tupS)) = true
  simp only [schT, grp_tup, grps_tup, Bool.and_eq_true]
  refine ⟨h.pr, setB_tup.mpr ⟨h.nsv, h.asv⟩, setB_tup.mpr ⟨h.ncl, h.acl⟩, decide_eq_true h.lsv.1, ?_, ?_, sets_true h.sob h.asv h.nsv, sets_true h.sft h.asv h.nsv, ?_⟩
  · have := h.lcl.1
    cases cl with
    | nil => simp at this
    | cons a r => rfl
  · rw [List.all_eq_true]
    intro n hn
    rw [decide_eq_false fun z => h.dis n z hn]
    rfl
  · rw [List.all_eq_true]
    intro f hf
    obtain ⟨o, ho, hs⟩ := h.fob f hf
    rw [List.any_eq_true]
    exact ⟨o, ho, subB_iff.mpr fun n hn => hs.subset hn⟩
def kn (sv cl : List Str) : List Str := sv ++ (cl ++ (["zzzzzz"] : List Str))
section
variable {p : Int} {sv cl : List Str} {ob ft : List (List Str)}
theorem Good3.kl (h : Good3 p sv cl ob ft) : (kn sv cl).length < 64 := by
  unfold kn
  rw [List.length_append, List.length_append]
  have := h.lsv.2
  have := h.lcl.2
  show sv.length + (cl.length + 1) < 64
  omega
theorem Good3.nl1 (h : Good3 p sv cl ob ft) : NL (kn sv cl) sv := ⟨fun s hs => ⟨List.mem_append_left _ hs, (h.nsv s hs).sht.mono (by omega)⟩, by have := h.lsv.2; omega⟩
theorem Good3.nl2 (h : Good3 p sv cl ob ft) : NL (kn sv cl) cl := ⟨fun s hs => ⟨List.mem_append_right _ (List.mem_append_left _ hs), (h.ncl s hs).sht.mono (by omega)⟩, by have := h.lcl.2; omega⟩
theorem NL.subl {ks l l' : List Str} (h : NL ks l) (s : l'.Sublist l) : NL ks l' := h.sub (fun x hx => s.subset hx) s.length_le
theorem Good3.tl1 (h : Good3 p sv cl ob ft) : TL (kn sv cl) ob := ⟨fun g hg => h.nl1.subl (h.sob.sub g hg), by have := h.sob.len; omega⟩
theorem Good3.tl2 (h : Good3 p sv cl ob ft) : TL (kn sv cl) ft := ⟨fun g hg => h.nl1.subl (h.sft.sub g hg), by have := h.sft.len; omega⟩
theorem Good3.pf (h : Good3 p sv cl ob ft) : Fit (kn sv cl) (.int p) 2 1905 := (Fit.int (by have := h.pn; omega) (by have := h.pn; omega)).mono (by omega) (by omega)
theorem NL.f (h : NL (kn sv cl) sv) : Fit (kn sv cl) (tupS sv) 2 1905 := h.fit.mono (by omega) (by omega)
theorem NL.g {ks l : List Str} (h : NL ks l) : Fit ks (tupS l) 2 1905 := h.fit.mono (by omega) (by omega)
end
end G9

/-! Q6: names of family E; who is certainly faulty, in plain words. -/
namespace G9
open PySem PySem.Spec L2 PyProof.Rows
theorem len_app (a b : Str) : (a ++ b).length = a.length + b.length := by
  show (a ++ b).cps.size = a.cps.size + b.cps.size
  rw [← Array.length_toList, cat_list, List.length_append, Array.length_toList, Array.length_toList]
def ltrE (st i : Nat) : Nat := 97 + (st + 11 * i) % 26
theorem ltrE_let (st i : Nat) : letB (ltrE st i) = true := letB_add (Nat.mod_lt _ (by decide))
/-- name number i -/
def nmE (m : Nat) (w : Str) (st i : Nat) : Str :=
  if m = 0 then ⟨#[ltrE st i]⟩ else if m = 1 then cutS w none (some (1 + ((st % 5 : Nat) : Int))) ++ ⟨#[ltrE st i]⟩ else ⟨#[ltrE st i]⟩ ++ cutS w none (some ((i % 6 : Nat) : Int))
theorem nmE_nm {m : Nat} {w : Str} {st i : Nat} (hw : w.length = 5) (hl : ∀ c ∈ w.cps.toList, letB c = true) : Nm (nmE m w st i) := by
  have z := ltrE_let st i
  have one : (⟨#[ltrE st i]⟩ : Str).length = 1 := rfl
  rw [Nm.iff]
  unfold nmE
  split
  · exact ⟨Nat.le_refl 1, (by decide : 1 ≤ 6), fun c hc => by rw [List.mem_singleton.mp hc]; exact z⟩
  · split
    · have l := cutS_length w none (some (1 + ((st % 5 : Nat) : Int)))
      rw [len_app, one]
      refine ⟨by omega, by omega, fun c hc => ?_⟩
      rw [cat_list] at hc
      rcases List.mem_append.mp hc with h | h
      · exact hl c (cutS_mem h)
      · rw [List.mem_singleton.mp h]; exact z
    · have l := cutS_length w none (some ((i % 6 : Nat) : Int))
      rw [len_app, one]
      refine ⟨by omega, by omega, fun c hc => ?_⟩
      rw [cat_list] at hc
      rcases List.mem_append.mp hc with h | h
      · rw [List.mem_singleton.mp h]; exact z
      · exact hl c (cutS_mem h)
theorem nmE_inj {m : Nat} {w : Str} {st i j : Nat} (hi : i < 12) (hj : j < 12) (h : nmE m w st i = nmE m w st j) : i = j := by
  have go : ltrE st i = ltrE st j → i = j := fun e => by unfold ltrE at e; omega
  apply go
  unfold nmE at h
  split at h
  · have h : (⟨#[ltrE st i]⟩ : Str).cps.toList = (⟨#[ltrE st j]⟩ : Str).cps.toList := by rw [h]
    exact List.head_eq_of_cons_eq h
  · split at h
    · have h := congrArg (fun s : Str => s.cps.toList) h
      simp only [cat_list] at h
      exact List.head_eq_of_cons_eq (List.append_cancel_left h)
    · have h := congrArg (fun s : Str => s.cps.toList) h
      simp only [cat_list] at h
      exact List.head_eq_of_cons_eq h
def nmsE (m : Nat) (w : Str) (st k : Nat) : List Str := (List.range k).map (nmE m w st)
theorem nmsE_nd {m : Nat} {w : Str} {st k : Nat} (hk : k ≤ 12) : (nmsE m w st k).Nodup := by
  unfold nmsE
  rw [List.Nodup, List.pairwise_map]
  refine List.Pairwise.imp_of_mem (fun {a b} ha hb hab => ?_) (List.pairwise_lt_range (n := k))
  have ha := List.mem_range.mp ha
  have hb := List.mem_range.mp hb
  intro e
  have := nmE_inj (by omega) (by omega) e
  omega
/-! ### who is certainly faulty -/
/-- a tuple or a list of texts -/
def Seq (x : PyData) (a : List Str) : Prop := x = tupS a ∨ x = .list (a.map .str)
def S8 (l : List Str) : Prop := ∀ s ∈ l, Sht 8 s
def SD (D : List (Str × Str)) : Prop := ∀ d ∈ D, Sht 8 d.1 ∧ Sht 8 d.2
theorem Seq.lay {x : PyData} {a : List Str} (h : Seq x a) (ha : S8 a) : Lay x 1 := by
  rcases h with rfl | rfl
  · exact Lay.names ha (by omega)
  · refine Lay.lst fun y hy => ?_
    obtain ⟨s, hs, rfl⟩ := List.mem_map.mp hy
    exact (ha s hs).lay (by omega)
def strD : PyData → Str
  | .str s => s
  | _ => ""
def lstS : PyData → List Str
  | .list xs => (strsD xs).getD []
  | _ => []
theorem lstS_of (T : List Str) : lstS (.list (T.map .str)) = T := by
  show (strsD (T.map .str)).getD [] = T
  rw [strsD_of]
  rfl
def untw : PyData → Str × Str
  | .tuple [.str a, .str b] => (a, b)
  | _ => ("", "")
def twS (d : Str × Str) : PyData := tupS [d.1, d.2]
def bothB (sv : List Str) (d : Str × Str) : Bool := decide (d.1 ∈ sv) && decide (d.2 ∈ sv)
theorem sub_two (a b : Str) (sv : List Str) : subB [a, b] sv = (decide (a ∈ sv) && decide (b ∈ sv)) := by
  unfold subB
  simp
theorem iteF' {A B : Prop} (h : B) : if (!true) = true then A else B := by simpa using h
theorem iteT' {A B : Prop} (h : A) : if (!false) = true then A else B := by simpa using h
def oneB (T : List Str) (d : Str × Str) : Bool := decide (d.1 ∈ T) || decide (d.2 ∈ T)
def explB (sv E : List Str) (D : List (Str × Str)) (T : List Str) : Bool := subB (E.filter fun s => decide (s ∈ sv)) T && (D.filter (bothB sv)).all (oneB T)
def certB (sv : List Str) (ft : List (List Str)) (E : List Str) (D : List (Str × Str)) (s : Str) : Bool := !((ft.map fun f => f.filter fun n => !decide (n = s)).any (explB sv E D))
def storB (sv : List Str) (ob ft : List (List Str)) : Bool := ob.all fun w => ft.all fun a => ft.all fun b => !subB sv (w ++ a ++ b)
/-- what identify_faulty answers -/
def Idf (sv : List Str) (ft : List (List Str)) (E : List Str) (D : List (Str × Str)) (ms : List Str) : Prop := Asc ms ∧ ∀ k, k ∈ ms ↔ k ∈ E ∨ (k ∈ sv ∧ certB sv ft E D k = true)
theorem Idf.uniq {sv : List Str} {ft : List (List Str)} {E : List Str} {D : List (Str × Str)} {a b : List Str} (h : Idf sv ft E D a) (k : Idf sv ft E D b) : a = b :=
  asc_uniq h.1 k.1 fun x => (h.2 x).trans (k.2 x).symm
theorem explB_iff {sv E : List Str} {D : List (Str × Str)} {T : List Str} : explB sv E D T = true ↔ (∀ s ∈ E, s ∈ sv → s ∈ T) ∧ ∀ d ∈ D, d.1 ∈ sv → d.2 ∈ sv → d.1 ∈ T ∨ d.2 ∈ T := by
  unfold explB
  rw [Bool.and_eq_true, subB_iff, List.all_eq_true]
  constructor
  · rintro ⟨h1, h2⟩
    refine ⟨fun s hs hv => h1 s (List.mem_filter.mpr ⟨hs, decide_eq_true hv⟩), fun d hd a b => ?_⟩
    have := h2 d (List.mem_filter.mpr ⟨hd, by unfold bothB; rw [decide_eq_true a, decide_eq_true b]; rfl⟩)
    unfold oneB at this
    simpa using this
  · rintro ⟨h1, h2⟩
    refine ⟨fun s hs => ?_, fun d hd => ?_⟩
    · obtain ⟨a, b⟩ := List.mem_filter.mp hs
      exact h1 s a (of_decide_eq_true b)
    · obtain ⟨a, b⟩ := List.mem_filter.mp hd
      unfold bothB at b
      rw [Bool.and_eq_true] at b
      have := h2 d a (of_decide_eq_true b.1) (of_decide_eq_true b.2)
      unfold oneB
      simpa using this
theorem explB_mono {sv E : List Str} {D : List (Str × Str)} {T T' : List Str} (h : explB sv E D T = true) (k : ∀ s ∈ T, s ∈ T') : explB sv E D T' = true := by
  obtain ⟨h1, h2⟩ := explB_iff.mp h
  exact explB_iff.mpr ⟨fun s a b => k s (h1 s a b), fun d a b c => (h2 d a b c).imp (k _) (k _)⟩
theorem certB_iff {sv : List Str} {ft : List (List Str)} {E : List Str} {D : List (Str × Str)} {s : Str} : certB sv ft E D s = true ↔ ∀ f ∈ ft, explB sv E D (f.filter fun n => !decide (n = s)) = false := by
  unfold certB
  rw [Bool.not_eq_true', List.any_eq_false]
  constructor
  · intro h f hf
    have := h _ (List.mem_map.mpr ⟨f, hf, rfl⟩)
    simpa using this
  · intro h x hx
    obtain ⟨f, hf, rfl⟩ := List.mem_map.mp hx
    rw [h f hf]
    exact Bool.false_ne_true
/-- turns that may end all -/
theorem forL_all {f : PyData → En → (En → Prop) → Prop} {Q : En → Prop} (b : PyData → Bool) (I : En → Prop) : ∀ {xs : List PyData} {ρ : En}, I ρ →
    (∀ x ∈ xs, ∀ ρ k, I ρ → (b x = true → ∀ ρ', I ρ' → k ρ') → f x ρ k) → (xs.all b = true → ∀ ρ', I ρ' → Q ρ') → forL f xs ρ Q
  | [], ρ, h0, _, q => q rfl ρ h0
  | x :: r, ρ, h0, st, q => by
    refine st x List.mem_cons_self ρ _ h0 fun hb ρ' h1 => forL_all b I h1 (fun y hy => st y (List.mem_cons_of_mem _ hy)) fun hr => q ?_
    rw [List.all_cons, hb, hr]
    rfl
theorem cutD_mid {α : Type} (xs : List α) {i j : Nat} (h : i ≤ xs.length) (k : j ≤ xs.length) : cutD xs (some (i : Int)) (some (j : Int)) = (xs.drop i).take (j - i) := by
  unfold cutD
  rw [HT.sIx_nat, HT.sIx_nat, Nat.min_eq_left h, Nat.min_eq_left k]
theorem cNilTN {xs : List PyData} {Q : Bool → Prop} (hs : SeqAt.shaped (.tuple xs) = true) (h : Q (!xs.isEmpty)) : cmS .ne (.tuple xs) (.tuple []) Q := by
  refine ⟨.inl ⟨hs, rfl⟩, ?_⟩
  have e : PyData.eqv (.tuple xs) (.tuple []) = xs.isEmpty := by
    cases xs with
    | nil => rfl
    | cons x r => simp [PyData.eqv, PyData.eqvAll]
  rw [e]
  exact h
theorem sets_nil (sv : List Str) : Sets sv 1 [[]] := by
  refine ⟨List.pairwise_singleton _ _, fun g hg => ?_, fun a ha b hb ne => ?_, by simp, Nat.le_refl _⟩
  · rw [List.mem_singleton.mp hg]; exact List.nil_sublist _
  · rw [List.mem_singleton.mp ha, List.mem_singleton.mp hb] at ne
    exact absurd rfl ne
structure CfgE (m : Nat) (p : Int) (sv cl : List Str) (ob ft : List (List Str)) : Prop where
  pr : p ∈ ([2, 3, 5, 7, 101, 997] : List Int)
  asv : Asc sv
  acl : Asc cl
  nsv : ∀ s ∈ sv, Nm s
  ncl : ∀ s ∈ cl, Nm s
  lsv : m ≤ sv.length ∧ sv.length ≤ 5
  lcl : 1 ≤ cl.length ∧ cl.length ≤ 3
  dis : ∀ s ∈ sv, s ∉ cl
  so : Sets sv 5 ob
  sf : Sets sv 12 ft
end G9

/-! N2: family C in plain words: names, schemes, big numbers. -/
namespace G9
open PySem PySem.Spec L2 PyProof.Rows
theorem Ok.big {n : Int} (h : n.natAbs < 10 ^ 44) : Ok (.int n) 0 150 := by
  have l : n.natAbs ≠ 0 → n.natAbs.log2 < 147 := fun nz => (Nat.log2_lt nz).mpr (Nat.lt_trans h (by decide))
  refine ⟨?_, ?_, Nat.le_refl _, ?_⟩
  · simp only [PyData.showable, decide_eq_true_eq]
    by_cases nz : n.natAbs = 0
    · rw [nz]; decide
    · have := l nz; omega
  · have e := PySem.int_text_length_le10 (a := n) (k := 44) (by decide) h
    simp only [PyData.leavesShort, decide_eq_true_eq]
    show (Str.ofString (toString n)).length ≤ 45
    rw [PySem.ofString_length]
    exact e
  · simp only [PyData.weight]
    split
    · omega
    · rename_i hz
      have nz : n.natAbs ≠ 0 := fun e => hz (by rw [beq_iff_eq]; omega)
      have l := l nz
      omega
/-- the alphabet, turned -/
def rot (f : Nat) : Str := cutS "abcdefghijklmnopqrstuvwxyz" (some (f : Int)) none ++ cutS "abcdefghijklmnopqrstuvwxyz" none (some (f : Int))
def ltrC (f j : Nat) : Nat := 97 + (f + j) % 26
theorem rot_all : ∀ f : Fin 26, (rot f.val).cps.toList = (List.range 26).map (ltrC f.val) := by decide +kernel
theorem rot_list {f : Nat} (h : f < 26) : (rot f).cps.toList = (List.range 26).map (ltrC f) := rot_all ⟨f, h⟩
theorem rot_len {f : Nat} (h : f < 26) : (rot f).length = 26 := by
  show (rot f).cps.size = 26
  rw [← Array.length_toList, rot_list h, List.length_map, List.length_range]
theorem rot_at {f j : Nat} (h : f < 26) (hj : j < 26) : (rot f).cps.toList[j]? = some (ltrC f j) := by
  rw [rot_list h, List.getElem?_map, List.getElem?_range hj]
  rfl
theorem ltrC_let (f j : Nat) : letB (ltrC f j) = true := letB_add (Nat.mod_lt _ (by decide))
theorem ltrC_inj {f i j : Nat} (hi : i < 26) (hj : j < 26) (h : ltrC f i = ltrC f j) : i = j := by unfold ltrC at h; omega
/-- name number i -/
def nmC (w f i : Nat) : Str :=
  if w = 0 then ⟨#[ltrC f i]⟩ else if w = 1 then Txt.mul ⟨#[ltrC f (i / 6)]⟩ (1 + ((i % 6 : Nat) : Int)) else cutS (rot f) (some 3) (some 8) ++ ⟨#[ltrC f i]⟩
theorem rot_let {f c : Nat} (h : f < 26) (hc : c ∈ (rot f).cps.toList) : letB c = true := by
  rw [rot_list h] at hc
  obtain ⟨j, _, rfl⟩ := List.mem_map.mp hc
  exact ltrC_let f j
theorem rot_cut {f : Nat} (h : f < 26) : (cutS (rot f) (some 3) (some 8)).length = 5 := by
  have z : ∀ f : Fin 26, (cutS (rot f.val) (some 3) (some 8)).length = 5 := by decide +kernel
  exact z ⟨f, h⟩
theorem mulC_len (c i : Nat) : (Txt.mul ⟨#[c]⟩ (1 + ((i % 6 : Nat) : Int))).length = 1 + i % 6 := by
  show (Txt.mul ⟨#[c]⟩ (1 + ((i % 6 : Nat) : Int))).cps.size = _
  rw [← Array.length_toList, mul_one_list, List.length_replicate]
  omega
theorem nmC_nm {w f i : Nat} (h : f < 26) : Nm (nmC w f i) := by
  rw [Nm.iff]
  unfold nmC
  split
  · exact ⟨Nat.le_refl 1, (by decide : 1 ≤ 6), fun c hc => by rw [List.mem_singleton.mp hc]; exact ltrC_let f i⟩
  · split
    · rw [mulC_len]
      refine ⟨by omega, by omega, fun c hc => ?_⟩
      rw [mul_one_list] at hc
      rw [List.eq_of_mem_replicate hc]
      exact ltrC_let f _
    · have one : (⟨#[ltrC f i]⟩ : Str).length = 1 := rfl
      rw [len_app, one, rot_cut h]
      refine ⟨by decide, by decide, fun c hc => ?_⟩
      rw [cat_list] at hc
      rcases List.mem_append.mp hc with z | z
      · exact rot_let h (cutS_mem z)
      · rw [List.mem_singleton.mp z]; exact ltrC_let f i
theorem nmC_inj {w f i j : Nat} (hi : i < 12) (hj : j < 12) (h : nmC w f i = nmC w f j) : i = j := by
  unfold nmC at h
  split at h
  · have h : (⟨#[ltrC f i]⟩ : Str).cps.toList = (⟨#[ltrC f j]⟩ : Str).cps.toList := by rw [h]
    exact ltrC_inj (by omega) (by omega) (List.head_eq_of_cons_eq h)
  · split at h
    · have l := congrArg Str.length h
      rw [mulC_len, mulC_len] at l
      have e1 := mul_one_list (ltrC f (i / 6)) (1 + ((i % 6 : Nat) : Int))
      have e2 := mul_one_list (ltrC f (j / 6)) (1 + ((j % 6 : Nat) : Int))
      rw [h, e2] at e1
      have z1 : (1 + ((i % 6 : Nat) : Int)).toNat = i % 6 + 1 := by omega
      have z2 : (1 + ((j % 6 : Nat) : Int)).toNat = j % 6 + 1 := by omega
      rw [z1, z2, List.replicate_succ, List.replicate_succ] at e1
      have e := ltrC_inj (by omega) (by omega) (List.head_eq_of_cons_eq e1)
      omega
    · have h := congrArg (fun s : Str => s.cps.toList) h
      simp only [cat_list] at h
      exact ltrC_inj (by omega) (by omega) (List.head_eq_of_cons_eq (List.append_cancel_left h))
def nmsC (w f k : Nat) : List Str := (List.range k).map (nmC w f)
theorem nmsC_nd {w f k : Nat} (hk : k ≤ 12) : (nmsC w f k).Nodup := by
  unfold nmsC
  rw [List.Nodup, List.pairwise_map]
  refine List.Pairwise.imp_of_mem (fun {a b} ha hb hab => ?_) (List.pairwise_lt_range (n := k))
  have ha := List.mem_range.mp ha
  have hb := List.mem_range.mp hb
  intro e
  have := nmC_inj (by omega) (by omega) e
  omega
theorem nmsC_take (f k : Nat) (h : f < 26) (hk : k ≤ 12) : ((rot f).cps.toList.map sgn).take k = (nmsC 0 f k).map .str := by
  rw [rot_list h, List.map_map, ← List.map_take, List.take_range, show min k 26 = k by omega]
  unfold nmsC
  rw [List.map_map]
  rfl
/-- a scheme of family C -/
structure CfgC (p : Int) (sv cl : List Str) (ob ft : List (List Str)) : Prop where
  pr : p ∈ ([2, 3, 5, 7, 11, 97, 499, 997] : List Int)
  asv : Asc sv
  acl : Asc cl
  nsv : ∀ s ∈ sv, Nm s
  ncl : ∀ s ∈ cl, Nm s
  lsv : 2 ≤ sv.length ∧ sv.length ≤ 5
  lcl : 1 ≤ cl.length ∧ cl.length ≤ 4
  dis : ∀ s ∈ sv, s ∉ cl
  so : Sets sv 6 ob
  sf : Sets sv 5 ft
  st : storB sv ob ft = true
  fo : ∀ g ∈ ft, ∃ o : List Str, o ∈ ob ∧ g.Sublist o
theorem CfgC.pn {p : Int} {sv cl : List Str} {ob ft : List (List Str)} (C : CfgC p sv cl ob ft) : 2 ≤ p ∧ p < 1000 := by
  have h := C.pr
  simp only [List.mem_cons, List.not_mem_nil, or_false] at h
  omega
/-- singles -/
theorem sets_single {sv : List Str} (a : Asc sv) (h : sv ≠ []) : Sets sv sv.length (sv.map fun s => [s]) := by
  refine ⟨?_, fun g hg => ?_, fun x hx y hy ne => ?_, fun e => h (List.map_eq_nil_iff.mp e), by rw [List.length_map]; exact Nat.le_refl _⟩
  · unfold AscT
    rw [List.pairwise_map]
    refine List.Pairwise.imp (fun {x y} k => ?_) a
    show (if x = y then ltSS [] [] else ltS x y) = true
    rw [if_neg (fun e => by rw [e, ltS_irrefl] at k; cases k)]
    exact k
  · obtain ⟨s, hs, rfl⟩ := List.mem_map.mp hg
    exact List.singleton_sublist.mpr hs
  · obtain ⟨s, hs, rfl⟩ := List.mem_map.mp hx
    obtain ⟨t, ht, rfl⟩ := List.mem_map.mp hy
    have ne : s ≠ t := fun e => ne (by rw [e])
    simp [subB, ne]
theorem stor_of {sv : List Str} {ob ft : List (List Str)} (nd : sv.Nodup) (h : ∀ o ∈ ob, ∀ a ∈ ft, ∀ b ∈ ft, (o ++ a ++ b).length < sv.length) : storB sv ob ft = true := by
  unfold storB
  rw [List.all_eq_true]
  intro o ho
  rw [List.all_eq_true]
  intro a ha
  rw [List.all_eq_true]
  intro b hb
  have z : subB sv (o ++ a ++ b) = false := by
    cases c : subB sv (o ++ a ++ b) with
    | false => rfl
    | true =>
      have := nodup_len nd (subB_iff.mp c)
      have := h o ho a ha b hb
      omega
  rw [z]
  rfl
/-- ascending, of known members: a part of the list -/
theorem asc_part {ss l : List Str} (a : Asc ss) (b : Asc l) (h : ∀ k ∈ ss, k ∈ l) : ss.Sublist l := by
  have e : l.filter (fun k => decide (k ∈ ss)) = ss := asc_uniq (b.sub List.filter_sublist) a fun k => by
    rw [List.mem_filter, decide_eq_true_eq]
    exact ⟨fun z => z.2, fun z => ⟨h k z, z⟩⟩
  rw [← e]
  exact List.filter_sublist
/-- a part of a part, both ascending -/
theorem part_of {sv g h : List Str} (a : Asc sv) (hg : g.Sublist sv) (hh : h.Sublist sv) (s : ∀ x ∈ g, x ∈ h) : g.Sublist h := asc_part (a.sub hg) (a.sub hh) s
/-- what lies in one of gs lies in a maximal one -/
theorem fob_of {sv : List Str} {gs ds ft : List (List Str)} (a : Asc sv) (hm : ∀ k, k ∈ ds ↔ k ∈ gs) (hs : ∀ g ∈ gs, g.Sublist sv) (hf : ∀ g ∈ ft, g.Sublist sv ∧ ∃ h ∈ gs, ∀ x ∈ g, x ∈ h) : ∀ g ∈ ft, ∃ o : List Str, o ∈ ds.filter (maxB ds) ∧ g.Sublist o := by
  intro g hg
  obtain ⟨g1, h, hh, g2⟩ := hf g hg
  obtain ⟨o, ho, h2⟩ := max_over a.nd (fun k hk => hs k ((hm k).mp hk)) h ((hm h).mpr hh)
  exact ⟨o, ho, part_of a g1 (hs o ((hm o).mp (List.mem_filter.mp ho).1)) fun x hx => h2 x (g2 x hx)⟩
end G9

/-! Q7: what repr gives holds code points alone; subsets; keys of a dict of texts. -/
namespace G9
open PySem PySem.Spec L2 PyProof.Rows
/-! ### subsets -/
def powE (ss : List Str) : List (List Str) := ss.foldl (fun acc n => acc ++ acc.map (· ++ [n])) [[]]
theorem powE_snoc (ss : List Str) (n : Str) : powE (ss ++ [n]) = powE ss ++ (powE ss).map (· ++ [n]) := by
  unfold powE
  rw [List.foldl_append]
  rfl
theorem pow_mem (ss : List Str) : ∀ (acc : List (List Str)) (T : List Str), T ∈ ss.foldl (fun acc n => acc ++ acc.map (· ++ [n])) acc ↔ ∃ A ∈ acc, ∃ S : List Str, S.Sublist ss ∧ T = A ++ S := by
  induction ss with
  | nil =>
    intro acc T
    constructor
    · exact fun h => ⟨T, h, [], List.Sublist.refl _, (List.append_nil _).symm⟩
    · rintro ⟨A, h, S, hs, rfl⟩
      rw [List.sublist_nil.mp hs, List.append_nil]
      exact h
  | cons n r ih =>
    intro acc T
    rw [List.foldl_cons, ih]
    constructor
    · rintro ⟨A, h, S, hs, rfl⟩
      rcases List.mem_append.mp h with h | h
      · exact ⟨A, h, S, hs.cons n, rfl⟩
      · obtain ⟨A', h', rfl⟩ := List.mem_map.mp h
        exact ⟨A', h', n :: S, hs.cons_cons n, by rw [List.append_assoc]; rfl⟩
    · rintro ⟨A, h, S, hs, rfl⟩
      cases hs with
      | cons _ hs => exact ⟨A, List.mem_append_left _ h, S, hs, rfl⟩
      | cons_cons _ hs => exact ⟨A ++ [n], List.mem_append_right _ (List.mem_map.mpr ⟨A, h, rfl⟩), _, hs, by rw [List.append_assoc]; rfl⟩
theorem powE_mem {ss T : List Str} : T ∈ powE ss ↔ T.Sublist ss := by
  unfold powE
  rw [pow_mem]
  constructor
  · rintro ⟨A, h, S, hs, rfl⟩
    rw [List.mem_singleton.mp h]
    exact hs
  · exact fun h => ⟨[], List.mem_singleton.mpr rfl, T, h, rfl⟩
theorem pow_len (ss : List Str) : ∀ acc : List (List Str), (ss.foldl (fun acc n => acc ++ acc.map (· ++ [n])) acc).length = acc.length * 2 ^ ss.length := by
  induction ss with
  | nil => intro acc; simp
  | cons n r ih =>
    intro acc
    rw [List.foldl_cons, ih, List.length_append, List.length_map, List.length_cons, Nat.pow_succ]
    rw [← Nat.two_mul, Nat.mul_comm 2, Nat.mul_assoc, Nat.mul_comm 2]
theorem powE_len (ss : List Str) : (powE ss).length = 2 ^ ss.length := by
  unfold powE
  rw [pow_len]
  simp
theorem powE_small {ss : List Str} (h : ss.length ≤ 5) : (powE ss).length ≤ 32 := by
  rw [powE_len]
  exact Nat.pow_le_pow_right (by decide) h
/-! ### keys -/
theorem keyIn_iff {acc : List Str} {k x : Str} : x ∈ keyIn acc k ↔ x ∈ acc ∨ x = k := by
  unfold keyIn
  split
  · rename_i h
    exact ⟨.inl, fun z => z.elim id fun e => by rw [e]; exact h⟩
  · rw [List.mem_append, List.mem_singleton]
theorem keyIn_nd {acc : List Str} {k : Str} (h : acc.Nodup) : (keyIn acc k).Nodup := by
  unfold keyIn
  split
  · exact h
  · rename_i n
    rw [List.nodup_append]
    exact ⟨h, List.nodup_cons.mpr ⟨(fun z => nomatch z), List.nodup_nil⟩, fun a ha b hb => by
      rw [List.mem_singleton.mp hb]
      intro e
      exact n (by rw [← e]; exact ha)⟩
theorem keyIn_le (acc : List Str) (k : Str) : (keyIn acc k).length ≤ acc.length + 1 := by
  unfold keyIn
  split
  · omega
  · rw [List.length_append, List.length_singleton]; omega
theorem keys_of (gs : List Str) : ∀ acc : List Str, acc.Nodup → ∃ ks, uniqK (gs.map fun g => .tuple [.str g, .bool true]) acc = some ks ∧ ks.Nodup ∧ ks.length ≤ acc.length + gs.length ∧ ∀ x, x ∈ ks ↔ x ∈ acc ∨ x ∈ gs := by
  induction gs with
  | nil => exact fun acc nd => ⟨acc, rfl, nd, Nat.le_refl _, fun x => by simp⟩
  | cons s r ih =>
    intro acc nd
    obtain ⟨ks, h1, h2, h3, h4⟩ := ih (keyIn acc s) (keyIn_nd nd)
    refine ⟨ks, h1, h2, ?_, fun x => ?_⟩
    · have := keyIn_le acc s
      rw [List.length_cons]
      omega
    · rw [h4 x, keyIn_iff, List.mem_cons, or_assoc]
/-! ### states -/
structure StE (sv cl E : List Str) (D : List (Str × Str)) : Prop where
  asc : Asc E
  m : ∀ s ∈ E, s ∈ sv ∨ s ∈ cl
  dm : ∀ d ∈ D, (d.1 ∈ sv ∨ d.1 ∈ cl) ∧ (d.2 ∈ sv ∨ d.2 ∈ cl)
  dl : D.length ≤ 28
section
variable {m : Nat} {p : Int} {sv cl : List Str} {ob ft : List (List Str)} {E : List Str} {D : List (Str × Str)}
theorem CfgE.s8 (h : CfgE m p sv cl ob ft) : S8 sv := fun s hs => (h.nsv s hs).sht.mono (by omega)
theorem CfgE.c8 (h : CfgE m p sv cl ob ft) : S8 cl := fun s hs => (h.ncl s hs).sht.mono (by omega)
theorem CfgE.f8 (h : CfgE m p sv cl ob ft) : ∀ f ∈ ft, S8 f := fun f hf s hs => h.s8 s ((h.sf.sub f hf).subset hs)
theorem CfgE.both (h : CfgE m p sv cl ob ft) {s : Str} (k : s ∈ sv ∨ s ∈ cl) : Sht 8 s := k.elim (h.s8 s) (h.c8 s)
theorem StE.e8 (h : CfgE m p sv cl ob ft) (k : StE sv cl E D) : S8 E := fun s hs => h.both (k.m s hs)
theorem StE.d8 (h : CfgE m p sv cl ob ft) (k : StE sv cl E D) : SD D := fun d hd => ⟨h.both (k.dm d hd).1, h.both (k.dm d hd).2⟩
theorem StE.el (h : CfgE m p sv cl ob ft) (k : StE sv cl E D) : E.length ≤ 8 := by
  have := nodup_len (m := sv ++ cl) k.asc.nd fun s hs => List.mem_append.mpr (k.m s hs)
  rw [List.length_append] at this
  have := h.lsv.2
  have := h.lcl.2
  omega
theorem StE.es (h : CfgE m p sv cl ob ft) (k : StE sv cl E D) : (E ++ sv).length < 64 := by
  have := k.el h
  have := h.lsv.2
  rw [List.length_append]
  omega
end
end G9

/-! Q8: sorted pairs; states that explain alike. -/
namespace G9
open PySem PySem.Spec L2 PyProof.Rows
theorem cNe2 {a b : PyData} {Q : Bool → Prop} {d : Nat} (ha : Lay a d) (hb : Lay b d) (hd : d ≤ 60) (e : a = b) (h : Q false) : cmS .ne a b Q := by
  refine ⟨.inl ⟨ha.sh (by omega), hb.sh (by omega)⟩, ?_⟩
  rw [e, SeqAt.eqv_refl b hb.cl]
  exact h
theorem cEq2 {a b : PyData} {Q : Bool → Prop} {d : Nat} (ha : Lay a d) (hb : Lay b d) (hd : d ≤ 60) (e : a = b) (h : Q true) : cmS .eq a b Q := by
  refine ⟨.inl ⟨ha.sh (by omega), hb.sh (by omega)⟩, ?_⟩
  rw [e, SeqAt.eqv_refl b hb.cl]
  exact h
theorem perm_two {a b : Str} {ms : List Str} (pm : ms.Perm [a, b]) : ∃ x y, ms = [x, y] ∧ (x = a ∧ y = b ∨ x = b ∧ y = a) := by
  have hl := pm.length_eq
  match ms, hl with
  | [x, y], _ =>
    refine ⟨x, y, rfl, ?_⟩
    have hx : x ∈ [a, b] := pm.mem_iff.mp List.mem_cons_self
    simp only [List.mem_cons, List.not_mem_nil, or_false] at hx
    rcases hx with rfl | rfl
    · have := List.Perm.cons_inv pm
      exact .inl ⟨rfl, by have := this.mem_iff.mp (List.mem_singleton.mpr rfl); exact List.mem_singleton.mp this⟩
    · have := List.Perm.cons_inv (pm.trans (List.Perm.swap _ _ _))
      exact .inr ⟨rfl, by have := this.mem_iff.mp (List.mem_singleton.mpr rfl); exact List.mem_singleton.mp this⟩
/-- the one, or the other way round -/
def Un (d : Str × Str) (a b : Str) : Prop := d = (a, b) ∨ d = (b, a)
theorem two_sorted {a b : Str} {Q : PyData → Bool → Prop} (h : ∀ d : Str × Str, Un d a b → Q (.list [.str d.1, .str d.2]) true) : biS .sorted (.list [.str a, .str b]) Q := by
  refine ⟨by show 2 < 64; omega, .inr (.inl ⟨[a, b], rfl, fun ms pm so => ?_⟩)⟩
  obtain ⟨x, y, rfl, h1 | h1⟩ := perm_two pm
  · obtain ⟨rfl, rfl⟩ := h1
    exact h (x, y) (.inl rfl)
  · obtain ⟨rfl, rfl⟩ := h1
    exact h (x, y) (.inr rfl)
theorem pairs_sorted {D : List (Str × Str)} {Q : PyData → Bool → Prop} (hl : D.length < 64) (h : ∀ D' : List (Str × Str), D'.Perm D → (D'.map fun d => [d.1, d.2]).Pairwise (fun a b => ltSS b a = false) → Q (.list (D'.map twS)) true) : biS .sorted (.list (D.map twS)) Q := by
  have e : ∀ D : List (Str × Str), D.map twS = (D.map fun d => [d.1, d.2]).map tupS := fun D => by rw [List.map_map]; rfl
  refine ⟨by rw [List.length_map]; exact hl, .inr (.inr ⟨D.map fun d => [d.1, d.2], by rw [e]; exact tupsD_of _, fun mss pm pw => ?_⟩)⟩
  have e2 : (mss.map fun l => (l.getD 0 "", l.getD 1 "")).map (fun d : Str × Str => [d.1, d.2]) = mss := by
    rw [List.map_map]
    refine (List.map_congr_left fun l hl => ?_).trans (List.map_id mss)
    obtain ⟨d, _, rfl⟩ := List.mem_map.mp (pm.mem_iff.mp hl)
    rfl
  have p2 : (mss.map fun l => (l.getD 0 "", l.getD 1 "")).Perm D := by
    have := pm.map fun l : List Str => (l.getD 0 "", l.getD 1 "")
    rw [List.map_map] at this
    exact this.trans (List.Perm.of_eq (by
      refine (List.map_congr_left fun d _ => ?_).trans (List.map_id D)
      rfl))
  have := h _ p2 (by rw [e2]; exact pw)
  rw [e, e2] at this
  exact this
theorem sub_pairs {acc : List PyData} {D : List (Str × Str)} (h : acc.Sublist (D.map twS)) : ∃ D' : List (Str × Str), D'.Sublist D ∧ acc = D'.map twS := by
  obtain ⟨l, h1, h2⟩ := List.sublist_map_iff.mp h
  exact ⟨l, h1, h2⟩
theorem Lay.pairs {D : List (Str × Str)} (h : SD D) : Lay (.tuple (D.map twS)) 2 ∧ Lay (.list (D.map twS)) 2 := by
  have z : ∀ x ∈ D.map twS, Lay x 1 := fun x hx => by
    obtain ⟨d, hd, rfl⟩ := List.mem_map.mp hx
    refine Lay.names (n := 8) (fun s hs => ?_) (by omega)
    simp only [List.mem_cons, List.not_mem_nil, or_false] at hs
    rcases hs with rfl | rfl
    · exact (h d hd).1
    · exact (h d hd).2
  exact ⟨Lay.tup z, Lay.lst z⟩
theorem inD_pair (d : Str × Str) (D : List (Str × Str)) : inD (twS d) (D.map twS) = decide (d ∈ D) := by
  have e : D.map twS = (D.map fun d => [d.1, d.2]).map tupS := by rw [List.map_map]; rfl
  rw [e]
  show inD (tupS [d.1, d.2]) _ = _
  rw [inD_tup]
  congr 1
  rw [List.mem_map]
  refine propext ⟨?_, fun h => ⟨d, h, rfl⟩⟩
  rintro ⟨c, hc, e⟩
  have e1 : c.1 = d.1 := List.head_eq_of_cons_eq e
  have e2 : c.2 = d.2 := List.head_eq_of_cons_eq (List.tail_eq_of_cons_eq e)
  have : c = d := Prod.ext e1 e2
  rw [← this]; exact hc
/-! ### alike -/
def ExEq (sv E : List Str) (D : List (Str × Str)) (E' : List Str) (D' : List (Str × Str)) : Prop := ∀ T, explB sv E D T = explB sv E' D' T
theorem ExEq.of {sv E : List Str} {D : List (Str × Str)} {E' : List Str} {D' : List (Str × Str)}
    (h : ∀ T : List Str, ((∀ s ∈ E, s ∈ sv → s ∈ T) ∧ ∀ d ∈ D, d.1 ∈ sv → d.2 ∈ sv → d.1 ∈ T ∨ d.2 ∈ T) ↔ ((∀ s ∈ E', s ∈ sv → s ∈ T) ∧ ∀ d ∈ D', d.1 ∈ sv → d.2 ∈ sv → d.1 ∈ T ∨ d.2 ∈ T)) : ExEq sv E D E' D' := fun T => by
  rw [Bool.eq_iff_iff, explB_iff, explB_iff]
  exact h T
theorem ExEq.cert {sv E : List Str} {D : List (Str × Str)} {E' : List Str} {D' : List (Str × Str)} (h : ExEq sv E D E' D') (ft : List (List Str)) (s : Str) : certB sv ft E D s = certB sv ft E' D' s := by
  unfold certB
  rw [show explB sv E D = explB sv E' D' from funext h]
theorem Idf.ex {sv E : List Str} {D : List (Str × Str)} {E' : List Str} {D' : List (Str × Str)} {ft : List (List Str)} {ms : List Str} (k : Idf sv ft E D ms) (h : ExEq sv E D E' D') (e : ∀ s, s ∈ E ↔ s ∈ E') : Idf sv ft E' D' ms :=
  ⟨k.1, fun s => by rw [k.2 s, h.cert ft s, e s]⟩
theorem ExEq.perm {sv E : List Str} {D : List (Str × Str)} {E' : List Str} {D' : List (Str × Str)} (h : ∀ d, d ∈ D ↔ d ∈ D') (e : ∀ s, s ∈ E ↔ s ∈ E') : ExEq sv E D E' D' :=
  ExEq.of fun T => ⟨fun ⟨a, b⟩ => ⟨fun s hs => a s ((e s).mpr hs), fun d hd => b d ((h d).mpr hd)⟩, fun ⟨a, b⟩ => ⟨fun s hs => a s ((e s).mp hs), fun d hd => b d ((h d).mp hd)⟩⟩
section
variable {m : Nat} {p : Int} {sv cl : List Str} {ob ft : List (List Str)} {E : List Str} {D : List (Str × Str)}
theorem Idf.s8 {ms : List Str} (C : CfgE m p sv cl ob ft) (hE : S8 E) (h : Idf sv ft E D ms) : S8 ms := fun s hs => ((h.2 s).mp hs).elim (hE s) fun k => C.s8 s k.1
theorem Idf.len {ms : List Str} (C : CfgE m p sv cl ob ft) (h : Idf sv ft E D ms) : ms.length ≤ E.length + 5 := by
  have := nodup_len (m := E ++ sv) h.1.nd fun s hs => List.mem_append.mpr (((h.2 s).mp hs).imp id fun k => k.1)
  rw [List.length_append] at this
  have := C.lsv.2
  omega
end
end G9

namespace G9
open PySem PySem.Spec L2 PyProof.Rows
def exN : List Str := ["NoCorrectValue", "InvalidScheme", "InvalidFaulty", "InvalidRandomness", "InvalidText", "InvalidLog", "Conflict", "InvalidValue", "InvalidName", "InvalidOverrides", "RandomnessExhausted", "InvalidObservers", "NotEquivalent", "NotFound", "UnknownKey", "UnknownClient", "UnknownServer", "UnknownParty"]
def exF : List (Str × Str) := [("Conflict", "sets"), ("InvalidValue", "value"), ("InvalidName", "value"), ("InvalidOverrides", "value"), ("RandomnessExhausted", "party"), ("InvalidObservers", "value"), ("NotEquivalent", "operation"), ("NotFound", "name"), ("UnknownKey", "name"), ("UnknownClient", "name"), ("UnknownServer", "name"), ("UnknownParty", "name")]
def exD : List Str := ["NoCorrectValue", "InvalidScheme", "InvalidFaulty", "InvalidRandomness", "InvalidText", "InvalidLog", "Conflict", "InvalidValue", "InvalidName", "InvalidOverrides", "RandomnessExhausted", "InvalidObservers", "NotEquivalent", "NotFound", "UnknownKey", "UnknownClient", "UnknownServer", "UnknownParty", "LotkeptError", "ValueError", "KeyError"]
def subT (D nm : Str) : Bool := if D = "LotkeptError" ∨ D = "ValueError" then decide (nm ∈ exN.take 13) else if D = "KeyError" then decide (nm ∈ exN.drop 13) else decide (nm = D) || (decide (D = "NotFound") && decide (nm ∈ exN.drop 13))
def posL (x : PyData) : List OR := [excR "NoCorrectValue" none, excR "InvalidScheme" none, excR "InvalidFaulty" none, excR "InvalidRandomness" none, excR "InvalidText" none, excR "InvalidLog" none, excR "Conflict" (some ("sets", x)), excR "InvalidValue" (some ("value", x)), excR "InvalidName" (some ("value", x)), excR "InvalidOverrides" (some ("value", x)), excR "RandomnessExhausted" (some ("party", x)), excR "InvalidObservers" (some ("value", x)), excR "NotEquivalent" (some ("operation", x)), excR "NotFound" (some ("name", x)), excR "UnknownKey" (some ("name", x)), excR "UnknownClient" (some ("name", x)), excR "UnknownServer" (some ("name", x)), excR "UnknownParty" (some ("name", x))]
def namL (x : PyData) : List OR := [excR "Conflict" (some ("sets", x)), excR "InvalidValue" (some ("value", x)), excR "InvalidName" (some ("value", x)), excR "InvalidOverrides" (some ("value", x)), excR "RandomnessExhausted" (some ("party", x)), excR "InvalidObservers" (some ("value", x)), excR "NotEquivalent" (some ("operation", x)), excR "NotFound" (some ("name", x)), excR "UnknownKey" (some ("name", x)), excR "UnknownClient" (some ("name", x)), excR "UnknownServer" (some ("name", x)), excR "UnknownParty" (some ("name", x))]
theorem le_sz {n : Nat} (h : n ≤ 100) : n ≤ sizeLine := by rw [sizeLine_eq]; omega
abbrev ble {n m : Nat} (h : Nat.ble n m = true) : n ≤ m := Nat.le_of_ble_eq_true h
def insB (nm : Str) : List Bool := exD.map fun D => subT D nm
def expB (k : Nat) : List Bool := ((List.range 18).map fun n => decide (n = k) || (decide (n = 13) && decide (13 < k))) ++ [decide (k < 13), decide (k < 13), decide (12 < k)]
theorem ins_exp : ∀ k, k < 18 → ∃ nm, exN[k]? = some nm ∧ insB nm = expB k := by
  have h : (List.range 18).all (fun k => match exN[k]? with
    | some nm => decide (insB nm = expB k)
    | none => false) = true := by decide +kernel
  intro k hk
  have z := List.all_eq_true.mp h k (List.mem_range.mpr hk)
  cases e : exN[k]? with
  | none => rw [e] at z; cases z
  | some nm => rw [e] at z; exact ⟨nm, rfl, of_decide_eq_true z⟩
theorem Lay.bools (bs : List Bool) : Lay (.list (bs.map .bool)) 1 := Lay.lst (d := 0) fun x hx => by
  obtain ⟨b, _, rfl⟩ := List.mem_map.mp hx
  exact ⟨rfl, Nat.le_refl _⟩

/-! ### _law_source -/
abbrev P_law_source : List Str := ["_law_script"]

/-! ### _law_draw -/
abbrev P_law_draw : List Str := ["_law_source_here", "_law_limit"]
def sp_law_draw : FSpec := ⟨1, fun us P _ => ∃ n : Int, us = [.deck, .d (.int n)] ∧ 0 < n ∧ n < 10000000000000000000000000000000000000000 ∧ ∀ d : Int, 0 ≤ d → d < n → P (.d (.int d)) false⟩

/-! ### _law_pick -/
abbrev P_law_pick : List Str := ["_law_source_here", "_law_options"]
def N_law_pick : List Str := ["_law_source_here", "_law_options"]
def d_law_pick : DS := sRet (dIdx (oSlot 1) (oE (dCall sp_law_draw (aLen 2 (aCons (dVar 0) (aCons (dBif .len (oSlot 1)) (aNil)))))))
def sp_law_pick : FSpec := ⟨d_law_pick.m, fun us P _ => (∃ s : Str, us = [.deck, .d (.str s)] ∧ 0 < s.length ∧ s.length ≤ sizeLine ∧ ∀ c ∈ s.cps.toList, P (.d (sgn c)) false) ∨ (∃ xs, (us = [.deck, .d (.list xs)] ∨ us = [.deck, .d (.tuple xs)]) ∧ 0 < xs.length ∧ xs.length ≤ sizeLine ∧ ∀ y ∈ xs, P (.d y) false)⟩
theorem law_law_pick : ∀ us P R, us.length = P_law_pick.length → sp_law_pick.f us P R → d_law_pick.f (startE N_law_pick us) (dk P R) := by
  have sz : sizeLine < 10000000000000000000000000000000000000000 := by rw [sizeLine_eq]; omega
  rintro us P R - (⟨s, rfl, h0, h1, q⟩ | ⟨xs, rfl | rfl, h0, h1, q⟩)
  · refine ⟨_, rfl, _, rfl, _, rfl, h1, rfl, _, rfl, by omega, by omega, fun d d0 d1 => ?_⟩
    obtain ⟨c, hc, hm⟩ := atI_some (xs := s.cps.toList) d0 (by rw [Array.length_toList]; exact d1)
    exact ⟨_, _, rfl, rfl, h1, c, hc, q c hm⟩
  · refine ⟨_, rfl, _, rfl, _, rfl, rfl, _, rfl, by omega, by omega, fun d d0 d1 => ?_⟩
    obtain ⟨c, hc, hm⟩ := atI_some d0 d1
    exact ⟨_, _, rfl, rfl, c, hc, q c hm⟩
  · refine ⟨_, rfl, _, rfl, _, rfl, rfl, _, rfl, by omega, by omega, fun d d0 d1 => ?_⟩
    obtain ⟨c, hc, hm⟩ := atI_some d0 d1
    exact ⟨_, _, rfl, rfl, c, hc, q c hm⟩

/-! ### _law_thing -/
abbrev P_law_thing : List Str := ["_law_source_here"]
def N_law_thing : List Str := ["_law_source_here", "_law_word", "_law_number", "_law_some", "_law_n"]
def d_law_thing : DS := sSeq (sSet 1 (dMth .join (oE (dCon (.str ""))) (aCons (dLc [4] [4] false (wRng1 (dCall sp_law_draw (aLen 2 (aCons (dVar 0) (aCons (dCon (.int 6)) (aNil)))))) (kTrue) (dCall sp_law_pick (aLen 2 (aCons (dVar 0) (aCons (dCon (.str " az09-/~\n")) (aNil)))))) (aNil)))) (sSeq (sSet 2 (dBin .sub (oE (dCall sp_law_draw (aLen 2 (aCons (dVar 0) (aCons (dBin .pow (oE (dCon (.int 10))) (oE (dCon (.int 39)))) (aNil)))))) (oE (dBin .pow (oE (dCon (.int 10))) (oE (dCon (.int 38))))))) (sSeq (sSet 3 (dLst (aCons (dVar 1) (aCons (dVar 2) (aCons (dCon (.bool true)) (aCons (dCon (.bool false)) (aCons (dCon .none) (aCons (dTup (aNil)) (aCons (dTup (aCons (dVar 1) (aCons (dVar 2) (aNil)))) (aCons (dLst (aCons (dVar 1) (aNil))) (aCons (dDictS "a" 2) (aCons (dCon (.int 0)) (aCons (dCon (.int 1)) (aCons (dTup (aCons (dTup (aCons (dCon (.str "a")) (aCons (dCon (.str "b")) (aNil)))) (aCons (dTup (aCons (dCon (.str "c")) (aNil))) (aNil)))) (aNil))))))))))))))) (sRet (dCall sp_law_pick (aLen 2 (aCons (dVar 0) (aCons (dVar 3) (aNil))))))))
def sp_law_thing : FSpec := ⟨d_law_thing.m, fun us P _ => us = [.deck] ∧ ∀ x, Ok x 3 3000 → P (.d x) false⟩
theorem sgn_lt : ∀ c ∈ (" az09-/~\n" : Str).cps.toList, c < 128 := by decide +kernel
theorem sgn_lt2 : ∀ c ∈ ("abc ~\n0" : Str).cps.toList, c < 128 := by decide +kernel
theorem opS_sub {i j : Int} {Q : PyData → Bool → Prop} (h : ∀ m, m = i - j → Q (.int m) false) : opS .sub (.int i) (.int j) Q := h _ rfl
theorem law_law_thing : ∀ us P R, us.length = P_law_thing.length → sp_law_thing.f us P R → d_law_thing.f (startE N_law_thing us) (dk P R) := by
  have sz : sizeLine = 16777216 := sizeLine_eq
  have l9 : (" az09-/~\n" : Str).length = 9 := by decide +kernel
  rintro us P R - ⟨rfl, q⟩
  refine ⟨⟨_, rfl⟩, rfl, 6, rfl, by decide, by decide, fun k k0 k1 => ⟨_, rfl, by omega, by omega, ?_⟩⟩
  obtain ⟨k, rfl⟩ := Int.eq_ofNat_of_zero_le k0
  refine lcL_inv (fun j acc ρ => (∃ cs : List Nat, acc = cs.map sgn ∧ cs.length = j ∧ ∀ c ∈ cs, c < 128) ∧ ∃ o, ρ = [some ⟨false, .deck⟩, none, none, none, o]) ⟨⟨[], rfl, rfl, fun _ h => nomatch h⟩, _, rfl⟩ ?_ ?_
  · rintro j x hx acc ρ k ⟨⟨cs, rfl, hc, hb⟩, o, rfl⟩ hk -
    refine ⟨rfl, .inl ⟨_, rfl, by omega, by omega, fun c hm => ⟨_, rfl, hk _ _ ⟨⟨cs ++ [c], by rw [List.map_append]; rfl, by rw [List.length_append, List.length_singleton]; omega, fun c' h' => ?_⟩, _, rfl⟩⟩⟩⟩
    rcases List.mem_append.mp h' with h' | h'
    · exact hb c' h'
    · rw [List.mem_singleton.mp h']; exact sgn_lt c hm
  rintro acc ρ' ⟨⟨cs, rfl, hc, hb⟩, o, rfl⟩
  rw [range_len] at hc
  have e : cs.map sgn = (cs.map fun c => (⟨#[c]⟩ : Str)).map .str := by rw [List.map_map]; rfl
  have e1 : ∀ cs : List Nat, ((cs.map fun c => (⟨#[c]⟩ : Str)).map Str.length).sum = cs.length := fun cs => by
    induction cs with
    | nil => rfl
    | cons c r ih => rw [List.map_cons, List.map_cons, List.sum_cons, ih, List.length_cons]; show 1 + r.length = _; omega
  have ej := join_signs cs
  refine ⟨_, rfl, _, _, rfl, by rw [e]; exact strsD_of _, ?_, ?_⟩
  · rw [e1, List.length_map]
    show cs.length + cs.length * 0 ≤ _
    omega
  have hw : (Txt.join "" (cs.map fun c => (⟨#[c]⟩ : Str))).length ≤ 5 := by
    show (Txt.join "" (cs.map fun c => (⟨#[c]⟩ : Str))).cps.size ≤ 5
    rw [← Array.length_toList, ej]
    omega
  have hl : ∀ c ∈ (Txt.join "" (cs.map fun c => (⟨#[c]⟩ : Str))).cps.toList, c < 128 := fun c h => by rw [ej] at h; exact hb c h
  generalize Txt.join "" (cs.map fun c => (⟨#[c]⟩ : Str)) = w at hw hl
  have ow : Ok (.str w) 0 150 := Ok.str hl (by omega)
  refine ⟨_, _, rfl, rfl, ⟨by decide, by decide, by decide⟩, rfl, _, rfl, by decide +kernel, by decide +kernel, fun n n0 n1 => ⟨_, _, rfl, rfl, ⟨by decide, by decide, by decide⟩, _, _, rfl, rfl, ?_⟩⟩
  have e38 : (10 : Int) ^ (38 : Int).toNat = 100000000000000000000000000000000000000 := by decide +kernel
  have e39 : (10 : Int) ^ (39 : Int).toNat = 1000000000000000000000000000000000000000 := by decide +kernel
  rw [e39] at n1
  refine opS_sub fun m hm => ?_
  rw [e38] at hm
  have on : Ok (.int m) 0 150 := by
    refine Ok.big ?_
    have e44 : (10 : Nat) ^ 44 = 100000000000000000000000000000000000000000000 := by decide +kernel
    omega
  clear hm
  refine ⟨_, rfl, le_sz (ble rfl), _, rfl, le_sz (ble rfl), _, rfl, le_sz (ble rfl), _, rfl, _, rfl, le_sz (ble rfl), _, rfl, le_sz (ble rfl), _, rfl, le_sz (ble rfl), _, rfl, le_sz (ble rfl), rfl, .inr ⟨_, .inl rfl, ble (n := 1) rfl, le_sz (ble rfl), fun y hy => q y ?_⟩⟩
  have two : ∀ {x y : PyData}, Ok x 0 150 → Ok y 0 150 → ∀ z ∈ [x, y], Ok z 0 150 := fun h1 h2 z hz => by
    simp only [List.mem_cons, List.not_mem_nil, or_false] at hz
    rcases hz with rfl | rfl <;> assumption
  simp only [List.mem_cons, List.not_mem_nil, or_false] at hy
  rcases hy with rfl | rfl | rfl | rfl | rfl | rfl | rfl | rfl | rfl | rfl | rfl | rfl
  · exact ow.mono (by decide) (by decide)
  · exact on.mono (by decide) (by decide)
  · exact ⟨rfl, rfl, by decide, by decide⟩
  · exact ⟨rfl, rfl, by decide, by decide⟩
  · exact ⟨rfl, rfl, by decide, by decide⟩
  · exact ⟨rfl, rfl, by decide, by decide⟩
  · exact (Ok.tup (two ow on) (Nat.le_refl 2)).mono (by decide) (by decide)
  · exact (Ok.lst (xs := [.str w]) (n := 1) (fun z hz => by rw [List.mem_singleton.mp hz]; exact ow) (Nat.le_refl 1)).mono (by decide) (by decide)
  · refine ⟨?_, ?_, ?_, ?_⟩
    · have h := on.sh
      simp only [PyData.showable, PyData.showableKv] at h ⊢
      rw [h]
      rfl
    · have h := on.lv
      simp only [PyData.leavesShort, PyData.leavesShortKv] at h ⊢
      rw [h]
      decide +kernel
    · have := on.dp
      simp only [PyData.depth, PyData.depthKv]
      omega
    · have := on.wt
      have e : (PyData.str "a").weight = 1 := by decide +kernel
      simp only [PyData.weight, PyData.weightKv] at e this ⊢
      omega
  · exact ⟨by decide +kernel, by decide +kernel, by decide +kernel, by decide +kernel⟩
  · exact ⟨by decide +kernel, by decide +kernel, by decide +kernel, by decide +kernel⟩
  · exact ⟨by decide +kernel, by decide +kernel, by decide +kernel, by decide +kernel⟩

/-! ### _law_by_position -/
abbrev P_law_by_position : List Str := ["_law_one", "_law_text"]
def N_law_by_position : List Str := ["_law_one", "_law_text", "_law_found"]
def d_law_by_position : DS := sSeq (sSet 2 (dLstO (aCons (dMk0 "NoCorrectValue" (dVar 1)) (aCons (dMk0 "InvalidScheme" (dVar 1)) (aCons (dMk0 "InvalidFaulty" (dVar 1)) (aCons (dMk0 "InvalidRandomness" (dVar 1)) (aCons (dMk0 "InvalidText" (dVar 1)) (aNil)))))))) (sSeq (sSet 2 (dAddO (oSlot 2) (oE (dLstO (aCons (dMk0 "InvalidLog" (dVar 1)) (aCons (dMkx "Conflict" "sets" (dVar 0)) (aCons (dMkx "InvalidValue" "value" (dVar 0)) (aCons (dMkx "InvalidName" "value" (dVar 0)) (aCons (dMkx "InvalidOverrides" "value" (dVar 0)) (aNil)))))))))) (sSeq (sSet 2 (dAddO (oSlot 2) (oE (dLstO (aCons (dMkx "RandomnessExhausted" "party" (dVar 0)) (aCons (dMkx "InvalidObservers" "value" (dVar 0)) (aCons (dMkx "NotEquivalent" "operation" (dVar 0)) (aCons (dMkx "NotFound" "name" (dVar 0)) (aNil))))))))) (sRet (dAddO (oSlot 2) (oE (dLstO (aCons (dMkx "UnknownKey" "name" (dVar 0)) (aCons (dMkx "UnknownClient" "name" (dVar 0)) (aCons (dMkx "UnknownServer" "name" (dVar 0)) (aCons (dMkx "UnknownParty" "name" (dVar 0)) (aNil)))))))))))
def sp_law_by_position : FSpec := ⟨d_law_by_position.m, fun us P _ => ∃ (x : PyData) (t : Str), us = [.d x, .d (.str t)] ∧ P (.ob (lstR (posL x))) false⟩
theorem law_law_by_position : ∀ us P R, us.length = P_law_by_position.length → sp_law_by_position.f us P R → d_law_by_position.f (startE N_law_by_position us) (dk P R) := by
  rintro us P R - ⟨x, t, rfl, q⟩
  exact ⟨_, rfl, le_sz (ble rfl), _, rfl, _, rfl, _, rfl, _, rfl, _, rfl, _, rfl, le_sz (ble rfl), _, _, rfl, rfl, le_sz (ble rfl), _, rfl, _, rfl, _, rfl, _, rfl, _, rfl, _, rfl, le_sz (ble rfl), _, _, rfl, rfl, le_sz (ble rfl), _, rfl, _, rfl, _, rfl, _, rfl, _, rfl, _, rfl, le_sz (ble rfl), _, _, rfl, rfl, le_sz (ble rfl), q⟩

/-! ### _law_by_name -/
abbrev P_law_by_name : List Str := ["_law_one"]
def N_law_by_name : List Str := ["_law_one", "_law_found"]
def d_law_by_name : DS := sSeq (sSet 1 (dLstO (aCons (dMkx "Conflict" "sets" (dVar 0)) (aCons (dMkx "InvalidValue" "value" (dVar 0)) (aCons (dMkx "InvalidName" "value" (dVar 0)) (aCons (dMkx "InvalidOverrides" "value" (dVar 0)) (aNil))))))) (sSeq (sSet 1 (dAddO (oSlot 1) (oE (dLstO (aCons (dMkx "RandomnessExhausted" "party" (dVar 0)) (aCons (dMkx "InvalidObservers" "value" (dVar 0)) (aCons (dMkx "NotEquivalent" "operation" (dVar 0)) (aNil)))))))) (sSeq (sSet 1 (dAddO (oSlot 1) (oE (dLstO (aCons (dMkx "NotFound" "name" (dVar 0)) (aCons (dMkx "UnknownKey" "name" (dVar 0)) (aCons (dMkx "UnknownClient" "name" (dVar 0)) (aCons (dMkx "UnknownServer" "name" (dVar 0)) (aNil))))))))) (sRet (dAddO (oSlot 1) (oE (dLstO (aCons (dMkx "UnknownParty" "name" (dVar 0)) (aNil))))))))
def sp_law_by_name : FSpec := ⟨d_law_by_name.m, fun us P _ => ∃ (x : PyData), us = [.d x] ∧ P (.ob (lstR (namL x))) false⟩
theorem law_law_by_name : ∀ us P R, us.length = P_law_by_name.length → sp_law_by_name.f us P R → d_law_by_name.f (startE N_law_by_name us) (dk P R) := by
  rintro us P R - ⟨x, rfl, q⟩
  exact ⟨_, rfl, _, rfl, _, rfl, _, rfl, _, rfl, le_sz (ble rfl), _, rfl, _, rfl, _, rfl, _, rfl, _, rfl, le_sz (ble rfl), _, _, rfl, rfl, le_sz (ble rfl), _, rfl, _, rfl, _, rfl, _, rfl, _, rfl, _, rfl, le_sz (ble rfl), _, _, rfl, rfl, le_sz (ble rfl), _, rfl, _, rfl, _, rfl, le_sz (ble rfl), _, _, rfl, rfl, le_sz (ble rfl), q⟩

/-! ### _law_attributes -/
abbrev P_law_attributes : List Str := ["_law_errors"]
def N_law_attributes : List Str := ["_law_errors", "_law_found", "_law_e"]
def d_law_attributes : DS := sSeq (sSet 1 (dLst (aCons (dFld exF "sets" (dIdxO (oSlot 0) (oE (dCon (.int 0))))) (aCons (dFld exF "value" (dIdxO (oSlot 0) (oE (dCon (.int 1))))) (aCons (dFld exF "value" (dIdxO (oSlot 0) (oE (dCon (.int 2))))) (aCons (dFld exF "value" (dIdxO (oSlot 0) (oE (dCon (.int 3))))) (aCons (dFld exF "party" (dIdxO (oSlot 0) (oE (dCon (.int 4))))) (aCons (dFld exF "value" (dIdxO (oSlot 0) (oE (dCon (.int 5))))) (aNil))))))))) (sRet (dBin .add (oE (dBin .add (oSlot 1) (oE (dLst (aCons (dFld exF "operation" (dIdxO (oSlot 0) (oE (dCon (.int 6))))) (aNil)))))) (oE (dLcO [2] 2 (wO (dSliO (oSlot 0) (pE (dCon (.int 7))) (pNo))) (dFld exF "name" (dVar 2))))))
def sp_law_attributes : FSpec := ⟨d_law_attributes.m, fun us P _ => ∃ (x : PyData), us = [.ob (lstR (namL x))] ∧ P (.d (.list (List.replicate 12 x))) true⟩
theorem memF : (("Conflict" : Str), ("sets" : Str)) ∈ exF ∧ (("InvalidValue" : Str), ("value" : Str)) ∈ exF ∧ (("InvalidName" : Str), ("value" : Str)) ∈ exF ∧ (("InvalidOverrides" : Str), ("value" : Str)) ∈ exF ∧ (("RandomnessExhausted" : Str), ("party" : Str)) ∈ exF ∧ (("InvalidObservers" : Str), ("value" : Str)) ∈ exF ∧ (("NotEquivalent" : Str), ("operation" : Str)) ∈ exF ∧ (("NotFound" : Str), ("name" : Str)) ∈ exF ∧ (("UnknownKey" : Str), ("name" : Str)) ∈ exF ∧ (("UnknownClient" : Str), ("name" : Str)) ∈ exF ∧ (("UnknownServer" : Str), ("name" : Str)) ∈ exF ∧ (("UnknownParty" : Str), ("name" : Str)) ∈ exF := by decide +kernel
theorem nam_0 (x : PyData) : atI (namL x) 0 = some (excR "Conflict" (some ("sets", x))) := rfl
theorem nam_1 (x : PyData) : atI (namL x) 1 = some (excR "InvalidValue" (some ("value", x))) := rfl
theorem nam_2 (x : PyData) : atI (namL x) 2 = some (excR "InvalidName" (some ("value", x))) := rfl
theorem nam_3 (x : PyData) : atI (namL x) 3 = some (excR "InvalidOverrides" (some ("value", x))) := rfl
theorem nam_4 (x : PyData) : atI (namL x) 4 = some (excR "RandomnessExhausted" (some ("party", x))) := rfl
theorem nam_5 (x : PyData) : atI (namL x) 5 = some (excR "InvalidObservers" (some ("value", x))) := rfl
theorem nam_6 (x : PyData) : atI (namL x) 6 = some (excR "NotEquivalent" (some ("operation", x))) := rfl
theorem law_law_attributes : ∀ us P R, us.length = P_law_attributes.length → sp_law_attributes.f us P R → d_law_attributes.f (startE N_law_attributes us) (dk P R) := by
  rintro us P R - ⟨x, rfl, q⟩
  obtain ⟨m0, m1, m2, m3, m4, m5, m6, m7, m8, m9, m10, m11⟩ := memF
  refine ⟨_, rfl, namL x, 0, _, rfl, rfl, nam_0 x, "Conflict", x, rfl, m0, _, rfl, namL x, 1, _, rfl, rfl, nam_1 x, "InvalidValue", x, rfl, m1, _, rfl, namL x, 2, _, rfl, rfl, nam_2 x, "InvalidName", x, rfl, m2, _, rfl, namL x, 3, _, rfl, rfl, nam_3 x, "InvalidOverrides", x, rfl, m3, _, rfl, namL x, 4, _, rfl, rfl, nam_4 x, "RandomnessExhausted", x, rfl, m4, _, rfl, namL x, 5, _, rfl, rfl, nam_5 x, "InvalidObservers", x, rfl, m5, _, rfl, le_sz (ble rfl), ?_⟩
  refine ⟨_, rfl, _, rfl, namL x, 6, _, rfl, rfl, nam_6 x, "NotEquivalent", x, rfl, m6, _, rfl, le_sz (ble rfl), _, _, rfl, rfl, le_sz (ble rfl), _, rfl, _, rfl, namL x, rfl, ?_⟩
  refine ⟨[excR "NotFound" (some ("name", x)), excR "UnknownKey" (some ("name", x)), excR "UnknownClient" (some ("name", x)), excR "UnknownServer" (some ("name", x)), excR "UnknownParty" (some ("name", x))], rfl, le_sz (ble rfl), ?_⟩
  exact ⟨"NotFound", x, rfl, m7, _, rfl, "UnknownKey", x, rfl, m8, _, rfl, "UnknownClient", x, rfl, m9, _, rfl, "UnknownServer", x, rfl, m10, _, rfl, "UnknownParty", x, rfl, m11, _, rfl, _, _, rfl, rfl, le_sz (ble rfl), q⟩

/-! ### _law_instances -/
abbrev P_law_instances : List Str := ["_law_e"]
def N_law_instances : List Str := ["_law_e", "_law_found"]
def d_law_instances : DS := sSeq (sSet 1 (dLst (aCons (dIsO exN (subT "NoCorrectValue") (dVar 0)) (aCons (dIsO exN (subT "InvalidScheme") (dVar 0)) (aCons (dIsO exN (subT "InvalidFaulty") (dVar 0)) (aNil)))))) (sSeq (sSet 1 (dBin .add (oSlot 1) (oE (dLst (aCons (dIsO exN (subT "InvalidRandomness") (dVar 0)) (aCons (dIsO exN (subT "InvalidText") (dVar 0)) (aCons (dIsO exN (subT "InvalidLog") (dVar 0)) (aNil)))))))) (sSeq (sSet 1 (dBin .add (oSlot 1) (oE (dLst (aCons (dIsO exN (subT "Conflict") (dVar 0)) (aCons (dIsO exN (subT "InvalidValue") (dVar 0)) (aCons (dIsO exN (subT "InvalidName") (dVar 0)) (aNil)))))))) (sSeq (sSet 1 (dBin .add (oSlot 1) (oE (dLst (aCons (dIsO exN (subT "InvalidOverrides") (dVar 0)) (aCons (dIsO exN (subT "RandomnessExhausted") (dVar 0)) (aNil))))))) (sSeq (sSet 1 (dBin .add (oSlot 1) (oE (dLst (aCons (dIsO exN (subT "InvalidObservers") (dVar 0)) (aCons (dIsO exN (subT "NotEquivalent") (dVar 0)) (aCons (dIsO exN (subT "NotFound") (dVar 0)) (aNil)))))))) (sSeq (sSet 1 (dBin .add (oSlot 1) (oE (dLst (aCons (dIsO exN (subT "UnknownKey") (dVar 0)) (aCons (dIsO exN (subT "UnknownClient") (dVar 0)) (aCons (dIsO exN (subT "UnknownServer") (dVar 0)) (aNil)))))))) (sSeq (sSet 1 (dBin .add (oSlot 1) (oE (dLst (aCons (dIsO exN (subT "UnknownParty") (dVar 0)) (aCons (dIsO exN (subT "LotkeptError") (dVar 0)) (aCons (dIsO exN (subT "ValueError") (dVar 0)) (aNil)))))))) (sRet (dBin .add (oSlot 1) (oE (dLst (aCons (dIsO exN (subT "KeyError") (dVar 0)) (aNil))))))))))))
def sp_law_instances : FSpec := ⟨d_law_instances.m, fun us P _ => ∃ (nm : Str) (o : Option (Str × PyData)), us = [.ob (excR nm o)] ∧ nm ∈ exN ∧ P (.d (.list ((insB nm).map .bool))) true⟩
theorem law_law_instances : ∀ us P R, us.length = P_law_instances.length → sp_law_instances.f us P R → d_law_instances.f (startE N_law_instances us) (dk P R) := by
  rintro us P R - ⟨nm, o, rfl, hm, q⟩
  refine ⟨_, _, rfl, hm, _, _, rfl, hm, _, _, rfl, hm, _, rfl, le_sz (ble rfl), ?_⟩
  refine ⟨_, rfl, _, _, rfl, hm, _, _, rfl, hm, _, _, rfl, hm, _, rfl, le_sz (ble rfl), _, _, rfl, rfl, le_sz (ble rfl), ?_⟩
  refine ⟨_, rfl, _, _, rfl, hm, _, _, rfl, hm, _, _, rfl, hm, _, rfl, le_sz (ble rfl), _, _, rfl, rfl, le_sz (ble rfl), ?_⟩
  refine ⟨_, rfl, _, _, rfl, hm, _, _, rfl, hm, _, rfl, le_sz (ble rfl), _, _, rfl, rfl, le_sz (ble rfl), ?_⟩
  refine ⟨_, rfl, _, _, rfl, hm, _, _, rfl, hm, _, _, rfl, hm, _, rfl, le_sz (ble rfl), _, _, rfl, rfl, le_sz (ble rfl), ?_⟩
  refine ⟨_, rfl, _, _, rfl, hm, _, _, rfl, hm, _, _, rfl, hm, _, rfl, le_sz (ble rfl), _, _, rfl, rfl, le_sz (ble rfl), ?_⟩
  refine ⟨_, rfl, _, _, rfl, hm, _, _, rfl, hm, _, _, rfl, hm, _, rfl, le_sz (ble rfl), _, _, rfl, rfl, le_sz (ble rfl), ?_⟩
  exact ⟨_, rfl, _, _, rfl, hm, _, rfl, le_sz (ble rfl), _, _, rfl, rfl, le_sz (ble rfl), q⟩

/-! ### _law_expected -/
abbrev P_law_expected : List Str := ["_law_at"]
def N_law_expected : List Str := ["_law_at", "_law_found", "_law_n"]
def d_law_expected : DS := sSeq (sSet 1 (dLc [2] [2] false (wRng1 (dCon (.int 18))) (kTrue) (dOr (dCmp .eq (oSlot 2) (oSlot 0)) (dAnd (dCmp .eq (oSlot 2) (oE (dCon (.int 13)))) (dCmp .gt (oSlot 0) (oE (dCon (.int 13)))))))) (sRet (dBin .add (oSlot 1) (oE (dLst (aCons (dCmp .lt (oSlot 0) (oE (dCon (.int 13)))) (aCons (dCmp .lt (oSlot 0) (oE (dCon (.int 13)))) (aCons (dCmp .gt (oSlot 0) (oE (dCon (.int 12)))) (aNil))))))))
def gE (k : Nat) : PyData → PyData
  | .int n => .bool (decide (n = k) || (decide (n = 13) && decide (13 < (k : Int))))
  | _ => .none
def bE (k : Nat) : List Bool := (List.range 18).map fun (n : Nat) => decide ((0 + (n : Int)) = k) || (decide ((0 + (n : Int)) = 13) && decide (13 < (k : Int)))
theorem gE_map (k : Nat) : (rangeD 0 18).map (gE k) = (bE k).map .bool := by
  unfold rangeD bE
  rw [List.map_map, List.map_map]
  rfl
theorem bE_exp (k : Nat) (hk : k < 18) : bE k ++ [decide ((k : Int) < 13), decide ((k : Int) < 13), decide ((12 : Int) < k)] = expB k := by
  have h : (List.range 18).all (fun k => decide (bE k ++ [decide ((k : Int) < 13), decide ((k : Int) < 13), decide ((12 : Int) < k)] = expB k)) = true := by decide +kernel
  exact of_decide_eq_true (List.all_eq_true.mp h k (List.mem_range.mpr hk))
def sp_law_expected : FSpec := ⟨d_law_expected.m, fun us P _ => ∃ k : Nat, us = [.d (.int k)] ∧ k < 18 ∧ P (.d (.list ((expB k).map .bool))) true⟩
theorem law_law_expected : ∀ us P R, us.length = P_law_expected.length → sp_law_expected.f us P R → d_law_expected.f (startE N_law_expected us) (dk P R) := by
  rintro us P R - ⟨k, rfl, hk, q⟩
  refine ⟨_, rfl, by decide, by decide, lcL_map (gE k) (fun ρ => ∃ o, ρ = [some ⟨false, .d (.int k)⟩, none, o]) ⟨_, rfl⟩ ?_ ?_⟩
  · rintro x hx ρ kk ⟨o, rfl⟩ hk2
    obtain ⟨n, rfl, n0, n1⟩ := mem_range hx
    have hk2 : ∀ ρ', _ → kk (some (.bool (decide (n = k) || (decide (n = 13) && decide (13 < (k : Int)))))) ρ' := hk2
    refine ⟨_, rfl, _, rfl, _, _, rfl, rfl, cEq (fun h => ⟨true, rfl, ?_⟩) fun h => ⟨false, rfl, ?_⟩⟩
    · rw [decide_eq_true h, Bool.true_or] at hk2
      exact ⟨_, rfl, hk2 _ ⟨_, rfl⟩⟩
    · rw [decide_eq_false h, Bool.false_or] at hk2
      refine ⟨_, rfl, _, _, rfl, rfl, cEq (fun h => ⟨true, rfl, ?_⟩) fun h => ⟨false, rfl, ?_⟩⟩
      · rw [decide_eq_true h, Bool.true_and] at hk2
        exact ⟨_, rfl, _, _, rfl, rfl, _, rfl, hk2 _ ⟨_, rfl⟩⟩
      · rw [decide_eq_false h, Bool.false_and] at hk2
        exact ⟨_, rfl, hk2 _ ⟨_, rfl⟩⟩
  · rintro ρ' ⟨o, rfl⟩
    rw [gE_map]
    refine ⟨_, rfl, _, rfl, _, _, rfl, rfl, _, rfl, _, _, rfl, rfl, _, rfl, _, _, rfl, rfl, _, rfl, le_sz (ble rfl), _, _, rfl, rfl, ?_, ?_⟩
    · rw [List.length_map]
      exact le_sz (ble rfl)
    have e : (bE k).map PyData.bool ++ [.bool (decide ((k : Int) < 13)), .bool (decide ((k : Int) < 13)), .bool (decide ((12 : Int) < k))] = (expB k).map .bool := by
      rw [← bE_exp k hk, List.map_append]
      rfl
    rw [← e] at q
    exact q

/-! ### _law_caught -/
abbrev P_law_caught : List Str := ["_law_one", "_law_text"]
def N_law_caught : List Str := ["_law_one", "_law_text", "_law_found", "_law_e"]
def su_x (nm f : Str) (a d : Addr) : DS := sDrop (dMth .append (oSlot 2) (aCons (dIte (kE (dCaI a (some d) (dVar 3))) (dCaF a d f (dVar 3)) (dCon (.str "odd"))) aNil))
def su_0 (a : Addr) : DS := sDrop (dMth .append (oSlot 2) (aCons (dCaI a none (dVar 3)) aNil))
def su_k : DS := sDrop (dMth .append (oSlot 2) (aCons (dCon (.str "key")) aNil))
def d_law_caught : DS := sSeq (sSet 2 (dLst aNil)) (sSeq (sTryX 3 "sets" 0 (dVar 0) (su_x "Conflict" "sets")) (sSeq (sTry0 3 0 (dVar 1) su_0) (sSeq (sTryX 3 "operation" 0 (dVar 0) (su_x "NotEquivalent" "operation")) (sSeq (sTryX 3 "name" 0 (dVar 0) (su_x "UnknownParty" "name")) (sSeq (sTryO 0 (dVar 0) su_k) (sRetV 2))))))
def sp_law_caught : FSpec := ⟨d_law_caught.m, fun us P _ => ∃ (x : PyData) (t : Str), us = [.d x, .d (.str t)] ∧ P (.d (.list [x, .bool true, x, x, .str "key"])) true⟩
theorem lt_sz {n : Nat} (h : n ≤ 100) : n < sizeLine := by rw [sizeLine_eq]; omega
section
variable {x y : PyData} {acc : List PyData} {o : Option Ent} {D : DK} {nm f : Str}
theorem st_x (hl : acc.length < sizeLine) (h : D.nx [some ⟨false, .d x⟩, some ⟨false, .d y⟩, some ⟨true, .d (.list (acc ++ [x]))⟩, none]) : (sTryX 3 f 0 (dVar 0) (su_x nm f)).f [some ⟨false, .d x⟩, some ⟨false, .d y⟩, some ⟨true, .d (.list acc)⟩, o] D :=
  ⟨x, rfl, fun a d => ⟨_, rfl, ⟨_, rfl⟩, _, rfl, rfl, _, rfl, x, rfl, _, rfl, 2, acc, rfl, rfl, hl, h⟩⟩
theorem st_0 (hl : acc.length < sizeLine) (h : D.nx [some ⟨false, .d x⟩, some ⟨false, .d y⟩, some ⟨true, .d (.list (acc ++ [.bool true]))⟩, none]) : (sTry0 3 0 (dVar 1) su_0).f [some ⟨false, .d x⟩, some ⟨false, .d y⟩, some ⟨true, .d (.list acc)⟩, o] D :=
  fun a => ⟨_, rfl, ⟨_, rfl⟩, _, rfl, rfl, _, rfl, 2, acc, rfl, rfl, hl, h⟩
theorem st_k (hl : acc.length < sizeLine) (h : D.nx [some ⟨false, .d x⟩, some ⟨false, .d y⟩, some ⟨true, .d (.list (acc ++ [.str "key"]))⟩, o]) : (sTryO 0 (dVar 0) su_k).f [some ⟨false, .d x⟩, some ⟨false, .d y⟩, some ⟨true, .d (.list acc)⟩, o] D :=
  ⟨x, rfl, _, rfl, ⟨_, rfl⟩, _, rfl, 2, acc, rfl, rfl, hl, h⟩
end
theorem law_law_caught : ∀ us P R, us.length = P_law_caught.length → sp_law_caught.f us P R → d_law_caught.f (startE N_law_caught us) (dk P R) := by
  rintro us P R - ⟨x, t, rfl, q⟩
  exact ⟨_, rfl, le_sz (ble rfl), st_x (y := .str t) (acc := []) (lt_sz (ble rfl)) (st_0 (acc := [x]) (lt_sz (ble rfl)) (st_x (acc := [x, .bool true]) (lt_sz (ble rfl)) (st_x (acc := [x, .bool true, x]) (lt_sz (ble rfl)) (st_k (acc := [x, .bool true, x, x]) (lt_sz (ble rfl)) ⟨_, rfl, q⟩))))⟩

/-! ### law -/
abbrev P_law : List Str := ["_law_script"]
def N_law : List Str := ["_law_script", "_law_source_here", "_law_turn", "_law_text", "_law_one", "_law_other", "_law_here", "_law_then", "_law_named", "_law_n", "_law_at", "_law_e"]
def d_law : DS := sSeq (sFor [2] false (wRng1 (dCon (.int 3))) (sSeq (sPar 4 5 (dCall sp_law_thing (aLen 1 (aCons (dVar 1) (aNil)))) (dCall sp_law_thing (aLen 1 (aCons (dVar 1) (aNil))))) (sSeq (sSet 3 (dMth .join (oE (dCon (.str ""))) (aCons (dLc [9] [9] false (wRng1 (dCall sp_law_draw (aLen 2 (aCons (dVar 1) (aCons (dCon (.int 7)) (aNil)))))) (kTrue) (dCall sp_law_pick (aLen 2 (aCons (dVar 1) (aCons (dCon (.str "abc ~\n0")) (aNil)))))) (aNil)))) (sSeq (sSetU [6, 7, 8] (aCons (dCall sp_law_by_position (aLen 2 (aCons (dVar 4) (aCons (dVar 3) (aNil))))) (aCons (dCall sp_law_by_position (aLen 2 (aCons (dVar 5) (aCons (dVar 3) (aNil))))) (aCons (dCall sp_law_by_name (aLen 1 (aCons (dVar 4) (aNil)))) (aNil))))) (sSeq (sIf (kE (dCmp .ne (oE (dBif .repr (oE (dLst (aCons (dCall sp_law_attributes (aLen 1 (aCons (dSliO (oSlot 6) (pE (dCon (.int 6))) (pNo)) (aNil)))) (aCons (dCall sp_law_attributes (aLen 1 (aCons (dVar 8) (aNil)))) (aNil))))))) (oE (dBif .repr (oE (dBin .mul (oE (dLst (aCons (dBin .mul (oE (dLst (aCons (dVar 4) (aNil)))) (oE (dCon (.int 12)))) (aNil)))) (oE (dCon (.int 2))))))))) (sRet (dCon (.bool false))) (sSkip)) (sSeq (sIf (kE (dCmp .ne (oE (dBif .repr (oE (dCall sp_law_attributes (aLen 1 (aCons (dSliO (oSlot 7) (pE (dCon (.int 6))) (pNo)) (aNil))))))) (oE (dBif .repr (oE (dBin .mul (oE (dLst (aCons (dVar 5) (aNil)))) (oE (dCon (.int 12))))))))) (sRet (dCon (.bool false))) (sSkip)) (sSeq (sIf (kE (dCmp .ne (oE (dLc [10] [10] false (wRng1 (dCon (.int 18))) (kE (dCmp .ne (oE (dCall sp_law_instances (aLen 1 (aCons (dIdxO (oSlot 6) (oSlot 10)) (aNil))))) (oE (dCall sp_law_expected (aLen 1 (aCons (dVar 10) (aNil))))))) (dVar 10))) (oE (dLst (aNil))))) (sRet (dCon (.bool false))) (sSkip)) (sSeq (sIf (kE (dCmp .ne (oE (dLcO [11] 11 (wO (dVar 8)) (dCall sp_law_instances (aLen 1 (aCons (dVar 11) (aNil)))))) (oE (dLc [10] [10] false (wRng2 (dCon (.int 6)) (dCon (.int 18))) (kTrue) (dCall sp_law_expected (aLen 1 (aCons (dVar 10) (aNil)))))))) (sRet (dCon (.bool false))) (sSkip)) (sIf (kE (dCmp .ne (oE (dBif .repr (oE (dCall sp_law_caught (aLen 2 (aCons (dVar 4) (aCons (dVar 3) (aNil)))))))) (oE (dBif .repr (oE (dLst (aCons (dVar 4) (aCons (dCon (.bool true)) (aCons (dVar 4) (aCons (dVar 4) (aCons (dCon (.str "key")) (aNil)))))))))))) (sRet (dCon (.bool false))) (sSkip)))))))))) (sRet (dCon (.bool true)))
theorem pos_at (x : PyData) : ∀ k, k < 18 → ∃ (nm : Str) (o : Option (Str × PyData)), exN[k]? = some nm ∧ (posL x)[k]? = some (excR nm o)
  | 0, _ => ⟨_, _, rfl, rfl⟩
  | 1, _ => ⟨_, _, rfl, rfl⟩
  | 2, _ => ⟨_, _, rfl, rfl⟩
  | 3, _ => ⟨_, _, rfl, rfl⟩
  | 4, _ => ⟨_, _, rfl, rfl⟩
  | 5, _ => ⟨_, _, rfl, rfl⟩
  | 6, _ => ⟨_, _, rfl, rfl⟩
  | 7, _ => ⟨_, _, rfl, rfl⟩
  | 8, _ => ⟨_, _, rfl, rfl⟩
  | 9, _ => ⟨_, _, rfl, rfl⟩
  | 10, _ => ⟨_, _, rfl, rfl⟩
  | 11, _ => ⟨_, _, rfl, rfl⟩
  | 12, _ => ⟨_, _, rfl, rfl⟩
  | 13, _ => ⟨_, _, rfl, rfl⟩
  | 14, _ => ⟨_, _, rfl, rfl⟩
  | 15, _ => ⟨_, _, rfl, rfl⟩
  | 16, _ => ⟨_, _, rfl, rfl⟩
  | 17, _ => ⟨_, _, rfl, rfl⟩
  | k + 18, h => absurd h (by omega)
theorem lcOL_map {α : Type} {f : OR → En → (PyData → En → Prop) → Prop} {Q : List PyData → En → Prop} (r : α → OR) (g : α → PyData) (I : En → Prop) : ∀ {ps : List α} {ρ : En} {acc : List PyData}, I ρ →
    (∀ p ∈ ps, ∀ ρ k, I ρ → (∀ ρ', I ρ' → k (g p) ρ') → f (r p) ρ k) → (∀ ρ', I ρ' → Q (acc ++ ps.map g) ρ') → lcOL f (ps.map r) ρ acc Q
  | [], ρ, acc, i, _, q => by have := q ρ i; rw [List.map_nil, List.append_nil] at this; exact this
  | p :: ps, ρ, acc, i, st, q => st p List.mem_cons_self ρ _ i fun ρ' i' => lcOL_map r g I i' (fun y hy => st y (List.mem_cons_of_mem _ hy)) fun ρ2 i2 => by
      have := q ρ2 i2
      rw [List.map_cons] at this
      rw [List.append_assoc]
      exact this
def xE : PyData → PyData
  | .int n => .list ((expB n.toNat).map .bool)
  | _ => .none
theorem nam_exp : exF.map (fun p => PyData.list ((insB p.1).map .bool)) = (rangeD 6 18).map xE := by
  have h : exF.map (fun p => insB p.1) = (List.range 12).map fun k => expB (6 + k) := by decide +kernel
  have h2 : (exF.map fun p => insB p.1).map (fun bs => PyData.list (bs.map .bool)) = ((List.range 12).map fun k => expB (6 + k)).map fun bs => PyData.list (bs.map .bool) := by rw [h]
  rw [List.map_map, List.map_map] at h2
  exact h2
theorem lay_bs {α : Type} (xs : List α) (f : α → List Bool) : Lay (.list (xs.map fun a => PyData.list ((f a).map .bool))) 2 := Lay.lst (d := 1) fun x hx => by
  obtain ⟨a, _, rfl⟩ := List.mem_map.mp hx
  exact Lay.bools _
theorem nam_map (x : PyData) : namL x = exF.map fun p => excR p.1 (some (p.2, x)) := rfl
theorem exF_N : ∀ p ∈ exF, p.1 ∈ exN := by decide +kernel
theorem law_law : ∀ (P : U → Bool → Prop) (R : RK), P (.d (.bool true)) false → d_law.f [none, some ⟨false, .deck⟩, none, none, none, none, none, none, none, none, none, none] (dk P R) := by
  have sz : sizeLine = 16777216 := sizeLine_eq
  have l7 : ("abc ~\n0" : Str).length = 7 := by decide +kernel
  intro P R q
  refine ⟨_, rfl, by decide, by decide, ?_⟩
  refine forL_inv (fun n ρ => ∃ o2 o3 o4 o5 o6 o7 o8 o9 o10 o11, ρ = [none, some ⟨false, .deck⟩, o2, o3, o4, o5, o6, o7, o8, o9, o10, o11]) 3 rfl ⟨_, _, _, _, _, _, _, _, _, _, rfl⟩ ?_ ?_
  · rintro n x ρ k hn hx ⟨o2, o3, o4, o5, o6, o7, o8, o9, o10, o11, rfl⟩ hk
    obtain ⟨j, -, rfl⟩ := List.mem_map.mp hx
    generalize (0 + (j : Int)) = jj
    refine ⟨rfl, rfl, fun x1 k1 => ⟨rfl, rfl, fun x2 k2 => ?_⟩⟩
    refine ⟨⟨_, rfl⟩, rfl, 7, rfl, by decide, by decide, fun m m0 m1 => ⟨_, rfl, by omega, by omega, ?_⟩⟩
    obtain ⟨m, rfl⟩ := Int.eq_ofNat_of_zero_le m0
    refine lcL_inv (fun j acc ρ => (∃ cs : List Nat, acc = cs.map sgn ∧ cs.length = j) ∧ ∃ o, ρ = [none, some ⟨false, .deck⟩, some ⟨false, .d (.int jj)⟩, o3, some ⟨false, .d x1⟩, some ⟨false, .d x2⟩, o6, o7, o8, o, o10, o11]) ⟨⟨[], rfl, rfl⟩, _, rfl⟩ ?_ ?_
    · rintro j x hx acc ρ k ⟨⟨cs, rfl, hc⟩, o, rfl⟩ hk -
      exact ⟨rfl, .inl ⟨_, rfl, by omega, by omega, fun c hm => ⟨_, rfl, hk _ _ ⟨⟨cs ++ [c], by rw [List.map_append]; rfl, by rw [List.length_append, List.length_singleton]; omega⟩, _, rfl⟩⟩⟩⟩
    rintro acc ρ' ⟨⟨cs, rfl, hc⟩, o, rfl⟩
    rw [range_len] at hc
    have e : cs.map sgn = (cs.map fun c => (⟨#[c]⟩ : Str)).map .str := by rw [List.map_map]; rfl
    have e1 : ∀ cs : List Nat, ((cs.map fun c => (⟨#[c]⟩ : Str)).map Str.length).sum = cs.length := fun cs => by
      induction cs with
      | nil => rfl
      | cons c r ih => rw [List.map_cons, List.map_cons, List.sum_cons, ih, List.length_cons]; show 1 + r.length = _; omega
    refine ⟨_, rfl, _, _, rfl, by rw [e]; exact strsD_of _, ?_, ?_⟩
    · rw [e1, List.length_map]
      show cs.length + cs.length * 0 ≤ _
      omega
    generalize Txt.join "" (cs.map fun c => (⟨#[c]⟩ : Str)) = w
    refine ⟨rfl, x1, w, rfl, rfl, x2, w, rfl, rfl, x1, rfl, rfl, ble rfl, _, rfl, ?_⟩
    have c6 : ∀ y, cutD (posL y) (some 6) none = namL y := fun y => rfl
    have rep12 : ∀ {y : PyData}, Ok y 3 3000 → Ok (.list (List.replicate 12 y)) 4 40000 := fun h => (Ok.lst (n := 12) (fun z hz => by rw [List.eq_of_mem_replicate hz]; exact h) (by rw [List.length_replicate]; exact Nat.le_refl _)).mono (by decide) (by decide)
    have ob : Ok (.list [.list (List.replicate 12 x1), .list (List.replicate 12 x1)]) 5 100000 := (Ok.lst (xs := [.list (List.replicate 12 x1), .list (List.replicate 12 x1)]) (n := 2) (d := 4) (w := 40000) (fun z hz => by
      simp only [List.mem_cons, List.not_mem_nil, or_false] at hz
      rcases hz with rfl | rfl <;> exact rep12 k1) (Nat.le_refl 2)).mono (by decide) (by decide)
    refine ⟨_, rfl, _, rfl, _, rfl, rfl, x1, by rw [c6], rfl, x1, rfl, _, rfl, le_sz (ble rfl), _, rfl, ob.sh, Nat.le_trans ob.dp (by decide), ob.shown (by decide), ?_⟩
    refine ⟨_, rfl, le_sz (ble rfl), _, _, rfl, rfl, by decide, by decide, le_sz (ble rfl), _, rfl, le_sz (ble rfl), _, _, rfl, rfl, by decide, by decide, le_sz (ble rfl), _, rfl, ob.sh, Nat.le_trans ob.dp (by decide), ob.shown (by decide), _, _, rfl, rfl, cNeS rfl ⟨_, rfl, ?_⟩⟩
    have o2 := rep12 k2
    refine ⟨_, rfl, _, rfl, _, rfl, rfl, x2, by rw [c6], _, rfl, o2.sh, Nat.le_trans o2.dp (by decide), o2.shown (by decide), _, rfl, le_sz (ble rfl), _, _, rfl, rfl, by decide, by decide, le_sz (ble rfl), _, rfl, o2.sh, Nat.le_trans o2.dp (by decide), o2.shown (by decide), _, _, rfl, rfl, cNeS rfl ⟨_, rfl, ?_⟩⟩
    refine ⟨_, rfl, by decide, by decide, lcL_pure (fun _ => false) id (fun ρ => ∃ o9 o10, ρ = [none, some ⟨false, .deck⟩, some ⟨false, .d (.int jj)⟩, some ⟨false, .d (.str w)⟩, some ⟨false, .d x1⟩, some ⟨false, .d x2⟩, some ⟨false, .ob (lstR (posL x1))⟩, some ⟨false, .ob (lstR (posL x2))⟩, some ⟨false, .ob (lstR (namL x1))⟩, o9, o10, o11]) ⟨_, _, rfl⟩ ?_ ?_⟩
    · rintro x hx ρ kk ⟨o9, o10, rfl⟩ hk2
      obtain ⟨n, rfl, n0, n1⟩ := mem_range hx
      obtain ⟨k, rfl⟩ := Int.eq_ofNat_of_zero_le n0
      have hk : k < 18 := by omega
      obtain ⟨nm, o, p1, p2⟩ := pos_at x1 k hk
      obtain ⟨nm', p3, p4⟩ := ins_exp k hk
      rw [p1] at p3
      cases p3
      exact ⟨_, rfl, _, rfl, _, _, _, rfl, rfl, atI_nat p2, rfl, nm, o, rfl, List.mem_of_getElem? p1, rfl, k, rfl, hk, _, _, rfl, rfl, cNe2 (Lay.bools _) (Lay.bools _) (by decide) (by rw [p4]) ⟨_, rfl, hk2 _ ⟨_, _, rfl⟩⟩⟩
    rintro ρ' ⟨o9, o10, rfl⟩
    have ef : ∀ xs : List PyData, [] ++ (xs.filter fun _ => false).map id = [] := fun xs => by rw [List.filter_eq_nil_iff.mpr (by intro a _; simp)]; rfl
    rw [ef]
    refine ⟨_, rfl, le_sz (ble rfl), _, _, rfl, rfl, cNe2 (d := 1) (Lay.bools []) (Lay.bools []) (by decide) rfl ⟨_, rfl, ?_⟩⟩
    refine ⟨_, rfl, le_sz (ble rfl), ?_⟩
    rw [nam_map]
    refine lcOL_map _ (fun p => PyData.list ((insB p.1).map .bool)) (fun ρ => ∃ o9 o10 o11, ρ = [none, some ⟨false, .deck⟩, some ⟨false, .d (.int jj)⟩, some ⟨false, .d (.str w)⟩, some ⟨false, .d x1⟩, some ⟨false, .d x2⟩, some ⟨false, .ob (lstR (posL x1))⟩, some ⟨false, .ob (lstR (posL x2))⟩, some ⟨false, .ob (lstR (namL x1))⟩, o9, o10, o11]) ⟨_, _, _, rfl⟩ ?_ ?_
    · rintro p hp ρ kk ⟨o9, o10, o11, rfl⟩ hk2
      exact ⟨rfl, p.1, _, rfl, exF_N p hp, _, rfl, hk2 _ ⟨_, _, _, rfl⟩⟩
    rintro ρ' ⟨o9, o10, o11, rfl⟩
    refine ⟨_, _, rfl, rfl, ⟨by decide, by decide⟩, ⟨by decide, by decide⟩, lcL_map xE (fun ρ => ∃ o9 o10 o11, ρ = [none, some ⟨false, .deck⟩, some ⟨false, .d (.int jj)⟩, some ⟨false, .d (.str w)⟩, some ⟨false, .d x1⟩, some ⟨false, .d x2⟩, some ⟨false, .ob (lstR (posL x1))⟩, some ⟨false, .ob (lstR (posL x2))⟩, some ⟨false, .ob (lstR (namL x1))⟩, o9, o10, o11]) ⟨_, _, _, rfl⟩ ?_ ?_⟩
    · rintro x hx ρ kk ⟨o9, o10, o11, rfl⟩ hk2
      obtain ⟨n, rfl, n0, n1⟩ := mem_range hx
      obtain ⟨k, rfl⟩ := Int.eq_ofNat_of_zero_le (show 0 ≤ n by omega)
      exact ⟨rfl, k, rfl, by omega, _, rfl, hk2 _ ⟨_, _, _, rfl⟩⟩
    rintro ρ' ⟨o9, o10, o11, rfl⟩
    refine ⟨_, _, rfl, rfl, cNe2 (d := 2) (by rw [List.nil_append]; exact lay_bs exF fun p => insB p.1) (by rw [← nam_exp]; exact lay_bs exF fun p => insB p.1) (by decide) (by rw [List.nil_append]; exact congrArg PyData.list nam_exp) ⟨_, rfl, ?_⟩⟩
    have oc : Ok (.list [x1, .bool true, x1, x1, .str "key"]) 4 40000 := (Ok.lst (xs := [x1, .bool true, x1, x1, .str "key"]) (n := 5) (d := 3) (w := 3000) (fun z hz => by
      simp only [List.mem_cons, List.not_mem_nil, or_false] at hz
      rcases hz with rfl | rfl | rfl | rfl | rfl
      · exact k1
      · exact ⟨rfl, rfl, by decide, by decide⟩
      · exact k1
      · exact k1
      · exact ⟨by decide +kernel, by decide +kernel, by decide +kernel, by decide +kernel⟩) (Nat.le_refl 5)).mono (by decide) (by decide)
    exact ⟨rfl, x1, w, rfl, _, rfl, oc.sh, Nat.le_trans oc.dp (by decide), oc.shown (by decide), _, rfl, le_sz (ble rfl), _, rfl, oc.sh, Nat.le_trans oc.dp (by decide), oc.shown (by decide), _, _, rfl, rfl, cNeS rfl ⟨_, rfl, hk _ ⟨_, _, _, _, _, _, _, _, _, _, rfl⟩⟩⟩
  · rintro ρ' ⟨o2, o3, o4, o5, o6, o7, o8, o9, o10, o11, rfl⟩
    exact q

end G9

namespace G9
open PySem PySem.Spec L2 PyProof.Rows PySem.G9K PySem.HandSPX

def topS (i : Nat) : Stmt := PySem.Challenge.pw_lotkept_k01_errors.main.body.getD i (.Pass ⟨0, 0, 0, 0⟩)
structure Mg (mg : Str → Option Value) : Prop where
  n_KeyError : mg "KeyError" = none
  n_ValueError : mg "ValueError" = none
  n_isinstance : mg "isinstance" = none
  n_len : mg "len" = none
  n_list : mg "list" = none
  n_range : mg "range" = none
  n_repr : mg "repr" = none
/-! ### _law_source -/
abbrev s_law_source : Stmt := topS 21
def spSrc (k1 k2 k3 : Str) (K : PySem.W.Frag) : Sp := fun vs H Q E => ∃ (a : Addr) (ns : List Int), vs = [.ref a] ∧ SqL K H a (ns.map V.int) ∧
  ∀ dk c H', Kp [] H H' → H dk = none → H c = none → DeckAt k1 k2 k3 dk c 0 H' → Q (.ref dk) H'
theorem cut63 (ns : List Int) : ∃ ms : List Int, cutV (ns.map V.int) none (some 63) = ms.map V.int ∧ ms.length ≤ 63 := by
  refine ⟨(ns.drop (HT.sIx ns.length 0 none)).take (HT.sIx ns.length ns.length (some 63) - HT.sIx ns.length 0 none), ?_, ?_⟩
  · unfold cutV
    rw [List.length_map, List.map_take, List.map_drop]
  · have h1 : HT.sIx ns.length ns.length (some 63) ≤ 63 := by
      have := HT.sIx_le (n := ns.length)
      simp only [HT.sIx]
      first | omega | (split <;> omega)
    rw [List.length_take]
    omega
def N_law_source : List Str := ["_law_script", "_law_cells", "_law_digest", "_law_cell"]
theorem sc_law_source : FnScope N_law_source P_law_source (defScope s_law_source) := ⟨rfl, rfl, rfl, by decide +kernel, rfl, by decide +kernel, by decide +kernel⟩
theorem sq_keep {K : PySem.W.Frag} {H H' : Hp} {p : Addr} {o : HO} (e : H' = upd H p o) (h : H p = none) {a : Addr} {xs : List V} (ha : H a = some (.lst xs)) : H' a = some (.lst xs) := by
  rw [e, upd_ne (ne_of_none ha h)]; exact ha
theorem tri_merge {k1 k2 k3 : Str} {a b c : V} (h1 : k1 ≠ k2) (h2 : k1 ≠ k3) (h3 : k2 ≠ k3) : mergeK [] (tri k1 k2 k3 a b c) = tri k1 k2 k3 a b c := by
  have e1 : ¬ (Sum.inr k1 : Key) = Sum.inr k2 := fun e => h1 (Sum.inr.inj e)
  have e2 : ¬ (Sum.inr k1 : Key) = Sum.inr k3 := fun e => h2 (Sum.inr.inj e)
  have e3 : ¬ (Sum.inr k2 : Key) = Sum.inr k3 := fun e => h3 (Sum.inr.inj e)
  simp [mergeK, tri, putK, e1, e2, e3]
theorem Kp.over5 {M : List Addr} {H H' : Hp} {p : Addr} {o : HO} (k : Kp M H H') (h : H p = none) : Kp M H (upd H' p o) := by
  have ne : ∀ a u, H a = some u → a ≠ p := fun a u e z => by rw [z, h] at e; cases e
  refine ⟨fun a u n e => ?_, fun a u e => ?_, fun a o' u e => ?_, fun a e => ?_⟩
  · rw [upd_ne (ne a _ e)]; exact k.same a u n e
  · rw [upd_ne (ne a _ e)]; exact k.tup a u e
  · rw [upd_ne (ne a _ e)]; exact k.frz a o' u e
  · by_cases z : a = p
    · rw [z, upd_same]; exact fun q => nomatch q
    · rw [upd_ne z]; exact k.liv a e
section
variable {P : Program} {w : World} {K : PySem.W.Frag} {mg : Str → Option Value} {base : Heap} {CX : CXT}
theorem fn_law_source {f : Addr} {fd : FuncData} (F : Fun K "_law_source" "_law_source" s_law_source f fd) (ml : mg "list" = none) : FnG P w K mg base CX 1 f fd P_law_source (spSrc "cells" "digest" "count" K) := by
  obtain ⟨oc, od, kV, doc, pm, an, cdv, ct, osl, e, lk, hcd⟩ := F.ex
  have D : Def K f fd "_law_source" (defBody s_law_source) (defScope s_law_source) cdv := ⟨⟨_, _, _, _, _, _, _, _, _, _, _, e, lk⟩, hcd⟩
  refine fnG_of D sc_law_source (fun {vs H Q E} ⟨a, ns, h, _⟩ => by rw [h]; rfl) fun A outer s H vs Q E hr sp => ?_
  have hu : (A.deeper (envOfC "_law_source" (defScope s_law_source) s.heap.objs.size f cdv)).units + 1 < cLine := hu_of hr.rm
  have nd := sc_law_source.nd
  refine ⟨_, pss_cons (ps_par (i := 1) (j := 2) rfl nd rfl rfl (by decide) rfl rfl
      (pa_cons (pe_callTy call_list_of (by rfl) ml (by rfl) (pa_cons (pe_slice sl_list (pv 0) po_none (po_some pe_int)) pa_nil)) (pa_cons pe_int pa_nil)) (by with_unfolding_all rfl))
    (pss_cons (ps_for owns_cx rfl (pi_list (pv 1)) (pg_name (i := 3) nd rfl (.inl rfl))
      (pss_one (ps_set (i := 2) nd rfl (.inl rfl) (pe_op op_modN (pe_op op_add (pe_op op_add (pe_op op_mul (pv 2) pe_int) (pe_op op_modN (pv 3) pe_int)) pe_int) pe_int))))
    (pss_one (ps_ret (pe_disp (pps_cons pe_str (pe_revL (pv 1)) (pps_cons pe_str (pv 2) (pps_cons pe_str pe_int pps_nil))) (by decide) (by decide) (by simp [defBody]) (by decide))))), ?_⟩
  obtain ⟨a, ns, rfl, ha, hq⟩ := sp
  obtain ⟨ms, em, hm⟩ := cut63 ns
  refine ⟨.ref a, rfl, 63, rfl, a, _, rfl, ha, fun p hp => ⟨p, _, rfl, .inl (SqL.of upd_same), fun l hl => ⟨_, _, rfl, ?_⟩⟩⟩
  rw [em]
  have lp : l ≠ p := fun z => by rw [z, upd_same] at hl; cases hl
  have c1 : (upd (upd H p (.lst (ms.map V.int))) l (.lst (ms.map V.int))) l = some (.lst (ms.map V.int)) := upd_same
  have k1 : Kp [] H (upd (upd H p (.lst (ms.map V.int))) l (.lst (ms.map V.int))) := (Kp.fresh hp).trans (Kp.fresh (by rw [← em]; exact hl))
  generalize upd (upd H p (.lst (ms.map V.int))) l (.lst (ms.map V.int)) = H1 at c1 k1
  have sl : SqL K H1 l (ms.map V.int) := SqL.of c1
  refine ⟨_, rfl, l, rfl, ⟨_, sl⟩, ?_⟩
  refine for_list (xs := ms.map V.int) (fun i σ H2 => H2 = H1 ∧ ∃ (dg : Int) (o : Option V), 0 ≤ dg ∧ dg < 4294967296 ∧ σ = [some (.ref a), some (.ref l), some (.int dg), o]) ⟨rfl, 30103, none, by decide, by decide, rfl⟩ (fun i σ H2 _ h => h.1 ▸ sl) ?_ ?_
  · rintro i x σ H2 hx ⟨rfl, dg, o, g1, g2, rfl⟩
    rw [List.getElem?_map] at hx
    obtain ⟨n, hn, rfl⟩ := Option.map_eq_some_iff.mp hx
    have z1 : (2147483587 : Int) ≠ 0 := by decide
    have z2 : (2147483629 : Int) ≠ 0 := by decide
    refine ⟨.int dg, rfl, dg, 39373, rfl, rfl, .inl ⟨by omega, by omega⟩, .int n, rfl, n, _, rfl, rfl, z1, _, _, rfl, rfl, _, 53, rfl, rfl, _, _, rfl, rfl, z2, ?_⟩
    obtain ⟨f1, f2⟩ := fmod_range (a := dg * 39373 + n.fmod 2147483587 + 53) (n := 2147483629) (by decide)
    exact ⟨rfl, _, some (.int n), f1, by omega, rfl⟩
  · rintro σ H2 ⟨rfl, dg, o, g1, g2, rfl⟩
    intro q hq0
    refine ⟨.ref l, rfl, l, _, rfl, SqL.of (by rw [upd_ne (ne_of_none c1 hq0)]; exact c1), fun c hc => ⟨.int dg, rfl, ?_⟩⟩
    have cq : c ≠ q := fun z => by rw [z, upd_same] at hc; cases hc
    refine ⟨by rw [upd_ne (Ne.symm cq)]; exact upd_same, tri "cells" "digest" "count" (.ref c) (.int dg) (.int 0), rfl, by show 3 ≤ 15; omega, ?_⟩
    rw [tri_merge (by decide) (by decide) (by decide)]
    have hc1 : H2 c = none := by rw [upd_ne cq] at hc; exact hc
    have z : ∀ b, H2 b = none → H b = none := fun b hb => Classical.byContradiction fun ne => k1.liv b ne hb
    refine hq q c _ (k1.trans ?_) (z q hq0) (z c hc1) ⟨ms.reverse, dg, 0, upd_same, ?_, by rw [List.length_reverse]; exact hm, g1, g2, by decide, by decide⟩
    · exact Kp.over5 ((Kp.fresh hq0).trans (Kp.fresh hc)) hq0
    · rw [upd_ne cq, upd_same, List.map_reverse]
end

/-! ### _law_draw -/
abbrev s_law_draw : Stmt := topS 22
def N_law_draw : List Str := ["_law_source_here", "_law_limit", "_law_cell", "_law_mixed"]
theorem sc_law_draw : FnScope N_law_draw P_law_draw (defScope s_law_draw) := ⟨rfl, rfl, rfl, by decide +kernel, rfl, by decide +kernel, by decide +kernel⟩
abbrev Wp02 : Wk → Prop := IsDeck "cells" "digest" "count"
section
variable {P : Program} {w : World} {K : PySem.W.Frag} {mg : Str → Option Value} {base : Heap} {CX : CXT}
theorem w9 {n : Int} (h : n < 10000000000000000000000000000000000000000) (h0 : 0 < n) : n.natAbs.log2 < 9000 := by
  have e : (2 : Nat) ^ 140 = 1393796574908163946345982392040522594123776 := by decide +kernel
  exact Nat.lt_of_lt_of_le (PySem.Flt.log2_lt_of (k := 140) (by decide) (by omega)) (by decide)
theorem fn_law_draw {f : Addr} {fd : FuncData} (F : Fun K "_law_draw" "_law_draw" s_law_draw f fd) : FnG P w K mg base CX 1 f fd P_law_draw (spG Wp02 K mg 2 sp_law_draw) := by
  obtain ⟨oc, od, kV, doc, pm, an, cdv, ct, osl, e, lk, hcd⟩ := F.ex
  have D : Def K f fd "_law_draw" (defBody s_law_draw) (defScope s_law_draw) cdv := ⟨⟨_, _, _, _, _, _, _, _, _, _, _, e, lk⟩, hcd⟩
  refine fnG_of D sc_law_draw (fun {vs H Q E} ⟨W, M, us, P, R, _, _, _, _, _, h, _⟩ => h) fun A outer s H vs Q E hr sp => ?_
  have hu : (A.deeper (envOfC "_law_draw" (defScope s_law_draw) s.heap.objs.size f cdv)).units + 1 < cLine := hu_of hr.rm
  have hu64 : (A.deeper (envOfC "_law_draw" (defScope s_law_draw) s.heap.objs.size f cdv)).units + 64 < cLine := hr.rm.units
  have nd := sc_law_draw.nd
  refine ⟨_, pss_cons (ps_dput hu (pv 0) pe_str (pe_op op_add (pe_dget hu (pv 0) pe_str (by intro _ _; rfl)) pe_int) (by rfl))
    (pss_cons (ps_set (i := 2) nd rfl (.inl rfl) (pe_dget hu (pv 0) pe_str (by intro _ _; rfl)))
    (pss_cons (ps_if (pt_cmpR (op_neD hu64) (pe_dget hu (pv 0) pe_str (by intro _ _; rfl)) (pe_lst pa_nil) rfl)
      (pss_cons (ps_set (i := 2) nd rfl (.inl rfl) (pe_bm0 PySem.F.plainAttrs_list PySem.F.slot_list_pop PySem.F.type_list_pop mt_pop (pe_dget hu (pv 0) pe_str (by intro _ _; rfl))))
        (pss_cons (ps_if (pt_cmpR op_ge (pv 2) (pe_op op_pow pe_int pe_int) rfl)
          (pss_cons (ps_expr (pe_bm PySem.F.plainAttrs_list PySem.F.slot_list_append PySem.F.type_list_append mt_append (pe_dget hu (pv 0) pe_str (by intro _ _; rfl)) (pa_cons (pe_op op_fdivW (pv 2) (pv 1)) pa_nil)))
            (pss_one (ps_ret (pe_op op_modN (pv 2) (pv 1))))) pss_nil)
        (pss_one (ps_set (i := 2) nd rfl (.inl rfl) (pe_op op_add (pv 2) (pe_dget hu (pv 0) pe_str (by intro _ _; rfl))))))) pss_nil)
    (pss_cons (ps_set (i := 3) nd rfl (.inl rfl) (pe_op op_add (pe_op op_modN (pv 2) pe_int) (pe_op op_mulB (pe_op op_mul pe_int (pe_dget hu (pv 0) pe_str (by intro _ _; rfl))) (pe_dget hu (pv 0) pe_str (by intro _ _; rfl)))))
    (pss_cons (ps_set (i := 3) nd rfl (.inl rfl) (pe_op op_modN (pe_op op_mul (pe_op op_add (pv 3) pe_int) pe_int) pe_int))
    (pss_cons (ps_set (i := 3) nd rfl (.inl rfl) (pe_op op_modN (pe_op op_add (pe_op op_add (pe_op op_mul (pv 3) (pv 3)) (pe_op op_mul pe_int (pe_dget hu (pv 0) pe_str (by intro _ _; rfl)))) pe_int) pe_int))
    (pss_one (ps_ret (pe_op op_modN (pe_op op_fdivN (pe_op op_modN (pe_op op_mul (pv 3) (pe_op op_add (pe_op op_fdivN (pv 3) pe_int) pe_int)) pe_int) pe_int) (pv 1))))))))), ?_⟩
  obtain ⟨W, M, us, P', R, wp, wok, wad, wliv, sm, hl, pr, hs, q1, q2⟩ := sp
  obtain ⟨dk, c, n, eW⟩ := wp.2 0
  have eW : W = deckW "cells" "digest" "count" dk c n := eW
  subst eW
  obtain ⟨lim, rfl, l0, l1, hP⟩ := hs
  obtain ⟨cs, dg, ct, h1, h2, h3, h4, h5, h6, h7⟩ := (show DeckAt "cells" "digest" "count" dk c n H from wok).ex
  cases pr with
  | cons p1 pr =>
  cases pr with
  | cons p2 pr =>
  cases pr
  have p1 : _ = V.ref dk := p1
  have p2 := Rep.int_inv p2
  subst p1 p2
  have lim1 : n + 1 ≤ LIM := wp.1
  have cm : IntMulOk (83737 * (ct + 1)) (ct + 1) := count_mul (by omega) (by omega) 83737 (by decide) (by decide)
  have nz1 : (2147483629 : Int) ≠ 0 := by decide
  have nz2 : (2147483647 : Int) ≠ 0 := by decide
  have nz3 : (2147483587 : Int) ≠ 0 := by decide
  have nz4 : (2147483563 : Int) ≠ 0 := by decide
  have nzl : lim ≠ 0 := by omega
  have dc : c ≠ dk := fun e => by rw [e, h1] at h2; cases h2
  have fin : ∀ (d : Int) (H' : Hp), 0 ≤ d → d < lim → Kp [dk, c] H H' → DeckAt "cells" "digest" "count" dk c (n + 1) H' → Q (.int d) H' := fun d H' a b k o => q1 _ _ _ _ (hP d a b) ⟨o, k, Rep.int d⟩
  have g3 : DGet H dk (.str "count") (some (.int ct)) := by
    have := DGet.k (k := .inr "count") h1
    rw [tri3 (by decide) (by decide)] at this
    exact this
  have p3 : DPut H dk (.str "count") (.int (ct + 1)) (upd H dk (.dK (tri "cells" "digest" "count" (.ref c) (.int dg) (.int (ct + 1))))) := by
    have := DPut.k (k := .inr "count") (v := .int (ct + 1)) h1 (by show 3 < sizeLine; rw [sizeLine_eq]; omega)
    rw [tri_put (by decide) (by decide)] at this
    exact this
  refine ⟨.ref dk, rfl, dk, .int ct, rfl, g3, ct, 1, rfl, rfl, .ref dk, rfl, dk, _, rfl, p3, ?_⟩
  have k1 : Kp [dk, c] H (upd H dk (.dK (tri "cells" "digest" "count" (.ref c) (.int dg) (.int (ct + 1))))) := Kp.put (by simp) h1
  have a1 : (upd H dk (.dK (tri "cells" "digest" "count" (.ref c) (.int dg) (.int (ct + 1))))) dk = some (.dK (tri "cells" "digest" "count" (.ref c) (.int dg) (.int (ct + 1)))) := upd_same
  have a2 : (upd H dk (.dK (tri "cells" "digest" "count" (.ref c) (.int dg) (.int (ct + 1))))) c = some (.lst (cs.map V.int)) := by rw [upd_ne dc]; exact h2
  clear g3 p3
  generalize upd H dk (.dK (tri "cells" "digest" "count" (.ref c) (.int dg) (.int (ct + 1)))) = H1 at k1 a1 a2
  have g2 : DGet H1 dk (.str "digest") (some (.int dg)) := by
    have := DGet.k (k := .inr "digest") a1
    rw [tri2 (by decide)] at this
    exact this
  have g1 : DGet H1 dk (.str "cells") (some (.ref c)) := by
    have := DGet.k (k := .inr "cells") a1
    rw [tri1] at this
    exact this
  refine ⟨.ref dk, rfl, dk, .int dg, rfl, g2, ?_⟩
  refine ⟨.ref dk, rfl, dk, .ref c, rfl, g1, by decide, fun p hp => ⟨_, _, dp_ints (SqL.of (by rw [upd_ne (ne_of_none a2 hp)]; exact a2)), .lst (SqL.of upd_same) .nil, shaped_ints cs, by decide, _, rfl, ?_⟩⟩
  rw [eqv_empty]
  have k2 : Kp [dk, c] H (upd H1 p (.lst [])) := k1.trans (Kp.fresh hp)
  have b1 : (upd H1 p (.lst [])) dk = some (.dK (tri "cells" "digest" "count" (.ref c) (.int dg) (.int (ct + 1)))) := by rw [upd_ne (ne_of_none a1 hp)]; exact a1
  have b2 : (upd H1 p (.lst [])) c = some (.lst (cs.map V.int)) := by rw [upd_ne (ne_of_none a2 hp)]; exact a2
  generalize upd H1 p (.lst []) = H2 at k2 b1 b2
  clear g2 g1
  cases hcs : cs with
  | nil =>
    rw [hcs] at b2
    refine iteF ?_
    have g3 : DGet H2 dk (.str "count") (some (.int (ct + 1))) := by
      have := DGet.k (k := .inr "count") b1
      rw [tri3 (by decide) (by decide)] at this
      exact this
    refine ⟨.int dg, rfl, _, 2147483629, rfl, rfl, nz1, .ref dk, rfl, dk, .int (ct + 1), rfl, g3, 83737, _, rfl, rfl, .inl ⟨by decide, by decide⟩, .ref dk, rfl, dk, .int (ct + 1), rfl, g3, _, _, rfl, rfl, cm, _, _, rfl, rfl, ?_⟩
    refine ⟨.int _, rfl, _, 31, rfl, rfl, _, 40692, rfl, rfl, .inr ⟨by decide, by decide⟩, _, 2147483647, rfl, rfl, nz2, ?_⟩
    refine ⟨.int _, rfl, .int _, rfl, _, _, rfl, rfl, cm_fmod (by decide) (by decide), .ref dk, rfl, dk, .int (ct + 1), rfl, g3, 16807, _, rfl, rfl, .inl ⟨by decide, by decide⟩, _, _, rfl, rfl, _, 3, rfl, rfl, _, 2147483587, rfl, rfl, nz3, ?_⟩
    refine ⟨.int _, rfl, .int _, rfl, _, 9, rfl, rfl, ⟨by decide, by decide⟩, _, 48271, rfl, rfl, _, _, rfl, rfl, cm_fmod (by decide) (by decide), _, 2147483563, rfl, rfl, nz4, _, 64, rfl, rfl, ⟨by decide, by decide⟩, .int lim, rfl, _, lim, rfl, rfl, nzl, ?_⟩
    exact fin _ _ (fmod_range l0).1 (fmod_range l0).2 k2 ⟨[], dg, ct + 1, b1, b2, by simp, h4, h5, by omega, by omega⟩
  | cons x0 xr =>
    refine iteT ?_
    have ne : cs ≠ [] := by rw [hcs]; simp
    have g1 : DGet H2 dk (.str "cells") (some (.ref c)) := by
      have := DGet.k (k := .inr "cells") b1
      rw [tri1] at this
      exact this
    have hlast : (cs.map V.int)[(cs.map V.int).length - 1]? = some (.int (cs.getLast ne)) := by
      rw [List.getElem?_map, List.length_map, ← List.getLast?_eq_getElem?, List.getLast?_eq_some_getLast ne]
      rfl
    refine ⟨.ref dk, rfl, dk, .ref c, rfl, g1, .inl ⟨rfl, _, SqL.of b2⟩, c, _, _, rfl, rfl, b2, hlast, ?_⟩
    generalize cs.getLast ne = x
    have k3 : Kp [dk, c] H (upd H2 c (.lst (cs.map V.int).dropLast)) := k2.trans (Kp.store (by simp) b2)
    have c1 : (upd H2 c (.lst (cs.map V.int).dropLast)) dk = some (.dK (tri "cells" "digest" "count" (.ref c) (.int dg) (.int (ct + 1)))) := by rw [upd_ne (Ne.symm dc)]; exact b1
    have c2 : (upd H2 c (.lst (cs.map V.int).dropLast)) c = some (.lst (cs.dropLast.map V.int)) := by rw [upd_same, List.map_dropLast]
    have cl : cs.dropLast.length ≤ 62 := by rw [List.length_dropLast]; omega
    generalize upd H2 c (.lst (cs.map V.int).dropLast) = H3 at k3 c1 c2
    clear g1
    have g1 : DGet H3 dk (.str "cells") (some (.ref c)) := by
      have := DGet.k (k := .inr "cells") c1
      rw [tri1] at this
      exact this
    have g2 : DGet H3 dk (.str "digest") (some (.int dg)) := by
      have := DGet.k (k := .inr "digest") c1
      rw [tri2 (by decide)] at this
      exact this
    refine ⟨.int x, rfl, 10, 18, rfl, rfl, ⟨by decide, by decide, by decide⟩, x, _, rfl, rfl, _, rfl, ?_⟩
    by_cases hx : (10 : Int) ^ (18 : Int).toNat ≤ x
    · show (if decide ((10 : Int) ^ (18 : Int).toNat ≤ x) = true then _ else _)
      rw [if_pos (decide_eq_true hx)]
      refine ⟨.ref dk, rfl, dk, .ref c, rfl, g1, .inl ⟨rfl, _, SqL.of c2⟩, .int x, rfl, .int lim, rfl, x, lim, rfl, rfl, ⟨l0, w9 l1 l0⟩, c, _, _, rfl, rfl, c2, ?_, ?_⟩
      · rw [List.length_map, sizeLine_eq]; omega
      · have k4 : Kp [dk, c] H (upd H3 c (.lst (cs.dropLast.map V.int ++ [.int (x / lim)]))) := k3.trans (Kp.store (by simp) c2)
        have d1 : (upd H3 c (.lst (cs.dropLast.map V.int ++ [.int (x / lim)]))) dk = some (.dK (tri "cells" "digest" "count" (.ref c) (.int dg) (.int (ct + 1)))) := by rw [upd_ne (Ne.symm dc)]; exact c1
        have d2 : (upd H3 c (.lst (cs.dropLast.map V.int ++ [.int (x / lim)]))) c = some (.lst ((cs.dropLast ++ [x / lim]).map V.int)) := by rw [upd_same, List.map_append]; rfl
        refine ⟨.int x, rfl, .int lim, rfl, x, lim, rfl, rfl, nzl, ?_⟩
        obtain ⟨r5, r6⟩ := fmod_range (a := x) l0
        exact fin _ _ r5 r6 k4 ⟨_, dg, ct + 1, d1, d2, by rw [List.length_append, List.length_singleton]; omega, h4, h5, by omega, by omega⟩
    · show (if decide ((10 : Int) ^ (18 : Int).toNat ≤ x) = true then _ else _)
      rw [if_neg (by rw [decide_eq_false hx]; simp)]
      refine ⟨.int x, rfl, .ref dk, rfl, dk, .int dg, rfl, g2, x, dg, rfl, rfl, ?_⟩
      have g3 : DGet H3 dk (.str "count") (some (.int (ct + 1))) := by
        have := DGet.k (k := .inr "count") c1
        rw [tri3 (by decide) (by decide)] at this
        exact this
      refine ⟨.int (x + dg), rfl, _, 2147483629, rfl, rfl, nz1, .ref dk, rfl, dk, .int (ct + 1), rfl, g3, 83737, _, rfl, rfl, .inl ⟨by decide, by decide⟩, .ref dk, rfl, dk, .int (ct + 1), rfl, g3, _, _, rfl, rfl, cm, _, _, rfl, rfl, ?_⟩
      refine ⟨.int _, rfl, _, 31, rfl, rfl, _, 40692, rfl, rfl, .inr ⟨by decide, by decide⟩, _, 2147483647, rfl, rfl, nz2, ?_⟩
      refine ⟨.int _, rfl, .int _, rfl, _, _, rfl, rfl, cm_fmod (by decide) (by decide), .ref dk, rfl, dk, .int (ct + 1), rfl, g3, 16807, _, rfl, rfl, .inl ⟨by decide, by decide⟩, _, _, rfl, rfl, _, 3, rfl, rfl, _, 2147483587, rfl, rfl, nz3, ?_⟩
      refine ⟨.int _, rfl, .int _, rfl, _, 9, rfl, rfl, ⟨by decide, by decide⟩, _, 48271, rfl, rfl, _, _, rfl, rfl, cm_fmod (by decide) (by decide), _, 2147483563, rfl, rfl, nz4, _, 64, rfl, rfl, ⟨by decide, by decide⟩, .int lim, rfl, _, lim, rfl, rfl, nzl, ?_⟩
      exact fin _ _ (fmod_range l0).1 (fmod_range l0).2 k3 ⟨_, dg, ct + 1, c1, c2, by omega, h4, h5, by omega, by omega⟩
end

/-! ### _law_pick -/
abbrev s_law_pick : Stmt := topS 23
theorem sc_law_pick : FnScope N_law_pick P_law_pick (defScope s_law_pick) := ⟨rfl, rfl, rfl, by decide +kernel, rfl, by decide +kernel, by decide +kernel⟩
theorem jb_law_pick {P : Program} {w : World} {K : PySem.W.Frag} {mg : Str → Option Value} {base : Heap} {Wp : Wk → Prop} (m : Mg mg) (c_law_draw : Cal P w K mg base CX0 Wp 1 "_law_draw" s_law_draw P_law_draw sp_law_draw) {f : Addr} {cdv : Value} {A : Around} {outer : List Env} {s : Shared} {H : Hp} {E : XK}
    (hr : RmG 1 (A.deeper (envOfC "_law_pick" (defScope s_law_pick) s.heap.objs.size f cdv))) (g : Gx (cxOf CX0 P w K mg base N_law_pick "_law_pick" (defScope s_law_pick) f cdv A outer s H E)) :
    JB Wp E (cxOf CX0 P w K mg base N_law_pick "_law_pick" (defScope s_law_pick) f cdv A outer s H E) (defBody s_law_pick) d_law_pick :=
  sOne (sRet0 (qIdx (qO 1) (oOf (qCall hr c_law_draw pass0G (fun _ _ _ _ _ _ us hl => match us, hl with | [_, _], _ => rfl) (qaCons (qV 0) (qaCons (qBif .len g m.n_len (qO 1)) (aNil0)))))))
theorem cal_law_pick {P : Program} {w : World} {K : PySem.W.Frag} {mg : Str → Option Value} {base : Heap} {Wp : Wk → Prop} (m : Mg mg) (c_law_draw : Cal P w K mg base CX0 Wp 1 "_law_draw" s_law_draw P_law_draw sp_law_draw) {f : Addr} {fd : FuncData} (F : Fun K "_law_pick" "_law_pick" s_law_pick f fd) (hm : mg "_law_pick" = some (.ref f)) : Cal P w K mg base CX0 Wp 2 "_law_pick" s_law_pick P_law_pick sp_law_pick :=
  cal_of F hm sc_law_pick (fun cdv A outer s H E hr g => jb_law_pick m c_law_draw hr g) (Nat.le_refl _) law_law_pick
/-! ### _law_thing -/
abbrev s_law_thing : Stmt := topS 24
theorem sc_law_thing : FnScope N_law_thing P_law_thing (defScope s_law_thing) := ⟨rfl, rfl, rfl, by decide +kernel, rfl, by decide +kernel, by decide +kernel⟩
theorem jb_law_thing {P : Program} {w : World} {K : PySem.W.Frag} {mg : Str → Option Value} {base : Heap} {Wp : Wk → Prop} (m : Mg mg) (c_law_draw : Cal P w K mg base CX0 Wp 1 "_law_draw" s_law_draw P_law_draw sp_law_draw) (c_law_pick : Cal P w K mg base CX0 Wp 2 "_law_pick" s_law_pick P_law_pick sp_law_pick) {f : Addr} {cdv : Value} {A : Around} {outer : List Env} {s : Shared} {H : Hp} {E : XK}
    (hr : RmG 2 (A.deeper (envOfC "_law_thing" (defScope s_law_thing) s.heap.objs.size f cdv))) (g : Gx (cxOf CX0 P w K mg base N_law_thing "_law_thing" (defScope s_law_thing) f cdv A outer s H E)) :
    JB Wp E (cxOf CX0 P w K mg base N_law_thing "_law_thing" (defScope s_law_thing) f cdv A outer s H E) (defBody s_law_thing) d_law_thing :=
  sCons (qSet 1 g (qMth .join (oOf (jStr)) (qaCons (qLc [("_law_n", 4)] [4] g (qR1 m.n_range (qCall hr c_law_draw pass0G (fun _ _ _ _ _ _ us hl => match us, hl with | [_, _], _ => rfl) (qaCons (qV 0) (qaCons (jInt) (aNil0))))) (fun _ _ _ _ _ => qgN (g.blk _ _ _ _ _) 4) (fun _ _ _ _ _ => kIfs0) (fun _ _ _ _ _ => qCall hr c_law_pick pass0G (fun _ _ _ _ _ _ us hl => match us, hl with | [_, _], _ => rfl) (qaCons (qV 0) (qaCons (jStr) (aNil0)))) (by show blkC N_law_thing (defScope s_law_thing) _ _ = true; decide +kernel)) (aNil0)))) (sCons (qSet 2 g (jSub (oOf (qCall hr c_law_draw pass0G (fun _ _ _ _ _ _ us hl => match us, hl with | [_, _], _ => rfl) (qaCons (qV 0) (qaCons (jPow (oOf (jInt)) (oOf (jInt))) (aNil0))))) (oOf (jPow (oOf (jInt)) (oOf (jInt)))))) (sCons (qSet 3 g (jLst (qaCons (qV 1) (qaCons (qV 2) (qaCons (jBl) (qaCons (jBl) (qaCons (jNon) (qaCons (jTup (aNil0)) (qaCons (jTup (qaCons (qV 1) (qaCons (qV 2) (aNil0)))) (qaCons (jLst (qaCons (qV 1) (aNil0))) (qaCons (qDictS 2) (qaCons (jInt) (qaCons (jInt) (qaCons (jTup (qaCons (jTup (qaCons (jStr) (qaCons (jStr) (aNil0)))) (qaCons (jTup (qaCons (jStr) (aNil0))) (aNil0)))) (aNil0))))))))))))))) (sOne (sRet0 (qCall hr c_law_pick pass0G (fun _ _ _ _ _ _ us hl => match us, hl with | [_, _], _ => rfl) (qaCons (qV 0) (qaCons (qV 3) (aNil0))))))))
theorem cal_law_thing {P : Program} {w : World} {K : PySem.W.Frag} {mg : Str → Option Value} {base : Heap} {Wp : Wk → Prop} (m : Mg mg) (c_law_draw : Cal P w K mg base CX0 Wp 1 "_law_draw" s_law_draw P_law_draw sp_law_draw) (c_law_pick : Cal P w K mg base CX0 Wp 2 "_law_pick" s_law_pick P_law_pick sp_law_pick) {f : Addr} {fd : FuncData} (F : Fun K "_law_thing" "_law_thing" s_law_thing f fd) (hm : mg "_law_thing" = some (.ref f)) : Cal P w K mg base CX0 Wp 3 "_law_thing" s_law_thing P_law_thing sp_law_thing :=
  cal_of F hm sc_law_thing (fun cdv A outer s H E hr g => jb_law_thing m c_law_draw c_law_pick hr g) (Nat.le_refl _) law_law_thing
/-! ### _law_by_position -/
abbrev s_law_by_position : Stmt := topS 25
theorem sc_law_by_position : FnScope N_law_by_position P_law_by_position (defScope s_law_by_position) := ⟨rfl, rfl, rfl, by decide +kernel, rfl, by decide +kernel, by decide +kernel⟩
theorem jb_law_by_position {P : Program} {w : World} {K : PySem.W.Frag} {mg : Str → Option Value} {base : Heap} {Wp : Wk → Prop} (m : Mg mg) (y_InvalidText : ∃ C, Own0 K mg "InvalidText" C) (y_InvalidRandomness : ∃ C, Own0 K mg "InvalidRandomness" C) (y_InvalidFaulty : ∃ C, Own0 K mg "InvalidFaulty" C) (y_InvalidScheme : ∃ C, Own0 K mg "InvalidScheme" C) (y_NoCorrectValue : ∃ C, Own0 K mg "NoCorrectValue" C) (y_InvalidOverrides : ∃ C, OwnC P w K mg base "InvalidOverrides" "value" C) (y_InvalidName : ∃ C, OwnC P w K mg base "InvalidName" "value" C) (y_InvalidValue : ∃ C, OwnC P w K mg base "InvalidValue" "value" C) (y_Conflict : ∃ C, OwnC P w K mg base "Conflict" "sets" C) (y_InvalidLog : ∃ C, Own0 K mg "InvalidLog" C) (y_NotFound : ∃ C, OwnC P w K mg base "NotFound" "name" C) (y_NotEquivalent : ∃ C, OwnC P w K mg base "NotEquivalent" "operation" C) (y_InvalidObservers : ∃ C, OwnC P w K mg base "InvalidObservers" "value" C) (y_RandomnessExhausted : ∃ C, OwnC P w K mg base "RandomnessExhausted" "party" C) (y_UnknownParty : ∃ C, OwnC P w K mg base "UnknownParty" "name" C) (y_UnknownServer : ∃ C, OwnC P w K mg base "UnknownServer" "name" C) (y_UnknownClient : ∃ C, OwnC P w K mg base "UnknownClient" "name" C) (y_UnknownKey : ∃ C, OwnC P w K mg base "UnknownKey" "name" C) {f : Addr} {cdv : Value} {A : Around} {outer : List Env} {s : Shared} {H : Hp} {E : XK}
    (hr : RmG 2 (A.deeper (envOfC "_law_by_position" (defScope s_law_by_position) s.heap.objs.size f cdv))) (g : Gx (cxOf CX0 P w K mg base N_law_by_position "_law_by_position" (defScope s_law_by_position) f cdv A outer s H E)) :
    JB Wp E (cxOf CX0 P w K mg base N_law_by_position "_law_by_position" (defScope s_law_by_position) f cdv A outer s H E) (defBody s_law_by_position) d_law_by_position :=
  sCons (qSet 2 g (qLstO (qaCons (qMk0 y_NoCorrectValue (qV 1)) (qaCons (qMk0 y_InvalidScheme (qV 1)) (qaCons (qMk0 y_InvalidFaulty (qV 1)) (qaCons (qMk0 y_InvalidRandomness (qV 1)) (qaCons (qMk0 y_InvalidText (qV 1)) (aNil0)))))))) (sCons (qSet 2 g (qAddO (qO 2) (oOf (qLstO (qaCons (qMk0 y_InvalidLog (qV 1)) (qaCons (qMkx y_Conflict hr (qV 0)) (qaCons (qMkx y_InvalidValue hr (qV 0)) (qaCons (qMkx y_InvalidName hr (qV 0)) (qaCons (qMkx y_InvalidOverrides hr (qV 0)) (aNil0)))))))))) (sCons (qSet 2 g (qAddO (qO 2) (oOf (qLstO (qaCons (qMkx y_RandomnessExhausted hr (qV 0)) (qaCons (qMkx y_InvalidObservers hr (qV 0)) (qaCons (qMkx y_NotEquivalent hr (qV 0)) (qaCons (qMkx y_NotFound hr (qV 0)) (aNil0))))))))) (sOne (sRet0 (qAddO (qO 2) (oOf (qLstO (qaCons (qMkx y_UnknownKey hr (qV 0)) (qaCons (qMkx y_UnknownClient hr (qV 0)) (qaCons (qMkx y_UnknownServer hr (qV 0)) (qaCons (qMkx y_UnknownParty hr (qV 0)) (aNil0))))))))))))
theorem cal_law_by_position {P : Program} {w : World} {K : PySem.W.Frag} {mg : Str → Option Value} {base : Heap} {Wp : Wk → Prop} (m : Mg mg) (y_InvalidText : ∃ C, Own0 K mg "InvalidText" C) (y_InvalidRandomness : ∃ C, Own0 K mg "InvalidRandomness" C) (y_InvalidFaulty : ∃ C, Own0 K mg "InvalidFaulty" C) (y_InvalidScheme : ∃ C, Own0 K mg "InvalidScheme" C) (y_NoCorrectValue : ∃ C, Own0 K mg "NoCorrectValue" C) (y_InvalidOverrides : ∃ C, OwnC P w K mg base "InvalidOverrides" "value" C) (y_InvalidName : ∃ C, OwnC P w K mg base "InvalidName" "value" C) (y_InvalidValue : ∃ C, OwnC P w K mg base "InvalidValue" "value" C) (y_Conflict : ∃ C, OwnC P w K mg base "Conflict" "sets" C) (y_InvalidLog : ∃ C, Own0 K mg "InvalidLog" C) (y_NotFound : ∃ C, OwnC P w K mg base "NotFound" "name" C) (y_NotEquivalent : ∃ C, OwnC P w K mg base "NotEquivalent" "operation" C) (y_InvalidObservers : ∃ C, OwnC P w K mg base "InvalidObservers" "value" C) (y_RandomnessExhausted : ∃ C, OwnC P w K mg base "RandomnessExhausted" "party" C) (y_UnknownParty : ∃ C, OwnC P w K mg base "UnknownParty" "name" C) (y_UnknownServer : ∃ C, OwnC P w K mg base "UnknownServer" "name" C) (y_UnknownClient : ∃ C, OwnC P w K mg base "UnknownClient" "name" C) (y_UnknownKey : ∃ C, OwnC P w K mg base "UnknownKey" "name" C) {f : Addr} {fd : FuncData} (F : Fun K "_law_by_position" "_law_by_position" s_law_by_position f fd) (hm : mg "_law_by_position" = some (.ref f)) : Cal P w K mg base CX0 Wp 3 "_law_by_position" s_law_by_position P_law_by_position sp_law_by_position :=
  cal_of F hm sc_law_by_position (fun cdv A outer s H E hr g => jb_law_by_position m y_InvalidText y_InvalidRandomness y_InvalidFaulty y_InvalidScheme y_NoCorrectValue y_InvalidOverrides y_InvalidName y_InvalidValue y_Conflict y_InvalidLog y_NotFound y_NotEquivalent y_InvalidObservers y_RandomnessExhausted y_UnknownParty y_UnknownServer y_UnknownClient y_UnknownKey hr g) (Nat.le_refl _) law_law_by_position
/-! ### _law_by_name -/
abbrev s_law_by_name : Stmt := topS 26
theorem sc_law_by_name : FnScope N_law_by_name P_law_by_name (defScope s_law_by_name) := ⟨rfl, rfl, rfl, by decide +kernel, rfl, by decide +kernel, by decide +kernel⟩
theorem jb_law_by_name {P : Program} {w : World} {K : PySem.W.Frag} {mg : Str → Option Value} {base : Heap} {Wp : Wk → Prop} (m : Mg mg) (y_InvalidOverrides : ∃ C, OwnC P w K mg base "InvalidOverrides" "value" C) (y_InvalidName : ∃ C, OwnC P w K mg base "InvalidName" "value" C) (y_InvalidValue : ∃ C, OwnC P w K mg base "InvalidValue" "value" C) (y_Conflict : ∃ C, OwnC P w K mg base "Conflict" "sets" C) (y_NotEquivalent : ∃ C, OwnC P w K mg base "NotEquivalent" "operation" C) (y_InvalidObservers : ∃ C, OwnC P w K mg base "InvalidObservers" "value" C) (y_RandomnessExhausted : ∃ C, OwnC P w K mg base "RandomnessExhausted" "party" C) (y_UnknownServer : ∃ C, OwnC P w K mg base "UnknownServer" "name" C) (y_UnknownClient : ∃ C, OwnC P w K mg base "UnknownClient" "name" C) (y_UnknownKey : ∃ C, OwnC P w K mg base "UnknownKey" "name" C) (y_NotFound : ∃ C, OwnC P w K mg base "NotFound" "name" C) (y_UnknownParty : ∃ C, OwnC P w K mg base "UnknownParty" "name" C) {f : Addr} {cdv : Value} {A : Around} {outer : List Env} {s : Shared} {H : Hp} {E : XK}
    (hr : RmG 2 (A.deeper (envOfC "_law_by_name" (defScope s_law_by_name) s.heap.objs.size f cdv))) (g : Gx (cxOf CX0 P w K mg base N_law_by_name "_law_by_name" (defScope s_law_by_name) f cdv A outer s H E)) :
    JB Wp E (cxOf CX0 P w K mg base N_law_by_name "_law_by_name" (defScope s_law_by_name) f cdv A outer s H E) (defBody s_law_by_name) d_law_by_name :=
  sCons (qSet 1 g (qLstO (qaCons (qMkxK y_Conflict hr (qV 0)) (qaCons (qMkxK y_InvalidValue hr (qV 0)) (qaCons (qMkxK y_InvalidName hr (qV 0)) (qaCons (qMkxK y_InvalidOverrides hr (qV 0)) (aNil0))))))) (sCons (qSet 1 g (qAddO (qO 1) (oOf (qLstO (qaCons (qMkxK y_RandomnessExhausted hr (qV 0)) (qaCons (qMkxK y_InvalidObservers hr (qV 0)) (qaCons (qMkxK y_NotEquivalent hr (qV 0)) (aNil0)))))))) (sCons (qSet 1 g (qAddO (qO 1) (oOf (qLstO (qaCons (qMkxK y_NotFound hr (qV 0)) (qaCons (qMkxK y_UnknownKey hr (qV 0)) (qaCons (qMkxK y_UnknownClient hr (qV 0)) (qaCons (qMkxK y_UnknownServer hr (qV 0)) (aNil0))))))))) (sOne (sRet0 (qAddO (qO 1) (oOf (qLstO (qaCons (qMkxK y_UnknownParty hr (qV 0)) (aNil0)))))))))
theorem cal_law_by_name {P : Program} {w : World} {K : PySem.W.Frag} {mg : Str → Option Value} {base : Heap} {Wp : Wk → Prop} (m : Mg mg) (y_InvalidOverrides : ∃ C, OwnC P w K mg base "InvalidOverrides" "value" C) (y_InvalidName : ∃ C, OwnC P w K mg base "InvalidName" "value" C) (y_InvalidValue : ∃ C, OwnC P w K mg base "InvalidValue" "value" C) (y_Conflict : ∃ C, OwnC P w K mg base "Conflict" "sets" C) (y_NotEquivalent : ∃ C, OwnC P w K mg base "NotEquivalent" "operation" C) (y_InvalidObservers : ∃ C, OwnC P w K mg base "InvalidObservers" "value" C) (y_RandomnessExhausted : ∃ C, OwnC P w K mg base "RandomnessExhausted" "party" C) (y_UnknownServer : ∃ C, OwnC P w K mg base "UnknownServer" "name" C) (y_UnknownClient : ∃ C, OwnC P w K mg base "UnknownClient" "name" C) (y_UnknownKey : ∃ C, OwnC P w K mg base "UnknownKey" "name" C) (y_NotFound : ∃ C, OwnC P w K mg base "NotFound" "name" C) (y_UnknownParty : ∃ C, OwnC P w K mg base "UnknownParty" "name" C) {f : Addr} {fd : FuncData} (F : Fun K "_law_by_name" "_law_by_name" s_law_by_name f fd) (hm : mg "_law_by_name" = some (.ref f)) : Cal P w K mg base CX0 Wp 3 "_law_by_name" s_law_by_name P_law_by_name sp_law_by_name :=
  cal_of F hm sc_law_by_name (fun cdv A outer s H E hr g => jb_law_by_name m y_InvalidOverrides y_InvalidName y_InvalidValue y_Conflict y_NotEquivalent y_InvalidObservers y_RandomnessExhausted y_UnknownServer y_UnknownClient y_UnknownKey y_NotFound y_UnknownParty hr g) (Nat.le_refl _) law_law_by_name
/-! ### _law_attributes -/
abbrev s_law_attributes : Stmt := topS 27
theorem sc_law_attributes : FnScope N_law_attributes P_law_attributes (defScope s_law_attributes) := ⟨rfl, rfl, rfl, by decide +kernel, rfl, by decide +kernel, by decide +kernel⟩
theorem jb_law_attributes {P : Program} {w : World} {K : PySem.W.Frag} {mg : Str → Option Value} {base : Heap} {Wp : Wk → Prop} (m : Mg mg) (T : ExT K exN exF) {f : Addr} {cdv : Value} {A : Around} {outer : List Env} {s : Shared} {H : Hp} {E : XK}
    (hr : RmG 0 (A.deeper (envOfC "_law_attributes" (defScope s_law_attributes) s.heap.objs.size f cdv))) (g : Gx (cxOf CX0 P w K mg base N_law_attributes "_law_attributes" (defScope s_law_attributes) f cdv A outer s H E)) :
    JB Wp E (cxOf CX0 P w K mg base N_law_attributes "_law_attributes" (defScope s_law_attributes) f cdv A outer s H E) (defBody s_law_attributes) d_law_attributes :=
  sCons (qSet 1 g (jLst (qaCons (qFld T (qIdxO (qO 0) (oOf (jInt)))) (qaCons (qFld T (qIdxO (qO 0) (oOf (jInt)))) (qaCons (qFld T (qIdxO (qO 0) (oOf (jInt)))) (qaCons (qFld T (qIdxO (qO 0) (oOf (jInt)))) (qaCons (qFld T (qIdxO (qO 0) (oOf (jInt)))) (qaCons (qFld T (qIdxO (qO 0) (oOf (jInt)))) (aNil0))))))))) (sOne (sRet0 (jAdd (oOf (jAdd (qO 1) (oOf (jLst (qaCons (qFld T (qIdxO (qO 0) (oOf (jInt)))) (aNil0)))))) (oOf (qLcO [("_law_e", 2)] [2] g (wOL (qSliO (qO 0) (pSome (jInt)) (pNone))) (fun _ _ _ _ _ => qgN (g.blk _ _ _ _ _) 2) (fun _ _ _ _ _ => qFld T (qV 2)) (by show blkC N_law_attributes (defScope s_law_attributes) _ _ = true; decide +kernel))))))
theorem cal_law_attributes {P : Program} {w : World} {K : PySem.W.Frag} {mg : Str → Option Value} {base : Heap} {Wp : Wk → Prop} (m : Mg mg) (T : ExT K exN exF) {f : Addr} {fd : FuncData} (F : Fun K "_law_attributes" "_law_attributes" s_law_attributes f fd) (hm : mg "_law_attributes" = some (.ref f)) : Cal P w K mg base CX0 Wp 1 "_law_attributes" s_law_attributes P_law_attributes sp_law_attributes :=
  cal_of F hm sc_law_attributes (fun cdv A outer s H E hr g => jb_law_attributes m T hr g) (Nat.le_refl _) law_law_attributes
/-! ### _law_instances -/
abbrev s_law_instances : Stmt := topS 28
theorem sc_law_instances : FnScope N_law_instances P_law_instances (defScope s_law_instances) := ⟨rfl, rfl, rfl, by decide +kernel, rfl, by decide +kernel, by decide +kernel⟩
theorem jb_law_instances {P : Program} {w : World} {K : PySem.W.Frag} {mg : Str → Option Value} {base : Heap} {Wp : Wk → Prop} (m : Mg mg) (T : ExT K exN exF) (io_InvalidFaulty : ∃ C, mg "InvalidFaulty" = some (.ref C) ∧ IsT K exN (.ref C) (subT "InvalidFaulty")) (io_InvalidScheme : ∃ C, mg "InvalidScheme" = some (.ref C) ∧ IsT K exN (.ref C) (subT "InvalidScheme")) (io_NoCorrectValue : ∃ C, mg "NoCorrectValue" = some (.ref C) ∧ IsT K exN (.ref C) (subT "NoCorrectValue")) (io_InvalidLog : ∃ C, mg "InvalidLog" = some (.ref C) ∧ IsT K exN (.ref C) (subT "InvalidLog")) (io_InvalidText : ∃ C, mg "InvalidText" = some (.ref C) ∧ IsT K exN (.ref C) (subT "InvalidText")) (io_InvalidRandomness : ∃ C, mg "InvalidRandomness" = some (.ref C) ∧ IsT K exN (.ref C) (subT "InvalidRandomness")) (io_InvalidName : ∃ C, mg "InvalidName" = some (.ref C) ∧ IsT K exN (.ref C) (subT "InvalidName")) (io_InvalidValue : ∃ C, mg "InvalidValue" = some (.ref C) ∧ IsT K exN (.ref C) (subT "InvalidValue")) (io_Conflict : ∃ C, mg "Conflict" = some (.ref C) ∧ IsT K exN (.ref C) (subT "Conflict")) (io_RandomnessExhausted : ∃ C, mg "RandomnessExhausted" = some (.ref C) ∧ IsT K exN (.ref C) (subT "RandomnessExhausted")) (io_InvalidOverrides : ∃ C, mg "InvalidOverrides" = some (.ref C) ∧ IsT K exN (.ref C) (subT "InvalidOverrides")) (io_NotFound : ∃ C, mg "NotFound" = some (.ref C) ∧ IsT K exN (.ref C) (subT "NotFound")) (io_NotEquivalent : ∃ C, mg "NotEquivalent" = some (.ref C) ∧ IsT K exN (.ref C) (subT "NotEquivalent")) (io_InvalidObservers : ∃ C, mg "InvalidObservers" = some (.ref C) ∧ IsT K exN (.ref C) (subT "InvalidObservers")) (io_UnknownServer : ∃ C, mg "UnknownServer" = some (.ref C) ∧ IsT K exN (.ref C) (subT "UnknownServer")) (io_UnknownClient : ∃ C, mg "UnknownClient" = some (.ref C) ∧ IsT K exN (.ref C) (subT "UnknownClient")) (io_UnknownKey : ∃ C, mg "UnknownKey" = some (.ref C) ∧ IsT K exN (.ref C) (subT "UnknownKey")) (io_LotkeptError : ∃ C, mg "LotkeptError" = some (.ref C) ∧ IsT K exN (.ref C) (subT "LotkeptError")) (io_UnknownParty : ∃ C, mg "UnknownParty" = some (.ref C) ∧ IsT K exN (.ref C) (subT "UnknownParty")) (ib_ValueError : IsT K exN (.type "ValueError") (subT "ValueError")) (ib_KeyError : IsT K exN (.type "KeyError") (subT "KeyError")) {f : Addr} {cdv : Value} {A : Around} {outer : List Env} {s : Shared} {H : Hp} {E : XK}
    (hr : RmG 0 (A.deeper (envOfC "_law_instances" (defScope s_law_instances) s.heap.objs.size f cdv))) (g : Gx (cxOf CX0 P w K mg base N_law_instances "_law_instances" (defScope s_law_instances) f cdv A outer s H E)) :
    JB Wp E (cxOf CX0 P w K mg base N_law_instances "_law_instances" (defScope s_law_instances) f cdv A outer s H E) (defBody s_law_instances) d_law_instances :=
  sCons (qSet 1 g (jLst (qaCons ((let ⟨_, h1, h2⟩ := io_NoCorrectValue; qIsO T h2 h1 m.n_isinstance (qV 0))) (qaCons ((let ⟨_, h1, h2⟩ := io_InvalidScheme; qIsO T h2 h1 m.n_isinstance (qV 0))) (qaCons ((let ⟨_, h1, h2⟩ := io_InvalidFaulty; qIsO T h2 h1 m.n_isinstance (qV 0))) (aNil0)))))) (sCons (qSet 1 g (jAdd (qO 1) (oOf (jLst (qaCons ((let ⟨_, h1, h2⟩ := io_InvalidRandomness; qIsO T h2 h1 m.n_isinstance (qV 0))) (qaCons ((let ⟨_, h1, h2⟩ := io_InvalidText; qIsO T h2 h1 m.n_isinstance (qV 0))) (qaCons ((let ⟨_, h1, h2⟩ := io_InvalidLog; qIsO T h2 h1 m.n_isinstance (qV 0))) (aNil0)))))))) (sCons (qSet 1 g (jAdd (qO 1) (oOf (jLst (qaCons ((let ⟨_, h1, h2⟩ := io_Conflict; qIsO T h2 h1 m.n_isinstance (qV 0))) (qaCons ((let ⟨_, h1, h2⟩ := io_InvalidValue; qIsO T h2 h1 m.n_isinstance (qV 0))) (qaCons ((let ⟨_, h1, h2⟩ := io_InvalidName; qIsO T h2 h1 m.n_isinstance (qV 0))) (aNil0)))))))) (sCons (qSet 1 g (jAdd (qO 1) (oOf (jLst (qaCons ((let ⟨_, h1, h2⟩ := io_InvalidOverrides; qIsO T h2 h1 m.n_isinstance (qV 0))) (qaCons ((let ⟨_, h1, h2⟩ := io_RandomnessExhausted; qIsO T h2 h1 m.n_isinstance (qV 0))) (aNil0))))))) (sCons (qSet 1 g (jAdd (qO 1) (oOf (jLst (qaCons ((let ⟨_, h1, h2⟩ := io_InvalidObservers; qIsO T h2 h1 m.n_isinstance (qV 0))) (qaCons ((let ⟨_, h1, h2⟩ := io_NotEquivalent; qIsO T h2 h1 m.n_isinstance (qV 0))) (qaCons ((let ⟨_, h1, h2⟩ := io_NotFound; qIsO T h2 h1 m.n_isinstance (qV 0))) (aNil0)))))))) (sCons (qSet 1 g (jAdd (qO 1) (oOf (jLst (qaCons ((let ⟨_, h1, h2⟩ := io_UnknownKey; qIsO T h2 h1 m.n_isinstance (qV 0))) (qaCons ((let ⟨_, h1, h2⟩ := io_UnknownClient; qIsO T h2 h1 m.n_isinstance (qV 0))) (qaCons ((let ⟨_, h1, h2⟩ := io_UnknownServer; qIsO T h2 h1 m.n_isinstance (qV 0))) (aNil0)))))))) (sCons (qSet 1 g (jAdd (qO 1) (oOf (jLst (qaCons ((let ⟨_, h1, h2⟩ := io_UnknownParty; qIsO T h2 h1 m.n_isinstance (qV 0))) (qaCons ((let ⟨_, h1, h2⟩ := io_LotkeptError; qIsO T h2 h1 m.n_isinstance (qV 0))) (qaCons (qIsOB T ib_ValueError m.n_ValueError m.n_isinstance (qV 0)) (aNil0)))))))) (sOne (sRet0 (jAdd (qO 1) (oOf (jLst (qaCons (qIsOB T ib_KeyError m.n_KeyError m.n_isinstance (qV 0)) (aNil0)))))))))))))
theorem cal_law_instances {P : Program} {w : World} {K : PySem.W.Frag} {mg : Str → Option Value} {base : Heap} {Wp : Wk → Prop} (m : Mg mg) (T : ExT K exN exF) (io_InvalidFaulty : ∃ C, mg "InvalidFaulty" = some (.ref C) ∧ IsT K exN (.ref C) (subT "InvalidFaulty")) (io_InvalidScheme : ∃ C, mg "InvalidScheme" = some (.ref C) ∧ IsT K exN (.ref C) (subT "InvalidScheme")) (io_NoCorrectValue : ∃ C, mg "NoCorrectValue" = some (.ref C) ∧ IsT K exN (.ref C) (subT "NoCorrectValue")) (io_InvalidLog : ∃ C, mg "InvalidLog" = some (.ref C) ∧ IsT K exN (.ref C) (subT "InvalidLog")) (io_InvalidText : ∃ C, mg "InvalidText" = some (.ref C) ∧ IsT K exN (.ref C) (subT "InvalidText")) (io_InvalidRandomness : ∃ C, mg "InvalidRandomness" = some (.ref C) ∧ IsT K exN (.ref C) (subT "InvalidRandomness")) (io_InvalidName : ∃ C, mg "InvalidName" = some (.ref C) ∧ IsT K exN (.ref C) (subT "InvalidName")) (io_InvalidValue : ∃ C, mg "InvalidValue" = some (.ref C) ∧ IsT K exN (.ref C) (subT "InvalidValue")) (io_Conflict : ∃ C, mg "Conflict" = some (.ref C) ∧ IsT K exN (.ref C) (subT "Conflict")) (io_RandomnessExhausted : ∃ C, mg "RandomnessExhausted" = some (.ref C) ∧ IsT K exN (.ref C) (subT "RandomnessExhausted")) (io_InvalidOverrides : ∃ C, mg "InvalidOverrides" = some (.ref C) ∧ IsT K exN (.ref C) (subT "InvalidOverrides")) (io_NotFound : ∃ C, mg "NotFound" = some (.ref C) ∧ IsT K exN (.ref C) (subT "NotFound")) (io_NotEquivalent : ∃ C, mg "NotEquivalent" = some (.ref C) ∧ IsT K exN (.ref C) (subT "NotEquivalent")) (io_InvalidObservers : ∃ C, mg "InvalidObservers" = some (.ref C) ∧ IsT K exN (.ref C) (subT "InvalidObservers")) (io_UnknownServer : ∃ C, mg "UnknownServer" = some (.ref C) ∧ IsT K exN (.ref C) (subT "UnknownServer")) (io_UnknownClient : ∃ C, mg "UnknownClient" = some (.ref C) ∧ IsT K exN (.ref C) (subT "UnknownClient")) (io_UnknownKey : ∃ C, mg "UnknownKey" = some (.ref C) ∧ IsT K exN (.ref C) (subT "UnknownKey")) (io_LotkeptError : ∃ C, mg "LotkeptError" = some (.ref C) ∧ IsT K exN (.ref C) (subT "LotkeptError")) (io_UnknownParty : ∃ C, mg "UnknownParty" = some (.ref C) ∧ IsT K exN (.ref C) (subT "UnknownParty")) (ib_ValueError : IsT K exN (.type "ValueError") (subT "ValueError")) (ib_KeyError : IsT K exN (.type "KeyError") (subT "KeyError")) {f : Addr} {fd : FuncData} (F : Fun K "_law_instances" "_law_instances" s_law_instances f fd) (hm : mg "_law_instances" = some (.ref f)) : Cal P w K mg base CX0 Wp 1 "_law_instances" s_law_instances P_law_instances sp_law_instances :=
  cal_of F hm sc_law_instances (fun cdv A outer s H E hr g => jb_law_instances m T io_InvalidFaulty io_InvalidScheme io_NoCorrectValue io_InvalidLog io_InvalidText io_InvalidRandomness io_InvalidName io_InvalidValue io_Conflict io_RandomnessExhausted io_InvalidOverrides io_NotFound io_NotEquivalent io_InvalidObservers io_UnknownServer io_UnknownClient io_UnknownKey io_LotkeptError io_UnknownParty ib_ValueError ib_KeyError hr g) (Nat.le_refl _) law_law_instances
/-! ### _law_expected -/
abbrev s_law_expected : Stmt := topS 29
theorem sc_law_expected : FnScope N_law_expected P_law_expected (defScope s_law_expected) := ⟨rfl, rfl, rfl, by decide +kernel, rfl, by decide +kernel, by decide +kernel⟩
theorem jb_law_expected {P : Program} {w : World} {K : PySem.W.Frag} {mg : Str → Option Value} {base : Heap} {Wp : Wk → Prop} (m : Mg mg) {f : Addr} {cdv : Value} {A : Around} {outer : List Env} {s : Shared} {H : Hp} {E : XK}
    (hr : RmG 0 (A.deeper (envOfC "_law_expected" (defScope s_law_expected) s.heap.objs.size f cdv))) (g : Gx (cxOf CX0 P w K mg base N_law_expected "_law_expected" (defScope s_law_expected) f cdv A outer s H E)) :
    JB Wp E (cxOf CX0 P w K mg base N_law_expected "_law_expected" (defScope s_law_expected) f cdv A outer s H E) (defBody s_law_expected) d_law_expected :=
  sCons (qSetLc 1 [("_law_n", 2)] [2] g (qR1 m.n_range (jInt)) (fun _ _ _ _ _ => qgN (g.blk _ _ _ _ _) 2) (fun _ _ _ _ _ => kIfs0) (fun _ _ _ _ _ => jOr (qCmp .eq (g.blk _ _ _ _ _) (qO 2) (qO 0)) (jAnd1 (jAnd (qCmp .eq (g.blk _ _ _ _ _) (qO 2) (oOf (jInt))) (jAnd1 (qCmp .gt (g.blk _ _ _ _ _) (qO 0) (oOf (jInt))))))) (by show blkC N_law_expected (defScope s_law_expected) _ _ = true; decide +kernel)) (sOne (sRet0 (jAdd (qO 1) (oOf (jLst (qaCons (qCmp .lt g (qO 0) (oOf (jInt))) (qaCons (qCmp .lt g (qO 0) (oOf (jInt))) (qaCons (qCmp .gt g (qO 0) (oOf (jInt))) (aNil0)))))))))
theorem cal_law_expected {P : Program} {w : World} {K : PySem.W.Frag} {mg : Str → Option Value} {base : Heap} {Wp : Wk → Prop} (m : Mg mg) {f : Addr} {fd : FuncData} (F : Fun K "_law_expected" "_law_expected" s_law_expected f fd) (hm : mg "_law_expected" = some (.ref f)) : Cal P w K mg base CX0 Wp 1 "_law_expected" s_law_expected P_law_expected sp_law_expected :=
  cal_of F hm sc_law_expected (fun cdv A outer s H E hr g => jb_law_expected m hr g) (Nat.le_refl _) law_law_expected
/-! ### _law_caught -/
abbrev s_law_caught : Stmt := topS 30
def nsC (K : PySem.W.Frag) (nm : Str) (p : Addr → Bool) : Bool := match PySem.W.nsIn K mainGlobals nm with
  | some (some (.ref C)) => p C
  | _ => false
theorem nsC_ok {K : PySem.W.Frag} {nm : Str} {p : Addr → Bool} {C : Addr} (h : nsC K nm p = true) (e : PySem.W.nsIn K mainGlobals nm = some (some (.ref C))) : p C = true := by
  unfold nsC at h
  rw [e] at h
  exact h
abbrev ck0 (K : PySem.W.Frag) : Bool := exN.all fun nm => nsC K nm fun C => ecB K C
abbrev ck1 (K : PySem.W.Frag) : Bool := exF.all fun p => nsC K p.1 fun C => xfB K C && decide (PySem.W.findIn K (.ref C) p.2 = some none)
abbrev ck2 (K : PySem.W.Frag) : Bool := (exD.take 19).all fun D => nsC K D fun CD => exN.all fun nm => nsC K nm fun C => decide (PySem.W.kitOne K (.ref C) (.ref CD) = some (subT D nm))
abbrev ck3 (K : PySem.W.Frag) (t : String) : Bool := exN.all fun nm => nsC K nm fun C => decide (PySem.W.kitOne K (.ref C) (.type t) = some (subT t nm))
abbrev ck4 (K : PySem.W.Frag) : Bool := exN.all fun nm => nsC K nm fun C => PySem.W.keepIn K (.ref C) && (decide (PySem.W.subIn K (.ref C) (.type "BaseException") = some true) && decide (PySem.W.typeIn K (.ref C) = some (.type "type")))
def vFs : List (Str × Str) := [("Conflict", "sets"), ("InvalidValue", "value"), ("InvalidName", "value"), ("InvalidOverrides", "value"), ("RandomnessExhausted", "party"), ("InvalidObservers", "value"), ("NotEquivalent", "operation")]
def kFs : List Str := ["NotFound", "UnknownKey", "UnknownClient", "UnknownServer", "UnknownParty"]
def oFs : List Str := ["NoCorrectValue", "InvalidScheme", "InvalidFaulty", "InvalidRandomness", "InvalidText", "InvalidLog"]
abbrev ck5 (K : PySem.W.Frag) : Bool := vFs.all fun p => nsC K p.1 fun C => PySem.W.excInitIn K C veTail "ValueError.__new__" && oexB K C
abbrev ck6 (K : PySem.W.Frag) : Bool := kFs.all fun nm => nsC K nm fun C => PySem.W.excInitIn K C keTail "LookupError.__new__" && (PySem.W.excOver K C keTail && (PySem.W.hasDictIn K C && decide (PySem.W.findIn K (.ref C) "__setattr__" = some (some (.builtin "object.__setattr__")))))
def tFs : List (Str × Str) := [("Conflict", "LotkeptError"), ("NoCorrectValue", "LotkeptError"), ("NotEquivalent", "LotkeptError"), ("UnknownParty", "NotFound")]
abbrev ck8 (K : PySem.W.Frag) : Bool := tFs.all fun p => nsC K p.1 fun C => nsC K p.2 fun D => decide (PySem.W.exmOne K (.ref C) (.ref D) = some true)
abbrev ck9 (K : PySem.W.Frag) : Bool := nsC K "UnknownServer" fun C => decide (PySem.W.exmOne K (.ref C) (.type "KeyError") = some true)
theorem exT_ok {K : PySem.W.Frag} (h0 : ck0 K = true) (h1 : ck1 K = true) : ExT K exN exF :=
  ⟨fun nm hm C e => ecB_ok (nsC_ok (List.all_eq_true.mp h0 nm hm) e), fun nm f C hm e => by
    have z := nsC_ok (List.all_eq_true.mp h1 (nm, f) hm) e
    rw [Bool.and_eq_true, decide_eq_true_eq] at z
    exact ⟨xfB_ok z.1, z.2⟩⟩
theorem io_ok {K : PySem.W.Frag} {mg : Str → Option Value} {D : Str} {CD : Addr} (h : ck2 K = true) (hD : D ∈ exD.take 19) (g : mg D = some (.ref CD)) (e : PySem.W.nsIn K mainGlobals D = some (some (.ref CD))) : ∃ C, mg D = some (.ref C) ∧ IsT K exN (.ref C) (subT D) :=
  ⟨CD, g, fun nm hm C ec => of_decide_eq_true (nsC_ok (List.all_eq_true.mp (nsC_ok (List.all_eq_true.mp h D hD) e) nm hm) ec)⟩
theorem ib_ok {K : PySem.W.Frag} {t : String} (h : ck3 K t = true) : IsT K exN (.type t) (subT t) := fun nm hm C ec => of_decide_eq_true (nsC_ok (List.all_eq_true.mp h nm hm) ec)
theorem ck4_ok {K : PySem.W.Frag} {nm : Str} {C : Addr} (h : ck4 K = true) (hm : nm ∈ exN) (e : PySem.W.nsIn K mainGlobals nm = some (some (.ref C))) : PySem.W.keepIn K (.ref C) = true ∧ PySem.W.subIn K (.ref C) (.type "BaseException") = some true ∧ PySem.W.typeIn K (.ref C) = some (.type "type") := by
  have z := nsC_ok (List.all_eq_true.mp h nm hm) e
  rw [Bool.and_eq_true, Bool.and_eq_true, decide_eq_true_eq, decide_eq_true_eq] at z
  exact z
theorem own0_ok {K : PySem.W.Frag} {mg : Str → Option Value} {nm : Str} {C : Addr} (h4 : ck4 K = true) (h7 : PySem.W.excIn K C [Value.type "ValueError", Value.type "Exception", Value.type "BaseException", Value.type "object"] "ValueError.__new__" = true) (hn : nm ∈ exN) (g : mg nm = some (.ref C)) (e : PySem.W.nsIn K mainGlobals nm = some (some (.ref C))) : ∃ C, Own0 K mg nm C :=
  ⟨C, g, e, (ck4_ok h4 hn e).1, h7⟩
def initOf : Stmt → Stmt
  | .ClassDef _ _ _ (b :: _) _ _ _ _ _ _ _ => b
  | s => s
abbrev s_iConflict : Stmt := initOf (topS 2)
theorem sc_iConflict : FnScope ["self", "sets"] ["self", "sets"] (defScope s_iConflict) := ⟨rfl, rfl, rfl, by decide +kernel, rfl, by decide +kernel, by decide +kernel⟩
abbrev s_iInvalidValue : Stmt := initOf (topS 9)
theorem sc_iInvalidValue : FnScope ["self", "value"] ["self", "value"] (defScope s_iInvalidValue) := ⟨rfl, rfl, rfl, by decide +kernel, rfl, by decide +kernel, by decide +kernel⟩
abbrev s_iInvalidName : Stmt := initOf (topS 10)
theorem sc_iInvalidName : FnScope ["self", "value"] ["self", "value"] (defScope s_iInvalidName) := ⟨rfl, rfl, rfl, by decide +kernel, rfl, by decide +kernel, by decide +kernel⟩
abbrev s_iInvalidOverrides : Stmt := initOf (topS 11)
theorem sc_iInvalidOverrides : FnScope ["self", "value"] ["self", "value"] (defScope s_iInvalidOverrides) := ⟨rfl, rfl, rfl, by decide +kernel, rfl, by decide +kernel, by decide +kernel⟩
abbrev s_iRandomnessExhausted : Stmt := initOf (topS 12)
theorem sc_iRandomnessExhausted : FnScope ["self", "party"] ["self", "party"] (defScope s_iRandomnessExhausted) := ⟨rfl, rfl, rfl, by decide +kernel, rfl, by decide +kernel, by decide +kernel⟩
abbrev s_iInvalidObservers : Stmt := initOf (topS 13)
theorem sc_iInvalidObservers : FnScope ["self", "value"] ["self", "value"] (defScope s_iInvalidObservers) := ⟨rfl, rfl, rfl, by decide +kernel, rfl, by decide +kernel, by decide +kernel⟩
abbrev s_iNotEquivalent : Stmt := initOf (topS 14)
theorem sc_iNotEquivalent : FnScope ["self", "operation"] ["self", "operation"] (defScope s_iNotEquivalent) := ⟨rfl, rfl, rfl, by decide +kernel, rfl, by decide +kernel, by decide +kernel⟩
abbrev s_iNotFound : Stmt := initOf (topS 15)
theorem sc_iNotFound : FnScope ["self", "name"] ["self", "name"] (defScope s_iNotFound) := ⟨rfl, rfl, rfl, by decide +kernel, rfl, by decide +kernel, by decide +kernel⟩
theorem own_Conflict {P : Program} {w : World} {K : PySem.W.Frag} {mg : Str → Option Value} {base : Heap} {C f : Addr} {fd : FuncData} (g : mg "Conflict" = some (.ref C)) (gk : PySem.W.nsIn K mainGlobals "Conflict" = some (some (.ref C))) (h1 : ck1 K = true) (h5 : ck5 K = true) (b : BasI K mg "LotkeptError") (iC : PySem.W.findIn K (.ref C) "__init__" = some (some (.ref f))) (tI : PySem.W.typeIn K (.ref f) = some (.type "function"))
    (F : Fun K "__init__" "Conflict.__init__" s_iConflict f fd) : OwnC P w K mg base "Conflict" "sets" C := by
  have z := nsC_ok (List.all_eq_true.mp h5 ("Conflict", "sets") (by decide +kernel)) gk
  rw [Bool.and_eq_true] at z
  have ox := oexB_ok z.2
  have y := nsC_ok (List.all_eq_true.mp h1 ("Conflict", "sets") (by decide +kernel)) gk
  rw [Bool.and_eq_true, decide_eq_true_eq] at y
  have nf := y.2
  refine ⟨g, gk, ox.kC, ⟨_, _, _, newx_VE, z.1⟩, f, fd, iC, tI, F.ok (N := ["self", "sets"]) sc_iConflict (fun vs H Q E ⟨a, v, h, _⟩ => by rw [h]; rfl) (fun cdv A outer s H vs Q E hr sp => ⟨_, PSs.nox (pss_cons (ps_expr (pe_baseinit b (pa_cons (pv 0) (pa_cons pe_str pa_nil)))) (pss_one (ps_ost (pv 0) (pv 1)))), ?_⟩), F.binds (fun _ _ _ _ _ _ us hl => match us, hl with | [_, _], _ => rfl), fun s us ws _ h1 h2 => match us, ws, h1, h2 with | [_], [_], _, _ => by obtain ⟨oc, od, kV, doc, pm, an, cdv, ct, osl, rfl, lk, hcd⟩ := F.ex; exact .of_eq rfl⟩
  obtain ⟨a, v, rfl, ha, q⟩ := sp
  exact ⟨.ref a, rfl, a, C, [_], rfl, by show 1 ≤ 1000; omega, ox, ha, v, rfl, .ref a, rfl, a, C, rfl, ox, nf, .inl ⟨ha, fun dx h n => q dx h n⟩⟩
theorem own_InvalidValue {P : Program} {w : World} {K : PySem.W.Frag} {mg : Str → Option Value} {base : Heap} {C f : Addr} {fd : FuncData} (g : mg "InvalidValue" = some (.ref C)) (gk : PySem.W.nsIn K mainGlobals "InvalidValue" = some (some (.ref C))) (h1 : ck1 K = true) (h5 : ck5 K = true) (b : BasI K mg "LotkeptError") (iC : PySem.W.findIn K (.ref C) "__init__" = some (some (.ref f))) (tI : PySem.W.typeIn K (.ref f) = some (.type "function"))
    (F : Fun K "__init__" "InvalidValue.__init__" s_iInvalidValue f fd) : OwnC P w K mg base "InvalidValue" "value" C := by
  have z := nsC_ok (List.all_eq_true.mp h5 ("InvalidValue", "value") (by decide +kernel)) gk
  rw [Bool.and_eq_true] at z
  have ox := oexB_ok z.2
  have y := nsC_ok (List.all_eq_true.mp h1 ("InvalidValue", "value") (by decide +kernel)) gk
  rw [Bool.and_eq_true, decide_eq_true_eq] at y
  have nf := y.2
  refine ⟨g, gk, ox.kC, ⟨_, _, _, newx_VE, z.1⟩, f, fd, iC, tI, F.ok (N := ["self", "value"]) sc_iInvalidValue (fun vs H Q E ⟨a, v, h, _⟩ => by rw [h]; rfl) (fun cdv A outer s H vs Q E hr sp => ⟨_, PSs.nox (pss_cons (ps_expr (pe_baseinit b (pa_cons (pv 0) (pa_cons pe_str pa_nil)))) (pss_one (ps_ost (pv 0) (pv 1)))), ?_⟩), F.binds (fun _ _ _ _ _ _ us hl => match us, hl with | [_, _], _ => rfl), fun s us ws _ h1 h2 => match us, ws, h1, h2 with | [_], [_], _, _ => by obtain ⟨oc, od, kV, doc, pm, an, cdv, ct, osl, rfl, lk, hcd⟩ := F.ex; exact .of_eq rfl⟩
  obtain ⟨a, v, rfl, ha, q⟩ := sp
  exact ⟨.ref a, rfl, a, C, [_], rfl, by show 1 ≤ 1000; omega, ox, ha, v, rfl, .ref a, rfl, a, C, rfl, ox, nf, .inl ⟨ha, fun dx h n => q dx h n⟩⟩
theorem own_InvalidName {P : Program} {w : World} {K : PySem.W.Frag} {mg : Str → Option Value} {base : Heap} {C f : Addr} {fd : FuncData} (g : mg "InvalidName" = some (.ref C)) (gk : PySem.W.nsIn K mainGlobals "InvalidName" = some (some (.ref C))) (h1 : ck1 K = true) (h5 : ck5 K = true) (b : BasI K mg "LotkeptError") (iC : PySem.W.findIn K (.ref C) "__init__" = some (some (.ref f))) (tI : PySem.W.typeIn K (.ref f) = some (.type "function"))
    (F : Fun K "__init__" "InvalidName.__init__" s_iInvalidName f fd) : OwnC P w K mg base "InvalidName" "value" C := by
  have z := nsC_ok (List.all_eq_true.mp h5 ("InvalidName", "value") (by decide +kernel)) gk
  rw [Bool.and_eq_true] at z
  have ox := oexB_ok z.2
  have y := nsC_ok (List.all_eq_true.mp h1 ("InvalidName", "value") (by decide +kernel)) gk
  rw [Bool.and_eq_true, decide_eq_true_eq] at y
  have nf := y.2
  refine ⟨g, gk, ox.kC, ⟨_, _, _, newx_VE, z.1⟩, f, fd, iC, tI, F.ok (N := ["self", "value"]) sc_iInvalidName (fun vs H Q E ⟨a, v, h, _⟩ => by rw [h]; rfl) (fun cdv A outer s H vs Q E hr sp => ⟨_, PSs.nox (pss_cons (ps_expr (pe_baseinit b (pa_cons (pv 0) (pa_cons pe_str pa_nil)))) (pss_one (ps_ost (pv 0) (pv 1)))), ?_⟩), F.binds (fun _ _ _ _ _ _ us hl => match us, hl with | [_, _], _ => rfl), fun s us ws _ h1 h2 => match us, ws, h1, h2 with | [_], [_], _, _ => by obtain ⟨oc, od, kV, doc, pm, an, cdv, ct, osl, rfl, lk, hcd⟩ := F.ex; exact .of_eq rfl⟩
  obtain ⟨a, v, rfl, ha, q⟩ := sp
  exact ⟨.ref a, rfl, a, C, [_], rfl, by show 1 ≤ 1000; omega, ox, ha, v, rfl, .ref a, rfl, a, C, rfl, ox, nf, .inl ⟨ha, fun dx h n => q dx h n⟩⟩
theorem own_InvalidOverrides {P : Program} {w : World} {K : PySem.W.Frag} {mg : Str → Option Value} {base : Heap} {C f : Addr} {fd : FuncData} (g : mg "InvalidOverrides" = some (.ref C)) (gk : PySem.W.nsIn K mainGlobals "InvalidOverrides" = some (some (.ref C))) (h1 : ck1 K = true) (h5 : ck5 K = true) (b : BasI K mg "LotkeptError") (iC : PySem.W.findIn K (.ref C) "__init__" = some (some (.ref f))) (tI : PySem.W.typeIn K (.ref f) = some (.type "function"))
    (F : Fun K "__init__" "InvalidOverrides.__init__" s_iInvalidOverrides f fd) : OwnC P w K mg base "InvalidOverrides" "value" C := by
  have z := nsC_ok (List.all_eq_true.mp h5 ("InvalidOverrides", "value") (by decide +kernel)) gk
  rw [Bool.and_eq_true] at z
  have ox := oexB_ok z.2
  have y := nsC_ok (List.all_eq_true.mp h1 ("InvalidOverrides", "value") (by decide +kernel)) gk
  rw [Bool.and_eq_true, decide_eq_true_eq] at y
  have nf := y.2
  refine ⟨g, gk, ox.kC, ⟨_, _, _, newx_VE, z.1⟩, f, fd, iC, tI, F.ok (N := ["self", "value"]) sc_iInvalidOverrides (fun vs H Q E ⟨a, v, h, _⟩ => by rw [h]; rfl) (fun cdv A outer s H vs Q E hr sp => ⟨_, PSs.nox (pss_cons (ps_expr (pe_baseinit b (pa_cons (pv 0) (pa_cons pe_str pa_nil)))) (pss_one (ps_ost (pv 0) (pv 1)))), ?_⟩), F.binds (fun _ _ _ _ _ _ us hl => match us, hl with | [_, _], _ => rfl), fun s us ws _ h1 h2 => match us, ws, h1, h2 with | [_], [_], _, _ => by obtain ⟨oc, od, kV, doc, pm, an, cdv, ct, osl, rfl, lk, hcd⟩ := F.ex; exact .of_eq rfl⟩
  obtain ⟨a, v, rfl, ha, q⟩ := sp
  exact ⟨.ref a, rfl, a, C, [_], rfl, by show 1 ≤ 1000; omega, ox, ha, v, rfl, .ref a, rfl, a, C, rfl, ox, nf, .inl ⟨ha, fun dx h n => q dx h n⟩⟩
theorem own_RandomnessExhausted {P : Program} {w : World} {K : PySem.W.Frag} {mg : Str → Option Value} {base : Heap} {C f : Addr} {fd : FuncData} (g : mg "RandomnessExhausted" = some (.ref C)) (gk : PySem.W.nsIn K mainGlobals "RandomnessExhausted" = some (some (.ref C))) (h1 : ck1 K = true) (h5 : ck5 K = true) (b : BasI K mg "LotkeptError") (iC : PySem.W.findIn K (.ref C) "__init__" = some (some (.ref f))) (tI : PySem.W.typeIn K (.ref f) = some (.type "function"))
    (F : Fun K "__init__" "RandomnessExhausted.__init__" s_iRandomnessExhausted f fd) : OwnC P w K mg base "RandomnessExhausted" "party" C := by
  have z := nsC_ok (List.all_eq_true.mp h5 ("RandomnessExhausted", "party") (by decide +kernel)) gk
  rw [Bool.and_eq_true] at z
  have ox := oexB_ok z.2
  have y := nsC_ok (List.all_eq_true.mp h1 ("RandomnessExhausted", "party") (by decide +kernel)) gk
  rw [Bool.and_eq_true, decide_eq_true_eq] at y
  have nf := y.2
  refine ⟨g, gk, ox.kC, ⟨_, _, _, newx_VE, z.1⟩, f, fd, iC, tI, F.ok (N := ["self", "party"]) sc_iRandomnessExhausted (fun vs H Q E ⟨a, v, h, _⟩ => by rw [h]; rfl) (fun cdv A outer s H vs Q E hr sp => ⟨_, PSs.nox (pss_cons (ps_expr (pe_baseinit b (pa_cons (pv 0) (pa_cons pe_str pa_nil)))) (pss_one (ps_ost (pv 0) (pv 1)))), ?_⟩), F.binds (fun _ _ _ _ _ _ us hl => match us, hl with | [_, _], _ => rfl), fun s us ws _ h1 h2 => match us, ws, h1, h2 with | [_], [_], _, _ => by obtain ⟨oc, od, kV, doc, pm, an, cdv, ct, osl, rfl, lk, hcd⟩ := F.ex; exact .of_eq rfl⟩
  obtain ⟨a, v, rfl, ha, q⟩ := sp
  exact ⟨.ref a, rfl, a, C, [_], rfl, by show 1 ≤ 1000; omega, ox, ha, v, rfl, .ref a, rfl, a, C, rfl, ox, nf, .inl ⟨ha, fun dx h n => q dx h n⟩⟩
theorem own_InvalidObservers {P : Program} {w : World} {K : PySem.W.Frag} {mg : Str → Option Value} {base : Heap} {C f : Addr} {fd : FuncData} (g : mg "InvalidObservers" = some (.ref C)) (gk : PySem.W.nsIn K mainGlobals "InvalidObservers" = some (some (.ref C))) (h1 : ck1 K = true) (h5 : ck5 K = true) (b : BasI K mg "LotkeptError") (iC : PySem.W.findIn K (.ref C) "__init__" = some (some (.ref f))) (tI : PySem.W.typeIn K (.ref f) = some (.type "function"))
    (F : Fun K "__init__" "InvalidObservers.__init__" s_iInvalidObservers f fd) : OwnC P w K mg base "InvalidObservers" "value" C := by
  have z := nsC_ok (List.all_eq_true.mp h5 ("InvalidObservers", "value") (by decide +kernel)) gk
  rw [Bool.and_eq_true] at z
  have ox := oexB_ok z.2
  have y := nsC_ok (List.all_eq_true.mp h1 ("InvalidObservers", "value") (by decide +kernel)) gk
  rw [Bool.and_eq_true, decide_eq_true_eq] at y
  have nf := y.2
  refine ⟨g, gk, ox.kC, ⟨_, _, _, newx_VE, z.1⟩, f, fd, iC, tI, F.ok (N := ["self", "value"]) sc_iInvalidObservers (fun vs H Q E ⟨a, v, h, _⟩ => by rw [h]; rfl) (fun cdv A outer s H vs Q E hr sp => ⟨_, PSs.nox (pss_cons (ps_expr (pe_baseinit b (pa_cons (pv 0) (pa_cons pe_str pa_nil)))) (pss_one (ps_ost (pv 0) (pv 1)))), ?_⟩), F.binds (fun _ _ _ _ _ _ us hl => match us, hl with | [_, _], _ => rfl), fun s us ws _ h1 h2 => match us, ws, h1, h2 with | [_], [_], _, _ => by obtain ⟨oc, od, kV, doc, pm, an, cdv, ct, osl, rfl, lk, hcd⟩ := F.ex; exact .of_eq rfl⟩
  obtain ⟨a, v, rfl, ha, q⟩ := sp
  exact ⟨.ref a, rfl, a, C, [_], rfl, by show 1 ≤ 1000; omega, ox, ha, v, rfl, .ref a, rfl, a, C, rfl, ox, nf, .inl ⟨ha, fun dx h n => q dx h n⟩⟩
theorem own_NotEquivalent {P : Program} {w : World} {K : PySem.W.Frag} {mg : Str → Option Value} {base : Heap} {C f : Addr} {fd : FuncData} (g : mg "NotEquivalent" = some (.ref C)) (gk : PySem.W.nsIn K mainGlobals "NotEquivalent" = some (some (.ref C))) (h1 : ck1 K = true) (h5 : ck5 K = true) (b : BasI K mg "LotkeptError") (iC : PySem.W.findIn K (.ref C) "__init__" = some (some (.ref f))) (tI : PySem.W.typeIn K (.ref f) = some (.type "function"))
    (F : Fun K "__init__" "NotEquivalent.__init__" s_iNotEquivalent f fd) : OwnC P w K mg base "NotEquivalent" "operation" C := by
  have z := nsC_ok (List.all_eq_true.mp h5 ("NotEquivalent", "operation") (by decide +kernel)) gk
  rw [Bool.and_eq_true] at z
  have ox := oexB_ok z.2
  have y := nsC_ok (List.all_eq_true.mp h1 ("NotEquivalent", "operation") (by decide +kernel)) gk
  rw [Bool.and_eq_true, decide_eq_true_eq] at y
  have nf := y.2
  refine ⟨g, gk, ox.kC, ⟨_, _, _, newx_VE, z.1⟩, f, fd, iC, tI, F.ok (N := ["self", "operation"]) sc_iNotEquivalent (fun vs H Q E ⟨a, v, h, _⟩ => by rw [h]; rfl) (fun cdv A outer s H vs Q E hr sp => ⟨_, PSs.nox (pss_cons (ps_expr (pe_baseinit b (pa_cons (pv 0) (pa_cons pe_str pa_nil)))) (pss_one (ps_ost (pv 0) (pv 1)))), ?_⟩), F.binds (fun _ _ _ _ _ _ us hl => match us, hl with | [_, _], _ => rfl), fun s us ws _ h1 h2 => match us, ws, h1, h2 with | [_], [_], _, _ => by obtain ⟨oc, od, kV, doc, pm, an, cdv, ct, osl, rfl, lk, hcd⟩ := F.ex; exact .of_eq rfl⟩
  obtain ⟨a, v, rfl, ha, q⟩ := sp
  exact ⟨.ref a, rfl, a, C, [_], rfl, by show 1 ≤ 1000; omega, ox, ha, v, rfl, .ref a, rfl, a, C, rfl, ox, nf, .inl ⟨ha, fun dx h n => q dx h n⟩⟩
theorem own_KE {P : Program} {w : World} {K : PySem.W.Frag} {mg : Str → Option Value} {base : Heap} {C f : Addr} {fd : FuncData} {nm : Str} (hn : nm ∈ exN) (hk : nm ∈ kFs) (hf : (nm, ("name" : Str)) ∈ exF) (g : mg nm = some (.ref C)) (gk : PySem.W.nsIn K mainGlobals nm = some (some (.ref C))) (h1 : ck1 K = true) (h4 : ck4 K = true) (h6 : ck6 K = true) (mK : mg "KeyError" = none) (vV : PySem.W.findCls K (.type "KeyError") (.type "type") "__init__" = some (.val (.builtin "KeyError.__init__")))
    (iC : PySem.W.findIn K (.ref C) "__init__" = some (some (.ref f))) (tI : PySem.W.typeIn K (.ref f) = some (.type "function")) (F : Fun K "__init__" "NotFound.__init__" s_iNotFound f fd) : OwnC P w K mg base nm "name" C := by
  have z := nsC_ok (List.all_eq_true.mp h6 nm hk) gk
  rw [Bool.and_eq_true, Bool.and_eq_true, Bool.and_eq_true, decide_eq_true_eq] at z
  obtain ⟨x1, x2, x3⟩ := ck4_ok h4 hn gk
  have ox : OexK K C := ⟨z.1, z.2.1, z.2.2.1, z.2.2.2, x2, x3, x1⟩
  have y := nsC_ok (List.all_eq_true.mp h1 (nm, "name") hf) gk
  rw [Bool.and_eq_true, decide_eq_true_eq] at y
  have nf := y.2
  refine ⟨g, gk, x1, ⟨_, _, _, newx_KE, z.1⟩, f, fd, iC, tI, F.ok (N := ["self", "name"]) sc_iNotFound (fun vs H Q E ⟨a, v, h, _⟩ => by rw [h]; rfl) (fun cdv A outer s H vs Q E hr sp => ⟨_, PSs.nox (pss_cons (ps_expr (pe_keinit ox rfl mK vV (pa_cons (pv 0) (pa_cons pe_str pa_nil)))) (pss_one (ps_ostK ox nf (pv 0) (pv 1)))), ?_⟩), F.binds (fun _ _ _ _ _ _ us hl => match us, hl with | [_, _], _ => rfl), fun s us ws _ h1 h2 => match us, ws, h1, h2 with | [_], [_], _, _ => by obtain ⟨oc, od, kV, doc, pm, an, cdv, ct, osl, rfl, lk, hcd⟩ := F.ex; exact .of_eq rfl⟩
  obtain ⟨a, v, rfl, ha, q⟩ := sp
  exact ⟨.ref a, rfl, a, [_], rfl, by show 1 ≤ 1000; omega, ha, v, rfl, .ref a, rfl, a, rfl, ha, fun dx h n => q dx h n⟩
/-- what the five try statements ask -/
structure CatX (P : Program) (w : World) (K : PySem.W.Frag) (mg : Str → Option Value) (base : Heap) (nm fld : Str) (c : Value) : Prop where
  ex : ∃ C, OwnC P w K mg base nm fld C ∧ PySem.W.subIn K (.ref C) (.type "BaseException") = some true ∧ PySem.W.typeIn K (.ref C) = some (.type "type") ∧ PySem.W.exmOne K (.ref C) c = some true ∧ ExcC K C ∧ XfC K C ∧ PySem.W.findIn K (.ref C) fld = some none
theorem catx {P : Program} {w : World} {K : PySem.W.Frag} {mg : Str → Option Value} {base : Heap} {nm fld : Str} {c : Value} {C : Addr} (o : OwnC P w K mg base nm fld C) (h0 : ck0 K = true) (h1 : ck1 K = true) (h4 : ck4 K = true) (hn : nm ∈ exN) (hf : (nm, fld) ∈ exF) (em : PySem.W.exmOne K (.ref C) c = some true) : CatX P w K mg base nm fld c := by
  obtain ⟨x1, x2, x3⟩ := ck4_ok h4 hn o.gk
  have T := exT_ok h0 h1
  obtain ⟨y1, y2⟩ := T.fl nm fld C hf o.gk
  exact ⟨C, o, x2, x3, em, T.ec nm hn C o.gk, y1, y2⟩
theorem exm8 {K : PySem.W.Frag} {C D : Addr} {nm y : Str} (h : ck8 K = true) (hm : (nm, y) ∈ tFs) (e : PySem.W.nsIn K mainGlobals nm = some (some (.ref C))) (e2 : PySem.W.nsIn K mainGlobals y = some (some (.ref D))) : PySem.W.exmOne K (.ref C) (.ref D) = some true :=
  of_decide_eq_true (nsC_ok (nsC_ok (List.all_eq_true.mp h (nm, y) hm) e) e2)
structure CauT (P : Program) (w : World) (K : PySem.W.Frag) (mg : Str → Option Value) (base : Heap) (CL CN : Addr) : Prop where
  gL : mg "LotkeptError" = some (.ref CL)
  gN : mg "NotFound" = some (.ref CN)
  gK : mg "KeyError" = none
  gi : mg "isinstance" = none
  x1 : CatX P w K mg base "Conflict" "sets" (.ref CL)
  x2 : ∃ C, Own0 K mg "NoCorrectValue" C ∧ PySem.W.subIn K (.ref C) (.type "BaseException") = some true ∧ PySem.W.typeIn K (.ref C) = some (.type "type") ∧ PySem.W.exmOne K (.ref C) (.ref CL) = some true ∧ ExcC K C
  x3 : CatX P w K mg base "NotEquivalent" "operation" (.ref CL)
  x4 : CatX P w K mg base "UnknownParty" "name" (.ref CN)
  x5 : CatX P w K mg base "UnknownServer" "name" (.type "KeyError")
theorem sc_law_caught : FnScope N_law_caught P_law_caught (defScope s_law_caught) := ⟨rfl, rfl, rfl, by decide +kernel, rfl, by decide +kernel, by decide +kernel⟩
theorem fn_law_caught {P : Program} {w : World} {K : PySem.W.Frag} {mg : Str → Option Value} {base : Heap} {Wp : Wk → Prop} {CL CN f : Addr} {fd : FuncData} (F : Fun K "_law_caught" "_law_caught" s_law_caught f fd) (T : CauT P w K mg base CL CN) : FnG P w K mg base CX0 3 f fd P_law_caught (spG Wp K mg 2 sp_law_caught) := by
  obtain ⟨oc, od, kV, doc, pm, an, cdv, ct, osl, e, lk, hcd⟩ := F.ex
  have D : Def K f fd "_law_caught" (defBody s_law_caught) (defScope s_law_caught) cdv := ⟨⟨_, _, _, _, _, _, _, _, _, _, _, e, lk⟩, hcd⟩
  refine fnG_dw D sc_law_caught (fun A outer s H E hr => ?_) (Nat.le_refl _) law_law_caught
  have g : Gx (cxOf CX0 P w K mg base N_law_caught "_law_caught" (defScope s_law_caught) f cdv A outer s H E) := ⟨rfl, hr.gd, by
    have h2 : A.units + 3 + 16 * 2 + 200 < cLine := hr.rm.un
    show A.units + 3 + 65 < cLine
    omega, sc_law_caught.nd⟩
  obtain ⟨C1, o1, a1, b1, c1, d1, e1, f1⟩ := T.x1.ex
  obtain ⟨C2, o2, a2, b2, c2, d2⟩ := T.x2
  obtain ⟨C3, o3, a3, b3, c3, d3, e3, f3⟩ := T.x3.ex
  obtain ⟨C4, o4, a4, b4, c4, d4, e4, f4⟩ := T.x4.ex
  obtain ⟨C5, o5, a5, b5, c5, d5, e5, f5⟩ := T.x5.ex
  have tx := fun {C : Addr} {nm fl : Str} (h1 : PySem.W.subIn K (.ref C) (.type "BaseException") = some true) (h2 : PySem.W.typeIn K (.ref C) = some (.type "type")) => raises_own (X := cxOf CX0 P w K mg base N_law_caught "_law_caught" (defScope s_law_caught) f cdv A outer s H E) h1 h2
  exact sCons (qSet 2 g (jLst aNil0))
    (sCons (qTryX 3 0 g o1 (raises_own a1 b1) hr c1 ⟨rfl, by decide, .inl T.gL⟩ (fun _ _ => qV 0) (fun a oe dd pn hz hf => sOne (qDrop (qMth .append (qO 2) (qaCons (jIte (qkOf (qCaI d1 hz hf o1.gm T.gi (qV 3))) (qCaF e1 f1 hz hf (qV 3)) jStr) aNil0)))) (fun _ _ => Nat.le_refl _))
    (sCons (qTry0 3 0 g o2 (raises_own a2 b2) c2 ⟨rfl, by decide, .inl T.gL⟩ (fun _ _ => qV 1) (fun a oe pn hz hf => sOne (qDrop (qMth .append (qO 2) (qaCons (qCaI0 d2 hz hf o2.gm T.gi (qV 3)) aNil0)))) (fun _ => Nat.le_refl _))
    (sCons (qTryX 3 0 g o3 (raises_own a3 b3) hr c3 ⟨rfl, by decide, .inl T.gL⟩ (fun _ _ => qV 0) (fun a oe dd pn hz hf => sOne (qDrop (qMth .append (qO 2) (qaCons (jIte (qkOf (qCaI d3 hz hf o3.gm T.gi (qV 3))) (qCaF e3 f3 hz hf (qV 3)) jStr) aNil0)))) (fun _ _ => Nat.le_refl _))
    (sCons (qTryX 3 0 g o4 (raises_own a4 b4) hr c4 ⟨rfl, by decide, .inl T.gN⟩ (fun _ _ => qV 0) (fun a oe dd pn hz hf => sOne (qDrop (qMth .append (qO 2) (qaCons (jIte (qkOf (qCaI d4 hz hf o4.gm T.gi (qV 3))) (qCaF e4 f4 hz hf (qV 3)) jStr) aNil0)))) (fun _ _ => Nat.le_refl _))
    (sCons (qTryO 0 g o5 (raises_own a5 b5) hr c5 (names_blt rfl T.gK boot_KeyError) (fun _ _ => qV 0) (fun a oe pn => sOne (qDrop (qMth .append (qO 2) (qaCons jStr aNil0)))) (Nat.le_refl _))
    (sOne (qRetV 2 (qO 2))))))))

/-! ### law -/
abbrev s_law : Stmt := topS 31
theorem sc_law : FnScope N_law P_law (defScope s_law) := ⟨rfl, rfl, rfl, by decide +kernel, rfl, by decide +kernel, by decide +kernel⟩
theorem jb_law {P : Program} {w : World} {K : PySem.W.Frag} {mg : Str → Option Value} {base : Heap} {Wp : Wk → Prop} (m : Mg mg) (c_law_thing : Cal P w K mg base CX0 Wp 3 "_law_thing" s_law_thing P_law_thing sp_law_thing) (c_law_draw : Cal P w K mg base CX0 Wp 1 "_law_draw" s_law_draw P_law_draw sp_law_draw) (c_law_pick : Cal P w K mg base CX0 Wp 2 "_law_pick" s_law_pick P_law_pick sp_law_pick) (c_law_by_name : Cal P w K mg base CX0 Wp 3 "_law_by_name" s_law_by_name P_law_by_name sp_law_by_name) (c_law_by_position : Cal P w K mg base CX0 Wp 3 "_law_by_position" s_law_by_position P_law_by_position sp_law_by_position) (c_law_attributes : Cal P w K mg base CX0 Wp 1 "_law_attributes" s_law_attributes P_law_attributes sp_law_attributes) (c_law_instances : Cal P w K mg base CX0 Wp 1 "_law_instances" s_law_instances P_law_instances sp_law_instances) (c_law_expected : Cal P w K mg base CX0 Wp 1 "_law_expected" s_law_expected P_law_expected sp_law_expected) (c_law_caught : Cal P w K mg base CX0 Wp 3 "_law_caught" s_law_caught P_law_caught sp_law_caught) {f : Addr} {cdv : Value} {A : Around} {outer : List Env} {s : Shared} {H : Hp} {E : XK}
    (hr : RmG 3 (A.deeper (envOfC "law" (defScope s_law) s.heap.objs.size f cdv))) (g : Gx (cxOf CX0 P w K mg base N_law "law" (defScope s_law) f cdv A outer s H E)) :
    JB Wp E (cxOf CX0 P w K mg base N_law "law" (defScope s_law) f cdv A outer s H E) ((defBody s_law).drop 1) d_law :=
  sCons (qFor g owns_cx (qR1 m.n_range (jInt)) (qgN g 2) (sCons (qPar 4 5 g (qCall hr c_law_thing pass0G (fun _ _ _ _ _ _ us hl => match us, hl with | [_], _ => rfl) (qaCons (qV 1) (aNil0))) (qCall hr c_law_thing pass0G (fun _ _ _ _ _ _ us hl => match us, hl with | [_], _ => rfl) (qaCons (qV 1) (aNil0)))) (sCons (qSet 3 g (qMth .join (oOf (jStr)) (qaCons (qLc [("_law_n", 9)] [9] g (qR1 m.n_range (qCall hr c_law_draw pass0G (fun _ _ _ _ _ _ us hl => match us, hl with | [_, _], _ => rfl) (qaCons (qV 1) (qaCons (jInt) (aNil0))))) (fun _ _ _ _ _ => qgN (g.blk _ _ _ _ _) 9) (fun _ _ _ _ _ => kIfs0) (fun _ _ _ _ _ => qCall hr c_law_pick pass0G (fun _ _ _ _ _ _ us hl => match us, hl with | [_, _], _ => rfl) (qaCons (qV 1) (qaCons (jStr) (aNil0)))) (by show blkC N_law (defScope s_law) _ _ = true; decide +kernel)) (aNil0)))) (sCons (qSetU (qaCons (qCall hr c_law_by_position pass0G (fun _ _ _ _ _ _ us hl => match us, hl with | [_, _], _ => rfl) (qaCons (qV 4) (qaCons (qV 3) (aNil0)))) (qaCons (qCall hr c_law_by_position pass0G (fun _ _ _ _ _ _ us hl => match us, hl with | [_, _], _ => rfl) (qaCons (qV 5) (qaCons (qV 3) (aNil0)))) (qaCons (qCall hr c_law_by_name pass0G (fun _ _ _ _ _ _ us hl => match us, hl with | [_], _ => rfl) (qaCons (qV 4) (aNil0))) (aNil0)))) (qgT g (qgs (qgN g 6) (qgs (qgN g 7) (qgs (qgN g 8) (gNilN)))))) (sCons (sIf0 (qkCmp .ne g (oOf (qBif .repr g m.n_repr (oOf (jLst (qaCons (qCall hr c_law_attributes pass0G (fun _ _ _ _ _ _ us hl => match us, hl with | [_], _ => rfl) (qaCons (qSliO (qO 6) (pSome (jInt)) (pNone)) (aNil0))) (qaCons (qCall hr c_law_attributes pass0G (fun _ _ _ _ _ _ us hl => match us, hl with | [_], _ => rfl) (qaCons (qV 8) (aNil0))) (aNil0))))))) (oOf (qBif .repr g m.n_repr (oOf (jMul (oOf (jLst (qaCons (jMul (oOf (jLst (qaCons (qV 4) (aNil0)))) (oOf (jInt))) (aNil0)))) (oOf (jInt))))))) (sOne (sRet0 (jBl))) (sNil)) (sCons (sIf0 (qkCmp .ne g (oOf (qBif .repr g m.n_repr (oOf (qCall hr c_law_attributes pass0G (fun _ _ _ _ _ _ us hl => match us, hl with | [_], _ => rfl) (qaCons (qSliO (qO 7) (pSome (jInt)) (pNone)) (aNil0)))))) (oOf (qBif .repr g m.n_repr (oOf (jMul (oOf (jLst (qaCons (qV 5) (aNil0)))) (oOf (jInt))))))) (sOne (sRet0 (jBl))) (sNil)) (sCons (sIf0 (qkCmp .ne g (oOf (qLc [("_law_at", 10)] [10] g (qR1 m.n_range (jInt)) (fun _ _ _ _ _ => qgN (g.blk _ _ _ _ _) 10) (fun _ _ _ _ _ => kIfs1 (qkCmp .ne (g.blk _ _ _ _ _) (oOf (qCall hr c_law_instances pass0G (fun _ _ _ _ _ _ us hl => match us, hl with | [_], _ => rfl) (qaCons (qIdxO (qO 6) (qO 10)) (aNil0)))) (oOf (qCall hr c_law_expected pass0G (fun _ _ _ _ _ _ us hl => match us, hl with | [_], _ => rfl) (qaCons (qV 10) (aNil0)))))) (fun _ _ _ _ _ => qV 10) (by show blkC N_law (defScope s_law) _ _ = true; decide +kernel))) (oOf (jLst (aNil0)))) (sOne (sRet0 (jBl))) (sNil)) (sCons (sIf0 (qkCmp .ne g (oOf (qLcO [("_law_e", 11)] [11] g (wOL (qV 8)) (fun _ _ _ _ _ => qgN (g.blk _ _ _ _ _) 11) (fun _ _ _ _ _ => qCall hr c_law_instances pass0G (fun _ _ _ _ _ _ us hl => match us, hl with | [_], _ => rfl) (qaCons (qV 11) (aNil0))) (by show blkC N_law (defScope s_law) _ _ = true; decide +kernel))) (oOf (qLc [("_law_at", 10)] [10] g (qR2 m.n_range (jInt) (jInt)) (fun _ _ _ _ _ => qgN (g.blk _ _ _ _ _) 10) (fun _ _ _ _ _ => kIfs0) (fun _ _ _ _ _ => qCall hr c_law_expected pass0G (fun _ _ _ _ _ _ us hl => match us, hl with | [_], _ => rfl) (qaCons (qV 10) (aNil0))) (by show blkC N_law (defScope s_law) _ _ = true; decide +kernel)))) (sOne (sRet0 (jBl))) (sNil)) (sOne (sIf0 (qkCmp .ne g (oOf (qBif .repr g m.n_repr (oOf (qCall hr c_law_caught pass0G (fun _ _ _ _ _ _ us hl => match us, hl with | [_, _], _ => rfl) (qaCons (qV 4) (qaCons (qV 3) (aNil0))))))) (oOf (qBif .repr g m.n_repr (oOf (jLst (qaCons (qV 4) (qaCons (jBl) (qaCons (qV 4) (qaCons (qV 4) (qaCons (jStr) (aNil0))))))))))) (sOne (sRet0 (jBl))) (sNil))))))))))) (sOne (sRet0 (jBl)))

set_option exponentiation.threshold 1000000 in
theorem m_law : d_law.m ≤ LIM := by decide +kernel
theorem fn_law {P : Program} {w : World} {K : PySem.W.Frag} {mg : Str → Option Value} {base : Heap} (m : Mg mg) (c_law_thing : Cal P w K mg base CX0 Wp02 3 "_law_thing" s_law_thing P_law_thing sp_law_thing) (c_law_draw : Cal P w K mg base CX0 Wp02 1 "_law_draw" s_law_draw P_law_draw sp_law_draw) (c_law_pick : Cal P w K mg base CX0 Wp02 2 "_law_pick" s_law_pick P_law_pick sp_law_pick) (c_law_by_name : Cal P w K mg base CX0 Wp02 3 "_law_by_name" s_law_by_name P_law_by_name sp_law_by_name) (c_law_by_position : Cal P w K mg base CX0 Wp02 3 "_law_by_position" s_law_by_position P_law_by_position sp_law_by_position) (c_law_attributes : Cal P w K mg base CX0 Wp02 1 "_law_attributes" s_law_attributes P_law_attributes sp_law_attributes) (c_law_instances : Cal P w K mg base CX0 Wp02 1 "_law_instances" s_law_instances P_law_instances sp_law_instances) (c_law_expected : Cal P w K mg base CX0 Wp02 1 "_law_expected" s_law_expected P_law_expected sp_law_expected) (c_law_caught : Cal P w K mg base CX0 Wp02 3 "_law_caught" s_law_caught P_law_caught sp_law_caught) {f fs : Addr} {fd fds : FuncData} (F : Fun K "law" "law" s_law f fd) (Fs : Fun K "_law_source" "_law_source" s_law_source fs fds) (hs : mg "_law_source" = some (.ref fs)) : FnG P w K mg base CX0 4 f fd ["_law_script"] (spLaw K) := by
  obtain ⟨oc, od, kV, doc, pm, an, cdv, ct, osl, e, lk, hcd⟩ := F.ex
  have D : Def K f fd "law" (defBody s_law) (defScope s_law) cdv := ⟨⟨_, _, _, _, _, _, _, _, _, _, _, e, lk⟩, hcd⟩
  refine fnG_of D sc_law (fun {vs H Q E} ⟨a, ns, h, _⟩ => by rw [h]; rfl) fun A outer s H vs Q E hr sp => ?_
  have g : Gx (cxOf CX0 P w K mg base N_law "law" (defScope s_law) f cdv A outer s H E) := ⟨rfl, hr.gd, by
    show A.units + 3 + 65 < cLine
    have h2 : A.units + 3 + 16 * 3 + 200 < cLine := hr.rm.un
    omega, sc_law.nd⟩
  refine ⟨_, pss_cons (ps_set (i := 1) sc_law.nd rfl (by first | exact .inl rfl | exact .inr rfl) ((pe_callG (E := E) ((fn_law_source Fs m.n_list).mono (by decide)) hr (by rfl) hs Fs.kp (Fs.binds (fun _ _ _ _ _ _ us hl => match us, hl with | [_], _ => rfl)) pass0G (by decide)).2 (pa_cons (pv 0) pa_nil) rfl rfl)) (jb_law (Wp := Wp02) m c_law_thing c_law_draw c_law_pick c_law_by_name c_law_by_position c_law_attributes c_law_instances c_law_expected c_law_caught hr g), ?_⟩
  obtain ⟨a, ns, rfl, sm, ha, q⟩ := sp
  refine ⟨.ref a, rfl, a, ns, rfl, ha, fun dk c H' k h1 h2 h3 => law_go (W := deckW "cells" "digest" "count" dk c 0) ⟨?_, fun j => ⟨dk, c, 0 + j, rfl⟩⟩ h3 (k.sm sm) law_law q⟩
  show 0 + d_law.m ≤ LIM
  rw [Nat.zero_add]
  exact m_law
theorem all_mk {l : PySem.W.OpenLaw} {w : World} {K : PySem.W.Frag} {h : Heap} {mg : Str → Option Value} {fa fa0 fa1 fa2 fa3 fa4 fa5 fa6 fa7 fa8 fa9 fa10 : Addr} (X : K.In h) (G : h.Ns mainGlobals mg) (hfa : mg "law" = some (.ref fa))
    {od0 an0 : Option Addr} {sl0 : Array (Option Value)} {oc0 kV0 dc0 pm0 cd0 ct0 : Value}
    {od1 an1 : Option Addr} {sl1 : Array (Option Value)} {oc1 kV1 dc1 pm1 cd1 ct1 : Value}
    {od2 an2 : Option Addr} {sl2 : Array (Option Value)} {oc2 kV2 dc2 pm2 cd2 ct2 : Value}
    {od3 an3 : Option Addr} {sl3 : Array (Option Value)} {oc3 kV3 dc3 pm3 cd3 ct3 : Value}
    {od4 an4 : Option Addr} {sl4 : Array (Option Value)} {oc4 kV4 dc4 pm4 cd4 ct4 : Value}
    {od5 an5 : Option Addr} {sl5 : Array (Option Value)} {oc5 kV5 dc5 pm5 cd5 ct5 : Value}
    {od6 an6 : Option Addr} {sl6 : Array (Option Value)} {oc6 kV6 dc6 pm6 cd6 ct6 : Value}
    {od7 an7 : Option Addr} {sl7 : Array (Option Value)} {oc7 kV7 dc7 pm7 cd7 ct7 : Value}
    {od8 an8 : Option Addr} {sl8 : Array (Option Value)} {oc8 kV8 dc8 pm8 cd8 ct8 : Value}
    {od9 an9 : Option Addr} {sl9 : Array (Option Value)} {oc9 kV9 dc9 pm9 cd9 ct9 : Value}
    {od10 an10 : Option Addr} {sl10 : Array (Option Value)} {oc10 kV10 dc10 pm10 cd10 ct10 : Value}
    {c_LotkeptError c_NoCorrectValue c_InvalidScheme c_InvalidFaulty c_InvalidRandomness c_InvalidText c_InvalidLog c_Conflict c_InvalidValue c_InvalidName c_InvalidOverrides c_RandomnessExhausted c_InvalidObservers c_NotEquivalent c_NotFound c_UnknownKey c_UnknownClient c_UnknownServer c_UnknownParty : Addr}
    {f_Conflict : Addr} {od_Conflict an_Conflict : Option Addr} {sl_Conflict : Array (Option Value)} {oc_Conflict kV_Conflict dc_Conflict pm_Conflict cd_Conflict ct_Conflict : Value}
    {f_InvalidValue : Addr} {od_InvalidValue an_InvalidValue : Option Addr} {sl_InvalidValue : Array (Option Value)} {oc_InvalidValue kV_InvalidValue dc_InvalidValue pm_InvalidValue cd_InvalidValue ct_InvalidValue : Value}
    {f_InvalidName : Addr} {od_InvalidName an_InvalidName : Option Addr} {sl_InvalidName : Array (Option Value)} {oc_InvalidName kV_InvalidName dc_InvalidName pm_InvalidName cd_InvalidName ct_InvalidName : Value}
    {f_InvalidOverrides : Addr} {od_InvalidOverrides an_InvalidOverrides : Option Addr} {sl_InvalidOverrides : Array (Option Value)} {oc_InvalidOverrides kV_InvalidOverrides dc_InvalidOverrides pm_InvalidOverrides cd_InvalidOverrides ct_InvalidOverrides : Value}
    {f_RandomnessExhausted : Addr} {od_RandomnessExhausted an_RandomnessExhausted : Option Addr} {sl_RandomnessExhausted : Array (Option Value)} {oc_RandomnessExhausted kV_RandomnessExhausted dc_RandomnessExhausted pm_RandomnessExhausted cd_RandomnessExhausted ct_RandomnessExhausted : Value}
    {f_InvalidObservers : Addr} {od_InvalidObservers an_InvalidObservers : Option Addr} {sl_InvalidObservers : Array (Option Value)} {oc_InvalidObservers kV_InvalidObservers dc_InvalidObservers pm_InvalidObservers cd_InvalidObservers ct_InvalidObservers : Value}
    {f_NotEquivalent : Addr} {od_NotEquivalent an_NotEquivalent : Option Addr} {sl_NotEquivalent : Array (Option Value)} {oc_NotEquivalent kV_NotEquivalent dc_NotEquivalent pm_NotEquivalent cd_NotEquivalent ct_NotEquivalent : Value}
    {f_NotFound : Addr} {od_NotFound an_NotFound : Option Addr} {sl_NotFound : Array (Option Value)} {oc_NotFound kV_NotFound dc_NotFound pm_NotFound cd_NotFound ct_NotFound : Value}
    (a0 : PySem.W.nsIn K mainGlobals "_law_source" = some (some (.ref fa0))) (l0 : K.lookup fa0 = some ⟨oc0, od0, .func (PySem.W.fnOf "_law_source" "_law_source" (defArgs s_law_source) (defBody s_law_source) (defScope s_law_source) .none kV0 dc0 pm0 an0 cd0 ct0), sl0⟩) (c0 : PySem.W.codeIn K cd0 "_law_source" = true) (k0 : PySem.W.keepIn K (.ref fa0) = true)
    (a1 : PySem.W.nsIn K mainGlobals "_law_draw" = some (some (.ref fa1))) (l1 : K.lookup fa1 = some ⟨oc1, od1, .func (PySem.W.fnOf "_law_draw" "_law_draw" (defArgs s_law_draw) (defBody s_law_draw) (defScope s_law_draw) .none kV1 dc1 pm1 an1 cd1 ct1), sl1⟩) (c1 : PySem.W.codeIn K cd1 "_law_draw" = true) (k1 : PySem.W.keepIn K (.ref fa1) = true)
    (a2 : PySem.W.nsIn K mainGlobals "_law_pick" = some (some (.ref fa2))) (l2 : K.lookup fa2 = some ⟨oc2, od2, .func (PySem.W.fnOf "_law_pick" "_law_pick" (defArgs s_law_pick) (defBody s_law_pick) (defScope s_law_pick) .none kV2 dc2 pm2 an2 cd2 ct2), sl2⟩) (c2 : PySem.W.codeIn K cd2 "_law_pick" = true) (k2 : PySem.W.keepIn K (.ref fa2) = true)
    (a3 : PySem.W.nsIn K mainGlobals "_law_thing" = some (some (.ref fa3))) (l3 : K.lookup fa3 = some ⟨oc3, od3, .func (PySem.W.fnOf "_law_thing" "_law_thing" (defArgs s_law_thing) (defBody s_law_thing) (defScope s_law_thing) .none kV3 dc3 pm3 an3 cd3 ct3), sl3⟩) (c3 : PySem.W.codeIn K cd3 "_law_thing" = true) (k3 : PySem.W.keepIn K (.ref fa3) = true)
    (a4 : PySem.W.nsIn K mainGlobals "_law_by_position" = some (some (.ref fa4))) (l4 : K.lookup fa4 = some ⟨oc4, od4, .func (PySem.W.fnOf "_law_by_position" "_law_by_position" (defArgs s_law_by_position) (defBody s_law_by_position) (defScope s_law_by_position) .none kV4 dc4 pm4 an4 cd4 ct4), sl4⟩) (c4 : PySem.W.codeIn K cd4 "_law_by_position" = true) (k4 : PySem.W.keepIn K (.ref fa4) = true)
    (a5 : PySem.W.nsIn K mainGlobals "_law_by_name" = some (some (.ref fa5))) (l5 : K.lookup fa5 = some ⟨oc5, od5, .func (PySem.W.fnOf "_law_by_name" "_law_by_name" (defArgs s_law_by_name) (defBody s_law_by_name) (defScope s_law_by_name) .none kV5 dc5 pm5 an5 cd5 ct5), sl5⟩) (c5 : PySem.W.codeIn K cd5 "_law_by_name" = true) (k5 : PySem.W.keepIn K (.ref fa5) = true)
    (a6 : PySem.W.nsIn K mainGlobals "_law_attributes" = some (some (.ref fa6))) (l6 : K.lookup fa6 = some ⟨oc6, od6, .func (PySem.W.fnOf "_law_attributes" "_law_attributes" (defArgs s_law_attributes) (defBody s_law_attributes) (defScope s_law_attributes) .none kV6 dc6 pm6 an6 cd6 ct6), sl6⟩) (c6 : PySem.W.codeIn K cd6 "_law_attributes" = true) (k6 : PySem.W.keepIn K (.ref fa6) = true)
    (a7 : PySem.W.nsIn K mainGlobals "_law_instances" = some (some (.ref fa7))) (l7 : K.lookup fa7 = some ⟨oc7, od7, .func (PySem.W.fnOf "_law_instances" "_law_instances" (defArgs s_law_instances) (defBody s_law_instances) (defScope s_law_instances) .none kV7 dc7 pm7 an7 cd7 ct7), sl7⟩) (c7 : PySem.W.codeIn K cd7 "_law_instances" = true) (k7 : PySem.W.keepIn K (.ref fa7) = true)
    (a8 : PySem.W.nsIn K mainGlobals "_law_expected" = some (some (.ref fa8))) (l8 : K.lookup fa8 = some ⟨oc8, od8, .func (PySem.W.fnOf "_law_expected" "_law_expected" (defArgs s_law_expected) (defBody s_law_expected) (defScope s_law_expected) .none kV8 dc8 pm8 an8 cd8 ct8), sl8⟩) (c8 : PySem.W.codeIn K cd8 "_law_expected" = true) (k8 : PySem.W.keepIn K (.ref fa8) = true)
    (a9 : PySem.W.nsIn K mainGlobals "_law_caught" = some (some (.ref fa9))) (l9 : K.lookup fa9 = some ⟨oc9, od9, .func (PySem.W.fnOf "_law_caught" "_law_caught" (defArgs s_law_caught) (defBody s_law_caught) (defScope s_law_caught) .none kV9 dc9 pm9 an9 cd9 ct9), sl9⟩) (c9 : PySem.W.codeIn K cd9 "_law_caught" = true) (k9 : PySem.W.keepIn K (.ref fa9) = true)
    (a10 : PySem.W.nsIn K mainGlobals "law" = some (some (.ref fa10))) (l10 : K.lookup fa10 = some ⟨oc10, od10, .func (PySem.W.fnOf "law" "law" (defArgs s_law) (defBody s_law) (defScope s_law) .none kV10 dc10 pm10 an10 cd10 ct10), sl10⟩) (c10 : PySem.W.codeIn K cd10 "law" = true) (k10 : PySem.W.keepIn K (.ref fa10) = true)
    (z_KeyError : PySem.W.nsIn K mainGlobals "KeyError" = some none)
    (z_ValueError : PySem.W.nsIn K mainGlobals "ValueError" = some none)
    (z_isinstance : PySem.W.nsIn K mainGlobals "isinstance" = some none)
    (z_len : PySem.W.nsIn K mainGlobals "len" = some none)
    (z_list : PySem.W.nsIn K mainGlobals "list" = some none)
    (z_range : PySem.W.nsIn K mainGlobals "range" = some none)
    (z_repr : PySem.W.nsIn K mainGlobals "repr" = some none)
    (e_LotkeptError : PySem.W.nsIn K mainGlobals "LotkeptError" = some (some (.ref c_LotkeptError)))
    (e_NoCorrectValue : PySem.W.nsIn K mainGlobals "NoCorrectValue" = some (some (.ref c_NoCorrectValue)))
    (e_InvalidScheme : PySem.W.nsIn K mainGlobals "InvalidScheme" = some (some (.ref c_InvalidScheme)))
    (e_InvalidFaulty : PySem.W.nsIn K mainGlobals "InvalidFaulty" = some (some (.ref c_InvalidFaulty)))
    (e_InvalidRandomness : PySem.W.nsIn K mainGlobals "InvalidRandomness" = some (some (.ref c_InvalidRandomness)))
    (e_InvalidText : PySem.W.nsIn K mainGlobals "InvalidText" = some (some (.ref c_InvalidText)))
    (e_InvalidLog : PySem.W.nsIn K mainGlobals "InvalidLog" = some (some (.ref c_InvalidLog)))
    (e_Conflict : PySem.W.nsIn K mainGlobals "Conflict" = some (some (.ref c_Conflict)))
    (e_InvalidValue : PySem.W.nsIn K mainGlobals "InvalidValue" = some (some (.ref c_InvalidValue)))
    (e_InvalidName : PySem.W.nsIn K mainGlobals "InvalidName" = some (some (.ref c_InvalidName)))
    (e_InvalidOverrides : PySem.W.nsIn K mainGlobals "InvalidOverrides" = some (some (.ref c_InvalidOverrides)))
    (e_RandomnessExhausted : PySem.W.nsIn K mainGlobals "RandomnessExhausted" = some (some (.ref c_RandomnessExhausted)))
    (e_InvalidObservers : PySem.W.nsIn K mainGlobals "InvalidObservers" = some (some (.ref c_InvalidObservers)))
    (e_NotEquivalent : PySem.W.nsIn K mainGlobals "NotEquivalent" = some (some (.ref c_NotEquivalent)))
    (e_NotFound : PySem.W.nsIn K mainGlobals "NotFound" = some (some (.ref c_NotFound)))
    (e_UnknownKey : PySem.W.nsIn K mainGlobals "UnknownKey" = some (some (.ref c_UnknownKey)))
    (e_UnknownClient : PySem.W.nsIn K mainGlobals "UnknownClient" = some (some (.ref c_UnknownClient)))
    (e_UnknownServer : PySem.W.nsIn K mainGlobals "UnknownServer" = some (some (.ref c_UnknownServer)))
    (e_UnknownParty : PySem.W.nsIn K mainGlobals "UnknownParty" = some (some (.ref c_UnknownParty)))
    (u_Conflict : PySem.W.findIn K (.ref c_Conflict) "__init__" = some (some (.ref f_Conflict)))
    (u_InvalidValue : PySem.W.findIn K (.ref c_InvalidValue) "__init__" = some (some (.ref f_InvalidValue)))
    (u_InvalidName : PySem.W.findIn K (.ref c_InvalidName) "__init__" = some (some (.ref f_InvalidName)))
    (u_InvalidOverrides : PySem.W.findIn K (.ref c_InvalidOverrides) "__init__" = some (some (.ref f_InvalidOverrides)))
    (u_RandomnessExhausted : PySem.W.findIn K (.ref c_RandomnessExhausted) "__init__" = some (some (.ref f_RandomnessExhausted)))
    (u_InvalidObservers : PySem.W.findIn K (.ref c_InvalidObservers) "__init__" = some (some (.ref f_InvalidObservers)))
    (u_NotEquivalent : PySem.W.findIn K (.ref c_NotEquivalent) "__init__" = some (some (.ref f_NotEquivalent)))
    (u_NotFound : PySem.W.findIn K (.ref c_NotFound) "__init__" = some (some (.ref f_NotFound)))
    (u_UnknownKey : PySem.W.findIn K (.ref c_UnknownKey) "__init__" = some (some (.ref f_NotFound)))
    (u_UnknownClient : PySem.W.findIn K (.ref c_UnknownClient) "__init__" = some (some (.ref f_NotFound)))
    (u_UnknownServer : PySem.W.findIn K (.ref c_UnknownServer) "__init__" = some (some (.ref f_NotFound)))
    (u_UnknownParty : PySem.W.findIn K (.ref c_UnknownParty) "__init__" = some (some (.ref f_NotFound)))
    (w_Conflict : K.lookup f_Conflict = some ⟨oc_Conflict, od_Conflict, .func (PySem.W.fnOf "__init__" "Conflict.__init__" (defArgs s_iConflict) (defBody s_iConflict) (defScope s_iConflict) .none kV_Conflict dc_Conflict pm_Conflict an_Conflict cd_Conflict ct_Conflict), sl_Conflict⟩)
    (v_Conflict : PySem.W.codeIn K cd_Conflict "Conflict.__init__" = true)
    (x_Conflict : PySem.W.keepIn K (.ref f_Conflict) = true)
    (t_Conflict : PySem.W.typeIn K (.ref f_Conflict) = some (.type "function"))
    (w_InvalidValue : K.lookup f_InvalidValue = some ⟨oc_InvalidValue, od_InvalidValue, .func (PySem.W.fnOf "__init__" "InvalidValue.__init__" (defArgs s_iInvalidValue) (defBody s_iInvalidValue) (defScope s_iInvalidValue) .none kV_InvalidValue dc_InvalidValue pm_InvalidValue an_InvalidValue cd_InvalidValue ct_InvalidValue), sl_InvalidValue⟩)
    (v_InvalidValue : PySem.W.codeIn K cd_InvalidValue "InvalidValue.__init__" = true)
    (x_InvalidValue : PySem.W.keepIn K (.ref f_InvalidValue) = true)
    (t_InvalidValue : PySem.W.typeIn K (.ref f_InvalidValue) = some (.type "function"))
    (w_InvalidName : K.lookup f_InvalidName = some ⟨oc_InvalidName, od_InvalidName, .func (PySem.W.fnOf "__init__" "InvalidName.__init__" (defArgs s_iInvalidName) (defBody s_iInvalidName) (defScope s_iInvalidName) .none kV_InvalidName dc_InvalidName pm_InvalidName an_InvalidName cd_InvalidName ct_InvalidName), sl_InvalidName⟩)
    (v_InvalidName : PySem.W.codeIn K cd_InvalidName "InvalidName.__init__" = true)
    (x_InvalidName : PySem.W.keepIn K (.ref f_InvalidName) = true)
    (t_InvalidName : PySem.W.typeIn K (.ref f_InvalidName) = some (.type "function"))
    (w_InvalidOverrides : K.lookup f_InvalidOverrides = some ⟨oc_InvalidOverrides, od_InvalidOverrides, .func (PySem.W.fnOf "__init__" "InvalidOverrides.__init__" (defArgs s_iInvalidOverrides) (defBody s_iInvalidOverrides) (defScope s_iInvalidOverrides) .none kV_InvalidOverrides dc_InvalidOverrides pm_InvalidOverrides an_InvalidOverrides cd_InvalidOverrides ct_InvalidOverrides), sl_InvalidOverrides⟩)
    (v_InvalidOverrides : PySem.W.codeIn K cd_InvalidOverrides "InvalidOverrides.__init__" = true)
    (x_InvalidOverrides : PySem.W.keepIn K (.ref f_InvalidOverrides) = true)
    (t_InvalidOverrides : PySem.W.typeIn K (.ref f_InvalidOverrides) = some (.type "function"))
    (w_RandomnessExhausted : K.lookup f_RandomnessExhausted = some ⟨oc_RandomnessExhausted, od_RandomnessExhausted, .func (PySem.W.fnOf "__init__" "RandomnessExhausted.__init__" (defArgs s_iRandomnessExhausted) (defBody s_iRandomnessExhausted) (defScope s_iRandomnessExhausted) .none kV_RandomnessExhausted dc_RandomnessExhausted pm_RandomnessExhausted an_RandomnessExhausted cd_RandomnessExhausted ct_RandomnessExhausted), sl_RandomnessExhausted⟩)
    (v_RandomnessExhausted : PySem.W.codeIn K cd_RandomnessExhausted "RandomnessExhausted.__init__" = true)
    (x_RandomnessExhausted : PySem.W.keepIn K (.ref f_RandomnessExhausted) = true)
    (t_RandomnessExhausted : PySem.W.typeIn K (.ref f_RandomnessExhausted) = some (.type "function"))
    (w_InvalidObservers : K.lookup f_InvalidObservers = some ⟨oc_InvalidObservers, od_InvalidObservers, .func (PySem.W.fnOf "__init__" "InvalidObservers.__init__" (defArgs s_iInvalidObservers) (defBody s_iInvalidObservers) (defScope s_iInvalidObservers) .none kV_InvalidObservers dc_InvalidObservers pm_InvalidObservers an_InvalidObservers cd_InvalidObservers ct_InvalidObservers), sl_InvalidObservers⟩)
    (v_InvalidObservers : PySem.W.codeIn K cd_InvalidObservers "InvalidObservers.__init__" = true)
    (x_InvalidObservers : PySem.W.keepIn K (.ref f_InvalidObservers) = true)
    (t_InvalidObservers : PySem.W.typeIn K (.ref f_InvalidObservers) = some (.type "function"))
    (w_NotEquivalent : K.lookup f_NotEquivalent = some ⟨oc_NotEquivalent, od_NotEquivalent, .func (PySem.W.fnOf "__init__" "NotEquivalent.__init__" (defArgs s_iNotEquivalent) (defBody s_iNotEquivalent) (defScope s_iNotEquivalent) .none kV_NotEquivalent dc_NotEquivalent pm_NotEquivalent an_NotEquivalent cd_NotEquivalent ct_NotEquivalent), sl_NotEquivalent⟩)
    (v_NotEquivalent : PySem.W.codeIn K cd_NotEquivalent "NotEquivalent.__init__" = true)
    (x_NotEquivalent : PySem.W.keepIn K (.ref f_NotEquivalent) = true)
    (t_NotEquivalent : PySem.W.typeIn K (.ref f_NotEquivalent) = some (.type "function"))
    (w_NotFound : K.lookup f_NotFound = some ⟨oc_NotFound, od_NotFound, .func (PySem.W.fnOf "__init__" "NotFound.__init__" (defArgs s_iNotFound) (defBody s_iNotFound) (defScope s_iNotFound) .none kV_NotFound dc_NotFound pm_NotFound an_NotFound cd_NotFound ct_NotFound), sl_NotFound⟩)
    (v_NotFound : PySem.W.codeIn K cd_NotFound "NotFound.__init__" = true)
    (x_NotFound : PySem.W.keepIn K (.ref f_NotFound) = true)
    (t_NotFound : PySem.W.typeIn K (.ref f_NotFound) = some (.type "function"))
    (chk0 : ck0 K = true)
    (chk1 : ck1 K = true)
    (chk2 : ck2 K = true)
    (chk3v : ck3 K "ValueError" = true)
    (chk3k : ck3 K "KeyError" = true)
    (chk4 : ck4 K = true)
    (chk5 : ck5 K = true)
    (chk6 : ck6 K = true)
    (chk8 : ck8 K = true)
    (chk9 : ck9 K = true)
    (chkb : nsC K "LotkeptError" (basB K) = true)
    (chkV : PySem.W.findCls K (.type "KeyError") (.type "type") "__init__" = some (.val (.builtin "KeyError.__init__")))
    (h7_NoCorrectValue : PySem.W.excIn K c_NoCorrectValue [Value.type "ValueError", Value.type "Exception", Value.type "BaseException", Value.type "object"] "ValueError.__new__" = true)
    (h7_InvalidScheme : PySem.W.excIn K c_InvalidScheme [Value.type "ValueError", Value.type "Exception", Value.type "BaseException", Value.type "object"] "ValueError.__new__" = true)
    (h7_InvalidFaulty : PySem.W.excIn K c_InvalidFaulty [Value.type "ValueError", Value.type "Exception", Value.type "BaseException", Value.type "object"] "ValueError.__new__" = true)
    (h7_InvalidRandomness : PySem.W.excIn K c_InvalidRandomness [Value.type "ValueError", Value.type "Exception", Value.type "BaseException", Value.type "object"] "ValueError.__new__" = true)
    (h7_InvalidText : PySem.W.excIn K c_InvalidText [Value.type "ValueError", Value.type "Exception", Value.type "BaseException", Value.type "object"] "ValueError.__new__" = true)
    (h7_InvalidLog : PySem.W.excIn K c_InvalidLog [Value.type "ValueError", Value.type "Exception", Value.type "BaseException", Value.type "object"] "ValueError.__new__" = true) :
    ∃ fd : FuncData, (∀ (s : Shared) (v : Value), BindsTo s fd ⟨[v], []⟩ [("_law_script", v)]) ∧ ∀ base : Heap, K.In base → base.Ns mainGlobals mg → FnG l.prog w K mg base CX0 4 fa fd ["_law_script"] (spLaw K) := by
  have e := hfa.symm.trans (PySem.W.mg_of X G a10)
  cases e
  have m : Mg mg := ⟨PySem.W.mg_none_of X G z_KeyError, PySem.W.mg_none_of X G z_ValueError, PySem.W.mg_none_of X G z_isinstance, PySem.W.mg_none_of X G z_len, PySem.W.mg_none_of X G z_list, PySem.W.mg_none_of X G z_range, PySem.W.mg_none_of X G z_repr⟩
  refine ⟨PySem.W.fnOf "law" "law" (defArgs s_law) (defBody s_law) (defScope s_law) .none kV10 dc10 pm10 an10 cd10 ct10, fun s v => .of_eq rfl, fun base _ _ => ?_⟩
  have T : ExT K exN exF := exT_ok chk0 chk1
  have bL : BasI K mg "LotkeptError" := basB_ok (PySem.W.mg_of X G e_LotkeptError) (nsC_ok chkb e_LotkeptError)
  have io_NoCorrectValue := io_ok (mg := mg) chk2 (D := "NoCorrectValue") (by decide +kernel) (PySem.W.mg_of X G e_NoCorrectValue) e_NoCorrectValue
  have io_InvalidScheme := io_ok (mg := mg) chk2 (D := "InvalidScheme") (by decide +kernel) (PySem.W.mg_of X G e_InvalidScheme) e_InvalidScheme
  have io_InvalidFaulty := io_ok (mg := mg) chk2 (D := "InvalidFaulty") (by decide +kernel) (PySem.W.mg_of X G e_InvalidFaulty) e_InvalidFaulty
  have io_InvalidRandomness := io_ok (mg := mg) chk2 (D := "InvalidRandomness") (by decide +kernel) (PySem.W.mg_of X G e_InvalidRandomness) e_InvalidRandomness
  have io_InvalidText := io_ok (mg := mg) chk2 (D := "InvalidText") (by decide +kernel) (PySem.W.mg_of X G e_InvalidText) e_InvalidText
  have io_InvalidLog := io_ok (mg := mg) chk2 (D := "InvalidLog") (by decide +kernel) (PySem.W.mg_of X G e_InvalidLog) e_InvalidLog
  have io_Conflict := io_ok (mg := mg) chk2 (D := "Conflict") (by decide +kernel) (PySem.W.mg_of X G e_Conflict) e_Conflict
  have io_InvalidValue := io_ok (mg := mg) chk2 (D := "InvalidValue") (by decide +kernel) (PySem.W.mg_of X G e_InvalidValue) e_InvalidValue
  have io_InvalidName := io_ok (mg := mg) chk2 (D := "InvalidName") (by decide +kernel) (PySem.W.mg_of X G e_InvalidName) e_InvalidName
  have io_InvalidOverrides := io_ok (mg := mg) chk2 (D := "InvalidOverrides") (by decide +kernel) (PySem.W.mg_of X G e_InvalidOverrides) e_InvalidOverrides
  have io_RandomnessExhausted := io_ok (mg := mg) chk2 (D := "RandomnessExhausted") (by decide +kernel) (PySem.W.mg_of X G e_RandomnessExhausted) e_RandomnessExhausted
  have io_InvalidObservers := io_ok (mg := mg) chk2 (D := "InvalidObservers") (by decide +kernel) (PySem.W.mg_of X G e_InvalidObservers) e_InvalidObservers
  have io_NotEquivalent := io_ok (mg := mg) chk2 (D := "NotEquivalent") (by decide +kernel) (PySem.W.mg_of X G e_NotEquivalent) e_NotEquivalent
  have io_NotFound := io_ok (mg := mg) chk2 (D := "NotFound") (by decide +kernel) (PySem.W.mg_of X G e_NotFound) e_NotFound
  have io_UnknownKey := io_ok (mg := mg) chk2 (D := "UnknownKey") (by decide +kernel) (PySem.W.mg_of X G e_UnknownKey) e_UnknownKey
  have io_UnknownClient := io_ok (mg := mg) chk2 (D := "UnknownClient") (by decide +kernel) (PySem.W.mg_of X G e_UnknownClient) e_UnknownClient
  have io_UnknownServer := io_ok (mg := mg) chk2 (D := "UnknownServer") (by decide +kernel) (PySem.W.mg_of X G e_UnknownServer) e_UnknownServer
  have io_UnknownParty := io_ok (mg := mg) chk2 (D := "UnknownParty") (by decide +kernel) (PySem.W.mg_of X G e_UnknownParty) e_UnknownParty
  have io_LotkeptError := io_ok (mg := mg) chk2 (D := "LotkeptError") (by decide +kernel) (PySem.W.mg_of X G e_LotkeptError) e_LotkeptError
  have ib_ValueError : IsT K exN (.type "ValueError") (subT "ValueError") := ib_ok chk3v
  have ib_KeyError : IsT K exN (.type "KeyError") (subT "KeyError") := ib_ok chk3k
  have F_Conflict : Fun K "__init__" "Conflict.__init__" s_iConflict f_Conflict _ := fun_mk (st := s_iConflict) w_Conflict v_Conflict x_Conflict
  have F_InvalidValue : Fun K "__init__" "InvalidValue.__init__" s_iInvalidValue f_InvalidValue _ := fun_mk (st := s_iInvalidValue) w_InvalidValue v_InvalidValue x_InvalidValue
  have F_InvalidName : Fun K "__init__" "InvalidName.__init__" s_iInvalidName f_InvalidName _ := fun_mk (st := s_iInvalidName) w_InvalidName v_InvalidName x_InvalidName
  have F_InvalidOverrides : Fun K "__init__" "InvalidOverrides.__init__" s_iInvalidOverrides f_InvalidOverrides _ := fun_mk (st := s_iInvalidOverrides) w_InvalidOverrides v_InvalidOverrides x_InvalidOverrides
  have F_RandomnessExhausted : Fun K "__init__" "RandomnessExhausted.__init__" s_iRandomnessExhausted f_RandomnessExhausted _ := fun_mk (st := s_iRandomnessExhausted) w_RandomnessExhausted v_RandomnessExhausted x_RandomnessExhausted
  have F_InvalidObservers : Fun K "__init__" "InvalidObservers.__init__" s_iInvalidObservers f_InvalidObservers _ := fun_mk (st := s_iInvalidObservers) w_InvalidObservers v_InvalidObservers x_InvalidObservers
  have F_NotEquivalent : Fun K "__init__" "NotEquivalent.__init__" s_iNotEquivalent f_NotEquivalent _ := fun_mk (st := s_iNotEquivalent) w_NotEquivalent v_NotEquivalent x_NotEquivalent
  have F_NotFound : Fun K "__init__" "NotFound.__init__" s_iNotFound f_NotFound _ := fun_mk (st := s_iNotFound) w_NotFound v_NotFound x_NotFound
  have o_Conflict := own_Conflict (P := l.prog) (w := w) (base := base) (PySem.W.mg_of X G e_Conflict) e_Conflict chk1 chk5 bL u_Conflict t_Conflict F_Conflict
  have o_InvalidValue := own_InvalidValue (P := l.prog) (w := w) (base := base) (PySem.W.mg_of X G e_InvalidValue) e_InvalidValue chk1 chk5 bL u_InvalidValue t_InvalidValue F_InvalidValue
  have o_InvalidName := own_InvalidName (P := l.prog) (w := w) (base := base) (PySem.W.mg_of X G e_InvalidName) e_InvalidName chk1 chk5 bL u_InvalidName t_InvalidName F_InvalidName
  have o_InvalidOverrides := own_InvalidOverrides (P := l.prog) (w := w) (base := base) (PySem.W.mg_of X G e_InvalidOverrides) e_InvalidOverrides chk1 chk5 bL u_InvalidOverrides t_InvalidOverrides F_InvalidOverrides
  have o_RandomnessExhausted := own_RandomnessExhausted (P := l.prog) (w := w) (base := base) (PySem.W.mg_of X G e_RandomnessExhausted) e_RandomnessExhausted chk1 chk5 bL u_RandomnessExhausted t_RandomnessExhausted F_RandomnessExhausted
  have o_InvalidObservers := own_InvalidObservers (P := l.prog) (w := w) (base := base) (PySem.W.mg_of X G e_InvalidObservers) e_InvalidObservers chk1 chk5 bL u_InvalidObservers t_InvalidObservers F_InvalidObservers
  have o_NotEquivalent := own_NotEquivalent (P := l.prog) (w := w) (base := base) (PySem.W.mg_of X G e_NotEquivalent) e_NotEquivalent chk1 chk5 bL u_NotEquivalent t_NotEquivalent F_NotEquivalent
  have o_NotFound := own_KE (P := l.prog) (w := w) (base := base) (nm := "NotFound") (by decide +kernel) (by decide +kernel) (by decide +kernel) (PySem.W.mg_of X G e_NotFound) e_NotFound chk1 chk4 chk6 m.n_KeyError chkV u_NotFound t_NotFound F_NotFound
  have o_UnknownKey := own_KE (P := l.prog) (w := w) (base := base) (nm := "UnknownKey") (by decide +kernel) (by decide +kernel) (by decide +kernel) (PySem.W.mg_of X G e_UnknownKey) e_UnknownKey chk1 chk4 chk6 m.n_KeyError chkV u_UnknownKey t_NotFound F_NotFound
  have o_UnknownClient := own_KE (P := l.prog) (w := w) (base := base) (nm := "UnknownClient") (by decide +kernel) (by decide +kernel) (by decide +kernel) (PySem.W.mg_of X G e_UnknownClient) e_UnknownClient chk1 chk4 chk6 m.n_KeyError chkV u_UnknownClient t_NotFound F_NotFound
  have o_UnknownServer := own_KE (P := l.prog) (w := w) (base := base) (nm := "UnknownServer") (by decide +kernel) (by decide +kernel) (by decide +kernel) (PySem.W.mg_of X G e_UnknownServer) e_UnknownServer chk1 chk4 chk6 m.n_KeyError chkV u_UnknownServer t_NotFound F_NotFound
  have o_UnknownParty := own_KE (P := l.prog) (w := w) (base := base) (nm := "UnknownParty") (by decide +kernel) (by decide +kernel) (by decide +kernel) (PySem.W.mg_of X G e_UnknownParty) e_UnknownParty chk1 chk4 chk6 m.n_KeyError chkV u_UnknownParty t_NotFound F_NotFound
  have y_Conflict : ∃ C, OwnC l.prog w K mg base "Conflict" "sets" C := ⟨_, o_Conflict⟩
  have y_InvalidValue : ∃ C, OwnC l.prog w K mg base "InvalidValue" "value" C := ⟨_, o_InvalidValue⟩
  have y_InvalidName : ∃ C, OwnC l.prog w K mg base "InvalidName" "value" C := ⟨_, o_InvalidName⟩
  have y_InvalidOverrides : ∃ C, OwnC l.prog w K mg base "InvalidOverrides" "value" C := ⟨_, o_InvalidOverrides⟩
  have y_RandomnessExhausted : ∃ C, OwnC l.prog w K mg base "RandomnessExhausted" "party" C := ⟨_, o_RandomnessExhausted⟩
  have y_InvalidObservers : ∃ C, OwnC l.prog w K mg base "InvalidObservers" "value" C := ⟨_, o_InvalidObservers⟩
  have y_NotEquivalent : ∃ C, OwnC l.prog w K mg base "NotEquivalent" "operation" C := ⟨_, o_NotEquivalent⟩
  have y_NotFound : ∃ C, OwnC l.prog w K mg base "NotFound" "name" C := ⟨_, o_NotFound⟩
  have y_UnknownKey : ∃ C, OwnC l.prog w K mg base "UnknownKey" "name" C := ⟨_, o_UnknownKey⟩
  have y_UnknownClient : ∃ C, OwnC l.prog w K mg base "UnknownClient" "name" C := ⟨_, o_UnknownClient⟩
  have y_UnknownServer : ∃ C, OwnC l.prog w K mg base "UnknownServer" "name" C := ⟨_, o_UnknownServer⟩
  have y_UnknownParty : ∃ C, OwnC l.prog w K mg base "UnknownParty" "name" C := ⟨_, o_UnknownParty⟩
  have y_NoCorrectValue : ∃ C, Own0 K mg "NoCorrectValue" C := own0_ok chk4 h7_NoCorrectValue (by decide +kernel) (PySem.W.mg_of X G e_NoCorrectValue) e_NoCorrectValue
  have y_InvalidScheme : ∃ C, Own0 K mg "InvalidScheme" C := own0_ok chk4 h7_InvalidScheme (by decide +kernel) (PySem.W.mg_of X G e_InvalidScheme) e_InvalidScheme
  have y_InvalidFaulty : ∃ C, Own0 K mg "InvalidFaulty" C := own0_ok chk4 h7_InvalidFaulty (by decide +kernel) (PySem.W.mg_of X G e_InvalidFaulty) e_InvalidFaulty
  have y_InvalidRandomness : ∃ C, Own0 K mg "InvalidRandomness" C := own0_ok chk4 h7_InvalidRandomness (by decide +kernel) (PySem.W.mg_of X G e_InvalidRandomness) e_InvalidRandomness
  have y_InvalidText : ∃ C, Own0 K mg "InvalidText" C := own0_ok chk4 h7_InvalidText (by decide +kernel) (PySem.W.mg_of X G e_InvalidText) e_InvalidText
  have y_InvalidLog : ∃ C, Own0 K mg "InvalidLog" C := own0_ok chk4 h7_InvalidLog (by decide +kernel) (PySem.W.mg_of X G e_InvalidLog) e_InvalidLog
  have CT : CauT l.prog w K mg base c_LotkeptError c_NotFound := ⟨PySem.W.mg_of X G e_LotkeptError, PySem.W.mg_of X G e_NotFound, m.n_KeyError, m.n_isinstance,
    catx o_Conflict chk0 chk1 chk4 (by decide +kernel) (by decide +kernel) (exm8 chk8 (by decide +kernel) e_Conflict e_LotkeptError),
    ⟨_, ⟨PySem.W.mg_of X G e_NoCorrectValue, e_NoCorrectValue, (ck4_ok chk4 (by decide +kernel) e_NoCorrectValue).1, h7_NoCorrectValue⟩, (ck4_ok chk4 (by decide +kernel) e_NoCorrectValue).2.1, (ck4_ok chk4 (by decide +kernel) e_NoCorrectValue).2.2, exm8 chk8 (by decide +kernel) e_NoCorrectValue e_LotkeptError, T.ec _ (by decide +kernel) _ e_NoCorrectValue⟩,
    catx o_NotEquivalent chk0 chk1 chk4 (by decide +kernel) (by decide +kernel) (exm8 chk8 (by decide +kernel) e_NotEquivalent e_LotkeptError),
    catx o_UnknownParty chk0 chk1 chk4 (by decide +kernel) (by decide +kernel) (exm8 chk8 (by decide +kernel) e_UnknownParty e_NotFound),
    catx o_UnknownServer chk0 chk1 chk4 (by decide +kernel) (by decide +kernel) (of_decide_eq_true (nsC_ok chk9 e_UnknownServer))⟩
  have F0 := fun_mk (st := s_law_source) l0 c0 k0
  have F1 := fun_mk (st := s_law_draw) l1 c1 k1
  have F2 := fun_mk (st := s_law_pick) l2 c2 k2
  have F3 := fun_mk (st := s_law_thing) l3 c3 k3
  have F4 := fun_mk (st := s_law_by_position) l4 c4 k4
  have F5 := fun_mk (st := s_law_by_name) l5 c5 k5
  have F6 := fun_mk (st := s_law_attributes) l6 c6 k6
  have F7 := fun_mk (st := s_law_instances) l7 c7 k7
  have F8 := fun_mk (st := s_law_expected) l8 c8 k8
  have F9 := fun_mk (st := s_law_caught) l9 c9 k9
  have F10 := fun_mk (st := s_law) l10 c10 k10
  have c_law_draw : Cal l.prog w K mg base CX0 Wp02 1 "_law_draw" s_law_draw P_law_draw sp_law_draw := ⟨_, _, F1, fn_law_draw F1, PySem.W.mg_of X G a1⟩
  have c_law_pick : Cal l.prog w K mg base CX0 Wp02 2 "_law_pick" s_law_pick P_law_pick sp_law_pick := cal_law_pick m c_law_draw F2 (PySem.W.mg_of X G a2)
  have c_law_thing : Cal l.prog w K mg base CX0 Wp02 3 "_law_thing" s_law_thing P_law_thing sp_law_thing := cal_law_thing m c_law_draw c_law_pick F3 (PySem.W.mg_of X G a3)
  have c_law_by_position : Cal l.prog w K mg base CX0 Wp02 3 "_law_by_position" s_law_by_position P_law_by_position sp_law_by_position := cal_law_by_position m y_InvalidText y_InvalidRandomness y_InvalidFaulty y_InvalidScheme y_NoCorrectValue y_InvalidOverrides y_InvalidName y_InvalidValue y_Conflict y_InvalidLog y_NotFound y_NotEquivalent y_InvalidObservers y_RandomnessExhausted y_UnknownParty y_UnknownServer y_UnknownClient y_UnknownKey F4 (PySem.W.mg_of X G a4)
  have c_law_by_name : Cal l.prog w K mg base CX0 Wp02 3 "_law_by_name" s_law_by_name P_law_by_name sp_law_by_name := cal_law_by_name m y_InvalidOverrides y_InvalidName y_InvalidValue y_Conflict y_NotEquivalent y_InvalidObservers y_RandomnessExhausted y_UnknownServer y_UnknownClient y_UnknownKey y_NotFound y_UnknownParty F5 (PySem.W.mg_of X G a5)
  have c_law_attributes : Cal l.prog w K mg base CX0 Wp02 1 "_law_attributes" s_law_attributes P_law_attributes sp_law_attributes := cal_law_attributes m T F6 (PySem.W.mg_of X G a6)
  have c_law_instances : Cal l.prog w K mg base CX0 Wp02 1 "_law_instances" s_law_instances P_law_instances sp_law_instances := cal_law_instances m T io_InvalidFaulty io_InvalidScheme io_NoCorrectValue io_InvalidLog io_InvalidText io_InvalidRandomness io_InvalidName io_InvalidValue io_Conflict io_RandomnessExhausted io_InvalidOverrides io_NotFound io_NotEquivalent io_InvalidObservers io_UnknownServer io_UnknownClient io_UnknownKey io_LotkeptError io_UnknownParty ib_ValueError ib_KeyError F7 (PySem.W.mg_of X G a7)
  have c_law_expected : Cal l.prog w K mg base CX0 Wp02 1 "_law_expected" s_law_expected P_law_expected sp_law_expected := cal_law_expected m F8 (PySem.W.mg_of X G a8)
  have c_law_caught : Cal l.prog w K mg base CX0 Wp02 3 "_law_caught" s_law_caught P_law_caught sp_law_caught := ⟨_, _, F9, fn_law_caught F9   CT, PySem.W.mg_of X G a9⟩
  exact fn_law m c_law_thing c_law_draw c_law_pick c_law_by_name c_law_by_position c_law_attributes c_law_instances c_law_expected c_law_caught F10 F0 (PySem.W.mg_of X G a0)
end G9
open PySem PySem.W PyProof.Rows
set_option maxHeartbeats 0 in
theorem PySem.Challenge.cw_lotkept_k01_errors_holds : PySem.Challenge.rw_lotkept_k01_errors.Holds := by
  w_on; o_law; k_head; (case hw => w_witness2)
  k_fill
  refine G9.walk_ofG (l := PySem.Challenge.rw_lotkept_k01_errors) (n := 63) (k := 4) (x := "_law_script") (CX := fun _ => L2.CX0) (sp := fun w => G9.spLaw _) rfl (by decide) rfl ⟨rfl, by decide, by decide⟩ ?hi ?hk (fun w h Y => PySem.W.kIn_of Y) ?F (fun w H a ns hl sm hS => ⟨a, ns, rfl, sm, hS, fun _ => rfl⟩) (fun _ _ _ _ _ h => h)
  case hi => rfl
  case hk => intro p; rfl
  case F =>
    intro w mg fa h KX G hmg
    refine' G9.all_mk KX G hmg ?a0 ?l0 ?c0 ?k0 ?a1 ?l1 ?c1 ?k1 ?a2 ?l2 ?c2 ?k2 ?a3 ?l3 ?c3 ?k3 ?a4 ?l4 ?c4 ?k4 ?a5 ?l5 ?c5 ?k5 ?a6 ?l6 ?c6 ?k6 ?a7 ?l7 ?c7 ?k7 ?a8 ?l8 ?c8 ?k8 ?a9 ?l9 ?c9 ?k9 ?a10 ?l10 ?c10 ?k10 ?z_KeyError ?z_ValueError ?z_isinstance ?z_len ?z_list ?z_range ?z_repr ?e_LotkeptError ?e_NoCorrectValue ?e_InvalidScheme ?e_InvalidFaulty ?e_InvalidRandomness ?e_InvalidText ?e_InvalidLog ?e_Conflict ?e_InvalidValue ?e_InvalidName ?e_InvalidOverrides ?e_RandomnessExhausted ?e_InvalidObservers ?e_NotEquivalent ?e_NotFound ?e_UnknownKey ?e_UnknownClient ?e_UnknownServer ?e_UnknownParty ?u_Conflict ?u_InvalidValue ?u_InvalidName ?u_InvalidOverrides ?u_RandomnessExhausted ?u_InvalidObservers ?u_NotEquivalent ?u_NotFound ?u_UnknownKey ?u_UnknownClient ?u_UnknownServer ?u_UnknownParty ?w_Conflict ?v_Conflict ?x_Conflict ?t_Conflict ?w_InvalidValue ?v_InvalidValue ?x_InvalidValue ?t_InvalidValue ?w_InvalidName ?v_InvalidName ?x_InvalidName ?t_InvalidName ?w_InvalidOverrides ?v_InvalidOverrides ?x_InvalidOverrides ?t_InvalidOverrides ?w_RandomnessExhausted ?v_RandomnessExhausted ?x_RandomnessExhausted ?t_RandomnessExhausted ?w_InvalidObservers ?v_InvalidObservers ?x_InvalidObservers ?t_InvalidObservers ?w_NotEquivalent ?v_NotEquivalent ?x_NotEquivalent ?t_NotEquivalent ?w_NotFound ?v_NotFound ?x_NotFound ?t_NotFound ?chk0 ?chk1 ?chk2 ?chk3v ?chk3k ?chk4 ?chk5 ?chk6 ?chk8 ?chk9 ?chkb ?chkV ?h7_NoCorrectValue ?h7_InvalidScheme ?h7_InvalidFaulty ?h7_InvalidRandomness ?h7_InvalidText ?h7_InvalidLog
    (case a0 => k_is); (case l0 => k_is); (case c0 => k_is); (case k0 => k_is); (case a1 => k_is); (case l1 => k_is); (case c1 => k_is); (case k1 => k_is); (case a2 => k_is); (case l2 => k_is); (case c2 => k_is); (case k2 => k_is); (case a3 => k_is); (case l3 => k_is); (case c3 => k_is); (case k3 => k_is); (case a4 => k_is); (case l4 => k_is); (case c4 => k_is); (case k4 => k_is); (case a5 => k_is); (case l5 => k_is); (case c5 => k_is); (case k5 => k_is); (case a6 => k_is); (case l6 => k_is); (case c6 => k_is); (case k6 => k_is); (case a7 => k_is); (case l7 => k_is); (case c7 => k_is); (case k7 => k_is); (case a8 => k_is); (case l8 => k_is); (case c8 => k_is); (case k8 => k_is); (case a9 => k_is); (case l9 => k_is); (case c9 => k_is); (case k9 => k_is); (case a10 => k_is); (case l10 => k_is); (case c10 => k_is); (case k10 => k_is); (case z_KeyError => k_is); (case z_ValueError => k_is); (case z_isinstance => k_is); (case z_len => k_is); (case z_list => k_is); (case z_range => k_is); (case z_repr => k_is); (case e_LotkeptError => first | k_is | kit_is | k_exc | rfl); (case e_NoCorrectValue => first | k_is | kit_is | k_exc | rfl); (case e_InvalidScheme => first | k_is | kit_is | k_exc | rfl); (case e_InvalidFaulty => first | k_is | kit_is | k_exc | rfl); (case e_InvalidRandomness => first | k_is | kit_is | k_exc | rfl); (case e_InvalidText => first | k_is | kit_is | k_exc | rfl); (case e_InvalidLog => first | k_is | kit_is | k_exc | rfl); (case e_Conflict => first | k_is | kit_is | k_exc | rfl); (case e_InvalidValue => first | k_is | kit_is | k_exc | rfl); (case e_InvalidName => first | k_is | kit_is | k_exc | rfl); (case e_InvalidOverrides => first | k_is | kit_is | k_exc | rfl); (case e_RandomnessExhausted => first | k_is | kit_is | k_exc | rfl); (case e_InvalidObservers => first | k_is | kit_is | k_exc | rfl); (case e_NotEquivalent => first | k_is | kit_is | k_exc | rfl); (case e_NotFound => first | k_is | kit_is | k_exc | rfl); (case e_UnknownKey => first | k_is | kit_is | k_exc | rfl); (case e_UnknownClient => first | k_is | kit_is | k_exc | rfl); (case e_UnknownServer => first | k_is | kit_is | k_exc | rfl); (case e_UnknownParty => first | k_is | kit_is | k_exc | rfl); (case u_Conflict => first | k_is | kit_is | k_exc | rfl); (case u_InvalidValue => first | k_is | kit_is | k_exc | rfl); (case u_InvalidName => first | k_is | kit_is | k_exc | rfl); (case u_InvalidOverrides => first | k_is | kit_is | k_exc | rfl); (case u_RandomnessExhausted => first | k_is | kit_is | k_exc | rfl); (case u_InvalidObservers => first | k_is | kit_is | k_exc | rfl); (case u_NotEquivalent => first | k_is | kit_is | k_exc | rfl); (case u_NotFound => first | k_is | kit_is | k_exc | rfl); (case u_UnknownKey => first | k_is | kit_is | k_exc | rfl); (case u_UnknownClient => first | k_is | kit_is | k_exc | rfl); (case u_UnknownServer => first | k_is | kit_is | k_exc | rfl); (case u_UnknownParty => first | k_is | kit_is | k_exc | rfl); (case w_Conflict => first | k_is | kit_is | k_exc | rfl); (case v_Conflict => first | k_is | kit_is | k_exc | rfl); (case x_Conflict => first | k_is | kit_is | k_exc | rfl); (case t_Conflict => first | k_is | kit_is | k_exc | rfl); (case w_InvalidValue => first | k_is | kit_is | k_exc | rfl); (case v_InvalidValue => first | k_is | kit_is | k_exc | rfl); (case x_InvalidValue => first | k_is | kit_is | k_exc | rfl); (case t_InvalidValue => first | k_is | kit_is | k_exc | rfl); (case w_InvalidName => first | k_is | kit_is | k_exc | rfl); (case v_InvalidName => first | k_is | kit_is | k_exc | rfl); (case x_InvalidName => first | k_is | kit_is | k_exc | rfl); (case t_InvalidName => first | k_is | kit_is | k_exc | rfl); (case w_InvalidOverrides => first | k_is | kit_is | k_exc | rfl); (case v_InvalidOverrides => first | k_is | kit_is | k_exc | rfl); (case x_InvalidOverrides => first | k_is | kit_is | k_exc | rfl); (case t_InvalidOverrides => first | k_is | kit_is | k_exc | rfl); (case w_RandomnessExhausted => first | k_is | kit_is | k_exc | rfl); (case v_RandomnessExhausted => first | k_is | kit_is | k_exc | rfl); (case x_RandomnessExhausted => first | k_is | kit_is | k_exc | rfl); (case t_RandomnessExhausted => first | k_is | kit_is | k_exc | rfl); (case w_InvalidObservers => first | k_is | kit_is | k_exc | rfl); (case v_InvalidObservers => first | k_is | kit_is | k_exc | rfl); (case x_InvalidObservers => first | k_is | kit_is | k_exc | rfl); (case t_InvalidObservers => first | k_is | kit_is | k_exc | rfl); (case w_NotEquivalent => first | k_is | kit_is | k_exc | rfl); (case v_NotEquivalent => first | k_is | kit_is | k_exc | rfl); (case x_NotEquivalent => first | k_is | kit_is | k_exc | rfl); (case t_NotEquivalent => first | k_is | kit_is | k_exc | rfl); (case w_NotFound => first | k_is | kit_is | k_exc | rfl); (case v_NotFound => first | k_is | kit_is | k_exc | rfl); (case x_NotFound => first | k_is | kit_is | k_exc | rfl); (case t_NotFound => first | k_is | kit_is | k_exc | rfl); (case chk0 => first | k_is | kit_is | k_exc | rfl); (case chk1 => first | k_is | kit_is | k_exc | rfl); (case chk2 => first | k_is | kit_is | k_exc | rfl); (case chk3v => first | k_is | kit_is | k_exc | rfl); (case chk3k => first | k_is | kit_is | k_exc | rfl); (case chk4 => first | k_is | kit_is | k_exc | rfl); (case chk5 => first | k_is | kit_is | k_exc | rfl); (case chk6 => first | k_is | kit_is | k_exc | rfl); (case chk8 => first | k_is | kit_is | k_exc | rfl); (case chk9 => first | k_is | kit_is | k_exc | rfl); (case chkb => first | k_is | kit_is | k_exc | rfl); (case chkV => first | k_is | kit_is | k_exc | rfl); (case h7_NoCorrectValue => first | k_is | kit_is | k_exc | rfl); (case h7_InvalidScheme => first | k_is | kit_is | k_exc | rfl); (case h7_InvalidFaulty => first | k_is | kit_is | k_exc | rfl); (case h7_InvalidRandomness => first | k_is | kit_is | k_exc | rfl); (case h7_InvalidText => first | k_is | kit_is | k_exc | rfl); (case h7_InvalidLog => first | k_is | kit_is | k_exc | rfl)


