import PyProof.Rows.All
import HandS.Comp
import HandS.Conv
import HandS.Deep
import HandS.Dict
import HandS.Exc
import HandS.ForMost
import HandS.IsInst
import HandS.Iter
import HandS.More
import HandS.RaiseMore
import HandS.Set
import HandS.SetBool
import HandS.SetTxt0
import HandS.SortRule
import HandS.Strs
import HandS.Style
import HandS.Text
import HandS.TupAny
import HandS.TupLe
import HandS.TupMul
import HandS.Words
import HandS.Zip
import KE.GoesEnum
import KE.GoesEnumKw
import KE.KDictCopyH
import KE.KDictKeyed
import KE.KDictList
import KE.KDictSum
import KE.KSortTupAny
import KE.KTupSum
import OpenK.AllK
import PyProof.CallStr
import PyProof.ListStr
import PyProof.Rows.IntBool
import PyProof.Rows.StrDigitsNeg
import PyProof.SliceStr2
import PyProof.StrOps
import Wide.All
import Wide.FinOn
import PySem.Challenge.RW_lotkept_k04_modified_schemes
set_option Elab.async false
set_option linter.all false
set_option maxRecDepth 100000
set_option maxHeartbeats 4000000
/-! M1: pure data in slots (Rep), what is kept (Kp), the state (Gd). -/
namespace G9
open PySem PySem.Spec L2

/-- what stays from H to H': all but M; the tuples, the locked things in any case -/
structure Kp (M : List Addr) (H H' : Hp) : Prop where
  same : ∀ a o, a ∉ M → H a = some o → H' a = some o
  tup : ∀ a xs, H a = some (.tup xs) → H' a = some (.tup xs)
  frz : ∀ a o u, H a = some (.frz o u) → H' a = some (.frz o u)
  liv : ∀ a, H a ≠ none → H' a ≠ none
theorem Kp.refl (M : List Addr) (H : Hp) : Kp M H H := ⟨fun _ _ _ h => h, fun _ _ h => h, fun _ _ _ h => h, fun _ h => h⟩
theorem Kp.trans {M : List Addr} {H H1 H2 : Hp} (a : Kp M H H1) (b : Kp M H1 H2) : Kp M H H2 :=
  ⟨fun x o n h => b.same x o n (a.same x o n h), fun x o h => b.tup x o (a.tup x o h), fun x o u h => b.frz x o u (a.frz x o u h), fun x h => b.liv x (a.liv x h)⟩
theorem Kp.more {M M' : List Addr} {H H' : Hp} (k : Kp M H H') (s : ∀ a ∈ M, a ∈ M') : Kp M' H H' :=
  ⟨fun x o n h => k.same x o (fun z => n (s x z)) h, k.tup, k.frz, k.liv⟩
theorem Kp.fresh {M : List Addr} {H : Hp} {p : Addr} {o : HO} (h : H p = none) : Kp M H (upd H p o) := by
  refine ⟨fun a u _ e => ?_, fun a u e => ?_, fun a o' u e => ?_, fun a e => ?_⟩
  · rw [upd_ne (ne_of_none e h)]; exact e
  · rw [upd_ne (ne_of_none e h)]; exact e
  · rw [upd_ne (ne_of_none e h)]; exact e
  · by_cases z : a = p
    · rw [z, upd_same]; exact fun q => nomatch q
    · rw [upd_ne z]; exact e
theorem Kp.store {M : List Addr} {H : Hp} {p : Addr} {xs ys : List V} (hp : p ∈ M) (h : H p = some (.lst xs)) : Kp M H (upd H p (.lst ys)) := by
  refine ⟨fun a u n e => ?_, fun a u e => ?_, fun a o' u e => ?_, fun a e => ?_⟩
  · rw [upd_ne (fun z => n (by rw [z]; exact hp))]; exact e
  · rw [upd_ne (ne_of e h (fun z => nomatch z))]; exact e
  · rw [upd_ne (ne_of e h (fun z => nomatch z))]; exact e
  · by_cases z : a = p
    · rw [z, upd_same]; exact fun q => nomatch q
    · rw [upd_ne z]; exact e
theorem Kp.sm {M : List Addr} {H H' : Hp} (k : Kp M H H') (h : ∃ o u, H sysModules = some (.frz o u)) : ∃ o u, H' sysModules = some (.frz o u) := let ⟨o, u, e⟩ := h; ⟨o, u, k.frz _ _ _ e⟩
theorem Kp.sqT {M : List Addr} {H H' : Hp} {K : PySem.W.Frag} {a : Addr} {xs : List V} (k : Kp M H H') (h : SqT K H a xs) : SqT K H' a xs := by
  rcases h with (h | ⟨o, h⟩) | h
  · exact .inl (.inl (k.tup _ _ h))
  · exact .inl (.inr ⟨o, k.frz _ _ _ h⟩)
  · exact .inr h

def keyD : Key → PyData
  | .inl i => .int i
  | .inr x => .str x

mutual
/-- the value v is the data d in H; no list or dict of it stands at an address of M -/
inductive Rep (K : PySem.W.Frag) (H : Hp) (M : List Addr) : V → PyData → Prop
  | non : Rep K H M .non .none
  | bl (b : Bool) : Rep K H M (.bl b) (.bool b)
  | int (i : Int) : Rep K H M (.int i) (.int i)
  | str (x : Str) : Rep K H M (.str x) (.str x)
  | lst {a : Addr} {xs : List V} {ds : List PyData} : a ∉ M → H a = some (.lst xs) → RepL K H M xs ds → Rep K H M (.ref a) (.list ds)
  | tup {a : Addr} {xs : List V} {ds : List PyData} : SqT K H a xs → RepL K H M xs ds → Rep K H M (.ref a) (.tuple ds)
  | dct {a : Addr} {kvs : List (Key × V)} {ds : List PyData} : a ∉ M → H a = some (.dK kvs) → RepL K H M (kvs.map (·.2)) ds → Rep K H M (.ref a) (.dict ((kvs.map fun p => keyD p.1).zip ds))
inductive RepL (K : PySem.W.Frag) (H : Hp) (M : List Addr) : List V → List PyData → Prop
  | nil : RepL K H M [] []
  | cons {v : V} {vs : List V} {d : PyData} {ds : List PyData} : Rep K H M v d → RepL K H M vs ds → RepL K H M (v :: vs) (d :: ds)
end
section
variable {K : PySem.W.Frag} {H H' : Hp} {M M' : List Addr}
mutual
/-- from H, M to H', M': what is out of M stays, what is new in M' was nothing in H -/
theorem Rep.move (k : Kp M H H') (n : ∀ a ∈ M', a ∈ M ∨ H a = none) : ∀ {v : V} {d : PyData}, Rep K H M v d → Rep K H' M' v d
  | _, _, .non => .non
  | _, _, .bl b => .bl b
  | _, _, .int i => .int i
  | _, _, .str x => .str x
  | _, _, .lst hn h r => .lst (fun z => (n _ z).elim hn (fun q => by rw [q] at h; cases h)) (k.same _ _ hn h) (RepL.move k n r)
  | _, _, .tup h r => .tup (k.sqT h) (RepL.move k n r)
  | _, _, .dct hn h r => .dct (fun z => (n _ z).elim hn (fun q => by rw [q] at h; cases h)) (k.same _ _ hn h) (RepL.move k n r)
theorem RepL.move (k : Kp M H H') (n : ∀ a ∈ M', a ∈ M ∨ H a = none) : ∀ {vs : List V} {ds : List PyData}, RepL K H M vs ds → RepL K H' M' vs ds
  | _, _, .nil => .nil
  | _, _, .cons h r => .cons (Rep.move k n h) (RepL.move k n r)
end
theorem Rep.keep {v : V} {d : PyData} (k : Kp M H H') (h : Rep K H M v d) : Rep K H' M v d := h.move k fun _ z => .inl z
theorem RepL.keep {v : List V} {d : List PyData} (k : Kp M H H') (h : RepL K H M v d) : RepL K H' M v d := h.move k fun _ z => .inl z
theorem Rep.less {v : V} {d : PyData} (s : ∀ a ∈ M', a ∈ M) (h : Rep K H M v d) : Rep K H M' v d := h.move (Kp.refl _ _) fun a z => .inl (s a z)
theorem RepL.less {v : List V} {d : List PyData} (s : ∀ a ∈ M', a ∈ M) (h : RepL K H M v d) : RepL K H M' v d := h.move (Kp.refl _ _) fun a z => .inl (s a z)
mutual
theorem Rep.dp : ∀ {v : V} {d : PyData}, Rep K H M v d → d.canLay0 = true → Dp K H v d
  | _, _, .non, _ => .non
  | _, _, .bl b, _ => .bl b
  | _, _, .int i, _ => .int i
  | _, _, .str x, _ => .str x
  | _, _, .lst _ h r, c => .lst (.inl (.inl h)) (RepL.dp r (by simpa [PyData.canLay0] using c))
  | _, _, .tup h r, c => .tup h (RepL.dp r (by simpa [PyData.canLay0] using c))
  | _, _, .dct _ _ _, c => by simp [PyData.canLay0] at c
theorem RepL.dp : ∀ {vs : List V} {ds : List PyData}, RepL K H M vs ds → PyData.canLayAll0 ds = true → DpAll K H vs ds
  | _, _, .nil, _ => .nil
  | _, _, .cons h r, c => by
    simp only [PyData.canLayAll0, Bool.and_eq_true] at c
    exact .cons (Rep.dp h c.1) (RepL.dp r c.2)
end
theorem RepL.length {vs : List V} {ds : List PyData} (r : RepL K H M vs ds) : vs.length = ds.length := by
  induction ds generalizing vs with
  | nil => cases r; rfl
  | cons d ds ih => cases r with | cons h t => simp [ih t]
theorem RepL.get {vs : List V} {ds : List PyData} (r : RepL K H M vs ds) : ∀ {i : Nat} {d : PyData}, ds[i]? = some d → ∃ v, vs[i]? = some v ∧ Rep K H M v d := by
  induction ds generalizing vs with
  | nil => intro i d e; simp at e
  | cons d0 ds ih =>
    cases r with
    | cons h t =>
      intro i d e
      cases i with
      | zero => simp at e; subst e; exact ⟨_, rfl, h⟩
      | succ i => exact ih t (by simpa using e)
theorem RepL.getV {vs : List V} {ds : List PyData} (r : RepL K H M vs ds) : ∀ {i : Nat} {v : V}, vs[i]? = some v → ∃ d, ds[i]? = some d ∧ Rep K H M v d := by
  intro i v e
  have hi : i < ds.length := by
    rw [← r.length]
    exact (List.getElem?_eq_some_iff.mp e).1
  obtain ⟨v', e', h⟩ := r.get (List.getElem?_eq_getElem hi)
  rw [e] at e'; cases e'
  exact ⟨_, List.getElem?_eq_getElem hi, h⟩
theorem RepL.append {vs ws : List V} {ds es : List PyData} (r : RepL K H M vs ds) (q : RepL K H M ws es) : RepL K H M (vs ++ ws) (ds ++ es) := by
  induction ds generalizing vs with
  | nil => cases r; exact q
  | cons d ds ih => cases r with | cons h t => exact .cons h (ih t)
theorem RepL.take {vs : List V} {ds : List PyData} (r : RepL K H M vs ds) : ∀ n, RepL K H M (vs.take n) (ds.take n) := by
  induction ds generalizing vs with
  | nil => cases r; intro n; simp; exact .nil
  | cons d ds ih =>
    cases r with
    | cons h t =>
      intro n
      cases n with
      | zero => exact .nil
      | succ n => exact .cons h (ih t n)
theorem RepL.drop {vs : List V} {ds : List PyData} (r : RepL K H M vs ds) : ∀ n, RepL K H M (vs.drop n) (ds.drop n) := by
  induction ds generalizing vs with
  | nil => cases r; intro n; simp; exact .nil
  | cons d ds ih =>
    cases r with
    | cons h t =>
      intro n
      cases n with
      | zero => exact .cons h t
      | succ n => exact ih t n
theorem RepL.reverse {vs : List V} {ds : List PyData} (r : RepL K H M vs ds) : RepL K H M vs.reverse ds.reverse := by
  induction ds generalizing vs with
  | nil => cases r; exact .nil
  | cons d ds ih => cases r with | cons h t => simp only [List.reverse_cons]; exact (ih t).append (.cons h .nil)
theorem RepL.eraseIdx {vs : List V} {ds : List PyData} (r : RepL K H M vs ds) : ∀ n, RepL K H M (vs.eraseIdx n) (ds.eraseIdx n) := by
  induction ds generalizing vs with
  | nil => cases r; intro n; simp; exact .nil
  | cons d ds ih =>
    cases r with
    | cons h t =>
      intro n
      cases n with
      | zero => exact t
      | succ n => exact .cons h (ih t n)
theorem RepL.set {vs : List V} {ds : List PyData} {v : V} {d : PyData} (r : RepL K H M vs ds) (q : Rep K H M v d) : ∀ n, RepL K H M (vs.set n v) (ds.set n d) := by
  induction ds generalizing vs with
  | nil => cases r; intro n; exact .nil
  | cons d ds ih =>
    cases r with
    | cons h t =>
      intro n
      cases n with
      | zero => exact .cons q t
      | succ n => exact .cons h (ih t n)
theorem RepL.rep {vs : List V} {ds : List PyData} (r : RepL K H M vs ds) : ∀ n : Nat, RepL K H M (List.replicate n vs).flatten (List.replicate n ds).flatten
  | 0 => .nil
  | n + 1 => by
    simp only [List.replicate_succ, List.flatten_cons]
    exact r.append (RepL.rep r n)
theorem RepL.of_get {vs : List V} {ds : List PyData} (hl : vs.length = ds.length) (h : ∀ (i : Nat) v d, vs[i]? = some v → ds[i]? = some d → Rep K H M v d) : RepL K H M vs ds := by
  induction ds generalizing vs with
  | nil => cases vs with | nil => exact .nil | cons v vs => simp at hl
  | cons d ds ih =>
    cases vs with
    | nil => simp at hl
    | cons v vs => exact .cons (h 0 v d rfl rfl) (ih (by simpa using hl) fun i v d a b => h (i + 1) v d (by simpa using a) (by simpa using b))
/-- scalars -/
theorem Rep.int_inv {v : V} {i : Int} (h : Rep K H M v (.int i)) : v = .int i := by cases h; rfl
theorem Rep.bool_inv {v : V} {i : Bool} (h : Rep K H M v (.bool i)) : v = .bl i := by cases h; rfl
theorem Rep.str_inv {v : V} {i : Str} (h : Rep K H M v (.str i)) : v = .str i := by cases h; rfl
theorem Rep.none_inv {v : V} (h : Rep K H M v .none) : v = .non := by cases h; rfl
theorem RepL.ints : ∀ {vs : List V} {ns : List Int}, RepL K H M vs (ns.map PyData.int) → vs = ns.map V.int
  | _, [], r => by cases r; rfl
  | _, n :: ns, r => by
    have r' : RepL K H M _ (PyData.int n :: ns.map PyData.int) := r
    cases r' with | cons h t => rw [h.int_inv, RepL.ints t]; rfl
theorem RepL.strs : ∀ {vs : List V} {ns : List Str}, RepL K H M vs (ns.map PyData.str) → vs = ns.map V.str
  | _, [], r => by cases r; rfl
  | _, n :: ns, r => by
    have r' : RepL K H M _ (PyData.str n :: ns.map PyData.str) := r
    cases r' with | cons h t => rw [h.str_inv, RepL.strs t]; rfl
theorem RepL.bls : ∀ {vs : List V} {ns : List Bool}, RepL K H M vs (ns.map PyData.bool) → vs = ns.map V.bl
  | _, [], r => by cases r; rfl
  | _, n :: ns, r => by
    have r' : RepL K H M _ (PyData.bool n :: ns.map PyData.bool) := r
    cases r' with | cons h t => rw [h.bool_inv, RepL.bls t]; rfl
theorem RepL.of_ints : ∀ (ns : List Int), RepL K H M (ns.map V.int) (ns.map PyData.int)
  | [] => .nil
  | n :: ns => .cons (.int n) (RepL.of_ints ns)
theorem RepL.of_strs : ∀ (ns : List Str), RepL K H M (ns.map V.str) (ns.map PyData.str)
  | [] => .nil
  | n :: ns => .cons (.str n) (RepL.of_strs ns)
end

/-! ### values and entries -/
/-- a value of a slot: pure data, or the deck (the law's source of draws) -/
inductive U where
  | d (x : PyData)
  | deck
structure Ent where
  own : Bool
  u : U
abbrev En := List (Option Ent)
/-- what draws change: the deck's address, its addresses, what holds of it -/
structure Wk where
  dk : Addr
  ad : List Addr
  okN : Nat → Hp → Prop
  n : Nat
  st0 : ∀ n H a o, a ∉ ad → okN n H → okN n (upd H a o)
  liv0 : ∀ n H, okN n H → ∀ a ∈ ad, H a ≠ none
  mono0 : ∀ n m H, n ≤ m → okN n H → okN m H
/-- n: how often it may have been drawn -/
def Wk.ok (W : Wk) (H : Hp) : Prop := W.okN W.n H
theorem Wk.st (W : Wk) : ∀ H a o, a ∉ W.ad → W.ok H → W.ok (upd H a o) := W.st0 W.n
theorem Wk.liv (W : Wk) : ∀ H, W.ok H → ∀ a ∈ W.ad, H a ≠ none := W.liv0 W.n
/-- k more draws -/
def Wk.up (W : Wk) (k : Nat) : Wk := { W with n := W.n + k }
theorem Wk.up_up (W : Wk) (a b : Nat) : (W.up a).up b = W.up (a + b) := by
  unfold Wk.up
  simp only [Nat.add_assoc]
theorem Wk.mono {W : Wk} {a b : Nat} {H : Hp} (h : a ≤ b) (k : (W.up a).ok H) : (W.up b).ok H := W.mono0 _ _ H (Nat.add_le_add_left h _) k
/-- a base: the heap at a moment, what may have changed since, what was fenced off then -/
structure Bs where
  h : Hp
  k : List Addr
  m : List Addr
def RepU (W : Wk) (K : PySem.W.Frag) (H : Hp) (M : List Addr) (v : V) : U → Prop
  | .d x => Rep K H M v x
  | .deck => v = .ref W.dk
theorem RepU.move {W : Wk} {K : PySem.W.Frag} {H H' : Hp} {M M' : List Addr} {v : V} {u : U} (k : Kp M H H') (n : ∀ a ∈ M', a ∈ M ∨ H a = none) (h : RepU W K H M v u) : RepU W K H' M' v u := by
  cases u with
  | d x => exact Rep.move k n h
  | deck => exact h
/-- the slot's entry -/
def EntOk (W : Wk) (K : PySem.W.Frag) (M0 : List Addr) (H : Hp) (M : List Addr) (v : V) (e : Ent) : Prop :=
  if e.own = true then ∃ a vs ds, v = .ref a ∧ e.u = .d (.list ds) ∧ a ∈ M ∧ a ∉ M0 ∧ H a = some (.lst vs) ∧ RepL K H M vs ds else RepU W K H M v e.u
/-- an address that a slot owns -/
def Owns (ρ : En) (σ : St) (a : Addr) : Prop := ∃ (i : Nat) (e : Ent), ρ[i]? = some (some e) ∧ e.own = true ∧ σ[i]? = some (some (V.ref a))

structure Gd (W : Wk) (K : PySem.W.Frag) (B : List Bs) (M0 : List Addr) (ρ : En) (σ : St) (H : Hp) (M : List Addr) : Prop where
  sm : ∃ o u, H sysModules = some (.frz o u)
  wok : W.ok H
  wad : ∀ a ∈ W.ad, a ∈ M0
  sub : ∀ a ∈ M0, a ∈ M
  liv : ∀ a ∈ M, H a ≠ none
  len : ρ.length = σ.length
  bs : ∀ b ∈ B, Kp b.k b.h H ∧ (∀ a ∈ W.ad, a ∈ b.k) ∧ (∀ a ∈ M, a ∈ b.m ∨ b.h a = none) ∧ (∀ a, Owns ρ σ a → a ∈ b.k ∨ b.h a = none)
  ent : ∀ (i : Nat) (e : Ent), ρ[i]? = some (some e) → ∃ v, σ[i]? = some (some v) ∧ EntOk W K M0 H M v e
  sep : ∀ (i j : Nat) (e e' : Ent) (a : Addr), ρ[i]? = some (some e) → e.own = true → σ[i]? = some (some (V.ref a)) → ρ[j]? = some (some e') → e'.own = true → σ[j]? = some (some (V.ref a)) → i = j

section
variable {W : Wk} {K : PySem.W.Frag} {B : List Bs} {M0 : List Addr} {ρ : En} {σ : St} {H H' : Hp} {M M' : List Addr}
theorem Gd.owned (G : Gd W K B M0 ρ σ H M) {a : Addr} (o : Owns ρ σ a) : a ∈ M ∧ a ∉ M0 ∧ ∃ vs, H a = some (.lst vs) := by
  obtain ⟨i, e, h1, h2, h3⟩ := o
  obtain ⟨v, h4, h5⟩ := G.ent i e h1
  rw [h3] at h4; cases h4
  unfold EntOk at h5
  rw [if_pos h2] at h5
  obtain ⟨a', vs, ds, e1, _, q1, q2, q3, _⟩ := h5
  cases e1
  exact ⟨q1, q2, vs, q3⟩
theorem EntOk.move {v : V} {e : Ent} (k : Kp M H H') (n : ∀ a ∈ M', a ∈ M ∨ H a = none) (hs : ∀ a, e.own = true → v = .ref a → a ∈ M → a ∉ M0 → a ∈ M' ∧ ∀ o, H a = some o → H' a = some o) (h : EntOk W K M0 H M v e) : EntOk W K M0 H' M' v e := by
  unfold EntOk at h ⊢
  split at h
  · rename_i ho
    rw [if_pos ho]
    obtain ⟨a, vs, ds, e1, e2, q1, q2, q3, q4⟩ := h
    obtain ⟨z1, z2⟩ := hs a ho e1 q1 q2
    exact ⟨a, vs, ds, e1, e2, z1, q2, z2 _ q3, q4.move k n⟩
  · rename_i ho
    rw [if_neg ho]
    exact h.move k n
/-- the heap has grown -/
theorem Gd.grow (G : Gd W K B M0 ρ σ H M) {p : Addr} {o : HO} (hp : H p = none) : Gd W K B M0 ρ σ (upd H p o) M := by
  have kp : ∀ N, Kp N H (upd H p o) := fun N => Kp.fresh hp
  refine ⟨(kp []).sm G.sm, W.st _ _ _ (fun z => W.liv _ G.wok p z hp) G.wok, G.wad, G.sub, fun a z => (kp []).liv a (G.liv a z), G.len, fun b hb => ?_, fun i e h => ?_, G.sep⟩
  · obtain ⟨q1, q2, q3, q4⟩ := G.bs b hb
    exact ⟨q1.trans (kp _), q2, q3, q4⟩
  · obtain ⟨v, h1, h2⟩ := G.ent i e h
    exact ⟨v, h1, h2.move (kp _) (fun a z => .inl z) fun a _ _ z _ => ⟨z, fun o' e' => (kp []).same a o' (by simp) e'⟩⟩
/-- behind a call -/
theorem Gd.called (G : Gd W K B M0 ρ σ H M) (k : Kp W.ad H H') (w : W.ok H') : Gd W K B M0 ρ σ H' M := by
  have wm : ∀ a ∈ W.ad, a ∈ M := fun a z => G.sub a (G.wad a z)
  refine ⟨k.sm G.sm, w, G.wad, G.sub, fun a z => k.liv a (G.liv a z), G.len, fun b hb => ?_, fun i e h => ?_, G.sep⟩
  · obtain ⟨q1, q2, q3, q4⟩ := G.bs b hb
    exact ⟨q1.trans (k.more q2), q2, q3, q4⟩
  · obtain ⟨v, h1, h2⟩ := G.ent i e h
    exact ⟨v, h1, h2.move (k.more wm) (fun a z => .inl z) fun a _ _ z n => ⟨z, fun o' e' => k.same a o' (fun y => n (G.wad a y)) e'⟩⟩
/-- an owned list is written -/
theorem Gd.write (G : Gd W K B M0 ρ σ H M) {i : Nat} {e : Ent} {a : Addr} {vs ws : List V} {ds : List PyData} (h1 : ρ[i]? = some (some e)) (ho : e.own = true) (hs : σ[i]? = some (some (V.ref a))) (ha : H a = some (.lst vs)) (r : RepL K H M ws ds) :
    Gd W K B M0 (ρ.set i (some ⟨true, .d (.list ds)⟩)) σ (upd H a (.lst ws)) M := by
  obtain ⟨q1, q2, _⟩ := G.owned ⟨i, e, h1, ho, hs⟩
  have hi : i < ρ.length := (List.getElem?_eq_some_iff.mp h1).1
  have kp : Kp M H (upd H a (.lst ws)) := Kp.store q1 ha
  have ownE : ∀ {j : Nat} {e' : Ent}, (ρ.set i (some ⟨true, .d (.list ds)⟩))[j]? = some (some e') → e'.own = true → ∃ e'', ρ[j]? = some (some e'') ∧ e''.own = true := by
    intro j e' hj ho'
    by_cases hij : i = j
    · subst hij; exact ⟨e, h1, ho⟩
    · rw [List.getElem?_set_ne hij] at hj; exact ⟨e', hj, ho'⟩
  refine ⟨kp.sm G.sm, W.st _ _ _ (fun z => q2 (G.wad a z)) G.wok, G.wad, G.sub, fun b z => kp.liv b (G.liv b z), by rw [List.length_set]; exact G.len, fun b hb => ?_, fun j e' hj => ?_, fun j l e1 e2 b g1 g2 g3 g4 g5 g6 => ?_⟩
  · obtain ⟨z1, z2, z3, z4⟩ := G.bs b hb
    refine ⟨?_, z2, z3, fun b' ⟨j, e', y1, y2, y3⟩ => ?_⟩
    · rcases z4 a ⟨i, e, h1, ho, hs⟩ with z | z
      · exact z1.trans (Kp.store z ha)
      · refine ⟨fun x o n y => ?_, fun x xs y => ?_, fun x o u y => ?_, fun x y => kp.liv x (z1.liv x y)⟩
        · have hx : x ≠ a := fun q => by rw [q, z] at y; cases y
          rw [upd_ne hx]; exact z1.same x o n y
        · have hx : x ≠ a := fun q => by rw [q, z] at y; cases y
          rw [upd_ne hx]; exact z1.tup x xs y
        · have hx : x ≠ a := fun q => by rw [q, z] at y; cases y
          rw [upd_ne hx]; exact z1.frz x o u y
    · obtain ⟨e'', y4, y5⟩ := ownE y1 y2
      exact z4 b' ⟨j, e'', y4, y5, y3⟩
  · by_cases hij : i = j
    · subst hij
      rw [List.getElem?_set_self hi] at hj
      cases hj
      refine ⟨_, hs, ?_⟩
      unfold EntOk
      rw [if_pos rfl]
      exact ⟨a, ws, ds, rfl, rfl, q1, q2, upd_same, r.keep kp⟩
    · rw [List.getElem?_set_ne hij] at hj
      obtain ⟨v, y1, y2⟩ := G.ent j e' hj
      refine ⟨v, y1, y2.move kp (fun a z => .inl z) fun b ho' ev z n => ⟨z, fun o' y => ?_⟩⟩
      have hb : b ≠ a := fun q => by
        subst q; subst ev
        exact hij (G.sep i j e e' b h1 ho hs hj ho' y1)
      rw [upd_ne hb]; exact y
  · obtain ⟨e1', x1, x2⟩ := ownE g1 g2
    obtain ⟨e2', x3, x4⟩ := ownE g4 g5
    exact G.sep j l e1' e2' b x1 x2 g3 x3 x4 g6
end
section
variable {W : Wk} {K : PySem.W.Frag} {B : List Bs} {M0 : List Addr} {ρ : En} {σ : St} {H : Hp} {M : List Addr}
theorem Gd.mono {a b : Nat} (h : a ≤ b) (G : Gd (W.up a) K B M0 ρ σ H M) : Gd (W.up b) K B M0 ρ σ H M := ⟨G.sm, Wk.mono h G.wok, G.wad, G.sub, G.liv, G.len, G.bs, G.ent, G.sep⟩
theorem Gd.cast {a b : Nat} (G : Gd ((W.up a).up b) K B M0 ρ σ H M) : Gd (W.up (a + b)) K B M0 ρ σ H M := by
  rw [Wk.up_up] at G
  exact G
end
end G9

/-! M2: what must hold so that a piece of code does what is wanted, without a heap: the wants (DE, DO, DT, DA, DI, DS) and their makers. -/
namespace G9
open PySem PySem.Spec L2

structure Exn where
  cls : Str
  fld : Option (Str × PyData)
abbrev RK := Exn → Prop
abbrev X0 : RK := fun _ => False
/-- a want, with the number of draws that it may cost -/
structure Wt (τ : Type) where
  m : Nat
  f : τ
instance {τ : Type} : CoeFun (Wt τ) (fun _ => τ) := ⟨Wt.f⟩
/-- what a def is worth: the arguments, what is wanted of the result (a list of the def's own making: true), of an exception -/
abbrev FSpec := Wt (List U → (U → Bool → Prop) → RK → Prop)

inductive Op2 where
  | add | sub | mul | fdiv | mod | pow
  deriving DecidableEq
inductive Cm where
  | eq | ne | lt | le | gt | ge | isIn | notIn | isB | notB
  deriving DecidableEq
inductive Bi where
  | len | list | tuple | sum | all | any | range | repr | str | int | sorted
  deriving DecidableEq
inductive Mt where
  | append | pop | popAt | join | extend
  deriving DecidableEq
/-! ### values -/
inductive Opd where
  | val (u : U)
  | slot (i : Nat)
/-- the entry at a slot -/
def En.at (ρ : En) (i : Nat) : Option Ent := (ρ[i]?).join
def rs (ρ : En) : Opd → Option U
  | .val u => some u
  | .slot i => (En.at ρ i).map (·.u)
/-- a slot's value, given away: it is not owned any more -/
def En.get (ρ : En) (i : Nat) (P : U → En → Prop) : Prop := match En.at ρ i with
  | some ⟨true, u⟩ => P u (ρ.set i (some ⟨false, u⟩))
  | some ⟨false, u⟩ => P u ρ
  | none => False
def En.put (ρ : En) (i : Nat) (fr : Bool) (u : U) : En := ρ.set i (some ⟨fr, u⟩)

def opS (op : Op2) (x y : PyData) (Q : PyData → Bool → Prop) : Prop := match op, x, y with
  | .add, .int i, .int j => Q (.int (i + j)) false
  | .add, .str i, .str j => i.length + j.length ≤ sizeLine ∧ Q (.str (i ++ j)) false
  | .add, .list xs, .list ys => xs.length + ys.length ≤ sizeLine ∧ Q (.list (xs ++ ys)) true
  | .add, .tuple xs, .tuple ys => xs.length + ys.length ≤ sizeLine ∧ Q (.tuple (xs ++ ys)) false
  | .sub, .int i, .int j => Q (.int (i - j)) false
  | .mul, .int i, .int j => CMul i j ∧ Q (.int (i * j)) false
  | .mul, .list xs, .int k => -(2 ^ 63) ≤ k ∧ k < 2 ^ 63 ∧ xs.length * k.toNat ≤ sizeLine ∧ Q (.list (List.replicate k.toNat xs).flatten) true
  | .mul, .tuple xs, .int k => -(2 ^ 63) ≤ k ∧ k < 2 ^ 63 ∧ xs.length * k.toNat ≤ sizeLine ∧ Q (.tuple (List.replicate k.toNat xs).flatten) false
  | .mul, .str s, .int k => MulOk s k ∧ Q (.str (Txt.mul s k)) false
  | .fdiv, .int i, .int j => CDivN i j ∧ Q (.int (i.fdiv j)) false
  | .mod, .int i, .int j => j ≠ 0 ∧ Q (.int (i.fmod j)) false
  | .pow, .int i, .int j => CPow i j ∧ Q (.int (i ^ j.toNat)) false
  | _, _, _ => False
/-- x in xs, by == -/
def inD (x : PyData) (xs : List PyData) : Bool := xs.any fun y => PyData.eqv y x
def strsD : List PyData → Option (List Str)
  | [] => some []
  | .str i :: r => (strsD r).map (i :: ·)
  | _ => none
def ltS (a b : Str) : Bool := decide (a.cps.toList < b.cps.toList)
/-- [..] < [..] of texts -/
def ltSS : List Str → List Str → Bool
  | [], [] => false
  | [], _ :: _ => true
  | _ :: _, [] => false
  | a :: r, b :: t => if a = b then ltSS r t else ltS a b
def leSS : List Str → List Str → Bool
  | [], _ => true
  | _ :: _, [] => false
  | a :: r, b :: t => if a = b then leSS r t else !ltS b a
/-- a list of tuples of texts -/
def tupsD : List PyData → Option (List (List Str))
  | [] => some []
  | .tuple xs :: r => (strsD xs).bind fun ss => (tupsD r).map (ss :: ·)
  | _ => none
def tupS (ss : List Str) : PyData := .tuple (ss.map .str)
/-- two values that may be compared: no dict in them; or lists, told apart by their lengths; or any texts -/
def eqOk (x y : PyData) : Prop := (SeqAt.shaped x = true ∧ SeqAt.shaped y = true) ∨ (∃ xs ys, x = .list xs ∧ y = .list ys ∧ (xs.length ≠ ys.length ∨ ys = [])) ∨ ∃ s t, x = .str s ∧ y = .str t
def cmS (c : Cm) (x y : PyData) (Q : Bool → Prop) : Prop := match c, x, y with
  | .eq, x, y => eqOk x y ∧ Q (PyData.eqv x y)
  | .ne, x, y => eqOk x y ∧ Q (!PyData.eqv x y)
  | .lt, .int i, .int j => Q (decide (i < j))
  | .le, .int i, .int j => Q (decide (i ≤ j))
  | .gt, .int i, .int j => Q (decide (j < i))
  | .ge, .int i, .int j => Q (decide (j ≤ i))
  | .lt, .str i, .str j => Q (decide (i.cps.toList < j.cps.toList))
  | .le, .str i, .str j => Q (!decide (j.cps.toList < i.cps.toList))
  | .gt, .str i, .str j => Q (decide (j.cps.toList < i.cps.toList))
  | .ge, .str i, .str j => Q (!decide (i.cps.toList < j.cps.toList))
  | .lt, .tuple xs, .tuple ys => ∃ ss ts, strsD xs = some ss ∧ strsD ys = some ts ∧ Q (ltSS ss ts)
  | .le, .tuple xs, .tuple ys => ∃ ss ts, strsD xs = some ss ∧ strsD ys = some ts ∧ Q (leSS ss ts)
  | .isIn, x, .list ys => SeqAt.shaped x = true ∧ SeqAt.shaped (.list ys) = true ∧ Q (inD x ys)
  | .isIn, x, .tuple ys => SeqAt.shaped x = true ∧ SeqAt.shaped (.tuple ys) = true ∧ Q (inD x ys)
  | .isIn, .str x, .str z => ∃ c, x = ⟨#[c]⟩ ∧ Q (decide (c ∈ z.cps.toList))
  | .notIn, x, .list ys => SeqAt.shaped x = true ∧ SeqAt.shaped (.list ys) = true ∧ Q (!inD x ys)
  | .notIn, x, .tuple ys => SeqAt.shaped x = true ∧ SeqAt.shaped (.tuple ys) = true ∧ Q (!inD x ys)
  | .notIn, .str x, .str z => ∃ c, x = ⟨#[c]⟩ ∧ Q (!decide (c ∈ z.cps.toList))
  | .isB, .bool i, .bool j => Q (decide (i = j))
  | .notB, .bool i, .bool j => Q (!decide (i = j))
  | _, _, _ => False
def isNoneD : PyData → Bool
  | .none => true
  | _ => false
def ixS (x : PyData) (i : Int) (Q : PyData → Prop) : Prop := match x with
  | .list xs => ∃ y, atI xs i = some y ∧ Q y
  | .tuple xs => ∃ y, atI xs i = some y ∧ Q y
  | .str s => s.length ≤ sizeLine ∧ ∃ c, atI s.cps.toList i = some c ∧ Q (.str ⟨#[c]⟩)
  | _ => False
/-- xs[lo:hi] -/
def cutD {α : Type} (xs : List α) (lo hi : Option Int) : List α := (xs.drop (HT.sIx xs.length 0 lo)).take (HT.sIx xs.length xs.length hi - HT.sIx xs.length 0 lo)
def slS (x : PyData) (lo hi : Option Int) (Q : PyData → Bool → Prop) : Prop := match x with
  | .list xs => Q (.list (cutD xs lo hi)) true
  | .tuple xs => Q (.tuple (cutD xs lo hi)) false
  | .str s => s.length ≤ sizeLine ∧ Q (.str (cutS s lo hi)) false
  | _ => False
def truS (x : PyData) (Q : Bool → Prop) : Prop := match x with
  | .none => Q false
  | .bool b => Q b
  | .int i => Q (i != 0)
  | .str s => s.length ≤ sizeLine ∧ Q ((s.length : Int) != 0)
  | .list xs => Q (!xs.isEmpty)
  | .tuple xs => Q (!xs.isEmpty)
  | _ => False
def intsD : List PyData → Option (List Int)
  | [] => some []
  | .int i :: r => (intsD r).map (i :: ·)
  | _ => none
def boolsD : List PyData → Option (List Bool)
  | [] => some []
  | .bool i :: r => (boolsD r).map (i :: ·)
  | _ => none
/-- one sign of a text -/
def sgn (c : Nat) : PyData := .str ⟨#[c]⟩
def biS (b : Bi) (x : PyData) (Q : PyData → Bool → Prop) : Prop := match b, x with
  | .len, .list xs => Q (.int xs.length) false
  | .len, .tuple xs => Q (.int xs.length) false
  | .len, .str s => s.length ≤ sizeLine ∧ Q (.int s.length) false
  | .list, .list xs => Q (.list xs) true
  | .list, .tuple xs => Q (.list xs) true
  | .list, .str s => s.length ≤ sizeLine ∧ Q (.list (s.cps.toList.map sgn)) true
  | .tuple, .list xs => Q (.tuple xs) false
  | .tuple, .tuple xs => Q (.tuple xs) false
  | .sum, .list xs => ∃ ns, intsD xs = some ns ∧ Q (.int ns.sum) false
  | .sum, .tuple xs => ∃ ns, intsD xs = some ns ∧ Q (.int ns.sum) false
  | .all, .list xs => ∃ bs, boolsD xs = some bs ∧ Q (.bool (bs.all id)) false
  | .any, .list xs => ∃ bs, boolsD xs = some bs ∧ Q (.bool (bs.any id)) false
  | .sorted, .list xs => xs.length < 64 ∧ ((∃ ns, intsD xs = some ns ∧ ∀ ms : List Int, ms.Perm ns → ms.Pairwise (· ≤ ·) → Q (.list (ms.map .int)) true) ∨
      ((∃ ns, strsD xs = some ns ∧ ∀ ms : List Str, ms.Perm ns → PyProof.Rows.sortedS ms = true → Q (.list (ms.map .str)) true) ∨
      (∃ nss, tupsD xs = some nss ∧ ∀ mss : List (List Str), mss.Perm nss → mss.Pairwise (fun a b => ltSS b a = false) → Q (.list (mss.map tupS)) true)))
  | .sorted, .tuple xs => (∃ ns, strsD xs = some ns ∧ ns.length < 64 ∧ ∀ ms : List Str, ms.Perm ns → PyProof.Rows.sortedS ms = true → Q (.list (ms.map .str)) true) ∨
      (∃ nss, tupsD xs = some nss ∧ ∀ mss : List (List Str), mss.Perm nss → mss.Pairwise (fun a b => ltSS b a = false) → Q (.list (mss.map tupS)) true)
  | .repr, x => PyData.showable x = true ∧ x.depth ≤ 64 ∧ x.shown.length ≤ sizeLine ∧ Q (.str x.shown) false
  | .str, .int i => i.natAbs.log2 < 1920 ∧ Q (.str (toString i)) false
  | .int, .bool b => Q (.int (if b then 1 else 0)) false
  | .int, .int i => Q (.int i) false
  | _, _ => False
/-- isinstance, of the built-in types -/
inductive Ty where
  | str | int | bool | list | tuple | dict
  deriving DecidableEq
def Ty.nm : Ty → String
  | .str => "str"
  | .int => "int"
  | .bool => "bool"
  | .list => "list"
  | .tuple => "tuple"
  | .dict => "dict"
def isD : PyData → Ty → Bool
  | .str _, .str => true
  | .int _, .int => true
  | .bool _, .int => true
  | .bool _, .bool => true
  | .list _, .list => true
  | .tuple _, .tuple => true
  | .dict _, .dict => true
  | _, _ => false
def itS (x : PyData) (Q : List PyData → Prop) : Prop := match x with
  | .list xs => Q xs
  | .tuple xs => Q xs
  | .str s => s.length ≤ sizeLine ∧ Q (s.cps.toList.map sgn)
  | _ => False
/-- lo, lo + 1, .. below hi -/
def rangeD (lo hi : Int) : List PyData := (List.range (hi - lo).toNat).map fun (k : Nat) => PyData.int (lo + (k : Int))
/-- a target is bound -/
def bindE : List Nat → List PyData → En → Option En
  | [], [], ρ => some ρ
  | i :: is, x :: xs, ρ => bindE is xs (En.put ρ i false (.d x))
  | _, _, _ => none
def bindT (tg : List Nat) (tp : Bool) (x : PyData) (ρ : En) (Q : En → Prop) : Prop := match tp, tg, x with
  | false, [i], x => Q (En.put ρ i false (.d x))
  | true, tg, .tuple xs => ∃ ρ', bindE tg xs ρ = some ρ' ∧ Q ρ'
  | _, _, _ => False
def wipeE (ρ : En) : List Nat → En
  | [] => ρ
  | v :: vs => (wipeE ρ vs).set v none
/-- behind a comprehension: its own names' slots as they were (an owned list there is forgotten) -/
def backE (ρ ρ' : En) : List Nat → En
  | [] => ρ'
  | v :: vs => (backE ρ ρ' vs).set v (match En.at ρ v with
    | some ⟨false, u⟩ => some ⟨false, u⟩
    | _ => none)
/-- a comprehension's turns -/
def lcL (f : PyData → En → (Option PyData → En → Prop) → Prop) : List PyData → En → List PyData → (List PyData → En → Prop) → Prop
  | [], ρ, acc, Q => Q acc ρ
  | x :: r, ρ, acc, Q => f x ρ fun o ρ' => match o with
    | some y => lcL f r ρ' (acc ++ [y]) Q
    | none => lcL f r ρ' acc Q
/-- a loop's turns -/
def forL (f : PyData → En → (En → Prop) → Prop) : List PyData → En → (En → Prop) → Prop
  | [], ρ, Q => Q ρ
  | x :: r, ρ, Q => f x ρ fun ρ' => forL f r ρ' Q
def datas : List U → Option (List PyData)
  | [] => some []
  | .d x :: r => (datas r).map (x :: ·)
  | .deck :: _ => none
def mtS (m : Mt) (ρ : En) (o : Opd) (xs : List PyData) (Q : PyData → En → Prop) : Prop := match m, xs with
  | .append, [x] => ∃ i ds, o = .slot i ∧ En.at ρ i = some ⟨true, .d (.list ds)⟩ ∧ ds.length < sizeLine ∧ Q .none (En.put ρ i true (.d (.list (ds ++ [x]))))
  | .extend, [.list ys] => ∃ i ds, o = .slot i ∧ En.at ρ i = some ⟨true, .d (.list ds)⟩ ∧ ds.length + ys.length ≤ sizeLine ∧ Q .none (En.put ρ i true (.d (.list (ds ++ ys))))
  | .pop, [] => ∃ i ds y, o = .slot i ∧ En.at ρ i = some ⟨true, .d (.list ds)⟩ ∧ ds[ds.length - 1]? = some y ∧ Q y (En.put ρ i true (.d (.list ds.dropLast)))
  | .popAt, [.int k] => ∃ i ds j y, o = .slot i ∧ En.at ρ i = some ⟨true, .d (.list ds)⟩ ∧ -(2 ^ 63) ≤ k ∧ k < 2 ^ 63 ∧ ixN ds.length k = some j ∧ ds[j]? = some y ∧ Q y (En.put ρ i true (.d (.list (ds.eraseIdx j))))
  | .join, [.list ys] => ∃ s zs, rs ρ o = some (.d (.str s)) ∧ strsD ys = some zs ∧ (zs.map Str.length).sum + zs.length * s.length ≤ 16777216 ∧ Q (.str (PySem.Txt.join s zs)) ρ
  | _, _ => False

/-! ### wants -/
abbrev DE := Wt (En → (U → Bool → En → Prop) → RK → Prop)
abbrev DO := Wt (En → (Opd → En → Prop) → RK → Prop)
abbrev DP := Wt (En → (Option Int → En → Prop) → RK → Prop)
abbrev DT := Wt (En → (Bool → En → Prop) → RK → Prop)
abbrev DA := Wt (En → (List U → En → Prop) → RK → Prop)
abbrev DI := Wt (En → (List PyData → En → Prop) → RK → Prop)

def dVar (i : Nat) : DE := ⟨0, fun ρ P _ => En.get ρ i fun u ρ' => P u false ρ'⟩
def dCon (d : PyData) : DE := ⟨0, fun ρ P _ => P (.d d) false ρ⟩
/-- an operand: a slot is read where the operation is done -/
def oSlot (i : Nat) : DO := ⟨0, fun ρ P _ => ∃ e, En.at ρ i = some e ∧ P (.slot i) ρ⟩
def oE (d : DE) : DO := ⟨d.m, fun ρ P R => d ρ (fun u _ ρ' => P (.val u) ρ') R⟩
def dBin (op : Op2) (a b : DO) : DE := ⟨a.m + b.m, fun ρ P R => a ρ (fun oa ρ1 => b ρ1 (fun ob ρ2 => ∃ x y, rs ρ2 oa = some (.d x) ∧ rs ρ2 ob = some (.d y) ∧ opS op x y fun z fr => P (.d z) fr ρ2) R) R⟩
def dNeg (a : DO) : DE := ⟨a.m, fun ρ P R => a ρ (fun oa ρ1 => ∃ i, rs ρ1 oa = some (.d (.int i)) ∧ P (.d (.int (-i))) false ρ1) R⟩
def dIsN (a : DO) : DE := ⟨a.m, fun ρ P R => a ρ (fun oa ρ1 => ∃ x, rs ρ1 oa = some (.d x) ∧ P (.d (.bool (isNoneD x))) false ρ1) R⟩
def dNotN (a : DO) : DE := ⟨a.m, fun ρ P R => a ρ (fun oa ρ1 => ∃ x, rs ρ1 oa = some (.d x) ∧ P (.d (.bool (!isNoneD x))) false ρ1) R⟩
def dCmp (c : Cm) (a b : DO) : DE := ⟨a.m + b.m, fun ρ P R => a ρ (fun oa ρ1 => b ρ1 (fun ob ρ2 => ∃ x y, rs ρ2 oa = some (.d x) ∧ rs ρ2 ob = some (.d y) ∧ cmS c x y fun k => P (.d (.bool k)) false ρ2) R) R⟩
def dCmp2 (c c' : Cm) (a b e : DO) : DE := ⟨a.m + b.m + e.m, fun ρ P R => a ρ (fun oa ρ1 => b ρ1 (fun ob ρ2 => ∃ x y, rs ρ2 oa = some (.d x) ∧ rs ρ2 ob = some (.d y) ∧ cmS c x y fun k =>
      if k = true then e ρ2 (fun oc ρ3 => ∃ y' z, rs ρ3 ob = some (.d y') ∧ rs ρ3 oc = some (.d z) ∧ cmS c' y' z fun k' => P (.d (.bool k')) false ρ3) R else P (.d (.bool false)) false ρ2) R) R⟩
def dAnd (a b : DE) : DE := ⟨a.m + b.m, fun ρ P R => a ρ (fun u _ ρ1 => ∃ k, u = .d (.bool k) ∧ if k = true then b ρ1 P R else P (.d (.bool false)) false ρ1) R⟩
def dOr (a b : DE) : DE := ⟨a.m + b.m, fun ρ P R => a ρ (fun u _ ρ1 => ∃ k, u = .d (.bool k) ∧ if k = true then P (.d (.bool true)) false ρ1 else b ρ1 P R) R⟩
def dNot (a : DE) : DE := ⟨a.m, fun ρ P R => a ρ (fun u _ ρ1 => ∃ k, u = .d (.bool k) ∧ P (.d (.bool (!k))) false ρ1) R⟩
def dIte (c : DT) (a b : DE) : DE := ⟨c.m + (a.m + b.m), fun ρ P R => c ρ (fun k ρ1 => if k = true then a ρ1 P R else b ρ1 P R) R⟩
def dTup (es : DA) : DE := ⟨es.m, fun ρ P R => es ρ (fun us ρ1 => ∃ xs, datas us = some xs ∧ xs.length ≤ sizeLine ∧ P (.d (.tuple xs)) false ρ1) R⟩
def dLst (es : DA) : DE := ⟨es.m, fun ρ P R => es ρ (fun us ρ1 => ∃ xs, datas us = some xs ∧ xs.length ≤ sizeLine ∧ P (.d (.list xs)) true ρ1) R⟩
def dIdx (a b : DO) : DE := ⟨a.m + b.m, fun ρ P R => a ρ (fun oa ρ1 => b ρ1 (fun ob ρ2 => ∃ x i, rs ρ2 oa = some (.d x) ∧ rs ρ2 ob = some (.d (.int i)) ∧ ixS x i fun y => P (.d y) false ρ2) R) R⟩
/-- a part of a slice -/
def pNo : DP := ⟨0, fun ρ P _ => P none ρ⟩
def pE (d : DE) : DP := ⟨d.m, fun ρ P R => d ρ (fun u _ ρ' => ∃ i, u = .d (.int i) ∧ P (some i) ρ') R⟩
def dSli (a : DO) (lo hi : DP) : DE := ⟨a.m + lo.m + hi.m, fun ρ P R => a ρ (fun oa ρ1 => lo ρ1 (fun l ρ2 => hi ρ2 (fun h ρ3 => ∃ x, rs ρ3 oa = some (.d x) ∧ slS x l h fun z fr => P (.d z) fr ρ3) R) R) R⟩
def dCall (sp : FSpec) (es : DA) : DE := ⟨es.m + sp.m, fun ρ P R => es ρ (fun us ρ1 => sp us (fun u fr => P u fr ρ1) R) R⟩
def dBif (b : Bi) (a : DO) : DE := ⟨a.m, fun ρ P R => a ρ (fun oa ρ1 => ∃ x, rs ρ1 oa = some (.d x) ∧ biS b x fun z fr => P (.d z) fr ρ1) R⟩
def dIsi (a : DO) (t : Ty) : DE := ⟨a.m, fun ρ P R => a ρ (fun oa ρ1 => ∃ x, rs ρ1 oa = some (.d x) ∧ P (.d (.bool (isD x t))) false ρ1) R⟩
/-- what a method is called on -/
def mtR (m : Mt) (ρ : En) (o : Opd) : Prop := match m with
  | .join => ∃ s, rs ρ o = some (.d (.str s))
  | _ => ∃ ds, rs ρ o = some (.d (.list ds))
def dMth (m : Mt) (o : DO) (es : DA) : DE := ⟨o.m + es.m, fun ρ P R => o ρ (fun oo ρ1 => mtR m ρ1 oo ∧ es ρ1 (fun us ρ2 => ∃ xs, datas us = some xs ∧ mtS m ρ2 oo xs fun z ρ3 => P (.d z) false ρ3) R) R⟩
def aNil : DA := ⟨0, fun ρ P _ => P [] ρ⟩
def aCons (e : DE) (r : DA) : DA := ⟨e.m + r.m, fun ρ P R => e ρ (fun u _ ρ1 => r ρ1 (fun us ρ2 => P (u :: us) ρ2) R) R⟩
/-- truth -/
def kE (d : DE) : DT := ⟨d.m, fun ρ P R => d ρ (fun u _ ρ' => ∃ x, u = .d x ∧ truS x fun k => P k ρ') R⟩
def kVar (i : Nat) : DT := ⟨0, fun ρ P _ => ∃ x, rs ρ (.slot i) = some (.d x) ∧ truS x fun k => P k ρ⟩
def kTrue : DT := ⟨0, fun ρ P _ => P true ρ⟩
def kAnd (a b : DT) : DT := ⟨a.m + b.m, fun ρ P R => a ρ (fun k ρ1 => if k = true then b ρ1 P R else P false ρ1) R⟩
def kOr (a b : DT) : DT := ⟨a.m + b.m, fun ρ P R => a ρ (fun k ρ1 => if k = true then P true ρ1 else b ρ1 P R) R⟩
def kNot (a : DT) : DT := ⟨a.m, fun ρ P R => a ρ (fun k ρ1 => P (!k) ρ1) R⟩
/-- what is walked -/
def wRng1 (a : DE) : DI := ⟨a.m, fun ρ P R => a ρ (fun u _ ρ1 => ∃ n, u = .d (.int n) ∧ n ≤ 16777216 ∧ -(2 ^ 62) ≤ n ∧ P (rangeD 0 n) ρ1) R⟩
def wRng2 (a b : DE) : DI := ⟨a.m + b.m, fun ρ P R => a ρ (fun u _ ρ1 => b ρ1 (fun u' _ ρ2 => ∃ m n, u = .d (.int m) ∧ u' = .d (.int n) ∧ (-1000000 ≤ m ∧ m ≤ 15000000) ∧ (-(2 ^ 62) ≤ n ∧ n ≤ 15000000) ∧ P (rangeD m n) ρ2) R) R⟩
def wE (d : DE) : DI := ⟨d.m, fun ρ P R => d ρ (fun u _ ρ1 => ∃ x, u = .d x ∧ itS x fun xs => P xs ρ1) R⟩
def dLc (vs tg : List Nat) (tp : Bool) (it : DI) (c : DT) (e : DE) : DE := ⟨it.m + sizeLine * (c.m + e.m), fun ρ P R => it ρ (fun xs ρ1 => lcL (fun x ρ' k => bindT tg tp x (wipeE ρ' vs) fun ρ2 => c ρ2 (fun b ρ3 => if b = true then e ρ3 (fun u _ ρ4 => ∃ d, u = .d d ∧ k (some d) ρ4) X0 else k none ρ3) X0)
      xs ρ1 [] fun ds ρ' => P (.d (.list ds)) true (backE ρ1 ρ' vs)) R⟩

structure DK where
  nx : En → Prop
  rt : U → Bool → Prop
  bk : En → Prop := fun _ => False
  ct : En → Prop := fun _ => False
  ex : RK := X0
abbrev DS := Wt (En → DK → Prop)
def ipS (op : Op2) (x y : PyData) (Q : PyData → Prop) : Prop := match op, x, y with
  | .add, .int i, .int j => Q (.int (i + j))
  | .sub, .int i, .int j => Q (.int (i - j))
  | _, _, _ => False
def sSkip : DS := ⟨0, fun ρ D => D.nx ρ⟩
def sSeq (a b : DS) : DS := ⟨a.m + b.m, fun ρ D => a ρ { D with nx := fun ρ' => b ρ' D }⟩
def sSet (i : Nat) (e : DE) : DS := ⟨e.m, fun ρ D => e ρ (fun u fr ρ' => D.nx (En.put ρ' i fr u)) D.ex⟩
def sSetT (tg : List Nat) (e : DE) : DS := ⟨e.m, fun ρ D => e ρ (fun u _ ρ' => ∃ x, u = .d x ∧ bindT tg true x ρ' D.nx) D.ex⟩
def sPar (i j : Nat) (a b : DE) : DS := ⟨a.m + b.m, fun ρ D => a ρ (fun u fr ρ1 => b ρ1 (fun u' fr' ρ2 => D.nx (En.put (En.put ρ2 i false u) j fr' u')) D.ex) D.ex⟩
def sPar3 (i j l : Nat) (a b c : DE) : DS := ⟨a.m + b.m + c.m, fun ρ D => a ρ (fun u fr ρ1 => b ρ1 (fun u' fr' ρ2 => c ρ2 (fun u2 fr2 ρ3 => D.nx (En.put (En.put (En.put ρ3 i false u) j false u') l fr2 u2)) D.ex) D.ex) D.ex⟩
def sDrop (e : DE) : DS := ⟨e.m, fun ρ D => e ρ (fun _ _ ρ' => D.nx ρ') D.ex⟩
def sRet (e : DE) : DS := ⟨e.m, fun ρ D => e ρ (fun u fr _ => D.rt u fr) D.ex⟩
/-- a name's value is given back: a list of the def's own is given as such -/
def sRetV (i : Nat) : DS := ⟨0, fun ρ D => ∃ e, En.at ρ i = some e ∧ D.rt e.u e.own⟩
def sRetN : DS := ⟨0, fun _ D => D.rt (.d .none) false⟩
def sIf (c : DT) (a b : DS) : DS := ⟨c.m + (a.m + b.m), fun ρ D => c ρ (fun k ρ' => if k = true then a ρ' D else b ρ' D) D.ex⟩
def sFor (tg : List Nat) (tp : Bool) (it : DI) (b : DS) : DS := ⟨it.m + sizeLine * b.m, fun ρ D => it ρ (fun xs ρ1 => forL (fun x ρ' k => bindT tg tp x ρ' fun ρ2 => b ρ2 { D with nx := k, ct := k, bk := D.nx }) xs ρ1 D.nx) D.ex⟩
def sBrk : DS := ⟨0, fun ρ D => D.bk ρ⟩
def sCnt : DS := ⟨0, fun ρ D => D.ct ρ⟩
def sAug (i : Nat) (op : Op2) (e : DE) : DS := ⟨e.m, fun ρ D => e ρ (fun u _ ρ' => ∃ x y, rs ρ' (.slot i) = some (.d x) ∧ u = .d y ∧ ipS op x y fun z => D.nx (En.put ρ' i false (.d z))) D.ex⟩
end G9

/-! M3: the state's moves (Gd), results (Res), readings of the small syntax (tE, tO, tT ..). -/
namespace G9
open PySem PySem.Spec L2

theorem En.at_get {ρ : En} {i : Nat} {e : Ent} (h : En.at ρ i = some e) : ρ[i]? = some (some e) := by
  unfold En.at at h
  cases q : ρ[i]? with
  | none => rw [q] at h; cases h
  | some o => rw [q] at h; rw [show o = some e from h]
section
variable {W : Wk} {K : PySem.W.Frag} {B B' : List Bs} {M0 : List Addr} {ρ : En} {σ : St} {H H' : Hp} {M M' : List Addr}
theorem Gd.sub_b (G : Gd W K B M0 ρ σ H M) (s : ∀ b ∈ B', b ∈ B) : Gd W K B' M0 ρ σ H M :=
  ⟨G.sm, G.wok, G.wad, G.sub, G.liv, G.len, fun b hb => G.bs b (s b hb), G.ent, G.sep⟩
/-- the moment as a base -/
theorem Gd.base (G : Gd W K B M0 ρ σ H M) : Gd W K (⟨H, M, M⟩ :: B) M0 ρ σ H M :=
  ⟨G.sm, G.wok, G.wad, G.sub, G.liv, G.len, fun b hb => by
    rcases List.mem_cons.mp hb with rfl | hb
    · exact ⟨Kp.refl _ _, fun a z => G.sub a (G.wad a z), fun a z => .inl z, fun a o => .inl (G.owned o).1⟩
    · exact G.bs b hb, G.ent, G.sep⟩
theorem Gd.tail {b : Bs} (G : Gd W K (b :: B) M0 ρ σ H M) : Gd W K B M0 ρ σ H M := G.sub_b fun _ z => List.mem_cons_of_mem _ z
theorem Gd.kp {b : Bs} (G : Gd W K (b :: B) M0 ρ σ H M) : Kp b.k b.h H := (G.bs b List.mem_cons_self).1
theorem Gd.nw {b : Bs} (G : Gd W K (b :: B) M0 ρ σ H M) : ∀ a ∈ M, a ∈ b.m ∨ b.h a = none := (G.bs b List.mem_cons_self).2.2.1
/-- a value of the moment, now -/
theorem Gd.rep {B : List Bs} {M1 : List Addr} {H1 : Hp} {v : V} {d : PyData} (G : Gd W K (⟨H1, M1, M1⟩ :: B) M0 ρ σ H M) (r : Rep K H1 M1 v d) : Rep K H M v d := r.move G.kp G.nw
theorem Gd.repU {B : List Bs} {M1 : List Addr} {H1 : Hp} {v : V} {u : U} (G : Gd W K (⟨H1, M1, M1⟩ :: B) M0 ρ σ H M) (r : RepU W K H1 M1 v u) : RepU W K H M v u := r.move G.kp G.nw
theorem Gd.repL {B : List Bs} {M1 : List Addr} {H1 : Hp} {v : List V} {d : List PyData} (G : Gd W K (⟨H1, M1, M1⟩ :: B) M0 ρ σ H M) (r : RepL K H1 M1 v d) : RepL K H M v d := r.move G.kp G.nw

/-- a new list is laid: fenced off -/
theorem Gd.new (G : Gd W K B M0 ρ σ H M) {p : Addr} {o : HO} (hp : H p = none) : Gd W K B M0 ρ σ (upd H p o) (p :: M) := by
  have G1 := G.grow (o := o) hp
  refine ⟨G1.sm, G1.wok, G1.wad, fun a z => List.mem_cons_of_mem _ (G1.sub a z), fun a z => ?_, G1.len, fun b hb => ?_, fun i e h => ?_, G1.sep⟩
  · rcases List.mem_cons.mp z with rfl | z
    · rw [upd_same]; exact fun q => nomatch q
    · exact G1.liv a z
  · obtain ⟨q1, q2, q3, q4⟩ := G1.bs b hb
    refine ⟨q1, q2, fun a z => ?_, q4⟩
    rcases List.mem_cons.mp z with rfl | z
    · right
      cases e : b.h a with
      | none => rfl
      | some o' => exact absurd hp ((G.bs b hb).1.liv a (by rw [e]; exact fun q => nomatch q))
    · exact q3 a z
  · obtain ⟨v, h1, h2⟩ := G.ent i e h
    refine ⟨v, h1, h2.move (Kp.fresh hp) (fun a z => ?_) fun a _ _ z _ => ⟨List.mem_cons_of_mem _ z, fun o' e' => (Kp.fresh (M := []) hp).same a o' (by simp) e'⟩⟩
    rcases List.mem_cons.mp z with rfl | z
    · exact .inr hp
    · exact .inl z
/-- a name's value is given away -/
theorem Gd.drop (G : Gd W K B M0 ρ σ H M) {i : Nat} {u : U} (h : ρ[i]? = some (some ⟨true, u⟩)) : ∃ a M', (∀ b ∈ M', b ∈ M) ∧ σ[i]? = some (some (V.ref a)) ∧ Gd W K B M0 (ρ.set i (some ⟨false, u⟩)) σ H M' ∧ RepU W K H M' (.ref a) u := by
  obtain ⟨v, h1, h2⟩ := G.ent i _ h
  unfold EntOk at h2
  rw [if_pos rfl] at h2
  obtain ⟨a, vs, ds, rfl, e2, q1, q2, q3, q4⟩ := h2
  have e2 : u = .d (.list ds) := e2
  subst e2
  have hi : i < ρ.length := (List.getElem?_eq_some_iff.mp h).1
  have sub : ∀ b ∈ M.filter (fun x => decide (x ≠ a)), b ∈ M := fun b z => (List.mem_filter.mp z).1
  have na : a ∉ M.filter (fun x => decide (x ≠ a)) := fun z => of_decide_eq_true (List.mem_filter.mp z).2 rfl
  have keepM : ∀ {b : Addr}, b ∈ M → b ≠ a → b ∈ M.filter (fun x => decide (x ≠ a)) := fun z n => List.mem_filter.mpr ⟨z, decide_eq_true n⟩
  have ownE : ∀ {j : Nat} {e' : Ent}, (ρ.set i (some ⟨false, .d (.list ds)⟩))[j]? = some (some e') → e'.own = true → i ≠ j ∧ ρ[j]? = some (some e') := by
    intro j e' hj ho'
    by_cases hij : i = j
    · subst hij
      rw [List.getElem?_set_self hi] at hj
      cases hj
      cases ho'
    · rw [List.getElem?_set_ne hij] at hj; exact ⟨hij, hj⟩
  have rl : RepL K H (M.filter (fun x => decide (x ≠ a))) vs ds := q4.less sub
  refine ⟨a, _, sub, h1, ⟨G.sm, G.wok, G.wad, fun b z => keepM (G.sub b z) (fun y => q2 (by rw [← y]; exact z)), fun b z => G.liv b (sub b z), by rw [List.length_set]; exact G.len, fun b hb => ?_, fun j e' hj => ?_, fun j l e1 e2 b g1 g2 g3 g4 g5 g6 => ?_⟩, Rep.lst na q3 rl⟩
  · obtain ⟨z1, z2, z3, z4⟩ := G.bs b hb
    refine ⟨z1, z2, fun c z => z3 c (sub c z), fun c ⟨j, e', y1, y2, y3⟩ => ?_⟩
    obtain ⟨_, y4⟩ := ownE y1 y2
    exact z4 c ⟨j, e', y4, y2, y3⟩
  · by_cases hij : i = j
    · subst hij
      rw [List.getElem?_set_self hi] at hj
      cases hj
      refine ⟨_, h1, ?_⟩
      unfold EntOk
      rw [if_neg (by simp)]
      exact Rep.lst na q3 rl
    · rw [List.getElem?_set_ne hij] at hj
      obtain ⟨v, y1, y2⟩ := G.ent j e' hj
      refine ⟨v, y1, y2.move (Kp.refl _ _) (fun b z => .inl (sub b z)) fun b ho' ev z n => ⟨keepM z fun q => ?_, fun o' y => y⟩⟩
      subst q; subst ev
      exact hij (G.sep i j _ e' b h rfl h1 hj ho' y1)
  · obtain ⟨_, x1⟩ := ownE g1 g2
    obtain ⟨_, x2⟩ := ownE g4 g5
    exact G.sep j l e1 e2 b x1 g2 g3 x2 g5 g6
end

/-- what an expression leaves: the value; a list that nobody else has (fr) -/
def Res (W : Wk) (K : PySem.W.Frag) (B : List Bs) (M0 : List Addr) (ρ : En) (σ : St) (H : Hp) (M : List Addr) (v : V) (u : U) (fr : Bool) : Prop :=
  Gd W K B M0 ρ σ H M ∧ if fr = true then ∃ a vs ds, v = .ref a ∧ u = .d (.list ds) ∧ H a = some (.lst vs) ∧ RepL K H (a :: M) vs ds ∧ a ∉ M ∧ Gd W K B M0 ρ σ H (a :: M) ∧ (∀ b ∈ B, b.h a = none) else RepU W K H M v u
section
variable {W : Wk} {K : PySem.W.Frag} {B B' : List Bs} {M0 : List Addr} {ρ : En} {σ : St} {H H' : Hp} {M M' : List Addr} {v : V} {u : U} {fr : Bool}
theorem Gd.old (G : Gd W K B M0 ρ σ H M) {b : Bs} (hb : b ∈ B) {p : Addr} (hp : H p = none) : b.h p = none := by
  cases e : b.h p with
  | none => rfl
  | some o' => exact absurd hp ((G.bs b hb).1.liv p (by rw [e]; exact fun q => nomatch q))
theorem Res.gd (r : Res W K B M0 ρ σ H M v u fr) : Gd W K B M0 ρ σ H M := r.1
theorem Res.rep (r : Res W K B M0 ρ σ H M v u fr) : RepU W K H M v u := by
  obtain ⟨G, r⟩ := r
  split at r
  · obtain ⟨a, vs, ds, rfl, rfl, h, rl, n, _, _⟩ := r
    exact Rep.lst n h (rl.less fun b z => List.mem_cons_of_mem _ z)
  · exact r
theorem Res.of (G : Gd W K B M0 ρ σ H M) (r : RepU W K H M v u) : Res W K B M0 ρ σ H M v u false := ⟨G, by rw [if_neg (by simp)]; exact r⟩
/-- a new list -/
theorem Res.new (G : Gd W K B M0 ρ σ H M) {p : Addr} {vs : List V} {ds : List PyData} (hp : H p = none) (r : RepL K H M vs ds) : Res W K B M0 ρ σ (upd H p (.lst vs)) M (.ref p) (.d (.list ds)) true := by
  have hm : p ∉ M := fun z => G.liv p z hp
  refine ⟨G.grow hp, ?_⟩
  rw [if_pos rfl]
  exact ⟨p, vs, ds, rfl, rfl, upd_same, r.move (Kp.fresh hp) (fun a z => (List.mem_cons.mp z).elim (fun y => .inr (by rw [y]; exact hp)) .inl), hm, G.new hp, fun b hb => G.old hb hp⟩
/-- a new tuple -/
theorem Res.newT (G : Gd W K B M0 ρ σ H M) {p : Addr} {vs : List V} {ds : List PyData} (hp : H p = none) (r : RepL K H M vs ds) : Res W K B M0 ρ σ (upd H p (.tup vs)) M (.ref p) (.d (.tuple ds)) false :=
  .of (G.grow hp) (Rep.tup (SqT.of upd_same) (r.keep (Kp.fresh hp)))
theorem Res.tail {b : Bs} (r : Res W K (b :: B) M0 ρ σ H M v u fr) : Res W K B M0 ρ σ H M v u fr := by
  obtain ⟨G, r⟩ := r
  refine ⟨G.tail, ?_⟩
  split
  · rename_i h
    rw [if_pos h] at r
    obtain ⟨a, vs, ds, q1, q2, q3, q4, q5, q6, q7⟩ := r
    exact ⟨a, vs, ds, q1, q2, q3, q4, q5, q6.tail, fun b' hb => q7 b' (List.mem_cons_of_mem _ hb)⟩
  · rename_i h
    rw [if_neg h] at r
    exact r
/-- stored at a slot -/
theorem Gd.put0 (G : Gd W K B M0 ρ σ H M) {i : Nat} (hi : i < σ.length) (r : RepU W K H M v u) : Gd W K B M0 (En.put ρ i false u) (σ.set i (some v)) H M := by
  have hr : i < ρ.length := by rw [G.len]; exact hi
  have ownE : ∀ {j : Nat} {e' : Ent}, (ρ.set i (some ⟨false, u⟩))[j]? = some (some e') → e'.own = true → i ≠ j ∧ ρ[j]? = some (some e') := by
    intro j e' hj ho'
    by_cases hij : i = j
    · subst hij
      rw [List.getElem?_set_self hr] at hj
      cases hj
      cases ho'
    · rw [List.getElem?_set_ne hij] at hj; exact ⟨hij, hj⟩
  unfold En.put
  refine ⟨G.sm, G.wok, G.wad, G.sub, G.liv, by rw [List.length_set, List.length_set]; exact G.len, fun b hb => ?_, fun j e' hj => ?_, fun j l e1 e2 b g1 g2 g3 g4 g5 g6 => ?_⟩
  · obtain ⟨z1, z2, z3, z4⟩ := G.bs b hb
    refine ⟨z1, z2, z3, fun c ⟨j, e', y1, y2, y3⟩ => ?_⟩
    obtain ⟨n, y4⟩ := ownE y1 y2
    rw [List.getElem?_set_ne n] at y3
    exact z4 c ⟨j, e', y4, y2, y3⟩
  · by_cases hij : i = j
    · subst hij
      rw [List.getElem?_set_self hr] at hj
      cases hj
      refine ⟨v, by rw [List.getElem?_set_self hi], ?_⟩
      unfold EntOk
      rw [if_neg (by simp)]
      exact r
    · rw [List.getElem?_set_ne hij] at hj ⊢
      exact G.ent j e' hj
  · obtain ⟨n1, x1⟩ := ownE g1 g2
    obtain ⟨n2, x2⟩ := ownE g4 g5
    rw [List.getElem?_set_ne n1] at g3
    rw [List.getElem?_set_ne n2] at g6
    exact G.sep j l e1 e2 b x1 g2 g3 x2 g5 g6
theorem Gd.put1 {a : Addr} {vs : List V} {ds : List PyData} (G : Gd W K B M0 ρ σ H (a :: M)) (Gm : Gd W K B M0 ρ σ H M) {i : Nat} (hi : i < σ.length) (ha : H a = some (.lst vs)) (r : RepL K H (a :: M) vs ds) (hn : a ∉ M) (ho : ∀ b ∈ B, b.h a = none) :
    Gd W K B M0 (En.put ρ i true (.d (.list ds))) (σ.set i (some (.ref a))) H (a :: M) := by
  have hr : i < ρ.length := by rw [G.len]; exact hi
  have n0 : a ∉ M0 := fun z => hn (Gm.sub a z)
  have ownE : ∀ {j : Nat} {e' : Ent}, (ρ.set i (some ⟨true, .d (.list ds)⟩))[j]? = some (some e') → e'.own = true → i = j ∨ (i ≠ j ∧ ρ[j]? = some (some e')) := by
    intro j e' hj ho'
    by_cases hij : i = j
    · exact .inl hij
    · rw [List.getElem?_set_ne hij] at hj; exact .inr ⟨hij, hj⟩
  have no : ∀ {j : Nat} {e' : Ent}, ρ[j]? = some (some e') → e'.own = true → σ[j]? ≠ some (some (V.ref a)) := fun h1 h2 h3 => hn (Gm.owned ⟨_, _, h1, h2, h3⟩).1
  unfold En.put
  refine ⟨G.sm, G.wok, G.wad, G.sub, G.liv, by rw [List.length_set, List.length_set]; exact G.len, fun b hb => ?_, fun j e' hj => ?_, fun j l e1 e2 b g1 g2 g3 g4 g5 g6 => ?_⟩
  · obtain ⟨z1, z2, z3, z4⟩ := G.bs b hb
    refine ⟨z1, z2, z3, fun c ⟨j, e', y1, y2, y3⟩ => ?_⟩
    rcases ownE y1 y2 with rfl | ⟨n, y4⟩
    · rw [List.getElem?_set_self hi] at y3
      cases y3
      exact .inr (ho b hb)
    · rw [List.getElem?_set_ne n] at y3
      exact z4 c ⟨j, e', y4, y2, y3⟩
  · by_cases hij : i = j
    · subst hij
      rw [List.getElem?_set_self hr] at hj
      cases hj
      refine ⟨_, by rw [List.getElem?_set_self hi], ?_⟩
      unfold EntOk
      rw [if_pos rfl]
      exact ⟨a, vs, ds, rfl, rfl, List.mem_cons_self, n0, ha, r⟩
    · rw [List.getElem?_set_ne hij] at hj ⊢
      exact G.ent j e' hj
  · rcases ownE g1 g2 with rfl | ⟨n1, x1⟩
    · rcases ownE g4 g5 with rfl | ⟨n2, x2⟩
      · rfl
      · rw [List.getElem?_set_self hi] at g3
        cases g3
        rw [List.getElem?_set_ne n2] at g6
        exact absurd g6 (no x2 g5)
    · rcases ownE g4 g5 with rfl | ⟨n2, x2⟩
      · rw [List.getElem?_set_self hi] at g6
        cases g6
        rw [List.getElem?_set_ne n1] at g3
        exact absurd g3 (no x1 g2)
      · rw [List.getElem?_set_ne n1] at g3
        rw [List.getElem?_set_ne n2] at g6
        exact G.sep j l e1 e2 b x1 g2 g3 x2 g5 g6
/-- a result stored at a slot -/
theorem Res.put (r : Res W K B M0 ρ σ H M v u fr) {i : Nat} (hi : i < σ.length) : ∃ M', Gd W K B M0 (En.put ρ i fr u) (σ.set i (some v)) H M' := by
  have rr := r.rep
  obtain ⟨G, r⟩ := r
  cases fr with
  | false => exact ⟨M, G.put0 hi rr⟩
  | true =>
    rw [if_pos rfl] at r
    obtain ⟨a, vs, ds, rfl, rfl, q3, q4, q5, q6, q7⟩ := r
    exact ⟨a :: M, q6.put1 G hi q3 q4 q5 q7⟩
end
/-! ### readings -/
/-- what is known of an operand behind its evaluation -/
def OpdOk (W : Wk) (K : PySem.W.Frag) (σ : St) (H : Hp) (M : List Addr) (v : V) : Opd → Prop
  | .val u => RepU W K H M v u
  | .slot i => σ[i]? = some (some v)
/-- a value that is read where it stands: a list may be one that a slot owns -/
def RepPk (K : PySem.W.Frag) (H : Hp) (M : List Addr) (v : V) (x : PyData) : Prop := match x with
  | .list ds => ∃ a vs, v = .ref a ∧ H a = some (.lst vs) ∧ RepL K H M vs ds
  | x => Rep K H M v x
theorem Rep.pk {K : PySem.W.Frag} {H : Hp} {M : List Addr} {v : V} {x : PyData} (r : Rep K H M v x) : RepPk K H M v x := by
  cases r with
  | lst n h q => exact ⟨_, _, rfl, h, q⟩
  | non => exact .non
  | bl b => exact .bl b
  | int i => exact .int i
  | str x => exact .str x
  | tup h q => exact .tup h q
  | dct n h q => exact .dct n h q
theorem OpdOk.pk {W : Wk} {K : PySem.W.Frag} {B : List Bs} {M0 : List Addr} {ρ : En} {σ : St} {H : Hp} {M : List Addr} {v : V} {o : Opd} {x : PyData} (G : Gd W K B M0 ρ σ H M) (ok : OpdOk W K σ H M v o) (h : rs ρ o = some (.d x)) : RepPk K H M v x := by
  cases o with
  | val u =>
    have h : u = .d x := Option.some.inj h
    subst h
    exact Rep.pk ok
  | slot i =>
    have h : (En.at ρ i).map (·.u) = some (.d x) := h
    cases q : En.at ρ i with
    | none => rw [q] at h; cases h
    | some e =>
      rw [q] at h
      have h : e.u = .d x := Option.some.inj h
      obtain ⟨v', h1, h2⟩ := G.ent i e (En.at_get q)
      have ok : σ[i]? = some (some v) := ok
      rw [ok] at h1; cases h1
      unfold EntOk at h2
      split at h2
      · obtain ⟨a, vs, ds, rfl, e2, q1, q2, q3, q4⟩ := h2
        rw [h] at e2; cases e2
        exact ⟨a, vs, rfl, q3, q4⟩
      · rw [h] at h2
        exact Rep.pk h2
/-- behind what came after: an operand's value is still what it was -/
theorem OpdOk.later {W : Wk} {K : PySem.W.Frag} {B : List Bs} {M0 : List Addr} {ρ : En} {σ : St} {H H1 : Hp} {M M1 : List Addr} {v : V} {o : Opd} (G : Gd W K (⟨H1, M1, M1⟩ :: B) M0 ρ σ H M) (ok : OpdOk W K σ H1 M1 v o) : OpdOk W K σ H M v o := by
  cases o with
  | val u => exact G.repU ok
  | slot i => exact ok
/-- how an exception lies -/
def ExnAt (K : PySem.W.Frag) (mg : Str → Option Value) (H : Hp) (M : List Addr) (x : Exn) (C : Value) (od : Option Addr) : Prop :=
  mg x.cls = some C ∧ match x.fld with
    | none => od = none
    | some (f, d) => ∃ a v, od = some a ∧ H a = some (.xd [(f, v)]) ∧ Rep K H M v d
/-- what is wanted of an exception is kept by what the context takes -/
def XOk (W : Wk) (K : PySem.W.Frag) (mg : Str → Option Value) (E : XK) (M0 : List Addr) (B : List Bs) (R : RK) : Prop :=
  (∀ x, ¬ R x) ∨ ∃ b ∈ B, ∀ x C od H', R x → ExnAt K mg H' M0 x C od → Kp b.k b.h H' → (∃ k, (W.up k).ok H') → E C od H'
theorem XOk.none {W : Wk} {K : PySem.W.Frag} {mg : Str → Option Value} {E : XK} {M0 : List Addr} {B : List Bs} : XOk W K mg E M0 B X0 := .inl fun _ z => z
theorem XOk.more {W : Wk} {K : PySem.W.Frag} {mg : Str → Option Value} {E : XK} {M0 : List Addr} {B B' : List Bs} {R : RK} (h : XOk W K mg E M0 B R) (s : ∀ b ∈ B, b ∈ B') : XOk W K mg E M0 B' R :=
  h.imp id fun ⟨b, hb, q⟩ => ⟨b, s b hb, q⟩
theorem XOk.cons {W : Wk} {K : PySem.W.Frag} {mg : Str → Option Value} {E : XK} {M0 : List Addr} {B : List Bs} {b : Bs} {R : RK} (h : XOk W K mg E M0 B R) : XOk W K mg E M0 (b :: B) R := h.more fun _ z => List.mem_cons_of_mem _ z
theorem XOk.up {W : Wk} {K : PySem.W.Frag} {mg : Str → Option Value} {E : XK} {M0 : List Addr} {B : List Bs} {R : RK} {j : Nat} (h : XOk W K mg E M0 B R) : XOk (W.up j) K mg E M0 B R :=
  h.imp id fun ⟨b, hb, q⟩ => ⟨b, hb, fun x C od H' h1 h2 h3 ⟨k, h4⟩ => q x C od H' h1 h2 h3 ⟨j + k, by rw [← Wk.up_up]; exact h4⟩⟩
/-- more draws than a law can make -/
def LIM : Nat := 2 ^ 500000
/-- t more draws are within the line -/
def WP (Wp : Wk → Prop) (W : Wk) (t : Nat) : Prop := W.n + t ≤ LIM ∧ ∀ k, Wp (W.up k)
theorem WP.le {Wp : Wk → Prop} {W : Wk} {t u : Nat} (w : WP Wp W t) (h : u ≤ t) : WP Wp W u := ⟨Nat.le_trans (Nat.add_le_add_left h _) w.1, w.2⟩
theorem WP.up {Wp : Wk → Prop} {W : Wk} {t j u : Nat} (w : WP Wp W t) (h : j + u ≤ t) : WP Wp (W.up j) u := by
  refine ⟨?_, fun k => by rw [Wk.up_up]; exact w.2 _⟩
  show W.n + j + u ≤ LIM
  have := w.1
  omega
section
variable {W : Wk} {K : PySem.W.Frag} {B : List Bs} {M0 : List Addr} {ρ : En} {σ : St} {H : Hp} {M : List Addr} {v : V} {u : U} {fr : Bool}
theorem Res.mono {a b : Nat} (h : a ≤ b) (r : Res (W.up a) K B M0 ρ σ H M v u fr) : Res (W.up b) K B M0 ρ σ H M v u fr := by
  obtain ⟨G, r⟩ := r
  refine ⟨G.mono h, ?_⟩
  split
  · rename_i hf
    rw [if_pos hf] at r
    obtain ⟨a, vs, ds, q1, q2, q3, q4, q5, q6, q7⟩ := r
    exact ⟨a, vs, ds, q1, q2, q3, q4, q5, q6.mono h, q7⟩
  · rename_i hf
    rw [if_neg hf] at r
    exact r
theorem Res.cast {a b : Nat} (r : Res ((W.up a).up b) K B M0 ρ σ H M v u fr) : Res (W.up (a + b)) K B M0 ρ σ H M v u fr := by
  rw [Wk.up_up] at r
  exact r
end
section
variable (Wp : Wk → Prop) (K : PySem.W.Frag) (mg : Str → Option Value) (E : XK)
def lE (m : DE) : TE := fun σ H Q => ∃ W B M0 ρ M P R, WP Wp W m.m ∧ Gd W K B M0 ρ σ H M ∧ m ρ P R ∧ XOk W K mg E M0 B R ∧ ∀ u fr ρ' v H' M', P u fr ρ' → Res (W.up m.m) K B M0 ρ' σ H' M' v u fr → Q v H'
def lO (m : DO) : TE := fun σ H Q => ∃ W B M0 ρ M P R, WP Wp W m.m ∧ Gd W K B M0 ρ σ H M ∧ m ρ P R ∧ XOk W K mg E M0 B R ∧ ∀ o ρ' v H' M', P o ρ' → Gd (W.up m.m) K B M0 ρ' σ H' M' → OpdOk W K σ H' M' v o → Q v H'
def lT (m : DT) : TT := fun σ H Q => ∃ W B M0 ρ M P R, WP Wp W m.m ∧ Gd W K B M0 ρ σ H M ∧ m ρ P R ∧ XOk W K mg E M0 B R ∧ ∀ k ρ' H' M', P k ρ' → Gd (W.up m.m) K B M0 ρ' σ H' M' → Q k H'
def lA (m : DA) : TA := fun σ H Q => ∃ W B M0 ρ M P R, WP Wp W m.m ∧ Gd W K B M0 ρ σ H M ∧ m ρ P R ∧ XOk W K mg E M0 B R ∧ ∀ us ρ' vs H' M', P us ρ' → Gd (W.up m.m) K B M0 ρ' σ H' M' → Paired (RepU W K H' M') vs us → Q vs H'
/-- what is left at a return: for the caller -/
def RetOk (W : Wk) (K : PySem.W.Frag) (H0 : Hp) (M0 : List Addr) (H' : Hp) (v : V) (u : U) (fr : Bool) : Prop :=
  W.ok H' ∧ Kp W.ad H0 H' ∧ if fr = true then ∃ a vs ds, v = .ref a ∧ u = .d (.list ds) ∧ H' a = some (.lst vs) ∧ RepL K H' (a :: M0) vs ds ∧ H0 a = none else RepU W K H' M0 v u
theorem RetOk.mono {W : Wk} {K : PySem.W.Frag} {H0 : Hp} {M0 : List Addr} {H' : Hp} {v : V} {u : U} {fr : Bool} {a b : Nat} (h : a ≤ b) (r : RetOk (W.up a) K H0 M0 H' v u fr) : RetOk (W.up b) K H0 M0 H' v u fr := ⟨Wk.mono h r.1, r.2.1, r.2.2⟩
def lS (m : DS) : TS := fun D σ H => ∃ W H0 B M0 ρ M DD, WP Wp W m.m ∧ Gd W K (⟨H0, W.ad, M0⟩ :: B) M0 ρ σ H M ∧ m ρ DD ∧ XOk W K mg E M0 (⟨H0, W.ad, M0⟩ :: B) DD.ex ∧
  (∀ σ' ρ' H' M', σ'.length = σ.length → DD.nx ρ' → Gd (W.up m.m) K (⟨H0, W.ad, M0⟩ :: B) M0 ρ' σ' H' M' → D.nx σ' H') ∧
  (∀ u fr v H', DD.rt u fr → RetOk (W.up m.m) K H0 M0 H' v u fr → D.rt v H') ∧
  (∀ σ' ρ' H' M', σ'.length = σ.length → DD.bk ρ' → Gd (W.up m.m) K (⟨H0, W.ad, M0⟩ :: B) M0 ρ' σ' H' M' → D.bk σ' H') ∧
  (∀ σ' ρ' H' M', σ'.length = σ.length → DD.ct ρ' → Gd (W.up m.m) K (⟨H0, W.ad, M0⟩ :: B) M0 ρ' σ' H' M' → D.ct σ' H')
end
/-- the code e does what d wants -/
abbrev JE (Wp : Wk → Prop) (E : XK) (X : Cx) (e : Expr) (d : DE) : Prop := PE X e (lE Wp X.K X.mg E d)
abbrev JO (Wp : Wk → Prop) (E : XK) (X : Cx) (e : Expr) (d : DO) : Prop := PE X e (lO Wp X.K X.mg E d)
abbrev JT (Wp : Wk → Prop) (E : XK) (X : Cx) (e : Expr) (d : DT) : Prop := PT X e (lT Wp X.K X.mg E d)
abbrev JW (Wp : Wk → Prop) (E : XK) (X : Cx) (e : Expr) (d : DT) : Prop := PW X e (lT Wp X.K X.mg E d)
abbrev JA (Wp : Wk → Prop) (E : XK) (X : Cx) (e : List Expr) (d : DA) : Prop := PA X e (lA Wp X.K X.mg E d)
abbrev JS (Wp : Wk → Prop) (E : XK) (X : Cx) (e : Stmt) (d : DS) : Prop := PS X e (lS Wp X.K X.mg E d)
abbrev JB (Wp : Wk → Prop) (E : XK) (X : Cx) (e : List Stmt) (d : DS) : Prop := PSs X e (lS Wp X.K X.mg E d)
end G9

/-! M4: the rules of HandS at pure data. -/
namespace G9
open PySem PySem.Spec L2

theorem _root_.L2.PE.weak {X : Cx} {e : Expr} {t t' : TE} (h : PE X e t) (w : ∀ σ H Q, t' σ H Q → t σ H Q) : PE X e t' := ⟨fun pins s σ H Q I q => h.run pins s σ H Q I (w σ H Q q)⟩
theorem _root_.L2.PT.weak {X : Cx} {e : Expr} {t t' : TT} (h : PT X e t) (w : ∀ σ H Q, t' σ H Q → t σ H Q) : PT X e t' := ⟨fun pins s σ H Q I q => h.run pins s σ H Q I (w σ H Q q)⟩
theorem _root_.L2.PW.weak {X : Cx} {e : Expr} {t t' : TT} (h : PW X e t) (w : ∀ σ H Q, t' σ H Q → t σ H Q) : PW X e t' := ⟨fun wh pins s σ H Q I q => h.run wh pins s σ H Q I (w σ H Q q)⟩
theorem _root_.L2.PA.weak {X : Cx} {e : List Expr} {t t' : TA} (h : PA X e t) (w : ∀ σ H Q, t' σ H Q → t σ H Q) : PA X e t' := ⟨fun pos pins s σ H Q I q => h.run pos pins s σ H Q I (w σ H Q q)⟩
theorem _root_.L2.PS.weak {X : Cx} {e : Stmt} {t t' : TS} (h : PS X e t) (w : ∀ D σ H, t' D σ H → t D σ H) : PS X e t' := ⟨fun pins s σ H D I q => h.run pins s σ H D I (w D σ H q)⟩
theorem _root_.L2.PSs.weak {X : Cx} {e : List Stmt} {t t' : TS} (h : PSs X e t) (w : ∀ D σ H, t' D σ H → t D σ H) : PSs X e t' := ⟨fun pins s σ H D I q => h.run pins s σ H D I (w D σ H q)⟩

section
variable {Wp : Wk → Prop} {K : PySem.W.Frag} {mg : Str → Option Value} {E : XK} {W : Wk} {B : List Bs} {M0 : List Addr} {ρ : En} {σ : St} {H : Hp} {M : List Addr} {R : RK} {t j : Nat}
theorem lE_go {m : DE} {P : U → Bool → En → Prop} {Q : VK} (w : WP Wp W t) (G : Gd W K B M0 ρ σ H M) (d : m ρ P R) (x : XOk W K mg E M0 B R) (h : ∀ u fr ρ' v H' M', P u fr ρ' → Res (W.up m.m) K B M0 ρ' σ H' M' v u fr → Q v H') (hle : m.m ≤ t := by first | exact Nat.le_refl _ | exact Nat.le_add_right _ _ | exact Nat.le_add_left _ _ | exact Nat.le_trans (Nat.le_add_right _ _) (Nat.le_add_right _ _) | exact Nat.add_le_add_left (Nat.le_add_right _ _) _ | exact Nat.add_le_add_left (Nat.le_add_left _ _) _) : lE Wp K mg E m σ H Q :=
  ⟨W, B, M0, ρ, M, P, R, w.le hle, G, d, x, h⟩
theorem lO_go {m : DO} {P : Opd → En → Prop} {Q : VK} (w : WP Wp W t) (G : Gd W K B M0 ρ σ H M) (d : m ρ P R) (x : XOk W K mg E M0 B R) (h : ∀ o ρ' v H' M', P o ρ' → Gd (W.up m.m) K B M0 ρ' σ H' M' → OpdOk W K σ H' M' v o → Q v H') (hle : m.m ≤ t := by first | exact Nat.le_refl _ | exact Nat.le_add_right _ _ | exact Nat.le_add_left _ _ | exact Nat.le_trans (Nat.le_add_right _ _) (Nat.le_add_right _ _) | exact Nat.add_le_add_left (Nat.le_add_right _ _) _ | exact Nat.add_le_add_left (Nat.le_add_left _ _) _) : lO Wp K mg E m σ H Q :=
  ⟨W, B, M0, ρ, M, P, R, w.le hle, G, d, x, h⟩
theorem lT_go {m : DT} {P : Bool → En → Prop} {Q : Bool → Hp → Prop} (w : WP Wp W t) (G : Gd W K B M0 ρ σ H M) (d : m ρ P R) (x : XOk W K mg E M0 B R) (h : ∀ k ρ' H' M', P k ρ' → Gd (W.up m.m) K B M0 ρ' σ H' M' → Q k H') (hle : m.m ≤ t := by first | exact Nat.le_refl _ | exact Nat.le_add_right _ _ | exact Nat.le_add_left _ _ | exact Nat.le_trans (Nat.le_add_right _ _) (Nat.le_add_right _ _) | exact Nat.add_le_add_left (Nat.le_add_right _ _) _ | exact Nat.add_le_add_left (Nat.le_add_left _ _) _) : lT Wp K mg E m σ H Q :=
  ⟨W, B, M0, ρ, M, P, R, w.le hle, G, d, x, h⟩
theorem lA_go {m : DA} {P : List U → En → Prop} {Q : List V → Hp → Prop} (w : WP Wp W t) (G : Gd W K B M0 ρ σ H M) (d : m ρ P R) (x : XOk W K mg E M0 B R) (h : ∀ us ρ' vs H' M', P us ρ' → Gd (W.up m.m) K B M0 ρ' σ H' M' → Paired (RepU W K H' M') vs us → Q vs H') (hle : m.m ≤ t := by first | exact Nat.le_refl _ | exact Nat.le_add_right _ _ | exact Nat.le_add_left _ _ | exact Nat.le_trans (Nat.le_add_right _ _) (Nat.le_add_right _ _) | exact Nat.add_le_add_left (Nat.le_add_right _ _) _ | exact Nat.add_le_add_left (Nat.le_add_left _ _) _) : lA Wp K mg E m σ H Q :=
  ⟨W, B, M0, ρ, M, P, R, w.le hle, G, d, x, h⟩
theorem lE_go' {m : DE} {P : U → Bool → En → Prop} {Q : VK} (w : WP Wp W t) (G : Gd (W.up j) K B M0 ρ σ H M) (d : m ρ P R) (x : XOk W K mg E M0 B R) (h : ∀ u fr ρ' v H' M', P u fr ρ' → Res (W.up (j + m.m)) K B M0 ρ' σ H' M' v u fr → Q v H') (hle : j + m.m ≤ t := by first | exact Nat.le_refl _ | exact Nat.le_add_right _ _ | exact Nat.le_add_left _ _ | exact Nat.le_trans (Nat.le_add_right _ _) (Nat.le_add_right _ _) | exact Nat.add_le_add_left (Nat.le_add_right _ _) _ | exact Nat.add_le_add_left (Nat.le_add_left _ _) _) : lE Wp K mg E m σ H Q :=
  ⟨_, B, M0, ρ, M, P, R, w.up hle, G, d, x.up, fun u fr ρ' v H' M' c r => h u fr ρ' v H' M' c r.cast⟩
theorem lO_go' {m : DO} {P : Opd → En → Prop} {Q : VK} (w : WP Wp W t) (G : Gd (W.up j) K B M0 ρ σ H M) (d : m ρ P R) (x : XOk W K mg E M0 B R) (h : ∀ o ρ' v H' M', P o ρ' → Gd (W.up (j + m.m)) K B M0 ρ' σ H' M' → OpdOk W K σ H' M' v o → Q v H') (hle : j + m.m ≤ t := by first | exact Nat.le_refl _ | exact Nat.le_add_right _ _ | exact Nat.le_add_left _ _ | exact Nat.le_trans (Nat.le_add_right _ _) (Nat.le_add_right _ _) | exact Nat.add_le_add_left (Nat.le_add_right _ _) _ | exact Nat.add_le_add_left (Nat.le_add_left _ _) _) : lO Wp K mg E m σ H Q :=
  ⟨_, B, M0, ρ, M, P, R, w.up hle, G, d, x.up, fun o ρ' v H' M' c r k => h o ρ' v H' M' c r.cast k⟩
theorem lT_go' {m : DT} {P : Bool → En → Prop} {Q : Bool → Hp → Prop} (w : WP Wp W t) (G : Gd (W.up j) K B M0 ρ σ H M) (d : m ρ P R) (x : XOk W K mg E M0 B R) (h : ∀ k ρ' H' M', P k ρ' → Gd (W.up (j + m.m)) K B M0 ρ' σ H' M' → Q k H') (hle : j + m.m ≤ t := by first | exact Nat.le_refl _ | exact Nat.le_add_right _ _ | exact Nat.le_add_left _ _ | exact Nat.le_trans (Nat.le_add_right _ _) (Nat.le_add_right _ _) | exact Nat.add_le_add_left (Nat.le_add_right _ _) _ | exact Nat.add_le_add_left (Nat.le_add_left _ _) _) : lT Wp K mg E m σ H Q :=
  ⟨_, B, M0, ρ, M, P, R, w.up hle, G, d, x.up, fun k ρ' H' M' c r => h k ρ' H' M' c r.cast⟩
theorem lA_go' {m : DA} {P : List U → En → Prop} {Q : List V → Hp → Prop} (w : WP Wp W t) (G : Gd (W.up j) K B M0 ρ σ H M) (d : m ρ P R) (x : XOk W K mg E M0 B R) (h : ∀ us ρ' vs H' M', P us ρ' → Gd (W.up (j + m.m)) K B M0 ρ' σ H' M' → Paired (RepU W K H' M') vs us → Q vs H') (hle : j + m.m ≤ t := by first | exact Nat.le_refl _ | exact Nat.le_add_right _ _ | exact Nat.le_add_left _ _ | exact Nat.le_trans (Nat.le_add_right _ _) (Nat.le_add_right _ _) | exact Nat.add_le_add_left (Nat.le_add_right _ _) _ | exact Nat.add_le_add_left (Nat.le_add_left _ _) _) : lA Wp K mg E m σ H Q :=
  ⟨_, B, M0, ρ, M, P, R, w.up hle, G, d, x.up, fun us ρ' vs H' M' c r p => h us ρ' vs H' M' c r.cast p⟩

/-! ### operations on data -/
def rStr2 : R2 := fun x y H Q => ∃ i j, x = .str i ∧ y = .str j ∧ i.length + j.length ≤ sizeLine ∧ Q (.str (i ++ j)) H
def rAddA (K : PySem.W.Frag) : R2 := fun x y H Q => rI0 (fun i j => .int (i + j)) x y H Q ∨ (rStr2 x y H Q ∨ (rCat x y H Q ∨ rCatA K x y H Q))
theorem op_addA {X : Cx} : OpR X (binaryOp .Add) (rAddA X.K) := op_add.or (op_add_str.or (op_cat.or op_catA))
theorem RepPk.int_inv {v : V} {i : Int} (h : RepPk K H M v (.int i)) : v = .int i := Rep.int_inv h
theorem RepPk.str_inv {v : V} {i : Str} (h : RepPk K H M v (.str i)) : v = .str i := Rep.str_inv h
theorem RepPk.bool_inv {v : V} {i : Bool} (h : RepPk K H M v (.bool i)) : v = .bl i := Rep.bool_inv h
theorem RepPk.list_inv {v : V} {ds : List PyData} (h : RepPk K H M v (.list ds)) : ∃ a vs, v = .ref a ∧ H a = some (.lst vs) ∧ RepL K H M vs ds := h
theorem RepPk.tup_inv {v : V} {ds : List PyData} (h : RepPk K H M v (.tuple ds)) : ∃ a vs, v = .ref a ∧ SqT K H a vs ∧ RepL K H M vs ds := by
  have h : Rep K H M v (.tuple ds) := h
  cases h with
  | tup h1 q => exact ⟨_, _, rfl, h1, q⟩
theorem Res.int (G : Gd W K B M0 ρ σ H M) (i : Int) : Res W K B M0 ρ σ H M (.int i) (.d (.int i)) false := .of G (Rep.int i)
theorem Res.bool (G : Gd W K B M0 ρ σ H M) (i : Bool) : Res W K B M0 ρ σ H M (.bl i) (.d (.bool i)) false := .of G (Rep.bl i)
theorem Res.str (G : Gd W K B M0 ρ σ H M) (i : Str) : Res W K B M0 ρ σ H M (.str i) (.d (.str i)) false := .of G (Rep.str i)
theorem add_go {x y : PyData} {v u : V} {C : PyData → Bool → Prop} {Q : VK} (G : Gd W K B M0 ρ σ H M) (rx : RepPk K H M v x) (ry : RepPk K H M u y) (c : opS .add x y C) (h : ∀ z fr v' H' M', C z fr → Res W K B M0 ρ σ H' M' v' (.d z) fr → Q v' H') : rAddA K v u H Q := by
  cases x <;> cases y <;> try exact (show False from c).elim
  · rename_i i j
    exact .inl ⟨i, j, rx.int_inv, ry.int_inv, h _ _ _ _ _ c (Res.int G _)⟩
  · rename_i i j
    exact .inr (.inl ⟨i, j, rx.str_inv, ry.str_inv, c.1, h _ _ _ _ _ c.2 (Res.str G _)⟩)
  · rename_i xs ys
    obtain ⟨a, vs, rfl, ha, r1⟩ := rx.list_inv
    obtain ⟨b, ws, rfl, hb, r2⟩ := ry.list_inv
    exact .inr (.inr (.inl ⟨a, b, vs, ws, rfl, rfl, ha, hb, by rw [r1.length, r2.length]; exact c.1, fun p hp => h _ _ _ _ _ c.2 (Res.new G hp (r1.append r2))⟩))
  · rename_i xs ys
    obtain ⟨a, vs, rfl, ha, r1⟩ := rx.tup_inv
    obtain ⟨b, ws, rfl, hb, r2⟩ := ry.tup_inv
    refine .inr (.inr (.inr ⟨a, b, vs, ws, rfl, rfl, ha, hb, by rw [r1.length, r2.length]; exact c.1, fun e => ?_, fun e1 e2 => ?_, fun e1 e2 p hp => h _ _ _ _ _ c.2 (Res.newT G hp (r1.append r2))⟩))
    · subst e
      cases r1
      exact h _ _ _ _ _ c.2 (.of G (Rep.tup hb r2))
    · subst e2
      cases r2
      have c2 := c.2
      rw [List.append_nil] at c2
      exact h _ _ _ _ _ c2 (.of G (Rep.tup ha r1))
theorem sub_go {x y : PyData} {v u : V} {C : PyData → Bool → Prop} {Q : VK} (G : Gd W K B M0 ρ σ H M) (rx : RepPk K H M v x) (ry : RepPk K H M u y) (c : opS .sub x y C) (h : ∀ z fr v' H' M', C z fr → Res W K B M0 ρ σ H' M' v' (.d z) fr → Q v' H') : rI0 (fun i j => .int (i - j)) v u H Q := by
  cases x <;> cases y <;> try exact (show False from c).elim
  rename_i i j
  exact ⟨i, j, rx.int_inv, ry.int_inv, h _ _ _ _ _ c (Res.int G _)⟩
theorem fdiv_go {x y : PyData} {v u : V} {C : PyData → Bool → Prop} {Q : VK} (G : Gd W K B M0 ρ σ H M) (rx : RepPk K H M v x) (ry : RepPk K H M u y) (c : opS .fdiv x y C) (h : ∀ z fr v' H' M', C z fr → Res W K B M0 ρ σ H' M' v' (.d z) fr → Q v' H') : rI CDivN (fun i j => .int (i.fdiv j)) v u H Q := by
  cases x <;> cases y <;> try exact (show False from c).elim
  rename_i i j
  exact ⟨i, j, rx.int_inv, ry.int_inv, c.1, h _ _ _ _ _ c.2 (Res.int G _)⟩
theorem mod_go {x y : PyData} {v u : V} {C : PyData → Bool → Prop} {Q : VK} (G : Gd W K B M0 ρ σ H M) (rx : RepPk K H M v x) (ry : RepPk K H M u y) (c : opS .mod x y C) (h : ∀ z fr v' H' M', C z fr → Res W K B M0 ρ σ H' M' v' (.d z) fr → Q v' H') : rI (fun _ j => j ≠ 0) (fun i j => .int (i.fmod j)) v u H Q := by
  cases x <;> cases y <;> try exact (show False from c).elim
  rename_i i j
  exact ⟨i, j, rx.int_inv, ry.int_inv, c.1, h _ _ _ _ _ c.2 (Res.int G _)⟩
theorem pow_go {x y : PyData} {v u : V} {C : PyData → Bool → Prop} {Q : VK} (G : Gd W K B M0 ρ σ H M) (rx : RepPk K H M v x) (ry : RepPk K H M u y) (c : opS .pow x y C) (h : ∀ z fr v' H' M', C z fr → Res W K B M0 ρ σ H' M' v' (.d z) fr → Q v' H') : rI CPow (fun i j => .int (i ^ j.toNat)) v u H Q := by
  cases x <;> cases y <;> try exact (show False from c).elim
  rename_i i j
  exact ⟨i, j, rx.int_inv, ry.int_inv, c.1, h _ _ _ _ _ c.2 (Res.int G _)⟩
end
end G9

/-! O1: the order of tuples of texts. -/
namespace G9
open PySem PySem.Spec L2 PyProof.Rows
theorem getD_drop (ss : List Str) (i : Nat) (x : Str) (r : List Str) (h : ss.drop i = x :: r) : ss.getD i "" = x ∧ ss.drop (i + 1) = r ∧ i < ss.length := by
  have hi : i < ss.length := by
    rcases Nat.lt_or_ge i ss.length with h' | h'
    · exact h'
    · rw [List.drop_of_length_le h'] at h; cases h
  rw [List.drop_eq_getElem_cons hi] at h
  injection h with h1 h2
  refine ⟨?_, h2, hi⟩
  rw [List.getD_eq_getElem?_getD, List.getElem?_eq_getElem hi]
  exact h1
theorem lex_ss {rr : Str → Str → Bool} {nn cn nc : Bool} {g : List Str → List Str → Bool} (g0 : g [] [] = nn) (g1 : ∀ b t, g [] (b :: t) = cn) (g2 : ∀ a r, g (a :: r) [] = nc) (g3 : ∀ a r b t, g (a :: r) (b :: t) = if a = b then g r t else rr a b)
    (SS TS : List Str) (z : Bool) (hz : z = if SS.length = TS.length then nn else if SS.length < TS.length then cn else nc) :
    ∀ (k i : Nat), i + k = min SS.length TS.length → Ob.lexAt (fun j => decide (SS.getD j "" = TS.getD j "")) (fun j => rr (SS.getD j "") (TS.getD j "")) z i k = g (SS.drop i) (TS.drop i)
  | 0, i, e => by
    rw [Ob.lexAt_zero, hz]
    cases h1 : SS.drop i with
    | nil =>
      cases h2 : TS.drop i with
      | nil =>
        have a := List.drop_eq_nil_iff.mp h1
        have b := List.drop_eq_nil_iff.mp h2
        rw [if_pos (by omega), g0]
      | cons b t =>
        have a := List.drop_eq_nil_iff.mp h1
        have b' := (getD_drop TS i b t h2).2.2
        rw [if_neg (by omega), if_pos (by omega), g1]
    | cons a r =>
      have a' := (getD_drop SS i a r h1).2.2
      cases h2 : TS.drop i with
      | nil =>
        have b := List.drop_eq_nil_iff.mp h2
        rw [if_neg (by omega), if_neg (by omega), g2]
      | cons b t =>
        have b' := (getD_drop TS i b t h2).2.2
        omega
  | k + 1, i, e => by
    rw [Ob.lexAt_succ, lex_ss g0 g1 g2 g3 SS TS z hz k (i + 1) (by omega)]
    have h1 : SS.drop i = SS[i]'(by omega) :: SS.drop (i + 1) := List.drop_eq_getElem_cons (by omega)
    have h2 : TS.drop i = TS[i]'(by omega) :: TS.drop (i + 1) := List.drop_eq_getElem_cons (by omega)
    rw [(getD_drop SS i _ _ h1).1, (getD_drop TS i _ _ h2).1, h1, h2, g3]
    by_cases q : SS[i]'(by omega) = TS[i]'(by omega)
    · rw [if_pos q, if_pos (decide_eq_true q)]
    · rw [if_neg q, if_neg (by rw [decide_eq_false q]; simp)]
theorem rc_lt_str {A : Around} {s : Shared} (a b : Str) (t u : Tok) : Ob.RcOp .Lt A s (.str a t) (.str b u) (ltS a b) := fun _ _ _ _ h => lt_str h
theorem rc_le_str {A : Around} {s : Shared} (a b : Str) (t u : Tok) : Ob.RcOp .LtE A s (.str a t) (.str b u) (!ltS b a) := fun _ _ _ _ h => PySem.P.le_str h
section
variable {X : Cx}
def rTS (K : PySem.W.Frag) (g : List Str → List Str → Bool) : R2 := fun x y H Q => ∃ (a b : Addr) (ss ts : List Str), x = .ref a ∧ y = .ref b ∧ SqT K H a (ss.map V.str) ∧ SqT K H b (ts.map V.str) ∧ Q (.bl (g ss ts)) H
theorem str_at {its : List Value} {ss : List Str} (h : StrsAre its ss) : ∀ j (h1 : j < its.toArray.size), ∃ t, its.toArray[j] = .str (ss.getD j "") t := by
  induction h with
  | nil => intro j h1; simp at h1
  | cons x k h ih =>
    intro j h1
    cases j with
    | zero => exact ⟨_, rfl⟩
    | succ j => exact ih j (by simpa using h1)
theorem op_ltTS (hu : X.A.units < cLine) : OpR X (compareOp .Lt) (rTS X.K ltSS) := by
  rintro pins s σ H x y v u Q I rx ry ⟨a, b, ss, ts, rfl, rfl, ha, hb, q⟩
  cases rx
  cases ry
  obtain ⟨its, r1, p1, _⟩ := I.tuple ha
  obtain ⟨its2, r2, p2, _⟩ := I.tuple hb
  have e1 : its.toArray.size = ss.length := by rw [List.size_toArray, ← r1.length, List.length_map]
  have e2 : its2.toArray.size = ts.length := by rw [List.size_toArray, ← r2.length, List.length_map]
  have R := Ob.RcOp.tuples_lt (A := X.A) (s := s) (e := fun j => decide (ss.getD j "" = ts.getD j "")) (r := fun j => ltS (ss.getD j "") (ts.getD j "")) p1 p2 hu (fun j h1 h2 => by
    obtain ⟨t, et⟩ := str_at (Vals.strs r1) j h1
    obtain ⟨t', et'⟩ := str_at (Vals.strs r2) j h2
    rw [et, et']
    have z : (ss.getD j "" == ts.getD j "") = decide (ss.getD j "" = ts.getD j "") := by
      by_cases q : ss.getD j "" = ts.getD j ""
      · rw [decide_eq_true q]; exact beq_iff_eq.mpr q
      · rw [decide_eq_false q]; exact beq_eq_false_iff_ne.mpr q
    rw [← z]
    exact SeqAt.EqAt.str_str _ _ _ _) (fun j h1 h2 _ => by
    obtain ⟨t, et⟩ := str_at (Vals.strs r1) j h1
    obtain ⟨t', et'⟩ := str_at (Vals.strs r2) j h2
    rw [et, et']
    exact rc_lt_str _ _ _ _)
  rw [e1, e2, lex_ss (g := ltSS) (rr := ltS) rfl (fun _ _ => rfl) (fun _ _ => rfl) (fun _ _ _ _ => rfl) ss ts _ (by
    by_cases q : ss.length = ts.length
    · rw [if_pos q]; exact decide_eq_false (by omega)
    · rw [if_neg q]
      by_cases q2 : ss.length < ts.length
      · rw [if_pos q2]; exact decide_eq_true q2
      · rw [if_neg q2]; exact decide_eq_false q2) _ 0 (Nat.zero_add _), List.drop_zero, List.drop_zero] at R
  exact R X.prog X.w X.xe (EP X pins σ Q) ⟨.bl _, H, I, rfl, q⟩
theorem op_leTS (hu : X.A.units < cLine) : OpR X (compareOp .LtE) (rTS X.K leSS) := by
  rintro pins s σ H x y v u Q I rx ry ⟨a, b, ss, ts, rfl, rfl, ha, hb, q⟩
  cases rx
  cases ry
  obtain ⟨its, r1, p1, _⟩ := I.tuple ha
  obtain ⟨its2, r2, p2, _⟩ := I.tuple hb
  have e1 : its.toArray.size = ss.length := by rw [List.size_toArray, ← r1.length, List.length_map]
  have e2 : its2.toArray.size = ts.length := by rw [List.size_toArray, ← r2.length, List.length_map]
  have R := Ob.RcOp.tuples_le (A := X.A) (s := s) (e := fun j => decide (ss.getD j "" = ts.getD j "")) (r := fun j => !ltS (ts.getD j "") (ss.getD j "")) p1 p2 hu (fun j h1 h2 => by
    obtain ⟨t, et⟩ := str_at (Vals.strs r1) j h1
    obtain ⟨t', et'⟩ := str_at (Vals.strs r2) j h2
    rw [et, et']
    have z : (ss.getD j "" == ts.getD j "") = decide (ss.getD j "" = ts.getD j "") := by
      by_cases q : ss.getD j "" = ts.getD j ""
      · rw [decide_eq_true q]; exact beq_iff_eq.mpr q
      · rw [decide_eq_false q]; exact beq_eq_false_iff_ne.mpr q
    rw [← z]
    exact SeqAt.EqAt.str_str _ _ _ _) (fun j h1 h2 _ => by
    obtain ⟨t, et⟩ := str_at (Vals.strs r1) j h1
    obtain ⟨t', et'⟩ := str_at (Vals.strs r2) j h2
    rw [et, et']
    exact rc_le_str _ _ _ _)
  rw [e1, e2, lex_ss (g := leSS) (rr := fun a b => !ltS b a) (nn := true) (cn := true) (nc := false) rfl (fun _ _ => rfl) (fun _ _ => rfl) (fun _ _ _ _ => rfl) ss ts _ (by
    by_cases q : ss.length = ts.length
    · rw [if_pos q]; exact decide_eq_true (by omega)
    · rw [if_neg q]
      by_cases q2 : ss.length < ts.length
      · rw [if_pos q2]; exact decide_eq_true (by omega)
      · rw [if_neg q2]; exact decide_eq_false (by omega)) _ 0 (Nat.zero_add _), List.drop_zero, List.drop_zero] at R
  exact R X.prog X.w X.xe (EP X pins σ Q) ⟨.bl _, H, I, rfl, q⟩
end
end G9

/-! O2: sorted of tuples of texts. -/
namespace G9
open PySem PySem.Spec L2 PyProof.Rows
theorem ltS_irrefl (a : Str) : ltS a a = false := decide_eq_false (List.lt_irrefl _)
theorem ltS_trans {a b c : Str} (h : ltS a b = true) (k : ltS b c = true) : ltS a c = true := decide_eq_true (List.lt_trans (of_decide_eq_true h) (of_decide_eq_true k))
theorem ltS_tri {a b : Str} (h : ltS a b = false) (k : ltS b a = false) : a = b := by
  have h := of_decide_eq_false h
  have k := of_decide_eq_false k
  have e : a.cps.toList = b.cps.toList := List.le_antisymm (List.not_lt.mp k) (List.not_lt.mp h)
  cases a
  cases b
  simp only [Str.mk.injEq]
  exact Array.toList_inj.mp e
theorem ltSS_irrefl : ∀ a : List Str, ltSS a a = false
  | [] => rfl
  | a :: r => by show (if a = a then ltSS r r else _) = false; rw [if_pos rfl]; exact ltSS_irrefl r
theorem ltSS_tri : ∀ {a b : List Str}, ltSS a b = false → ltSS b a = false → a = b
  | [], [], _, _ => rfl
  | [], _ :: _, h, _ => by cases h
  | _ :: _, [], _, k => by cases k
  | a :: r, b :: t, h, k => by
    have h : (if a = b then ltSS r t else ltS a b) = false := h
    have k : (if b = a then ltSS t r else ltS b a) = false := k
    by_cases e : a = b
    · subst e
      rw [if_pos rfl] at h k
      rw [ltSS_tri h k]
    · rw [if_neg e] at h
      rw [if_neg (Ne.symm e)] at k
      exact absurd (ltS_tri h k) e
theorem ltSS_trans : ∀ {a b c : List Str}, ltSS a b = true → ltSS b c = true → ltSS a c = true
  | [], [], _, h, _ => by cases h
  | [], _ :: _, [], _, k => by cases k
  | [], _ :: _, _ :: _, _, _ => rfl
  | _ :: _, [], _, h, _ => by cases h
  | _ :: _, _ :: _, [], _, k => by cases k
  | a :: r, b :: t, c :: u, h, k => by
    have h : (if a = b then ltSS r t else ltS a b) = true := h
    have k : (if b = c then ltSS t u else ltS b c) = true := k
    show (if a = c then ltSS r u else ltS a c) = true
    by_cases e : a = b
    · subst e
      rw [if_pos rfl] at h
      by_cases e2 : a = c
      · rw [if_pos e2] at k ⊢
        exact ltSS_trans h k
      · rw [if_neg e2] at k ⊢
        exact k
    · rw [if_neg e] at h
      by_cases e2 : b = c
      · subst e2
        rw [if_neg e]
        exact h
      · rw [if_neg e2] at k
        have e3 : a ≠ c := fun z => by
          subst z
          have := ltS_trans h k
          rw [ltS_irrefl] at this
          cases this
        rw [if_neg e3]
        exact ltS_trans h k
theorem swo_ss {α : Type} (k : α → List Str) : SrtO.Swo fun v u => ltSS (k v) (k u) := by
  refine ⟨fun x y h => ?_, fun x y z h1 h2 => ?_⟩
  · cases e : ltSS (k y) (k x) with
    | false => rfl
    | true =>
      have := ltSS_trans h e
      rw [ltSS_irrefl] at this
      cases this
  · cases e : ltSS (k z) (k x) with
    | false => rfl
    | true =>
      -- not y < x, not z < y, z < x
      cases e1 : ltSS (k x) (k y) with
      | true =>
        have := ltSS_trans e e1
        rw [h2] at this
        cases this
      | false =>
        have := ltSS_tri e1 h1
        rw [this] at e
        rw [h2] at e
        cases e
end G9

/-! O3: sorted of tuples of texts: how two keys compare, what kind the keys are. -/
namespace G9
open PySem PySem.Spec L2 PyProof.Rows
def TsAt (h : Heap) (v : Value) (ss : List Str) : Prop := ∃ (a : Addr) (its : List Value), v = .ref a ∧ h.IsTuple a its.toArray ∧ StrsAre its ss
theorem TsAt.keeps {h h' : Heap} {v : Value} {ss : List Str} (x : TsAt h v ss) (k : ∀ b o, h.get? b = some o → o.cls = .type "tuple" → h'.get? b = some o) : TsAt h' v ss := by
  obtain ⟨a, its, rfl, ⟨o, ho, hc, n, hd⟩, i⟩ := x
  exact ⟨a, its, rfl, ⟨o, k _ _ ho hc, hc, n, hd⟩, i⟩
theorem eq_dec (x y : Str) : (x == y) = decide (x = y) := by
  by_cases q : x = y
  · rw [decide_eq_true q]; exact beq_iff_eq.mpr q
  · rw [decide_eq_false q]; exact beq_eq_false_iff_ne.mpr q
theorem lex_lt (ss ts : List Str) : Ob.lexAt (fun j => decide (ss.getD j "" = ts.getD j "")) (fun j => ltS (ss.getD j "") (ts.getD j "")) (decide (ss.length < ts.length)) 0 (min ss.length ts.length) = ltSS ss ts := by
  rw [lex_ss (g := ltSS) (rr := ltS) rfl (fun _ _ => rfl) (fun _ _ => rfl) (fun _ _ _ _ => rfl) ss ts _ (by
    by_cases q : ss.length = ts.length
    · rw [if_pos q]; exact decide_eq_false (by omega)
    · rw [if_neg q]
      by_cases q2 : ss.length < ts.length
      · rw [if_pos q2]; exact decide_eq_true q2
      · rw [if_neg q2]; exact decide_eq_false q2) _ 0 (Nat.zero_add _), List.drop_zero, List.drop_zero]
section
variable {prog : Program} {w : World} {A : Around} {E : Value → Shared → Prop} {s : Shared}
theorem rc_ltTS {v u : Value} {ss ts : List Str} (hu : A.units < cLine) (h1 : TsAt s.heap v ss) (h2 : TsAt s.heap u ts) : Ob.RcOp .Lt A s v u (ltSS ss ts) := by
  obtain ⟨a, its, rfl, p1, r1⟩ := h1
  obtain ⟨b, its2, rfl, p2, r2⟩ := h2
  have e1 : its.toArray.size = ss.length := by rw [List.size_toArray]; exact r1.length
  have e2 : its2.toArray.size = ts.length := by rw [List.size_toArray]; exact r2.length
  have R := Ob.RcOp.tuples_lt (A := A) (s := s) (e := fun j => decide (ss.getD j "" = ts.getD j "")) (r := fun j => ltS (ss.getD j "") (ts.getD j "")) p1 p2 hu (fun j h1 h2 => by
    obtain ⟨t, et⟩ := str_at r1 j h1
    obtain ⟨t', et'⟩ := str_at r2 j h2
    rw [et, et', ← eq_dec]
    exact SeqAt.EqAt.str_str _ _ _ _) (fun j h1 h2 _ => by
    obtain ⟨t, et⟩ := str_at r1 j h1
    obtain ⟨t', et'⟩ := str_at r2 j h2
    rw [et, et']
    exact rc_lt_str _ _ _ _)
  rw [e1, e2, lex_lt] at R
  exact R
theorem key_general {v u : Value} {ss ts : List Str} {Q : Bool → Shared → Prop} (hu : A.units < cLine) (h1 : TsAt s.heap v ss) (h2 : TsAt s.heap u ts) (q : Q (ltSS ss ts) s) : wpAny (model prog w) A (oneLt' false v u) Q E s := by
  rw [oneLt'_eq]
  simp only [Bool.false_eq_true, if_false]
  exact wpAny_bind (rc_ltTS hu h1 h2 prog w E _ (wpAny_truthy_bool q))
theorem key_oneType {v u : Value} {ss ts : List Str} {Q : Bool → Shared → Prop} (hu : A.units < cLine) (h1 : TsAt s.heap v ss) (h2 : TsAt s.heap u ts) (q : Q (ltSS ss ts) s) : wpAny (model prog w) A (oneLt' true v u) Q E s := by
  obtain ⟨a, its, rfl, p1, r1⟩ := h1
  obtain ⟨b, its2, rfl, p2, r2⟩ := h2
  have e1 : its.toArray.size = ss.length := by rw [List.size_toArray]; exact r1.length
  have e2 : its2.toArray.size = ts.length := by rw [List.size_toArray]; exact r2.length
  rw [oneLt'_eq]
  simp only [if_true]
  refine wpAny_bind (wpAny_cRoomFor hu ?_)
  obtain ⟨⟨cls, dd, data, sl⟩, ho, hc, n, hd⟩ := id p1
  obtain ⟨⟨cls2, dd2, data2, sl2⟩, ho2, hc2, n2, hd2⟩ := id p2
  simp only at hc hd hc2 hd2
  subst hc hd hc2 hd2
  refine wpAny_bind (wpAny_callSpecialIfBound?_slot (T := "tuple") ⟨_, ho, rfl⟩ F.slot_tuple_lt (call_meets F.slot_tuple_lt ⟨_, ho, rfl⟩ F.entry_tuple_lt (F.args_tuple_lt_2 _ _) (Ob.tuple_ltAt a b _ _ n n2 dd dd2 sl sl2 (fun j => decide (ss.getD j "" = ts.getD j "")) (fun j => ltS (ss.getD j "") (ts.getD j "")))
    ⟨ho, ho2, fun j h1 h2 => ?_, fun j h1 h2 _ => ?_, ?_⟩))
  · obtain ⟨t, et⟩ := str_at r1 j h1
    obtain ⟨t', et'⟩ := str_at r2 j h2
    rw [et, et', ← eq_dec]
    exact SeqAt.EqAt.str_str _ _ _ _
  · obtain ⟨t, et⟩ := str_at r1 j h1
    obtain ⟨t', et'⟩ := str_at r2 j h2
    rw [et, et']
    exact rc_lt_str _ _ _ _
  · rw [e1, e2, lex_lt]
    exact wpAny_truthy_bool q
theorem kat_ss {b fin : Bool} {Q : Bool → Shared → Prop} : ∀ {vs us : List Value} {ss ts : List Str} (i : Nat), StrsAre vs ss → StrsAre us ts → fin = decide (ss.length < ts.length) → Q (ltSS ss ts) s → PySem.W.KatLex prog w A b fin Q (vs.zip us) i s
  | _, _, _, _, i, .nil, .nil, e, q => by subst e; exact PySem.W.kat_nil q
  | _, _, _, _, i, .nil, .cons x k h, e, q => by
    have e : fin = true := by rw [e]; exact decide_eq_true (by simp)
    subst e; exact PySem.W.kat_nil q
  | _, _, _, _, i, .cons x k h, .nil, e, q => by
    have e : fin = false := by rw [e]; exact decide_eq_false (by simp)
    subst e; exact PySem.W.kat_nil q
  | _, _, _, _, i, .cons x k h, .cons y k' h', e, q => by
    have q : Q (if x = y then _ else ltS x y) s := q
    refine PySem.W.kat_cons (SeqAt.EqAt.str_str x k y k' prog w _ _ ?_)
    refine PySem.W.kat_go (fun e1 => ?_) (fun e1 => ?_)
    · have ex : x = y := eq_of_beq e1
      rw [if_pos ex] at q
      exact PySem.W.kat_yes (kat_ss (i + 1) h h' (by rw [e]; simp) q)
    · have ex : ¬ x = y := by simpa using e1
      rw [if_neg ex] at q
      exact PySem.W.kat_no (oneLt_any_str q)
theorem key_tuples {b : Bool} {v u : Value} {ss ts : List Str} {Q : Bool → Shared → Prop} (h1 : TsAt s.heap v ss) (h2 : TsAt s.heap u ts) (q : Q (ltSS ss ts) s) : wpAny (model prog w) A (keyLt' (tuples' b) v u) Q E s := by
  obtain ⟨a, its, rfl, ⟨o, ho, hc, n, hd⟩, r1⟩ := h1
  obtain ⟨b', its2, rfl, ⟨o2, ho2, hc2, n2, hd2⟩, r2⟩ := h2
  refine PySem.W.kat_lt ho hd ho2 hd2 (kat_ss 0 r1 r2 ?_ q)
  rw [List.size_toArray, List.size_toArray, r1.length, r2.length]
end
end G9

/-! O4: sorted of tuples of texts: the kind of the keys, the call. -/
namespace G9
open PySem PySem.Spec L2 PyProof.Rows
section
variable {M : Model} {A : Around} {E : Value → Shared → Prop} {s : Shared}
theorem first_one {v : Value} {ss : List Str} {Q : Option Value → Shared → Prop} (h : TsAt s.heap v ss) (q : ∀ f, f.isSome = !ss.isEmpty → (∀ u, f = some u → ∃ x t, u = .str x t) → Q f s) : wpAny M A (firstOfTuple' v) Q E s := by
  obtain ⟨a, its, rfl, ⟨o, ho, hc, n, hd⟩, r⟩ := h
  rw [PySem.W.kas_first_eq]
  refine wpAny_bind (PySem.W.Looks.here (show PySem.W.Looks M s.heap (typeOf (.ref a)) o.cls from (PySem.W.Looks.ld ho).andThen .now) ?_)
  rw [hc, if_neg (by first | decide | simp)]
  refine wpAny_bind (listItems_at ho hd (wpAny_pure ?_))
  refine q _ ?_ ?_
  · cases r with
    | nil => rfl
    | cons x k r => rfl
  · intro u hu
    cases r with
    | nil => cases hu
    | cons x k r => cases hu; exact ⟨_, _, rfl⟩
theorem first_all : ∀ {vs : List Value} {nss : List (List Str)} {Q : List (Option Value) → Shared → Prop}, Paired (TsAt s.heap) vs nss →
    (∀ fs : List (Option Value), fs.map (·.isSome) = nss.map (fun ss => !ss.isEmpty) → (∀ u, some u ∈ fs → ∃ x t, u = Value.str x t) → Q fs s) → wpAny M A (vs.mapM firstOfTuple') Q E s
  | _, _, Q, .nil, q => by rw [List.mapM_nil]; exact wpAny_pure (q [] rfl fun _ h => nomatch h)
  | _, _, Q, .cons h t, q => by
    rw [List.mapM_cons]
    refine wpAny_bind (first_one h fun f h1 h2 => ?_)
    refine wpAny_bind (first_all (Q := fun bs s' => wpAny M A (pure (f :: bs)) Q E s') t fun fs h3 h4 => wpAny_pure (q _ ?_ ?_))
    · rw [List.map_cons, List.map_cons, h1, h3]
    · intro u hu
      rcases List.mem_cons.mp hu with e | hu
      · exact h2 u e.symm
      · exact h4 u hu
def kdSS (nss : List (List Str)) : SortKind := if nss.all (fun ss => !ss.isEmpty) = true then tuples' true else if (nss.head?.any fun ss => !ss.isEmpty) = true then general' else oneType'
theorem kat_of : ∀ {vs : List Value} {nss : List (List Str)}, Paired (TsAt s.heap) vs nss → nss.all (fun ss => !ss.isEmpty) = true → ∃ fs : List Value, PySem.W.KatTups s.heap vs fs ∧ fs.length = vs.length ∧ ∀ f ∈ fs, ∃ x t, f = Value.str x t
  | _, _, .nil, _ => ⟨[], .nil, rfl, fun _ h => nomatch h⟩
  | _, _, .cons h t, e => by
    rw [List.all_cons, Bool.and_eq_true] at e
    obtain ⟨fs, h1, h2, h3⟩ := kat_of t e.2
    obtain ⟨a, its, rfl, ⟨o, ho, hc, n, hd⟩, r⟩ := h
    cases r with
    | nil => exact absurd e.1 (by simp)
    | cons x k r =>
      exact ⟨_ :: fs, .cons ho hc hd (by rfl) h1, by rw [List.length_cons, List.length_cons, h2], fun f hf => (List.mem_cons.mp hf).elim (fun z => ⟨x, k, z⟩) (h3 f)⟩
theorem kind_ss {vs : List Value} {nss : List (List Str)} {Q : SortKind → Shared → Prop} (h0 : 0 < vs.length) (h : Paired (TsAt s.heap) vs nss) (q : Q (kdSS nss) s) : wpAny M A (keyKind' vs.toArray) Q E s := by
  unfold kdSS at q
  by_cases hall : nss.all (fun ss => !ss.isEmpty) = true
  · rw [if_pos hall] at q
    obtain ⟨fs, h1, h2, h3⟩ := kat_of h hall
    refine PySem.W.kat_kind (T := .type "str") h1 (by omega) (fun f hm => ?_) (by rfl) ?_
    · obtain ⟨x, t, rfl⟩ := h3 f hm
      exact PySem.W.Looks.now
    · have e : (Value.type "str" != Value.type "tuple") = true := by first | decide +kernel | rfl | decide
      rw [e]
      exact q
  · rw [if_neg hall] at q
    rw [PyProof.Rows.kat_kind_eq, List.mapM_toArray, map_eq_pure_bind]
    refine wpAny_bind (wpAny_bind (first_all h fun fs h3 h4 => wpAny_pure ?_))
    have e1 : ¬ (fs.toArray.all fun x => x.isSome) = true := by
      intro z
      apply hall
      rw [List.all_toArray] at z
      have z2 : (fs.map (fun x : Option Value => x.isSome)).all id = true := by rw [List.all_map]; exact z
      rw [h3, List.all_map] at z2
      exact z2
    rw [if_neg e1]
    cases h with
    | nil => cases h0
    | @cons v ss vs nss hv ht =>
      cases fs with
      | nil => cases h3
      | cons f fs =>
        rw [List.map_cons, List.map_cons] at h3
        injection h3 with h5 h6
        have e2 : (((f :: fs).toArray[0]?.bind id).isSome) = !ss.isEmpty := by
          rw [← h5]
          rfl
        rw [e2]
        have q : Q (if (!ss.isEmpty) = true then general' else oneType') s := q
        by_cases c : (!ss.isEmpty) = true
        · rw [if_pos c] at q ⊢
          exact wpAny_pure q
        · rw [if_neg c] at q ⊢
          have ty : ∀ u ∈ v :: vs, PySem.W.Looks M s.heap (typeOf u) (Value.type "tuple") := by
            have go : ∀ {vs : List Value} {nss : List (List Str)}, Paired (TsAt s.heap) vs nss → ∀ u ∈ vs, PySem.W.Looks M s.heap (typeOf u) (Value.type "tuple") := by
              intro vs nss p
              induction p with
              | nil => exact fun _ h => nomatch h
              | cons h t ih =>
                intro u hu
                rcases List.mem_cons.mp hu with rfl | hu
                · obtain ⟨a, its, rfl, ⟨o, ho, hc, n, hd⟩, r⟩ := h
                  have l : PySem.W.Looks M s.heap (typeOf (.ref a)) o.cls := (PySem.W.Looks.ld ho).andThen .now
                  rw [hc] at l
                  exact l
                · exact ih u hu
            exact go (.cons hv ht)
          refine wpAny_bind ?_
          rw [oneTypeOnly'_eq, List.mapM_toArray, map_eq_pure_bind]
          refine wpAny_bind (wpAny_bind (PySem.W.kas_mapM (r := Value.type "tuple") _ (fun u hu Q' hq => (ty u hu).here hq) (wpAny_pure ?_)))
          have hall2 : ((List.map (fun _ => Value.type "tuple") (v :: vs)).toArray.all fun x => x == Value.type "tuple") = true := by
            simp only [List.all_toArray, List.all_map, List.all_eq_true]
            intro _ _
            rfl
          have hz : (List.map (fun _ => Value.type "tuple") (v :: vs)).toArray[0]? = some (Value.type "tuple") := by simp
          rw [hz]
          simp only [hall2, if_true]
          exact wpAny_pure (wpAny_pure q)
end
section
variable {prog : Program} {w : World} {A : Around} {E : Value → Shared → Prop} {s : Shared}
theorem cmp_ss {vs : List Value} {nss : List (List Str)} {k : Value → List Str} (hu : A.units < cLine) (hp : ∀ v ∈ vs, TsAt s.heap v (k v)) :
    SrtO.Cmp prog w A s (kdSS nss) (fun p => p.1 ∈ vs) (SrtO.lt2 fun v u => ltSS (k v) (k u)) := by
  intro p q hm hm'
  show wpAny (model prog w) A (keyLt' (kdSS nss) p.1 q.1) (fun r s' => s' = s ∧ r = ltSS (k p.1) (k q.1)) (fun _ _ => False) s
  unfold kdSS
  split
  · exact key_tuples (hp _ hm) (hp _ hm') ⟨rfl, rfl⟩
  · split
    · exact key_general (Q := fun r s' => s' = s ∧ r = ltSS (k p.1) (k q.1)) hu (hp _ hm) (hp _ hm') ⟨rfl, rfl⟩
    · exact key_oneType (Q := fun r s' => s' = s ∧ r = ltSS (k p.1) (k q.1)) hu (hp _ hm) (hp _ hm') ⟨rfl, rfl⟩
theorem paired_map {h : Heap} {k : Value → List Str} : ∀ {vs : List Value}, (∀ v ∈ vs, TsAt h v (k v)) → Paired (TsAt h) vs (vs.map k)
  | [], _ => .nil
  | v :: vs, hp => .cons (hp v List.mem_cons_self) (paired_map fun u hu => hp u (List.mem_cons_of_mem _ hu))
theorem sortable_ss {a : Addr} {vs : List Value} {k : Value → List Str} (hu : A.units < cLine) (h0 : 0 < vs.length) (hp : ∀ v ∈ vs, TsAt s.heap v (k v)) (ha : ∀ o, s.heap.get? a = some o → o.cls ≠ .type "tuple") : SrtO.SortableO prog w A s a vs fun v u => ltSS (k v) (k u) := by
  intro h' keep
  have hp' : ∀ v ∈ vs, TsAt h' v (k v) := fun v hm => (hp v hm).keeps fun b o e c => keep b o (fun z => by subst z; exact ha o e c) e
  exact ⟨kdSS (vs.map k), fun Q E hq => kind_ss (s := { s with heap := h' }) h0 (paired_map hp') hq, cmp_ss (s := { s with heap := h' }) hu hp'⟩
end
end G9

/-! O5: sorted(xs), xs a list of tuples of texts. -/
namespace G9
open PySem PySem.Spec L2 PyProof.Rows
/-- at v: a tuple of these texts -/
def TuAt (K : PySem.W.Frag) (H : Hp) (x : V) (ss : List Str) : Prop := ∃ t, x = V.ref t ∧ SqT K H t (ss.map V.str)
theorem TsAt.inj {h : Heap} {v : Value} {ss ts : List Str} (x : TsAt h v ss) (y : TsAt h v ts) : ss = ts := by
  obtain ⟨a, its, rfl, ⟨o, ho, hc, n, hd⟩, i⟩ := x
  obtain ⟨b, its2, e, ⟨o2, ho2, hc2, n2, hd2⟩, j⟩ := y
  cases e
  rw [ho] at ho2; cases ho2
  rw [hd] at hd2; cases hd2
  have go : ∀ {us : List Value} {ss ts : List Str}, StrsAre us ss → StrsAre us ts → ss = ts := by
    intro us ss ts p q
    induction p generalizing ts with
    | nil => cases q; rfl
    | cons x k p ih => cases q with | cons y k' q => rw [ih q]
  exact go i j
def rSortedSS (K : PySem.W.Frag) : List V → Hp → VK → Prop := fun vs H Q => ∃ (a : Addr) (xs : List V) (nss : List (List Str)), vs = [V.ref a] ∧ SqL K H a xs ∧ Paired (TuAt K H) xs nss ∧
  ∀ ys mss p, Paired (TuAt K H) ys mss → mss.Perm nss → mss.Pairwise (fun a b => ltSS b a = false) → H p = none → Q (.ref p) (upd H p (.lst ys))
theorem paired_mem {α β : Type} {R : α → β → Prop} : ∀ {xs : List α} {ys : List β}, Paired R xs ys → ∀ x ∈ xs, ∃ y, R x y
  | _, _, .cons r t, x, hx => by
    rcases List.mem_cons.mp hx with rfl | hx
    · exact ⟨_, r⟩
    · exact paired_mem t x hx
section
variable {X : Cx}
theorem cr_sortedSS (hu : X.A.units + 2 < cLine) : CallR X (.builtin "sorted") (rSortedSS X.K) := by
  intro pins s σ H vs us Q I r h
  obtain ⟨a, xs, nss, rfl, hs, hx, q⟩ := h
  obtain ⟨its, rv, hl, hz⟩ := I.list hs
  obtain ⟨u, rfl, ru⟩ := vals1 r
  obtain rfl : u = Value.ref a := ru
  have tu : ∀ {t : Addr} {ss : List Str}, SqT X.K H t (ss.map V.str) → TsAt s.heap (.ref t) ss := fun ht => by
    obtain ⟨its2, r2, p2, _⟩ := I.tuple ht
    exact ⟨_, its2, rfl, p2, Vals.strs r2⟩
  obtain ⟨e1, e2⟩ := refs_back rv fun x m => by
    obtain ⟨ss, t, e, _⟩ := paired_mem hx x m
    exact ⟨t, e⟩
  classical
  let k : Value → List Str := fun v => if h : ∃ ss, TsAt s.heap v ss then h.choose else []
  have hk : ∀ {v : Value} {ss : List Str}, TsAt s.heap v ss → k v = ss := fun {v ss} h => by
    have z : ∃ ss, TsAt s.heap v ss := ⟨ss, h⟩
    show (if h : ∃ ss, TsAt s.heap v ss then h.choose else []) = ss
    rw [dif_pos z]
    exact z.choose_spec.inj h
  have all : ∀ {xs : List V} {nss : List (List Str)} {its : List Value}, Paired (TuAt X.K H) xs nss → Vals xs its → nss = its.map k ∧ ∀ v ∈ its, ∃ t, v = .ref t ∧ SqT X.K H t ((k v).map V.str) := by
    intro xs nss its p
    induction p generalizing its with
    | nil => intro r; cases r; exact ⟨rfl, fun _ h => nomatch h⟩
    | cons h t ih =>
      intro r
      cases r with
      | cons r0 r =>
        obtain ⟨i1, i2⟩ := ih r
        obtain ⟨t, rfl, ht⟩ := h
        cases r0
        have e := hk (tu ht)
        refine ⟨by rw [List.map_cons, e, i1], fun v hv => ?_⟩
        rcases List.mem_cons.mp hv with rfl | hv
        · exact ⟨t, rfl, by rw [e]; exact ht⟩
        · exact i2 v hv
  obtain ⟨en, hv⟩ := all hx rv
  have hp : ∀ v ∈ its, TsAt s.heap v (k v) := fun v hm => by
    obtain ⟨t, rfl, ht⟩ := hv v hm
    exact tu ht
  refine SrtO.sorted_ord (swo_ss k) hl.isList (by rw [← rv.length]; exact hz) (fun h2 h₁ b ha kk => ?_) fun out h1 h2 => ?_
  · refine sortable_ss (s := { s with heap := h₁ }) (k := k) (by show X.A.units + 1 + 1 < cLine; omega) (by omega) (fun v hm => (hp v hm).keeps fun b o e _ => (kk b o e).2) fun o e => ?_
    have e' : some o = some (seqObj "list" its.toArray 0) := e.symm.trans ha
    cases e'
    intro c
    exact absurd (Value.type.inj c) (by decide)
  · have h3 : ∀ u ∈ out, ∃ a, u = Value.ref a := fun u hu => e2 u (h2.perm.mem_iff.mp hu)
    obtain ⟨n, hn⟩ := sortedAll_at s.heap its out.toArray
    have pr : ∀ {out : List Value}, (∀ u ∈ out, u ∈ its) → Paired (TuAt X.K H) (out.map backV) (out.map k) := by
      intro out
      induction out with
      | nil => exact fun _ => .nil
      | cons v out ih =>
        intro m
        obtain ⟨t, e, ht⟩ := hv v (m v List.mem_cons_self)
        refine .cons ⟨t, by rw [e]; rfl, ht⟩ (ih fun u hu => m u (List.mem_cons_of_mem _ hu))
    refine ⟨.ref _, upd H _ (.lst (out.map backV)), I.laid (t' := s.toks) (fun b o e => sortedAll_old e) (Nat.le_succ _) ⟨?_, out, n, vals_back h3, hn⟩, rfl, q _ _ _ (pr fun u hu => h2.perm.mem_iff.mp hu) (by rw [en]; exact h2.perm.map k) (List.pairwise_map.mpr h1) (I.hok.fresh (Nat.le_succ _))⟩
    rw [List.length_map, h2.perm.length_eq, ← rv.length]
    exact hz
end
end G9

/-! P1: rules that the hand layer lacks: tuple * int (any), str * int. -/
namespace G9
open PySem PySem.Spec L2 PyProof.Rows
open AutoSeq1 (wpAny_loadPart')
theorem tuple_mulS (l : Addr) (items : Array Value) (n : Nat) (dd : Option Addr) (sl : Array (Option Value)) (x : Int) (u : Tok) (c0 : (decide (x < -(2 ^ 63)) || decide (x ≥ 2 ^ 63)) = false) (c1 : (items.isEmpty || x == 1) = true) :
    Meets (Builtin.«tuple.__mul__» ⟨[.ref l, .int x u], []⟩) (fun _ R s => s.heap.get? l = some { cls := .type "tuple", dict := dd, data := .seq items n, slots := sl } ∧ R (.ok (.ret (Value.ref l))) s) :=
  .of_wp fun prog w A R s h => by
    obtain ⟨hp, g, d, tk, os⟩ := s
    obtain ⟨hl, h⟩ := h
    have f1 := AutoSeq1.idx_int
    wp_walk using wpAny_loadPart' hl
    refine wpAny_ite_false (decide_eq_false (by rw [c0]; exact Bool.false_ne_true)) ?_
    wp_walk using wpAny_loadPart' hl
    exact ⟨_, rfl, h⟩
theorem tuple_mulZ (l : Addr) (items : Array Value) (n : Nat) (dd : Option Addr) (sl : Array (Option Value)) (x : Int) (u : Tok) (c0 : (decide (x < -(2 ^ 63)) || decide (x ≥ 2 ^ 63)) = false) (c1 : (items.isEmpty || x == 1) = false) (c2 : (decide (x ≤ 0) || items.isEmpty) = true) :
    Meets (Builtin.«tuple.__mul__» ⟨[.ref l, .int x u], []⟩) (fun _ R s => s.heap.get? l = some { cls := .type "tuple", dict := dd, data := .seq items n, slots := sl } ∧
      R (.ok (.ret (Value.ref s.heap.objs.size))) { s with heap := s.heap.push { cls := Value.type "tuple", data := Data.seq #[] }, toks := s.toks }) :=
  .of_wp fun prog w A R s h => by
    obtain ⟨hp, g, d, tk, os⟩ := s
    obtain ⟨hl, h⟩ := h
    have f1 := AutoSeq1.idx_int
    wp_walk using wpAny_loadPart' hl
    refine wpAny_ite_false (decide_eq_false (by rw [c0]; exact Bool.false_ne_true)) ?_
    wp_walk using wpAny_loadPart' hl

    repeat (first
      | (refine wpAny_ite_false (decide_eq_false (by rw [c1]; exact Bool.false_ne_true)) ?_; wp_walk using wpAny_loadPart' hl)
      | (refine wpAny_ite_true (decide_eq_true c2) ?_; wp_walk using wpAny_loadPart' hl)
      | (refine wpAny_ite_false (decide_eq_false (Nat.not_lt.mpr (Nat.zero_le _))) ?_; wp_walk using wpAny_loadPart' hl))
    exact ⟨_, rfl, h⟩
/-- t * k -/
def rRepA (K : PySem.W.Frag) : R2 := fun x y H Q => ∃ l k xs, x = .ref l ∧ y = .int k ∧ SqT K H l xs ∧ -(2 ^ 63) ≤ k ∧ k < 2 ^ 63 ∧ xs.length * k.toNat ≤ sizeLine ∧
  ((xs = [] ∨ k = 1) → Q (.ref l) H) ∧ (xs ≠ [] → k ≠ 1 → ∀ p, H p = none → Q (.ref p) (upd H p (.tup (List.replicate k.toNat xs).flatten)))
section
variable {X : Cx}
theorem op_repA : OpR X (binaryOp .Mult) (rRepA X.K) := by
  intro pins s σ H x y v u Q I rx ry h
  obtain ⟨l, k, xs, rfl, rfl, hT, h1, h2, hz, q1, q2⟩ := h
  cases rx
  obtain ⟨t, rfl⟩ := ry
  obtain ⟨its, r, ⟨⟨cls, dd, data, sl⟩, ho, hc, n, hd⟩, hs⟩ := I.tuple hT
  simp only at hc hd
  subst hc hd
  have hle : its.length = xs.length := r.length.symm
  have hsz0 : its.toArray.size = xs.length := by rw [List.size_toArray, hle]
  have hS : sizeLine = 16777216 := sizeLine_eq
  have c0 : (decide (k < -(2 ^ 63)) || decide (k ≥ 2 ^ 63)) = false := by
    rw [decide_eq_false (by omega), decide_eq_false (by omega)] <;> rfl
  have road : ∀ {R : Value → Shared → Prop}, (Meets (Builtin.«tuple.__mul__» ⟨[.ref l, .int k t], []⟩) fun _ R s => s.heap.get? l = some { cls := .type "tuple", dict := dd, data := .seq its.toArray n, slots := sl } ∧ R (.ok (.ret (Value.ref l))) s) → True := fun _ => trivial
  by_cases hc1 : xs = [] ∨ k = 1
  · have c1 : (its.toArray.isEmpty || k == 1) = true := by
      rcases hc1 with e | e
      · have : its = [] := List.eq_nil_of_length_eq_zero (by rw [hle, e] <;> rfl)
        rw [this]; rfl
      · rw [e]; simp
    exact wpAny_binaryOp_repeat_ref (T := "tuple") (U := "int") (by decide) ⟨_, ho, rfl⟩ (fun s' => typeIs_int s' k t) noFill_tuple_mul F.fills_int_mul F.slot_int_rmul repeat_tuple F.slot_int_index.lookup
      (call_meets F.slot_int_rmul (typeIs_int s k t) F.entry_int_rmul (F.args_int_rmul_2 _ _) (int_rmul_tuple k t l its.toArray n dd sl)
        ⟨ho, rfl, ⟨_, ho, rfl⟩, call_meets F.slot_tuple_mul ⟨_, ho, rfl⟩ F.entry_tuple_mul (F.args_tuple_mul_2 _ _) (tuple_mulS l its.toArray n dd sl k t c0 c1) ⟨ho, ⟨.ref l, H, I, rfl, q1 hc1⟩⟩⟩)
  · have hne : xs ≠ [] := fun e => hc1 (.inl e)
    have hk1 : k ≠ 1 := fun e => hc1 (.inr e)
    have hi : its.toArray.isEmpty = false := by
      cases its with
      | nil => exact absurd (List.eq_nil_of_length_eq_zero hle.symm) hne
      | cons a b => rfl
    have c1 : (its.toArray.isEmpty || k == 1) = false := by
      rw [hi, Bool.false_or]
      exact beq_eq_false_iff_ne.mpr hk1
    by_cases hk : k ≤ 0
    · have c2 : (decide (k ≤ 0) || its.toArray.isEmpty) = true := by rw [decide_eq_true hk] <;> rfl
      refine wpAny_binaryOp_repeat_ref (T := "tuple") (U := "int") (by decide) ⟨_, ho, rfl⟩ (fun s' => typeIs_int s' k t) noFill_tuple_mul F.fills_int_mul F.slot_int_rmul repeat_tuple F.slot_int_index.lookup
        (call_meets F.slot_int_rmul (typeIs_int s k t) F.entry_int_rmul (F.args_int_rmul_2 _ _) (int_rmul_tuple k t l its.toArray n dd sl)
          ⟨ho, rfl, ⟨_, ho, rfl⟩, call_meets F.slot_tuple_mul ⟨_, ho, rfl⟩ F.entry_tuple_mul (F.args_tuple_mul_2 _ _) (tuple_mulZ l its.toArray n dd sl k t c0 c1 c2) ⟨ho, ?_⟩⟩)
      have e0 : k.toNat = 0 := by omega
      have q := q2 hne hk1 s.heap.objs.size (I.hok.fresh (Nat.le_refl _))
      rw [e0] at q
      refine ⟨.ref s.heap.objs.size, _, I.laid (t' := s.toks) (o := .tup []) (fun b ob q => Heap.get?_push_of_some _ q) (Nat.le_refl _) ?_, rfl, q⟩
      exact ⟨Nat.zero_le _, [], .nil, IsTup.new _ _⟩
    · have c2 : (decide (k ≤ 0) || its.toArray.isEmpty) = false := by
        rw [hi, Bool.or_false]
        exact decide_eq_false hk
      have ez : (((its.toArray.size * k.toNat : Nat)) : Int) = ((its.toArray.size : Nat) : Int) * k := by
        rw [Int.natCast_mul, Int.toNat_of_nonneg (by omega)]
      have hm : ((its.toArray.size : Nat) : Int) * k ≤ 16777216 := by
        rw [← ez, hsz0]
        omega
      have flen : (List.replicate k.toNat its).flatten.length ≤ sizeLine := by
        rw [PyProof.Rows.lm_len_rep_flat, hle, Nat.mul_comm]
        exact hz
      have c4 : Builtin.Tuple.tupleTooMany (((its.toArray.size : Nat) : Int) * k) = false := by
        unfold Builtin.Tuple.tupleTooMany
        rw [sizeLine_eq]
        exact decide_eq_false (by omega)
      refine wpAny_binaryOp_repeat_ref (T := "tuple") (U := "int") (by decide) ⟨_, ho, rfl⟩ (fun s' => typeIs_int s' k t) noFill_tuple_mul F.fills_int_mul F.slot_int_rmul repeat_tuple F.slot_int_index.lookup
        (call_meets F.slot_int_rmul (typeIs_int s k t) F.entry_int_rmul (F.args_int_rmul_2 _ _) (int_rmul_tuple k t l its.toArray n dd sl)
          ⟨ho, rfl, ⟨_, ho, rfl⟩, call_meets F.slot_tuple_mul ⟨_, ho, rfl⟩ F.entry_tuple_mul (F.args_tuple_mul_2 _ _) (tuple_mulW l its.toArray n dd sl k t c0 c1 c2 (by omega) c4 (by rw [size_rep, List.size_toArray]; exact flen)) ⟨ho, ?_⟩⟩)
      rw [size_rep]
      refine ⟨.ref s.heap.objs.size, _, I.laid (t' := s.toks) (o := .tup (List.replicate k.toNat xs).flatten) (fun b ob q => Heap.get?_push_of_some _ q) (Nat.le_refl _) ?_, rfl, q2 hne hk1 _ (I.hok.fresh (Nat.le_refl _))⟩
      exact ⟨by rw [PyProof.Rows.lm_len_rep_flat, Nat.mul_comm]; exact hz, _, r.rep k.toNat, IsTup.new _ _⟩
/-- s * k -/
def rRepS : R2 := fun x y H Q => ∃ z k, x = .str z ∧ y = .int k ∧ MulOk z k ∧ Q (.str (Txt.mul z k)) H
theorem op_repS : OpR X (binaryOp .Mult) rRepS := by
  intro pins s σ H x y v u Q I rx ry h
  obtain ⟨z, k, rfl, rfl, hm, q⟩ := h
  obtain ⟨t, rfl⟩ := rx
  obtain ⟨t', rfl⟩ := ry
  exact SB.mul hm fun t2 k2 => ⟨.str _, H, I.tok _, ⟨_, rfl⟩, q⟩
end
end G9

/-! G1: defs whose promise may use that no repr is under way (FnG). -/
namespace G9
open PySem PySem.Spec L2 PyProof.Rows
/-- room for k calls, and nothing is being shown -/
structure RmG (k : Nat) (A : Around) : Prop where
  rm : Room k A
  gd : A.guards = some []
theorem RmG.mono {j k : Nat} {A : Around} (r : RmG k A) (h : j ≤ k) : RmG j A := ⟨r.rm.mono h, r.gd⟩
/-- where a call stands, and with what -/
structure At (P : Program) (w : World) (K : PySem.W.Frag) (mg : Str → Option Value) (base : Heap) (k : Nat) (A : Around) (outer : List Env) (s : Shared) (H : Hp) : Prop where
  rm : RmG k A
  e0 : Env0 P w K mg base A outer s H
structure FnG (P : Program) (w : World) (K : PySem.W.Frag) (mg : Str → Option Value) (base : Heap) (CX : CXT) (k : Nat) (f : Addr) (fd : FuncData) (ps : List Str) (sp : Sp) : Prop where
  len : ∀ {vs H Q E}, sp vs H Q E → vs.length = ps.length
  run : ∀ {A outer s H args us vs Q E}, At P w K mg base k A outer s H → BindsTo s fd args (ps.zip us) → Vals vs us → sp vs H Q E → codeAny (model P w) A (.call (.ref f) args) (CR CX outer P w H s Q E) s
theorem FnG.mono {P : Program} {w : World} {K : PySem.W.Frag} {mg : Str → Option Value} {base : Heap} {CX : CXT} {j k : Nat} {f : Addr} {fd : FuncData} {ps : List Str} {sp : Sp} (F : FnG P w K mg base CX j f fd ps sp) (h : j ≤ k) : FnG P w K mg base CX k f fd ps sp :=
  ⟨F.len, fun a b r q => F.run ⟨a.rm.mono h, a.e0⟩ b r q⟩
theorem FnG.imp {P : Program} {w : World} {K : PySem.W.Frag} {mg : Str → Option Value} {base : Heap} {CX : CXT} {k : Nat} {f : Addr} {fd : FuncData} {ps : List Str} {sp sp' : Sp} (F : FnG P w K mg base CX k f fd ps sp)
    (h : ∀ {vs H Q E}, sp' vs H Q E → sp vs H Q E) : FnG P w K mg base CX k f fd ps sp' := ⟨fun q => F.len (h q), fun a b r q => F.run a b r (h q)⟩
section
variable {X : Cx} {CX : CXT} {k : Nat} {f : Addr} {fd : FuncData} {ps ks : List Str} {sp : Sp} {E : XK}
theorem atG {pins : List (Addr × Obj)} {σ : L2.St} {H : Hp} {s : Shared} (I : Inv X pins σ H s) (hr : RmG k X.A) : At X.prog X.w X.K X.mg X.base k X.A X.stack s H := ⟨hr, I.env0⟩
/-- behind the callee: its value, or its exception as this body takes it -/
theorem back {pins : List (Addr × Obj)} {σ : L2.St} {H : Hp} {s s' : Shared} {Q : VK} {r : Result} (I : Inv X pins σ H s) (hx : Passes CX X E) (h : CR CX X.stack X.prog X.w H s Q E r s') :
    match r with
    | .ok (.ret u) => EP X pins σ Q u s'
    | .ok _ => False
    | .error e => X.xe e s' := by
  rcases r with e | fl
  · exact hx pins σ H s e s' I h
  · cases fl <;> first | exact h.elim | exact I.after h
/-- the def at f runs on bound arguments -/
theorem runG {pins : List (Addr × Obj)} {σ : L2.St} {H : Hp} {s : Shared} {Q : VK} {us us' : List Value} {kw : List (Str × Value)} {vs : List V} (F : FnG X.prog X.w X.K X.mg X.base CX k f fd ps sp) (hr : RmG k X.A) (hx : Passes CX X E) (I : Inv X pins σ H s)
    (hb : BindsTo s fd ⟨us, kw⟩ (ps.zip us')) (r : Vals vs us') (h : sp vs H Q E) : wpAny (model X.prog X.w) X.A (call (.ref f) us kw) (EP X pins σ Q) X.xe s := by
  refine wpAny_call (codeAny_mono (F.run (atG I hr) hb r h) fun r s' hq => ?_)
  have q := back I hx hq
  rcases r with e | fl
  · exact q
  · cases fl <;> first | exact q.elim | exact q
variable {x : Str} {p pos kpos : Pos} {e : Expr} {es : List Expr} {kws : List Keyword} {t tk : TA}
/-- f(..) by place -/
theorem pe_callG (F : FnG X.prog X.w X.K X.mg X.base CX k f fd ps sp) (hr : RmG k X.A) (hg : Gl X x) (hm : X.mg x = some (.ref f)) (hk : PySem.W.keepIn X.K (.ref f) = true) (hb : Binds X.K fd ps []) (hx : Passes CX X E)
    (hdb : (x == ("__debug__" : Str)) = false) : (PE X (.Call (.Name x p) [] [] pos) (tCall sp [] E tNil)) ∧
    ∀ {e es t}, PA X (e :: es) t → starEach (e :: es) X.env = (false, eval e X.env) :: starEach es X.env → (backTo pos (starEach es X.env)).any (·.1) = false → PE X (.Call (.Name x p) (e :: es) [] pos) (tCall sp [] E t) := by
  have go : ∀ {pins σ Q} {s' : Shared} {us : List Value} {vs : List V} {H' : Hp}, Inv X pins σ H' s' → Vals vs us → sp (vs ++ []) H' Q E → wpAny (model X.prog X.w) X.A (call (.ref f) us) (EP X pins σ Q) X.xe s' := fun {pins σ Q s' us vs H'} I' r q => by
    rw [List.append_nil] at q
    have b := hb s' us I'.kIn (by rw [List.append_nil, ← r.length]; exact F.len q)
    rw [List.append_nil] at b
    exact runG F hr hx I' b r q
  constructor
  · refine ⟨fun pins s σ H Q I h => wpAny_Call_Name_kw (ld_glob I hg hm (PySem.W.callWith_K0 I.kIn hk ?_) hdb)⟩
    exact go I (vs := []) .nil h
  · intro e es t ha h1 h2
    refine ⟨fun pins s σ H Q I h => wpAny_Call_Name_kw (ld_glob I hg hm ?_ hdb)⟩
    exact PySem.W.callWith_K (h₀ := X.base) I.ok.mod.kin hk (thn (ha.run pos pins s σ H _ I h) fun us s1 ⟨vs, H1, I1, r1, q⟩ => ⟨I1.kIn, go I1 r1 q⟩) h1 h2
/-- f(k = e, ..): every argument by its name -/
theorem pe_callGK {g : List Value → List Value → List Value} {gV : List V → List V → List V} (F : FnG X.prog X.w X.K X.mg X.base CX k f fd ps sp) (hr : RmG k X.A) (hg : Gl X x) (hm : X.mg x = some (.ref f)) (hk : PySem.W.keepIn X.K (.ref f) = true) (hb : KBinds X.K fd ps ks g gV) (hx : Passes CX X E)
    (hkw : PK X kws tk) (hall : (backToKw pos (keywordEach kws X.env)).all (·.1.isSome) = true) (hks : (backToKw pos (keywordEach kws X.env)).filterMap (·.1) = ks)
    (hdb : (x == ("__debug__" : Str)) = false) :
    ((backToKw pos (keywordEach kws X.env)).any (·.1.isNone) = false → PE X (.Call (.Name x p) [] kws pos) (tCallK sp gV E tNil tk)) ∧
    ∀ {e es t}, PA X (e :: es) t → starEach (e :: es) X.env = (false, eval e X.env) :: starEach es X.env → ((backTo pos (starEach (e :: es) X.env)).any (·.1) || (backToKw pos (keywordEach kws X.env)).any (·.1.isNone)) = false →
      PE X (.Call (.Name x p) (e :: es) kws pos) (tCallK sp gV E t tk) := by
  have go : ∀ {pins σ Q} {s' : Shared} {us ws : List Value} {vs zs : List V} {H' : Hp}, Inv X pins σ H' s' → Vals vs us → Vals zs ws → sp (gV vs zs) H' Q E → wpAny (model X.prog X.w) X.A (call (.ref f) us (ks.zip ws)) (EP X pins σ Q) X.xe s' := fun {pins σ Q s' us ws vs zs H'} I' r rz q =>
    runG F hr hx I' (hb.to s' us ws I'.kIn (by rw [← (hb.rel r rz).length]; exact F.len q)) (hb.rel r rz) q
  constructor
  · intro h1
    refine ⟨fun pins s σ H Q I h => wpAny_Call_Name_kw (ld_glob I hg hm ?_ hdb)⟩
    refine PySem.W.callWith_KW0 (h₀ := X.base) I.ok.mod.kin hk hall (thn (hkw.run pos pins s σ H _ I h) fun ws s2 ⟨zs, H2, I2, rz, q2⟩ => ⟨I2.kIn, ?_⟩) (by show (false || _) = false; rw [Bool.false_or]; exact h1)
    rw [hks]
    exact go I2 (vs := []) .nil rz q2
  · intro e es t ha h1 h2
    refine ⟨fun pins s σ H Q I h => wpAny_Call_Name_kw (ld_glob I hg hm ?_ hdb)⟩
    refine PySem.W.callWith_KW (h₀ := X.base) I.ok.mod.kin hk hall (thn (ha.run pos pins s σ H _ I h) fun us s1 ⟨vs, H1, I1, r1, q⟩ => ?_) h2 h1
    refine thn (hkw.run pos pins s1 σ H1 _ I1 q) fun ws s2 ⟨zs, H2, I2, rz, q2⟩ => ⟨I2.kIn, ?_⟩
    rw [hks]
    exact go I2 r1 rz q2
end
/-! ### a def by its body -/
/-- a def of the module as the frag has it: names, code, the scope -/
structure Def (K : PySem.W.Frag) (f : Addr) (fd : FuncData) (qual : Str) (body : List Stmt) (scope : Scope) (cdv : Value) : Prop where
  at_ : ∃ name params dV kV doc pm ct oc an od osl, fd = PySem.W.fnOf name qual params body scope dV kV doc pm an cdv ct ∧ K.lookup f = some ⟨oc, od, .func fd, osl⟩
  cd : PySem.W.codeIn K cdv qual = true
section
variable {P : Program} {w : World} {K : PySem.W.Frag} {mg : Str → Option Value} {base : Heap} {CX : CXT} {k : Nat} {f : Addr} {fd : FuncData} {qual : Str} {body : List Stmt} {scope : Scope} {cdv : Value} {N ps : List Str} {sp : Sp}
theorem fnG_of (D : Def K f fd qual body scope cdv) (S : FnScope N ps scope) (len : ∀ {vs H Q E}, sp vs H Q E → vs.length = ps.length)
    (bd : ∀ A outer s H vs Q E, RmG k (A.deeper (envOfC qual scope s.heap.objs.size f cdv)) → sp vs H Q E →
      ∃ t, PSs (cxOf CX P w K mg base N qual scope f cdv A outer s H E) body t ∧ t { nx := fun _ H' => Q .non H', rt := Q } (start N vs) H) :
    FnG P w K mg base CX (k + 1) f fd ps sp := by
  obtain ⟨⟨name, params, dV, kV, doc, pm, ct, oc, an, od, osl, rfl, lk⟩, hcd⟩ := D
  refine ⟨len, fun {A outer s H args us vs Q E} at0 hb r q => ?_⟩
  have e0 := at0.e0
  have up : ∀ {α : Type} (p : α), (∀ b o, base.get? b = some o → s.heap.get? b = some o) := fun _ b o e => (e0.bs b o e).1
  have kin : K.In s.heap := e0.mod.kin.keeps (up ())
  have places : ∀ y ∈ ps.zip us, scope.names.lookup y.1 = some .local ∨ (scope.names.lookup y.1 = some .cell ∧ ((cellsFrom (s.heap.objs.size + 1) scope.names []).lookup y.1).isSome = true) := by
    rintro ⟨n, v⟩ hy
    exact (S.par n (List.of_mem_zip hy).1).imp id fun z => ⟨z, PySem.W.cellsFrom_some _ _ _ (.inl z)⟩
  refine codeAny_call_function at0.rm.rm.depth (kin _ _ lk) rfl S.co S.gen rfl (PySem.W.codeRec_of kin hcd) (hb _ _ _ _ (wpAny_newFunctionEnv_cells S.kind places ?_))
  rintro env rfl s1 x
  refine ⟨(e0.mod.nolimit.keeps (up ())).keeps x.toInCall.keep, codeAny_func ?_⟩
  obtain ⟨t, ht, hq⟩ := bd A outer s H vs Q E ⟨at0.rm.rm.deeper _, at0.rm.gd⟩ q
  have I := inv_start (CX := CX) (E := E) S at0.rm.rm.hd e0 (len q) r x
  refine wpAny_mono (ht.run [] s1 _ H _ I hq) (fun fl s' hs => ?_) fun _ _ z => z
  have fin : ∀ {σ' : L2.St} {H' : Hp} {v : V} {u : Value}, Inv (cxOf CX P w K mg base N qual scope f cdv A outer s H E) [] σ' H' s' → RelV v u → Q v H' → CR CX outer P w H s Q E (.ok (.ret u)) s' :=
    fun J rv z => ⟨_, _, J.os, J.bare, J.base, J.hok, rv, z⟩
  rcases fl with _ | _ | _ | u
  case next => obtain ⟨σ', H', J, z⟩ := hs; exact fin (v := V.non) (u := Value.none) J rfl z
  case brk => obtain ⟨_, _, _, z⟩ := hs; exact z.elim
  case cont => obtain ⟨_, _, _, z⟩ := hs; exact z.elim
  case ret => obtain ⟨v, σ', H', J, rv, z⟩ := hs; exact fin J rv z
end
/-! ### the end -/
theorem rmG_caller {k : Nat} (h : Room k callerA) : RmG k callerA := ⟨h, rfl⟩
/-- the heap in which the script and the table of modules are told, as the objects that they are -/
def scriptH (K : PySem.W.Frag) (a : Addr) (o om : Obj) (xs : List V) : Hp := fun b => if b = a ∧ K.lookup a = none then some (.frz o (.lst xs)) else if b = sysModules then some (.frz om (.own 0)) else none
theorem scriptH_some {K : PySem.W.Frag} {a : Addr} {o om : Obj} {xs : List V} {b : Addr} {u : HO} (h : scriptH K a o om xs b = some u) : (b = a ∧ K.lookup a = none ∧ u = .frz o (.lst xs)) ∨ (b = sysModules ∧ u = .frz om (.own 0)) := by
  unfold scriptH at h
  split at h
  · rename_i q; cases h; exact .inl ⟨q.1, q.2, rfl⟩
  · split at h
    · rename_i q; cases h; exact .inr ⟨q, rfl⟩
    · cases h
/-- the law, called by the claim's caller -/
theorem law_callG {P : Program} {w : World} {K : PySem.W.Frag} {mg mb : Str → Option Value} {CX : CXT} {k : Nat} {fa a : Addr} {fd : FuncData} {x : Str} {sp : Sp} {s1 : Shared} {vs : List Value} {ns : List Int}
    (kin : K.In s1.heap) (hns : s1.heap.Ns mainGlobals mg) (hb : s1.heap.Ns builtinsNs mb) (hbb : ∀ x : Str, x ≠ "__name__" → mb x = bootBuiltins x) (hlim : s1.heap.NoLimit) (hg : s1.gens = #[])
    (hmods : ∃ mm, s1.heap.Ns sysModules mm) (km : K.lookup sysModules = none)
    (ha : s1.heap.get? a = some { cls := .type "list", data := .seq vs.toArray }) (hi : IntsAre vs ns) (hl : ns.length ≤ sizeLine) (hr : Room k callerA)
    (F : ∀ base : Heap, K.In base → base.Ns mainGlobals mg → FnG P w K mg base CX k fa fd [x] sp) (hbind : ∀ (s : Shared) (u : Value), BindsTo s fd ⟨[u], []⟩ [(x, u)])
    (hsp : ∀ H : Hp, (∃ o u, H sysModules = some (.frz o u)) → SqL K H a (ns.map V.int) → sp [.ref a] H (fun v _ => v = .bl true) fun _ _ _ => False)
    (hCX : ∀ H e s', CX [] H s1 (fun _ _ _ => False) e s' → False) :
    codeAny (model P w) callerA (.call (.ref fa) ⟨[.ref a], []⟩) (fun r s' => r = .ok (.ret (.bool true)) ∧ OldK s1.heap s'.heap ∧ s'.os = s1.os ∧ AllBare s'.gens) s1 := by
  obtain ⟨mm, om, mes, mep, hom, hdm, _⟩ := hmods
  let o : Obj := { cls := .type "list", data := .seq vs.toArray }
  have am : a ≠ sysModules := fun z => by
    rw [z, hom] at ha
    cases ha
    have hdm : Data.seq vs.toArray _ = Data.dict mes mep := hdm
    cases hdm
  let H : Hp := scriptH K a o om (ns.map V.int)
  have told : ∀ {b u}, H b = some u → (b = a ∧ K.lookup a = none ∧ u = .frz o (.lst (ns.map V.int))) ∨ (b = sysModules ∧ u = .frz om (.own 0)) := fun h => scriptH_some h
  have lenV := hi.length
  have okS : ObjOk P w H s1.heap a (.lst (ns.map V.int)) := ⟨by rw [List.length_map]; exact hl, vs, _, vals_ints hi, ha⟩
  have hok : HOk P w H s1.heap := fun b u z => by
    rcases told z with ⟨rfl, _, rfl⟩ | ⟨rfl, rfl⟩
    · exact ⟨ha, okS⟩
    · exact ⟨hom, _, hom⟩
  have mods : H sysModules = some (.frz om (.own 0)) := by
    show scriptH K a o om _ sysModules = _
    unfold scriptH
    rw [if_neg (fun z => am z.1.symm), if_pos rfl]
  have script : SqL K H a (ns.map V.int) := by
    cases z : K.lookup a with
    | none => exact .inl (.inr ⟨o, if_pos ⟨rfl, z⟩⟩)
    | some u =>
      have e := kin a u z
      rw [ha] at e; cases e
      exact .inr ⟨_, vs.toArray, _, z, rfl, rfl, rfl, by rw [List.size_toArray, lenV]; exact hl, by simpa using vals_ints hi⟩
  have hide : ∀ {b : Addr} {u : Obj}, s1.heap.get? b = some u → (∀ y, H b ≠ some y) → (hidT s1.heap H).get? b = some u := fun {b u} e n => hidT_get e (by
    cases z : H b with
    | none => rfl
    | some y => exact absurd z (n y))
  have hideNs : ∀ {b : Addr} {m : Str → Option Value}, b ≠ sysModules → s1.heap.Ns b m → (hidT s1.heap H).Ns b m := fun {b m} nb ⟨u, es, ep, e, d, r⟩ => by
    refine ⟨u, es, ep, hide e fun y z => ?_, d, r⟩
    rcases told z with ⟨rfl, _, _⟩ | ⟨rfl, _⟩
    · rw [ha] at e; cases e
      have d : Data.seq vs.toArray _ = Data.dict es ep := d
      cases d
    · exact nb rfl
  have kb : K.In (hidT s1.heap H) := fun b u e => hide (kin b u e) fun y z => by
    rcases told z with ⟨rfl, n, _⟩ | ⟨rfl, _⟩
    · rw [n] at e; cases e
    · rw [km] at e; cases e
  obtain ⟨mc, l1, l2⟩ := hlim
  have e0 : Env0 P w K mg (hidT s1.heap H) callerA [] s1 H :=
    ⟨rfl, ⟨kb, hideNs (by decide) hns, ⟨mb, hideNs (by decide) hb, hbb⟩, mc, hideNs (by decide) l1, l2⟩, fun b u e => of_hidT e, Nat.le_of_eq (hidT_size _ _), trivial, fun b z => absurd (show b ∈ ([] : List Addr) from z) (by simp), hok, .of_eq hg⟩
  refine codeAny_mono ((F _ kb (hideNs (by decide) hns)).run ⟨rmG_caller hr, e0⟩ (hbind s1 (.ref a)) (us := [.ref a]) (vs := [.ref a]) (.cons rfl .nil) (hsp H ⟨_, _, mods⟩ script)) fun r s' h => ?_
  rcases r with e | fl
  · exact (hCX H e s' h).elim
  rcases fl with _ | _ | _ | u
  case next => exact h.elim
  case brk => exact h.elim
  case cont => exact h.elim
  case ret =>
    obtain ⟨v, H', os, bare, un, hok', r', q⟩ := h
    have q : v = .bl true := q
    subst q
    obtain rfl : u = Value.bool true := r'
    refine ⟨rfl, OldK.of_keep fun b y e => ?_, os, bare⟩
    cases z : H b with
    | none => exact un.keep b y e z (fun z => absurd (show b ∈ ([] : List Addr) from z) (by simp)) (by simp)
    | some u =>
      rcases told z with ⟨rfl, _, rfl⟩ | ⟨rfl, rfl⟩
      · obtain ⟨e2, _⟩ := hok' b _ (un.frzs b _ _ z)
        rw [ha] at e; cases e
        exact e2
      · obtain ⟨e2, _⟩ := hok' _ _ (un.frzs _ _ _ z)
        rw [hom] at e; cases e
        exact e2
/-- the goal that the head leaves, from the law's promise -/
theorem walk_ofG {l : PySem.W.OpenLaw} {n k : Nat} {q : Program} {loose : List Str} {XP : (Str → Option Value) → Heap → Prop} {YP : World → Heap → Prop} {d : DefRec} {K : Params → PySem.W.Frag} {CX : World → CXT} {sp : World → Sp} {x : Str}
    (hn : l.most = some n) (hn2 : n ≤ sizeLine) (hdf : d.params.defaults = []) (hr : Room k callerA) (hi : importsNone q = true) (hk : ∀ p, (K p).lookup sysModules = none)
    (hY : ∀ (w : World) (h : Heap), YP w h → (K w.params).In h)
    (F : ∀ (w : World) (mg : Str → Option Value) (fa : Addr) (h : Heap), (K w.params).In h → h.Ns mainGlobals mg → mg d.name = some (.ref fa) →
      ∃ fd : FuncData, (∀ (s : Shared) (u : Value), BindsTo s fd ⟨[u], []⟩ [(x, u)]) ∧
        ∀ base : Heap, (K w.params).In base → base.Ns mainGlobals mg → FnG l.prog w (K w.params) mg base (CX w) k fa fd [x] (sp w))
    (hsp : ∀ (w : World) (H : Hp) (a : Addr) (ns : List Int), ns.length ≤ n → (∃ o u, H sysModules = some (.frz o u)) → SqL (K w.params) H a (ns.map V.int) → sp w [.ref a] H (fun v _ => v = .bl true) fun _ _ _ => False)
    (hCX : ∀ (w : World) (H : Hp) (s : Shared) (e : Value) (s' : Shared), CX w [] H s (fun _ _ _ => False) e s' → False) :
    PySem.W.WalkO q loose XP YP l.row.toRowW d [] (fun f vs => PySem.call f vs) := by
  refine Att.attach_call hn hdf ?_
  intro w s0 s1 mg mb fa o pm cd doc a vs ns G Y ho hd hcd hmg hobj hints hlen hg
  obtain ⟨fd, hb, hF⟩ := F w mg fa _ (hY w _ Y) G.T.g hmg
  have hm := (G.T.seer hi).mods
  exact law_callG (hY w _ Y) G.T.g G.T.b G.T.builtins G.T.nolimit hg (hm.imp fun _ z => z.1) (hk _) hobj hints (Nat.le_trans hlen hn2) hr hF hb (hsp w · a ns hlen · ·) fun H e s' => hCX w H s1 e s'
end G9

/-! M5: the rules for expressions, over wants. -/
namespace G9
open PySem PySem.Spec L2 PyProof.Rows

section
variable {Wp : Wk → Prop} {K : PySem.W.Frag} {mg : Str → Option Value} {E : XK} {W : Wk} {B : List Bs} {M0 : List Addr} {ρ : En} {σ : L2.St} {H : Hp} {M : List Addr} {R : RK}
/-- two operands -/
theorem two {a b : DO} {F : PyData → PyData → En → Prop} {r : R2} {Q : VK} (w : WP Wp W t) (G : Gd W K B M0 ρ σ H M)
    (d : a ρ (fun oa ρ1 => b ρ1 (fun ob ρ2 => ∃ x y, rs ρ2 oa = some (.d x) ∧ rs ρ2 ob = some (.d y) ∧ F x y ρ2) R) R) (x : XOk W K mg E M0 B R)
    (h : ∀ x y ρ2 v u H2 M2, Gd (W.up (a.m + b.m)) K B M0 ρ2 σ H2 M2 → RepPk K H2 M2 v x → RepPk K H2 M2 u y → F x y ρ2 → r v u H2 Q) (ht : a.m + b.m ≤ t := by first | exact Nat.le_refl _ | exact Nat.le_add_right _ _ | exact Nat.le_add_left _ _ | exact Nat.le_trans (Nat.le_add_right _ _) (Nat.le_add_right _ _) | exact Nat.add_le_add_left (Nat.le_add_right _ _) _ | exact Nat.add_le_add_left (Nat.le_add_left _ _) _) : tOp r (lO Wp K mg E a) (lO Wp K mg E b) σ H Q := by
  refine lO_go w G d x (hle := Nat.le_trans (Nat.le_add_right _ _) ht) fun oa ρ1 v H1 M1 c G1 k1 => lO_go' w G1.base c x.cons (hle := ht) fun ob ρ2 u H2 M2 c2 G2 k2 => ?_
  obtain ⟨x, y, h1, h2, f⟩ := c2
  exact h x y ρ2 v u H2 M2 G2.tail (OpdOk.pk G2 (OpdOk.later G2 k1) h1) (OpdOk.pk G2 k2 h2) f
/-- one operand -/
theorem one {a : DO} {F : PyData → En → Prop} {r : V → Hp → VK → Prop} {Q : VK} (w : WP Wp W t) (G : Gd W K B M0 ρ σ H M)
    (d : a ρ (fun oa ρ1 => ∃ x, rs ρ1 oa = some (.d x) ∧ F x ρ1) R) (x : XOk W K mg E M0 B R)
    (h : ∀ x ρ2 v H2 M2, Gd (W.up a.m) K B M0 ρ2 σ H2 M2 → RepPk K H2 M2 v x → F x ρ2 → r v H2 Q) (ht : a.m ≤ t := by first | exact Nat.le_refl _ | exact Nat.le_add_right _ _ | exact Nat.le_add_left _ _ | exact Nat.le_trans (Nat.le_add_right _ _) (Nat.le_add_right _ _) | exact Nat.add_le_add_left (Nat.le_add_right _ _) _ | exact Nat.add_le_add_left (Nat.le_add_left _ _) _) : tUn r (lO Wp K mg E a) σ H Q := by
  refine lO_go w G d x (hle := ht) fun oa ρ1 v H1 M1 c G1 k1 => ?_
  obtain ⟨x, h1, f⟩ := c
  exact h x ρ1 v H1 M1 G1 (OpdOk.pk G1 k1 h1) f
end

section
variable {Wp : Wk → Prop} {E : XK} {X : Cx} {ea eb ec : Expr} {a b c : DO} {pos p2 : Pos}
theorem jVar {i : Nat} {x : Str} (hN : X.N[i]? = some x) (hv : Vis X.env.scope x) (hd : (x == ("__debug__" : Str)) = false) (hcd : (x == ("__classdict__" : Str)) = false) : JE Wp E X (.Name x pos) (dVar i) := by
  refine (pe_var hN hv hd hcd).weak fun σ H Q ⟨W, B, M0, ρ, M, P, R, w, G, d, x, h⟩ => ?_
  have d : En.get ρ i fun u ρ' => P u false ρ' := d
  unfold En.get at d
  split at d
  · rename_i u e
    obtain ⟨a, M', sub, h1, G', r⟩ := G.drop (En.at_get e)
    exact ⟨_, h1, h _ _ _ _ _ _ d (.of G' r)⟩
  · rename_i u e
    obtain ⟨v, h1, h2⟩ := G.ent i _ (En.at_get e)
    unfold EntOk at h2
    rw [if_neg (by simp)] at h2
    exact ⟨v, h1, h _ _ _ _ _ _ d (.of G h2)⟩
  · exact d.elim
theorem oVar {i : Nat} {x : Str} (hN : X.N[i]? = some x) (hv : Vis X.env.scope x) (hd : (x == ("__debug__" : Str)) = false) (hcd : (x == ("__classdict__" : Str)) = false) : JO Wp E X (.Name x pos) (oSlot i) := by
  refine (pe_var hN hv hd hcd).weak fun σ H Q ⟨W, B, M0, ρ, M, P, R, w, G, d, x, h⟩ => ?_
  obtain ⟨e, h1, c⟩ := d
  obtain ⟨v, h2, _⟩ := G.ent i e (En.at_get h1)
  exact ⟨v, h2, h _ _ v H M c G h2⟩
theorem oOf {d : DE} (j : JE Wp E X ea d) : JO Wp E X ea (oE d) :=
  j.weak fun σ H Q ⟨W, B, M0, ρ, M, P, R, w, G, d, x, h⟩ => lE_go w G d x fun u fr ρ' v H' M' c r => h _ _ v H' M' c r.gd r.rep
theorem jInt {i : Int} {n : Nat} : JE Wp E X (.Constant (.int i) n pos) (dCon (.int i)) := pe_int.weak fun σ H Q ⟨W, B, M0, ρ, M, P, R, w, G, d, x, h⟩ => h _ _ _ _ _ _ d (.of G (Rep.int i))
theorem jBl {i : Bool} {n : Nat} : JE Wp E X (.Constant (.bool i) n pos) (dCon (.bool i)) := pe_bl.weak fun σ H Q ⟨W, B, M0, ρ, M, P, R, w, G, d, x, h⟩ => h _ _ _ _ _ _ d (.of G (Rep.bl i))
theorem jStr {i : Str} {n : Nat} : JE Wp E X (.Constant (.str i) n pos) (dCon (.str i)) := pe_str.weak fun σ H Q ⟨W, B, M0, ρ, M, P, R, w, G, d, x, h⟩ => h _ _ _ _ _ _ d (.of G (Rep.str i))
theorem jNon {n : Nat} : JE Wp E X (.Constant .none n pos) (dCon .none) := pe_non.weak fun σ H Q ⟨W, B, M0, ρ, M, P, R, w, G, d, x, h⟩ => h _ _ _ _ _ _ d (.of G Rep.non)
/-- a name of the module that stands for a number or a text -/
theorem jGlobI {x : Str} {i : Int} {t : Tok} (hg : Gl X x) (hm : X.mg x = some (.int i t)) (hd : (x == ("__debug__" : Str)) = false) : JE Wp E X (.Name x pos) (dCon (.int i)) :=
  (pe_glob (v := .int i) hg hm ⟨t, rfl⟩ hd).weak fun σ H Q ⟨W, B, M0, ρ, M, P, R, w, G, d, x, h⟩ => h _ _ _ _ _ _ d (.of G (Rep.int i))
theorem jGlobS {x : Str} {i : Str} {t : Tok} (hg : Gl X x) (hm : X.mg x = some (.str i t)) (hd : (x == ("__debug__" : Str)) = false) : JE Wp E X (.Name x pos) (dCon (.str i)) :=
  (pe_glob (v := .str i) hg hm ⟨t, rfl⟩ hd).weak fun σ H Q ⟨W, B, M0, ρ, M, P, R, w, G, d, x, h⟩ => h _ _ _ _ _ _ d (.of G (Rep.str i))
theorem jAdd (ja : JO Wp E X ea a) (jb : JO Wp E X eb b) : JE Wp E X (.BinOp ea .Add eb pos) (dBin .add a b) :=
  (pe_op op_addA ja jb).weak fun σ H Q ⟨W, B, M0, ρ, M, P, R, w, G, d, x, h⟩ => two w G d x fun x y ρ2 v u H2 M2 G2 r1 r2 c => add_go G2 r1 r2 c fun z fr v' H' M' c r => h _ _ _ _ _ _ c r
theorem jSub (ja : JO Wp E X ea a) (jb : JO Wp E X eb b) : JE Wp E X (.BinOp ea .Sub eb pos) (dBin .sub a b) :=
  (pe_op op_sub ja jb).weak fun σ H Q ⟨W, B, M0, ρ, M, P, R, w, G, d, x, h⟩ => two w G d x fun x y ρ2 v u H2 M2 G2 r1 r2 c => sub_go G2 r1 r2 c fun z fr v' H' M' c r => h _ _ _ _ _ _ c r
theorem jFdiv (ja : JO Wp E X ea a) (jb : JO Wp E X eb b) : JE Wp E X (.BinOp ea .FloorDiv eb pos) (dBin .fdiv a b) :=
  (pe_op op_fdivN ja jb).weak fun σ H Q ⟨W, B, M0, ρ, M, P, R, w, G, d, x, h⟩ => two w G d x fun x y ρ2 v u H2 M2 G2 r1 r2 c => fdiv_go G2 r1 r2 c fun z fr v' H' M' c r => h _ _ _ _ _ _ c r
theorem jMod (ja : JO Wp E X ea a) (jb : JO Wp E X eb b) : JE Wp E X (.BinOp ea .Mod eb pos) (dBin .mod a b) :=
  (pe_op op_modN ja jb).weak fun σ H Q ⟨W, B, M0, ρ, M, P, R, w, G, d, x, h⟩ => two w G d x fun x y ρ2 v u H2 M2 G2 r1 r2 c => mod_go G2 r1 r2 c fun z fr v' H' M' c r => h _ _ _ _ _ _ c r
theorem jPow (ja : JO Wp E X ea a) (jb : JO Wp E X eb b) : JE Wp E X (.BinOp ea .Pow eb pos) (dBin .pow a b) :=
  (pe_op op_pow ja jb).weak fun σ H Q ⟨W, B, M0, ρ, M, P, R, w, G, d, x, h⟩ => two w G d x fun x y ρ2 v u H2 M2 G2 r1 r2 c => pow_go G2 r1 r2 c fun z fr v' H' M' c r => h _ _ _ _ _ _ c r
end
section
variable {K : PySem.W.Frag} {W : Wk} {B : List Bs} {M0 : List Addr} {ρ : En} {σ : L2.St} {H : Hp} {M : List Addr}
def rMulA (K : PySem.W.Frag) : R2 := fun x y H Q => rI CMul (fun i j => .int (i * j)) x y H Q ∨ (rRepS x y H Q ∨ (rRep x y H Q ∨ rRepA K x y H Q))
theorem op_mulA {X : Cx} : OpR X (binaryOp .Mult) (rMulA X.K) := op_mul.or (op_repS.or (op_rep.or op_repA))
theorem mul_go {x y : PyData} {v u : V} {C : PyData → Bool → Prop} {Q : VK} (G : Gd W K B M0 ρ σ H M) (rx : RepPk K H M v x) (ry : RepPk K H M u y) (c : opS .mul x y C) (h : ∀ z fr v' H' M', C z fr → Res W K B M0 ρ σ H' M' v' (.d z) fr → Q v' H') : rMulA K v u H Q := by
  cases x <;> cases y <;> try exact (show False from c).elim
  · rename_i i j
    exact .inl ⟨i, j, rx.int_inv, ry.int_inv, c.1, h _ _ _ _ _ c.2 (Res.int G _)⟩
  · rename_i i j
    exact .inr (.inl ⟨i, j, rx.str_inv, ry.int_inv, c.1, h _ _ _ _ _ c.2 (Res.str G _)⟩)
  · rename_i xs k
    obtain ⟨a, vs, rfl, ha, r1⟩ := rx.list_inv
    obtain ⟨c1, c2, c3, c4⟩ := c
    exact .inr (.inr (.inl ⟨a, k, vs, rfl, ry.int_inv, ha, c1, c2, by rw [r1.length]; exact c3, fun p hp => h _ _ _ _ _ c4 (Res.new G hp (r1.rep _))⟩))
  · rename_i xs k
    obtain ⟨a, vs, rfl, ha, r1⟩ := rx.tup_inv
    obtain ⟨c1, c2, c3, c4⟩ := c
    refine .inr (.inr (.inr ⟨a, k, vs, rfl, ry.int_inv, ha, c1, c2, by rw [r1.length]; exact c3, fun e => ?_, fun e1 e2 p hp => h _ _ _ _ _ c4 (Res.newT G hp (r1.rep _))⟩))
    rcases e with rfl | rfl
    · cases r1
      have z : (List.replicate k.toNat ([] : List PyData)).flatten = [] := by simp
      rw [z] at c4
      exact h _ _ _ _ _ c4 (.of G (Rep.tup ha .nil))
    · have z : (List.replicate (1 : Int).toNat xs).flatten = xs := by simp
      rw [z] at c4
      exact h _ _ _ _ _ c4 (.of G (Rep.tup ha r1))
theorem RepPk.dp {v : V} {x : PyData} (r : RepPk K H M v x) (c : SeqAt.shaped x = true) : Dp K H v x := by
  have c := SeqAt.canLay_of_shaped c
  cases x with
  | list ds =>
    obtain ⟨a, vs, rfl, ha, r1⟩ := r.list_inv
    exact .lst (.inl (.inl ha)) (r1.dp (by simpa [PyData.canLay0] using c))
  | _ => exact Rep.dp r c
/-- in, of a list, a tuple, a text by one sign -/
def rInT (K : PySem.W.Frag) (neg : Bool) : R2 := fun x y H Q => ∃ d ds, Dp K H x d ∧ Dp K H y (.tuple ds) ∧ SeqAt.shaped d = true ∧ SeqAt.shaped (.tuple ds) = true ∧ Q (.bl (if neg = true then !(ds.any fun z => PyData.eqv z d) else ds.any fun z => PyData.eqv z d)) H
theorem op_inT {X : Cx} (hu : X.A.units + 65 < cLine) : OpR X (compareOp .In) (rInT X.K false) := by
  rintro pins s σ H x y v u Q I rx ry ⟨d, ds, hd, he, sd, se, q⟩
  obtain ⟨bs, r2⟩ := Dp.reads I _ _ _ he ry
  obtain ⟨as, r1⟩ := Dp.reads I _ _ _ hd rx
  exact SeqAt.in_tuple_reads r2 r1 (SeqAt.canLay_of_shaped se) (SeqAt.canLay_of_shaped sd) (room_in_shaped sd hu) ⟨.bl _, H, I, rfl, q⟩
theorem op_notInT {X : Cx} (hu : X.A.units + 65 < cLine) : OpR X (compareOp .NotIn) (rInT X.K true) := by
  rintro pins s σ H x y v u Q I rx ry ⟨d, ds, hd, he, sd, se, q⟩
  obtain ⟨bs, r2⟩ := Dp.reads I _ _ _ he ry
  obtain ⟨as, r1⟩ := Dp.reads I _ _ _ hd rx
  exact SeqAt.notIn_tuple_reads r2 r1 (SeqAt.canLay_of_shaped se) (SeqAt.canLay_of_shaped sd) (room_in_shaped sd hu) ⟨.bl _, H, I, rfl, q⟩
end
theorem strsD_inv : ∀ {xs : List PyData} {ss : List Str}, strsD xs = some ss → xs = ss.map .str
  | [], _, e => by cases e; rfl
  | .str x :: xs, _, e => by
    have e : (strsD xs).map (x :: ·) = some _ := e
    cases q : strsD xs with
    | none => rw [q] at e; cases e
    | some ys => rw [q] at e; cases e; rw [strsD_inv q]; rfl
  | .none :: _, _, e | .bool _ :: _, _, e | .int _ :: _, _, e | .list _ :: _, _, e | .tuple _ :: _, _, e | .dict _ :: _, _, e => by cases e
/-- lists, told apart by their lengths -/
def rLenEq (K : PySem.W.Frag) (neg : Bool) : R2 := fun x y H Q => ∃ a b xs ys, x = .ref a ∧ y = .ref b ∧ SqL K H a xs ∧ SqL K H b ys ∧ (xs.length ≠ ys.length ∨ ys = []) ∧ Q (.bl (if neg = true then !decide (xs.length = ys.length) else decide (xs.length = ys.length))) H
theorem op_eqLen {X : Cx} (hu : X.A.units < cLine) : OpR X (compareOp .Eq) (rLenEq X.K false) := by
  rintro pins s σ H x y v u Q I rx ry ⟨a, b, xs, ys, rfl, rfl, ha, hb, hl, q⟩
  cases rx
  cases ry
  obtain ⟨us, r1, p1, _⟩ := I.list ha
  obtain ⟨ws, r2, p2, _⟩ := I.list hb
  by_cases e : xs.length = ys.length
  · have ey : ys = [] := hl.resolve_left fun n => n e
    subst ey
    have ex : xs = [] := List.eq_nil_of_length_eq_zero e
    subst ex
    cases r1
    cases r2
    refine SeqAt.RcAt.lists (e := fun _ => true) p1.isList p2.isList rfl hu (fun j h1 _ => absurd h1 (Nat.not_lt_zero _)) _ _ _ _ ?_
    exact ⟨.bl _, H, I, rfl, q⟩
  · refine SeqAt.RcAt.lists_lengths p1.isList p2.isList ?_ hu _ _ _ _ ?_
    · rw [List.size_toArray, List.size_toArray, ← r1.length, ← r2.length]
      exact bne_iff_ne.mpr e
    · rw [if_neg (by simp), decide_eq_false e] at q
      exact ⟨.bl _, H, I, rfl, q⟩
theorem op_neLen {X : Cx} (hu : X.A.units < cLine) : OpR X (compareOp .NotEq) (rLenEq X.K true) := by
  rintro pins s σ H x y v u Q I rx ry ⟨a, b, xs, ys, rfl, rfl, ha, hb, hl, q⟩
  cases rx
  cases ry
  obtain ⟨us, r1, p1, _⟩ := I.list ha
  obtain ⟨ws, r2, p2, _⟩ := I.list hb
  by_cases e : xs.length = ys.length
  · have ey : ys = [] := hl.resolve_left fun n => n e
    subst ey
    have ex : xs = [] := List.eq_nil_of_length_eq_zero e
    subst ex
    cases r1
    cases r2
    refine SeqAt.RcNeAt.lists (e := fun _ => true) p1.isList p2.isList rfl hu (fun j h1 _ => absurd h1 (Nat.not_lt_zero _)) _ _ _ _ ?_
    exact ⟨.bl _, H, I, rfl, q⟩
  · refine SeqAt.RcNeAt.lists_lengths p1.isList p2.isList ?_ hu _ _ _ _ ?_
    · rw [List.size_toArray, List.size_toArray, ← r1.length, ← r2.length]
      exact bne_iff_ne.mpr e
    · rw [if_pos rfl, decide_eq_false e] at q
      exact ⟨.bl _, H, I, rfl, q⟩
theorem eqv_len {xs ys : List PyData} (h : xs.length ≠ ys.length ∨ ys = []) : PyData.eqv (.list xs) (.list ys) = decide (xs.length = ys.length) := by
  have go : ∀ (xs ys : List PyData), xs.length ≠ ys.length → PyData.eqvAll xs ys = false := by
    intro xs
    induction xs with
    | nil => intro ys n; cases ys with
      | nil => exact absurd rfl n
      | cons y ys => simp [PyData.eqvAll]
    | cons x xs ih => intro ys n; cases ys with
      | nil => simp [PyData.eqvAll]
      | cons y ys => simp only [PyData.eqvAll]; rw [ih ys (by simpa using n), Bool.and_false]
  simp only [PyData.eqv]
  by_cases e : xs.length = ys.length
  · have ey : ys = [] := h.resolve_left fun n => n e
    subst ey
    have ex : xs = [] := List.eq_nil_of_length_eq_zero e
    subst ex
    simp [PyData.eqvAll]
  · rw [go _ _ e, decide_eq_false e]
/-- the operator that c stands for, its relation -/
def cmO : Cm → CmpOp
  | .eq => .Eq
  | .ne => .NotEq
  | .lt => .Lt
  | .le => .LtE
  | .gt => .Gt
  | .ge => .GtE
  | .isIn => .In
  | .notIn => .NotIn
  | .isB => .Is
  | .notB => .IsNot
def rCm (K : PySem.W.Frag) : Cm → R2
  | .eq => fun x y H Q => rEqD K x y H Q ∨ (rLenEq K false x y H Q ∨ rEq x y H Q)
  | .ne => fun x y H Q => rNeD K x y H Q ∨ (rLenEq K true x y H Q ∨ rNe x y H Q)
  | .lt => fun x y H Q => rI0 (fun i j => .bl (decide (i < j))) x y H Q ∨ ((∃ i j, x = .str i ∧ y = .str j ∧ Q (.bl (decide (i.cps.toList < j.cps.toList))) H) ∨ rTS K ltSS x y H Q)
  | .le => fun x y H Q => rI0 (fun i j => .bl (decide (i ≤ j))) x y H Q ∨ ((∃ i j, x = .str i ∧ y = .str j ∧ Q (.bl (!decide (j.cps.toList < i.cps.toList))) H) ∨ rTS K leSS x y H Q)
  | .gt => fun x y H Q => rI0 (fun i j => .bl (decide (j < i))) x y H Q ∨ (∃ i j, x = .str i ∧ y = .str j ∧ Q (.bl (decide (j.cps.toList < i.cps.toList))) H)
  | .ge => fun x y H Q => rI0 (fun i j => .bl (decide (j ≤ i))) x y H Q ∨ (∃ i j, x = .str i ∧ y = .str j ∧ Q (.bl (!decide (i.cps.toList < j.cps.toList))) H)
  | .isIn => fun x y H Q => rInD K x y H Q ∨ (rInT K false x y H Q ∨ (∃ (c : Nat) (z : Str), x = .str ⟨#[c]⟩ ∧ y = .str z ∧ Q (.bl (decide (c ∈ z.cps.toList))) H))
  | .notIn => fun x y H Q => rNotInD K x y H Q ∨ (rInT K true x y H Q ∨ (∃ (c : Nat) (z : Str), x = .str ⟨#[c]⟩ ∧ y = .str z ∧ Q (.bl (!decide (c ∈ z.cps.toList))) H))
  | .isB => fun x y H Q => ∃ a b, x = .bl a ∧ y = .bl b ∧ Q (.bl (decide (a = b))) H
  | .notB => fun x y H Q => ∃ a b, x = .bl a ∧ y = .bl b ∧ Q (.bl (!decide (a = b))) H
theorem op_cm {X : Cx} (hu : X.A.units + 65 < cLine) : ∀ c, OpR X (compareOp (cmO c)) (rCm X.K c)
  | .eq => (op_eqD (by omega)).or ((op_eqLen (by omega)).or op_eq)
  | .ne => (op_neD (by omega)).or ((op_neLen (by omega)).or op_ne)
  | .lt => op_lt.or (op_lt_str.or (op_ltTS (by omega)))
  | .le => op_le.or (op_le_str.or (op_leTS (by omega)))
  | .gt => op_gt.or op_gt_str
  | .ge => op_ge.or op_ge_str
  | .isIn => (op_inD hu).or ((op_inT hu).or op_in_sign)
  | .notIn => (op_notInD hu).or ((op_notInT hu).or op_notIn_sign)
  | .isB => op_is_bl
  | .notB => op_isnot_bl
section
variable {K : PySem.W.Frag} {W : Wk} {B : List Bs} {M0 : List Addr} {ρ : En} {σ : L2.St} {H : Hp} {M : List Addr}
theorem cm_go {c : Cm} {x y : PyData} {v u : V} {C : Bool → Prop} {Q : VK} (rx : RepPk K H M v x) (ry : RepPk K H M u y) (d : cmS c x y C) (h : ∀ k, C k → Q (.bl k) H) : rCm K c v u H Q := by
  cases c with
  | eq =>
    obtain ⟨d1 | ⟨xs, ys, rfl, rfl, hl⟩ | ⟨i, j, rfl, rfl⟩, d2⟩ := d
    · exact .inl ⟨x, y, rx.dp d1.1, ry.dp d1.2, d1.1, d1.2, h _ d2⟩
    · obtain ⟨a, vs, rfl, h1, r1⟩ := rx.list_inv
      obtain ⟨b, ws, rfl, h2, r2⟩ := ry.list_inv
      refine .inr (.inl ⟨a, b, vs, ws, rfl, rfl, SqL.of h1, SqL.of h2, ?_, ?_⟩)
      · rw [r1.length, r2.length]
        exact hl.imp id fun e => List.eq_nil_of_length_eq_zero (by rw [r2.length, e]; rfl)
      · rw [if_neg (by simp), r1.length, r2.length, ← eqv_len hl]
        exact h _ d2
    · rw [rx.str_inv, ry.str_inv]
      exact .inr (.inr ⟨rfl, by rw [dec_str]; exact h _ d2⟩)
  | ne =>
    obtain ⟨d1 | ⟨xs, ys, rfl, rfl, hl⟩ | ⟨i, j, rfl, rfl⟩, d2⟩ := d
    · exact .inl ⟨x, y, rx.dp d1.1, ry.dp d1.2, d1.1, d1.2, h _ d2⟩
    · obtain ⟨a, vs, rfl, h1, r1⟩ := rx.list_inv
      obtain ⟨b, ws, rfl, h2, r2⟩ := ry.list_inv
      refine .inr (.inl ⟨a, b, vs, ws, rfl, rfl, SqL.of h1, SqL.of h2, ?_, ?_⟩)
      · rw [r1.length, r2.length]
        exact hl.imp id fun e => List.eq_nil_of_length_eq_zero (by rw [r2.length, e]; rfl)
      · rw [if_pos rfl, r1.length, r2.length, ← eqv_len hl]
        exact h _ d2
    · rw [rx.str_inv, ry.str_inv]
      exact .inr (.inr ⟨rfl, by rw [dec_str]; exact h _ d2⟩)
  | isIn =>
    cases y <;> try exact (show False from d).elim
    · rename_i z
      cases x <;> try exact (show False from d).elim
      obtain ⟨c, rfl, d⟩ := d
      exact .inr (.inr ⟨c, z, rx.str_inv, ry.str_inv, h _ d⟩)
    · exact .inl ⟨x, _, rx.dp d.1, ry.dp d.2.1, d.1, d.2.1, h _ d.2.2⟩
    · exact .inr (.inl ⟨x, _, rx.dp d.1, ry.dp d.2.1, d.1, d.2.1, h _ d.2.2⟩)
  | notIn =>
    cases y <;> try exact (show False from d).elim
    · rename_i z
      cases x <;> try exact (show False from d).elim
      obtain ⟨c, rfl, d⟩ := d
      exact .inr (.inr ⟨c, z, rx.str_inv, ry.str_inv, h _ d⟩)
    · exact .inl ⟨x, _, rx.dp d.1, ry.dp d.2.1, d.1, d.2.1, h _ d.2.2⟩
    · exact .inr (.inl ⟨x, _, rx.dp d.1, ry.dp d.2.1, d.1, d.2.1, h _ d.2.2⟩)
  | isB =>
    cases x <;> cases y <;> try exact (show False from d).elim
    exact ⟨_, _, rx.bool_inv, ry.bool_inv, h _ d⟩
  | notB =>
    cases x <;> cases y <;> try exact (show False from d).elim
    exact ⟨_, _, rx.bool_inv, ry.bool_inv, h _ d⟩
  | lt =>
    cases x <;> cases y <;> try exact (show False from d).elim
    · exact .inl ⟨_, _, rx.int_inv, ry.int_inv, h _ d⟩
    · exact .inr (.inl ⟨_, _, rx.str_inv, ry.str_inv, h _ d⟩)
    · obtain ⟨ss, ts, e1, e2, d⟩ := d
      obtain ⟨a, vs, rfl, h1, r1⟩ := rx.tup_inv
      obtain ⟨b, us, rfl, h2, r2⟩ := ry.tup_inv
      rw [strsD_inv e1] at r1
      rw [strsD_inv e2] at r2
      rw [r1.strs] at h1
      rw [r2.strs] at h2
      exact .inr (.inr ⟨a, b, ss, ts, rfl, rfl, h1, h2, h _ d⟩)
  | le =>
    cases x <;> cases y <;> try exact (show False from d).elim
    · exact .inl ⟨_, _, rx.int_inv, ry.int_inv, h _ d⟩
    · exact .inr (.inl ⟨_, _, rx.str_inv, ry.str_inv, h _ d⟩)
    · obtain ⟨ss, ts, e1, e2, d⟩ := d
      obtain ⟨a, vs, rfl, h1, r1⟩ := rx.tup_inv
      obtain ⟨b, us, rfl, h2, r2⟩ := ry.tup_inv
      rw [strsD_inv e1] at r1
      rw [strsD_inv e2] at r2
      rw [r1.strs] at h1
      rw [r2.strs] at h2
      exact .inr (.inr ⟨a, b, ss, ts, rfl, rfl, h1, h2, h _ d⟩)
  | _ =>
    cases x <;> cases y <;> try exact (show False from d).elim
    · exact .inl ⟨_, _, rx.int_inv, ry.int_inv, h _ d⟩
    · exact .inr ⟨_, _, rx.str_inv, ry.str_inv, h _ d⟩
end
section
variable {Wp : Wk → Prop} {E : XK} {X : Cx} {ea eb ec : Expr} {a b c : DO} {pos p2 : Pos}
theorem jMul (ja : JO Wp E X ea a) (jb : JO Wp E X eb b) : JE Wp E X (.BinOp ea .Mult eb pos) (dBin .mul a b) :=
  (pe_op op_mulA ja jb).weak fun σ H Q ⟨W, B, M0, ρ, M, P, R, w, G, d, x, h⟩ => two w G d x fun x y ρ2 v u H2 M2 G2 r1 r2 c => mul_go G2 r1 r2 c fun z fr v' H' M' c r => h _ _ _ _ _ _ c r
theorem jNeg (ja : JO Wp E X ea a) : JE Wp E X (.UnaryOp .USub ea pos) (dNeg a) := by
  refine (pe_un un_neg ja).weak fun σ H Q ⟨W, B, M0, ρ, M, P, R, w, G, d, x, h⟩ => ?_
  refine lO_go w G d x fun oa ρ1 v H1 M1 c G1 k1 => ?_
  obtain ⟨i, h1, f⟩ := c
  exact ⟨i, RepPk.int_inv (OpdOk.pk G1 k1 h1), h _ _ _ _ _ _ f (Res.int G1 _)⟩
theorem jCmp {cm : Cm} (hu : X.A.units + 65 < cLine) (ja : JO Wp E X ea a) (jb : JO Wp E X eb b) (hm : behindInMarks (cmO cm) eb = false) : JE Wp E X (.Compare ea [cmO cm] [eb] pos) (dCmp cm a b) :=
  (pe_cmpR (op_cm hu cm) ja jb hm).weak fun σ H Q ⟨W, B, M0, ρ, M, P, R, w, G, d, x, h⟩ => two w G d x fun x y ρ2 v u H2 M2 G2 r1 r2 c => cm_go r1 r2 c fun k c => h _ _ _ _ _ _ c (Res.bool G2 k)
theorem jCmp2 {cm cm' : Cm} (hu : X.A.units + 65 < cLine) (ja : JO Wp E X ea a) (jb : JO Wp E X eb b) (jc : JO Wp E X ec c) (hm : lastMarks [cmO cm, cmO cm'] [eb, ec] = false) :
    JE Wp E X (.Compare ea [cmO cm, cmO cm'] [eb, ec] pos) (dCmp2 cm cm' a b c) := by
  refine (pe_chain (op_cm hu cm) (op_cm hu cm') ja jb jc hm).weak fun σ H Q ⟨W, B, M0, ρ, M, P, R, w, G, d, x, h⟩ => ?_
  refine lO_go w G d x fun oa ρ1 v H1 M1 c G1 k1 => lO_go' w G1.base c x.cons fun ob ρ2 u H2 M2 c2 G2 k2 => ?_
  obtain ⟨x', y, h1, h2, f⟩ := c2
  refine cm_go (OpdOk.pk G2 (OpdOk.later G2 k1) h1) (OpdOk.pk G2 k2 h2) f fun k f => ⟨k, rfl, ?_⟩
  cases k with
  | false => exact h _ _ _ _ _ _ f (Res.bool (G2.tail.mono (Nat.le_add_right _ _)) false)
  | true =>
    refine lO_go' w G2.tail.base f x.cons fun oc ρ3 z H3 M3 c3 G3 k3 => ?_
    obtain ⟨y', z', h3, h4, f⟩ := c3
    exact cm_go (OpdOk.pk G3 (OpdOk.later G3 k2) h3) (OpdOk.pk G3 k3 h4) f fun k f => h _ _ _ _ _ _ f (Res.bool G3.tail k)
theorem non_iff {K : PySem.W.Frag} {H : Hp} {M : List Addr} {v : V} {x : PyData} (r : RepPk K H M v x) : decide (v = .non) = isNoneD x := by
  cases x with
  | list ds => obtain ⟨a, vs, rfl, _⟩ := r.list_inv; rfl
  | none => obtain rfl : v = .non := Rep.none_inv r; rfl
  | _ => have r : Rep K H M v _ := r; cases r <;> rfl
theorem jIsN {n : Nat} (ja : JO Wp E X ea a) : JE Wp E X (.Compare ea [.Is] [.Constant .none n p2] pos) (dIsN a) :=
  (pe_cmp (pc_isN ja)).weak fun σ H Q ⟨W, B, M0, ρ, M, P, R, w, G, d, x, h⟩ => one (r := fun x H Q => Q (.bl (decide (x = .non))) H) w G d x fun x ρ2 v H2 M2 G2 r f => by
    rw [non_iff r]
    exact h _ _ _ _ _ _ f (Res.bool G2 _)
theorem jNotN {n : Nat} (ja : JO Wp E X ea a) : JE Wp E X (.Compare ea [.IsNot] [.Constant .none n p2] pos) (dNotN a) :=
  (pe_cmp (pc_notN ja)).weak fun σ H Q ⟨W, B, M0, ρ, M, P, R, w, G, d, x, h⟩ => one (r := fun x H Q => Q (.bl (!decide (x = .non))) H) w G d x fun x ρ2 v H2 M2 G2 r f => by
    rw [non_iff r]
    exact h _ _ _ _ _ _ f (Res.bool G2 _)
end
end G9

/-! S5: list(dict(pairs)), the keys tuples of texts. -/
namespace G9
open PySem PySem.Spec L2 PyProof.Rows
/-- one more key, where it is not yet there -/
def keyInT (acc : List (List Str)) (k : List Str) : List (List Str) := if k ∈ acc then acc else acc ++ [k]
/-- the keys of dict(pairs), each once -/
def uniqT : List PyData → List (List Str) → Option (List (List Str))
  | [], acc => some acc
  | .tuple [.tuple xs, _] :: r, acc => (strsD xs).bind fun ss => uniqT r (keyInT acc ss)
  | _, _ => none
/-- the key as the kit tells it -/
def nk (ss : List Str) : NestedKey := .tup (ss.map .text)
theorem text_inj : ∀ {a b : List Str}, a.map NestedKey.text = b.map NestedKey.text → a = b
  | [], [], _ => rfl
  | [], _ :: _, e => by simp at e
  | _ :: _, [], e => by simp at e
  | x :: a, y :: b, e => by
    simp only [List.map_cons, List.cons.injEq, NestedKey.text.injEq] at e
    rw [e.1, text_inj e.2]
theorem nk_inj {a b : List Str} (h : nk a = nk b) : a = b := by
  unfold nk at h
  exact text_inj (NestedKey.tup.inj h)
theorem nk_depth (ss : List Str) : (nk ss).depth ≤ 8 := by
  have go : ∀ ss : List Str, NestedKey.depthAll (ss.map NestedKey.text) ≤ 2 := by
    intro ss
    induction ss with
    | nil => simp [NestedKey.depthAll]
    | cons x xs ih =>
      simp only [List.map_cons, NestedKey.depthAll, NestedKey.depth]
      omega
  have z := go ss
  unfold nk
  simp only [NestedKey.depth]
  omega
theorem nk_all {h : Heap} : ∀ {us : List Value} {ss : List Str}, StrsAre us ss → NestedAll h (ss.map .text) us
  | _, _, .nil => .nil
  | _, _, .cons x t r => .cons (.text x t) (nk_all r)
theorem nk_is {P : Program} {w : World} {h : Heap} {a : Addr} {ss : List Str} (t : TsAt h (.ref a) ss) : (nestedKind P w).is h (nk ss) a := by
  obtain ⟨b, its, e, ⟨o, ho, hc, n, hd⟩, q⟩ := t
  cases e
  exact ⟨.tup ho hc hd (by simpa using nk_all q), nk_depth ss⟩
/-- a raw dict at d, its keys stand at bs -/
def DKO (d : Addr) (bs : List Addr) : HO := .ext fun h => (d == sysModules) = false ∧ ∃ es ep, h.DictRaw d es ep ∧ es.size = bs.length ∧ ∀ i (hi : i < es.size), ∃ b, bs[i]? = some b ∧ es[i].key = .ref b
section
variable {K : PySem.W.Frag} {H : Hp}
theorem stored_pair {xs : List (NestedKey × Addr × Value)} {acc : List (List Str)} {ss : List Str} {a : Addr} {v : Value} (p : Paired (fun x s => x.1 = nk s ∧ TuAt K H (.ref x.2.1) s) xs acc) (ha : TuAt K H (.ref a) ss) :
    Paired (fun x s => x.1 = nk s ∧ TuAt K H (.ref x.2.1) s) (storedH xs (nk ss) a v) (keyInT acc ss) := by
  have iff : (atKey xs (nk ss)).isSome = true ↔ ss ∈ acc := by
    unfold atKey
    rw [Option.isSome_map, List.find?_isSome]
    constructor
    · rintro ⟨x, hx, e⟩
      have e := of_decide_eq_true e
      induction p with
      | nil => cases hx
      | cons h t ih =>
        rcases List.mem_cons.mp hx with rfl | hx
        · rw [h.1] at e
          rw [nk_inj e]
          exact List.mem_cons_self
        · exact List.mem_cons_of_mem _ (ih hx)
    · intro hs
      induction p with
      | nil => cases hs
      | cons h t ih =>
        rcases List.mem_cons.mp hs with rfl | hs
        · exact ⟨_, List.mem_cons_self, decide_eq_true h.1⟩
        · obtain ⟨x, hx, e⟩ := ih hs
          exact ⟨x, List.mem_cons_of_mem _ hx, e⟩
  unfold storedH keyInT
  by_cases hs : ss ∈ acc
  · rw [if_pos (iff.mpr hs), if_pos hs]
    clear iff
    clear hs
    induction p with
    | nil => exact .nil
    | cons h t ih =>
      refine .cons ?_ ih
      unfold putAt
      split <;> exact h
  · rw [if_neg (fun z => hs (iff.mp z)), if_neg hs]
    clear iff
    clear hs
    induction p with
    | nil => exact .cons ⟨rfl, ha⟩ .nil
    | cons h t ih => exact .cons h ih
theorem all_pair : ∀ {ps : List (NestedKey × Addr × Value)} {kss : List (List Str)} {xs : List (NestedKey × Addr × Value)} {acc : List (List Str)}, Paired (fun x s => x.1 = nk s ∧ TuAt K H (.ref x.2.1) s) ps kss → Paired (fun x s => x.1 = nk s ∧ TuAt K H (.ref x.2.1) s) xs acc →
    Paired (fun x s => x.1 = nk s ∧ TuAt K H (.ref x.2.1) s) (storedAllH xs ps) (kss.foldl keyInT acc)
  | _, _, _, _, .nil, q => q
  | (k, a, v) :: ps, ss :: kss, xs, acc, .cons h t, q => by
    obtain ⟨h1, h2⟩ := h
    have h1 : k = nk ss := h1
    subst h1
    exact all_pair (ps := ps) (kss := kss) (xs := storedH xs (nk ss) a v) (acc := keyInT acc ss) t (stored_pair q h2)
end
/-- dict(pairs) -/
def rDictT (K : PySem.W.Frag) : List V → Hp → VK → Prop := fun xs H Q => ∃ (a : Addr) (ps : List Addr) (kss : List (List Str)), xs = [.ref a] ∧ SqL K H a (ps.map V.ref) ∧ Paired (fun p ss => ∃ t v, SqT K H p [V.ref t, v] ∧ SqT K H t (ss.map V.str)) ps kss ∧
  ∀ d bs, H d = none → Paired (TuAt K H) (bs.map V.ref) (kss.foldl keyInT []) → bs.length ≤ sizeLine → Q (.ref d) (upd H d (DKO d bs))
def rListT : List V → Hp → VK → Prop := fun xs H Q => ∃ d bs, xs = [.ref d] ∧ H d = some (DKO d bs) ∧ bs.length ≤ sizeLine ∧ ∀ p, H p = none → Q (.ref p) (upd H p (.lst (bs.map V.ref)))
section
variable {X : Cx}
theorem pairsT {pins : List (Addr × Obj)} {σ : L2.St} {H : Hp} {s : Shared} (I : Inv X pins σ H s) : ∀ {ps : List Addr} {kss : List (List Str)}, Paired (fun p ss => ∃ t v, SqT X.K H p [V.ref t, v] ∧ SqT X.K H t (ss.map V.str)) ps kss →
    ∃ qs : List (NestedKey × Addr × Value), Paired (fun x ss => x.1 = nk ss ∧ TuAt X.K H (.ref x.2.1) ss) qs kss ∧ (∀ x ∈ qs, (nestedKind X.prog X.w).is s.heap x.1 x.2.1) ∧ qs.length = ps.length ∧
      ∀ (j : Nat) (b : Addr), ps[j]? = some b → ∃ x, qs[j]? = some x ∧ s.heap.IsTuple b #[.ref x.2.1, x.2.2]
  | _, _, .nil => ⟨[], .nil, (fun _ h => nomatch h), rfl, fun j b e => by simp at e⟩
  | p :: ps, ss :: kss, .cons h r => by
    obtain ⟨t, v, h1, h2⟩ := h
    obtain ⟨qs, a1, a2, a3, a4⟩ := pairsT I r
    obtain ⟨its, rv, ht, _⟩ := I.tuple h1
    obtain ⟨its2, rv2, ht2, _⟩ := I.tuple h2
    obtain ⟨u, y, rfl, ru, ry⟩ := vals2 rv
    obtain rfl : u = Value.ref t := ru
    refine ⟨(nk ss, t, y) :: qs, .cons ⟨rfl, t, rfl, h2⟩ a1, fun x hx => ?_, by rw [List.length_cons, List.length_cons, a3], fun j b e => ?_⟩
    · rcases List.mem_cons.mp hx with rfl | hx
      · exact nk_is ⟨t, its2, rfl, ht2, Vals.strs rv2⟩
      · exact a2 x hx
    · cases j with
      | zero =>
        have e : p = b := Option.some.inj e
        subst e
        exact ⟨_, rfl, ht⟩
      | succ j =>
        obtain ⟨x, e1, e2⟩ := a4 j b (by simpa using e)
        exact ⟨x, by simpa using e1, e2⟩
theorem call_dictT (hc : X.calm = true) (hu : X.A.units + 65 < cLine) : CallR X (.type "dict") (rDictT X.K) := by
  intro pins s σ H xs us Q I r h
  obtain ⟨a, ps, kss, rfl, ha, hp, q⟩ := h
  obtain ⟨u, rfl, rx⟩ := vals1 r
  obtain rfl : u = Value.ref a := rx
  obtain ⟨its, rv, pl, hz⟩ := I.list ha
  obtain rfl := refs_at rv
  rw [List.length_map] at hz
  obtain ⟨qs, a1, a2, a3, a4⟩ := pairsT I hp
  obtain ⟨o, n, ho, hcl, hd, hdat⟩ := pl
  let prs : List (Value × Value) := qs.map fun x => (.ref x.2.1, x.2.2)
  have hlen : prs.length = ps.length := by rw [List.length_map, a3]
  have st := nestedKind_stays (prog := X.prog) (w := X.w)
  have all := all_pair a1 (xs := []) (acc := []) .nil
  refine call_dict_pairsH (knd := nestedKind X.prog X.w) (ps := qs) (wr := []) (PairArg.list a (ps.map Value.ref).toArray (fun j => ps.getD j 0) prs) (I.ok.hd hc) ?_ ⟨⟨o, n, ho, hcl, hd, hdat⟩, by rw [List.size_toArray, List.length_map, hlen], fun j k v hj => ?_⟩ ⟨hlen ▸ a3, fun i key v e => ?_⟩
    (fun h' hk x hx => st.all h' (fun b o _ e => hk b o (Nat.ne_of_lt (Heap.lt_size e)) (fun z => nomatch z) e) _ _ (a2 x hx)) (by rw [hlen]; exact hz) fun h' tk hd' hk => ?_
  · show X.A.units + 2 + 8 < cLine
    omega
  · rw [List.getElem?_map] at hj
    cases e : qs[j]? with
    | none => rw [e] at hj; cases hj
    | some x =>
      rw [e] at hj
      cases hj
      have lt : j < ps.length := by rw [← a3]; exact (List.getElem?_eq_some_iff.mp e).1
      have e2 : ps[j]? = some (ps.getD j 0) := by rw [List.getD_eq_getElem?_getD, List.getElem?_eq_getElem lt]; rfl
      obtain ⟨x', e3, e4⟩ := a4 j _ e2
      rw [e] at e3
      cases e3
      refine ⟨?_, .inl e4⟩
      rw [List.getElem?_toArray, List.getElem?_map, e2]
      rfl
  · have e : prs[i]? = some (key, v) := e
    rw [List.getElem?_map] at e
    cases e2 : qs[i]? with
    | none => rw [e2] at e; cases e
    | some x =>
      rw [e2] at e
      cases e
      exact ⟨x.1, x.2.1, rfl, rfl⟩
  · obtain ⟨es, ep, r1, r2, r3⟩ := hd'.raw
    have hb : (storedAllH [] qs).length ≤ sizeLine := by
      have z := storedAllH_length qs []
      rw [List.length_nil, a3] at z
      omega
    refine ⟨.ref s.heap.objs.size, upd H s.heap.objs.size (DKO s.heap.objs.size ((storedAllH [] qs).map fun x => x.2.1)), I.laid (t' := tk) (fun b o e => hk b o (fun z => nomatch z) e) (Nat.le_refl _) ⟨⟨beq_eq_false_iff_ne.mpr (Nat.ne_of_gt I.big), es, ep, r1, by rw [List.length_map]; exact r2, fun i hi => ?_⟩, ?_, fun h1 h2 p k => ?_⟩, rfl, q _ _ (I.hok.fresh (Nat.le_refl _)) ?_ (by rw [List.length_map]; exact hb)⟩
    · obtain ⟨y, e1, e2, _⟩ := r3 i hi
      exact ⟨y.2.1, by rw [List.getElem?_map, e1]; rfl, e2⟩
    · obtain ⟨o, ho, _⟩ := r1
      exact ⟨o, ho⟩
    · obtain ⟨z, es, ep, q1, q2⟩ := p
      exact ⟨z, es, ep, q1.at k, q2⟩
    · generalize storedAllH [] qs = ys at all
      generalize kss.foldl keyInT [] = zs at all
      induction all with
      | nil => exact .nil
      | cons h t ih => exact .cons h.2 ih
theorem call_listT (hc : X.calm = true) : CallR X (.type "list") rListT := by
  intro pins s σ H xs us Q I r h
  obtain ⟨d, bs, rfl, hd, hz, q⟩ := h
  obtain ⟨u, rfl, rx⟩ := vals1 r
  obtain rfl : u = Value.ref d := rx
  obtain ⟨z, es, ep, r1, r2, r3⟩ := (I.hok d _ hd).1
  refine PySem.W.kdl_call (KdlSrc.rawDict z (es := es) (ep := ep)) (I.ok.hd hc) r1 (by omega) fun h' tk acc c kp e it => ?_
  have ea : acc.toList = bs.map Value.ref := by
    refine List.ext_getElem? fun j => ?_
    rw [List.getElem?_map, Array.getElem?_toList]
    by_cases hj : j < es.size
    · have hj' : j < acc.size := by rw [it.1]; exact hj
      rw [Array.getElem?_eq_getElem hj']
      obtain ⟨hi, e1⟩ := it.2 j _ (Array.getElem?_eq_getElem hj')
      obtain ⟨b, e2, e3⟩ := r3 j hi
      rw [e1, e3, e2]
      rfl
    · rw [Array.getElem?_eq_none (by rw [it.1]; omega), List.getElem?_eq_none (by omega)]
      rfl
  have rv : Vals (bs.map V.ref) acc.toList := by rw [ea]; exact vals_refs _
  refine ⟨.ref s.heap.objs.size, _, I.laid (t' := tk) (o := .lst (bs.map V.ref)) kp (Nat.le_refl _) ⟨by rw [List.length_map]; exact hz, acc.toList, c, rv, by rw [Array.toArray_toList]; exact e⟩, rfl, q _ (I.hok.fresh (Nat.le_refl _))⟩
end
theorem uniqT_go {K : PySem.W.Frag} {H : Hp} {M : List Addr} : ∀ {xs : List PyData} {vs : List V} {acc ks : List (List Str)}, RepL K H M vs xs → uniqT xs acc = some ks →
    ∃ (ps : List Addr) (kss : List (List Str)), vs = ps.map V.ref ∧ Paired (fun p ss => ∃ t v, SqT K H p [V.ref t, v] ∧ SqT K H t (ss.map V.str)) ps kss ∧ kss.foldl keyInT acc = ks
  | [], _, acc, ks, .nil, e => by cases e; exact ⟨[], [], rfl, .nil, rfl⟩
  | .tuple [.tuple ys, d] :: xs, _, acc, ks, .cons r t, e => by
    have e : (strsD ys).bind (fun ss => uniqT xs (keyInT acc ss)) = some ks := e
    cases q0 : strsD ys with
    | none => rw [q0] at e; cases e
    | some ss =>
      rw [q0] at e
      have e : uniqT xs (keyInT acc ss) = some ks := e
      obtain ⟨ps, kss, h1, h2, h3⟩ := uniqT_go t e
      cases r with
      | tup hs q =>
        cases q with
        | cons q1 q2 =>
          cases q2 with
          | cons q2 q3 =>
            cases q3
            cases q1 with
            | tup ht qt =>
              rw [strsD_inv q0] at qt
              rw [qt.strs] at ht
              exact ⟨_ :: ps, ss :: kss, by rw [h1]; rfl, .cons ⟨_, _, hs, ht⟩ h2, h3⟩
  | .none :: _, _, _, _, .cons _ _, e => by cases e
  | .bool _ :: _, _, _, _, .cons _ _, e => by cases e
  | .int _ :: _, _, _, _, .cons _ _, e => by cases e
  | .str _ :: _, _, _, _, .cons _ _, e => by cases e
  | .list _ :: _, _, _, _, .cons _ _, e => by cases e
  | .dict _ :: _, _, _, _, .cons _ _, e => by cases e
  | .tuple [] :: _, _, _, _, .cons _ _, e => by cases e
  | .tuple [x] :: _, _, _, _, .cons _ _, e => by cases x <;> cases e
  | .tuple (.tuple _ :: _ :: _ :: _) :: _, _, _, _, .cons _ _, e => by cases e
  | .tuple (.none :: _ :: _) :: _, _, _, _, .cons _ _, e => by cases e
  | .tuple (.bool _ :: _ :: _) :: _, _, _, _, .cons _ _, e => by cases e
  | .tuple (.int _ :: _ :: _) :: _, _, _, _, .cons _ _, e => by cases e
  | .tuple (.list _ :: _ :: _) :: _, _, _, _, .cons _ _, e => by cases e
  | .tuple (.str _ :: _ :: _) :: _, _, _, _, .cons _ _, e => by cases e
  | .tuple (.dict _ :: _ :: _) :: _, _, _, _, .cons _ _, e => by cases e
end G9

/-! S7: sorted of a tuple, of a dict: texts, tuples of texts. -/
namespace G9
open PySem PySem.Spec L2 PyProof.Rows
/-- gathering the items of arg gives vs -/
def Col (P : Program) (w : World) (A : Around) (s : Shared) (arg : Value) (vs : List Value) : Prop := ∀ (E : Value → Shared → Prop) (Q : List Value → Shared → Prop),
  (∀ h' tk, (∀ b o, s.heap.get? b = some o → h'.get? b = some o) → Q vs { s with heap := h', toks := tk }) → wpAny (model P w) A (collect arg) Q E s
section
variable {X : Cx} {pins : List (Addr × Obj)} {σ : L2.St} {H : Hp} {s : Shared} {arg : Value} {its : List Value} {Q : VK}
theorem sortS_go {ss : List Str} (I : Inv X pins σ H s) (hc : Col X.prog X.w X.A.in1 s arg its) (hS : StrsAre its ss) (h64 : ss.length < 64) (q : ∀ ys p, ys.Perm ss → sortedS ys = true → H p = none → Q (.ref p) (upd H p (.lst (ys.map V.str)))) :
    wpAny (model X.prog X.w) X.A (call (.builtin "sorted") [arg]) (EP X pins σ Q) X.xe s := by
  have hl : its.length = ss.length := hS.length
  refine Calls.call_function_entry kind_sorted plain_sorted entry_sorted (args_sorted1 _) ?_
  unfold Builtin.«sorted»
  refine wpAny_bind (m := checkCount "sorted" 1 1 _) (wpAny_pure (wpAny_bind (hc _ _ fun h1 tk k1 => ?_)))
  have I1 : Inv X pins σ H { s with heap := h1, toks := tk } := I.kept k1
  refine wpAny_bind (wpAny_newList ?_ (by rw [hl, sizeLine_eq]; omega))
  have hL : (h1.push (seqObj "list" its.toArray 0)).get? h1.objs.size = some (seqObj "list" its.toArray 0) := Heap.get?_push_size _ rfl
  refine wpAny_bind (wpAny_holding (wpAny_call_entry slot_list_sort ⟨_, hL, rfl⟩ entry_list_sort
    (list_sort_treeK strKind_oneLt (s := { s with heap := h1.push (seqObj "list" its.toArray 0), toks := tk }) hL hS.keysOf (fun v₁ v₂ rest e => keyKind_strs (by rw [← e]; exact hS)) (by rw [hl]; exact h64) fun st hp hs => ⟨_, rfl, ?_⟩) (args_list_sort _)))
  obtain ⟨ys, a1, a2, a3⟩ := sorted_out_str hS hp hs
  obtain ⟨c, hc'⟩ := sortedHeap_at (vs := its) (out := (arrOf st).map (·.2)) hL
  refine wpAny_pure ⟨_, rfl, .ref h1.objs.size, upd H h1.objs.size (.lst (ys.map V.str)), I1.laid (t' := tk) (fun b o e => ?_) (Nat.le_refl _) ⟨?_, _, c, vals_of_strs a1, by rw [Array.toArray_toList]; exact hc'⟩, rfl, q ys _ a2 a3 (I1.hok.fresh (Nat.le_refl _))⟩
  · have lt : b < h1.objs.size := Heap.lt_size e
    rw [sortedHeap_old (Nat.ne_of_lt lt) (by rw [size_push']; exact Nat.lt_succ_of_lt lt)]
    exact Heap.get?_push_of_some _ e
  · rw [List.length_map, a2.length_eq, sizeLine_eq]
    omega
theorem sortSS_go {vs : List V} {nss : List (List Str)} (hu : X.A.units + 2 < cLine) (I : Inv X pins σ H s) (hcol : Col X.prog X.w X.A.in1 s arg its) (rv : Vals vs its) (hz : vs.length ≤ sizeLine) (hx : Paired (TuAt X.K H) vs nss)
    (q : ∀ ys mss p, Paired (TuAt X.K H) ys mss → mss.Perm nss → mss.Pairwise (fun a b => ltSS b a = false) → H p = none → Q (.ref p) (upd H p (.lst ys))) :
    wpAny (model X.prog X.w) X.A (call (.builtin "sorted") [arg]) (EP X pins σ Q) X.xe s := by
  have tu : ∀ {t : Addr} {ss : List Str}, SqT X.K H t (ss.map V.str) → TsAt s.heap (.ref t) ss := fun ht => by
    obtain ⟨its2, r2, p2, _⟩ := I.tuple ht
    exact ⟨_, its2, rfl, p2, Vals.strs r2⟩
  obtain ⟨e1, e2⟩ := refs_back rv fun x m => by
    obtain ⟨ss, t, e, _⟩ := paired_mem hx x m
    exact ⟨t, e⟩
  classical
  let k : Value → List Str := fun v => if h : ∃ ss, TsAt s.heap v ss then h.choose else []
  have hk : ∀ {v : Value} {ss : List Str}, TsAt s.heap v ss → k v = ss := fun {v ss} h => by
    have z : ∃ ss, TsAt s.heap v ss := ⟨ss, h⟩
    show (if h : ∃ ss, TsAt s.heap v ss then h.choose else []) = ss
    rw [dif_pos z]
    exact z.choose_spec.inj h
  have all : ∀ {xs : List V} {nss : List (List Str)} {its : List Value}, Paired (TuAt X.K H) xs nss → Vals xs its → nss = its.map k ∧ ∀ v ∈ its, ∃ t, v = .ref t ∧ SqT X.K H t ((k v).map V.str) := by
    intro xs nss its p
    induction p generalizing its with
    | nil => intro r; cases r; exact ⟨rfl, fun _ h => nomatch h⟩
    | cons h t ih =>
      intro r
      cases r with
      | cons r0 r =>
        obtain ⟨i1, i2⟩ := ih r
        obtain ⟨t, rfl, ht⟩ := h
        cases r0
        have e := hk (tu ht)
        refine ⟨by rw [List.map_cons, e, i1], fun v hv => ?_⟩
        rcases List.mem_cons.mp hv with rfl | hv
        · exact ⟨t, rfl, by rw [e]; exact ht⟩
        · exact i2 v hv
  obtain ⟨en, hv⟩ := all hx rv
  have hp : ∀ v ∈ its, TsAt s.heap v (k v) := fun v hm => by
    obtain ⟨t, rfl, ht⟩ := hv v hm
    exact tu ht
  have hl := rv.length
  refine Calls.call_function_entry kind_sorted plain_sorted entry_sorted (args_sorted1 _) ?_
  unfold Builtin.«sorted»
  refine wpAny_bind (m := checkCount "sorted" 1 1 _) (wpAny_pure (wpAny_bind (hcol _ _ fun h1 tk k1 => ?_)))
  have I1 : Inv X pins σ H { s with heap := h1, toks := tk } := I.kept k1
  refine wpAny_bind (wpAny_newList ?_ (by rw [← hl]; exact hz))
  have hL : (h1.push (seqObj "list" its.toArray 0)).get? h1.objs.size = some (seqObj "list" its.toArray 0) := Heap.get?_push_size _ rfl
  refine wpAny_bind (wpAny_holding (wpAny_call_entry slot_list_sort ⟨_, hL, rfl⟩ entry_list_sort
    (SrtO.list_sort_ord (s := { s with heap := h1.push (seqObj "list" its.toArray 0), toks := tk }) (swo_ss k) hL (by rw [← hl]; exact hz) (fun h2 => ?_) fun out g1 g2 => ⟨_, rfl, ?_⟩) (args_list_sort _)))
  · refine sortable_ss (s := { s with heap := h1.push (seqObj "list" its.toArray 0), toks := tk }) (k := k) (by show X.A.units + 1 + 1 < cLine; omega) (by omega) (fun v hm => (hp v hm).keeps fun b o e _ => Heap.get?_push_of_some _ (k1 b o e)) fun o e => ?_
    have e' : some o = some (seqObj "list" its.toArray 0) := e.symm.trans hL
    cases e'
    intro c
    exact absurd (Value.type.inj c) (by decide)
  · have h3 : ∀ u ∈ out, ∃ a, u = Value.ref a := fun u hu => e2 u (g2.perm.mem_iff.mp hu)
    obtain ⟨c, hc'⟩ := sortedHeap_at (vs := its) (out := out.toArray) hL
    have pr : ∀ {out : List Value}, (∀ u ∈ out, u ∈ its) → Paired (TuAt X.K H) (out.map backV) (out.map k) := by
      intro out
      induction out with
      | nil => exact fun _ => .nil
      | cons v out ih =>
        intro m
        obtain ⟨t, e, ht⟩ := hv v (m v List.mem_cons_self)
        exact .cons ⟨t, by rw [e]; rfl, ht⟩ (ih fun u hu => m u (List.mem_cons_of_mem _ hu))
    refine wpAny_pure ⟨_, rfl, .ref h1.objs.size, upd H h1.objs.size (.lst (out.map backV)), I1.laid (t' := tk) (fun b o e => ?_) (Nat.le_refl _) ⟨?_, out, c, vals_back h3, hc'⟩, rfl, q _ _ _ (pr fun u hu => g2.perm.mem_iff.mp hu) (by rw [en]; exact g2.perm.map k) (List.pairwise_map.mpr g1) (I1.hok.fresh (Nat.le_refl _))⟩
    · have lt : b < h1.objs.size := Heap.lt_size e
      rw [sortedHeap_old (Nat.ne_of_lt lt) (by rw [size_push']; exact Nat.lt_succ_of_lt lt)]
      exact Heap.get?_push_of_some _ e
    · rw [List.length_map, g2.perm.length_eq, ← hl]
      exact hz
theorem col_tuple {a : Addr} {items : Array Value} (h : ∃ o, s.heap.get? a = some o ∧ o.cls = .type "tuple" ∧ ∃ n, o.data = .seq items n) (hz : items.size ≤ sizeLine) {A : Around} : Col X.prog X.w A s (.ref a) items.toList := by
  obtain ⟨o, ho, hc, n, hd⟩ := h
  exact fun E Q q => wpAny_collect_seq a (.inr rfl) ho hc hd (fun h' k => q h' s.toks k) hz
/-- sorted of a tuple -/
def rSortTu (K : PySem.W.Frag) : List V → Hp → VK → Prop := fun vs H Q => ∃ (a : Addr) (xs : List V), vs = [V.ref a] ∧ SqT K H a xs ∧
  ((∃ ss : List Str, xs = ss.map V.str ∧ ss.length < 64 ∧ ∀ ys p, ys.Perm ss → sortedS ys = true → H p = none → Q (.ref p) (upd H p (.lst (ys.map V.str)))) ∨
    ∃ nss, Paired (TuAt K H) xs nss ∧ ∀ ys mss p, Paired (TuAt K H) ys mss → mss.Perm nss → mss.Pairwise (fun a b => ltSS b a = false) → H p = none → Q (.ref p) (upd H p (.lst ys)))
theorem cr_sortTu (hu : X.A.units + 2 < cLine) : CallR X (.builtin "sorted") (rSortTu X.K) := by
  intro pins s σ H vs us Q I r h
  obtain ⟨a, xs, rfl, ha, h⟩ := h
  obtain ⟨its, rv, ht, hz⟩ := I.tuple ha
  rw [Vals.ref1 r]
  have hsz : its.toArray.size ≤ sizeLine := by rw [List.size_toArray, ← rv.length]; exact hz
  have col := col_tuple (X := X) (A := X.A.in1) (s := s) ht hsz
  rcases h with ⟨ss, rfl, h64, q⟩ | ⟨nss, hp, q⟩
  · exact sortS_go I col (Vals.strs rv) h64 q
  · exact sortSS_go hu I col rv hz hp q
/-- sorted of a dict with keys that are tuples of texts -/
def rSortDT (K : PySem.W.Frag) : List V → Hp → VK → Prop := fun xs H Q => ∃ (d : Addr) (bs : List Addr) (nss : List (List Str)), xs = [.ref d] ∧ H d = some (DKO d bs) ∧ bs.length ≤ sizeLine ∧ Paired (TuAt K H) (bs.map V.ref) nss ∧
  ∀ ys mss p, Paired (TuAt K H) ys mss → mss.Perm nss → mss.Pairwise (fun a b => ltSS b a = false) → H p = none → Q (.ref p) (upd H p (.lst ys))
theorem cr_sortDT (hc : X.calm = true) (hu : X.A.units + 2 < cLine) : CallR X (.builtin "sorted") (rSortDT X.K) := by
  intro pins s σ H vs us Q I r h
  obtain ⟨d, bs, nss, rfl, hd, hz, hp, q⟩ := h
  rw [Vals.ref1 r]
  obtain ⟨z, es, ep, r1, r2, r3⟩ := (I.hok d _ hd).1
  refine sortSS_go (its := bs.map Value.ref) hu I (fun E R qq => PySem.W.kdu_collect (KdlSrc.rawDict z (es := es) (ep := ep)) (I.ok.hd hc) r1 (by omega) fun h' tk acc k it => ?_) (vals_refs bs) (by rw [List.length_map]; exact hz) hp q
  have ea : acc.toList = bs.map Value.ref := by
    refine List.ext_getElem? fun j => ?_
    rw [List.getElem?_map, Array.getElem?_toList]
    by_cases hj : j < es.size
    · have hj' : j < acc.size := by rw [it.1]; exact hj
      rw [Array.getElem?_eq_getElem hj']
      obtain ⟨hi, e1⟩ := it.2 j _ (Array.getElem?_eq_getElem hj')
      obtain ⟨b, e2, e3⟩ := r3 j hi
      rw [e1, e3, e2]
      rfl
    · rw [Array.getElem?_eq_none (by rw [it.1]; omega), List.getElem?_eq_none (by omega)]
      rfl
  rw [ea]
  exact qq h' tk k
end
end G9

/-! M6: bools, displays, subscripts, slices, truth, some built-ins, over wants. -/
namespace G9
open PySem PySem.Spec L2 PyProof.Rows
section
variable {K : PySem.W.Frag} {W : Wk} {B : List Bs} {M0 : List Addr} {ρ : En} {σ : L2.St} {H : Hp} {M : List Addr} {v : V} {u : U} {fr : Bool}
theorem Res.val {x : PyData} (r : Res W K B M0 ρ σ H M v u fr) (e : u = .d x) : Rep K H M v x := by subst e; exact r.rep
theorem datas_rep : ∀ {vs : List V} {us : List U} {xs : List PyData}, Paired (RepU W K H M) vs us → datas us = some xs → RepL K H M vs xs
  | _, _, _, .nil, e => by cases e; exact .nil
  | _, .d x :: us, _, .cons r t, e => by
    have e : (datas us).map (x :: ·) = some _ := e
    cases q : datas us with
    | none => rw [q] at e; cases e
    | some ys => rw [q] at e; cases e; exact .cons r (datas_rep t q)
  | _, .deck :: us, _, .cons r t, e => by cases e
theorem Paired.moveU {M' : List Addr} {H' : Hp} (k : Kp M H H') (n : ∀ a ∈ M', a ∈ M ∨ H a = none) {vs : List V} {us : List U} (p : Paired (RepU W K H M) vs us) : Paired (RepU W K H' M') vs us := L2.Paired.mapP p fun _ _ r => r.move k n
end
section
variable {Wp : Wk → Prop} {E : XK} {X : Cx} {ea eb ec e : Expr} {es rest : List Expr} {a b c : DO} {da db : DE} {dc ta tb : DT} {aa : DA} {pos p2 : Pos}
theorem jAnd1 {op : BoolOp} (ja : JE Wp E X ea da) : JE Wp E X (.BoolOp op [ea] pos) da := pe_one ja
theorem jAnd (ja : JE Wp E X ea da) (jb : JE Wp E X (.BoolOp .And (eb :: rest) pos) db) : JE Wp E X (.BoolOp .And (ea :: eb :: rest) pos) (dAnd da db) := by
  refine (pe_and ja jb).weak fun σ H Q ⟨W, B, M0, ρ, M, P, R, w, G, d, x, h⟩ => ?_
  refine lE_go w G d x fun u fr ρ1 v H1 M1 c r => ?_
  obtain ⟨k, rfl, c⟩ := c
  refine ⟨k, Rep.bool_inv r.rep, ?_⟩
  cases k with
  | true => exact lE_go' w r.gd c x h
  | false => exact h _ _ _ _ _ _ c (Res.bool (r.gd.mono (Nat.le_add_right _ _)) false)
theorem jOr (ja : JE Wp E X ea da) (jb : JE Wp E X (.BoolOp .Or (eb :: rest) pos) db) : JE Wp E X (.BoolOp .Or (ea :: eb :: rest) pos) (dOr da db) := by
  refine (pe_or ja jb).weak fun σ H Q ⟨W, B, M0, ρ, M, P, R, w, G, d, x, h⟩ => ?_
  refine lE_go w G d x fun u fr ρ1 v H1 M1 c r => ?_
  obtain ⟨k, rfl, c⟩ := c
  refine ⟨k, Rep.bool_inv r.rep, ?_⟩
  cases k with
  | true => exact h _ _ _ _ _ _ c (Res.bool (r.gd.mono (Nat.le_add_right _ _)) true)
  | false => exact lE_go' w r.gd c x h
theorem jNot (ja : JE Wp E X ea da) : JE Wp E X (.UnaryOp .Not ea pos) (dNot da) := by
  refine (pe_not ja).weak fun σ H Q ⟨W, B, M0, ρ, M, P, R, w, G, d, x, h⟩ => ?_
  refine lE_go w G d x fun u fr ρ1 v H1 M1 c r => ?_
  obtain ⟨k, rfl, c⟩ := c
  exact ⟨k, Rep.bool_inv r.rep, h _ _ _ _ _ _ c (Res.bool r.gd _)⟩
theorem jIte (jc : JT Wp E X ec dc) (ja : JE Wp E X ea da) (jb : JE Wp E X eb db) : JE Wp E X (.IfExp ec ea eb pos) (dIte dc da db) := by
  refine (pe_ifExp jc ja jb).weak fun σ H Q ⟨W, B, M0, ρ, M, P, R, w, G, d, x, h⟩ => ?_
  refine lT_go w G d x fun k ρ1 H1 M1 c G1 => ?_
  cases k with
  | true => exact lE_go' w G1 c x fun u fr ρ' v H' M' c r => h _ _ _ _ _ _ c (r.mono (Nat.add_le_add_left (Nat.le_add_right _ _) _))
  | false => exact lE_go' w G1 c x fun u fr ρ' v H' M' c r => h _ _ _ _ _ _ c (r.mono (Nat.add_le_add_left (Nat.le_add_left _ _) _))
/-! ### truth -/
theorem tru_go {K : PySem.W.Frag} {H : Hp} {M : List Addr} {v : V} {x : PyData} {C : Bool → Prop} {Q : Bool → Hp → Prop} (r : RepPk K H M v x) (d : truS x C) (h : ∀ k, C k → Q k H) : ∃ k, TruV K v H k ∧ Q k H := by
  cases x with
  | none => obtain rfl : v = .non := Rep.none_inv r; exact ⟨_, rfl, h _ d⟩
  | bool i => obtain rfl := r.bool_inv; exact ⟨_, rfl, h _ d⟩
  | int i => obtain rfl := r.int_inv; exact ⟨_, rfl, h _ d⟩
  | str i => obtain rfl := r.str_inv; exact ⟨_, ⟨d.1, rfl⟩, h _ d.2⟩
  | list xs =>
    obtain ⟨a, vs, rfl, ha, rl⟩ := r.list_inv
    have e : vs.isEmpty = xs.isEmpty := by cases rl <;> rfl
    exact ⟨_, .inl ⟨vs, SqL.of ha, rfl⟩, by rw [e]; exact h _ d⟩
  | tuple xs =>
    obtain ⟨a, vs, rfl, ha, rl⟩ := r.tup_inv
    have e : vs.isEmpty = xs.isEmpty := by cases rl <;> rfl
    exact ⟨_, .inr (.inl ⟨vs, ha, rfl⟩), by rw [e]; exact h _ d⟩
  | _ => exact (show False from d).elim
theorem kOf (ja : JE Wp E X ea da) (he : ∀ whole, isTrue ea X.env whole = (do let v ← whole; standAt ea.pos; holding [v] (truthy v))) : JT Wp E X ea (kE da) := by
  refine (pt_truth ja he).weak fun σ H Q ⟨W, B, M0, ρ, M, P, R, w, G, d, x, h⟩ => ?_
  refine lE_go w G d x fun u fr ρ1 v H1 M1 c r => ?_
  obtain ⟨y, e, c⟩ := c
  exact tru_go (Rep.pk (r.val e)) c fun k c => h _ _ _ _ c r.gd
theorem kName {i : Nat} (ja : JO Wp E X ea (oSlot i)) (he : ∀ whole, isTrue ea X.env whole = (do let v ← whole; standAt ea.pos; holding [v] (truthy v))) : JT Wp E X ea (kVar i) := by
  refine (pt_truth ja he).weak fun σ H Q ⟨W, B, M0, ρ, M, P, R, w, G, d, x, h⟩ => ?_
  obtain ⟨y, e, c⟩ := d
  have e' := e
  have e : (En.at ρ i).map (·.u) = some (.d y) := e
  cases q : En.at ρ i with
  | none => rw [q] at e; cases e
  | some en =>
    refine lO_go (P := fun o ρ1 => o = .slot i ∧ ρ1 = ρ) (R := R) w G ⟨en, q, rfl, rfl⟩ x fun oa ρ1 v H1 M1 c1 G1 k1 => ?_
    obtain ⟨rfl, rfl⟩ := c1
    exact tru_go (OpdOk.pk G1 k1 e') c fun k c => h _ _ _ _ c G1
theorem kCmp {cm : Cm} (hu : X.A.units + 65 < cLine) (ja : JO Wp E X ea a) (jb : JO Wp E X eb b) (hm : behindInMarks (cmO cm) eb = false) : JT Wp E X (.Compare ea [cmO cm] [eb] pos) (kE (dCmp cm a b)) := by
  refine (pt_cmpR (op_cm hu cm) ja jb hm).weak fun σ H Q ⟨W, B, M0, ρ, M, P, R, w, G, d, x, h⟩ => ?_
  exact two w G d x fun x y ρ2 v u H2 M2 G2 r1 r2 c => cm_go r1 r2 c fun k c => by
    obtain ⟨y, e, c⟩ := c
    cases e
    exact ⟨k, rfl, h _ _ _ _ c G2⟩
theorem kCmp2 {cm cm' : Cm} (hu : X.A.units + 65 < cLine) (ja : JO Wp E X ea a) (jb : JO Wp E X eb b) (jc : JO Wp E X ec c) (hm : lastMarks [cmO cm, cmO cm'] [eb, ec] = false) :
    JT Wp E X (.Compare ea [cmO cm, cmO cm'] [eb, ec] pos) (kE (dCmp2 cm cm' a b c)) := by
  refine (pt_chain (op_cm hu cm) (op_cm hu cm') ja jb jc hm).weak fun σ H Q ⟨W, B, M0, ρ, M, P, R, w, G, d, x, h⟩ => ?_
  refine lO_go w G d x fun oa ρ1 v H1 M1 c G1 k1 => lO_go' w G1.base c x.cons fun ob ρ2 u H2 M2 c2 G2 k2 => ?_
  obtain ⟨x', y, h1, h2, f⟩ := c2
  refine cm_go (OpdOk.pk G2 (OpdOk.later G2 k1) h1) (OpdOk.pk G2 k2 h2) f fun k f => ⟨k, rfl, ?_⟩
  cases k with
  | false =>
    obtain ⟨y, e, c⟩ := f
    cases e
    exact ⟨false, rfl, h _ _ _ _ c (G2.tail.mono (Nat.le_add_right _ _))⟩
  | true =>
    refine lO_go' w G2.tail.base f x.cons fun oc ρ3 z H3 M3 c3 G3 k3 => ?_
    obtain ⟨y', z', h3, h4, f⟩ := c3
    refine cm_go (OpdOk.pk G3 (OpdOk.later G3 k2) h3) (OpdOk.pk G3 k3 h4) f fun k f => ?_
    obtain ⟨y, e, c⟩ := f
    cases e
    exact ⟨k, rfl, h _ _ _ _ c G3.tail⟩
theorem kIsN {n : Nat} (ja : JO Wp E X ea a) : JT Wp E X (.Compare ea [.Is] [.Constant .none n p2] pos) (kE (dIsN a)) :=
  (pt_cmp (pc_isN ja)).weak fun σ H Q ⟨W, B, M0, ρ, M, P, R, w, G, d, x, h⟩ => one (Q := fun x H1 => ∃ c, x = .bl c ∧ Q c H1) (r := fun x H Q => Q (.bl (decide (x = .non))) H) w G d x fun x ρ2 v H2 M2 G2 r f => by
    rw [non_iff r]
    obtain ⟨y, e, c⟩ := f
    cases e
    exact ⟨_, rfl, h _ _ _ _ c G2⟩
theorem kNotN {n : Nat} (ja : JO Wp E X ea a) : JT Wp E X (.Compare ea [.IsNot] [.Constant .none n p2] pos) (kE (dNotN a)) :=
  (pt_cmp (pc_notN ja)).weak fun σ H Q ⟨W, B, M0, ρ, M, P, R, w, G, d, x, h⟩ => one (Q := fun x H1 => ∃ c, x = .bl c ∧ Q c H1) (r := fun x H Q => Q (.bl (!decide (x = .non))) H) w G d x fun x ρ2 v H2 M2 G2 r f => by
    rw [non_iff r]
    obtain ⟨y, e, c⟩ := f
    cases e
    exact ⟨_, rfl, h _ _ _ _ c G2⟩
theorem kNotC (ja : JT Wp E X ea ta) : JT Wp E X (.UnaryOp .Not ea pos) (kNot ta) :=
  (pt_not ja).weak fun σ H Q ⟨W, B, M0, ρ, M, P, R, w, G, d, x, h⟩ => lT_go w G d x fun k ρ1 H1 M1 c G1 => h _ _ _ _ c G1
theorem kAnd1 (ja : JT Wp E X ea ta) : JW Wp E X (.BoolOp .And [ea] pos) ta := pw_and1 ja
theorem kOr1 (ja : JT Wp E X ea ta) : JW Wp E X (.BoolOp .Or [ea] pos) ta := pw_or1 ja
theorem kAndC (ja : JT Wp E X ea ta) (jb : JW Wp E X (.BoolOp .And (eb :: rest) pos) tb) : JW Wp E X (.BoolOp .And (ea :: eb :: rest) pos) (kAnd ta tb) :=
  (pw_and ja jb).weak fun σ H Q ⟨W, B, M0, ρ, M, P, R, w, G, d, x, h⟩ => lT_go w G d x fun k ρ1 H1 M1 c G1 => by
    cases k with
    | true => exact lT_go' w G1 c x h
    | false => exact h _ _ _ _ c (G1.mono (Nat.le_add_right _ _))
theorem kOrC (ja : JT Wp E X ea ta) (jb : JW Wp E X (.BoolOp .Or (eb :: rest) pos) tb) : JW Wp E X (.BoolOp .Or (ea :: eb :: rest) pos) (kOr ta tb) :=
  (pw_or ja jb).weak fun σ H Q ⟨W, B, M0, ρ, M, P, R, w, G, d, x, h⟩ => lT_go w G d x fun k ρ1 H1 M1 c G1 => by
    cases k with
    | true => exact h _ _ _ _ c (G1.mono (Nat.le_add_right _ _))
    | false => exact lT_go' w G1 c x h
theorem kW (j : JW Wp E X ea ta) : JT Wp E X ea ta := j.pt
/-! ### argument lists, displays -/
theorem aNil0 : JA Wp E X [] aNil := pa_nil.weak fun σ H Q ⟨W, B, M0, ρ, M, P, R, w, G, d, x, h⟩ => h _ _ _ _ _ d G .nil
theorem aCons0 (je : JE Wp E X e da) (jr : JA Wp E X es aa) (hs : starEach (e :: es) X.env = (false, eval e X.env) :: starEach es X.env) : JA Wp E X (e :: es) (aCons da aa) := by
  refine (pa_cons je jr hs).weak fun σ H Q ⟨W, B, M0, ρ, M, P, R, w, G, d, x, h⟩ => ?_
  refine lE_go w G d x fun u fr ρ1 v H1 M1 c r => lA_go' w r.gd.base c x.cons fun us ρ2 vs H2 M2 c G2 p => ?_
  exact h _ _ _ _ _ c G2.tail (.cons (G2.repU r.rep) p)
theorem jTup {k : Nat} (j : JA Wp E X es aa) : JE Wp E X (.Tuple es k pos) (dTup aa) :=
  (pe_tup j).weak fun σ H Q ⟨W, B, M0, ρ, M, P, R, w, G, d, x, h⟩ => lA_go w G d x fun us ρ1 vs H1 M1 c G1 p => by
    obtain ⟨xs, e, hz, c⟩ := c
    have r := datas_rep p e
    exact ⟨by rw [r.length]; exact hz, fun p hp => h _ _ _ _ _ _ c (Res.newT G1 hp r)⟩
theorem jLst (j : JA Wp E X es aa) : JE Wp E X (.List es pos) (dLst aa) :=
  (pe_lst j).weak fun σ H Q ⟨W, B, M0, ρ, M, P, R, w, G, d, x, h⟩ => lA_go w G d x fun us ρ1 vs H1 M1 c G1 p => by
    obtain ⟨xs, e, hz, c⟩ := c
    have r := datas_rep p e
    exact ⟨by rw [r.length]; exact hz, fun p hp => h _ _ _ _ _ _ c (Res.new G1 hp r)⟩
/-! ### subscripts -/
theorem at_rep {K : PySem.W.Frag} {H : Hp} {M : List Addr} {vs : List V} {ds : List PyData} {i : Int} {y : PyData} (r : RepL K H M vs ds) (e : atI ds i = some y) : ∃ v, atI vs i = some v ∧ Rep K H M v y := by
  unfold atI at e ⊢
  rw [r.length]
  cases q : ixN ds.length i with
  | none => rw [q] at e; cases e
  | some j => rw [q] at e; exact r.get e
theorem jIdx (ja : JO Wp E X ea a) (jb : JO Wp E X eb b) (hs : PlainIx eb) : JE Wp E X (.Subscript ea eb pos) (dIdx a b) := by
  refine (pe_ix ix_seq ja jb hs).weak fun σ H Q ⟨W, B, M0, ρ, M, P, R, w, G, d, x, h⟩ => ?_
  refine lO_go w G d x fun oa ρ1 v H1 M1 c G1 k1 => lO_go' w G1.base c x.cons fun ob ρ2 u H2 M2 c2 G2 k2 => ?_
  obtain ⟨x, i, h1, h2, c⟩ := c2
  have r1 := OpdOk.pk G2 (OpdOk.later G2 k1) h1
  have r2 := OpdOk.pk G2 k2 h2
  cases x <;> try exact (show False from c).elim
  · rename_i s
    obtain ⟨hz, ch, e, c⟩ := c
    exact .inr (.inr ⟨s, i, ch, r1.str_inv, r2.int_inv, hz, e, h _ _ _ _ _ _ c (Res.str G2.tail _)⟩)
  · obtain ⟨y, e, c⟩ := c
    obtain ⟨p, vs, rfl, ha, rl⟩ := r1.list_inv
    obtain ⟨z, e2, r⟩ := at_rep rl e
    exact .inl ⟨p, vs, i, z, rfl, r2.int_inv, SqL.of ha, e2, h _ _ _ _ _ _ c (.of G2.tail r)⟩
  · obtain ⟨y, e, c⟩ := c
    obtain ⟨p, vs, rfl, ha, rl⟩ := r1.tup_inv
    obtain ⟨z, e2, r⟩ := at_rep rl e
    exact .inr (.inl ⟨p, vs, i, z, rfl, r2.int_inv, ha, e2, h _ _ _ _ _ _ c (.of G2.tail r)⟩)
/-! ### slices -/
abbrev JP (Wp : Wk → Prop) (E : XK) (X : Cx) (e : Option Expr) (d : DP) : Prop := PO X e (fun σ H Q => ∃ W B M0 ρ M P R, WP Wp W d.m ∧ Gd W X.K B M0 ρ σ H M ∧ d ρ P R ∧ XOk W X.K X.mg E M0 B R ∧ ∀ o ρ' H' M', P o ρ' → Gd (W.up d.m) X.K B M0 ρ' σ H' M' → Q o H')
theorem pNone : JP Wp E X none pNo := ⟨fun pins s σ H Q I ⟨W, B, M0, ρ, M, P, R, w, G, d, x, h⟩ => po_none.run pins s σ H Q I (h _ _ _ _ d G)⟩
theorem pSome (j : JE Wp E X e da) : JP Wp E X (some e) (pE da) := ⟨fun pins s σ H Q I ⟨W, B, M0, ρ, M, P, R, w, G, d, x, h⟩ => (po_some j).run pins s σ H Q I (lE_go w G d x fun u fr ρ1 v H1 M1 c r => by
  obtain ⟨i, rfl, c⟩ := c
  exact ⟨i, Rep.int_inv r.rep, h _ _ _ _ c r.gd⟩)⟩
theorem RepL.cut {K : PySem.W.Frag} {H : Hp} {M : List Addr} {vs : List V} {ds : List PyData} (r : RepL K H M vs ds) (lo hi : Option Int) : RepL K H M (cutV vs lo hi) (cutD ds lo hi) := by
  unfold cutV cutD
  rw [r.length]
  exact (r.drop _).take _
def rSlAll (K : PySem.W.Frag) : V → Option Int → Option Int → Hp → VK → Prop := fun x lo hi H Q => rSlL K x lo hi H Q ∨ (rSlA K x lo hi H Q ∨ rSlS x lo hi H Q)
theorem sl_all {X : Cx} : SlR X (rSlAll X.K) := sl_list.or (sl_tupA.or sl_str)
theorem sl_go {K : PySem.W.Frag} {W : Wk} {B : List Bs} {M0 : List Addr} {ρ : En} {σ : L2.St} {H : Hp} {M : List Addr} {v : V} {x : PyData} {lo hi : Option Int} {C : PyData → Bool → Prop} {Q : VK} (G : Gd W K B M0 ρ σ H M) (r : RepPk K H M v x) (c : slS x lo hi C)
    (h : ∀ z fr v' H' M', C z fr → Res W K B M0 ρ σ H' M' v' (.d z) fr → Q v' H') : rSlAll K v lo hi H Q := by
  cases x <;> try exact (show False from c).elim
  · rename_i s
    exact .inr (.inr ⟨s, r.str_inv, c.1, h _ _ _ _ _ c.2 (Res.str G _)⟩)
  · obtain ⟨p, vs, rfl, ha, rl⟩ := r.list_inv
    exact .inl ⟨p, vs, rfl, SqL.of ha, fun q hq => h _ _ _ _ _ c (Res.new G hq (rl.cut lo hi))⟩
  · rename_i xs
    obtain ⟨p, vs, rfl, ha, rl⟩ := r.tup_inv
    refine .inr (.inl ⟨p, vs, rfl, ha, fun ⟨h1, h2⟩ => ?_, fun _ q hq => h _ _ _ _ _ c (Res.newT G hq (rl.cut lo hi))⟩)
    have e : cutD xs lo hi = xs := by
      unfold cutD
      rw [← rl.length, h1, h2, rl.length, List.drop_zero, Nat.sub_zero, List.take_length]
    have c : C (.tuple (cutD xs lo hi)) false := c
    rw [e] at c
    exact h _ _ _ _ _ c (.of G (Rep.tup ha rl))
theorem jSli {lo hi : Option Expr} {dl dh : DP} (ja : JO Wp E X ea a) (jl : JP Wp E X lo dl) (jh : JP Wp E X hi dh) : JE Wp E X (.Subscript ea (.Slice lo hi none p2) pos) (dSli a dl dh) := by
  refine (pe_slice sl_all ja jl jh).weak fun σ H Q ⟨W, B, M0, ρ, M, P, R, w, G, d, x, h⟩ => ?_
  refine lO_go w G d x fun oa ρ1 v H1 M1 c G1 k1 => ⟨_, ⟨H1, M1, M1⟩ :: B, M0, ρ1, M1, _, R, w.up (Nat.le_add_right _ _), G1.base, c, x.cons.up, fun l ρ2 H2 M2 c G2 => ⟨_, ⟨H1, M1, M1⟩ :: B, M0, ρ2, M2, _, R, w.up (Nat.le_refl _), G2.cast, c, x.cons.up, fun u ρ3 H3 M3 c G3 => ?_⟩⟩
  have G3 := G3.cast
  obtain ⟨y, h1, f⟩ := c
  exact sl_go G3.tail (OpdOk.pk G3 (OpdOk.later G3 k1) h1) f fun z fr v' H' M' c r => h _ _ _ _ _ _ c r
end
end G9

/-! M7: built-ins, methods, calls, over wants. -/
namespace G9
open PySem PySem.Spec L2 PyProof.Rows
section
variable {X : Cx} {pins : List (Addr × Obj)} {σ : L2.St} {H : Hp} {s : Shared} {M : List Addr}
theorem keyD_read {h : Heap} {k : Key} {u : Value} (e : keyIs k u = true) : Reads h u (keyD k) [] := by
  rcases keyIs_shape e with ⟨i, t, rfl, rfl⟩ | ⟨x, t, rfl, rfl⟩
  · exact .int i t
  · exact .str x t
theorem keys_read {h : Heap} {P : Program} {w : World} : ∀ {es : List DictEntry} {kvs : List (Key × V)} {vs : List (Key × Value)}, Pairs (mixKind P w) es vs → KV kvs vs → ReadsAll h (es.map (·.key)) (kvs.map fun p => keyD p.1) []
  | _, _, _, .nil, .nil => .nil
  | _, _, _, .cons k e p, .cons r t => by
    have q := keyD_read (h := h) k
    rw [← r.1] at q
    exact ReadsAll.cons q (keys_read p t)
theorem vals_of : ∀ {P : Program} {w : World} {es : List DictEntry} {kvs : List (Key × V)} {vs : List (Key × Value)}, Pairs (mixKind P w) es vs → KV kvs vs → Vals (kvs.map (·.2)) (es.map (·.val))
  | _, _, _, _, _, .nil, .nil => .nil
  | _, _, _, _, _, .cons k e p, .cons r t => by
    refine .cons ?_ (vals_of p t)
    show L2.RelV _ _
    have q := r.2
    rw [← e] at q
    exact q
theorem zip_fst {α β : Type} : ∀ {xs : List α} {ys : List β}, xs.length = ys.length → (xs.zip ys).map (·.1) = xs
  | [], [], _ => rfl
  | x :: xs, y :: ys, h => by simp [zip_fst (xs := xs) (ys := ys) (by simpa using h)]
theorem zip_snd {α β : Type} : ∀ {xs : List α} {ys : List β}, xs.length = ys.length → (xs.zip ys).map (·.2) = ys
  | [], [], _ => rfl
  | x :: xs, y :: ys, h => by simp [zip_snd (xs := xs) (ys := ys) (by simpa using h)]
mutual
/-- pure data, as the heap has it -/
theorem Rep.reads (I : Inv X pins σ H s) (sm : ∃ o u, H sysModules = some (.frz o u)) : ∀ {v : V} {d : PyData} {u : Value}, Rep X.K H M v d → RelV v u → ∃ as, Reads s.heap u d as ∧ sysModules ∉ as
  | _, _, _, .non, r => by cases r; exact ⟨_, .none, by simp⟩
  | _, _, _, .bl b, r => by cases r; exact ⟨_, .bool b, by simp⟩
  | _, _, _, .int i, r => by obtain ⟨t, rfl⟩ := r; exact ⟨_, .int i t, by simp⟩
  | _, _, _, .str x, r => by obtain ⟨t, rfl⟩ := r; exact ⟨_, .str x t, by simp⟩
  | _, _, _, .lst (a := a) hn h q, r => by
    cases r
    obtain ⟨its, rv, ⟨o, n, ho, hc, _, hd⟩, _⟩ := I.list (SqL.of h)
    obtain ⟨as, hr, ns⟩ := RepL.reads I sm q rv
    obtain ⟨o', u', e⟩ := sm
    exact ⟨_, Reads.list ho hc hd hr, fun z => (List.mem_cons.mp z).elim (fun z => by rw [z] at e; rw [e] at h; cases h) ns⟩
  | _, _, _, .tup h q, r => by
    cases r
    obtain ⟨its, rv, ⟨o, ho, hc, n, hd⟩, _⟩ := I.tuple h
    obtain ⟨as, hr, ns⟩ := RepL.reads I sm q rv
    exact ⟨_, Reads.tuple ho hc hd hr, ns⟩
  | _, _, _, .dct (a := a) (kvs := kvs) (ds := ds) hn h q, r => by
    cases r
    obtain ⟨_, na, vs, rk, o, es, ep, ho, ex, hd, _, hp, _⟩ := (show ObjOk X.prog X.w H s.heap a (.dK kvs) from I.hok a _ h)
    obtain ⟨bs, hr, ns⟩ := RepL.reads I sm q (vals_of hp rk)
    have hl : (kvs.map fun p => keyD p.1).length = ds.length := by
      have := q.length
      simpa using this
    have h1 := keys_read (h := s.heap) hp rk
    have h2 := hr
    refine ⟨_, Reads.dict (as := []) (bs := bs) ho ex.1 hd (by rw [zip_fst hl]; exact h1) (by rw [zip_snd hl]; exact h2), fun z => ?_⟩
    rcases List.mem_cons.mp z with z | z
    · rw [← z] at na
      exact absurd na (by decide)
    · exact ns (by simpa using z)
theorem RepL.reads (I : Inv X pins σ H s) (sm : ∃ o u, H sysModules = some (.frz o u)) : ∀ {vs : List V} {ds : List PyData} {us : List Value}, RepL X.K H M vs ds → Vals vs us → ∃ as, ReadsAll s.heap us ds as ∧ sysModules ∉ as
  | _, _, _, .nil, .nil => ⟨_, .nil, by simp⟩
  | _, _, _, .cons h q, .cons r t => by
    obtain ⟨as, q1, n1⟩ := Rep.reads I sm h r
    obtain ⟨bs, q2, n2⟩ := RepL.reads I sm q t
    exact ⟨_, .cons q1 q2, fun z => (List.mem_append.mp z).elim n1 n2⟩
end
theorem RepPk.reads (I : Inv X pins σ H s) (sm : ∃ o u, H sysModules = some (.frz o u)) {v : V} {d : PyData} {u : Value} (h : RepPk X.K H M v d) (r : RelV v u) : ∃ as, Reads s.heap u d as ∧ sysModules ∉ as := by
  cases d with
  | list ds =>
    obtain ⟨a, vs, rfl, ha, q⟩ := h.list_inv
    cases r
    obtain ⟨its, rv, ⟨o, n, ho, hc, _, hd⟩, _⟩ := I.list (SqL.of ha)
    obtain ⟨as, hr, ns⟩ := RepL.reads I sm q rv
    obtain ⟨o', u', e⟩ := sm
    exact ⟨_, Reads.list ho hc hd hr, fun z => (List.mem_cons.mp z).elim (fun z => by rw [z] at e; rw [e] at ha; cases ha) ns⟩
  | _ => exact Rep.reads I sm h r
/-- repr(x) of pure data -/
def rRepr (K : PySem.W.Frag) : List V → Hp → VK → Prop := fun xs H Q => ∃ v d M, xs = [v] ∧ RepPk K H M v d ∧ (∃ o u, H sysModules = some (.frz o u)) ∧ d.showable = true ∧ d.depth ≤ 64 ∧ d.shown.length ≤ sizeLine ∧ Q (.str d.shown) H
theorem cr_repr (hg : X.A.guards = some []) (hu : X.A.units + 65 < cLine) : CallR X (.builtin "repr") (rRepr X.K) := by
  intro pins s σ H xs us Q I r h
  obtain ⟨v, d, M, rfl, hv, sm, h1, h2, h3, q⟩ := h
  obtain ⟨u, rfl, ru⟩ := vals1 r
  obtain ⟨as, hr, ns⟩ := RepPk.reads I sm hv ru
  have key : ∀ a, u = .ref a → wpAny (model X.prog X.w) X.A (call (.builtin "repr") [u]) (EP X pins σ Q) X.xe s := by
    rintro a rfl
    exact repr_of_reads' hr h1 (fun _ => ns) hg (by omega) (fun _ _ e => e) (fun h' u tk k => ⟨.str _, H, I.kept k, ⟨_, rfl⟩, q⟩) h3
  cases hr with
  | none => exact PySem.P.repr_of_none ⟨.str _, H, I.tok _, ⟨_, rfl⟩, q⟩
  | bool b => exact PySem.P.repr_of_bool ⟨.str _, H, I.tok _, ⟨_, rfl⟩, q⟩
  | int i t => exact PySem.P.repr_of_int (by simpa [PyData.showable] using h1) ⟨.str _, H, I.tok _, ⟨_, rfl⟩, q⟩
  | str x t => exact PySem.P.repr_of_str ⟨.str _, H, I.tok _, ⟨_, rfl⟩, q⟩ h3
  | list _ _ _ _ => exact key _ rfl
  | tuple _ _ _ _ => exact key _ rfl
  | dict _ _ _ _ _ => exact key _ rfl
end
end G9

/-! N1: list(text), sum(tuple). -/
namespace G9
open PySem PySem.Spec L2 PyProof.Rows
section
variable {X : Cx}
/-- the signs of a text, a new list -/
def rLstTx : List V → Hp → VK → Prop := fun xs H Q => ∃ z : Str, xs = [.str z] ∧ z.length ≤ sizeLine ∧ ∀ l, H l = none → Q (.ref l) (upd H l (.lst (z.cps.toList.map fun c => V.str ⟨#[c]⟩)))
theorem signs_vals {z : Str} : ∀ {l : List Value} {cs : List Nat}, l.length = cs.length → (∀ (j : Nat) v, l[j]? = some v → ∃ c u, cs[j]? = some c ∧ v = Value.str ⟨#[c]⟩ u) → Vals (cs.map fun c => V.str ⟨#[c]⟩) l
  | [], [], _, _ => .nil
  | v :: l, c :: cs, e, h => by
    obtain ⟨d, u, e1, e2⟩ := h 0 v rfl
    have e1 : some c = some d := e1
    cases e1
    subst e2
    exact .cons ⟨u, rfl⟩ (signs_vals (z := z) (Nat.succ.inj e) fun j v hj => h (j + 1) v hj)
theorem cr_lstTx (hc : X.calm = true) : CallR X (.type "list") rLstTx := by
  intro pins s σ H xs us Q I r h
  obtain ⟨z, rfl, hz, q⟩ := h
  obtain ⟨u, rfl, ru⟩ := vals1 r
  obtain ⟨t, rfl⟩ := ru
  refine PySem.call_list_str (I.ok.hd hc) z t (hn := hz) fun h' tk acc c k g it => ?_
  have hl : acc.toList.length = z.cps.toList.length := by rw [Array.length_toList, Array.length_toList]; exact it.1
  have vv : Vals (z.cps.toList.map fun c => V.str ⟨#[c]⟩) acc.toList := signs_vals (z := z) hl fun j v hv => by
    obtain ⟨c, u, e1, e2⟩ := it.2 j v (by rw [← Array.getElem?_toList]; exact hv)
    exact ⟨c, u, by rw [Array.getElem?_toList]; exact e1, e2⟩
  exact ⟨.ref _, upd H s.heap.objs.size (.lst (z.cps.toList.map fun c => V.str ⟨#[c]⟩)), I.laid (t' := tk) k (Nat.le_refl _) ⟨by rw [List.length_map, Array.length_toList]; exact hz, acc.toList, c, vv, g⟩, rfl, q _ (I.hok.fresh (Nat.le_refl _))⟩
/-- the sum of a tuple -/
def rSumTu (K : PySem.W.Frag) : List V → Hp → VK → Prop := fun vs H Q => ∃ (a : Addr) (ns : List Int), vs = [V.ref a] ∧ SqT K H a (ns.map V.int) ∧ Q (.int ns.sum) H
theorem cr_sumTu (hc : X.calm = true) : CallR X (.builtin "sum") (rSumTu X.K) := by
  intro pins s σ H vs us Q I r h
  obtain ⟨a, ns, rfl, ha, q⟩ := h
  rw [Vals.ref1 r]
  obtain ⟨its, rv, ht, hz⟩ := I.tuple ha
  have hi : IntsAre its ns := by simpa using rv.ints
  obtain ⟨xs, e⟩ := hi.allInts.items
  have hn : numsOf (intItems xs).toList = ns := by rw [← e]; exact hi.numsOf
  rw [nums_intItems] at hn
  rw [show its.toArray = intItems xs from e] at ht
  refine PySem.W.ktm_sumG (I.ok.hd hc) ht fun h' tk t' k => ?_
  rw [preSum_eq, List.take_of_length_le (by simp), hn]
  exact ⟨.int ns.sum, H, I.kept (t' := tk) k, ⟨t', rfl⟩, q⟩
end
end G9

/-! M8: built-ins, isinstance, methods, calls of defs, over wants. -/
namespace G9
open PySem PySem.Spec L2 PyProof.Rows
def Bi.val : Bi → Option Value
  | .len => some (.builtin "len")
  | .list => some (.type "list")
  | .tuple => some (.type "tuple")
  | .sum => some (.builtin "sum")
  | .all => some (.builtin "all")
  | .any => some (.builtin "any")
  | .range => none
  | .repr => some (.builtin "repr")
  | .str => some (.type "str")
  | .int => some (.type "int")
  | .sorted => some (.builtin "sorted")
/-- len of a list, a tuple, a text -/
def rLenA (K : PySem.W.Frag) : List V → Hp → VK → Prop := fun xs H Q => (∃ p ys, xs = [.ref p] ∧ (SqL K H p ys ∨ SqT K H p ys) ∧ Q (.int ys.length) H) ∨ ∃ z, xs = [.str z] ∧ z.length ≤ sizeLine ∧ Q (.int z.length) H
def rSortA (K : PySem.W.Frag) : List V → Hp → VK → Prop := fun xs H Q => rSorted K xs H Q ∨ (rSortedS K xs H Q ∨ (rSortedSS K xs H Q ∨ rSortTu K xs H Q))
/-- list of a list, a tuple, a text -/
def rLstA (K : PySem.W.Frag) : List V → Hp → VK → Prop := fun xs H Q => (∃ p ys, xs = [.ref p] ∧ (SqL K H p ys ∨ SqT K H p ys) ∧ ∀ l, H l = none → Q (.ref l) (upd H l (.lst ys))) ∨ rLstTx xs H Q
def rBi (K : PySem.W.Frag) : Bi → List V → Hp → VK → Prop
  | .len => rLenA K
  | .list => rLstA K
  | .tuple => fun xs H Q => ∃ p ys, xs = [.ref p] ∧ ((SqL K H p ys ∧ ∀ l, H l = none → Q (.ref l) (upd H l (.tup ys))) ∨ (SqT K H p ys ∧ Q (.ref p) H))
  | .sum => fun vs H Q => rSum K vs H Q ∨ rSumTu K vs H Q
  | .all => rAll K
  | .any => rAny K
  | .range => fun _ _ _ => False
  | .repr => rRepr K
  | .str => fun xs H Q => ∃ i, xs = [.int i] ∧ i.natAbs.log2 < 1920 ∧ Q (.str (toString i)) H
  | .int => fun xs H Q => (∃ i, xs = [.int i] ∧ Q (.int i) H) ∨ ∃ k, xs = [.bl k] ∧ Q (.int (if k then 1 else 0)) H
  | .sorted => rSortA K
section
variable {K : PySem.W.Frag} {H : Hp} {M : List Addr}
theorem tups_paired : ∀ {vs : List V} {xs : List PyData} {nss : List (List Str)}, RepL K H M vs xs → tupsD xs = some nss → Paired (TuAt K H) vs nss
  | _, [], _, r, e => by cases e; cases r; exact .nil
  | _, .tuple ys :: xs, _, r, e => by
    have e : (strsD ys).bind (fun ss => (tupsD xs).map (ss :: ·)) = some _ := e
    cases q : strsD ys with
    | none => rw [q] at e; cases e
    | some ss =>
      rw [q] at e
      have e : (tupsD xs).map (ss :: ·) = some _ := e
      cases q2 : tupsD xs with
      | none => rw [q2] at e; cases e
      | some tt =>
        rw [q2] at e; cases e
        cases r with
        | cons r0 r1 =>
          refine .cons ?_ (tups_paired r1 q2)
          cases r0 with
          | tup h r2 =>
            rw [strsD_inv q] at r2
            exact ⟨_, rfl, by rw [← r2.strs]; exact h⟩
  | _, .none :: _, _, _, e | _, .bool _ :: _, _, _, e | _, .int _ :: _, _, _, e | _, .str _ :: _, _, _, e | _, .list _ :: _, _, _, e | _, .dict _ :: _, _, _, e => by cases e
theorem RepL.of_tups : ∀ {ys : List V} {mss : List (List Str)}, Paired (TuAt K H) ys mss → RepL K H M ys (mss.map tupS)
  | _, _, .nil => .nil
  | _, _, .cons ⟨t, e, h⟩ r => by subst e; exact .cons (Rep.tup h (RepL.of_strs _)) (RepL.of_tups r)
end
theorem intsD_map : ∀ {xs : List PyData} {ns : List Int}, intsD xs = some ns → xs = ns.map .int
  | [], _, e => by cases e; rfl
  | .int i :: r, _, e => by
    have e : (intsD r).map (i :: ·) = some _ := e
    cases q : intsD r with
    | none => rw [q] at e; cases e
    | some ms => rw [q] at e; cases e; rw [intsD_map q]; rfl
  | .none :: r, _, e => by cases e
  | .bool _ :: r, _, e => by cases e
  | .str _ :: r, _, e => by cases e
  | .list _ :: r, _, e => by cases e
  | .tuple _ :: r, _, e => by cases e
  | .dict _ :: r, _, e => by cases e
theorem boolsD_map : ∀ {xs : List PyData} {ns : List Bool}, boolsD xs = some ns → xs = ns.map .bool
  | [], _, e => by cases e; rfl
  | .bool i :: r, _, e => by
    have e : (boolsD r).map (i :: ·) = some _ := e
    cases q : boolsD r with
    | none => rw [q] at e; cases e
    | some ms => rw [q] at e; cases e; rw [boolsD_map q]; rfl
  | .none :: r, _, e => by cases e
  | .int _ :: r, _, e => by cases e
  | .str _ :: r, _, e => by cases e
  | .list _ :: r, _, e => by cases e
  | .tuple _ :: r, _, e => by cases e
  | .dict _ :: r, _, e => by cases e
theorem strsD_map : ∀ {xs : List PyData} {ns : List Str}, strsD xs = some ns → xs = ns.map .str
  | [], _, e => by cases e; rfl
  | .str i :: r, _, e => by
    have e : (strsD r).map (i :: ·) = some _ := e
    cases q : strsD r with
    | none => rw [q] at e; cases e
    | some ms => rw [q] at e; cases e; rw [strsD_map q]; rfl
  | .none :: r, _, e => by cases e
  | .bool _ :: r, _, e => by cases e
  | .int _ :: r, _, e => by cases e
  | .list _ :: r, _, e => by cases e
  | .tuple _ :: r, _, e => by cases e
  | .dict _ :: r, _, e => by cases e
section
variable {K : PySem.W.Frag} {W : Wk} {B : List Bs} {M0 : List Addr} {ρ : En} {σ : L2.St} {H : Hp} {M : List Addr}
theorem bi_go {b : Bi} {x : PyData} {v : V} {C : PyData → Bool → Prop} {Q : VK} (G : Gd W K B M0 ρ σ H M) (r : RepPk K H M v x) (c : biS b x C) (h : ∀ z fr v' H' M', C z fr → Res W K B M0 ρ σ H' M' v' (.d z) fr → Q v' H') : rBi K b [v] H Q := by
  cases b with
  | len =>
    cases x <;> try exact (show False from c).elim
    · exact .inr ⟨_, by rw [r.str_inv], c.1, h _ _ _ _ _ c.2 (Res.int G _)⟩
    · obtain ⟨a, vs, rfl, ha, q⟩ := r.list_inv
      exact .inl ⟨a, vs, rfl, .inl (SqL.of ha), by rw [q.length]; exact h _ _ _ _ _ c (Res.int G _)⟩
    · obtain ⟨a, vs, rfl, ha, q⟩ := r.tup_inv
      exact .inl ⟨a, vs, rfl, .inr ha, by rw [q.length]; exact h _ _ _ _ _ c (Res.int G _)⟩
  | list =>
    cases x <;> try exact (show False from c).elim
    · rename_i z
      refine .inr ⟨z, by rw [r.str_inv], c.1, fun l hl => h _ _ _ _ _ c.2 (Res.new G hl ?_)⟩
      have e : (z.cps.toList.map fun c => V.str ⟨#[c]⟩) = (z.cps.toList.map fun c => (⟨#[c]⟩ : Str)).map V.str := by rw [List.map_map]; rfl
      have e2 : z.cps.toList.map sgn = (z.cps.toList.map fun c => (⟨#[c]⟩ : Str)).map PyData.str := by rw [List.map_map]; rfl
      rw [e, e2]
      exact RepL.of_strs _
    · obtain ⟨a, vs, rfl, ha, q⟩ := r.list_inv
      exact .inl ⟨a, vs, rfl, .inl (SqL.of ha), fun l hl => h _ _ _ _ _ c (Res.new G hl q)⟩
    · obtain ⟨a, vs, rfl, ha, q⟩ := r.tup_inv
      exact .inl ⟨a, vs, rfl, .inr ha, fun l hl => h _ _ _ _ _ c (Res.new G hl q)⟩
  | tuple =>
    cases x <;> try exact (show False from c).elim
    · obtain ⟨a, vs, rfl, ha, q⟩ := r.list_inv
      exact ⟨a, vs, rfl, .inl ⟨SqL.of ha, fun l hl => h _ _ _ _ _ c (Res.newT G hl q)⟩⟩
    · obtain ⟨a, vs, rfl, ha, q⟩ := r.tup_inv
      exact ⟨a, vs, rfl, .inr ⟨ha, h _ _ _ _ _ c (.of G (Rep.tup ha q))⟩⟩
  | sum =>
    cases x <;> try exact (show False from c).elim
    · obtain ⟨ns, e, c⟩ := c
      obtain ⟨a, vs, rfl, ha, q⟩ := r.list_inv
      rw [intsD_map e] at q
      rw [q.ints] at ha
      exact .inl ⟨a, ns, rfl, SqL.of ha, h _ _ _ _ _ c (Res.int G _)⟩
    · obtain ⟨ns, e, c⟩ := c
      obtain ⟨a, vs, rfl, ha, q⟩ := r.tup_inv
      rw [intsD_map e] at q
      rw [q.ints] at ha
      exact .inr ⟨a, ns, rfl, ha, h _ _ _ _ _ c (Res.int G _)⟩
  | all =>
    cases x <;> try exact (show False from c).elim
    obtain ⟨ns, e, c⟩ := c
    obtain ⟨a, vs, rfl, ha, q⟩ := r.list_inv
    rw [boolsD_map e] at q
    rw [q.bls] at ha
    exact ⟨a, ns, rfl, SqL.of ha, h _ _ _ _ _ c (Res.bool G _)⟩
  | any =>
    cases x <;> try exact (show False from c).elim
    obtain ⟨ns, e, c⟩ := c
    obtain ⟨a, vs, rfl, ha, q⟩ := r.list_inv
    rw [boolsD_map e] at q
    rw [q.bls] at ha
    exact ⟨a, ns, rfl, SqL.of ha, h _ _ _ _ _ c (Res.bool G _)⟩
  | range => cases x <;> exact (show False from c).elim
  | repr => exact ⟨v, x, M, rfl, r, G.sm, c.1, c.2.1, c.2.2.1, h _ _ _ _ _ c.2.2.2 (Res.str G _)⟩
  | str =>
    cases x <;> try exact (show False from c).elim
    exact ⟨_, by rw [r.int_inv], c.1, h _ _ _ _ _ c.2 (Res.str G _)⟩
  | int =>
    cases x <;> try exact (show False from c).elim
    · exact .inr ⟨_, by rw [r.bool_inv], h _ _ _ _ _ c (Res.int G _)⟩
    · exact .inl ⟨_, by rw [r.int_inv], h _ _ _ _ _ c (Res.int G _)⟩
  | sorted =>
    cases x <;> try exact (show False from c).elim
    · obtain ⟨a, vs, rfl, ha, q⟩ := r.list_inv
      obtain ⟨h64, c⟩ := c
      have hl := q.length
      rcases c with ⟨ns, e, c⟩ | ⟨ns, e, c⟩ | ⟨nss, e, c⟩
      · rw [intsD_map e] at q
        rw [q.ints] at ha hl
        refine .inl ⟨a, ns, rfl, SqL.of ha, ?_, fun ns' p h1 h2 hp => h _ _ _ _ _ (c ns' h1 h2) (Res.new G hp (RepL.of_ints _))⟩
        rw [List.length_map] at hl
        omega
      · rw [strsD_map e] at q
        rw [q.strs] at ha hl
        refine .inr (.inl ⟨a, ns, rfl, SqL.of ha, ?_, fun ns' p h1 h2 hp => h _ _ _ _ _ (c ns' h1 h2) (Res.new G hp (RepL.of_strs _))⟩)
        rw [List.length_map] at hl
        omega
      · exact .inr (.inr (.inl ⟨a, vs, nss, rfl, SqL.of ha, tups_paired q e, fun ys mss p h0 h1 h2 hp => h _ _ _ _ _ (c mss h1 h2) (Res.new G hp (RepL.of_tups h0))⟩))
    · obtain ⟨a, vs, rfl, ha, q⟩ := r.tup_inv
      refine .inr (.inr (.inr ⟨a, vs, rfl, ha, ?_⟩))
      rcases c with ⟨ns, e, h64, c⟩ | ⟨nss, e, c⟩
      · rw [strsD_map e] at q
        exact .inl ⟨ns, q.strs, h64, fun ns' p h1 h2 hp => h _ _ _ _ _ (c ns' h1 h2) (Res.new G hp (RepL.of_strs _))⟩
      · exact .inr ⟨nss, tups_paired q e, fun ys mss p h0 h1 h2 hp => h _ _ _ _ _ (c mss h1 h2) (Res.new G hp (RepL.of_tups h0))⟩
end
section
variable {Wp : Wk → Prop} {E : XK} {X : Cx} {ea eb ec e : Expr} {es rest : List Expr} {a b c : DO} {da db : DE} {dc ta tb : DT} {aa : DA} {pos p2 : Pos} {x : Str}
theorem cr_bi (hc : X.calm = true) (hg : X.A.guards = some []) (hu : X.A.units + 65 < cLine) : ∀ (b : Bi) (u : Value), b.val = some u → CallR X u (rBi X.K b)
  | .len, _, e => by cases e; exact call_len_seq.or call_len_str
  | .list, _, e => by cases e; exact call_list_of.or (cr_lstTx hc)
  | .tuple, _, e => by cases e; exact call_tuple_of
  | .sum, _, e => by cases e; exact (cr_sum hc).or (cr_sumTu hc)
  | .all, _, e => by cases e; exact cr_all hc
  | .any, _, e => by cases e; exact cr_any hc
  | .range, _, e => by cases e
  | .repr, _, e => by cases e; exact cr_repr hg hu
  | .str, _, e => by cases e; exact call_str_int
  | .int, _, e => by cases e; exact call_int1
  | .sorted, _, e => by cases e; exact cr_sorted.or (cr_sortedS.or ((cr_sortedSS (by omega)).or (cr_sortTu (by omega))))
/-- the argument of a built-in, one -/
theorem jBif {b : Bi} {u : Value} (hc : X.calm = true) (gd : X.A.guards = some []) (hu : X.A.units + 65 < cLine) (hbv : b.val = some u) (hv : bootBuiltins x = some u) (hg : Gl X x) (hm : X.mg x = none) (hn : x ≠ "__name__") (hdb : (x == ("__debug__" : Str)) = false)
    (ja : JO Wp E X ea a) (hs : starEach [ea] X.env = (false, eval ea X.env) :: starEach [] X.env) (hpl : (backTo pos (starEach [] X.env)).any (·.1) = false) : JE Wp E X (.Call (.Name x p2) [ea] [] pos) (dBif b a) := by
  have pa : PA X [ea] (tCons (lO Wp X.K X.mg E a) tNil) := pa_cons ja pa_nil hs
  have go : PE X (.Call (.Name x p2) [ea] [] pos) (tCB (rBi X.K b) (tCons (lO Wp X.K X.mg E a) tNil)) := by
    have cr := cr_bi hc gd hu b u hbv
    cases b with
    | range => cases hbv
    | len => cases hbv; exact pe_callB cr hg hm hv pa hn hdb hs hpl
    | sum => cases hbv; exact pe_callB cr hg hm hv pa hn hdb hs hpl
    | all => cases hbv; exact pe_callB cr hg hm hv pa hn hdb hs hpl
    | any => cases hbv; exact pe_callB cr hg hm hv pa hn hdb hs hpl
    | repr => cases hbv; exact pe_callB cr hg hm hv pa hn hdb hs hpl
    | sorted => cases hbv; exact pe_callB cr hg hm hv pa hn hdb hs hpl
    | list => cases hbv; exact pe_callTy cr hg hm hv pa hn hdb hs hpl
    | tuple => cases hbv; exact pe_callTy cr hg hm hv pa hn hdb hs hpl
    | str => cases hbv; exact pe_callTy cr hg hm hv pa hn hdb hs hpl
    | int => cases hbv; exact pe_callTy cr hg hm hv pa hn hdb hs hpl
  refine go.weak fun σ H Q ⟨W, B, M0, ρ, M, P, R, w, G, d, x, h⟩ => ?_
  refine lO_go w G d x fun oa ρ1 v H1 M1 c G1 k1 => ?_
  obtain ⟨y, h1, f⟩ := c
  exact bi_go G1 (OpdOk.pk G1 k1 h1) f fun z fr v' H' M' c r => h _ _ _ _ _ _ c r
theorem tyX_of {K : PySem.W.Frag} {H : Hp} {M : List Addr} {v : V} {x : PyData} (r : RepPk K H M v x) : ∃ S : String, TyX K H v (.type S) ∧ (S, x) ∈ [("NoneType", x), ("bool", x), ("int", x), ("str", x), ("list", x), ("tuple", x), ("dict", x)] ∧
    (match x with | .none => S = "NoneType" | .bool _ => S = "bool" | .int _ => S = "int" | .str _ => S = "str" | .list _ => S = "list" | .tuple _ => S = "tuple" | .dict _ => S = "dict") := by
  cases x with
  | none => obtain rfl := Rep.none_inv r; exact ⟨_, .base .non, by simp, rfl⟩
  | bool b => obtain rfl := r.bool_inv; exact ⟨_, .base (.bl _), by simp, rfl⟩
  | int b => obtain rfl := r.int_inv; exact ⟨_, .base (.int _), by simp, rfl⟩
  | str b => obtain rfl := r.str_inv; exact ⟨_, .base (.str _), by simp, rfl⟩
  | list ds =>
    obtain ⟨a, vs, rfl, ha, q⟩ := r.list_inv
    exact ⟨_, .base (.lst ha), by simp, rfl⟩
  | tuple ds =>
    obtain ⟨a, vs, rfl, ha, q⟩ := r.tup_inv
    refine ⟨"tuple", ?_, by simp, rfl⟩
    rcases ha with (h | ⟨o, h⟩) | ⟨o, its, n, h, hc, _⟩
    · exact .base (.tup h)
    · exact .fTuple h
    · exact .kTuple h hc
  | dict kvs =>
    have r : Rep K H M v (.dict kvs) := r
    cases r with
    | dct hn h q => exact ⟨_, .base (.dK h), by simp, rfl⟩
theorem isi_ok {K : PySem.W.Frag} {H : Hp} {M : List Addr} {v : V} {x : PyData} (r : RepPk K H M v x) (t : Ty) : ∃ S : String, TyX K H v (.type S) ∧ PySem.W.kitOne K (.type S) (.type t.nm) = some (isD x t) := by
  obtain ⟨S, h1, _, h2⟩ := tyX_of r
  refine ⟨S, h1, ?_⟩
  cases x <;> (have h2 : S = _ := h2; subst h2; cases t <;> rfl)
theorem jIsi {t : Ty} {p3 : Pos} {y : Str} (hg : Gl X "isinstance") (hm : X.mg "isinstance" = none) (hgt : Gl X y) (hmt : X.mg y = none) (hvt : bootBuiltins y = some (.type t.nm)) (hn : y ≠ "__name__") (hdb : (y == ("__debug__" : Str)) = false)
    (ja : JO Wp E X ea a) (hs : starEach [ea, .Name y p3] X.env = (false, eval ea X.env) :: starEach [.Name y p3] X.env) (hs2 : starEach [.Name y p3] X.env = (false, eval (.Name y p3) X.env) :: starEach [] X.env) (hpl : (backTo pos (starEach [.Name y p3] X.env)).any (·.1) = false) :
    JE Wp E X (.Call (.Name "isinstance" p2) [ea, .Name y p3] [] pos) (dIsi a t) := by
  have ty : PE X (.Name y p3) (tC (.ty t.nm)) := pe_bltn hgt hmt hvt rfl hn hdb
  refine (pe_callB call_isi hg hm (by rfl) (pa_cons ja (pa_cons ty pa_nil hs2) hs) (by decide) (by decide) hs hpl).weak fun σ H Q ⟨W, B, M0, ρ, M, P, R, w, G, d, x, h⟩ => ?_
  refine lO_go w G d x fun oa ρ1 v H1 M1 c G1 k1 => ?_
  obtain ⟨y, h1, f⟩ := c
  obtain ⟨S, h2, h3⟩ := isi_ok (OpdOk.pk G1 k1 h1) t
  exact ⟨v, .ty t.nm, .type S, .type t.nm, _, rfl, .ty _, h2, h3, h _ _ _ _ _ _ f (Res.bool G1 _)⟩
end
end G9

/-! M9: targets, what is walked, comprehensions. -/
namespace G9
open PySem PySem.Spec L2 PyProof.Rows
section
variable {W : Wk} {K : PySem.W.Frag} {B : List Bs} {M0 : List Addr} {ρ : En} {σ : L2.St} {H H' : Hp} {M M' : List Addr}
/-- the heap as it was, or with one new thing -/
def Grown (H H' : Hp) : Prop := H' = H ∨ ∃ p o, H p = none ∧ H' = upd H p o
theorem Grown.kp (g : Grown H H') : Kp M H H' := by
  rcases g with rfl | ⟨p, o, h, rfl⟩
  · exact Kp.refl _ _
  · exact Kp.fresh h
theorem Gd.grown (G : Gd W K B M0 ρ σ H M) (g : Grown H H') : Gd W K B M0 ρ σ H' M := by
  rcases g with rfl | ⟨p, o, h, rfl⟩
  · exact G
  · exact G.grow h
/-- fewer fenced addresses, none of those that are owned -/
theorem Gd.reM (G : Gd W K B M0 ρ σ H M) (h1 : ∀ a ∈ M', a ∈ M) (h2 : ∀ a ∈ M0, a ∈ M') (h3 : ∀ a, Owns ρ σ a → a ∈ M') : Gd W K B M0 ρ σ H M' := by
  refine ⟨G.sm, G.wok, G.wad, h2, fun a z => G.liv a (h1 a z), G.len, fun b hb => ?_, fun i e h => ?_, G.sep⟩
  · obtain ⟨q1, q2, q3, q4⟩ := G.bs b hb
    exact ⟨q1, q2, fun a z => q3 a (h1 a z), q4⟩
  · obtain ⟨v, q1, q2⟩ := G.ent i e h
    refine ⟨v, q1, q2.move (Kp.refl _ _) (fun a z => .inl (h1 a z)) fun a ho ev z n => ⟨h3 a ⟨i, e, h, ho, ?_⟩, fun _ y => y⟩⟩
    rw [← ev]; exact q1
/-- a new thing, fenced off for good -/
theorem Gd.fence (G : Gd W K B M0 ρ σ H M) {p : Addr} {o : HO} (hp : H p = none) : Gd W K B (p :: M0) ρ σ (upd H p o) (p :: M) := by
  have G1 := G.new (o := o) hp
  refine ⟨G1.sm, G1.wok, fun a z => List.mem_cons_of_mem _ (G1.wad a z), fun a z => ?_, G1.liv, G1.len, G1.bs, fun i e h => ?_, G1.sep⟩
  · rcases List.mem_cons.mp z with rfl | z
    · exact List.mem_cons_self
    · exact G1.sub a z
  · obtain ⟨v, q1, q2⟩ := G1.ent i e h
    refine ⟨v, q1, ?_⟩
    unfold EntOk at q2 ⊢
    split
    · rename_i ho
      rw [if_pos ho] at q2
      obtain ⟨a, vs, ds, e1, e2, z1, z2, z3, z4⟩ := q2
      refine ⟨a, vs, ds, e1, e2, z1, fun z => ?_, z3, z4⟩
      rcases List.mem_cons.mp z with rfl | z
      · obtain ⟨_, _, vs', q⟩ := G.owned ⟨i, e, h, ho, by rw [← e1]; exact q1⟩
        rw [hp] at q; cases q
      · exact z2 z
    · rename_i ho
      rw [if_neg ho] at q2
      exact q2
theorem Gd.unfence {p : Addr} (G : Gd W K B (p :: M0) ρ σ H M) (hw : ∀ a ∈ W.ad, a ∈ M0) : Gd W K B M0 ρ σ H M := by
  refine ⟨G.sm, G.wok, hw, fun a z => G.sub a (List.mem_cons_of_mem _ z), G.liv, G.len, G.bs, fun i e h => ?_, G.sep⟩
  obtain ⟨v, q1, q2⟩ := G.ent i e h
  refine ⟨v, q1, ?_⟩
  unfold EntOk at q2 ⊢
  split
  · rename_i ho
    rw [if_pos ho] at q2
    obtain ⟨a, vs, ds, e1, e2, z1, z2, z3, z4⟩ := q2
    exact ⟨a, vs, ds, e1, e2, z1, fun z => z2 (List.mem_cons_of_mem _ z), z3, z4⟩
  · rename_i ho
    rw [if_neg ho] at q2
    exact q2
/-- a fenced list that nobody owns is written: it is new to every base -/
theorem Gd.writeF (G : Gd W K B M0 ρ σ H M) {a : Addr} {vs ws : List V} (hm : a ∈ M0) (hw : a ∉ W.ad) (ha : H a = some (.lst vs)) (hb : ∀ b ∈ B, b.h a = none) : Gd W K B M0 ρ σ (upd H a (.lst ws)) M := by
  have kp : Kp M H (upd H a (.lst ws)) := Kp.store (G.sub a hm) ha
  refine ⟨kp.sm G.sm, W.st _ _ _ hw G.wok, G.wad, G.sub, fun b z => kp.liv b (G.liv b z), G.len, fun b hb' => ?_, fun i e h => ?_, G.sep⟩
  · obtain ⟨z1, z2, z3, z4⟩ := G.bs b hb'
    have z := hb b hb'
    refine ⟨⟨fun x o n y => ?_, fun x xs y => ?_, fun x o u y => ?_, fun x y => kp.liv x (z1.liv x y)⟩, z2, z3, z4⟩
    · have hx : x ≠ a := fun q => by rw [q, z] at y; cases y
      rw [upd_ne hx]; exact z1.same x o n y
    · have hx : x ≠ a := fun q => by rw [q, z] at y; cases y
      rw [upd_ne hx]; exact z1.tup x xs y
    · have hx : x ≠ a := fun q => by rw [q, z] at y; cases y
      rw [upd_ne hx]; exact z1.frz x o u y
  · obtain ⟨v, y1, y2⟩ := G.ent i e h
    refine ⟨v, y1, y2.move kp (fun a z => .inl z) fun b ho ev z n => ⟨z, fun o' y => ?_⟩⟩
    have hb : b ≠ a := fun q => n (by rw [q]; exact hm)
    rw [upd_ne hb]; exact y
/-- the moment as a base: what stays is all but k -/
theorem Gd.baseK (G : Gd W K B M0 ρ σ H M) {k : List Addr} (hw : ∀ a ∈ W.ad, a ∈ k) (ho : ∀ a, Owns ρ σ a → a ∈ k) : Gd W K (⟨H, k, M⟩ :: B) M0 ρ σ H M :=
  ⟨G.sm, G.wok, G.wad, G.sub, G.liv, G.len, fun b hb => by
    rcases List.mem_cons.mp hb with rfl | hb
    · exact ⟨Kp.refl _ _, hw, fun a z => .inl z, fun a o => .inl (ho a o)⟩
    · exact G.bs b hb, G.ent, G.sep⟩
end
/-! ### targets -/
def gNames : List Nat → TGs
  | [] => gNil
  | i :: is => gCons (gName i) (gNames is)
def gB (K : PySem.W.Frag) (tg : List Nat) (tp : Bool) : TG := match tp, tg with
  | false, [i] => gName i
  | true, tg => gTup K tg.length (gNames tg)
  | _, _ => fun _ _ _ _ => False
section
variable {X : Cx} {pos : Pos}
theorem gOne {i : Nat} {x : Str} (hN : X.N.Nodup) (hi : X.N[i]? = some x) (hx : Loc X.env.scope x) (hf : X.fn x = true ∨ X.env.scope.names.lookup x = some .local) : PG X (.Name x pos) (gB X.K [i] false) := pg_name hN hi hx hf
theorem gNilN : PGs X [] (gNames []) := pgs_nil
end
section
variable {W : Wk} {K : PySem.W.Frag} {B : List Bs} {M0 : List Addr} {ρ ρ' : En} {σ : L2.St} {H : Hp} {M : List Addr}
theorem names_go : ∀ {tg : List Nat} {xs : List PyData} {vs : List V} {ρ ρ' : En} {σ : L2.St} {Q : L2.St → Hp → Prop}, Gd W K B M0 ρ σ H M → RepL K H M vs xs → bindE tg xs ρ = some ρ' → (∀ i ∈ tg, i < σ.length) →
    (∀ σ', σ'.length = σ.length → (∀ j, j ∉ tg → σ'[j]? = σ[j]?) → Gd W K B M0 ρ' σ' H M → Q σ' H) → gNames tg vs σ H Q
  | [], [], _, _, _, _, _, G, .nil, e, _, q => by cases e; exact ⟨rfl, q _ rfl (fun _ _ => rfl) G⟩
  | i :: is, x :: xs, _, ρ, ρ', σ, Q, G, .cons r rr, e, hl, q => by
    have e : bindE is xs (En.put ρ i false (.d x)) = some ρ' := e
    refine ⟨_, _, rfl, ?_⟩
    have hi := hl i List.mem_cons_self
    refine names_go (G.put0 (u := .d x) hi r) rr e (fun j z => by rw [List.length_set]; exact hl j (List.mem_cons_of_mem _ z)) fun σ' h1 h2 G' => q σ' (by rw [h1, List.length_set]) (fun j hj => ?_) G'
    simp only [List.mem_cons, not_or] at hj
    rw [h2 j hj.2, List.getElem?_set_ne (Ne.symm hj.1)]
  | _ :: _, [], _, _, _, _, _, _, _, e, _, _ => by cases e
  | [], _ :: _, _, _, _, _, _, _, _, e, _, _ => by cases e
theorem bind_go {tg : List Nat} {tp : Bool} {x : PyData} {v : V} {C : En → Prop} {Q : L2.St → Hp → Prop} (G : Gd W K B M0 ρ σ H M) (r : Rep K H M v x) (d : bindT tg tp x ρ C) (hl : ∀ i ∈ tg, i < σ.length)
    (h : ∀ ρ' σ', σ'.length = σ.length → (∀ j, j ∉ tg → σ'[j]? = σ[j]?) → C ρ' → Gd W K B M0 ρ' σ' H M → Q σ' H) : gB K tg tp v σ H Q := by
  unfold bindT at d
  split at d
  · rename_i _ i
    exact h _ _ (by rw [List.length_set]) (fun j hj => by rw [List.getElem?_set_ne (fun z => hj (by simp [z]))]) d (G.put0 (u := .d _) (hl i (by simp)) r)
  · rename_i tg xs
    obtain ⟨ρ', e, c⟩ := d
    cases r with
    | tup hs q =>
      refine ⟨_, _, rfl, hs, ?_, names_go G q e hl fun σ' h1 h2 G' => h ρ' σ' h1 h2 c G'⟩
      have : ∀ {tg : List Nat} {xs : List PyData} {ρ : En}, bindE tg xs ρ = some ρ' → xs.length = tg.length := by
        intro tg
        induction tg with
        | nil => intro xs ρ e; cases xs with | nil => rfl | cons _ _ => cases e
        | cons i is ih => intro xs ρ e; cases xs with | nil => cases e | cons y ys => simp [ih (show bindE is ys _ = some ρ' from e)]
      rw [q.length]
      exact this e
  · exact d.elim
end
/-! ### what is walked -/
def WalkOk (W : Wk) (K : PySem.W.Frag) (J : It) (xs : List PyData) (H1 : Hp) (M1 : List Addr) : Prop :=
  ∀ (M : List Addr) (H : Hp), Kp M1 H1 H → (∀ a ∈ M, a ∈ M1 ∨ H1 a = none) → (∀ i x, xs[i]? = some x → J.go i H ∧ ∀ v H', J.yld i H v H' → Grown H H' ∧ ∀ M2, (∀ a ∈ M2, a ∈ M) → Rep K H' M2 v x) ∧ ∀ i, xs.length ≤ i → J.stop i H
def lI (Wp : Wk → Prop) (K : PySem.W.Frag) (mg : Str → Option Value) (E : XK) (m : DI) : TI := fun σ H Q => ∃ W B M0 ρ M P R, WP Wp W m.m ∧ Gd W K B M0 ρ σ H M ∧ m ρ P R ∧ XOk W K mg E M0 B R ∧
  ∀ xs ρ' J H' M', P xs ρ' → xs.length ≤ sizeLine → Gd (W.up m.m) K B M0 ρ' σ H' M' → WalkOk W K J xs H' M' → Q J H'
abbrev JI (Wp : Wk → Prop) (E : XK) (X : Cx) (tg e : Expr) (d : DI) : Prop := PI X tg e (lI Wp X.K X.mg E d)
theorem _root_.L2.PI.weak {X : Cx} {tg e : Expr} {t t' : TI} (h : PI X tg e t) (w : ∀ σ H Q, t' σ H Q → t σ H Q) : PI X tg e t' := ⟨fun pins s σ H Q I q => h.run pins s σ H Q I (w σ H Q q)⟩
theorem walk_list {W : Wk} {K : PySem.W.Frag} {a : Addr} {vs : List V} {ds : List PyData} {H : Hp} {M : List Addr} (hn : a ∉ M) (ha : H a = some (.lst vs)) (r : RepL K H M vs ds) : WalkOk W K (Itl K a) ds H M := by
  intro M2 H2 k n
  have ha2 := k.same a _ hn ha
  refine ⟨fun i x e => ?_, fun i hi => ⟨vs, SqL.of ha2, by rw [r.length]; exact hi⟩⟩
  obtain ⟨v, hv, rv⟩ := r.get e
  refine ⟨⟨vs, v, SqL.of ha2, hv⟩, fun v' H' ⟨e1, e2⟩ => ⟨.inl e1, fun M3 s => ?_⟩⟩
  subst e1
  have q := e2 vs (SqL.of ha2)
  rw [hv] at q; cases q
  exact (rv.move k n).less s
theorem walk_tup {K : PySem.W.Frag} {W : Wk} {a : Addr} {vs : List V} {ds : List PyData} {H : Hp} {M : List Addr} (ha : SqT K H a vs) (r : RepL K H M vs ds) : WalkOk W K (Itt K a) ds H M := by
  intro M2 H2 k n
  have ha2 := k.sqT ha
  refine ⟨fun i x e => ?_, fun i hi => ⟨vs, ha2, by rw [r.length]; exact hi⟩⟩
  obtain ⟨v, hv, rv⟩ := r.get e
  refine ⟨⟨vs, v, ha2, hv⟩, fun v' H' ⟨e1, e2⟩ => ⟨.inl e1, fun M3 s => ?_⟩⟩
  subst e1
  have q := e2 vs ha2
  rw [hv] at q; cases q
  exact (rv.move k n).less s
theorem walk_range {W : Wk} {K : PySem.W.Frag} {lo : Int} {n : Nat} {H : Hp} {M : List Addr} : WalkOk W K (Itr lo n) ((List.range n).map fun (k : Nat) => PyData.int (lo + (k : Int))) H M := by
  intro M2 H2 k nn
  refine ⟨fun i x e => ?_, fun i hi => show n ≤ i by simpa using hi⟩
  rw [List.getElem?_map] at e
  have hi : i < n := by
    by_cases hi : i < n
    · exact hi
    · rw [List.getElem?_eq_none (by simpa using Nat.le_of_not_lt hi)] at e; cases e
  rw [List.getElem?_range hi] at e
  cases e
  exact ⟨hi, fun v H' ⟨e1, e2⟩ => ⟨.inl e1, fun _ _ => by subst e2; exact Rep.int _⟩⟩
theorem walk_str {W : Wk} {K : PySem.W.Frag} {z : Str} {H : Hp} {M : List Addr} :
    WalkOk W K (Its z) (z.cps.toList.map sgn) H M := by
  intro M2 H2 k nn
  refine ⟨fun i x e => ?_, fun i hi => show z.cps.size ≤ i by simpa using hi⟩
  rw [List.getElem?_map] at e
  cases q : z.cps.toList[i]? with
  | none => rw [q] at e; cases e
  | some c =>
    rw [q] at e; cases e
    have q' : z.cps[i]? = some c := by rw [← Array.getElem?_toList]; exact q
    have hi : i < z.cps.size := (Array.getElem?_eq_some_iff.mp q').1
    refine ⟨hi, fun v H' y => ?_⟩
    obtain ⟨e1, c', e2, e3⟩ := y
    rw [q'] at e2; cases e2
    subst e3
    exact ⟨.inl e1, fun _ _ => Rep.str _⟩
end G9

/-! M10: what is walked; list comprehensions. -/
namespace G9
open PySem PySem.Spec L2 PyProof.Rows
section
variable {X : Cx} {tg l : Expr}
/-- a list, a tuple, a text is walked -/
def iSeq (K : PySem.W.Frag) (tl : TE) : TI := fun σ H R => tl σ H fun x H1 =>
  (∃ a xs, x = .ref a ∧ SqL K H1 a xs ∧ (xs.length ≤ sizeLine → R (Itl K a) H1)) ∨ ((∃ a xs, x = .ref a ∧ SqT K H1 a xs ∧ (xs.length ≤ sizeLine → R (Itt K a) H1)) ∨ ∃ z, x = .str z ∧ R (Its z) H1)
theorem pi_seq {tl : TE} (hl : PE X l tl) : PI X tg l (iSeq X.K tl) := by
  refine ⟨fun pins s σ H R I h => thn (hl.run pins s σ H _ I h) fun v s1 ⟨x, H1, I1, r1, q1⟩ => ?_⟩
  rcases q1 with ⟨a, xs, rfl, hq, q⟩ | ⟨a, xs, rfl, hq, q⟩ | ⟨z, rfl, q⟩
  · cases r1
    obtain ⟨its, rv, p, hz⟩ := I1.list hq
    exact wpAny_pyIter_list p.isList (pi_one (tk := s1.toks) I1 _ (turn_list a _) ⟨_, Heap.get?_push_size _ rfl, rfl, rfl⟩ (q hz))
  · cases r1
    obtain ⟨its, rv, p, hz⟩ := I1.tuple hq
    exact wpAny_pyIter_tuple (show s1.heap.IsTuple a its.toArray from p) (pi_one (tk := s1.toks) I1 _ (turn_tuple a _) ⟨_, Heap.get?_push_size _ rfl, rfl, rfl⟩ (q hz))
  · obtain ⟨t, rfl⟩ := r1
    cases ha : z.cps.all (· < 128)
    · exact wpAny_pyIter_wide ha (pi_one (tk := s1.toks) I1 _ (turn_str _ z t "str_iterator" (.inr rfl)) ⟨_, Heap.get?_push_size _ rfl, rfl, rfl⟩ q)
    · exact wpAny_pyIter_ascii ha (pi_one (tk := s1.toks) I1 _ (turn_str _ z t "str_ascii_iterator" (.inl rfl)) ⟨_, Heap.get?_push_size _ rfl, rfl, rfl⟩ q)
end
section
variable {Wp : Wk → Prop} {E : XK} {X : Cx} {ea eb ec e tg : Expr} {es rest : List Expr} {a b c : DO} {da db : DE} {pos p2 : Pos}
theorem wSeq (ja : JE Wp E X ea da) : JI Wp E X tg ea (wE da) :=
  (pi_seq ja).weak fun σ H Q ⟨W, B, M0, ρ, M, P, R, w, G, d, x, h⟩ => lE_go w G d x fun u fr ρ1 v H1 M1 c r => by
    obtain ⟨y, e, c⟩ := c
    have rr := r.val e
    cases y <;> try exact (show False from c).elim
    · obtain rfl := Rep.str_inv rr
      obtain ⟨hz, c⟩ := c
      refine .inr (.inr ⟨_, rfl, h _ _ _ _ _ c ?_ r.gd walk_str⟩)
      simpa [Str.length] using hz
    · cases rr with
      | lst hn ha q => exact .inl ⟨_, _, rfl, SqL.of ha, fun hz => h _ _ _ _ _ c (by rw [← q.length]; exact hz) r.gd (walk_list hn ha q)⟩
    · cases rr with
      | tup ha q => exact .inr (.inl ⟨_, _, rfl, ha, fun hz => h _ _ _ _ _ c (by rw [← q.length]; exact hz) r.gd (walk_tup ha q)⟩)
theorem wR1 (hg : Gl X "range") (hm : X.mg "range" = none) (ja : JE Wp E X ea da) (hs : starEach [ea] X.env = [(false, eval ea X.env)]) : JI Wp E X tg (.Call (.Name "range" p2) [ea] [] pos) (wRng1 da) :=
  (pi_range1 hg hm (pa_cons ja pa_nil hs) hs).weak fun σ H Q ⟨W, B, M0, ρ, M, P, R, w, G, d, x, h⟩ => lE_go w G d x fun u fr ρ1 v H1 M1 c r => by
    obtain ⟨n, rfl, h1, h2, c⟩ := c
    refine ⟨n, by rw [Rep.int_inv r.rep], h2, by omega, ?_⟩
    have z : rangeD 0 n = (List.range n.toNat).map fun (k : Nat) => PyData.int (0 + (k : Int)) := by unfold rangeD; rw [Int.sub_zero]
    rw [z] at c
    exact h _ _ _ _ _ c (by rw [List.length_map, List.length_range, sizeLine_eq]; omega) r.gd walk_range
theorem wR2 (hg : Gl X "range") (hm : X.mg "range" = none) (ja : JE Wp E X ea da) (jb : JE Wp E X eb db) (hs : starEach [ea, eb] X.env = [(false, eval ea X.env), (false, eval eb X.env)]) (hs2 : starEach [eb] X.env = [(false, eval eb X.env)]) :
    JI Wp E X tg (.Call (.Name "range" p2) [ea, eb] [] pos) (wRng2 da db) :=
  (pi_range2 hg hm (pa_cons ja (pa_cons jb pa_nil hs2) (by rw [hs, hs2])) hs hs2).weak fun σ H Q ⟨W, B, M0, ρ, M, P, R, w, G, d, x, h⟩ => lE_go w G d x fun u fr ρ1 v H1 M1 c r => lE_go' w r.gd c x fun u' fr' ρ2 v' H2 M2 c r' => by
    obtain ⟨m, n, rfl, rfl, h1, h2, c⟩ := c
    have e1 : v = .int m := Rep.int_inv r.rep
    have e2 : v' = .int n := Rep.int_inv r'.rep
    subst e1 e2
    refine ⟨m, n, rfl, ⟨by omega, by omega, h2.1, by omega⟩, ?_⟩
    exact h _ _ _ _ _ c (by unfold rangeD; rw [List.length_map, List.length_range, sizeLine_eq]; omega) r'.gd walk_range
end
/-! ### a list comprehension -/
section
variable {W : Wk} {K : PySem.W.Frag} {B : List Bs} {M0 : List Addr} {ρ : En} {σ : L2.St} {H H' : Hp} {M M' : List Addr}
/-- other names, other values: each entry is one that was, or tells a value that nobody owns -/
theorem Gd.reEnv (G : Gd W K B M0 ρ σ H M) {ρ2 : En} {σ2 : L2.St} (hl : ρ2.length = σ2.length)
    (h : ∀ (i : Nat) (e : Ent), ρ2[i]? = some (some e) → (ρ[i]? = some (some e) ∧ σ2[i]? = σ[i]?) ∨ (e.own = false ∧ ∃ v, σ2[i]? = some (some v) ∧ RepU W K H M v e.u)) : Gd W K B M0 ρ2 σ2 H M := by
  have old : ∀ {i : Nat} {e : Ent}, ρ2[i]? = some (some e) → e.own = true → ρ[i]? = some (some e) ∧ σ2[i]? = σ[i]? := fun h1 h2 => (h _ _ h1).elim id fun z => by rw [z.1] at h2; cases h2
  refine ⟨G.sm, G.wok, G.wad, G.sub, G.liv, hl, fun b hb => ?_, fun i e q => ?_, fun i j e e' a g1 g2 g3 g4 g5 g6 => ?_⟩
  · obtain ⟨q1, q2, q3, q4⟩ := G.bs b hb
    refine ⟨q1, q2, q3, fun a ⟨i, e, y1, y2, y3⟩ => q4 a ⟨i, e, (old y1 y2).1, y2, by rw [← (old y1 y2).2]; exact y3⟩⟩
  · rcases h i e q with ⟨q1, q2⟩ | ⟨q1, v, q2, q3⟩
    · obtain ⟨v, z1, z2⟩ := G.ent i e q1
      exact ⟨v, by rw [q2]; exact z1, z2⟩
    · refine ⟨v, q2, ?_⟩
      unfold EntOk
      rw [if_neg (by rw [q1]; simp)]
      exact q3
  · obtain ⟨a1, a2⟩ := old g1 g2
    obtain ⟨b1, b2⟩ := old g4 g5
    exact G.sep i j e e' a a1 g2 (by rw [← a2]; exact g3) b1 g5 (by rw [← b2]; exact g6)
theorem wipe_at (σ : L2.St) (j : Nat) : ∀ vs : List Nat, (L2.wipe σ vs)[j]? = if j ∈ vs ∧ j < σ.length then some none else σ[j]?
  | [] => by simp [L2.wipe]
  | v :: vs => by
    unfold L2.wipe
    by_cases h : v = j
    · subst h
      by_cases hl : v < σ.length
      · rw [List.getElem?_set_self (by rw [wipe_length]; exact hl), if_pos ⟨List.mem_cons_self, hl⟩]
      · rw [List.getElem?_eq_none (by rw [List.length_set, wipe_length]; omega), if_neg (fun z => hl z.2), List.getElem?_eq_none (by omega)]
    · rw [List.getElem?_set_ne h, wipe_at σ j vs]
      have e : (j ∈ v :: vs) ↔ j ∈ vs := by simp [Ne.symm h]
      simp only [e]
theorem wipeE_length (ρ : En) : ∀ vs : List Nat, (wipeE ρ vs).length = ρ.length
  | [] => rfl
  | v :: vs => by unfold wipeE; rw [List.length_set, wipeE_length ρ vs]
theorem wipeE_at (ρ : En) (j : Nat) : ∀ vs : List Nat, (wipeE ρ vs)[j]? = if j ∈ vs ∧ j < ρ.length then some none else ρ[j]?
  | [] => by simp [wipeE]
  | v :: vs => by
    unfold wipeE
    by_cases h : v = j
    · subst h
      by_cases hl : v < ρ.length
      · rw [List.getElem?_set_self (by rw [wipeE_length]; exact hl), if_pos ⟨List.mem_cons_self, hl⟩]
      · rw [List.getElem?_eq_none (by rw [List.length_set, wipeE_length]; omega), if_neg (fun z => hl z.2), List.getElem?_eq_none (by omega)]
    · rw [List.getElem?_set_ne h, wipeE_at ρ j vs]
      have e : (j ∈ v :: vs) ↔ j ∈ vs := by simp [Ne.symm h]
      simp only [e]
theorem backE_length (ρ ρ' : En) : ∀ vs : List Nat, (backE ρ ρ' vs).length = ρ'.length
  | [] => rfl
  | v :: vs => by unfold backE; rw [List.length_set, backE_length ρ ρ' vs]
theorem backE_some (ρ ρ' : En) (j : Nat) (e : Ent) : ∀ vs : List Nat, (backE ρ ρ' vs)[j]? = some (some e) → (j ∉ vs ∧ ρ'[j]? = some (some e)) ∨ (e.own = false ∧ ρ[j]? = some (some e))
  | [], h => .inl ⟨by simp, h⟩
  | v :: vs, h => by
    unfold backE at h
    by_cases hv : v = j
    · subst hv
      by_cases hl : v < (backE ρ ρ' vs).length
      · rw [List.getElem?_set_self hl] at h
        right
        split at h
        · rename_i u q
          cases h
          exact ⟨rfl, En.at_get q⟩
        · cases h
      · rw [List.getElem?_eq_none (by rw [List.length_set]; omega)] at h; cases h
    · rw [List.getElem?_set_ne hv] at h
      rcases backE_some ρ ρ' j e vs h with ⟨h1, h2⟩ | h2
      · exact .inl ⟨by simp only [List.mem_cons, not_or]; exact ⟨Ne.symm hv, h1⟩, h2⟩
      · exact .inr h2
theorem Gd.wiped (G : Gd W K B M0 ρ σ H M) (vs : List Nat) : Gd W K B M0 (wipeE ρ vs) (L2.wipe σ vs) H M := by
  refine G.reEnv (by rw [wipeE_length, wipe_length]; exact G.len) fun i e h => .inl ?_
  rw [wipeE_at] at h
  by_cases c : i ∈ vs ∧ i < ρ.length
  · rw [if_pos c] at h; cases h
  · rw [if_neg c] at h
    refine ⟨h, ?_⟩
    rw [wipe_at, if_neg (by rw [← G.len]; exact c)]
theorem wipe_eq {σ σ2 : L2.St} {vs tg : List Nat} (hl : σ2.length = (L2.wipe σ vs).length) (hs : ∀ j, j ∉ tg → σ2[j]? = (L2.wipe σ vs)[j]?) (sub : ∀ i ∈ tg, i ∈ vs) : L2.wipe σ2 vs = L2.wipe σ vs := by
  rw [wipe_length] at hl
  refine List.ext_getElem? fun j => ?_
  rw [wipe_at, wipe_at, hl]
  by_cases c : j ∈ vs ∧ j < σ.length
  · rw [if_pos c, if_pos c]
  · rw [if_neg c, if_neg c]
    by_cases hj : j ∈ tg
    · have : ¬ j < σ.length := fun z => c ⟨sub j hj, z⟩
      rw [List.getElem?_eq_none (by omega), List.getElem?_eq_none (by omega)]
    · rw [hs j hj, wipe_at, if_neg c]
end
section
variable {Wp : Wk → Prop} {E : XK} {X : Cx} {elt tgx iter : Expr} {ifs : List Expr} {scope : Scope} {own : List (Str × Nat)} {pos : Pos} {tg : List Nat} {tp : Bool} {di : DI} {dc : DT} {de : DE}
theorem lc_go {W : Wk} {B : List Bs} {M0 : List Addr} {ρ : En} {σ : L2.St} {H : Hp} {M : List Addr} {P : U → Bool → En → Prop} {R : RK} {Q : VK} {K : PySem.W.Frag} {mg : Str → Option Value} {vs : List Nat} (w : WP Wp W (di.m + sizeLine * (dc.m + de.m))) (G : Gd W K B M0 ρ σ H M) (d : dLc vs tg tp di dc de ρ P R) (x : XOk W K mg E M0 B R)
    (sub : ∀ i ∈ tg, i ∈ vs) (hl : ∀ i ∈ tg, i < σ.length)
    (h : ∀ u fr ρ' v H' M', P u fr ρ' → Res (W.up (di.m + sizeLine * (dc.m + de.m))) K B M0 ρ' σ H' M' v u fr → Q v H') : tLc (lI Wp K mg E di) (gB K tg tp) (lT Wp K mg E dc) (lE Wp K mg E de) vs σ H Q := by
  refine ⟨W, B, M0, ρ, M, _, R, w.le (Nat.le_add_right _ _), G, d, x, fun xs ρ1 J H1 M1 c hxs G1 wk D hD => ?_⟩
  have hB : ∀ b ∈ (⟨H1, M1, M1⟩ : Bs) :: B, b.h D = none := fun b hb => by
    rcases List.mem_cons.mp hb with rfl | hb
    · exact hD
    · exact G1.old hb hD
  have hDW : D ∉ W.ad := fun z => (W.up di.m).liv _ G1.wok D z hD
  have kk : ∀ i, di.m + i * (dc.m + de.m) + dc.m + de.m = di.m + (i + 1) * (dc.m + de.m) := fun i => by simp only [Nat.succ_mul, Nat.add_assoc]
  generalize hf : (fun (x : PyData) (ρ' : En) (k : Option PyData → En → Prop) => bindT tg tp x (wipeE ρ' vs) fun ρ2 => dc ρ2 (fun b ρ3 => if b = true then de ρ3 (fun u _ ρ4 => ∃ d, u = .d d ∧ k (some d) ρ4) X0 else k none ρ3) X0) = f at c
  have hfx : ∀ (x : PyData) (ρ' : En) (k : Option PyData → En → Prop), f x ρ' k = bindT tg tp x (wipeE ρ' vs) fun ρ2 => dc ρ2 (fun b ρ3 => if b = true then de ρ3 (fun u _ ρ4 => ∃ d, u = .d d ∧ k (some d) ρ4) X0 else k none ρ3) X0 := fun x ρ' k => by rw [← hf]
  let Iv : Nat → Hp → Prop := fun i H => ∃ ρ' M acc ds, Gd (W.up (di.m + i * (dc.m + de.m))) K (⟨H1, M1, M1⟩ :: B) (D :: M0) (wipeE ρ' vs) (L2.wipe σ vs) H M ∧ H D = some (.lst acc) ∧ RepL K H M acc ds ∧ acc.length ≤ i ∧ ρ'.length = σ.length ∧
    lcL f (xs.drop i) ρ' ds fun ds ρ' => P (.d (.list ds)) true (backE ρ1 ρ' vs)
  refine ⟨fun i m H => m = xs.length - i ∧ i ≤ xs.length ∧ Iv i H, ⟨xs.length, by simp, Nat.zero_le _, ρ1, D :: M1, [], [], ?_, upd_same, .nil, Nat.le_refl _, G1.len, c⟩, ?_⟩
  · exact ((G1.base.fence hD).wiped vs).mono (Nat.le_add_right _ _)
  rintro i m H2 ⟨rfl, hi, ρ', M2, acc, ds, G2, hDv, rl, hacc, hlen, c⟩
  obtain ⟨wk1, wk2⟩ := wk M2 H2 G2.kp G2.nw
  by_cases hlt : i < xs.length
  · have hx : xs[i]? = some xs[i] := by simp [hlt]
    rw [List.drop_eq_getElem_cons hlt] at c
    generalize xs[i] = xi at hx c
    obtain ⟨go, yl⟩ := wk1 i xi hx
    refine .inr ⟨go, Iv (i + 1), fun H' p' => ⟨xs.length - (i + 1), by omega, rfl, hlt, p'⟩, fun v H3 y => ?_⟩
    obtain ⟨gr, rv⟩ := yl v H3 y
    have rv := rv M2 fun _ z => z
    have G3 := G2.grown gr
    have rl3 : RepL K H3 M2 acc ds := rl.keep gr.kp
    have hD3 : H3 D = some (.lst acc) := (gr.kp (M := [])).same D _ (by simp) hDv
    have c : f xi ρ' (fun o ρ'' => match o with | some y => lcL f (xs.drop (i + 1)) ρ'' (ds ++ [y]) _ | none => lcL f (xs.drop (i + 1)) ρ'' ds _) := c
    rw [hfx] at c
    refine bind_go G3 rv c (fun j hj => by rw [wipe_length]; exact hl j hj) fun ρ2 σ2 e1 e2 c G4 => ⟨wipe_eq e1 e2 sub, ?_⟩
    have ws := wipe_eq e1 e2 sub
    have hD0 : ∀ {j : Nat} {ρ : En} {σ : L2.St} {H : Hp} {M : List Addr} {B : List Bs}, Gd (W.up j) K B (D :: M0) ρ σ H M → Gd (W.up j) K (⟨H, M.filter (fun a => decide (a ≠ D)), M⟩ :: B) (D :: M0) ρ σ H M := fun {j ρ σ H M B} G => by
      refine G.baseK (fun a z => List.mem_filter.mpr ⟨G.sub a (G.wad a z), decide_eq_true (fun e => hDW (by rw [← e]; exact z))⟩) fun a o => ?_
      obtain ⟨q1, q2, _⟩ := G.owned o
      exact List.mem_filter.mpr ⟨q1, decide_eq_true (fun e => q2 (by rw [e]; exact List.mem_cons_self))⟩
    have notin : ∀ {M : List Addr}, D ∉ M.filter (fun a => decide (a ≠ D)) := fun z => of_decide_eq_true (List.mem_filter.mp z).2 rfl
    have carry : ∀ {j : Nat} {ρ : En} {σ : L2.St} {H H' : Hp} {M M' : List Addr} {B : List Bs} {acc : List V} {ds : List PyData}, Gd (W.up j) K (⟨H, M.filter (fun a => decide (a ≠ D)), M⟩ :: B) (D :: M0) ρ σ H' M' → H D = some (.lst acc) → RepL K H M acc ds → H' D = some (.lst acc) ∧ RepL K H' M' acc ds :=
      fun G q r => ⟨G.kp.same D _ notin q, r.move (G.kp.more fun a z => (List.mem_filter.mp z).1) G.nw⟩
    have lt1 : di.m + i * (dc.m + de.m) + dc.m + de.m ≤ di.m + sizeLine * (dc.m + de.m) := by rw [kk]; exact Nat.add_le_add_left (Nat.mul_le_mul_right _ (by omega)) _
    refine ⟨_, _, D :: M0, ρ2, M2, _, X0, w.up (Nat.le_trans (Nat.le_add_right _ _) lt1), hD0 G4, c, XOk.none, fun k ρ3 H4 M4 c G5 => ?_⟩
    have G5 := G5.cast
    obtain ⟨hD4, rl4⟩ := carry G5 hD3 rl3
    have G5 := G5.tail
    cases k with
    | false =>
      refine ⟨ρ3, M4, acc, ds, ?_, hD4, rl4, Nat.le_succ_of_le hacc, ?_, c⟩
      · rw [← ws, ← kk]; exact (G5.wiped vs).mono (Nat.le_add_right _ _)
      · rw [G5.len, e1, wipe_length]
    | true =>
      refine ⟨_, _, D :: M0, ρ3, M4, _, X0, w.up lt1, hD0 G5, c, XOk.none, fun u fr ρ4 y H5 M5 c r => ?_⟩
      have r := r.cast
      obtain ⟨dd, rfl, c⟩ := c
      obtain ⟨hD5, rl5⟩ := carry r.gd hD4 rl4
      have G6 := r.gd.tail
      have ry : Rep K H5 M5 y dd := r.rep
      have kp : Kp M5 H5 (upd H5 D (.lst (acc ++ [y]))) := Kp.store (G6.sub D List.mem_cons_self) hD5
      refine ⟨acc, hD5, by omega, ρ4, M5, acc ++ [y], ds ++ [dd], ?_, upd_same, (rl5.append (.cons ry .nil)).keep kp, by rw [List.length_append, List.length_singleton]; omega, by rw [G6.len, e1, wipe_length], c⟩
      rw [← ws, ← kk]
      exact (G6.writeF List.mem_cons_self hDW hD5 hB).wiped vs
  · have e : i = xs.length := by omega
    subst e
    rw [List.drop_length] at c
    refine .inl ⟨wk2 _ (Nat.le_refl _), h _ _ _ _ _ (M2.filter (fun a => decide (a ≠ D))) c ?_⟩
    have G2 := G2.mono (Nat.add_le_add_left (Nat.mul_le_mul_right (dc.m + de.m) hxs) di.m)
    have G7 : Gd (W.up (di.m + sizeLine * (dc.m + de.m))) K (⟨H1, M1, M1⟩ :: B) (D :: M0) (backE ρ1 ρ' vs) σ H2 M2 := by
      refine G2.reEnv (by rw [backE_length]; exact hlen) fun j e hj => ?_
      rcases backE_some _ _ _ _ _ hj with ⟨h1, h2⟩ | ⟨h1, h2⟩
      · left
        rw [wipeE_at, wipe_at, if_neg (fun z => h1 z.1), if_neg (fun z => h1 z.1)]
        exact ⟨h2, rfl⟩
      · right
        obtain ⟨v, q1, q2⟩ := G1.ent j e h2
        unfold EntOk at q2
        rw [if_neg (by rw [h1]; simp)] at q2
        exact ⟨h1, v, q1, q2.move G2.kp G2.nw⟩
    have own : ∀ a, Owns (backE ρ1 ρ' vs) σ a → a ∈ M2 ∧ a ≠ D := fun a o => by
      obtain ⟨q1, q2, _⟩ := G7.owned o
      exact ⟨q1, fun e => q2 (by rw [e]; exact List.mem_cons_self)⟩
    have G8 := (G7.unfence G1.wad).tail
    have m0D : ∀ a ∈ M0, a ≠ D := fun a z e => G1.liv a (G1.sub a z) (by rw [e]; exact hD)
    have fl : ∀ a, a ∈ M2.filter (fun a => decide (a ≠ D)) ↔ a ∈ M2 ∧ a ≠ D := fun a => by rw [List.mem_filter, decide_eq_true_iff]
    have G9 := G8.reM (M' := M2.filter (fun a => decide (a ≠ D))) (fun a z => ((fl a).mp z).1) (fun a z => (fl a).mpr ⟨G8.sub a z, m0D a z⟩) fun a o => (fl a).mpr (own a o)
    refine ⟨G9, ?_⟩
    rw [if_pos rfl]
    refine ⟨D, acc, ds, rfl, rfl, hDv, rl.less fun a z => ?_, fun z => ((fl D).mp z).2 rfl, G8.reM (fun a z => ?_) (fun a z => ?_) fun a o => ?_, fun b hb => hB b (List.mem_cons_of_mem _ hb)⟩
    · rcases List.mem_cons.mp z with rfl | z
      · exact G2.sub _ List.mem_cons_self
      · exact ((fl a).mp z).1
    · rcases List.mem_cons.mp z with rfl | z
      · exact G2.sub _ List.mem_cons_self
      · exact ((fl a).mp z).1
    · exact List.mem_cons_of_mem _ ((fl a).mpr ⟨G8.sub a z, m0D a z⟩)
    · exact List.mem_cons_of_mem _ ((fl a).mpr (own a o))
theorem kIfs0 {X : Cx} : PTs X [] (lT Wp X.K X.mg E kTrue) := ⟨fun pins s σ H Q I ⟨W, B, M0, ρ, M, P, R, w, G, d, x, h⟩ => pts_nil.run pins s σ H Q I (h _ _ _ _ d G)⟩
theorem kIfs1 {X : Cx} {c : Expr} {t : DT} (j : JT Wp E X c t) : PTs X [c] (lT Wp X.K X.mg E t) := pts_one j
end
end G9

/-! S1: sets of texts on the heap: add, sorted. -/
namespace G9
open PySem PySem.Spec L2 PyProof.Rows PySem.Froz
/-- a set of texts stands at a, its members are l; it can be walked -/
def SetS (P : Program) (w : World) (h : Heap) (a : Addr) (l : List Str) : Prop :=
  ∃ D : SD, h.get? a = some (sObj "set" D) ∧ TxOk P w D l ∧ l.Nodup ∧ l.length < scanBound ∧ Ris D.2.2.place.toList ∧ (w.params.followText "set-order" = true ∨ D.2.2.led = true)
section
variable {P : Program} {w : World} {A : Around} {E : Value → Shared → Prop} {s : Shared} {a : Addr} {l : List Str} {k : Str} {u : Tok}
theorem SetS.keep {h h' : Heap} (R : SetS P w h a l) (q : ∀ o, h.get? a = some o → h'.get? a = some o) : SetS P w h' a l := by
  obtain ⟨D, h1, h2⟩ := R
  exact ⟨D, q _ h1, h2⟩
theorem tail_ris {ep : Nat} {es : Array (Int × Value)} {t : SetTable} {b : Bool} (h : Ris t.place.toList) : Ris (tailTx ep es t b).2.2.place.toList := by
  unfold tailTx
  split
  · exact relayAll_ris t es _
  · exact h
theorem tail_led {ep : Nat} {es : Array (Int × Value)} {t : SetTable} {b : Bool} : (tailTx ep es t b).2.2.led = t.led := by
  unfold tailTx
  split
  · exact relayAll_led t es _
  · rfl
theorem addTx_ris {h : Int} {v : Value} {D : SD} (r : Ris D.2.2.place.toList) : Ris (addTx h v D).2.2.place.toList := by
  unfold addTx
  refine tail_ris ?_
  have z := layNew_ris D.2.2 D.1 h v r
  split <;> exact z
theorem addTx_led {h : Int} {v : Value} {D : SD} : (addTx h v D).2.2.led = D.2.2.led := by
  unfold addTx
  rw [tail_led]
  have z := layNew_led D.2.2 D.1 h v
  split <;> exact z
/-- a member is added once more -/
theorem add_old {D : SD} {T : String} {Q : Bool → Shared → Prop} (ho : s.heap.get? a = some (sObj T D)) (F : TxOk P w D l) (hk : k ∈ l) (hb : l.length < scanBound) (h : Q false s) :
    wpAny (model P w) A (setAddHashed a (.str k u) (hashStr w k)) Q E s := by
  obtain ⟨es, ep, t⟩ := D
  have hsz : es.size < scanBound := by rw [show es.size = l.length from F.sz]; exact hb
  have hel : ElemsOf (PySem.strKind P w) es.toList := F.el
  have hft : t.fits es.size = true := F.fit
  have hkey : (PySem.strKind P w).is k (.str k u) = true := is_str k u
  obtain ⟨e, he, hke⟩ := (F.mem k).mp hk
  unfold setAddHashed
  unfold setAddHashedIn
  refine wpAny_holding (wpAny_bind (wpAny_setState_of (o := sObj T (es, ep, t)) ho rfl hft ?_))
  dsimp only
  rw [byScan_of rfl hsz hel]
  simp only [↓reduceIte]
  unfold setAddByScan
  refine wpAny_bind (wpAny_bind (wpAny_rule (wpAny_bind (wpAny_setScan_of (k := k) hkey ho rfl hft hel ?_))))
  cases hf : List.findIdx? (fun e => (PySem.strKind P w).is k e.2) es.toList with
  | some j => exact wpAny_pure (wpAny_pure h)
  | none =>
    have z := List.findIdx?_eq_none_iff.mp hf e he
    rw [hke] at z
    cases z
/-- the members behind an add -/
def insS (k : Str) (l : List Str) : List Str := if k ∈ l then l else k :: l
theorem setS_add {Q : Value → Shared → Prop} (R : SetS P w s.heap a l) (room : l.length + 1 < scanBound)
    (hQ : ∀ h', Heap.SameBut a s.heap h' → SetS P w h' a (insS k l) → Q .none { s with heap := h', toks := s.toks + 1 }) : wpAny (model P w) A (call (.builtin "set.add") [.ref a, .str k u]) Q E s := by
  obtain ⟨D, ho, Fx, nd, hb, r, ld⟩ := R
  have hT : s.TypeIs (.ref a) "set" := ⟨_, ho, rfl⟩
  refine wpAny_call_entry F.slot_set_add hT F.entry_set_add ?_ (F.args_set_add_2 _ _)
  unfold Builtin.«set.add» Builtin.Frozenset.oneOther
  simp only [List.isEmpty_nil, bind_assoc]
  unfold Builtin.Frozenset.addrOf setAdd
  refine wpAny_bind (wpAny_pure ?_)
  try dsimp only
  refine wpAny_bind (wpAny_pure ?_)
  try dsimp only
  refine wpAny_bind (wpAny_holding (wpAny_bind ((PySem.strKind P w).pyHash (is_str k u) ?_)))
  by_cases hk : k ∈ l
  · refine add_old (s := { s with toks := s.toks + 1 }) ho Fx hk hb ?_
    refine wpAny_pure ⟨_, rfl, hQ s.heap (Heap.SameBut.refl a s.heap) ?_⟩
    unfold insS
    rw [if_pos hk]
    exact ⟨D, ho, Fx, nd, hb, r, ld⟩
  · refine add_x (s := { s with toks := s.toks + 1 }) ho Fx hk room ?_
    refine wpAny_pure ⟨_, rfl, hQ _ (Heap.SameBut.update s.heap a _) ?_⟩
    unfold insS
    rw [if_neg hk]
    exact ⟨_, get_upd _ ho rfl, add_ok u Fx, List.nodup_cons.mpr ⟨hk, nd⟩, room, addTx_ris r, ld.imp id fun z => by rw [addTx_led]; exact z⟩
theorem setS_new {h : Heap} : SetS P w (h.push { cls := .type "set", dict := none, data := .set #[] 0 (.fresh 0 0 (!w.params.followText "set-order")) }) h.objs.size [] :=
  ⟨(#[], 0, .fresh 0 0 (!w.params.followText "set-order")), Heap.get?_push_size _ rfl, TxOk.nil rfl, List.nodup_nil, by decide, List.Pairwise.nil, by
    show _ ∨ (!w.params.followText "set-order") = true
    cases w.params.followText "set-order"
    · exact .inr rfl
    · exact .inl rfl⟩
def strV : Value → Str
  | .str x _ => x
  | _ => ⟨#[]⟩
theorem strs_are : ∀ {vs : List Value}, (∀ v ∈ vs, ∃ k t, v = Value.str k t) → StrsAre vs (vs.map strV)
  | [], _ => .nil
  | v :: vs, h => by
    obtain ⟨k, t, e⟩ := h v List.mem_cons_self
    subst e
    exact .cons k t (strs_are fun u hu => h u (List.mem_cons_of_mem _ hu))
theorem perm_of_sub {α : Type} [DecidableEq α] : ∀ {l m : List α}, l.Nodup → (∀ k ∈ l, k ∈ m) → l.length = m.length → m.Perm l
  | [], m, _, _, e => by
    have e : m.length = 0 := e.symm
    rw [List.eq_nil_of_length_eq_zero e]
  | k :: l, m, nd, h, e => by
    obtain ⟨n1, n2⟩ := List.nodup_cons.mp nd
    have hk := h k List.mem_cons_self
    refine (List.perm_cons_erase hk).trans ((perm_of_sub n2 (fun j hj => ?_) ?_).cons k)
    · exact (List.mem_erase_of_ne (fun z => n1 (by rw [← z]; exact hj))).mpr (h j (List.mem_cons_of_mem _ hj))
    · rw [List.length_erase_of_mem hk, ← e]
      rfl
/-- sorted of it -/
theorem sorted_setS {Q : Value → Shared → Prop} (R : SetS P w s.heap a l) (hh : A.handled = none) (h64 : l.length < 64)
    (hQ : ∀ s' p (out : Array Value) (c : Nat) (ns : List Str), (∀ b o, s.heap.get? b = some o → s'.heap.get? b = some o) → s'.gens = s.gens → s'.os = s.os → s.heap.objs.size ≤ p →
      s'.heap.get? p = some (seqObj "list" out c) → StrsAre out.toList ns → sortedS ns = true → ns.Perm l → Q (.ref p) s') : wpAny (model P w) A (call (.builtin "sorted") [.ref a]) Q E s := by
  obtain ⟨⟨es, ep, t⟩, ho, F, nd, hb, r, ld⟩ := R
  refine Calls.call_function_entry kind_sorted plain_sorted entry_sorted (args_sorted1 _) ?_
  unfold Builtin.«sorted»
  refine wpAny_bind (m := checkCount "sorted" 1 1 _) (wpAny_pure ?_)
  have hsz : es.size = l.length := F.sz
  refine wpAny_bind (collect_set (A := A.in1) hh (⟨_, ho, rfl, rfl⟩ : SetAt s.heap a es ep t) F.fit (by rw [hsz]; exact hb) r ld fun s1 vs k1 hz g1 o1 pm => ?_)
  have hvl : vs.length = l.length := by rw [pm.length_eq, List.length_map, Array.length_toList]; exact hsz
  have el := F.el
  have hI : StrsAre vs (vs.map strV) := strs_are fun v hv => by
    obtain ⟨e, he, q⟩ := List.mem_map.mp (pm.mem_iff.mp hv)
    obtain ⟨⟨k, hk, _⟩, _⟩ := el e he
    obtain ⟨t, ht⟩ := Value.isStrOf_shape hk
    exact ⟨k, t, by rw [← q]; exact ht⟩
  have hlen64 : vs.length < 64 := by rw [hvl]; exact h64
  refine wpAny_bind (wpAny_newList ?_ (by rw [sizeLine_eq]; omega))
  have hoL : (s1.heap.push (seqObj "list" vs.toArray 0)).get? s1.heap.objs.size = some (seqObj "list" vs.toArray 0) := Heap.get?_push_size _ rfl
  have pk : (vs.map strV).Perm l := by
    have q := pm.map strV
    rw [List.map_map] at q
    refine q.trans (perm_of_sub nd (fun k hk => ?_) (by rw [List.length_map, Array.length_toList]; exact hsz.symm))
    obtain ⟨e, he, z⟩ := (F.mem k).mp hk
    obtain ⟨t, ht⟩ := Value.isStrOf_shape z
    refine List.mem_map.mpr ⟨e, he, ?_⟩
    show strV e.2 = k
    rw [ht]
    rfl
  refine wpAny_bind (wpAny_holding (wpAny_call_entry slot_list_sort ⟨_, hoL, rfl⟩ entry_list_sort (list_sort_treeK strKind_oneLt hoL hI.keysOf (fun v₁ v₂ rest e => keyKind_strs (by rw [← e]; exact hI)) hlen64 fun st' hp hs => ?_) (args_list_sort _)))
  obtain ⟨ns, a1, a2, a3⟩ := sorted_out_str hI hp hs
  refine ⟨_, rfl, ?_⟩
  obtain ⟨c, hc⟩ := sortedHeap_at (vs := vs) (out := (arrOf st').map (·.2)) hoL
  refine wpAny_pure ⟨_, rfl, hQ _ s1.heap.objs.size _ c ns (fun b o e => ?_) g1 o1 hz hc a1 a3 (a2.trans pk)⟩
  have e1 := k1 b o e
  have hlt := Heap.lt_size e1
  show (sortedHeap (s1.heap.push (seqObj "list" vs.toArray 0)) s1.heap.objs.size vs _).get? b = some o
  rw [sortedHeap_old (Nat.ne_of_lt hlt) (by rw [size_push']; exact Nat.lt_succ_of_lt hlt)]
  exact Heap.get?_push_of_some _ e1
end
end G9

/-! S2: set comprehensions with two clauses, of texts. -/
namespace G9
open PySem PySem.Spec L2 PyProof.Rows PySem.Froz
abbrev sc2 (e t i t' i' : Expr) (cs cs' : List Expr) (sc : Scope) (p : Pos) : Expr := .SetComp e [⟨t, i, cs, 0⟩, ⟨t', i', cs', 0⟩] sc p
section
variable {P : Program} {w : World} {A : Around} {R : Result → Shared → Prop} {s : Shared} {e t i t' i' : Expr} {cs cs' : List Expr} {sc : Scope} {p : Pos} {it acc : Value} {env : Env}
abbrev testS (cs : List Expr) (env : Env) : Sem Bool := forIn cs true fun c r => if r = true then do let ok ← isTrue c env (eval c env); pure (ForInStep.yield ok) else pure (ForInStep.yield r)
abbrev NB (P : Program) (w : World) (A : Around) (env : Env) (R : Result → Shared → Prop) : Value → Shared → Prop := notedBy (model P w) A env fun x z => R (.error x) z
theorem outS (e t i t' i' : Expr) (cs cs' : List Expr) (sc : Scope) (p : Pos) (it acc : Value) (env : Env) : compTurn (sc2 e t i t' i' cs cs' sc p) 0 it acc env = (do
      standAt i.pos
      match ← pyNext it with
      | none => pure (.done .next)
      | some v =>
        letOwnedTupleGo t it v
        assign t env v
        let mut go := true
        for c in cs do
          if go then go ← isTrue c env (eval c env)
        if go then
          let y ← eval i' env
          standAt i'.pos
          let y ← foldedSetIterable i' env y
          let _ ← runOwn (.compStart (sc2 e t i t' i' cs cs' sc p) 1 (← holding [y] (pyIter y)) acc env) env
        again (.compLoop (sc2 e t i t' i' cs cs' sc p) 0 it acc env)) := by rfl
theorem innS (e t i t' i' : Expr) (cs cs' : List Expr) (sc : Scope) (p : Pos) (it acc : Value) (env : Env) : compTurn (sc2 e t i t' i' cs cs' sc p) 1 it acc env = (do
      standAt i'.pos
      match ← pyNext it with
      | none => pure (.done .next)
      | some v =>
        letOwnedTupleGo t' it v
        assign t' env v
        let mut go := true
        for c in cs' do
          if go then go ← isTrue c env (eval c env)
        if go then
          (do let y ← eval e env; standAt e.pos; let _ ← call (.builtin "set.add") [acc, y])
        again (.compLoop (sc2 e t i t' i' cs cs' sc p) 1 it acc env)) := by rfl
theorem loopOut (hf : ∀ x, foldedSetIterable i' env x = pure x) (J : Nat → Shared → Prop)
    (turn : ∀ n s, J n s → wpAny (model P w) A (pyNext it) (fun r s1 => match r with
      | none => R (.ok .next) s1
      | some v => wpAny (model P w) A (letOwnedTupleGo t it v) (fun _ s2 => wpAny (model P w) A (assign t env v) (fun _ s3 => wpAny (model P w) A (testS cs env) (fun b s4 =>
            if b = true then wpAny (model P w) A (eval i' env) (fun x s5 => wpAny (model P w) A (pyIter x) (fun it1 s6 =>
              codeAny (model P w) A (.compStart (sc2 e t i t' i' cs cs' sc p) 1 it1 acc env) (fun r z => match r with
                | .ok _ => ∃ m, m < n ∧ J m z
                | .error _ => False) s6) (NB P w A env R) s5) (NB P w A env R) s4
            else ∃ m, m < n ∧ J m s4) (NB P w A env R) s3) (NB P w A env R) s2) (NB P w A env R) s1) (NB P w A env R) s)
    (n : Nat) (h : J n s) : codeAny (model P w) A (.compLoop (sc2 e t i t' i' cs cs' sc p) 0 it acc env) R s := by
  refine codeAny_loop rfl J (fun n s hJ => ?_) n h
  show wpAny _ A ((compTurn (sc2 e t i t' i' cs cs' sc p) 0 it acc env).onRaise (fun x => do noteFrame x env; theTreesLotGoes x)) _ _ s
  refine wpAny_noted ?_
  rw [outS]
  refine wpAny_bind (wpAny_standAt (wpAny_bind (wpAny_mono (turn n s hJ) (fun r s1 q1 => ?_) fun _ _ z => z)))
  cases r with
  | none => exact wpAny_pure q1
  | some v =>
    refine wpAny_bind (wpAny_mono q1 (fun _ s2 q2 => wpAny_bind (wpAny_mono q2 (fun _ s3 q3 => wpAny_bind (wpAny_mono q3 (fun b s4 q4 => ?_) fun _ _ z => z)) fun _ _ z => z)) fun _ _ z => z)
    cases b with
    | false => exact wpAny_pure ⟨rfl, q4⟩
    | true =>
      refine wpAny_bind (wpAny_mono q4 (fun x s5 q5 => wpAny_bind (wpAny_standAt (wpAny_bind (wpAny_of_eq (hf x) (wpAny_bind (wpAny_holding (wpAny_mono q5 (fun it1 s6 q6 => ?_) fun _ _ z => z))))))) fun _ _ z => z)
      refine wpAny_bind (wpAny_runOwn ?_)
      rw [Around.mark_none]
      refine codeAny_mono q6 fun r z hr => ?_
      cases r with
      | error x => exact hr.elim
      | ok f =>
        first
          | exact wpAny_pure ⟨rfl, hr⟩
          | exact wpAny_bind (wpAny_pure (wpAny_pure ⟨rfl, hr⟩))
theorem loopInn (J : Nat → Shared → Prop)
    (turn : ∀ n s, J n s → wpAny (model P w) A (pyNext it) (fun r s1 => match r with
      | none => R (.ok .next) s1
      | some v => wpAny (model P w) A (letOwnedTupleGo t' it v) (fun _ s2 => wpAny (model P w) A (assign t' env v) (fun _ s3 => wpAny (model P w) A (testS cs' env) (fun b s4 =>
            if b = true then wpAny (model P w) A (eval e env) (fun x s5 => wpAny (model P w) A (call (.builtin "set.add") [acc, x]) (fun _ s6 => ∃ m, m < n ∧ J m s6) (NB P w A env R) s5) (NB P w A env R) s4
            else ∃ m, m < n ∧ J m s4) (NB P w A env R) s3) (NB P w A env R) s2) (NB P w A env R) s1) (NB P w A env R) s)
    (n : Nat) (h : J n s) : codeAny (model P w) A (.compLoop (sc2 e t i t' i' cs cs' sc p) 1 it acc env) R s := by
  refine codeAny_loop rfl J (fun n s hJ => ?_) n h
  show wpAny _ A ((compTurn (sc2 e t i t' i' cs cs' sc p) 1 it acc env).onRaise (fun x => do noteFrame x env; theTreesLotGoes x)) _ _ s
  refine wpAny_noted ?_
  rw [innS]
  refine wpAny_bind (wpAny_standAt (wpAny_bind (wpAny_mono (turn n s hJ) (fun r s1 q1 => ?_) fun _ _ z => z)))
  cases r with
  | none => exact wpAny_pure q1
  | some v =>
    refine wpAny_bind (wpAny_mono q1 (fun _ s2 q2 => wpAny_bind (wpAny_mono q2 (fun _ s3 q3 => wpAny_bind (wpAny_mono q3 (fun b s4 q4 => ?_) fun _ _ z => z)) fun _ _ z => z)) fun _ _ z => z)
    cases b with
    | false => exact wpAny_pure ⟨rfl, q4⟩
    | true => exact wpAny_bind (wpAny_bind (wpAny_mono q4 (fun x s5 q5 => wpAny_bind (wpAny_standAt (wpAny_bind (wpAny_mono q5 (fun _ s6 q6 => wpAny_pure (wpAny_pure ⟨rfl, q6⟩)) fun _ _ z => z)))) fun _ _ z => z))
theorem startInn (h0 : codeAny (model P w) A (.compLoop (sc2 e t i t' i' cs cs' sc p) 1 it acc env) R s)
    (h : wpAny (model P w) A (pyIter it) (fun it' z => codeAny (model P w) A (.compLoop (sc2 e t i t' i' cs cs' sc p) 1 it' acc env) R z) (NB P w A env R) s) : codeAny (model P w) A (.compStart (sc2 e t i t' i' cs cs' sc p) 1 it acc env) R s := by
  refine codeAny_of_tree ?_
  show wpAny _ _ ((compStart (sc2 e t i t' i' cs cs' sc p) 1 it acc env).onRaise (fun x => do noteFrame x env; standAt theWindowsPlace)) _ _ s
  refine wpAny_notedAt ?_
  unfold compStart
  show wpAny _ _ (ask >>= _) _ _ s
  refine wpAny_bind (wpAny_askSetting (wpAny_ite ?_))
  split
  · first
      | exact wpAny_bind (wpAny_pure (wpAny_pure ⟨rfl, h0⟩))
      | exact wpAny_pure ⟨rfl, h0⟩
  · first
      | exact wpAny_bind (wpAny_rule (wpAny_bind (wpAny_standAt (wpAny_bind (wpAny_mono h (fun _ _ q => wpAny_pure ⟨rfl, q⟩) fun _ _ x => x)))))
      | (refine wpAny_bind (wpAny_rule ?_); show wpAny _ _ (standAt i'.pos >>= _) _ _ s; exact wpAny_bind (wpAny_standAt (wpAny_bind (wpAny_mono h (fun _ _ q => wpAny_pure ⟨rfl, q⟩) fun _ _ x => x))))
end
end G9

/-! S3: the set comprehension with two clauses, walked; sorted of a set. -/
namespace G9
open PySem PySem.Spec L2 PyProof.Rows PySem.Froz
def SetSO (P : Program) (w : World) (a : Addr) (l : List Str) : HO := .ext fun h => SetS P w h a l
theorem setSO_ok {w : World} {P : Program} {H : Hp} {h : Heap} {a : Addr} {l : List Str} (R : SetS P w h a l) : ObjOk P w H h a (SetSO P w a l) := by
  have ⟨D, h1, _⟩ := R
  exact ⟨R, ⟨_, h1⟩, fun _ _ p q => SetS.keep p q⟩
section
variable {X : Cx} {pins : List (Addr × Obj)} {σ : L2.St} {H : Hp} {s : Shared}
theorem addS_ok {E : Value → Shared → Prop} {D : Addr} {l : List Str} {y : Str} {tk : Tok} {Q : Value → Shared → Prop} (I : Inv X pins σ H s) (hD : H D = some (SetSO X.prog X.w D l)) (room : l.length + 1 < scanBound)
    (h : ∀ z, Inv X pins σ (upd H D (SetSO X.prog X.w D (insS y l))) z → Q .none z) : wpAny (model X.prog X.w) X.A (call (.builtin "set.add") [.ref D, .str y tk]) Q E s := by
  refine setS_add (I.hok D _ hD).1 room fun h' sb new => ?_
  have ⟨o, g, _⟩ := new
  exact h _ (I.write (e := D) (t' := s.toks + 1) (by rw [hD]; trivial) (.inl rfl) (fun b u hb hu => (sb.2 b hb).trans hu) ⟨_, g⟩ (setSO_ok new))
/-- {e for .. in .. if .. for .. in .. if ..}, of texts; D: the new set -/
def tSc2 (P : Program) (w : World) (wo : TI) (go : TG) (co : TT) (wi : TI) (gi : TG) (ci : TT) (te : TE) (vs us : List Nat) : TE := fun σ H Q => wo σ H fun J H1 => ∀ D, H1 D = none → ∃ U : Nat → Nat → Hp → Prop, (∃ m, U 0 m (upd H1 D (SetSO P w D []))) ∧ ∀ i m H, U i m H →
  (J.stop i H ∧ Q (.ref D) H) ∨ (J.go i H ∧ ∃ Nx : Hp → Prop, (∀ H', Nx H' → ∃ m', m' < m ∧ U (i + 1) m' H') ∧ ∀ x H', J.yld i H x H' → go x (wipe σ vs) H' fun σ2 H2 => wipe σ2 vs = wipe σ vs ∧ co σ2 H2 fun b H3 =>
    if b = true then wi σ2 H3 fun J1 H4 => ∃ U1 : Nat → Nat → Hp → Prop, (∃ m, U1 0 m H4) ∧ ∀ j k H, U1 j k H →
      (J1.stop j H ∧ Nx H) ∨ (J1.go j H ∧ ∃ Ny : Hp → Prop, (∀ H', Ny H' → ∃ k', k' < k ∧ U1 (j + 1) k' H') ∧ ∀ x H', J1.yld j H x H' → gi x (wipe σ2 us) H' fun σ3 H5 => wipe σ3 us = wipe σ2 us ∧ ci σ3 H5 fun b H6 =>
        if b = true then te σ3 H6 fun y H7 => ∃ z l, y = .str z ∧ H7 D = some (SetSO P w D l) ∧ l.length + 1 < scanBound ∧ Ny (upd H7 D (SetSO P w D (insS z l))) else Ny H6)
    else Nx H3)
variable {e t i t' i' : Expr} {cs cs' : List Expr} {sc : Scope} {p : Pos} {own : List (Str × Nat)} {us : List Nat} {wo wi : TI} {go gi : TG} {co ci : TT} {te : TE}
theorem pe_sc2 (hc : X.calm = true) (hN : X.N.Nodup) (ok : BlkOk X.N X.env.scope sc own) (hu : ∀ j ∈ us, j ∈ own.map (·.2)) (ho : PI X t i wo)
    (hgo : ∀ (s : Shared) (H : Hp) (C : Addr) (cl : List (Str × Addr)) (fp : List Addr), PG (X.blk s H sc (compEnvC sc cl C X.env) fp) t go)
    (hco : ∀ (s : Shared) (H : Hp) (C : Addr) (cl : List (Str × Addr)) (fp : List Addr), PTs (X.blk s H sc (compEnvC sc cl C X.env) fp) cs co)
    (hwi : ∀ (s : Shared) (H : Hp) (C : Addr) (cl : List (Str × Addr)) (fp : List Addr), PI (X.blk s H sc (compEnvC sc cl C X.env) fp) t' i' wi)
    (hgi : ∀ (s : Shared) (H : Hp) (C : Addr) (cl : List (Str × Addr)) (fp : List Addr), PG (X.blk s H sc (compEnvC sc cl C X.env) fp) t' gi)
    (hci : ∀ (s : Shared) (H : Hp) (C : Addr) (cl : List (Str × Addr)) (fp : List Addr), PTs (X.blk s H sc (compEnvC sc cl C X.env) fp) cs' ci)
    (hte : ∀ (s : Shared) (H : Hp) (C : Addr) (cl : List (Str × Addr)) (fp : List Addr), PE (X.blk s H sc (compEnvC sc cl C X.env) fp) e te)
    (f1 : ∀ x, foldedSetIterable i X.env x = pure x := by intro _; rfl) (f2 : ∀ env x, foldedSetIterable i' env x = pure x := by intro _ _; rfl) :
    PE X (sc2 e t i t' i' cs cs' sc p) (tSc2 X.prog X.w wo go co wi gi ci te (own.map (·.2)) us) := by
  refine ⟨fun pins s σ H Q I h => ?_⟩
  rw [PpSet.eval_SetComp]
  have free : ∀ y ∈ sc.names, y.2 = .free → ∃ c, X.env.cells.lookup y.1 = some c := fun y hy q => (ok.free y hy q).elim (fun k => I.ok.has _ (.inl k)) fun k => I.ok.has _ (.inr k)
  refine wpAny_comprehension_free (use := none) rfl f1 (closure_ok free) ok.kind (fun y hy q => by rw [ok.uniq y hy, q]) ?_
  refine thn (ho.run pins s σ H _ I h) fun _ s1 q1 => thn q1 fun _ s2 q2 => ?_
  obtain ⟨it, fp, tn, J, H2, rfl, I2, T, st2, fp2, q⟩ := q2
  refine PpSet.newSet_ok (newEnv_comp ?_)
  generalize hD : s2.heap.objs.size = D
  have D0 : H2 D = none := I2.hok.fresh (Nat.le_of_eq hD)
  obtain ⟨U, ⟨m0, u0⟩, turn⟩ := q D D0
  generalize hs3 : ({ s2 with heap := s2.heap.push { cls := .type "set", dict := none, data := .set #[] 0 (.fresh 0 0 (!X.w.params.followText "set-order")) } } : Shared) = s3
  have hp3 : s3.heap = s2.heap.push { cls := .type "set", dict := none, data := .set #[] 0 (.fresh 0 0 (!X.w.params.followText "set-order")) } := by rw [← hs3]
  have I3 : Inv X pins σ (upd H2 D (SetSO X.prog X.w D [])) s3 := by
    rw [← hs3]
    refine I2.laid (t' := s2.toks) (fun _ _ z => Heap.get?_push_of_some _ z) (Nat.le_of_eq hD) ?_
    rw [← hD]
    exact setSO_ok setS_new
  have lo : ∀ b ∈ fp, b < s2.heap.objs.size := fun b hb => (T.obj _ _ st2 b hb).elim fun o z => Heap.lt_size z.1
  have fp3 : ∀ b ∈ fp, FpOk X pins (upd H2 D (SetSO X.prog X.w D [])) b ∧ b < s3.heap.objs.size := fun b hb => by
    have l0 := lo b hb
    have ne : b ≠ D := by rw [← hD]; exact Nat.ne_of_lt l0
    exact ⟨⟨by rw [upd_ne ne]; exact (fp2 b hb).1, (fp2 b hb).2⟩, by rw [hp3, Heap.size_push]; exact Nat.lt_succ_of_lt l0⟩
  have st3 : tn 0 s3.heap := T.keep _ _ _ st2 fun b _ o z => by rw [hp3]; exact Heap.get?_push_of_some _ z
  have I4 := block_start I3 ok hN fp3
  have no3 : ∀ b ∈ fp, (upd H2 D (SetSO X.prog X.w D [])) b = none := fun b hb => (fp3 b hb).1.1
  show codeAny _ _ (.compStart (sc2 e t i t' i' cs cs' sc p) 0 (.ref it) (.ref D) (compEnvC sc (cellsFrom (s3.heap.objs.size + 1) sc.names (cloFrom X.env.cells sc.names [])) s3.heap.objs.size X.env)) (compPost (model X.prog X.w) X.A X.xe none (EP X pins σ Q) (.ref D) s3.heap.objs.size) { s3 with heap := pushCells (s3.heap.push { cls := .type "dict", data := .dict #[] }) sc.names }
  generalize hcl : cellsFrom (s3.heap.objs.size + 1) sc.names (cloFrom X.env.cells sc.names []) = cl at I4 ⊢
  have a1 := hgo s3 (upd H2 D (SetSO X.prog X.w D [])) s3.heap.objs.size cl fp
  have a2 := hco s3 (upd H2 D (SetSO X.prog X.w D [])) s3.heap.objs.size cl fp
  have a3 := hwi s3 (upd H2 D (SetSO X.prog X.w D [])) s3.heap.objs.size cl fp
  have a4 := hgi s3 (upd H2 D (SetSO X.prog X.w D [])) s3.heap.objs.size cl fp
  have a5 := hci s3 (upd H2 D (SetSO X.prog X.w D [])) s3.heap.objs.size cl fp
  have a6 := hte s3 (upd H2 D (SetSO X.prog X.w D [])) s3.heap.objs.size cl fp
  generalize hce : compEnvC sc cl s3.heap.objs.size X.env = ce at I4 a1 a2 a3 a4 a5 a6 ⊢
  have cL : ce.locals = s3.heap.objs.size := by subst hce; rfl
  generalize hH3 : upd H2 D (SetSO X.prog X.w D []) = H3 at I3 I4 a1 a2 a3 a4 a5 a6 u0 no3 fp3
  generalize hs4 : ({ s3 with heap := pushCells (s3.heap.push { cls := .type "dict", data := .dict #[] }) sc.names } : Shared) = s4 at I4 ⊢
  have st4 : tn 0 s4.heap := T.keep _ _ _ st3 fun b _ o z => by rw [← hs4]; exact pushCells_keeps _ _ _ _ (Heap.get?_push_of_some _ z)
  let X' : Cx := X.blk s3 H3 sc ce fp
  have fpo : ∀ {σ' : L2.St} {H' : Hp} {z : Shared}, Inv X' [] σ' H' z → (∀ b ∈ fp, H' b = none) → ∀ b ∈ fp, FpOk X' [] H' b := fun {_ _ _} I' hn b hb =>
    ⟨hn b hb, (I'.ok.exf b hb).1, I'.ok.exfs b hb, .inl hb, fun x c q => (I'.ok.exf b hb).2 x c q, fun r hr => absurd (show r ∈ ([] : List (Addr × Obj)) ++ [] from hr) (by simp)⟩
  let Z : Nat → Shared → Prop := fun n z => ∃ j H', Inv X' [] (wipe σ (own.map (·.2))) H' z ∧ tn j z.heap ∧ (∀ b ∈ fp, H' b = none) ∧ U j n H'
  have loop : codeAny (model X.prog X.w) X.A (.compLoop (sc2 e t i t' i' cs cs' sc p) 0 (.ref it) (.ref D) ce) (compPost (model X.prog X.w) X.A X.xe none (EP X pins σ Q) (.ref D) s3.heap.objs.size) s4 := by
    refine loopOut (f2 ce) Z ?_ m0 ⟨0, H3, I4, st4, no3, u0⟩
    rintro n s5 ⟨j, H5, I5, st5, n5, u5⟩
    rcases turn j n H5 u5 with ⟨stop, qq⟩ | ⟨goes, Nx, hNx, step⟩
    · refine thnF (T.done X' rfl rfl rfl hc j [] s5 _ H5 (fun _ _ => False) I5 (fpo I5 n5) st5 stop) fun r s6 ⟨hr, I6⟩ => ?_
      subst hr
      have I7 : Inv X pins σ H5 s6 := I3.call' (ch := fp) I6.os I6.base I6.hok I6.bare fun b hb => ⟨(fp3 b hb).1.2.2.2.1, (fp3 b hb).1.2.1, (fp3 b hb).1.2.2.2.2.1, (fp3 b hb).1.2.2.2.2.2⟩
      have nC : H5 s3.heap.objs.size = none := by
        have z : H5 ce.locals = none := I6.free
        rwa [cL] at z
      obtain ⟨m, hm, _⟩ := I6.loc
      have hm : s6.heap.Ns ce.locals m := hm
      rw [cL] at hm
      refine ⟨m, hm, fun h'' sb => ?_⟩
      obtain ⟨g0, g1, g2, g3, g4, g5⟩ := I3.fpOk (Nat.le_refl _) nC
      exact ⟨.ref D, H5, I7.turned (t' := s6.toks) (fun b o hb z => (sb.2 b hb).trans z) nC g1 g3 g4 g5, rfl, qq⟩
    · refine thnF (T.item X' rfl rfl rfl hc j [] s5 _ H5 (fun _ _ => False) I5 (fpo I5 n5) st5 goes) fun r s6 ⟨u, hr, h6⟩ => ?_
      subst hr
      refine thnF h6 fun _ s7 ⟨x, H7, I7, r7, y7, st7, n7⟩ => ?_
      refine thnF (a1.run _ s7 _ H7 x u _ (I7.pinned (fpo I7 n7) (T.obj _ _ st7)) r7 (step x H7 y7)) fun _ s8 ⟨σ8, H8, I8, w8, q8⟩ => ?_
      refine thnF (a2.run _ s8 σ8 H8 _ I8 q8) fun b s9 ⟨H9, I9, q9⟩ => ?_
      have fin : ∀ {σ9 : L2.St} {z : Shared} {H' : Hp}, Inv X' ([] ++ pinsAt fp s7.heap) σ9 H' z → (wipe σ (own.map (·.2))).length = σ9.length → (∀ (k : Nat) v, (wipe σ (own.map (·.2)))[k]? = some (some v) → σ9[k]? = some (some v)) → Nx H' → ∃ m, m < n ∧ Z m z := fun {_ z H'} I' hl hk nx => by
        obtain ⟨m', lt, u'⟩ := hNx H' nx
        have pin' : ∀ b ∈ fp, ∀ o, s7.heap.get? b = some o → z.heap.get? b = some o ∧ H' b = none := fun b hb o q =>
          let y := I'.pin (b, o) (List.mem_append_right _ (List.mem_append_right _ (mem_pinsAt hb q)))
          ⟨y.1, y.2.1⟩
        refine ⟨m', lt, j + 1, H', (I'.unpinned (pins := [])).weak hl hk, T.keep _ _ _ st7 fun b hb o q => (pin' b hb o q).1, fun b hb => ?_, u'⟩
        obtain ⟨o, q, _⟩ := T.obj _ _ st7 b hb
        exact (pin' b hb o q).2
      have l8 : (wipe σ (own.map (·.2))).length = σ8.length := by rw [← w8, wipe_length]
      have k8 : ∀ (k : Nat) v, (wipe σ (own.map (·.2)))[k]? = some (some v) → σ8[k]? = some (some v) := fun k v q => by
        rw [← w8] at q
        exact (wipe_some q).1
      have k9 : ∀ (k : Nat) v, (wipe σ (own.map (·.2)))[k]? = some (some v) → (wipe σ8 us)[k]? = some (some v) := fun k v q => by
        rw [← w8] at q
        obtain ⟨q1, q2⟩ := wipe_some q
        rw [wipe_out fun z => q2 (hu k z)]
        exact q1
      cases b with
      | false =>
        simp only [Bool.false_eq_true, if_false] at q9 ⊢
        exact fin I9 l8 k8 q9
      | true =>
        simp only [if_true] at q9 ⊢
        refine thnF (a3.run _ s9 σ8 H9 _ I9 q9) fun _ s10 q10 => thnF q10 fun _ s11 q11 => ?_
        obtain ⟨it1, fq, tm, J1, H11, rfl, I11, T1, st11, fp11, U1, ⟨m1, u1⟩, turn1⟩ := q11
        have fpo1 : ∀ {H' : Hp}, (∀ b ∈ fq, H' b = none) → ∀ b ∈ fq, FpOk X' ([] ++ pinsAt fp s7.heap) H' b := fun hn b hb => ⟨hn b hb, (fp11 b hb).2⟩
        let Z1 : Nat → Shared → Prop := fun k z => ∃ j H', Inv X' ([] ++ pinsAt fp s7.heap) (wipe σ8 us) H' z ∧ tm j z.heap ∧ (∀ b ∈ fq, H' b = none) ∧ U1 j k H'
        have inner : codeAny (model X.prog X.w) X.A (.compLoop (sc2 e t i t' i' cs cs' sc p) 1 (.ref it1) (.ref D) ce) (fun r z => match r with
              | .ok _ => ∃ m, m < n ∧ Z m z
              | .error _ => False) s11 := by
          refine loopInn Z1 ?_ m1 ⟨0, H11, I11.weak (wipe_length _ _) (fun k v q => (wipe_some q).1), st11, fun b hb => (fp11 b hb).1, u1⟩
          rintro k s12 ⟨j1, H12, I12, st12, n12, u12⟩
          rcases turn1 j1 k H12 u12 with ⟨stop1, nx1⟩ | ⟨go1, Ny, hNy, step1⟩
          · refine thnF (T1.done X' rfl rfl rfl hc j1 _ s12 (wipe σ8 us) H12 (fun _ _ => False) I12 (fpo1 n12) st12 stop1) fun r s13 ⟨hr, I13⟩ => ?_
            subst hr
            exact fin I13 (l8.trans (wipe_length σ8 us).symm) k9 nx1
          · refine thnF (T1.item X' rfl rfl rfl hc j1 _ s12 (wipe σ8 us) H12 (fun _ _ => False) I12 (fpo1 n12) st12 go1) fun r s13 ⟨v1, hr, h13⟩ => ?_
            subst hr
            refine thnF h13 fun _ s14 ⟨x1, H14, I14, r14, y14, st14, n14⟩ => ?_
            refine thnF (a4.run _ s14 (wipe σ8 us) H14 x1 v1 _ (I14.pinned (fpo1 n14) (T1.obj _ _ st14)) r14 (step1 x1 H14 y14)) fun _ s15 ⟨σ15, H15, I15, w15, q15⟩ => ?_
            refine thnF (a5.run _ s15 σ15 H15 _ I15 q15) fun b1 s16 ⟨H16, I16, q16⟩ => ?_
            have fin1 : ∀ {z : Shared} {H' : Hp}, Inv X' (([] ++ pinsAt fp s7.heap) ++ pinsAt fq s14.heap) σ15 H' z → Ny H' → ∃ m, m < k ∧ Z1 m z := fun {z H'} I' nx => by
              obtain ⟨m', lt, u'⟩ := hNy H' nx
              have pin' : ∀ b ∈ fq, ∀ o, s14.heap.get? b = some o → z.heap.get? b = some o ∧ H' b = none := fun b hb o q =>
                let y := I'.pin (b, o) (List.mem_append_right _ (List.mem_append_right _ (mem_pinsAt hb q)))
                ⟨y.1, y.2.1⟩
              refine ⟨m', lt, j1 + 1, H', I'.unpinned.weak (by rw [← w15, wipe_length]) (fun k v q => by rw [← w15] at q; exact (wipe_some q).1), T1.keep _ _ _ st14 fun b hb o q => (pin' b hb o q).1, fun b hb => ?_, u'⟩
              obtain ⟨o, q, _⟩ := T1.obj _ _ st14 b hb
              exact (pin' b hb o q).2
            cases b1 with
            | false =>
              simp only [Bool.false_eq_true, if_false] at q16 ⊢
              exact fin1 I16 q16
            | true =>
              simp only [if_true] at q16 ⊢
              refine thnF (a6.run _ s16 σ15 H16 _ I16 q16) fun z s17 ⟨yv, H17, I17, r17, ys, l, ey, hD17, hz17, nx⟩ => ?_
              subst ey
              obtain ⟨tk, rfl⟩ := r17
              exact addS_ok (X := X') I17 hD17 hz17 fun s18 I18 => fin1 I18 nx
        exact startInn inner (T1.self X.A 0 _ _ _ st11 inner)
  exact PpSet.codeAny_compStart_set loop (T.self X.A 0 _ _ _ st4 loop)
end
end G9

/-! M11: comprehensions as values, methods, calls of defs. -/
namespace G9
open PySem PySem.Spec L2 PyProof.Rows
theorem _root_.L2.PE.weakI {X : Cx} {e : Expr} {t t' : TE} (h : PE X e t) (w : ∀ pins s σ H Q, Inv X pins σ H s → t' σ H Q → t σ H Q) : PE X e t' := ⟨fun pins s σ H Q I q => h.run pins s σ H Q I (w pins s σ H Q I q)⟩
theorem _root_.L2.PS.weakI {X : Cx} {e : Stmt} {t t' : TS} (h : PS X e t) (w : ∀ pins s σ H D, Inv X pins σ H s → t' D σ H → t D σ H) : PS X e t' := ⟨fun pins s σ H D I q => h.run pins s σ H D I (w pins s σ H D I q)⟩
/-- what every rule asks of the context -/
structure Gx (X : Cx) : Prop where
  calm : X.calm = true
  gd : X.A.guards = some []
  un : X.A.units + 65 < cLine
  nd : X.N.Nodup
theorem Gx.blk {X : Cx} (g : Gx X) (s : Shared) (H : Hp) (sc : Scope) (env : Env) (fp : List Addr) : Gx (X.blk s H sc env fp) := ⟨g.calm, g.gd, g.un, g.nd⟩
section
variable {Wp : Wk → Prop} {E : XK} {X : Cx} {elt tgx iter : Expr} {ifs : List Expr} {scope : Scope} {own : List (Str × Nat)} {pos : Pos} {tg : List Nat} {tp : Bool} {di : DI} {dc : DT} {de : DE}
theorem own_lt {N : List Str} {sc scope : Scope} {own : List (Str × Nat)} (ok : BlkOk N sc scope own) {i : Nat} (h : i ∈ own.map (·.2)) : i < N.length := by
  obtain ⟨p, hp, rfl⟩ := List.mem_map.mp h
  exact (List.getElem?_eq_some_iff.mp (ok.ix p hp)).1
theorem jLc (g : Gx X) (hi : JI Wp E X tgx iter di) (ok : BlkOk X.N X.env.scope scope own) (sub : ∀ i ∈ tg, i ∈ own.map (·.2))
    (hg : ∀ (s : Shared) (H : Hp) (C : Addr) (cl : List (Str × Addr)) (fp : List Addr), PG (X.blk s H scope (compEnvC scope cl C X.env) fp) tgx (gB X.K tg tp))
    (ht : ∀ (s : Shared) (H : Hp) (C : Addr) (cl : List (Str × Addr)) (fp : List Addr), PTs (X.blk s H scope (compEnvC scope cl C X.env) fp) ifs (lT Wp X.K X.mg E dc))
    (he : ∀ (s : Shared) (H : Hp) (C : Addr) (cl : List (Str × Addr)) (fp : List Addr), JE Wp E (X.blk s H scope (compEnvC scope cl C X.env) fp) elt de)
    (hs : ∀ x, foldedSetIterable iter X.env x = pure x) : JE Wp E X (.ListComp elt [⟨tgx, iter, ifs, 0⟩] scope pos) (dLc (own.map (·.2)) tg tp di dc de) :=
  (pe_lc g.calm g.nd hi ok hg ht he hs).weakI fun pins s σ H Q I ⟨W, B, M0, ρ, M, P, R, w, G, d, x, h⟩ => lc_go w G d x sub (fun i hi => by rw [I.len]; exact own_lt ok (sub i hi)) h
end
/-! ### stores of one name -/
section
variable {Wp : Wk → Prop} {E : XK} {X : Cx} {W : Wk} {B : List Bs} {M0 : List Addr} {ρ : En} {σ : L2.St} {H : Hp} {M : List Addr} {DD : DK} {D : Ends} {H0 : Hp}
theorem lS_go {Wp : Wk → Prop} {K : PySem.W.Frag} {mg : Str → Option Value} {m : DS} (w : WP Wp W t) (G : Gd W K (⟨H0, W.ad, M0⟩ :: B) M0 ρ σ H M) (d : m ρ DD) (x : XOk W K mg E M0 (⟨H0, W.ad, M0⟩ :: B) DD.ex)
    (h1 : ∀ σ' ρ' H' M', σ'.length = σ.length → DD.nx ρ' → Gd (W.up m.m) K (⟨H0, W.ad, M0⟩ :: B) M0 ρ' σ' H' M' → D.nx σ' H') (h2 : ∀ u fr v H', DD.rt u fr → RetOk (W.up m.m) K H0 M0 H' v u fr → D.rt v H')
    (h3 : ∀ σ' ρ' H' M', σ'.length = σ.length → DD.bk ρ' → Gd (W.up m.m) K (⟨H0, W.ad, M0⟩ :: B) M0 ρ' σ' H' M' → D.bk σ' H') (h4 : ∀ σ' ρ' H' M', σ'.length = σ.length → DD.ct ρ' → Gd (W.up m.m) K (⟨H0, W.ad, M0⟩ :: B) M0 ρ' σ' H' M' → D.ct σ' H') (hle : m.m ≤ t := by first | exact Nat.le_refl _ | exact Nat.le_add_right _ _ | exact Nat.le_add_left _ _ | exact Nat.le_trans (Nat.le_add_right _ _) (Nat.le_add_right _ _) | exact Nat.add_le_add_left (Nat.le_add_right _ _) _ | exact Nat.add_le_add_left (Nat.le_add_left _ _) _) : lS Wp K mg E m D σ H :=
  ⟨W, H0, B, M0, ρ, M, DD, w.le hle, G, d, x, h1, h2, h3, h4⟩
theorem RetOk.cast {W : Wk} {K : PySem.W.Frag} {H0 : Hp} {M0 : List Addr} {H' : Hp} {v : V} {u : U} {fr : Bool} {a b : Nat} (r : RetOk ((W.up a).up b) K H0 M0 H' v u fr) : RetOk (W.up (a + b)) K H0 M0 H' v u fr := by
  rw [Wk.up_up] at r
  exact r
theorem lS_go' {Wp : Wk → Prop} {K : PySem.W.Frag} {mg : Str → Option Value} {m : DS} {j : Nat} (w : WP Wp W t) (G : Gd (W.up j) K (⟨H0, W.ad, M0⟩ :: B) M0 ρ σ H M) (d : m ρ DD) (x : XOk W K mg E M0 (⟨H0, W.ad, M0⟩ :: B) DD.ex)
    (h1 : ∀ σ' ρ' H' M', σ'.length = σ.length → DD.nx ρ' → Gd (W.up (j + m.m)) K (⟨H0, W.ad, M0⟩ :: B) M0 ρ' σ' H' M' → D.nx σ' H') (h2 : ∀ u fr v H', DD.rt u fr → RetOk (W.up (j + m.m)) K H0 M0 H' v u fr → D.rt v H')
    (h3 : ∀ σ' ρ' H' M', σ'.length = σ.length → DD.bk ρ' → Gd (W.up (j + m.m)) K (⟨H0, W.ad, M0⟩ :: B) M0 ρ' σ' H' M' → D.bk σ' H') (h4 : ∀ σ' ρ' H' M', σ'.length = σ.length → DD.ct ρ' → Gd (W.up (j + m.m)) K (⟨H0, W.ad, M0⟩ :: B) M0 ρ' σ' H' M' → D.ct σ' H') (hle : j + m.m ≤ t := by first | exact Nat.le_refl _ | exact Nat.le_add_right _ _ | exact Nat.le_add_left _ _ | exact Nat.le_trans (Nat.le_add_right _ _) (Nat.le_add_right _ _) | exact Nat.add_le_add_left (Nat.le_add_right _ _) _ | exact Nat.add_le_add_left (Nat.le_add_left _ _) _) : lS Wp K mg E m D σ H :=
  ⟨W.up j, H0, B, M0, ρ, M, DD, w.up hle, G, d, x.up, fun σ' ρ' H' M' e c G' => h1 _ _ _ _ e c G'.cast, fun u fr v H' c r => h2 _ _ _ _ c r.cast, fun σ' ρ' H' M' e c G' => h3 _ _ _ _ e c G'.cast, fun σ' ρ' H' M' e c G' => h4 _ _ _ _ e c G'.cast⟩
end
section
variable {Wp : Wk → Prop} {E : XK} {X : Cx} {e ea eb ec : Expr} {pos p1 p2 p3 : Pos} {i j : Nat} {x y : Str} {de da db : DE} {st : Stmt} {rest sa sb : List Stmt} {ds dt d1 d2 : DS}
theorem sNil : JB Wp E X [] sSkip := pss_nil.weak fun D σ H ⟨W, H0, B, M0, ρ, M, DD, w, G, d, x, h1, h2, h3, h4⟩ => h1 _ _ _ _ rfl d G
theorem sOne (h : JS Wp E X st ds) : JB Wp E X [st] ds := pss_one h
theorem sCons (h : JS Wp E X st ds) (hr : JB Wp E X rest dt) : JB Wp E X (st :: rest) (sSeq ds dt) :=
  (pss_cons h hr).weak fun D σ H ⟨W, H0, B, M0, ρ, M, DD, w, G, d, x, h1, h2, h3, h4⟩ => lS_go w G d x (fun σ' ρ' H' M' e1 c G' => lS_go' w G' c x (fun σ'' _ _ _ e2 => h1 _ _ _ _ (e2.trans e1)) h2 (fun σ'' _ _ _ e2 => h3 _ _ _ _ (e2.trans e1)) (fun σ'' _ _ _ e2 => h4 _ _ _ _ (e2.trans e1)))
    (fun u fr v H' c r => h2 _ _ _ _ c (r.mono (Nat.le_add_right _ _))) (fun σ' ρ' H' M' e c G' => h3 _ _ _ _ e c (G'.mono (Nat.le_add_right _ _))) (fun σ' ρ' H' M' e c G' => h4 _ _ _ _ e c (G'.mono (Nat.le_add_right _ _)))
theorem sPass : JS Wp E X (.Pass pos) sSkip := ps_pass.weak fun D σ H ⟨W, H0, B, M0, ρ, M, DD, w, G, d, x, h1, h2, h3, h4⟩ => h1 _ _ _ _ rfl d G
theorem sDoc {z : Str} {n : Nat} : JS Wp E X (.Expr (.Constant (.str z) n p1) pos) sSkip := ps_doc.weak fun D σ H ⟨W, H0, B, M0, ρ, M, DD, w, G, d, x, h1, h2, h3, h4⟩ => h1 _ _ _ _ rfl d G
theorem sBrk0 : JS Wp E X (.Break pos) sBrk := ps_break.weak fun D σ H ⟨W, H0, B, M0, ρ, M, DD, w, G, d, x, h1, h2, h3, h4⟩ => h3 _ _ _ _ rfl d G
theorem sCnt0 : JS Wp E X (.Continue pos) sCnt := ps_continue.weak fun D σ H ⟨W, H0, B, M0, ρ, M, DD, w, G, d, x, h1, h2, h3, h4⟩ => h4 _ _ _ _ rfl d G
theorem sSet0 (g : Gx X) (hi : X.N[i]? = some x) (hx : Loc X.env.scope x) (he : JE Wp E X e de) (hs : swapsWith e (some (.Name x p1)) pos.line X.env = pure false) (hf : X.fn x = true ∨ X.env.scope.names.lookup x = some .local) :
    JS Wp E X (.Assign [.Name x p1] e pos) (sSet i de) :=
  (ps_set g.nd hi hx he hs hf).weakI fun pins s σ H D I ⟨W, H0, B, M0, ρ, M, DD, w, G, d, x, h1, h2, h3, h4⟩ => lE_go w G d x fun u fr ρ' v H' M' c r => by
    have hl : i < σ.length := by rw [I.len]; exact (List.getElem?_eq_some_iff.mp hi).1
    obtain ⟨M2, G2⟩ := r.put hl
    exact h1 _ _ _ _ (by rw [List.length_set]) c G2
/-- name = [..], the comprehension on the name's line -/
theorem sSetLc {elt tgx iter : Expr} {ifs : List Expr} {scope : Scope} {own : List (Str × Nat)} {tg : List Nat} {tp : Bool} {di : DI} {dc : DT} {de : DE} (g : Gx X) (hy : X.N[i]? = some y) (hyl : X.env.scope.names.lookup y = some .local)
    (hsw : swapsWith (.ListComp elt [⟨tgx, iter, ifs, 0⟩] scope p2) (some (.Name y p1)) pos.line X.env = pure true) (hi : JI Wp E X tgx iter di) (ok : BlkOk X.N X.env.scope scope own) (sub : ∀ i ∈ tg, i ∈ own.map (·.2))
    (hg : ∀ (s : Shared) (H : Hp) (C : Addr) (cl : List (Str × Addr)) (fp : List Addr), PG (X.blk s H scope (compEnvC scope cl C X.env) fp) tgx (gB X.K tg tp))
    (ht : ∀ (s : Shared) (H : Hp) (C : Addr) (cl : List (Str × Addr)) (fp : List Addr), PTs (X.blk s H scope (compEnvC scope cl C X.env) fp) ifs (lT Wp X.K X.mg E dc))
    (he : ∀ (s : Shared) (H : Hp) (C : Addr) (cl : List (Str × Addr)) (fp : List Addr), JE Wp E (X.blk s H scope (compEnvC scope cl C X.env) fp) elt de)
    (hs : ∀ x, foldedSetIterable iter X.env x = pure x) : JS Wp E X (.Assign [.Name y p1] (.ListComp elt [⟨tgx, iter, ifs, 0⟩] scope p2) pos) (sSet i (dLc (own.map (·.2)) tg tp di dc de)) :=
  (ps_setLc g.calm g.nd hy hyl hsw hi ok hg ht he hs).weakI fun pins s σ H D I ⟨W, H0, B, M0, ρ, M, DD, w, G, d, x, h1, h2, h3, h4⟩ =>
    lc_go w G (show (dLc (own.map (·.2)) tg tp di dc de).f ρ (fun u fr ρ' => DD.nx (En.put ρ' i fr u)) DD.ex from d) x sub (fun i hi => by rw [I.len]; exact own_lt ok (sub i hi)) fun u fr ρ' v H' M' c r => by
      have hl : i < σ.length := by rw [I.len]; exact (List.getElem?_eq_some_iff.mp hy).1
      obtain ⟨M2, G2⟩ := r.put hl
      exact h1 _ _ _ _ (by rw [List.length_set]) c G2
theorem sDrop0 (he : JE Wp E X e de) (hs : swapsWith e none pos.line X.env = pure false) : JS Wp E X (.Expr e pos) (sDrop de) :=
  (ps_expr he hs).weak fun D σ H ⟨W, H0, B, M0, ρ, M, DD, w, G, d, x, h1, h2, h3, h4⟩ => lE_go w G d x fun u fr ρ' v H' M' c r => h1 _ _ _ _ rfl c r.gd
theorem Res.ret {K : PySem.W.Frag} {W : Wk} {B : List Bs} {M0 : List Addr} {ρ : En} {σ : L2.St} {H0 H : Hp} {M : List Addr} {v : V} {u : U} {fr : Bool} (r : Res W K (⟨H0, W.ad, M0⟩ :: B) M0 ρ σ H M v u fr) : RetOk W K H0 M0 H v u fr := by
  have rr := r.rep
  obtain ⟨G, r⟩ := r
  refine ⟨G.wok, G.kp, ?_⟩
  cases fr with
  | false => rw [if_neg (by simp)]; exact rr.move (Kp.refl _ _) fun a z => .inl (G.sub a z)
  | true =>
    rw [if_pos rfl] at r ⊢
    obtain ⟨a, vs, ds, q1, q2, q3, q4, q5, q6, q7⟩ := r
    exact ⟨a, vs, ds, q1, q2, q3, q4.less fun b z => (List.mem_cons.mp z).elim (fun e => by rw [e]; exact List.mem_cons_self) fun e => List.mem_cons_of_mem _ (G.sub b e), q7 _ List.mem_cons_self⟩
theorem sRet0 (he : JE Wp E X e de) : JS Wp E X (.Return (some e) pos) (sRet de) :=
  (ps_ret he).weak fun D σ H ⟨W, H0, B, M0, ρ, M, DD, w, G, d, x, h1, h2, h3, h4⟩ => lE_go w G d x fun u fr ρ' v H' M' c r => h2 _ _ _ _ c r.ret
theorem sRetV0 (he : JO Wp E X e (oSlot i)) : JS Wp E X (.Return (some e) pos) (sRetV i) :=
  (ps_ret he).weak fun D σ H ⟨W, H0, B, M0, ρ, M, DD, w, G, d, x, h1, h2, h3, h4⟩ => by
    obtain ⟨en, q, c⟩ := d
    refine lO_go (P := fun o ρ1 => o = .slot i ∧ ρ1 = ρ) (R := DD.ex) w G ⟨en, q, rfl, rfl⟩ x fun oa ρ1 v H1 M1 c1 G1 k1 => ?_
    obtain ⟨rfl, rfl⟩ := c1
    refine h2 _ _ _ _ c ?_
    obtain ⟨v', z1, z2⟩ := G1.ent i en (En.at_get q)
    have k1 : σ[i]? = some (some v) := k1
    rw [k1] at z1; cases z1
    refine ⟨G1.wok, G1.kp, ?_⟩
    unfold EntOk at z2
    split
    · rename_i ho
      rw [if_pos ho] at z2
      obtain ⟨a, vs, ds, e1, e2, q1, q2, q3, q4⟩ := z2
      have own : Owns ρ1 σ a := ⟨i, en, En.at_get q, ho, by rw [← e1]; exact k1⟩
      refine ⟨a, vs, ds, e1, e2, q3, q4.less fun b z => (List.mem_cons.mp z).elim (fun e => by rw [e]; exact q1) (G1.sub b), ?_⟩
      rcases (G1.bs _ List.mem_cons_self).2.2.2 a own with z | z
      · exact absurd (G1.wad a z) q2
      · exact z
    · rename_i ho
      rw [if_neg ho] at z2
      exact z2.move (Kp.refl _ _) fun a z => .inl (G1.sub a z)
theorem sRetN0 : JS Wp E X (.Return none pos) sRetN :=
  ps_retN.weak fun D σ H ⟨W, H0, B, M0, ρ, M, DD, w, G, d, x, h1, h2, h3, h4⟩ => h2 _ _ _ _ d (Res.ret (ρ := ρ) (.of G Rep.non))
theorem sIf0 {c : Expr} {dc : DT} (hc : JT Wp E X c dc) (ha : JB Wp E X sa d1) (hb : JB Wp E X sb d2) : JS Wp E X (.If c sa sb pos) (sIf dc d1 d2) :=
  (ps_if hc ha hb).weak fun D σ H ⟨W, H0, B, M0, ρ, M, DD, w, G, d, x, h1, h2, h3, h4⟩ => lT_go w G d x fun k ρ' H' M' c G' => by
    cases k with
    | true =>
      have le : dc.m + d1.m ≤ dc.m + (d1.m + d2.m) := Nat.add_le_add_left (Nat.le_add_right _ _) _
      exact lS_go' w G' c x (fun σ' ρ' H' M' e c G' => h1 _ _ _ _ e c (G'.mono le)) (fun u fr v H' c r => h2 _ _ _ _ c (r.mono le)) (fun σ' ρ' H' M' e c G' => h3 _ _ _ _ e c (G'.mono le)) (fun σ' ρ' H' M' e c G' => h4 _ _ _ _ e c (G'.mono le))
    | false =>
      have le : dc.m + d2.m ≤ dc.m + (d1.m + d2.m) := Nat.add_le_add_left (Nat.le_add_left _ _) _
      exact lS_go' w G' c x (fun σ' ρ' H' M' e c G' => h1 _ _ _ _ e c (G'.mono le)) (fun u fr v H' c r => h2 _ _ _ _ c (r.mono le)) (fun σ' ρ' H' M' e c G' => h3 _ _ _ _ e c (G'.mono le)) (fun σ' ρ' H' M' e c G' => h4 _ _ _ _ e c (G'.mono le))
/-- targets that take a tuple apart -/
theorem sSetT0 {tgx : Expr} {tg : List Nat} (g : Gx X) (he : JE Wp E X e de) (hg : PG X tgx (gB X.K tg true)) (ht : ∀ i ∈ tg, i < X.N.length) (hs : swapsWithSole [tgx] e pos.line X.env = pure false) (hw : swappedStores [tgx] e X.env = pure none)
    (h1 : (assignEach [tgx] X.env).map (·.2) = [assign tgx X.env]) : JS Wp E X (.Assign [tgx] e pos) (sSetT tg de) :=
  (ps_asg he hg hs hw h1).weakI fun pins s σ H D I ⟨W, H0, B, M0, ρ, M, DD, w, G, d, x, h1, h2, h3, h4⟩ => lE_go w G d x fun u fr ρ' v H' M' c r => by
    obtain ⟨y, e, c⟩ := c
    exact bind_go r.gd (r.val e) c (fun i hi => by rw [I.len]; exact ht i hi) fun ρ2 σ2 e1 _ c G2 => h1 _ _ _ _ e1 c G2
theorem sFor0 {tgx iter : Expr} {tg : List Nat} {tp : Bool} {di : DI} {body : List Stmt} {db : DS} (g : Gx X) (hp : PassesOwn (model X.prog X.w) X.A X.env X.xe) (hi : JI Wp E X tgx iter di) (hg : PG X tgx (gB X.K tg tp)) (ht : ∀ i ∈ tg, i < X.N.length) (hb : JB Wp E X body db)
    (hs : ∀ x, foldedSetIterable iter X.env x = pure x) : JS Wp E X (.For tgx iter body [] pos) (sFor tg tp di db) := by
  refine (ps_for hp g.calm hi hg hb hs).weakI fun pins s σ H D I ⟨W, H0, B, M0, ρ, M, DD, w, G, d, x, h1, h2, h3, h4⟩ => ?_
  refine ⟨W, _, M0, ρ, M, _, _, w.le (Nat.le_add_right _ _), G, d, x, fun xs ρ1 J H1 M1 c hxs G1 wk => ?_⟩
  generalize hf : (fun (x : PyData) (ρ' : En) (k : En → Prop) => bindT tg tp x ρ' fun ρ2 => db ρ2 { DD with nx := k, ct := k, bk := DD.nx }) = f at c
  have hfx : ∀ (x : PyData) (ρ' : En) (k : En → Prop), f x ρ' k = bindT tg tp x ρ' fun ρ2 => db ρ2 { DD with nx := k, ct := k, bk := DD.nx } := fun x ρ' k => by rw [← hf]
  let Iv : Nat → L2.St → Hp → Prop := fun i σ H => ∃ ρ' M, Gd (W.up (di.m + i * db.m)) X.K (⟨H1, M1, M1⟩ :: ⟨H0, W.ad, M0⟩ :: B) M0 ρ' σ H M ∧ σ.length = X.N.length ∧ forL f (xs.drop i) ρ' DD.nx
  refine ⟨fun i m σ H => m = xs.length - i ∧ i ≤ xs.length ∧ Iv i σ H, ⟨xs.length, by simp, Nat.zero_le _, ρ1, M1, G1.base.mono (Nat.le_add_right _ _), I.len, c⟩, ?_⟩
  rintro i m σ2 H2 ⟨rfl, hi, ρ2, M2, G2, hlen, c⟩
  obtain ⟨wk1, wk2⟩ := wk M2 H2 G2.kp G2.nw
  by_cases hlt : i < xs.length
  · have hx : xs[i]? = some xs[i] := by simp [hlt]
    rw [List.drop_eq_getElem_cons hlt] at c
    generalize xs[i] = xi at hx c
    obtain ⟨go, yl⟩ := wk1 i xi hx
    refine .inr ⟨go, Iv (i + 1), fun σ' H' p' => ⟨xs.length - (i + 1), by omega, rfl, hlt, p'⟩, fun v H3 y => ?_⟩
    obtain ⟨gr, rv⟩ := yl v H3 y
    have c : f xi ρ2 (fun ρ' => forL f (xs.drop (i + 1)) ρ' DD.nx) := c
    rw [hfx] at c
    refine bind_go (G2.grown gr) (rv M2 fun _ z => z) c (fun j hj => by rw [hlen]; exact ht j hj) fun ρ3 σ3 e1 e2 c G3 => ?_
    have G4 : Gd (W.up (di.m + i * db.m)) X.K (⟨H0, W.ad, M0⟩ :: ⟨H1, M1, M1⟩ :: B) M0 ρ3 σ3 H3 M2 := G3.sub_b fun b hb => by
      rcases List.mem_cons.mp hb with rfl | hb
      · exact List.mem_cons_of_mem _ List.mem_cons_self
      · rcases List.mem_cons.mp hb with rfl | hb
        · exact List.mem_cons_self
        · exact List.mem_cons_of_mem _ (List.mem_cons_of_mem _ hb)
    have back : ∀ {j ρ σ H M}, Gd (W.up j) X.K (⟨H0, W.ad, M0⟩ :: ⟨H1, M1, M1⟩ :: B) M0 ρ σ H M → Gd (W.up j) X.K (⟨H1, M1, M1⟩ :: ⟨H0, W.ad, M0⟩ :: B) M0 ρ σ H M := fun G => G.sub_b fun b hb => by
      rcases List.mem_cons.mp hb with rfl | hb
      · exact List.mem_cons_of_mem _ List.mem_cons_self
      · rcases List.mem_cons.mp hb with rfl | hb
        · exact List.mem_cons_self
        · exact List.mem_cons_of_mem _ (List.mem_cons_of_mem _ hb)
    have x2 : XOk W X.K X.mg E M0 (⟨H0, W.ad, M0⟩ :: ⟨H1, M1, M1⟩ :: B) DD.ex := x.more fun b hb => by
      rcases List.mem_cons.mp hb with rfl | hb
      · exact List.mem_cons_self
      · exact List.mem_cons_of_mem _ (List.mem_cons_of_mem _ hb)
    have out : ∀ {j ρ σ H M}, Gd (W.up j) X.K (⟨H0, W.ad, M0⟩ :: ⟨H1, M1, M1⟩ :: B) M0 ρ σ H M → Gd (W.up j) X.K (⟨H0, W.ad, M0⟩ :: B) M0 ρ σ H M := fun G => (back G).tail
    have e3 : σ3.length = X.N.length := by rw [e1]; exact hlen
    have kk : di.m + i * db.m + db.m = di.m + (i + 1) * db.m := by rw [Nat.succ_mul, Nat.add_assoc]
    have le : di.m + i * db.m + db.m ≤ di.m + sizeLine * db.m := by rw [kk]; exact Nat.add_le_add_left (Nat.mul_le_mul_right _ (by omega)) _
    have nxt : ∀ {ρ σ H M}, Gd (W.up (di.m + i * db.m + db.m)) X.K (⟨H0, W.ad, M0⟩ :: ⟨H1, M1, M1⟩ :: B) M0 ρ σ H M → Gd (W.up (di.m + (i + 1) * db.m)) X.K (⟨H1, M1, M1⟩ :: ⟨H0, W.ad, M0⟩ :: B) M0 ρ σ H M := fun G => by
      rw [← kk]; exact back G
    exact lS_go' (hle := le) w G4 c x2 (fun σ' ρ' H' M' e c G' => ⟨ρ', M', nxt G', e.trans e3, c⟩) (fun u fr v H' c r => h2 _ _ _ _ c (r.mono le)) (fun σ' ρ' H' M' e c G' => h1 _ _ _ _ (by rw [e, e3, I.len]) c ((out G').mono le)) fun σ' ρ' H' M' e c G' => ⟨ρ', M', nxt G', e.trans e3, c⟩
  · have e : i = xs.length := by omega
    subst e
    rw [List.drop_length] at c
    exact .inl ⟨wk2 _ (Nat.le_refl _), h1 _ _ _ _ (by rw [hlen, I.len]) c (G2.tail.mono (Nat.add_le_add_left (Nat.mul_le_mul_right _ hxs) _))⟩
end
end G9

/-! M12: methods, defs' promises and their calls, pairs of stores, while. -/
namespace G9
open PySem PySem.Spec L2 PyProof.Rows
section
variable {K : PySem.W.Frag} {W : Wk} {B : List Bs} {M0 : List Addr} {ρ : En} {σ : L2.St} {H H' : Hp} {M : List Addr}
theorem datas_of : ∀ {us : List U} {xs : List PyData}, datas us = some xs → us = xs.map .d
  | [], _, e => by cases e; rfl
  | .d x :: us, _, e => by
    have e : (datas us).map (x :: ·) = some _ := e
    cases q : datas us with
    | none => rw [q] at e; cases e
    | some ys => rw [q] at e; cases e; rw [datas_of q]; rfl
  | .deck :: us, _, e => by cases e
theorem RepL.dropLast {vs : List V} {ds : List PyData} (r : RepL K H M vs ds) : RepL K H M vs.dropLast ds.dropLast := by
  rw [List.dropLast_eq_take, List.dropLast_eq_take, r.length]
  exact r.take _
/-- an owned list at a slot -/
theorem Gd.at_own (G : Gd W K B M0 ρ σ H M) {i : Nat} {ds : List PyData} {v : V} (h : En.at ρ i = some ⟨true, .d (.list ds)⟩) (hv : σ[i]? = some (some v)) : ∃ a vs, v = .ref a ∧ a ∈ M ∧ H a = some (.lst vs) ∧ RepL K H M vs ds := by
  obtain ⟨v', h1, h2⟩ := G.ent i _ (En.at_get h)
  rw [hv] at h1; cases h1
  unfold EntOk at h2
  rw [if_pos rfl] at h2
  obtain ⟨a, vs, ds', e1, e2, q1, q2, q3, q4⟩ := h2
  cases e2
  exact ⟨a, vs, e1, q1, q3, q4⟩
end
def Mt.id : Mt → String
  | .append => "list.append"
  | .pop => "list.pop"
  | .popAt => "list.pop"
  | .join => "str.join"
  | .extend => "list.extend"
def Mt.ty : Mt → String
  | .join => "str"
  | _ => "list"
def Mt.nm : Mt → Str
  | .append => "append"
  | .pop => "pop"
  | .popAt => "pop"
  | .join => "join"
  | .extend => "extend"
def rMt (K : PySem.W.Frag) : Mt → V → List V → Hp → VK → Prop
  | .append => rAppend
  | .pop => rPop
  | .popAt => rPopAt
  | .join => fun x xs H Q => ∃ a p, ∃ ys : List Str, x = .str a ∧ xs = [.ref p] ∧ (SqL K H p (ys.map V.str) ∨ SqT K H p (ys.map V.str)) ∧ (ys.map (·.length)).sum + ys.length * a.length ≤ 16777216 ∧ Q (.str (Txt.join a ys)) H
  | .extend => rExtend
theorem mt_all {X : Cx} : ∀ m : Mt, MtR X m.id (rMt X.K m)
  | .append => mt_append
  | .pop => mt_pop
  | .popAt => mt_popAt
  | .join => mt_join
  | .extend => mt_extend
theorem mt_pa : ∀ m : Mt, PlainAttrs m.ty
  | .append => F.plainAttrs_list
  | .pop => F.plainAttrs_list
  | .popAt => F.plainAttrs_list
  | .join => F.plainAttrs_str
  | .extend => F.plainAttrs_list
theorem mt_slot : ∀ m : Mt, Slot m.ty m.nm m.id
  | .append => F.slot_list_append
  | .pop => F.slot_list_pop
  | .popAt => F.slot_list_pop
  | .join => F.slot_str_join
  | .extend => F.slot_list_extend
theorem mt_type : ∀ m : Mt, typeOf (.builtin m.id) = pure (.type "method_descriptor")
  | .append => F.type_list_append
  | .pop => F.type_list_pop
  | .popAt => F.type_list_pop
  | .join => F.type_str_join
  | .extend => F.type_list_extend
section
variable {K : PySem.W.Frag} {W : Wk} {B : List Bs} {M0 : List Addr} {ρ : En} {σ : L2.St} {H : Hp} {M : List Addr}
theorem mt_ty {m : Mt} {o : Opd} {v : V} (G : Gd W K B M0 ρ σ H M) (ok : OpdOk W K σ H M v o) (c : mtR m ρ o) : tyV K m.ty v H := by
  cases m with
  | join =>
    obtain ⟨s, e⟩ := c
    obtain rfl := RepPk.str_inv (OpdOk.pk G ok e)
    exact rfl
  | _ =>
    obtain ⟨ds, e⟩ := c
    obtain ⟨a, vs, rfl, ha, _⟩ := (OpdOk.pk G ok e).list_inv
    exact .inl ⟨rfl, vs, SqL.of ha⟩
theorem mt_go {m : Mt} {o : Opd} {v : V} {vs : List V} {xs : List PyData} {C : PyData → En → Prop} {Q : VK} (G : Gd W K B M0 ρ σ H M) (ok : OpdOk W K σ H M v o) (r : RepL K H M vs xs) (c : mtS m ρ o xs C)
    (h : ∀ z ρ' v' H' M', C z ρ' → Res W K B M0 ρ' σ H' M' v' (.d z) false → Q v' H') : rMt K m v vs H Q := by
  cases m with
  | append =>
    unfold mtS at c
    split at c <;> try contradiction
    rename_i x e
    cases e
    obtain ⟨i, ds, rfl, e2, hz, c⟩ := c
    obtain ⟨a, ws, rfl, ham, ha, rl⟩ := G.at_own e2 ok
    cases r with
    | cons r1 r2 =>
      cases r2
      have G2 := G.write (En.at_get e2) rfl ok ha (rl.append (.cons r1 .nil))
      exact ⟨a, ws, _, rfl, rfl, ha, by rw [rl.length]; exact hz, h _ _ _ _ _ c (.of G2 Rep.non)⟩
  | extend =>
    unfold mtS at c
    split at c <;> try contradiction
    rename_i ys e
    cases e
    obtain ⟨i, ds, rfl, e2, hz, c⟩ := c
    obtain ⟨a, ws, rfl, ham, ha, rl⟩ := G.at_own e2 ok
    cases r with
    | cons r1 r2 =>
      cases r2
      cases r1 with
      | lst hn hb q =>
        have G2 := G.write (En.at_get e2) rfl ok ha (rl.append q)
        exact ⟨a, _, ws, _, rfl, rfl, ha, hb, by rw [rl.length, q.length]; exact hz, h _ _ _ _ _ c (.of G2 Rep.non)⟩
  | pop =>
    unfold mtS at c
    split at c <;> try contradiction
    rename_i e
    cases e
    obtain ⟨i, ds, y, rfl, e2, hy, c⟩ := c
    obtain ⟨a, ws, rfl, ham, ha, rl⟩ := G.at_own e2 ok
    cases r
    obtain ⟨u, hu, ru⟩ := rl.get hy
    have G2 := G.write (En.at_get e2) rfl ok ha rl.dropLast
    exact ⟨a, ws, u, rfl, rfl, ha, by rw [rl.length]; exact hu, h _ _ _ _ _ c (.of G2 (ru.keep (Kp.store ham ha)))⟩
  | popAt =>
    unfold mtS at c
    split at c <;> try contradiction
    rename_i k e
    cases e
    obtain ⟨i, ds, j, y, rfl, e2, k1, k2, hj, hy, c⟩ := c
    obtain ⟨a, ws, rfl, ham, ha, rl⟩ := G.at_own e2 ok
    cases r with
    | cons r1 r2 =>
      cases r2
      obtain rfl := Rep.int_inv r1
      obtain ⟨u, hu, ru⟩ := rl.get hy
      have G2 := G.write (En.at_get e2) rfl ok ha (rl.eraseIdx j)
      exact ⟨a, ws, k, j, u, rfl, rfl, ha, k1, k2, by rw [rl.length]; exact (ixN_seq hj).1, hu, h _ _ _ _ _ c (.of G2 (ru.keep (Kp.store ham ha)))⟩
  | join =>
    unfold mtS at c
    split at c <;> try contradiction
    rename_i ys e
    cases e
    obtain ⟨s, zs, e1, e2, hz, c⟩ := c
    obtain rfl := RepPk.str_inv (OpdOk.pk G ok e1)
    cases r with
    | cons r1 r2 =>
      cases r2
      cases r1 with
      | lst hn hb q =>
        rw [strsD_map e2] at q
        rw [q.strs] at hb
        exact ⟨s, _, zs, rfl, rfl, .inl (SqL.of hb), hz, h _ _ _ _ _ c (Res.str G _)⟩
end
section
variable {Wp : Wk → Prop} {E : XK} {X : Cx} {o e : Expr} {es : List Expr} {do_ : DO} {aa : DA} {apos cpos : Pos} {m : Mt} {nm : Str}
theorem jMth0 (hnm : m.nm = nm) (ho : JO Wp E X o do_) (hbase : attributeBase o nm X.env (eval o X.env) = eval o X.env) (hline : (apos.endLine == cpos.line) = true) : JE Wp E X (.Call (.Attribute o nm apos) [] [] cpos) (dMth m do_ aNil) := by
  subst hnm
  refine (pe_bm0 (mt_pa m) (mt_slot m) (mt_type m) (mt_all m) ho hbase hline).weak fun σ H Q ⟨W, B, M0, ρ, M, P, R, w, G, d, x, h⟩ => ?_
  refine lO_go w G d x fun oo ρ1 v H1 M1 c G1 k1 => ?_
  obtain ⟨c1, xs, e, c⟩ := c
  cases e
  exact ⟨mt_ty G1 k1 c1, mt_go G1 k1 .nil c fun z ρ' v' H' M' c r => h _ _ _ _ _ _ c r⟩
theorem jMth (hnm : m.nm = nm) (ho : JO Wp E X o do_) (ha : JA Wp E X (e :: es) aa) (hbase : attributeBase o nm X.env (eval o X.env) = eval o X.env)
    (hfew : ((backTo cpos (starEach (e :: es) X.env)).all (fun x => !x.1) && (backToKw cpos (keywordEach [] X.env)).all (fun x => x.1.isSome)
      && decide ((e :: es).length + ([] : List Keyword).length + (if ([] : List Keyword).isEmpty then 0 else 1) < 30)) = true)
    (hline : (apos.endLine == cpos.line) = true) (hs : starEach (e :: es) X.env = (false, eval e X.env) :: starEach es X.env) (hplain : (backTo cpos (starEach es X.env)).any (·.1) = false) :
    JE Wp E X (.Call (.Attribute o nm apos) (e :: es) [] cpos) (dMth m do_ aa) := by
  subst hnm
  refine (pe_bm (mt_pa m) (mt_slot m) (mt_type m) (mt_all m) ho ha hbase hfew hline hs hplain).weak fun σ H Q ⟨W, B, M0, ρ, M, P, R, w, G, d, x, h⟩ => ?_
  refine lO_go w G d x fun oo ρ1 v H1 M1 c G1 k1 => ?_
  obtain ⟨c1, c⟩ := c
  refine ⟨mt_ty G1 k1 c1, lA_go' w G1.base c x.cons fun us ρ2 vs H2 M2 c G2 p => ?_⟩
  obtain ⟨xs, e, c⟩ := c
  exact mt_go G2.tail (OpdOk.later G2 k1) (datas_rep p e) c fun z ρ' v' H' M' c r => h _ _ _ _ _ _ c r
end
/-! ### promises -/
/-- a def's promise from its worth f: n arguments -/
def spG (Wp : Wk → Prop) (K : PySem.W.Frag) (mg : Str → Option Value) (n : Nat) (f : FSpec) : Sp := fun vs H Q E => ∃ W M us P R, WP Wp W f.m ∧ W.ok H ∧ (∀ a ∈ W.ad, a ∈ M) ∧ (∀ a ∈ M, H a ≠ none) ∧ (∃ o u, H sysModules = some (.frz o u)) ∧
  vs.length = n ∧ Paired (RepU W K H M) vs us ∧ f us P R ∧ (∀ u fr v H', P u fr → RetOk (W.up f.m) K H M H' v u fr → Q v H') ∧ (∀ x C od H', R x → ExnAt K mg H' M x C od → Kp W.ad H H' → (∃ k, (W.up k).ok H') → E C od H')
section
variable {K : PySem.W.Frag} {W : Wk} {B : List Bs} {M0 : List Addr} {ρ : En} {σ : L2.St} {H H' : Hp} {M : List Addr}
/-- behind a call that gave a list of its own -/
theorem Gd.calledN (G : Gd W K B M0 ρ σ H M) (k : Kp W.ad H H') (w : W.ok H') {p : Addr} (hp : H p = none) (hl : H' p ≠ none) : Gd W K B M0 ρ σ H' (p :: M) := by
  have wm : ∀ a ∈ W.ad, a ∈ M := fun a z => G.sub a (G.wad a z)
  have G1 := G.called k w
  refine ⟨G1.sm, w, G.wad, fun a z => List.mem_cons_of_mem _ (G.sub a z), fun a z => ?_, G.len, fun b hb => ?_, fun i e h => ?_, G.sep⟩
  · rcases List.mem_cons.mp z with rfl | z
    · exact hl
    · exact G1.liv a z
  · obtain ⟨q1, q2, q3, q4⟩ := G1.bs b hb
    refine ⟨q1, q2, fun a z => ?_, q4⟩
    rcases List.mem_cons.mp z with rfl | z
    · exact .inr (G.old hb hp)
    · exact q3 a z
  · obtain ⟨v, h1, h2⟩ := G.ent i e h
    refine ⟨v, h1, h2.move (k.more wm) (fun a z => ?_) fun a _ _ z n => ⟨List.mem_cons_of_mem _ z, fun o' e' => k.same a o' (fun y => n (G.wad a y)) e'⟩⟩
    rcases List.mem_cons.mp z with rfl | z
    · exact .inr hp
    · exact .inl z
theorem call_go {Wp : Wk → Prop} {mg : Str → Option Value} {E : XK} {n : Nat} {f : FSpec} {vs : List V} {us : List U} {P : U → Bool → En → Prop} {R : RK} {Q : VK} (w : WP Wp W f.m) (G : Gd W K B M0 ρ σ H M) (hl : vs.length = n) (p : Paired (RepU W K H M) vs us) (d : f us (fun u fr => P u fr ρ) R) (x : XOk W K mg E M0 B R)
    (h : ∀ u fr ρ' v H' M', P u fr ρ' → Res (W.up f.m) K B M0 ρ' σ H' M' v u fr → Q v H') : spG Wp K mg n f vs H Q E := by
  refine ⟨W, M, us, _, R, w, G.wok, fun a z => G.sub a (G.wad a z), G.liv, G.sm, hl, p, d, fun u fr v H' c r => ?_, fun y C od H' hr he hk hw => ?_⟩
  · obtain ⟨r1, r2, r3⟩ := r
    have Gu : Gd (W.up f.m) K B M0 ρ σ H M := Gd.mono (a := 0) (Nat.zero_le _) G
    have G1 := Gu.called r2 r1
    cases fr with
    | false => rw [if_neg (by simp)] at r3; exact h _ _ _ _ _ _ c (.of G1 r3)
    | true =>
      rw [if_pos rfl] at r3
      obtain ⟨a, ws, ds, rfl, rfl, q1, q2, q3⟩ := r3
      refine h _ _ _ _ _ _ c ⟨G1, ?_⟩
      rw [if_pos rfl]
      exact ⟨a, ws, ds, rfl, rfl, q1, q2, fun z => G.liv a z q3, Gu.calledN r2 r1 q3 (by rw [q1]; exact fun z => nomatch z), fun b hb => G.old hb q3⟩
  · rcases x with x | ⟨b, hb, x⟩
    · exact absurd hr (x y)
    · obtain ⟨k, hw⟩ := hw
      have Gu : Gd (W.up k) K B M0 ρ σ H M := Gd.mono (a := 0) (Nat.zero_le _) G
      have G1 := Gu.called hk hw
      refine x y C od H' hr ⟨he.1, ?_⟩ (G1.bs b hb).1 ⟨k, hw⟩
      have e2 := he.2
      cases q : y.fld with
      | none => rw [q] at e2; exact e2
      | some fd =>
        rw [q] at e2
        obtain ⟨a, v, e3, e4, e5⟩ := e2
        exact ⟨a, v, e3, e4, e5.less G.sub⟩
theorem call_go' {Wp : Wk → Prop} {mg : Str → Option Value} {E : XK} {n j : Nat} {f : FSpec} {vs : List V} {us : List U} {P : U → Bool → En → Prop} {R : RK} {Q : VK} (w : WP Wp W t) (G : Gd (W.up j) K B M0 ρ σ H M) (hl : vs.length = n) (p : Paired (RepU W K H M) vs us) (d : f us (fun u fr => P u fr ρ) R) (x : XOk W K mg E M0 B R)
    (h : ∀ u fr ρ' v H' M', P u fr ρ' → Res (W.up (j + f.m)) K B M0 ρ' σ H' M' v u fr → Q v H') (hle : j + f.m ≤ t := by first | exact Nat.le_refl _ | exact Nat.le_add_right _ _ | exact Nat.le_add_left _ _ | exact Nat.le_trans (Nat.le_add_right _ _) (Nat.le_add_right _ _) | exact Nat.add_le_add_left (Nat.le_add_right _ _) _ | exact Nat.add_le_add_left (Nat.le_add_left _ _) _) : spG Wp K mg n f vs H Q E :=
  call_go (w.up hle) G hl p d x.up fun u fr ρ' v H' M' c r => h _ _ _ _ _ _ c r.cast
theorem Paired.len {α β : Type} {F : α → β → Prop} : ∀ {xs : List α} {ys : List β}, Paired F xs ys → xs.length = ys.length
  | _, _, .nil => rfl
  | _, _, .cons _ t => congrArg (· + 1) (Paired.len t)
end
section
variable {Wp : Wk → Prop} {E : XK} {X : Cx} {CX : CXT} {k n : Nat} {f : Addr} {fd : FuncData} {ps ks : List Str} {sp : FSpec} {x : Str} {p pos : Pos} {e : Expr} {es : List Expr} {aa : DA}
/-- f(..): the number of arguments is told by the code -/
theorem jCall0 (F : FnG X.prog X.w X.K X.mg X.base CX k f fd ps (spG Wp X.K X.mg 0 sp)) (hr : RmG k X.A) (hg : Gl X x) (hm : X.mg x = some (.ref f)) (hk : PySem.W.keepIn X.K (.ref f) = true) (hb : Binds X.K fd ps []) (hx : Passes CX X E)
    (hdb : (x == ("__debug__" : Str)) = false) : JE Wp E X (.Call (.Name x p) [] [] pos) (dCall sp aNil) :=
  ((pe_callG F hr hg hm hk hb hx hdb).1).weak fun σ H Q ⟨W, B, M0, ρ, M, P, R, w, G, d, x, h⟩ => call_go (P := P) (vs := []) (w.le (by show sp.m ≤ 0 + sp.m; omega)) G rfl .nil d x fun u fr ρ' v H' M' c r => h _ _ _ _ _ _ c (r.mono (by show sp.m ≤ 0 + sp.m; omega))
/-- the arguments' number, from a want -/
def aLen (n : Nat) (aa : DA) : DA := ⟨aa.m, fun ρ P R => aa ρ (fun us ρ' => us.length = n ∧ P us ρ') R⟩
theorem jCall (F : FnG X.prog X.w X.K X.mg X.base CX k f fd ps (spG Wp X.K X.mg n sp)) (hr : RmG k X.A) (hg : Gl X x) (hm : X.mg x = some (.ref f)) (hk : PySem.W.keepIn X.K (.ref f) = true) (hb : Binds X.K fd ps []) (hx : Passes CX X E)
    (hdb : (x == ("__debug__" : Str)) = false) (ha : JA Wp E X (e :: es) aa) (h1 : starEach (e :: es) X.env = (false, eval e X.env) :: starEach es X.env) (h2 : (backTo pos (starEach es X.env)).any (·.1) = false) :
    JE Wp E X (.Call (.Name x p) (e :: es) [] pos) (dCall sp (aLen n aa)) :=
  ((pe_callG F hr hg hm hk hb hx hdb).2 ha h1 h2).weak fun σ H Q ⟨W, B, M0, ρ, M, P, R, w, G, d, x, h⟩ => lA_go (m := aa) (P := fun us ρ' => us.length = n ∧ sp.f us (fun u fr => P u fr ρ') R) w G d x fun us ρ1 vs H1 M1 c G1 p => by
    rw [List.append_nil]
    exact call_go' w G1 (by rw [Paired.len p]; exact c.1) p c.2 x h
end
end G9

/-! M13: a def's promise from its body's want; calls by name; stores in pairs; while. -/
namespace G9
open PySem PySem.Spec L2 PyProof.Rows
/-- the names at the entry -/
def startE (N : List Str) (us : List U) : En := us.map (fun u => some ⟨false, u⟩) ++ List.replicate (N.length - us.length) none
def dk (P : U → Bool → Prop) (R : RK) : DK := { nx := fun _ => P (.d .none) false, rt := P, ex := R }
section
variable {P : Program} {w : World} {K : PySem.W.Frag} {mg : Str → Option Value} {base : Heap} {CX : CXT} {k : Nat} {f : Addr} {fd : FuncData} {qual : Str} {body : List Stmt} {scope : Scope} {cdv : Value} {N ps : List Str} {Wp : Wk → Prop}
theorem start_gd {W : Wk} {H : Hp} {M : List Addr} {vs : List V} {us : List U} (w1 : W.ok H) (w2 : ∀ a ∈ W.ad, a ∈ M) (w3 : ∀ a ∈ M, H a ≠ none) (sm : ∃ o u, H sysModules = some (.frz o u)) (p : Paired (RepU W K H M) vs us) :
    Gd W K [⟨H, W.ad, M⟩] M (startE N us) (L2.start N vs) H M := by
  have no : ∀ {i : Nat} {e : Ent}, (startE N us)[i]? = some (some e) → e.own = false ∧ ∃ v, (L2.start N vs)[i]? = some (some v) ∧ RepU W K H M v e.u := by
    intro i e h
    have hl := Paired.len p
    unfold startE at h
    by_cases hi : i < us.length
    · rw [List.getElem?_append_left (by simpa using hi), List.getElem?_map] at h
      have : ∀ {vs : List V} {us : List U} {i : Nat} {u : U}, Paired (RepU W K H M) vs us → us[i]? = some u → ∃ v, vs[i]? = some v ∧ RepU W K H M v u := by
        intro vs us i u p
        induction p generalizing i with
        | nil => intro e; simp at e
        | cons r t ih =>
          intro e
          cases i with
          | zero => simp at e; subst e; exact ⟨_, rfl, r⟩
          | succ i => exact ih (by simpa using e)
      cases q : us[i]? with
      | none => rw [q] at h; cases h
      | some u =>
        rw [q] at h; cases h
        obtain ⟨v, h1, h2⟩ := this p q
        refine ⟨rfl, v, ?_, h2⟩
        unfold L2.start
        rw [List.getElem?_append_left (by rw [List.length_map]; omega), List.getElem?_map, h1]
        rfl
    · rw [List.getElem?_append_right (by simpa using hi), List.getElem?_replicate] at h
      split at h <;> cases h
  refine ⟨sm, w1, w2, fun _ z => z, w3, ?_, fun b hb => ?_, fun i e h => ?_, fun i j e e' a h1 h2 _ _ _ _ => ?_⟩
  · unfold startE L2.start
    rw [List.length_append, List.length_append, List.length_map, List.length_map, List.length_replicate, List.length_replicate, Paired.len p]
  · obtain rfl : b = _ := List.mem_singleton.mp hb
    exact ⟨Kp.refl _ _, fun _ z => z, fun _ z => .inl z, fun a ⟨i, e, h1, h2, _⟩ => by rw [(no h1).1] at h2; cases h2⟩
  · obtain ⟨h1, v, h2, h3⟩ := no h
    refine ⟨v, h2, ?_⟩
    unfold EntOk
    rw [if_neg (by rw [h1]; simp)]
    exact h3
  · rw [(no h1).1] at h2; cases h2
/-- the promise from the body's want -/
theorem fnG_dw {spec : FSpec} {d : DS} (D : Def K f fd qual body scope cdv) (S : FnScope N ps scope)
    (jb : ∀ A outer s H E, RmG k (A.deeper (envOfC qual scope s.heap.objs.size f cdv)) → JB Wp E (cxOf CX P w K mg base N qual scope f cdv A outer s H E) body d)
    (hm : d.m ≤ spec.m) (law : ∀ us P R, us.length = ps.length → spec.f us P R → d.f (startE N us) (dk P R)) : FnG P w K mg base CX (k + 1) f fd ps (spG Wp K mg ps.length spec) := by
  refine fnG_of D S (fun ⟨W, M, us, P, R, _, _, _, _, _, h, _⟩ => h) fun A outer s H vs Q E hr sp => ?_
  obtain ⟨W, M, us, P, R, wp, w1, w2, w3, sm, hl, p, sp, q1, q2⟩ := sp
  refine ⟨_, jb A outer s H E hr, ?_⟩
  refine lS_go (B := []) (wp.le hm) (start_gd w1 w2 w3 sm p) (law us P R (by rw [← Paired.len p]; exact hl) sp) (.inr ⟨_, List.mem_cons_self, fun x C od H' h1 h2 h3 h4 => q2 x C od H' h1 h2 h3 h4⟩) (fun σ' ρ' H' M' _ c G => ?_) (fun u fr v H' c r => q1 u fr v H' c (r.mono hm)) (fun _ _ _ _ _ c _ => c.elim) fun _ _ _ _ _ c _ => c.elim
  exact q1 _ _ _ _ c ((Res.ret (W := W.up d.m) (ρ := ρ') (u := .d .none) (.of G Rep.non)).mono hm)
end
/-! ### calls by name -/
section
variable {Wp : Wk → Prop} {E : XK} {X : Cx} {CX : CXT} {k n : Nat} {f : Addr} {fd : FuncData} {ps ks : List Str} {sp : FSpec} {x : Str} {p pos kpos : Pos} {e : Expr} {es : List Expr} {kws : List Keyword} {aa ak : DA} {de : DE} {nm : Option Str}
abbrev JK (Wp : Wk → Prop) (E : XK) (X : Cx) (kws : List Keyword) (d : DA) : Prop := PK X kws (lA Wp X.K X.mg E d)
theorem kwNil : JK Wp E X [] aNil := ⟨fun pos pins s σ H Q I ⟨W, B, M0, ρ, M, P, R, w, G, d, x, h⟩ => pk_nil.run pos pins s σ H Q I (h _ _ _ _ _ d G .nil)⟩
theorem kwCons (je : JE Wp E X e de) (jr : JK Wp E X kws ak) : JK Wp E X (⟨nm, e, kpos⟩ :: kws) (aCons de ak) :=
  ⟨fun pos pins s σ H Q I ⟨W, B, M0, ρ, M, P, R, w, G, d, x, h⟩ => (pk_cons je jr).run pos pins s σ H Q I (lE_go w G d x fun u fr ρ1 v H1 M1 c r => lA_go' w r.gd.base c x.cons fun us ρ2 vs H2 M2 c G2 p =>
    h _ _ _ _ _ c G2.tail (.cons (G2.repU r.rep) p))⟩
/-- the arguments in the parameters' order: places in (positional ++ named) -/
def pick {α : Type} (ix : List Nat) (xs ys : List α) : List α := ix.filterMap fun i => (xs ++ ys)[i]?
theorem Paired.app {α β : Type} {F : α → β → Prop} : ∀ {xs zs : List α} {ys ws : List β}, Paired F xs ys → Paired F zs ws → Paired F (xs ++ zs) (ys ++ ws)
  | _, _, _, _, .nil, q => q
  | _, _, _, _, .cons r t, q => .cons r (Paired.app t q)
theorem Paired.at {α β : Type} {F : α → β → Prop} : ∀ {xs : List α} {ys : List β} (i : Nat), Paired F xs ys → (∃ a b, xs[i]? = some a ∧ ys[i]? = some b ∧ F a b) ∨ (xs[i]? = none ∧ ys[i]? = none)
  | _, _, _, .nil => .inr ⟨rfl, rfl⟩
  | _, _, 0, .cons r _ => .inl ⟨_, _, rfl, rfl, r⟩
  | _, _, i + 1, .cons _ t => Paired.at i t
theorem Paired.picked {α β : Type} {F : α → β → Prop} {xs zs : List α} {ys ws : List β} (p : Paired F xs ys) (q : Paired F zs ws) : ∀ ix : List Nat, Paired F (pick ix xs zs) (pick ix ys ws)
  | [] => .nil
  | i :: ix => by
    unfold pick
    rcases Paired.at i (Paired.app p q) with ⟨a, b, h1, h2, h3⟩ | ⟨h1, h2⟩
    · rw [List.filterMap_cons_some h1, List.filterMap_cons_some h2]
      exact .cons h3 (Paired.picked p q ix)
    · rw [List.filterMap_cons_none h1, List.filterMap_cons_none h2]
      exact Paired.picked p q ix
/-- the names' values find their parameters -/
def KB (K : PySem.W.Frag) (fd : FuncData) (ps ks : List Str) (np : Nat) (ix : List Nat) : Prop :=
  ∀ (s : Shared) (us ws : List Value), K.In s.heap → us.length = np → ws.length = ks.length → BindsTo s fd ⟨us, ks.zip ws⟩ (ps.zip (pick ix us ws))
def dCallK (sp : FSpec) (np nk n : Nat) (ix : List Nat) (es ks : DA) : DE := ⟨es.m + ks.m + sp.m, fun ρ P R => es ρ (fun us ρ1 => us.length = np ∧ ks ρ1 (fun ws ρ2 => ws.length = nk ∧ (pick ix us ws).length = n ∧ sp (pick ix us ws) (fun u fr => P u fr ρ2) R) R) R⟩
theorem jCallK0 {ix : List Nat} (F : FnG X.prog X.w X.K X.mg X.base CX k f fd ps (spG Wp X.K X.mg n sp)) (hr : RmG k X.A) (hg : Gl X x) (hm : X.mg x = some (.ref f)) (hk : PySem.W.keepIn X.K (.ref f) = true) (hb : KB X.K fd ps ks 0 ix) (hx : Passes CX X E)
    (hkw : JK Wp E X kws ak) (hall : (backToKw pos (keywordEach kws X.env)).all (·.1.isSome) = true) (hks : (backToKw pos (keywordEach kws X.env)).filterMap (·.1) = ks)
    (hdb : (x == ("__debug__" : Str)) = false) (h1 : (backToKw pos (keywordEach kws X.env)).any (·.1.isNone) = false) : JE Wp E X (.Call (.Name x p) [] kws pos) (dCallK sp 0 ks.length n ix aNil ak) := by
  refine ⟨fun pins s σ H Q I ⟨W, B, M0, ρ, M, P, R, w, G, d, x, h⟩ => ?_⟩
  refine wpAny_Call_Name_kw (ld_glob I hg hm ?_ hdb)
  have e0 : ak.m + sp.m = (dCallK sp 0 ks.length n ix aNil ak).m := by show ak.m + sp.m = 0 + ak.m + sp.m; omega
  have w := w.le (Nat.le_of_eq e0)
  have z := hkw.run pos pins s σ H (fun vs H' => vs.length = ks.length ∧ (pick ix [] vs).length = n ∧ spG Wp X.K X.mg n sp (pick ix [] vs) H' Q E) I (lA_go (m := ak) (P := fun ws ρ2 => ws.length = ks.length ∧ (pick ix [] ws).length = n ∧ sp.f (pick ix [] ws) (fun u fr => P u fr ρ2) R) w G (show 0 = 0 ∧ _ from d).2 x fun us ρ1 zs H1 M1 c G1 p => by
    refine ⟨by rw [Paired.len p]; exact c.1, ?_, ?_⟩
    · rw [Paired.len (Paired.picked .nil p ix)]; exact c.2.1
    · exact call_go' w G1 (by rw [Paired.len (Paired.picked .nil p ix)]; exact c.2.1) (Paired.picked .nil p ix) c.2.2 x fun u fr ρ' v H' M' c r => h _ _ _ _ _ _ c (r.mono (by show ak.m + sp.m ≤ 0 + ak.m + sp.m; omega)))
  refine PySem.W.callWith_KW0 (h₀ := X.base) I.ok.mod.kin hk hall (thn z fun ws s2 ⟨zs, H2, I2, rz, q2⟩ => ⟨I2.kIn, ?_⟩) (by show (false || _) = false; rw [Bool.false_or]; exact h1)
  rw [hks]
  have r2 := Paired.picked (.nil : Vals [] []) rz ix
  exact runG F hr hx I2 (hb s2 [] ws I2.kIn rfl (by rw [← rz.length]; exact q2.1)) r2 q2.2.2
theorem jCallK {ix : List Nat} {np : Nat} (F : FnG X.prog X.w X.K X.mg X.base CX k f fd ps (spG Wp X.K X.mg n sp)) (hr : RmG k X.A) (hg : Gl X x) (hm : X.mg x = some (.ref f)) (hk : PySem.W.keepIn X.K (.ref f) = true) (hb : KB X.K fd ps ks np ix) (hx : Passes CX X E)
    (ha : JA Wp E X (e :: es) aa) (hkw : JK Wp E X kws ak) (hall : (backToKw pos (keywordEach kws X.env)).all (·.1.isSome) = true) (hks : (backToKw pos (keywordEach kws X.env)).filterMap (·.1) = ks)
    (hdb : (x == ("__debug__" : Str)) = false) (h1 : starEach (e :: es) X.env = (false, eval e X.env) :: starEach es X.env) (h2 : ((backTo pos (starEach (e :: es) X.env)).any (·.1) || (backToKw pos (keywordEach kws X.env)).any (·.1.isNone)) = false) :
    JE Wp E X (.Call (.Name x p) (e :: es) kws pos) (dCallK sp np ks.length n ix aa ak) := by
  refine ⟨fun pins s σ H Q I ⟨W, B, M0, ρ, M, P, R, w, G, d, x, h⟩ => ?_⟩
  refine wpAny_Call_Name_kw (ld_glob I hg hm ?_ hdb)
  have z := ha.run pos pins s σ H (fun vs H' => vs.length = np ∧ lA Wp X.K X.mg E ak σ H' fun zs H2 => zs.length = ks.length ∧ spG Wp X.K X.mg n sp (pick ix vs zs) H2 Q E) I (lA_go w G d x fun us ρ1 zs H1 M1 c G1 p => by
    refine ⟨by rw [Paired.len p]; exact c.1, lA_go' w G1.base c.2 x.cons fun ws ρ2 zs2 H2 M2 c G2 p2 => ?_⟩
    have pp := Paired.picked (Paired.moveU G2.kp G2.nw p) p2 ix
    exact ⟨by rw [Paired.len p2]; exact c.1, call_go' w G2.tail (by rw [Paired.len pp]; exact c.2.1) pp c.2.2 x h⟩)
  refine PySem.W.callWith_KW (h₀ := X.base) I.ok.mod.kin hk hall (thn z fun us s1 ⟨vs, H1, I1, r1, q⟩ => thn (hkw.run pos pins s1 σ H1 _ I1 q.2) fun ws s2 ⟨zs, H2, I2, rz, q2⟩ => ⟨I2.kIn, ?_⟩) h2 h1
  rw [hks]
  exact runG F hr hx I2 (hb s2 us ws I2.kIn (by rw [← r1.length]; exact q.1) (by rw [← rz.length]; exact q2.1)) (Paired.picked r1 rz ix) q2.2
end
/-! ### stores in pairs, while -/
theorem Res.with {W : Wk} {K : PySem.W.Frag} {B : List Bs} {M0 : List Addr} {ρ : En} {σ : L2.St} {H1 H : Hp} {M1 M : List Addr} {v v0 : V} {u u0 : U} {fr : Bool} {i : Nat} {b : Bs} (r : Res W K B M0 ρ σ H M v u fr) (hb : b ∈ B) (eb : b = ⟨H1, M1, M1⟩) (r0 : RepU W K H1 M1 v0 u0) (hi : i < σ.length) :
    Res W K B M0 (En.put ρ i false u0) (σ.set i (some v0)) H M v u fr := by
  subst eb
  obtain ⟨G, r⟩ := r
  obtain ⟨z1, _, z3, _⟩ := G.bs _ hb
  refine ⟨G.put0 hi (r0.move z1 z3), ?_⟩
  split
  · rename_i hf
    rw [if_pos hf] at r
    obtain ⟨a, vs, ds, q1, q2, q3, q4, q5, q6, q7⟩ := r
    obtain ⟨y1, _, y3, _⟩ := q6.bs _ hb
    exact ⟨a, vs, ds, q1, q2, q3, q4, q5, q6.put0 hi (r0.move y1 y3), q7⟩
  · rename_i hf
    rw [if_neg hf] at r
    exact r
section
variable {Wp : Wk → Prop} {E : XK} {X : Cx} {ea eb ec : Expr} {pos px py pz pt : Pos} {i j l : Nat} {x y z : Str} {da db dc : DE}
theorem sPar0 {kt k2 pt2} (g : Gx X) (hi : X.N[i]? = some x) (hj : X.N[j]? = some y) (hij : i ≠ j) (hx : X.env.scope.names.lookup x = some .local) (hy : X.env.scope.names.lookup y = some .local) (ja : JE Wp E X ea da) (jb : JE Wp E X eb db)
    (ha1 : starEach [ea, eb] X.env = (false, eval ea X.env) :: starEach [eb] X.env) (ha2 : starEach [eb] X.env = (false, eval eb X.env) :: starEach [] X.env)
    (hw : swappedStores [.Tuple [.Name x px, .Name y py] kt pt] (.Tuple [ea, eb] k2 pt2) X.env = pure (some [x, y]))
    (hs : swapsWithSole [.Tuple [.Name x px, .Name y py] kt pt] (.Tuple [ea, eb] k2 pt2) pos.line X.env = pure false) :
    JS Wp E X (.Assign [.Tuple [.Name x px, .Name y py] kt pt] (.Tuple [ea, eb] k2 pt2) pos) (sPar i j da db) :=
  (ps_par g.calm g.nd hi hj hij hx hy (pa_cons ja (pa_cons jb pa_nil ha2) ha1) hw hs).weakI fun pins s σ H D I ⟨W, H0, B, M0, ρ, M, DD, w, G, d, xo, h1, h2, h3, h4⟩ => lE_go w G d xo fun u fr ρ1 v H1 M1 c r => lE_go' w r.gd.base c xo.cons fun u' fr' ρ2 v' H2 M2 c r' => by
    have li : i < σ.length := by rw [I.len]; exact (List.getElem?_eq_some_iff.mp hi).1
    have lj : j < σ.length := by rw [I.len]; exact (List.getElem?_eq_some_iff.mp hj).1
    obtain ⟨M3, G3⟩ := (r'.with List.mem_cons_self rfl r.rep li).put (i := j) (by rw [List.length_set]; exact lj)
    exact ⟨v, v', rfl, h1 _ _ _ _ (by rw [List.length_set, List.length_set]) c G3.tail⟩
theorem sPar30 {kt k2 pt2} (g : Gx X) (hi : X.N[i]? = some x) (hj : X.N[j]? = some y) (hl : X.N[l]? = some z) (hij : i ≠ j) (hil : i ≠ l) (hjl : j ≠ l) (hx : X.env.scope.names.lookup x = some .local) (hy : X.env.scope.names.lookup y = some .local) (hz : X.env.scope.names.lookup z = some .local) (ja : JE Wp E X ea da) (jb : JE Wp E X eb db) (jc : JE Wp E X ec dc)
    (ha1 : starEach [ea, eb, ec] X.env = (false, eval ea X.env) :: starEach [eb, ec] X.env) (ha2 : starEach [eb, ec] X.env = (false, eval eb X.env) :: starEach [ec] X.env) (ha3 : starEach [ec] X.env = (false, eval ec X.env) :: starEach [] X.env)
    (hw : swappedStores [.Tuple [.Name x px, .Name y py, .Name z pz] kt pt] (.Tuple [ea, eb, ec] k2 pt2) X.env = pure (some [x, y, z]))
    (hs : swapsWithSole [.Tuple [.Name x px, .Name y py, .Name z pz] kt pt] (.Tuple [ea, eb, ec] k2 pt2) pos.line X.env = pure false) :
    JS Wp E X (.Assign [.Tuple [.Name x px, .Name y py, .Name z pz] kt pt] (.Tuple [ea, eb, ec] k2 pt2) pos) (sPar3 i j l da db dc) :=
  (ps_par3 g.calm g.nd hi hj hl hij hil hjl hx hy hz (pa_cons ja (pa_cons jb (pa_cons jc pa_nil ha3) ha2) ha1) hw hs).weakI fun pins s σ H D I ⟨W, H0, B, M0, ρ, M, DD, w, G, d, xo, h1, h2, h3, h4⟩ =>
    lE_go w G d xo fun u fr ρ1 v H1 M1 c r => lE_go' w r.gd.base c xo.cons fun u' fr' ρ2 v' H2 M2 c r' => lE_go' w r'.gd.base c xo.cons.cons fun u2 fr2 ρ3 v2 H3 M3 c r2 => by
    have li : i < σ.length := by rw [I.len]; exact (List.getElem?_eq_some_iff.mp hi).1
    have lj : j < σ.length := by rw [I.len]; exact (List.getElem?_eq_some_iff.mp hj).1
    have ll : l < σ.length := by rw [I.len]; exact (List.getElem?_eq_some_iff.mp hl).1
    obtain ⟨M4, G4⟩ := ((r2.with (List.mem_cons_of_mem _ List.mem_cons_self) rfl r.rep li).with (i := j) List.mem_cons_self rfl r'.rep (by rw [List.length_set]; exact lj)).put (i := l) (by rw [List.length_set, List.length_set]; exact ll)
    exact ⟨v, v', v2, rfl, h1 _ _ _ _ (by rw [List.length_set, List.length_set, List.length_set]) c G4.tail.tail⟩
end
end G9

/-! M14: the rules in short, their side goals closed by themselves. -/
namespace G9
open PySem PySem.Spec L2 PyProof.Rows
theorem pass0G {X : Cx} {E : XK} : Passes CX0 X E := fun _ _ _ _ _ _ _ h => h.elim
/-- a def of the module that keeps its promise: what a caller needs -/
structure Cal (P : Program) (w : World) (K : PySem.W.Frag) (mg : Str → Option Value) (base : Heap) (CX : CXT) (Wp : Wk → Prop) (j : Nat) (x : Str) (st : Stmt) (ps : List Str) (sp : FSpec) : Prop where
  ex : ∃ f fd, Fun K x x st f fd ∧ FnG P w K mg base CX j f fd ps (spG Wp K mg ps.length sp) ∧ mg x = some (.ref f)
section
variable {P : Program} {w : World} {K : PySem.W.Frag} {mg : Str → Option Value} {base : Heap} {CX : CXT} {k : Nat} {f : Addr} {fd : FuncData} {x : Str} {st : Stmt} {N ps : List Str} {Wp : Wk → Prop}
/-- THE RULE for a def: its body's want, its law -/
theorem cal_of {spec : FSpec} {d : DS} (F : Fun K x x st f fd) (hm : mg x = some (.ref f)) (S : FnScope N ps (defScope st))
    (jb : ∀ cdv A outer s H E, RmG k (A.deeper (envOfC x (defScope st) s.heap.objs.size f cdv)) → Gx (cxOf CX P w K mg base N x (defScope st) f cdv A outer s H E) → JB Wp E (cxOf CX P w K mg base N x (defScope st) f cdv A outer s H E) (defBody st) d)
    (le : d.m ≤ spec.m) (law : ∀ us P R, us.length = ps.length → spec.f us P R → d.f (startE N us) (dk P R)) : Cal P w K mg base CX Wp (k + 1) x st ps spec := by
  obtain ⟨oc, od, kV, doc, pm, an, cdv, ct, osl, e, lk, hcd⟩ := F.ex
  have D : Def K f fd x (defBody st) (defScope st) cdv := ⟨⟨_, _, _, _, _, _, _, _, _, _, _, e, lk⟩, hcd⟩
  refine ⟨f, fd, F, fnG_dw D S (fun A outer s H E hr => jb cdv A outer s H E hr ⟨rfl, hr.gd, ?_, S.nd⟩) le law, hm⟩
  have := hr.rm.un
  show A.units + 3 + 65 < cLine
  have h2 : A.units + 3 + 16 * k + 200 < cLine := hr.rm.un
  omega
end
section
variable {Wp : Wk → Prop} {E : XK} {X : Cx} {CX : CXT} {k j np : Nat} {st : Stmt} {ps ks : List Str} {sp : FSpec} {x : Str} {p pos : Pos} {e : Expr} {es : List Expr} {aa ak : DA} {kws : List Keyword} {ix : List Nat}
theorem qCall0 (hr : RmG k X.A) (c : Cal X.prog X.w X.K X.mg X.base CX Wp j x st [] sp) (hx : Passes CX X E)
    (hb : ∀ (kV doc pm : Value) (an : Option Addr) (cdv ct : Value) (us : List Value), us.length = ([] : List Str).length → bindArgs (PySem.W.fnOf x x (defArgs st) (defBody st) (defScope st) .none kV doc pm an cdv ct) ⟨us, []⟩ = pure (([] : List Str).zip us))
    (hj : j ≤ k := by decide) (hg : Gl X x := by rfl) (hdb : (x == ("__debug__" : Str)) = false := by decide) : JE Wp E X (.Call (.Name x p) [] [] pos) (dCall sp aNil) := by
  obtain ⟨f, fd, F, G, m⟩ := c.ex
  exact jCall0 (G.mono hj) hr hg m F.kp (F.binds hb) hx hdb
theorem qCall {n : Nat} (hr : RmG k X.A) (c : Cal X.prog X.w X.K X.mg X.base CX Wp j x st ps sp) (hx : Passes CX X E)
    (hb : ∀ (kV doc pm : Value) (an : Option Addr) (cdv ct : Value) (us : List Value), us.length = ps.length → bindArgs (PySem.W.fnOf x x (defArgs st) (defBody st) (defScope st) .none kV doc pm an cdv ct) ⟨us, []⟩ = pure (ps.zip us)) (ha : JA Wp E X (e :: es) aa)
    (hj : j ≤ k := by decide) (hg : Gl X x := by rfl) (hdb : (x == ("__debug__" : Str)) = false := by decide) (h1 : starEach (e :: es) X.env = (false, eval e X.env) :: starEach es X.env := by rfl) (h2 : (backTo pos (starEach es X.env)).any (·.1) = false := by rfl) (hn : ps.length = n := by rfl) :
    JE Wp E X (.Call (.Name x p) (e :: es) [] pos) (dCall sp (aLen n aa)) := by
  subst hn
  obtain ⟨f, fd, F, G, m⟩ := c.ex
  exact jCall (G.mono hj) hr hg m F.kp (F.binds hb) hx hdb ha h1 h2
theorem kb_of {K : PySem.W.Frag} {f : Addr} {fd : FuncData} (F : Fun K x x st f fd)
    (hb : ∀ (kV doc pm : Value) (an : Option Addr) (cdv ct : Value) (us ws : List Value), us.length = np → ws.length = ks.length → bindArgs (PySem.W.fnOf x x (defArgs st) (defBody st) (defScope st) .none kV doc pm an cdv ct) ⟨us, ks.zip ws⟩ = pure (ps.zip (pick ix us ws))) : KB K fd ps ks np ix := by
  obtain ⟨oc, od, kV, doc, pm, an, cdv, ct, osl, rfl, lk, hcd⟩ := F.ex
  exact fun s us ws _ h1 h2 => .of_eq (hb kV doc pm an cdv ct us ws h1 h2)
theorem qCallK0 {n nk : Nat} (hr : RmG k X.A) (c : Cal X.prog X.w X.K X.mg X.base CX Wp j x st ps sp) (hx : Passes CX X E) (ks : List Str) (ix : List Nat)
    (hb : ∀ (kV doc pm : Value) (an : Option Addr) (cdv ct : Value) (us ws : List Value), us.length = 0 → ws.length = ks.length → bindArgs (PySem.W.fnOf x x (defArgs st) (defBody st) (defScope st) .none kV doc pm an cdv ct) ⟨us, ks.zip ws⟩ = pure (ps.zip (pick ix us ws))) (hkw : JK Wp E X kws ak)
    (hj : j ≤ k := by decide) (hg : Gl X x := by rfl) (hdb : (x == ("__debug__" : Str)) = false := by decide) (hall : (backToKw pos (keywordEach kws X.env)).all (·.1.isSome) = true := by rfl) (hks : (backToKw pos (keywordEach kws X.env)).filterMap (·.1) = ks := by rfl)
    (h1 : (backToKw pos (keywordEach kws X.env)).any (·.1.isNone) = false := by rfl) (hn : ps.length = n := by rfl) (hnk : ks.length = nk := by rfl) : JE Wp E X (.Call (.Name x p) [] kws pos) (dCallK sp 0 nk n ix aNil ak) := by
  subst hn hnk
  obtain ⟨f, fd, F, G, m⟩ := c.ex
  exact jCallK0 (G.mono hj) hr hg m F.kp (kb_of F hb) hx hkw hall hks hdb h1
theorem qCallK {n nk : Nat} (hr : RmG k X.A) (c : Cal X.prog X.w X.K X.mg X.base CX Wp j x st ps sp) (hx : Passes CX X E) (ks : List Str) (np : Nat) (ix : List Nat)
    (hb : ∀ (kV doc pm : Value) (an : Option Addr) (cdv ct : Value) (us ws : List Value), us.length = np → ws.length = ks.length → bindArgs (PySem.W.fnOf x x (defArgs st) (defBody st) (defScope st) .none kV doc pm an cdv ct) ⟨us, ks.zip ws⟩ = pure (ps.zip (pick ix us ws))) (ha : JA Wp E X (e :: es) aa) (hkw : JK Wp E X kws ak)
    (hj : j ≤ k := by decide) (hg : Gl X x := by rfl) (hdb : (x == ("__debug__" : Str)) = false := by decide) (hall : (backToKw pos (keywordEach kws X.env)).all (·.1.isSome) = true := by rfl) (hks : (backToKw pos (keywordEach kws X.env)).filterMap (·.1) = ks := by rfl)
    (h1 : starEach (e :: es) X.env = (false, eval e X.env) :: starEach es X.env := by rfl) (h2 : ((backTo pos (starEach (e :: es) X.env)).any (·.1) || (backToKw pos (keywordEach kws X.env)).any (·.1.isNone)) = false := by rfl) (hn : ps.length = n := by rfl) (hnk : ks.length = nk := by rfl) :
    JE Wp E X (.Call (.Name x p) (e :: es) kws pos) (dCallK sp np nk n ix aa ak) := by
  subst hn hnk
  obtain ⟨f, fd, F, G, m⟩ := c.ex
  exact jCallK (G.mono hj) hr hg m F.kp (kb_of F hb) hx ha hkw hall hks hdb h1 h2
end
/-! ### names -/
section
variable {Wp : Wk → Prop} {E : XK} {X : Cx} {x y : Str} {pos p1 p2 p3 cpos apos : Pos} {e ea eb ec o : Expr} {es rest : List Expr} {a b c do_ : DO} {da db de dcc : DE} {dc : DT} {aa : DA} {st : Stmt} {sts sa sb : List Stmt} {ds d1 d2 : DS} {i j l : Nat}
theorem qV (i : Nat) (hN : X.N[i]? = some x := by rfl) (hv : Vis X.env.scope x := by first | exact Or.inl rfl | exact Or.inr (Or.inl rfl) | exact Or.inr (Or.inr rfl)) (hd : (x == ("__debug__" : Str)) = false := by decide)
    (hcd : (x == ("__classdict__" : Str)) = false := by decide) : JE Wp E X (.Name x pos) (dVar i) := jVar hN hv hd hcd
theorem qO (i : Nat) (hN : X.N[i]? = some x := by rfl) (hv : Vis X.env.scope x := by first | exact Or.inl rfl | exact Or.inr (Or.inl rfl) | exact Or.inr (Or.inr rfl)) (hd : (x == ("__debug__" : Str)) = false := by decide)
    (hcd : (x == ("__classdict__" : Str)) = false := by decide) : JO Wp E X (.Name x pos) (oSlot i) := oVar hN hv hd hcd
theorem qGI {n : Int} (hm : ∃ t, X.mg x = some (.int n t)) (hg : Gl X x := by rfl) (hd : (x == ("__debug__" : Str)) = false := by decide) : JE Wp E X (.Name x pos) (dCon (.int n)) := let ⟨_, h⟩ := hm; jGlobI hg h hd
theorem qGS {n : Str} (hm : ∃ t, X.mg x = some (.str n t)) (hg : Gl X x := by rfl) (hd : (x == ("__debug__" : Str)) = false := by decide) : JE Wp E X (.Name x pos) (dCon (.str n)) := let ⟨_, h⟩ := hm; jGlobS hg h hd
theorem qCmp (cm : Cm) (g : Gx X) (ja : JO Wp E X ea a) (jb : JO Wp E X eb b) (hm : behindInMarks (cmO cm) eb = false := by rfl) : JE Wp E X (.Compare ea [cmO cm] [eb] pos) (dCmp cm a b) := jCmp g.un ja jb hm
theorem qCmp2 (cm cm' : Cm) (g : Gx X) (ja : JO Wp E X ea a) (jb : JO Wp E X eb b) (jc : JO Wp E X ec c) (hm : lastMarks [cmO cm, cmO cm'] [eb, ec] = false := by with_unfolding_all rfl) : JE Wp E X (.Compare ea [cmO cm, cmO cm'] [eb, ec] pos) (dCmp2 cm cm' a b c) := jCmp2 g.un ja jb jc hm
theorem qkCmp (cm : Cm) (g : Gx X) (ja : JO Wp E X ea a) (jb : JO Wp E X eb b) (hm : behindInMarks (cmO cm) eb = false := by rfl) : JT Wp E X (.Compare ea [cmO cm] [eb] pos) (kE (dCmp cm a b)) := kCmp g.un ja jb hm
theorem qkCmp2 (cm cm' : Cm) (g : Gx X) (ja : JO Wp E X ea a) (jb : JO Wp E X eb b) (jc : JO Wp E X ec c) (hm : lastMarks [cmO cm, cmO cm'] [eb, ec] = false := by with_unfolding_all rfl) : JT Wp E X (.Compare ea [cmO cm, cmO cm'] [eb, ec] pos) (kE (dCmp2 cm cm' a b c)) := kCmp2 g.un ja jb jc hm
theorem qkOf (ja : JE Wp E X ea da) (he : ∀ whole, isTrue ea X.env whole = (do let v ← whole; standAt ea.pos; holding [v] (truthy v)) := by intro _; rfl) : JT Wp E X ea (kE da) := kOf ja he
theorem qkName (i : Nat) (ja : JO Wp E X ea (oSlot i)) (he : ∀ whole, isTrue ea X.env whole = (do let v ← whole; standAt ea.pos; holding [v] (truthy v)) := by intro _; rfl) : JT Wp E X ea (kVar i) := kName ja he
theorem qaCons (je : JE Wp E X e de) (jr : JA Wp E X es aa) (hs : starEach (e :: es) X.env = (false, eval e X.env) :: starEach es X.env := by rfl) : JA Wp E X (e :: es) (aCons de aa) := aCons0 je jr hs
theorem qIdx (ja : JO Wp E X ea a) (jb : JO Wp E X eb b) (hs : PlainIx eb := by intro _ _; rfl) : JE Wp E X (.Subscript ea eb pos) (dIdx a b) := jIdx ja jb hs
theorem qBif {u : Value} (b : Bi) (g : Gx X) (hm : X.mg x = none) (ja : JO Wp E X ea a) (hbv : b.val = some u := by rfl) (hv : bootBuiltins x = some u := by rfl) (hg : Gl X x := by rfl) (hn : x ≠ "__name__" := by decide) (hdb : (x == ("__debug__" : Str)) = false := by decide)
    (hs : starEach [ea] X.env = (false, eval ea X.env) :: starEach [] X.env := by rfl) (hpl : (backTo pos (starEach [] X.env)).any (·.1) = false := by rfl) : JE Wp E X (.Call (.Name x p2) [ea] [] pos) (dBif b a) := jBif g.calm g.gd g.un hbv hv hg hm hn hdb ja hs hpl
theorem qIsi (t : Ty) (hm : X.mg "isinstance" = none) (hmt : X.mg y = none) (ja : JO Wp E X ea a) (hg : Gl X "isinstance" := by rfl) (hgt : Gl X y := by rfl) (hvt : bootBuiltins y = some (.type t.nm) := by rfl) (hn : y ≠ "__name__" := by decide) (hdb : (y == ("__debug__" : Str)) = false := by decide)
    (hs : starEach [ea, .Name y p3] X.env = (false, eval ea X.env) :: starEach [.Name y p3] X.env := by rfl) (hs2 : starEach [.Name y p3] X.env = (false, eval (.Name y p3) X.env) :: starEach [] X.env := by rfl) (hpl : (backTo pos (starEach [.Name y p3] X.env)).any (·.1) = false := by rfl) :
    JE Wp E X (.Call (.Name "isinstance" p2) [ea, .Name y p3] [] pos) (dIsi a t) := jIsi hg hm hgt hmt hvt hn hdb ja hs hs2 hpl
theorem qMth0 (m : Mt) (ho : JO Wp E X o do_) (hbase : attributeBase o m.nm X.env (eval o X.env) = eval o X.env := by rfl) (hline : (apos.endLine == cpos.line) = true := by rfl) : JE Wp E X (.Call (.Attribute o m.nm apos) [] [] cpos) (dMth m do_ aNil) := jMth0 rfl ho hbase hline
theorem qMth (m : Mt) (ho : JO Wp E X o do_) (ha : JA Wp E X (e :: es) aa) (hbase : attributeBase o m.nm X.env (eval o X.env) = eval o X.env := by rfl)
    (hfew : ((backTo cpos (starEach (e :: es) X.env)).all (fun x => !x.1) && (backToKw cpos (keywordEach [] X.env)).all (fun x => x.1.isSome)
      && decide ((e :: es).length + ([] : List Keyword).length + (if ([] : List Keyword).isEmpty then 0 else 1) < 30)) = true := by rfl)
    (hline : (apos.endLine == cpos.line) = true := by rfl) (hs : starEach (e :: es) X.env = (false, eval e X.env) :: starEach es X.env := by rfl) (hplain : (backTo cpos (starEach es X.env)).any (·.1) = false := by rfl) :
    JE Wp E X (.Call (.Attribute o m.nm apos) (e :: es) [] cpos) (dMth m do_ aa) := jMth rfl ho ha hbase hfew hline hs hplain
/-! ### walks and comprehensions -/
theorem qR1 {tg : Expr} (hm : X.mg "range" = none) (ja : JE Wp E X ea da) (hg : Gl X "range" := by rfl) (hs : starEach [ea] X.env = [(false, eval ea X.env)] := by rfl) : JI Wp E X tg (.Call (.Name "range" p2) [ea] [] pos) (wRng1 da) := wR1 hg hm ja hs
theorem qR2 {tg : Expr} (hm : X.mg "range" = none) (ja : JE Wp E X ea da) (jb : JE Wp E X eb db) (hg : Gl X "range" := by rfl) (hs : starEach [ea, eb] X.env = [(false, eval ea X.env), (false, eval eb X.env)] := by rfl) (hs2 : starEach [eb] X.env = [(false, eval eb X.env)] := by rfl) :
    JI Wp E X tg (.Call (.Name "range" p2) [ea, eb] [] pos) (wRng2 da db) := wR2 hg hm ja jb hs hs2
theorem qgN (g : Gx X) (i : Nat) (hi : X.N[i]? = some x := by rfl) (hx : Loc X.env.scope x := by first | exact Or.inl rfl | exact Or.inr rfl) (hf : X.fn x = true ∨ X.env.scope.names.lookup x = some .local := by first | exact Or.inl rfl | exact Or.inr rfl) : PG X (.Name x pos) (gB X.K [i] false) := gOne g.nd hi hx hf
theorem qgT {n : Nat} {tg : List Nat} (g : Gx X) (h : PGs X es (gNames tg)) (hn : (assignEach es X.env).length = tg.length := by rfl) (hst : (assignEach es X.env).findIdx? (·.1) = none := by rfl) : PG X (.Tuple es n pos) (gB X.K tg true) := pg_tup g.calm h hn hst
theorem qgs {tg : List Nat} (h1 : PG X e (gB X.K [i] false)) (h2 : PGs X es (gNames tg)) (hs : (assignEach (e :: es) X.env).map (·.2) = assign e X.env :: (assignEach es X.env).map (·.2) := by rfl) : PGs X (e :: es) (gNames (i :: tg)) := pgs_cons h1 h2 hs
theorem qLc {elt tgx iter : Expr} {ifs : List Expr} {scope : Scope} {tg : List Nat} {tp : Bool} {di : DI} {dc : DT} {de : DE} (own : List (Str × Nat)) (vs : List Nat) (g : Gx X) (hi : JI Wp E X tgx iter di)
    (hg : ∀ (s : Shared) (H : Hp) (C : Addr) (cl : List (Str × Addr)) (fp : List Addr), PG (X.blk s H scope (compEnvC scope cl C X.env) fp) tgx (gB X.K tg tp))
    (ht : ∀ (s : Shared) (H : Hp) (C : Addr) (cl : List (Str × Addr)) (fp : List Addr), PTs (X.blk s H scope (compEnvC scope cl C X.env) fp) ifs (lT Wp X.K X.mg E dc))
    (he : ∀ (s : Shared) (H : Hp) (C : Addr) (cl : List (Str × Addr)) (fp : List Addr), JE Wp E (X.blk s H scope (compEnvC scope cl C X.env) fp) elt de)
    (ok : blkC X.N X.env.scope scope own = true) (sub : ∀ i ∈ tg, i ∈ own.map (·.2) := by decide) (hvs : own.map (·.2) = vs := by rfl) (hs : ∀ x, foldedSetIterable iter X.env x = pure x := by intro _; rfl) : JE Wp E X (.ListComp elt [⟨tgx, iter, ifs, 0⟩] scope pos) (dLc vs tg tp di dc de) := by
  subst hvs
  exact jLc g hi (blkOk_by ok) sub hg ht he hs
/-! ### statements -/
theorem qSet (i : Nat) (g : Gx X) (he : JE Wp E X e de) (hi : X.N[i]? = some x := by rfl) (hx : Loc X.env.scope x := by first | exact Or.inl rfl | exact Or.inr rfl) (hs : swapsWith e (some (.Name x p1)) pos.line X.env = pure false := by rfl)
    (hf : X.fn x = true ∨ X.env.scope.names.lookup x = some .local := by first | exact Or.inl rfl | exact Or.inr rfl) : JS Wp E X (.Assign [.Name x p1] e pos) (sSet i de) := sSet0 g hi hx he hs hf
theorem qSetLc {elt tgx iter : Expr} {ifs : List Expr} {scope : Scope} {tg : List Nat} {tp : Bool} {di : DI} {dc : DT} {de : DE} (i : Nat) (own : List (Str × Nat)) (vs : List Nat) (g : Gx X) (hi : JI Wp E X tgx iter di)
    (hg : ∀ (s : Shared) (H : Hp) (C : Addr) (cl : List (Str × Addr)) (fp : List Addr), PG (X.blk s H scope (compEnvC scope cl C X.env) fp) tgx (gB X.K tg tp))
    (ht : ∀ (s : Shared) (H : Hp) (C : Addr) (cl : List (Str × Addr)) (fp : List Addr), PTs (X.blk s H scope (compEnvC scope cl C X.env) fp) ifs (lT Wp X.K X.mg E dc))
    (he : ∀ (s : Shared) (H : Hp) (C : Addr) (cl : List (Str × Addr)) (fp : List Addr), JE Wp E (X.blk s H scope (compEnvC scope cl C X.env) fp) elt de) (ok : blkC X.N X.env.scope scope own = true)
    (hk : X.env.scope.kind = .function := by rfl) (hy : X.N[i]? = some y := by rfl) (hyl : X.env.scope.names.lookup y = some .local := by rfl) (hl : (p1.line == p2.line) = true := by rfl) (hna : (scope.names.any fun (n, k) => n == y && (k == .local || k == .cell)) = false := by rfl)
    (sub : ∀ i ∈ tg, i ∈ own.map (·.2) := by decide) (hvs : own.map (·.2) = vs := by rfl) (hs : ∀ x, foldedSetIterable iter X.env x = pure x := by intro _; rfl) :
    JS Wp E X (.Assign [.Name y p1] (.ListComp elt [⟨tgx, iter, ifs, 0⟩] scope p2) pos) (sSet i (dLc vs tg tp di dc de)) := by
  subst hvs
  exact sSetLc g hy hyl (sw_true hk hyl hl hna) hi (blkOk_by ok) sub hg ht he hs
theorem qDrop (he : JE Wp E X e de) (hs : swapsWith e none pos.line X.env = pure false := by rfl) : JS Wp E X (.Expr e pos) (sDrop de) := sDrop0 he hs
theorem qRetV (i : Nat) (he : JO Wp E X e (oSlot i)) : JS Wp E X (.Return (some e) pos) (sRetV i) := sRetV0 he
theorem qSetT {tgx : Expr} {tg : List Nat} (g : Gx X) (he : JE Wp E X e de) (hg : PG X tgx (gB X.K tg true)) (ht : tg.all (fun i => decide (i < X.N.length)) = true := by rfl) (hs : swapsWithSole [tgx] e pos.line X.env = pure false := by rfl) (hw : swappedStores [tgx] e X.env = pure none := by rfl)
    (h1 : (assignEach [tgx] X.env).map (·.2) = [assign tgx X.env] := by rfl) : JS Wp E X (.Assign [tgx] e pos) (sSetT tg de) := sSetT0 g he hg (fun i hi => of_decide_eq_true (List.all_eq_true.mp ht i hi)) hs hw h1
theorem qFor {tgx iter : Expr} {tg : List Nat} {tp : Bool} {di : DI} {body : List Stmt} {db : DS} (g : Gx X) (hp : PassesOwn (model X.prog X.w) X.A X.env X.xe) (hi : JI Wp E X tgx iter di) (hg : PG X tgx (gB X.K tg tp)) (hb : JB Wp E X body db)
    (ht : tg.all (fun i => decide (i < X.N.length)) = true := by rfl) (hs : ∀ x, foldedSetIterable iter X.env x = pure x := by intro _; rfl) : JS Wp E X (.For tgx iter body [] pos) (sFor tg tp di db) := sFor0 g hp hi hg (fun i hi => of_decide_eq_true (List.all_eq_true.mp ht i hi)) hb hs
theorem qPar {kt k2 : Nat} {pt pt2 : Pos} (i j : Nat) (g : Gx X) (ja : JE Wp E X ea da) (jb : JE Wp E X eb db) (hi : X.N[i]? = some x := by rfl) (hj : X.N[j]? = some y := by rfl) (hij : i ≠ j := by decide) (hx : X.env.scope.names.lookup x = some .local := by rfl) (hy : X.env.scope.names.lookup y = some .local := by rfl)
    (ha1 : starEach [ea, eb] X.env = (false, eval ea X.env) :: starEach [eb] X.env := by rfl) (ha2 : starEach [eb] X.env = (false, eval eb X.env) :: starEach [] X.env := by rfl)
    (hw : swappedStores [.Tuple [.Name x p1, .Name y p2] kt pt] (.Tuple [ea, eb] k2 pt2) X.env = pure (some [x, y]) := by rfl)
    (hs : swapsWithSole [.Tuple [.Name x p1, .Name y p2] kt pt] (.Tuple [ea, eb] k2 pt2) pos.line X.env = pure false := by rfl) :
    JS Wp E X (.Assign [.Tuple [.Name x p1, .Name y p2] kt pt] (.Tuple [ea, eb] k2 pt2) pos) (sPar i j da db) := sPar0 g hi hj hij hx hy ja jb ha1 ha2 hw hs
theorem qPar3 {z : Str} {kt k2 : Nat} {pt pt2 : Pos} (i j l : Nat) (g : Gx X) (ja : JE Wp E X ea da) (jb : JE Wp E X eb db) (jc : JE Wp E X ec dcc) (hi : X.N[i]? = some x := by rfl) (hj : X.N[j]? = some y := by rfl) (hl : X.N[l]? = some z := by rfl) (hij : i ≠ j := by decide) (hil : i ≠ l := by decide) (hjl : j ≠ l := by decide)
    (hx : X.env.scope.names.lookup x = some .local := by rfl) (hy : X.env.scope.names.lookup y = some .local := by rfl) (hz : X.env.scope.names.lookup z = some .local := by rfl)
    (ha1 : starEach [ea, eb, ec] X.env = (false, eval ea X.env) :: starEach [eb, ec] X.env := by rfl) (ha2 : starEach [eb, ec] X.env = (false, eval eb X.env) :: starEach [ec] X.env := by rfl) (ha3 : starEach [ec] X.env = (false, eval ec X.env) :: starEach [] X.env := by rfl)
    (hw : swappedStores [.Tuple [.Name x p1, .Name y p2, .Name z p3] kt pt] (.Tuple [ea, eb, ec] k2 pt2) X.env = pure (some [x, y, z]) := by rfl)
    (hs : swapsWithSole [.Tuple [.Name x p1, .Name y p2, .Name z p3] kt pt] (.Tuple [ea, eb, ec] k2 pt2) pos.line X.env = pure false := by rfl) :
    JS Wp E X (.Assign [.Tuple [.Name x p1, .Name y p2, .Name z p3] kt pt] (.Tuple [ea, eb, ec] k2 pt2) pos) (sPar3 i j l da db dcc) := sPar30 g hi hj hl hij hil hjl hx hy hz ja jb jc ha1 ha2 ha3 hw hs
/-- an exception leaves the def's loop as it leaves the def -/
theorem owns_cx {CX : CXT} {P : Program} {w : World} {K : PySem.W.Frag} {mg : Str → Option Value} {base : Heap} {N : List Str} {qual : Str} {scope : Scope} {f : Addr} {cd : Value} {A : Around} {outer : List Env} {s : Shared} {H : Hp} {E : XK} :
    PassesOwn (model P w) (cxOf CX P w K mg base N qual scope f cd A outer s H E).A (cxOf CX P w K mg base N qual scope f cd A outer s H E).env (cxOf CX P w K mg base N qual scope f cd A outer s H E).xe := passes_of (X := cxOf CX P w K mg base N qual scope f cd A outer s H E) rfl
end
end G9

/-! S4: sorted({n for ns in e for n in ns}), texts, over wants. -/
namespace G9
open PySem PySem.Spec L2 PyProof.Rows
/-- sorted of a set of texts -/
def rSetS (P : Program) (w : World) : List V → Hp → VK → Prop := fun vs H Q => ∃ (a : Addr) (l : List Str), vs = [V.ref a] ∧ H a = some (SetSO P w a l) ∧ l.length < 64 ∧
  ∀ ns p, sortedS ns = true → ns.Perm l → H p = none → Q (.ref p) (upd H p (.lst (ns.map V.str)))
theorem cr_setS {X : Cx} (hc : X.calm = true) : CallR X (.builtin "sorted") (rSetS X.prog X.w) := by
  intro pins s σ H vs us Q I r h
  obtain ⟨a, l, rfl, ha, h64, q⟩ := h
  rw [Vals.ref1 r]
  refine sorted_setS (I.hok a _ ha).1 (I.ok.hd hc) h64 fun z p out c ns k g o hp hg hi hs hm => ?_
  have hlen : (ns.map V.str).length ≤ sizeLine := by rw [List.length_map, hm.length_eq, sizeLine_eq]; omega
  have hn : H p = none := I.hok.fresh hp
  have J : Inv X pins σ (upd H p (.lst (ns.map V.str))) { s with heap := z.heap, gens := z.gens, drawn := z.drawn, toks := z.toks } :=
    I.call (ch := []) (Un.laid k hp hn) (I.hok.laid k hp ⟨hlen, out.toList, c, vals_of_strs hi, hg⟩) (by rw [g]; exact I.bare) (fun _ y => nomatch y)
  have e : z = { s with heap := z.heap, gens := z.gens, drawn := z.drawn, toks := z.toks } := by
    cases z; cases s; cases o; rfl
  rw [e]
  exact ⟨.ref p, _, J, rfl, q ns p hs hm hn⟩
theorem nodup_len {α : Type} [DecidableEq α] : ∀ {l m : List α}, l.Nodup → (∀ k ∈ l, k ∈ m) → l.length ≤ m.length
  | [], m, _, _ => Nat.zero_le _
  | k :: l, m, nd, h => by
    obtain ⟨n1, n2⟩ := List.nodup_cons.mp nd
    have hk := h k List.mem_cons_self
    have z := nodup_len (m := m.erase k) n2 fun j hj => (List.mem_erase_of_ne (fun z => n1 (by rw [← z]; exact hj))).mpr (h j (List.mem_cons_of_mem _ hj))
    rw [List.length_erase_of_mem hk] at z
    have := List.length_pos_of_mem hk
    rw [List.length_cons]
    omega
theorem insS_nd {k : Str} {l : List Str} (h : l.Nodup) : (insS k l).Nodup := by
  unfold insS
  split
  · exact h
  · rename_i n
    exact List.nodup_cons.mpr ⟨n, h⟩
theorem insS_mem {k j : Str} {l : List Str} : j ∈ insS k l ↔ j ∈ l ∨ j = k := by
  unfold insS
  split
  · rename_i n
    exact ⟨.inl, fun z => z.elim id fun e => by rw [e]; exact n⟩
  · rw [List.mem_cons]
    exact Or.comm
theorem upd_upd' {H : Hp} {p : Addr} {a b : HO} : upd (upd H p a) p b = upd H p b := by
  funext q
  by_cases e : q = p
  · subst e; rw [upd_same, upd_same]
  · rw [upd_ne e, upd_ne e, upd_ne e]
/-- tuples or lists of texts -/
def seqsD : List PyData → Option (List (List Str))
  | [] => some []
  | .tuple xs :: r => (strsD xs).bind fun ss => (seqsD r).map (ss :: ·)
  | .list xs :: r => (strsD xs).bind fun ss => (seqsD r).map (ss :: ·)
  | _ => none
def SqAt (K : PySem.W.Frag) (H : Hp) (v : V) (ss : List Str) : Prop := ∃ t, v = .ref t ∧ (SqT K H t (ss.map V.str) ∨ SqL K H t (ss.map V.str))
theorem sqL_fresh {K : PySem.W.Frag} {H : Hp} {D a : Addr} {o : HO} {xs : List V} (hD : H D = none) (h : SqL K H a xs) : SqL K (upd H D o) a xs := by
  rcases h with (h | ⟨u, h⟩) | h
  · exact .inl (.inl (by rw [upd_ne (ne_of_none h hD)]; exact h))
  · exact .inl (.inr ⟨u, by rw [upd_ne (ne_of_none h hD)]; exact h⟩)
  · exact .inr h
theorem seqs_paired {K : PySem.W.Frag} {H : Hp} {M : List Addr} : ∀ {vs : List V} {xs : List PyData} {nss : List (List Str)}, RepL K H M vs xs → seqsD xs = some nss → Paired (SqAt K H) vs nss
  | _, [], _, r, e => by cases e; cases r; exact .nil
  | _, x :: xs, nss, r, e => by
    have e : ∃ ys ss tt, (x = .tuple ys ∨ x = .list ys) ∧ strsD ys = some ss ∧ seqsD xs = some tt ∧ nss = ss :: tt := by
      cases x with
      | tuple ys =>
        have e : (strsD ys).bind (fun ss => (seqsD xs).map (ss :: ·)) = some _ := e
        cases q : strsD ys with
        | none => rw [q] at e; cases e
        | some ss =>
          rw [q] at e
          have e : (seqsD xs).map (ss :: ·) = some _ := e
          cases q2 : seqsD xs with
          | none => rw [q2] at e; cases e
          | some tt => rw [q2] at e; cases e; exact ⟨ys, ss, tt, .inl rfl, q, rfl, rfl⟩
      | list ys =>
        have e : (strsD ys).bind (fun ss => (seqsD xs).map (ss :: ·)) = some _ := e
        cases q : strsD ys with
        | none => rw [q] at e; cases e
        | some ss =>
          rw [q] at e
          have e : (seqsD xs).map (ss :: ·) = some _ := e
          cases q2 : seqsD xs with
          | none => rw [q2] at e; cases e
          | some tt => rw [q2] at e; cases e; exact ⟨ys, ss, tt, .inr rfl, q, rfl, rfl⟩
      | _ => cases e
    obtain ⟨ys, ss, tt, hx, q, q2, rfl⟩ := e
    cases r with
    | cons r0 r1 =>
      refine .cons ?_ (seqs_paired r1 q2)
      rcases hx with rfl | rfl
      · cases r0 with
        | tup ha rl => exact ⟨_, rfl, .inl (by rw [strsD_inv q] at rl; rw [← rl.strs]; exact ha)⟩
      · cases r0 with
        | lst hn ha rl => exact ⟨_, rfl, .inr (by rw [strsD_inv q] at rl; rw [← rl.strs]; exact SqL.of ha)⟩
theorem seqsD_of : ∀ ss : List (List Str), seqsD (ss.map tupS) = some ss
  | [] => rfl
  | s :: r => by
    show (strsD (s.map .str)).bind (fun ss => (seqsD (r.map tupS)).map (ss :: ·)) = _
    rw [seqsD_of r]
    have : ∀ ss : List Str, strsD (ss.map .str) = some ss := fun ss => by
      induction ss with
      | nil => rfl
      | cons a t ih => show (strsD (t.map .str)).map (a :: ·) = _; rw [ih]; rfl
    rw [this]
    rfl
def dUni (it : DE) : DE := ⟨it.m, fun ρ P R => it ρ (fun u _ ρ1 => ∃ (xs : List PyData) (nss : List (List Str)) (ks : List Str), (u = .d (.tuple xs) ∨ u = .d (.list xs)) ∧ seqsD xs = some nss ∧ (∀ n ∈ nss.flatten, n ∈ ks) ∧ ks.length < 64 ∧
  ∀ ms : List Str, sortedS ms = true → ms.Nodup → (∀ k, k ∈ ms ↔ k ∈ nss.flatten) → P (.d (.list (ms.map .str))) true ρ1) R⟩
theorem paired_get {α β : Type} {R : α → β → Prop} : ∀ {xs : List α} {ys : List β}, Paired R xs ys → ∀ (i : Nat) (x : α), xs[i]? = some x → ∃ y, ys[i]? = some y ∧ R x y
  | _, _, .nil, i, x, e => by simp at e
  | _, _, .cons r t, i, x, e => by
    cases i with
    | zero => simp at e; subst e; exact ⟨_, rfl, r⟩
    | succ i => exact paired_get t i x (by simpa using e)
theorem paired_len {α β : Type} {R : α → β → Prop} : ∀ {xs : List α} {ys : List β}, Paired R xs ys → xs.length = ys.length
  | _, _, .nil => rfl
  | _, _, .cons r t => by simp [paired_len t]
theorem take_flat {α : Type} {l : List (List α)} {i : Nat} {x : List α} (h : l[i]? = some x) : (l.take (i + 1)).flatten = (l.take i).flatten ++ x := by
  rw [List.take_add_one, h]
  simp
theorem uni_core {P : Program} {w : World} {K : PySem.W.Frag} {i j : Nat} {vs : List Nat} {σ : L2.St} {H1 : Hp} {xs : List V} {nss : List (List Str)} {ks : List Str} {Q : VK} {J : It} (hi : i < σ.length) (hj : j < σ.length) (hij : i ≠ j) (iv : i ∈ vs) (jv : j ∈ vs)
    (hx : Paired (SqAt K H1) xs nss) (hks : ∀ n ∈ nss.flatten, n ∈ ks) (h64 : ks.length < 64)
    (hJ : ∀ H, (∀ a ys, SqT K H1 a ys → SqT K H a ys) → (∀ D o, H = upd H1 D o → H1 D = none → (J.stop xs.length H) ∧ ∀ n, n < xs.length → J.go n H ∧ ∀ x H', J.yld n H x H' → H' = H ∧ xs[n]? = some x))
    (h : ∀ D l, H1 D = none → l.Nodup → (∀ k, k ∈ l ↔ k ∈ nss.flatten) → Q (.ref D) (upd H1 D (SetSO P w D l))) :
    ∀ D, H1 D = none → ∃ U : Nat → Nat → Hp → Prop, (∃ m, U 0 m (upd H1 D (SetSO P w D []))) ∧ ∀ n m H, U n m H →
  (J.stop n H ∧ Q (.ref D) H) ∨ (J.go n H ∧ ∃ Nx : Hp → Prop, (∀ H', Nx H' → ∃ m', m' < m ∧ U (n + 1) m' H') ∧ ∀ x H', J.yld n H x H' → gB K [i] false x (wipe σ vs) H' fun σ2 H2 => wipe σ2 vs = wipe σ vs ∧ tYes σ2 H2 fun b H3 =>
    if b = true then iSeq K (tVar i) σ2 H3 fun J1 H4 => ∃ U1 : Nat → Nat → Hp → Prop, (∃ m, U1 0 m H4) ∧ ∀ n1 k H, U1 n1 k H →
      (J1.stop n1 H ∧ Nx H) ∨ (J1.go n1 H ∧ ∃ Ny : Hp → Prop, (∀ H', Ny H' → ∃ k', k' < k ∧ U1 (n1 + 1) k' H') ∧ ∀ x H', J1.yld n1 H x H' → gB K [j] false x (wipe σ2 [j]) H' fun σ3 H5 => wipe σ3 [j] = wipe σ2 [j] ∧ tYes σ3 H5 fun b H6 =>
        if b = true then tVar j σ3 H6 fun y H7 => ∃ z l, y = .str z ∧ H7 D = some (SetSO P w D l) ∧ l.length + 1 < scanBound ∧ Ny (upd H7 D (SetSO P w D (insS z l))) else Ny H6)
    else Nx H3) := by
  intro D hD
  have kp : ∀ {o : HO} {a : Addr} {ys : List V}, SqT K H1 a ys → SqT K (upd H1 D o) a ys := fun h => (Kp.fresh (M := []) hD).sqT h
  have bnd : ∀ {l : List Str}, l.Nodup → (∀ k, k ∈ l → k ∈ nss.flatten) → l.length + 1 < scanBound := fun nd hm => by
    have z := nodup_len (m := ks) nd fun k hk => hks k (hm k hk)
    have z2 : 65 < scanBound := by decide
    omega
  have hlen := paired_len hx
  refine ⟨fun n m H => m = xs.length - n ∧ n ≤ xs.length ∧ ∃ l, H = upd H1 D (SetSO P w D l) ∧ l.Nodup ∧ ∀ k, k ∈ l ↔ k ∈ (nss.take n).flatten, ⟨xs.length, by simp, Nat.zero_le _, [], rfl, List.nodup_nil, fun k => by simp⟩, ?_⟩
  rintro n m H ⟨rfl, hn, l, rfl, nd, hm⟩
  obtain ⟨st, gos⟩ := hJ _ (fun a ys q => kp q) D _ rfl hD
  by_cases hlt : n < xs.length
  · obtain ⟨go, yl⟩ := gos n hlt
    refine .inr ⟨go, fun H' => ∃ l, H' = upd H1 D (SetSO P w D l) ∧ l.Nodup ∧ ∀ k, k ∈ l ↔ k ∈ (nss.take (n + 1)).flatten, fun H' q => ⟨xs.length - (n + 1), by omega, rfl, hlt, q⟩, fun x H' y => ?_⟩
    obtain ⟨rfl, hx0⟩ := yl x H' y
    obtain ⟨ss, hss, t, rfl, ht⟩ := paired_get hx n x hx0
    have kl : ∀ {o : HO} {a : Addr} {ys : List V}, SqL K H1 a ys → SqL K (upd H1 D o) a ys := fun h => sqL_fresh hD h
    have li : i < (wipe σ vs).length := by rw [wipe_length]; exact hi
    have e2 : ∀ {q : Nat} {v : V} {τ : L2.St} {us : List Nat}, q ∈ us → wipe (τ.set q (some v)) us = wipe τ us := fun {q v τ us} hq => by
      refine List.ext_getElem? fun a => ?_
      rw [wipe_at, wipe_at, List.length_set]
      by_cases c : a ∈ us ∧ a < τ.length
      · rw [if_pos c, if_pos c]
      · rw [if_neg c, if_neg c]
        by_cases e : q = a
        · subst e
          have lt : ¬ q < τ.length := fun z => c ⟨hq, z⟩
          rw [List.getElem?_eq_none (by rw [List.length_set]; omega), List.getElem?_eq_none (by omega)]
        · rw [List.getElem?_set_ne e]
    have ww : ∀ {us : List Nat}, wipe (wipe σ us) us = wipe σ us := fun {us} => by
      refine List.ext_getElem? fun a => ?_
      rw [wipe_at, wipe_length, wipe_at]
      by_cases c : a ∈ us ∧ a < σ.length
      · rw [if_pos c, if_pos c]
      · rw [if_neg c, if_neg c]
    refine ⟨by rw [e2 iv, ww], ?_⟩
    unfold tYes
    dsimp only
    rw [if_pos rfl]
    rcases ht with ht | ht
    · refine ⟨.ref t, by rw [List.getElem?_set_self li], .inr (.inl ⟨t, ss.map V.str, rfl, kp ht, fun _ => ?_⟩)⟩
      refine ⟨fun n1 k H => k = ss.length - n1 ∧ n1 ≤ ss.length ∧ ∃ l, H = upd H1 D (SetSO P w D l) ∧ l.Nodup ∧ ∀ k, k ∈ l ↔ k ∈ (nss.take n).flatten ++ ss.take n1, ⟨ss.length, by simp, Nat.zero_le _, l, rfl, nd, fun k => by simpa using hm k⟩, ?_⟩
      rintro n1 k H ⟨rfl, hn1, l1, rfl, nd1, hm1⟩
      by_cases hlt1 : n1 < ss.length
      · have g1 : ss[n1]? = some ss[n1] := by simp [hlt1]
        generalize ss[n1] = z at g1
        have gv : (ss.map V.str)[n1]? = some (.str z) := by rw [List.getElem?_map, g1]; rfl
        refine .inr ⟨⟨ss.map V.str, .str z, kp ht, gv⟩, fun H' => ∃ l, H' = upd H1 D (SetSO P w D l) ∧ l.Nodup ∧ ∀ k, k ∈ l ↔ k ∈ (nss.take n).flatten ++ ss.take (n1 + 1), fun H' q => ⟨ss.length - (n1 + 1), by omega, rfl, hlt1, q⟩, fun x H' y => ?_⟩
        obtain ⟨rfl, y2⟩ := y
        have y3 := y2 _ (kp ht)
        rw [gv] at y3
        cases y3
        refine ⟨e2 List.mem_cons_self |>.trans ?_, ?_⟩
        · refine List.ext_getElem? fun a => ?_
          rw [wipe_at, wipe_length, wipe_at]
          by_cases c : a ∈ [j] ∧ a < ((wipe σ vs).set i (some (V.ref t))).length
          · rw [if_pos c, if_pos c]
          · rw [if_neg c, if_neg c]
        · dsimp only
          rw [if_pos rfl]
          refine ⟨.str z, by rw [List.getElem?_set_self (by rw [wipe_length, List.length_set, wipe_length]; exact hj)], z, l1, rfl, upd_same, bnd nd1 fun k hk => ?_, insS z l1, upd_upd', insS_nd nd1, fun k => ?_⟩
          · have hk := (hm1 k).mp hk
            rw [← List.take_append_drop (n + 1) nss, List.flatten_append, take_flat hss]
            rcases List.mem_append.mp hk with q | q
            · exact List.mem_append_left _ (List.mem_append_left _ q)
            · exact List.mem_append_left _ (List.mem_append_right _ (List.mem_of_mem_take q))
          · rw [insS_mem, hm1 k, List.take_add_one, g1]
            simp [or_assoc]
      · have e : n1 = ss.length := by omega
        subst e
        refine .inl ⟨⟨ss.map V.str, kp ht, by simp⟩, l1, rfl, nd1, fun k => ?_⟩
        rw [hm1 k, take_flat hss, List.take_length]
    · refine ⟨.ref t, by rw [List.getElem?_set_self li], .inl ⟨t, ss.map V.str, rfl, kl ht, fun _ => ?_⟩⟩
      refine ⟨fun n1 k H => k = ss.length - n1 ∧ n1 ≤ ss.length ∧ ∃ l, H = upd H1 D (SetSO P w D l) ∧ l.Nodup ∧ ∀ k, k ∈ l ↔ k ∈ (nss.take n).flatten ++ ss.take n1, ⟨ss.length, by simp, Nat.zero_le _, l, rfl, nd, fun k => by simpa using hm k⟩, ?_⟩
      rintro n1 k H ⟨rfl, hn1, l1, rfl, nd1, hm1⟩
      by_cases hlt1 : n1 < ss.length
      · have g1 : ss[n1]? = some ss[n1] := by simp [hlt1]
        generalize ss[n1] = z at g1
        have gv : (ss.map V.str)[n1]? = some (.str z) := by rw [List.getElem?_map, g1]; rfl
        refine .inr ⟨⟨ss.map V.str, .str z, kl ht, gv⟩, fun H' => ∃ l, H' = upd H1 D (SetSO P w D l) ∧ l.Nodup ∧ ∀ k, k ∈ l ↔ k ∈ (nss.take n).flatten ++ ss.take (n1 + 1), fun H' q => ⟨ss.length - (n1 + 1), by omega, rfl, hlt1, q⟩, fun x H' y => ?_⟩
        obtain ⟨rfl, y2⟩ := y
        have y3 := y2 _ (kl ht)
        rw [gv] at y3
        cases y3
        refine ⟨e2 List.mem_cons_self |>.trans ?_, ?_⟩
        · refine List.ext_getElem? fun a => ?_
          rw [wipe_at, wipe_length, wipe_at]
          by_cases c : a ∈ [j] ∧ a < ((wipe σ vs).set i (some (V.ref t))).length
          · rw [if_pos c, if_pos c]
          · rw [if_neg c, if_neg c]
        · dsimp only
          rw [if_pos rfl]
          refine ⟨.str z, by rw [List.getElem?_set_self (by rw [wipe_length, List.length_set, wipe_length]; exact hj)], z, l1, rfl, upd_same, bnd nd1 fun k hk => ?_, insS z l1, upd_upd', insS_nd nd1, fun k => ?_⟩
          · have hk := (hm1 k).mp hk
            rw [← List.take_append_drop (n + 1) nss, List.flatten_append, take_flat hss]
            rcases List.mem_append.mp hk with q | q
            · exact List.mem_append_left _ (List.mem_append_left _ q)
            · exact List.mem_append_left _ (List.mem_append_right _ (List.mem_of_mem_take q))
          · rw [insS_mem, hm1 k, List.take_add_one, g1]
            simp [or_assoc]
      · have e : n1 = ss.length := by omega
        subst e
        refine .inl ⟨⟨ss.map V.str, kl ht, by simp⟩, l1, rfl, nd1, fun k => ?_⟩
        rw [hm1 k, take_flat hss, List.take_length]
  · have e : n = xs.length := by omega
    subst e
    refine .inl ⟨st, h D l hD nd fun k => ?_⟩
    rw [hm k, hlen, List.take_length]
section
variable {Wp : Wk → Prop} {E : XK} {X : Cx} {ea : Expr} {da : DE} {pos p2 p3 q0 q1 q2 q3 : Pos} {y1 y2 y3 y4 : Str} {scope : Scope}
theorem jUni (g : Gx X) (i j : Nat) {own : List (Str × Nat)} (ja : JE Wp E X ea da) (ok : BlkOk X.N X.env.scope scope own) (hij : i ≠ j) (iv : i ∈ own.map (·.2)) (jv : j ∈ own.map (·.2))
    (h1 : ∀ (s : Shared) (H : Hp) (C : Addr) (cl : List (Str × Addr)) (fp : List Addr), PG (X.blk s H scope (compEnvC scope cl C X.env) fp) (.Name y1 q1) (gB X.K [i] false))
    (h2 : ∀ (s : Shared) (H : Hp) (C : Addr) (cl : List (Str × Addr)) (fp : List Addr), PE (X.blk s H scope (compEnvC scope cl C X.env) fp) (.Name y2 q2) (tVar i))
    (h3 : ∀ (s : Shared) (H : Hp) (C : Addr) (cl : List (Str × Addr)) (fp : List Addr), PG (X.blk s H scope (compEnvC scope cl C X.env) fp) (.Name y3 q3) (gB X.K [j] false))
    (h4 : ∀ (s : Shared) (H : Hp) (C : Addr) (cl : List (Str × Addr)) (fp : List Addr), PE (X.blk s H scope (compEnvC scope cl C X.env) fp) (.Name y4 q0) (tVar j))
    (hm : X.mg "sorted" = none) (hg : Gl X "sorted") (hs : starEach [sc2 (.Name y4 q0) (.Name y1 q1) ea (.Name y3 q3) (.Name y2 q2) [] [] scope p3] X.env = (false, eval (sc2 (.Name y4 q0) (.Name y1 q1) ea (.Name y3 q3) (.Name y2 q2) [] [] scope p3) X.env) :: starEach [] X.env)
    (hpl : (backTo pos (starEach [] X.env)).any (·.1) = false) (f1 : ∀ x, foldedSetIterable ea X.env x = pure x) :
    JE Wp E X (.Call (.Name "sorted" p2) [sc2 (.Name y4 q0) (.Name y1 q1) ea (.Name y3 q3) (.Name y2 q2) [] [] scope p3] [] pos) (dUni da) := by
  refine (pe_callB (cr_setS g.calm) hg hm (by rfl) (pa_cons (pe_sc2 g.calm g.nd ok (us := [j]) (wi := iSeq X.K (tVar i)) (fun a z => by rw [List.mem_singleton.mp z]; exact jv) (pi_seq ja) h1 (fun _ _ _ _ _ => pts_nil) (fun s H C cl fp => pi_seq (h2 s H C cl fp)) h3 (fun _ _ _ _ _ => pts_nil) h4 f1) pa_nil hs) (by decide) (by decide) hs hpl).weakI fun pins s σ H Q I ⟨W, B, M0, ρ, M, P, R, w, G, d, x, h⟩ => ?_
  have li : i < σ.length := by rw [I.len]; exact own_lt ok iv
  have lj : j < σ.length := by rw [I.len]; exact own_lt ok jv
  refine lE_go w G d x fun u fr ρ1 v H1 M1 c r => ?_
  obtain ⟨xs, nss, ks, hu, e, hk, h64, c⟩ := c
  have fin : ∀ D l, H1 D = none → l.Nodup → (∀ k, k ∈ l ↔ k ∈ nss.flatten) → rSetS X.prog X.w [V.ref D] (upd H1 D (SetSO X.prog X.w D l)) Q := fun D l hD nd hm => by
    refine ⟨D, l, rfl, upd_same, Nat.lt_of_le_of_lt (nodup_len (m := ks) nd fun k z => hk k ((hm k).mp z)) h64, fun ns p a1 a2 hp => ?_⟩
    exact h _ _ _ _ _ _ (c ns a1 (a2.nodup_iff.mpr nd) fun k => a2.mem_iff.trans (hm k)) (Res.new (r.gd.grow hD) hp (RepL.of_strs ns))
  rcases hu with rfl | rfl
  · cases (r.val rfl) with
    | tup ha q =>
      rename_i a vs
      refine .inr (.inl ⟨a, vs, rfl, ha, fun _ => ?_⟩)
      refine uni_core (P := X.prog) (w := X.w) (Q := fun v H2 => rSetS X.prog X.w [v] H2 Q) (J := Itt X.K a) li lj hij iv jv (seqs_paired q e) hk h64 (fun H kp D o hH hD => ⟨⟨vs, kp _ _ ha, Nat.le_refl _⟩, fun n hn => ⟨⟨vs, vs[n], kp _ _ ha, by simp [hn]⟩, fun x H' y => ?_⟩⟩) fin
      obtain ⟨e1, e2⟩ := y
      exact ⟨e1, e2 vs (kp _ _ ha)⟩
  · cases (r.val rfl) with
    | lst hn0 ha q =>
      rename_i a vs
      have hq : ∀ {H : Hp} {D : Addr} {o : HO}, H = upd H1 D o → H1 D = none → SqL X.K H a vs := fun e0 hD => by
        refine SqL.of ?_
        rw [e0, upd_ne fun z => by rw [z, hD] at ha; cases ha]
        exact ha
      refine .inl ⟨a, vs, rfl, SqL.of ha, fun _ => ?_⟩
      refine uni_core (P := X.prog) (w := X.w) (Q := fun v H2 => rSetS X.prog X.w [v] H2 Q) (J := Itl X.K a) li lj hij iv jv (seqs_paired q e) hk h64 (fun H kp D o hH hD => ⟨⟨vs, hq hH hD, Nat.le_refl _⟩, fun n hn => ⟨⟨vs, vs[n], hq hH hD, by simp [hn]⟩, fun x H' y => ?_⟩⟩) fin
      obtain ⟨e1, e2⟩ := y
      exact ⟨e1, e2 vs (hq hH hD)⟩
theorem qTV (i : Nat) (hN : X.N[i]? = some y1 := by rfl) (hv : Vis X.env.scope y1 := by first | exact Or.inl rfl | exact Or.inr (Or.inl rfl) | exact Or.inr (Or.inr rfl)) (hd : (y1 == ("__debug__" : Str)) = false := by decide)
    (hcd : (y1 == ("__classdict__" : Str)) = false := by decide) : PE X (.Name y1 pos) (tVar i) := pe_var hN hv hd hcd
theorem qUni (i j : Nat) (own : List (Str × Nat)) (g : Gx X) (hm : X.mg "sorted" = none) (ja : JE Wp E X ea da)
    (h1 : ∀ (s : Shared) (H : Hp) (C : Addr) (cl : List (Str × Addr)) (fp : List Addr), PG (X.blk s H scope (compEnvC scope cl C X.env) fp) (.Name y1 q1) (gB X.K [i] false))
    (h2 : ∀ (s : Shared) (H : Hp) (C : Addr) (cl : List (Str × Addr)) (fp : List Addr), PE (X.blk s H scope (compEnvC scope cl C X.env) fp) (.Name y2 q2) (tVar i))
    (h3 : ∀ (s : Shared) (H : Hp) (C : Addr) (cl : List (Str × Addr)) (fp : List Addr), PG (X.blk s H scope (compEnvC scope cl C X.env) fp) (.Name y3 q3) (gB X.K [j] false))
    (h4 : ∀ (s : Shared) (H : Hp) (C : Addr) (cl : List (Str × Addr)) (fp : List Addr), PE (X.blk s H scope (compEnvC scope cl C X.env) fp) (.Name y4 q0) (tVar j)) (ok : blkC X.N X.env.scope scope own = true) (hij : i ≠ j := by decide) (iv : i ∈ own.map (·.2) := by decide) (jv : j ∈ own.map (·.2) := by decide)
    (hg : Gl X "sorted" := by rfl) (hs : starEach [sc2 (.Name y4 q0) (.Name y1 q1) ea (.Name y3 q3) (.Name y2 q2) [] [] scope p3] X.env = (false, eval (sc2 (.Name y4 q0) (.Name y1 q1) ea (.Name y3 q3) (.Name y2 q2) [] [] scope p3) X.env) :: starEach [] X.env := by rfl)
    (hpl : (backTo pos (starEach [] X.env)).any (·.1) = false := by rfl) (f1 : ∀ x, foldedSetIterable ea X.env x = pure x := by intro _; rfl) :
    JE Wp E X (.Call (.Name "sorted" p2) [sc2 (.Name y4 q0) (.Name y1 q1) ea (.Name y3 q3) (.Name y2 q2) [] [] scope p3] [] pos) (dUni da) := jUni g i j ja (blkOk_by ok) hij iv jv h1 h2 h3 h4 hm hg hs hpl f1
end
end G9

/-! S6: list comprehensions with two clauses, over wants. -/
namespace G9
open PySem PySem.Spec L2 PyProof.Rows
/-- turns that each may add to what is gathered -/
def lc2L (f : PyData → En → List PyData → (List PyData → En → Prop) → Prop) : List PyData → En → List PyData → (List PyData → En → Prop) → Prop
  | [], ρ, acc, Q => Q acc ρ
  | x :: r, ρ, acc, Q => f x ρ acc fun acc' ρ' => lc2L f r ρ' acc' Q
def dLc2 (vs tg : List Nat) (tp : Bool) (it : DI) (c : DT) (us tg1 : List Nat) (tp1 : Bool) (it1 : DI) (c1 : DT) (e : DE) : DE := ⟨it.m + 4096 * (c.m + (it1.m + 4096 * (c1.m + e.m))), fun ρ P R => it ρ (fun xs ρ1 => xs.length ≤ 4096 ∧
  lc2L (fun x ρ' acc k => bindT tg tp x (wipeE ρ' vs) fun ρ2 => c ρ2 (fun b ρ3 => if b = true then it1 ρ3 (fun ys ρ4 => ys.length ≤ 4096 ∧
      lcL (fun y ρ' k => bindT tg1 tp1 y (wipeE ρ' us) fun ρ2 => c1 ρ2 (fun b ρ3 => if b = true then e ρ3 (fun u _ ρ4 => ∃ d, u = .d d ∧ k (some d) ρ4) X0 else k none ρ3) X0) ys ρ4 acc k) X0 else k acc ρ3) X0)
    xs ρ1 [] fun ds ρ' => P (.d (.list ds)) true (backE ρ1 ρ' vs)) R⟩
section
variable {W : Wk} {K : PySem.W.Frag} {B : List Bs} {M0 : List Addr} {ρ : En} {σ : L2.St} {H : Hp} {M : List Addr}
/-- a fenced list that nobody owns is written: it is new to a base, or the base knows that it may change -/
theorem Gd.writeG (G : Gd W K B M0 ρ σ H M) {a : Addr} {vs ws : List V} (hm : a ∈ M0) (hw : a ∉ W.ad) (ha : H a = some (.lst vs)) (hb : ∀ b ∈ B, b.h a = none ∨ a ∈ b.k) : Gd W K B M0 ρ σ (upd H a (.lst ws)) M := by
  have kp : Kp M H (upd H a (.lst ws)) := Kp.store (G.sub a hm) ha
  refine ⟨kp.sm G.sm, W.st _ _ _ hw G.wok, G.wad, G.sub, fun b z => kp.liv b (G.liv b z), G.len, fun b hb' => ?_, fun i e h => ?_, G.sep⟩
  · obtain ⟨z1, z2, z3, z4⟩ := G.bs b hb'
    refine ⟨?_, z2, z3, z4⟩
    rcases hb b hb' with z | z
    · have ne : ∀ {x : Addr} {o : HO}, b.h x = some o → x ≠ a := fun y q => by rw [q, z] at y; cases y
      exact ⟨fun x o n y => by rw [upd_ne (ne y)]; exact z1.same x o n y, fun x xs y => by rw [upd_ne (ne y)]; exact z1.tup x xs y, fun x o u y => by rw [upd_ne (ne y)]; exact z1.frz x o u y, fun x y => kp.liv x (z1.liv x y)⟩
    · exact z1.trans (Kp.store z ha)
  · obtain ⟨v, y1, y2⟩ := G.ent i e h
    refine ⟨v, y1, y2.move kp (fun a z => .inl z) fun b ho ev z n => ⟨z, fun o' y => ?_⟩⟩
    have hb : b ≠ a := fun q => n (by rw [q]; exact hm)
    rw [upd_ne hb]; exact y
theorem wipe_sub {σ : L2.St} {vs us : List Nat} (h : ∀ j ∈ us, j ∈ vs) : L2.wipe (L2.wipe σ us) vs = L2.wipe σ vs := by
  refine List.ext_getElem? fun j => ?_
  rw [wipe_at, wipe_length, wipe_at, wipe_at]
  by_cases c : j ∈ vs ∧ j < σ.length
  · rw [if_pos c, if_pos c]
  · rw [if_neg c, if_neg c]
    by_cases d : j ∈ us ∧ j < σ.length
    · exact absurd ⟨h j d.1, d.2⟩ c
    · rw [if_neg d]
theorem wipeE_sub {ρ : En} {vs us : List Nat} (h : ∀ j ∈ us, j ∈ vs) : wipeE (wipeE ρ us) vs = wipeE ρ vs := by
  refine List.ext_getElem? fun j => ?_
  rw [wipeE_at, wipeE_length, wipeE_at, wipeE_at]
  by_cases c : j ∈ vs ∧ j < ρ.length
  · rw [if_pos c, if_pos c]
  · rw [if_neg c, if_neg c]
    by_cases d : j ∈ us ∧ j < ρ.length
    · exact absurd ⟨h j d.1, d.2⟩ c
    · rw [if_neg d]
theorem wipe_eq2 {σ σ2 : L2.St} {vs tg : List Nat} (hl : σ2.length = (L2.wipe σ vs).length) (hs : ∀ j, j ∉ tg → σ2[j]? = (L2.wipe σ vs)[j]?) (sub : ∀ i ∈ tg, i ∈ vs) : L2.wipe σ2 vs = L2.wipe σ vs := wipe_eq hl hs sub
end
section
variable {Wp : Wk → Prop} {E : XK} {X : Cx} {tg tg1 : List Nat} {tp tp1 : Bool} {di di1 : DI} {dc dc1 : DT} {de : DE}
theorem lc2_go {W : Wk} {B : List Bs} {M0 : List Addr} {ρ : En} {σ : L2.St} {H : Hp} {M : List Addr} {P : U → Bool → En → Prop} {R : RK} {Q : VK} {K : PySem.W.Frag} {mg : Str → Option Value} {vs us : List Nat} (w : WP Wp W (di.m + 4096 * (dc.m + (di1.m + 4096 * (dc1.m + de.m))))) (G : Gd W K B M0 ρ σ H M)
    (d : dLc2 vs tg tp di dc us tg1 tp1 di1 dc1 de ρ P R) (x : XOk W K mg E M0 B R)
    (sub : ∀ i ∈ tg, i ∈ vs) (sub1 : ∀ i ∈ tg1, i ∈ us) (uv : ∀ i ∈ us, i ∈ vs) (hl : ∀ i ∈ tg, i < σ.length) (hl1 : ∀ i ∈ tg1, i < σ.length)
    (h : ∀ u fr ρ' v H' M', P u fr ρ' → Res (W.up (di.m + 4096 * (dc.m + (di1.m + 4096 * (dc1.m + de.m))))) K B M0 ρ' σ H' M' v u fr → Q v H') : tLc2 (lI Wp K mg E di) (gB K tg tp) (lT Wp K mg E dc) (lI Wp K mg E di1) (gB K tg1 tp1) (lT Wp K mg E dc1) (lE Wp K mg E de) vs us σ H Q := by
  have sz : sizeLine = 16777216 := sizeLine_eq
  generalize hTI : dc1.m + de.m = TI at w h
  generalize hTO : dc.m + (di1.m + 4096 * TI) = TO at w h
  refine ⟨W, B, M0, ρ, M, _, R, w.le (Nat.le_add_right _ _), G, d, x, fun xs ρ1 J H1 M1 c0 hxs G1 wk D hD => ?_⟩
  obtain ⟨lx, c⟩ := c0
  have hB : ∀ b ∈ (⟨H1, M1, M1⟩ : Bs) :: B, b.h D = none := fun b hb => by
    rcases List.mem_cons.mp hb with rfl | hb
    · exact hD
    · exact G1.old hb hD
  have hDW : D ∉ W.ad := fun z => (W.up di.m).liv _ G1.wok D z hD
  generalize hf1 : (fun (y : PyData) (ρ' : En) (k : Option PyData → En → Prop) => bindT tg1 tp1 y (wipeE ρ' us) fun ρ2 => dc1 ρ2 (fun b ρ3 => if b = true then de ρ3 (fun u _ ρ4 => ∃ d, u = .d d ∧ k (some d) ρ4) X0 else k none ρ3) X0) = f1 at c
  have hf1x : ∀ (y : PyData) (ρ' : En) (k : Option PyData → En → Prop), f1 y ρ' k = bindT tg1 tp1 y (wipeE ρ' us) fun ρ2 => dc1 ρ2 (fun b ρ3 => if b = true then de ρ3 (fun u _ ρ4 => ∃ d, u = .d d ∧ k (some d) ρ4) X0 else k none ρ3) X0 := fun y ρ' k => by rw [← hf1]
  generalize hf : (fun (x : PyData) (ρ' : En) (acc : List PyData) (k : List PyData → En → Prop) => bindT tg tp x (wipeE ρ' vs) fun ρ2 => dc ρ2 (fun b ρ3 => if b = true then di1 ρ3 (fun ys ρ4 => ys.length ≤ 4096 ∧ lcL f1 ys ρ4 acc k) X0 else k acc ρ3) X0) = f at c
  have hfx : ∀ (x : PyData) (ρ' : En) (acc : List PyData) (k : List PyData → En → Prop), f x ρ' acc k = bindT tg tp x (wipeE ρ' vs) fun ρ2 => dc ρ2 (fun b ρ3 => if b = true then di1 ρ3 (fun ys ρ4 => ys.length ≤ 4096 ∧ lcL f1 ys ρ4 acc k) X0 else k acc ρ3) X0 := fun x ρ' acc k => by rw [← hf]
  let Iv : Nat → Hp → Prop := fun i H => ∃ ρ' M acc ds, Gd (W.up (di.m + i * TO)) K (⟨H1, M1, M1⟩ :: B) (D :: M0) (wipeE ρ' vs) (L2.wipe σ vs) H M ∧ H D = some (.lst acc) ∧ RepL K H M acc ds ∧ acc.length ≤ i * 4096 ∧ ρ'.length = σ.length ∧
    lc2L f (xs.drop i) ρ' ds fun ds ρ' => P (.d (.list ds)) true (backE ρ1 ρ' vs)
  refine ⟨fun i m H => m = xs.length - i ∧ i ≤ xs.length ∧ Iv i H, ⟨xs.length, by simp, Nat.zero_le _, ρ1, D :: M1, [], [], ?_, upd_same, .nil, Nat.zero_le _, G1.len, c⟩, ?_⟩
  · exact ((G1.base.fence hD).wiped vs).mono (Nat.le_add_right _ _)
  rintro i m H2 ⟨rfl, hi, ρ', M2, acc, ds, G2, hDv, rl, hacc, hlen, c⟩
  obtain ⟨wk1, wk2⟩ := wk M2 H2 G2.kp G2.nw
  have hD0 : ∀ {j : Nat} {ρ : En} {σ : L2.St} {H : Hp} {M : List Addr} {B : List Bs}, Gd (W.up j) K B (D :: M0) ρ σ H M → Gd (W.up j) K (⟨H, M.filter (fun a => decide (a ≠ D)), M⟩ :: B) (D :: M0) ρ σ H M := fun {j ρ σ H M B} G => by
    refine G.baseK (fun a z => List.mem_filter.mpr ⟨G.sub a (G.wad a z), decide_eq_true (fun e => hDW (by rw [← e]; exact z))⟩) fun a o => ?_
    obtain ⟨q1, q2, _⟩ := G.owned o
    exact List.mem_filter.mpr ⟨q1, decide_eq_true (fun e => q2 (by rw [e]; exact List.mem_cons_self))⟩
  have notin : ∀ {M : List Addr}, D ∉ M.filter (fun a => decide (a ≠ D)) := fun z => of_decide_eq_true (List.mem_filter.mp z).2 rfl
  have carry : ∀ {j : Nat} {ρ : En} {σ : L2.St} {H H' : Hp} {M M' : List Addr} {B : List Bs} {acc : List V} {ds : List PyData}, Gd (W.up j) K (⟨H, M.filter (fun a => decide (a ≠ D)), M⟩ :: B) (D :: M0) ρ σ H' M' → H D = some (.lst acc) → RepL K H M acc ds → H' D = some (.lst acc) ∧ RepL K H' M' acc ds :=
    fun G q r => ⟨G.kp.same D _ notin q, r.move (G.kp.more fun a z => (List.mem_filter.mp z).1) G.nw⟩
  by_cases hlt : i < xs.length
  · have hx : xs[i]? = some xs[i] := by simp [hlt]
    rw [List.drop_eq_getElem_cons hlt] at c
    generalize xs[i] = xi at hx c
    obtain ⟨go, yl⟩ := wk1 i xi hx
    refine .inr ⟨go, Iv (i + 1), fun H' p' => ⟨xs.length - (i + 1), by omega, rfl, hlt, p'⟩, fun v H3 y => ?_⟩
    obtain ⟨gr, rv⟩ := yl v H3 y
    have rv := rv M2 fun _ z => z
    have G3 := G2.grown gr
    have rl3 : RepL K H3 M2 acc ds := rl.keep gr.kp
    have hD3 : H3 D = some (.lst acc) := (gr.kp (M := [])).same D _ (by simp) hDv
    have c : f xi ρ' ds (fun ds' ρ'' => lc2L f (xs.drop (i + 1)) ρ'' ds' _) := c
    rw [hfx] at c
    refine bind_go G3 rv c (fun j hj => by rw [wipe_length]; exact hl j hj) fun ρ2 σ2 e1 e2 c G4 => ⟨wipe_eq e1 e2 sub, ?_⟩
    have ws := wipe_eq e1 e2 sub
    have tot : di.m + i * TO + TO ≤ di.m + 4096 * TO := by
      have : i * TO + TO ≤ 4096 * TO := by rw [← Nat.succ_mul]; exact Nat.mul_le_mul_right _ (by omega)
      omega
    have tO : dc.m + (di1.m + 4096 * TI) = TO := hTO
    refine ⟨_, _, D :: M0, ρ2, M2, _, X0, w.up (by omega), hD0 G4, c, XOk.none, fun k ρ3 H4 M4 c G5 => ?_⟩
    have G5 := G5.cast
    obtain ⟨hD4, rl4⟩ := carry G5 hD3 rl3
    have G5 := G5.tail
    cases k with
    | false =>
      refine ⟨ρ3, M4, acc, ds, ?_, hD4, rl4, by omega, ?_, c⟩
      · rw [← ws]
        exact (G5.wiped vs).mono (by rw [Nat.succ_mul]; omega)
      · rw [G5.len, e1, wipe_length]
    | true =>
      refine ⟨_, _, D :: M0, ρ3, M4, _, X0, w.up (by omega), hD0 G5, c, XOk.none, fun ys ρ4 J1 H5 M5 c0 hys G6 wi => ?_⟩
      obtain ⟨ly, c⟩ := c0
      have G6 := G6.cast
      obtain ⟨hD5, rl5⟩ := carry G6 hD4 rl4
      have G6 := G6.tail
      have len2 : σ2.length = σ.length := by rw [e1, wipe_length]
      let Iw : Nat → Hp → Prop := fun j H => ∃ ρ' M acc ds, Gd (W.up (di.m + i * TO + dc.m + di1.m + j * TI)) K (⟨H5, M5, M5⟩ :: ⟨H1, M1, M1⟩ :: B) (D :: M0) (wipeE ρ' us) (L2.wipe σ2 us) H M ∧ H D = some (.lst acc) ∧ RepL K H M acc ds ∧ acc.length ≤ i * 4096 + j ∧ ρ'.length = σ.length ∧
        lcL f1 (ys.drop j) ρ' ds fun ds' ρ'' => lc2L f (xs.drop (i + 1)) ρ'' ds' fun ds ρ' => P (.d (.list ds)) true (backE ρ1 ρ' vs)
      refine ⟨fun j m H => m = ys.length - j ∧ j ≤ ys.length ∧ Iw j H, ⟨ys.length, by simp, Nat.zero_le _, ρ4, M5, acc, ds, ?_, hD5, rl5, by omega, by rw [G6.len, len2], c⟩, ?_⟩
      · exact (G6.base.wiped us).mono (Nat.le_add_right _ _)
      rintro j m H6 ⟨rfl, hj, ρ5, M6, acc2, ds2, G7, hD6, rl6, hacc2, hlen2, c⟩
      obtain ⟨wi1, wi2⟩ := wi M6 H6 G7.kp G7.nw
      by_cases hlt2 : j < ys.length
      · have hy : ys[j]? = some ys[j] := by simp [hlt2]
        rw [List.drop_eq_getElem_cons hlt2] at c
        generalize ys[j] = yj at hy c
        obtain ⟨go2, yl2⟩ := wi1 j yj hy
        refine .inr ⟨go2, Iw (j + 1), fun H' p' => ⟨ys.length - (j + 1), by omega, rfl, hlt2, p'⟩, fun v2 H7 y2 => ?_⟩
        obtain ⟨gr2, rv2⟩ := yl2 v2 H7 y2
        have rv2 := rv2 M6 fun _ z => z
        have G8 := G7.grown gr2
        have rl7 : RepL K H7 M6 acc2 ds2 := rl6.keep gr2.kp
        have hD7 : H7 D = some (.lst acc2) := (gr2.kp (M := [])).same D _ (by simp) hD6
        have c : f1 yj ρ5 (fun o ρ'' => match o with | some y => lcL f1 (ys.drop (j + 1)) ρ'' (ds2 ++ [y]) _ | none => lcL f1 (ys.drop (j + 1)) ρ'' ds2 _) := c
        rw [hf1x] at c
        refine bind_go G8 rv2 c (fun j hj => by rw [wipe_length, len2]; exact hl1 j hj) fun ρ6 σ3 e3 e4 c G9 => ⟨wipe_eq e3 e4 sub1, ?_⟩
        have ws2 := wipe_eq e3 e4 sub1
        have tI : dc1.m + de.m = TI := hTI
        have jt : j * TI + TI ≤ 4096 * TI := by rw [← Nat.succ_mul]; exact Nat.mul_le_mul_right _ (by omega)
        refine ⟨_, _, D :: M0, ρ6, M6, _, X0, w.up (by omega), hD0 G9, c, XOk.none, fun k ρ7 H8 M8 c G10 => ?_⟩
        have G10 := G10.cast
        obtain ⟨hD8, rl8⟩ := carry G10 hD7 rl7
        have G10 := G10.tail
        cases k with
        | false =>
          refine ⟨ρ7, M8, acc2, ds2, ?_, hD8, rl8, by omega, ?_, c⟩
          · rw [← ws2]
            exact (G10.wiped us).mono (by rw [Nat.succ_mul]; omega)
          · rw [G10.len, e3, wipe_length, len2]
        | true =>
          refine ⟨_, _, D :: M0, ρ7, M8, _, X0, w.up (by omega), hD0 G10, c, XOk.none, fun u fr ρ8 y H9 M9 c r => ?_⟩
          have r := r.cast
          obtain ⟨dd, rfl, c⟩ := c
          obtain ⟨hD9, rl9⟩ := carry r.gd hD8 rl8
          have G11 := r.gd.tail
          have ry : Rep K H9 M9 y dd := r.rep
          have kp : Kp M9 H9 (upd H9 D (.lst (acc2 ++ [y]))) := Kp.store (G11.sub D List.mem_cons_self) hD9
          refine ⟨acc2, hD9, by omega, ρ8, M9, acc2 ++ [y], ds2 ++ [dd], ?_, upd_same, (rl9.append (.cons ry .nil)).keep kp, by rw [List.length_append, List.length_singleton]; omega, by rw [G11.len, e3, wipe_length, len2], c⟩
          rw [← ws2]
          refine ((G11.writeG List.mem_cons_self hDW hD9 fun b hb => ?_).wiped us).mono (by rw [Nat.succ_mul]; omega)
          rcases List.mem_cons.mp hb with rfl | hb
          · exact .inr (G6.sub D List.mem_cons_self)
          · exact .inl (hB b hb)
      · have e : j = ys.length := by omega
        subst e
        rw [List.drop_length] at c
        refine .inl ⟨wi2 _ (Nat.le_refl _), ρ5, M6, acc2, ds2, ?_, hD6, rl6, by omega, hlen2, c⟩
        have ww : L2.wipe (L2.wipe σ2 us) vs = L2.wipe σ vs := by rw [wipe_sub uv, ws]
        rw [← ww, ← wipeE_sub (ρ := ρ5) uv]
        refine (G7.tail.wiped vs).mono ?_
        have : ys.length * TI ≤ 4096 * TI := Nat.mul_le_mul_right _ ly
        rw [Nat.succ_mul]
        omega
  · have e : i = xs.length := by omega
    subst e
    rw [List.drop_length] at c
    refine .inl ⟨wk2 _ (Nat.le_refl _), h _ _ _ _ _ (M2.filter (fun a => decide (a ≠ D))) c ?_⟩
    have G2 := G2.mono (Nat.add_le_add_left (Nat.mul_le_mul_right TO lx) di.m)
    have G7 : Gd (W.up (di.m + 4096 * TO)) K (⟨H1, M1, M1⟩ :: B) (D :: M0) (backE ρ1 ρ' vs) σ H2 M2 := by
      refine G2.reEnv (by rw [backE_length]; exact hlen) fun j e hj => ?_
      rcases backE_some _ _ _ _ _ hj with ⟨h1, h2⟩ | ⟨h1, h2⟩
      · left
        rw [wipeE_at, wipe_at, if_neg (fun z => h1 z.1), if_neg (fun z => h1 z.1)]
        exact ⟨h2, rfl⟩
      · right
        obtain ⟨v, q1, q2⟩ := G1.ent j e h2
        unfold EntOk at q2
        rw [if_neg (by rw [h1]; simp)] at q2
        exact ⟨h1, v, q1, q2.move G2.kp G2.nw⟩
    have own : ∀ a, Owns (backE ρ1 ρ' vs) σ a → a ∈ M2 ∧ a ≠ D := fun a o => by
      obtain ⟨q1, q2, _⟩ := G7.owned o
      exact ⟨q1, fun e => q2 (by rw [e]; exact List.mem_cons_self)⟩
    have G8 := (G7.unfence G1.wad).tail
    have m0D : ∀ a ∈ M0, a ≠ D := fun a z e => G1.liv a (G1.sub a z) (by rw [e]; exact hD)
    have fl : ∀ a, a ∈ M2.filter (fun a => decide (a ≠ D)) ↔ a ∈ M2 ∧ a ≠ D := fun a => by rw [List.mem_filter, decide_eq_true_iff]
    have G9 := G8.reM (M' := M2.filter (fun a => decide (a ≠ D))) (fun a z => ((fl a).mp z).1) (fun a z => (fl a).mpr ⟨G8.sub a z, m0D a z⟩) fun a o => (fl a).mpr (own a o)
    refine ⟨G9, ?_⟩
    rw [if_pos rfl]
    refine ⟨D, acc, ds, rfl, rfl, hDv, rl.less fun a z => ?_, fun z => ((fl D).mp z).2 rfl, G8.reM (fun a z => ?_) (fun a z => ?_) fun a o => ?_, fun b hb => hB b (List.mem_cons_of_mem _ hb)⟩
    · rcases List.mem_cons.mp z with rfl | z
      · exact G2.sub _ List.mem_cons_self
      · exact ((fl a).mp z).1
    · rcases List.mem_cons.mp z with rfl | z
      · exact G2.sub _ List.mem_cons_self
      · exact ((fl a).mp z).1
    · exact List.mem_cons_of_mem _ ((fl a).mpr ⟨G8.sub a z, m0D a z⟩)
    · exact List.mem_cons_of_mem _ ((fl a).mpr (own a o))
theorem qLc2 {elt tgx iter tgy iter1 : Expr} {ifs ifs1 : List Expr} {scope : Scope} {pos : Pos} (own : List (Str × Nat)) (vs us : List Nat) (g : Gx X) (hi : JI Wp E X tgx iter di)
    (hg : ∀ (s : Shared) (H : Hp) (C : Addr) (cl : List (Str × Addr)) (fp : List Addr), PG (X.blk s H scope (compEnvC scope cl C X.env) fp) tgx (gB X.K tg tp))
    (ht : ∀ (s : Shared) (H : Hp) (C : Addr) (cl : List (Str × Addr)) (fp : List Addr), PTs (X.blk s H scope (compEnvC scope cl C X.env) fp) ifs (lT Wp X.K X.mg E dc))
    (hi1 : ∀ (s : Shared) (H : Hp) (C : Addr) (cl : List (Str × Addr)) (fp : List Addr), JI Wp E (X.blk s H scope (compEnvC scope cl C X.env) fp) tgy iter1 di1)
    (hg1 : ∀ (s : Shared) (H : Hp) (C : Addr) (cl : List (Str × Addr)) (fp : List Addr), PG (X.blk s H scope (compEnvC scope cl C X.env) fp) tgy (gB X.K tg1 tp1))
    (ht1 : ∀ (s : Shared) (H : Hp) (C : Addr) (cl : List (Str × Addr)) (fp : List Addr), PTs (X.blk s H scope (compEnvC scope cl C X.env) fp) ifs1 (lT Wp X.K X.mg E dc1))
    (he : ∀ (s : Shared) (H : Hp) (C : Addr) (cl : List (Str × Addr)) (fp : List Addr), JE Wp E (X.blk s H scope (compEnvC scope cl C X.env) fp) elt de)
    (ok : blkC X.N X.env.scope scope own = true) (sub : ∀ i ∈ tg, i ∈ own.map (·.2) := by decide) (sub1 : ∀ i ∈ tg1, i ∈ us := by decide) (uv : ∀ i ∈ us, i ∈ own.map (·.2) := by decide) (hvs : own.map (·.2) = vs := by rfl)
    (hs : ∀ x, foldedSetIterable iter X.env x = pure x := by intro _; rfl) (hs1 : ∀ env x, foldedSetIterable iter1 env x = pure x := by intro _ _; rfl) :
    JE Wp E X (.ListComp elt [⟨tgx, iter, ifs, 0⟩, ⟨tgy, iter1, ifs1, 0⟩] scope pos) (dLc2 vs tg tp di dc us tg1 tp1 di1 dc1 de) := by
  subst hvs
  have bk := blkOk_by ok
  exact (pe_lc2 g.calm g.nd hi bk uv hg ht hi1 hg1 ht1 he hs hs1).weakI fun pins s σ H Q I ⟨W, B, M0, ρ, M, P, R, w, G, d, x, h⟩ => lc2_go w G d x sub sub1 uv (fun i hi => by rw [I.len]; exact own_lt bk (sub i hi)) (fun i hi => by rw [I.len]; exact own_lt bk (uv i (sub1 i hi))) h
end
end G9

/-! P2: t[::-1] of a tuple. -/
namespace G9
open PySem PySem.Spec L2 PyProof.Rows
section
variable {prog : Program} {w : World} {A : Around} {E : Value → Shared → Prop} {s : Shared}
theorem rev_adjust (n : Nat) : Builtin.Slice.sliceAdjust none none (-1) (n : Int) = ((n : Int) - 1, -1) := by
  unfold Builtin.Slice.sliceAdjust
  simp
theorem rev_places (n : Nat) : Builtin.Slice.slicePlaces ((n : Int) - 1) (-1) (-1) = n := by
  unfold Builtin.Slice.slicePlaces
  simp
  omega
theorem fm_congr {α β : Type} {f g : α → Option β} : ∀ {l : List α}, (∀ a ∈ l, f a = g a) → l.filterMap f = l.filterMap g
  | [], _ => rfl
  | a :: l, h => by
    have e := fm_congr (l := l) fun b hb => h b (List.mem_cons_of_mem _ hb)
    rw [List.filterMap_cons, List.filterMap_cons, h a List.mem_cons_self, e]
theorem rev_pick (xs : Array Value) : ((List.range xs.size).filterMap fun (k : Nat) => xs[(((xs.size : Nat) : Int) - 1 + (k : Int) * -1).toNat]?) = xs.toList.reverse := by
  have h : ∀ k, k < xs.size → xs[(((xs.size : Nat) : Int) - 1 + (k : Int) * -1).toNat]? = xs.toList.reverse[k]? := fun k hk => by
    have e : (((xs.size : Nat) : Int) - 1 + (k : Int) * -1).toNat = xs.size - 1 - k := by omega
    rw [e, List.getElem?_reverse (by simpa using hk), ← Array.getElem?_toList, Array.length_toList]
  refine List.ext_getElem? fun j => ?_
  have : ((List.range xs.size).filterMap fun (k : Nat) => xs[(((xs.size : Nat) : Int) - 1 + (k : Int) * -1).toNat]?) = (List.range xs.size).filterMap fun k => xs.toList.reverse[k]? := by
    refine fm_congr fun k hk => h k (by simpa using hk)
  rw [this]
  have hl : xs.size = xs.toList.reverse.length := by simp
  rw [hl]
  generalize xs.toList.reverse = ys
  congr 1
  induction ys with
  | nil => rfl
  | cons y ys ih =>
    rw [List.length_cons, List.range_succ_eq_map, List.filterMap_cons_some (by rfl : (y :: ys)[0]? = some y), List.filterMap_map]
    congr 1
theorem tup_rev {t sl : Addr} {items : Array Value} {vl vu vs : Value} {Q : Value → Shared → Prop} (ht : IsTup s.heap t items) (hs : s.heap.IsSliceOf sl vl vu vs) (pl : IsPart vl none) (pu : IsPart vu none) (ps : IsPart vs (some (-1)))
    (h : Q (.ref s.heap.objs.size) { s with heap := s.heap.push { cls := .type "tuple", data := .seq items.toList.reverse.toArray } }) (hsz : items.size ≤ sizeLine) : wpAny (model prog w) A (getItem (.ref t) (.ref sl)) Q E s := by
  have big : sizeOk (.seq items.toList.reverse.toArray) := by
    show items.toList.reverse.toArray.size ≤ sizeLine
    simpa using hsz
  obtain ⟨os, hos, hcs, hds⟩ := id hs
  have hTs : s.TypeIs (.ref sl) "slice" := ⟨os, hos, hcs⟩
  unfold getItem
  try with_reducible refine wpAny_holding ?_
  first | refine wpAny_bind (wpAny_pure ?_) | skip
  refine wpAny_bind (wpAny_sequenceKey ht.typeIs (by decide) ?_)
  refine wpAny_bind (wpAny_callSpecial?_slot (name := Str.ofString "__getitem__") ht.typeIs PyProof.Rows.slot_tuple_getitem
    (wpAny_call_entry PyProof.Rows.slot_tuple_getitem ht.typeIs entry_tuple_getitem ?_ (args_tuple_getitem _ _)))
  show wpAny _ _ (Builtin.Tuple.tupleItemsOf (.ref t) >>= _) _ _ s
  refine wpAny_bind (tupleItemsOf_ ht ?_)
  refine wpAny_bind (wpAny_typeOf hTs ?_)
  rw [if_pos (by decide)]
  refine wpAny_bind (m := Builtin.Slice.sliceApplied (.ref sl) (pure (items.size : Int))) ?_
  unfold Builtin.Slice.sliceApplied Builtin.Slice.sliceFields
  refine wpAny_bind (wpAny_bind (wpAny_field hos hds (x := vl) rfl (wpAny_bind (wpAny_field hos hds (x := vu) rfl (wpAny_bind (wpAny_field hos hds (x := vs) rfl (wpAny_pure ?_)))))))
  refine wpAny_bind (HT.slicePart_ ps ?_)
  show wpAny _ _ (if ((-1 : Int) == 0) = true then _ else _) _ _ s
  rw [if_neg (by decide)]
  refine wpAny_bind (HT.slicePart_ pl (wpAny_bind (HT.slicePart_ pu (wpAny_bind (wpAny_pure ?_)))))
  show wpAny _ _ (match Builtin.Slice.sliceAdjust none none (-1) ((items.size : Nat) : Int) with | (lo, hi) => pure (lo, (-1 : Int), Builtin.Slice.slicePlaces lo hi (-1))) _ _ s
  rw [rev_adjust]
  show wpAny _ _ (pure (((items.size : Nat) : Int) - 1, (-1 : Int), Builtin.Slice.slicePlaces (((items.size : Nat) : Int) - 1) (-1) (-1))) _ _ s
  rw [rev_places]
  refine wpAny_pure ?_
  show wpAny _ _ (if ((((items.size : Nat) : Int) - 1) == 0 && (-1 : Int) == 1 && items.size == items.size) = true then _ else _) _ _ s
  rw [if_neg (by rw [Bool.and_eq_true, Bool.and_eq_true]; rintro ⟨⟨_, q⟩, _⟩; exact absurd q (by decide)), rev_pick]
  first
    | exact wpAny_bind (m := Builtin.Tuple.tupleExact _) (wpAny_newObj_type (wpAny_pure ⟨_, rfl, wpAny_pure h⟩) big)
    | exact wpAny_bind (m := Builtin.Tuple.tupleExact _) (wpAny_newObj_type (wpAny_bind (wpAny_pure (wpAny_pure ⟨_, rfl, wpAny_pure h⟩))) big)
    | exact wpAny_bind (wpAny_bind (m := Builtin.Tuple.tupleExact _) (wpAny_newObj_type (wpAny_pure (wpAny_pure ⟨_, rfl, wpAny_pure h⟩)) big))
    | exact wpAny_bind (wpAny_bind (m := Builtin.Tuple.tupleExact _) (wpAny_newObj_type (wpAny_pure ⟨_, rfl, wpAny_pure h⟩) big))
end
section
variable {Wp : Wk → Prop} {E : XK} {X : Cx} {ea : Expr} {a : DO} {pos p1 p2 p3 : Pos} {k : Nat}
/-- xs[::-1], a list or a tuple -/
def tRevA (K : PySem.W.Frag) (te : TE) : TE := fun σ H Q => te σ H fun x H1 => ∃ a xs, x = .ref a ∧ ((SqL K H1 a xs ∧ ∀ p, H1 p = none → Q (.ref p) (upd H1 p (.lst xs.reverse))) ∨ (SqT K H1 a xs ∧ ∀ p, H1 p = none → Q (.ref p) (upd H1 p (.tup xs.reverse))))
theorem pe_revA {e : Expr} {te : TE} (he : PE X e te) : PE X (.Subscript e (.Slice none none (some (.UnaryOp .USub (.Constant (.int 1) k p1) p2)) p3) pos) (tRevA X.K te) := by
  refine ⟨fun pins s σ H Q I h => Subscript_ (thn (he.run pins s σ H _ I h) fun v s1 ⟨x, H1, I1, r1, a, xs, ex, q⟩ => ?_)⟩
  subst ex
  cases r1
  have step : PO X (some (.UnaryOp .USub (.Constant (.int 1) k p1) p2)) (tPart (tUn (rU fun i => .int (-i)) (tC (.int 1)))) := po_some (pe_un un_neg pe_int)
  refine wpAny_Slice (thn (po_none.run pins s1 σ H1 (fun o H2 => o = none ∧ H2 = H1) I1 ⟨rfl, rfl⟩) fun vl s2 ⟨l, H2, I2, pl, el, e2⟩ => ?_)
  subst el e2
  refine thn (po_none.run pins s2 σ H2 (fun o H3 => o = none ∧ H3 = H2) I2 ⟨rfl, rfl⟩) fun vu s3 ⟨u, H3, I3, pu, eu, e3⟩ => ?_
  subst eu e3
  refine thn (step.run pins s3 σ H3 (fun o H4 => o = some (-1) ∧ H4 = H3) I3 ⟨1, rfl, -1, rfl, rfl, rfl⟩) fun vs s4 ⟨o, H4, I4, ps, eo, e4⟩ => ?_
  subst eo e4
  have I5 : Inv X pins σ H4 { s4 with heap := s4.heap.push { cls := .type "slice", data := .fields #[vl, vu, vs] } } := I4.kept (t' := s4.toks) fun b ob q => Heap.get?_push_of_some _ q
  have fr := I5.hok.fresh (Nat.le_refl _)
  show wpAny (model X.prog X.w) X.A (subscriptTail e (.Slice none none (some (.UnaryOp .USub (.Constant (.int 1) k p1) p2)) p3) (.ref a) (.ref s4.heap.objs.size)) (EP X pins σ Q) X.xe { s4 with heap := s4.heap.push { cls := .type "slice", data := .fields #[vl, vu, vs] } }
  rcases q with ⟨hx, q⟩ | ⟨hx, q⟩
  · obtain ⟨its, r, ht, hz⟩ := I5.list hx
    have hlen := r.length
    refine tail_any (ops := [.ref a, .ref s4.heap.objs.size]) ht.isList.typeIs (PySem.slot_list_getitem.lookup) ?_ (by with_unfolding_all rfl)
    refine wpAny_getItem_list_slice ht.isList (Heap.IsSliceOf.new _ vl vu vs) pl pu ps (by decide) ?_ (by rw [List.size_toArray]; omega)
    rw [PySem.W.krv_pick]
    exact ⟨.ref _, _, I5.laid (t' := s4.toks) (o := .lst xs.reverse) (fun b ob q => Heap.get?_push_of_some _ q) (Nat.le_refl _) ⟨by rw [List.length_reverse]; exact hz, _, 0, r.reverse, Heap.get?_push_size _ rfl⟩, rfl, q _ fr⟩
  · obtain ⟨its, r, ht, hz⟩ := I5.tuple hx
    have hlen := r.length
    refine tail_any (ops := [.ref a, .ref s4.heap.objs.size]) ht.typeIs (PyProof.Rows.slot_tuple_getitem.lookup) ?_ (by with_unfolding_all rfl)
    refine tup_rev ht (Heap.IsSliceOf.new _ vl vu vs) pl pu ps ?_ (by rw [List.size_toArray]; omega)
    exact ⟨.ref _, _, I5.laid (t' := s4.toks) (o := .tup xs.reverse) (fun b ob q => Heap.get?_push_of_some _ q) (Nat.le_refl _) ⟨by rw [List.length_reverse]; exact hz, _, r.reverse, IsTup.new _ _⟩, rfl, q _ fr⟩
end
end G9

/-! P3: enumerate(t) of a tuple. -/
namespace G9
open PySem PySem.Spec L2 PyProof.Rows
theorem enum_new1 {v : Value} {o : Obj} {Hh : Heap → Prop} (Bg : Begins v o Hh) :
    Meets (Builtin.«enumerate.__new__» ⟨[.type "enumerate", v], []⟩) (fun _ R s => Hh s.heap ∧
      R (.ok (.ret (.ref (s.heap.push o).objs.size))) { s with heap := (s.heap.push o).push { cls := .type "enumerate", data := .fields #[.none, .bool false, .ref s.heap.objs.size, rawInt 0, .none, .none] } }) :=
  .of_wp fun prog w A R s h => by
    obtain ⟨hp, g, d, tk, os⟩ := s
    obtain ⟨h1, h⟩ := h
    have hsub := sub_enumerate
    have q1 : ∀ {A' : Around} {E : Value → Shared → Prop} {Q : Value → Shared → Prop}, Q (.ref hp.objs.size) ⟨hp.push o, g, d, tk, os⟩ → wpAny (model prog w) A' (pyIter v) Q E ⟨hp, g, d, tk, os⟩ :=
      fun q => Bg.iter prog w _ _ ⟨hp, g, d, tk, os⟩ _ h1 q
    wp_walk using q1
    refine wpAny_stack_any fun st => wpAny_pure ?_
    split
    · rename_i c _ _ _ _ _
      cases (c == Value.type "enumerate")
      · wp_walk using q1
        exact ⟨_, rfl, h⟩
      · wp_walk using q1
        exact ⟨_, rfl, h⟩
    · wp_walk using q1
      exact ⟨_, rfl, h⟩
section
variable {prog : Program} {w : World} {A : Around} {E : Value → Shared → Prop} {s : Shared}
theorem enum_tuple {l : Addr} {items : Array Value} {Q : Value → Shared → Prop} (hL : s.heap.IsTuple l items)
    (h : ∀ h', IsEnum h' (s.heap.objs.size + 1) s.heap.objs.size 0 .none → h'.IsTupleIter s.heap.objs.size l 0 → (∀ b o, s.heap.get? b = some o → h'.get? b = some o) → Q (.ref (s.heap.objs.size + 1)) { s with heap := h' }) :
    wpAny (model prog w) A (call (.type "enumerate") [.ref l]) Q E s := by
  refine callType_new F.called_enumerate (by decide) (F.typeCall_enumerate_1 _) (F.newCall_enumerate_1 _) (fun obj => F.args_object_init_2 obj _) F.entry_enumerate_new (enum_new1 (begins_tuple l items)) ⟨hL, ?_⟩
  have hz : (s.heap.push { cls := .type "tuple_iterator", data := .fields #[.ref l, .int 0 0] }).objs.size = s.heap.objs.size + 1 := Heap.size_push ..
  show _ ∧ _
  rw [hz]
  have he : IsEnum ((s.heap.push { cls := .type "tuple_iterator", data := .fields #[.ref l, .int 0 0] }).push
      { cls := .type "enumerate", data := .fields #[.none, .bool false, .ref s.heap.objs.size, rawInt 0, .none, .none] }) (s.heap.objs.size + 1) s.heap.objs.size 0 .none := by
    have := Heap.get?_push_size (s.heap.push { cls := .type "tuple_iterator", data := .fields #[.ref l, .int 0 0] })
      (o := { cls := .type "enumerate", data := .fields #[.none, .bool false, .ref s.heap.objs.size, rawInt 0, .none, .none] }) rfl
    rw [hz] at this; exact this
  exact ⟨⟨_, he, rfl⟩, h _ he ⟨_, Heap.get?_push_of_some _ (Heap.get?_push_size _ rfl), rfl, rfl⟩ fun b o x => Heap.get?_push_of_some _ (Heap.get?_push_of_some _ x)⟩
end
/-- the tuple at a, each item in a new pair -/
def IteT (K : PySem.W.Frag) (a : Addr) : It :=
  ⟨fun i H => ∃ (xs : List V) (x : V), SqT K H a xs ∧ xs[i]? = some x, fun i H v H' => ∃ T x, v = .ref T ∧ H T = none ∧ H' = upd H T (.tup [.int (i : Nat), x]) ∧ ∀ xs, SqT K H a xs → xs[i]? = some x, fun i H => ∃ xs : List V, SqT K H a xs ∧ xs.length ≤ i⟩
theorem turn_enumT {P : Program} {w : World} {K : PySem.W.Frag} {elts : List Expr} {kk : Nat} {tpos : Pos} (a e it : Addr) :
    Turn P w K (.Tuple elts kk tpos) (IteT K a) [e, it] e (fun i h => (∃ old, IsEnum h e it ((i : Nat) : Int) old) ∧ h.IsTupleIter it a i ∧ e ≠ it ∧ a ≠ it ∧ a ≠ e) where
  mem := by simp
  obj := fun i h st b hb => by
    obtain ⟨⟨old, he⟩, ⟨o, ho, hc, hd⟩, _⟩ := st
    rcases (by simpa using hb : b = e ∨ b = it) with rfl | rfl
    · exact ⟨_, he, fun v q => nomatch q⟩
    · exact ⟨o, ho, fun v q => by rw [hd] at q; cases q⟩
  keep := fun i h h' st k => let ⟨⟨old, he⟩, hi, hne⟩ := st; ⟨⟨old, k e (by simp) _ he⟩, hi.at fun o q => k it (by simp) o q, hne⟩
  item := by
    intro X hP hw hK hc i pins s σ H E I hf st hg
    subst hP hw hK
    obtain ⟨⟨old, he⟩, hit, hne, ha1, ha2⟩ := st
    obtain ⟨xs, x, hq, hx⟩ := hg
    obtain ⟨its, rv, p, hz⟩ := I.tuple hq
    obtain ⟨u, hu, ru⟩ := rv.get hx
    have hel : e < s.heap.objs.size := Heap.lt_size he
    have hil : it < s.heap.objs.size := by obtain ⟨_, q, _⟩ := hit; exact Heap.lt_size q
    have hlt : i < its.toArray.size := by
      rw [List.size_toArray]
      exact (List.getElem?_eq_some_iff.mp hu).1
    have D := Draws.tuple (prog := X.prog) (w := X.w) (A := X.A.in1) (I.ok.hd hc) it a ha1 its.toArray
    refine wpAny_pyNext_enum_itemC D he ⟨hit, show s.heap.IsTuple a its.toArray from p⟩ hlt hne (by simp [hne, Ne.symm ha2]) fun x' h' tk hP ho hs' hT hsz hk => ?_
    have ex : x' = u := by
      have hP : its.toArray[i]? = some x' := hP
      have e2 : its[i]? = some x' := by simpa using hP
      rw [hu] at e2; cases e2; rfl
    subst ex
    refine ⟨_, rfl, wpAny_letOwnedTupleGo_enum (s := { s with heap := h', toks := tk + 1 }) ho fun h'' he' sb => ?_⟩
    have hT2 : h''.get? s.heap.objs.size = some { cls := .type "tuple", data := .seq #[.int i tk, x'] } := (sb.2 _ (Nat.ne_of_gt hel)).trans hT
    have new : ObjOk X.prog X.w (upd H s.heap.objs.size (.tup [.int (i : Nat), x])) h'' s.heap.objs.size (.tup [.int (i : Nat), x]) :=
      ⟨by show 2 ≤ sizeLine; decide, [.int i tk, x'], .cons ⟨_, rfl⟩ (.cons ru .nil), ⟨_, hT2, rfl, _, rfl⟩⟩
    have I1 : Inv X pins σ (upd H s.heap.objs.size (.tup [.int (i : Nat), x])) { s with heap := h'', toks := tk + 1 } :=
      I.turnedNew (ch := [e, it]) (fun b ob hb q => (sb.2 b (fun z => hb (by simp [z]))).trans (hk b ob (fun z => hb (by simp [z])) (fun z => hb (by simp [z])) q)) hf (Nat.le_refl _) new
    refine ⟨.ref s.heap.objs.size, _, I1, rfl, ⟨_, x, rfl, I.hok.fresh (Nat.le_refl _), rfl, fun ys hy => by rw [I.tuple_inj hy hq]; exact hx⟩, ⟨⟨x', ?_⟩, hs'.1.at fun o q => (sb.2 it (Ne.symm hne)).trans q, hne, ha1, ha2⟩, fun b hb => ?_⟩
    · have e1 : ((i + 1 : Nat) : Int) = (i : Int) + 1 := by omega
      rw [e1]; exact he'
    · have hb' : b < s.heap.objs.size := by
        rcases (by simpa using hb : b = e ∨ b = it) with rfl | rfl
        · exact hel
        · exact hil
      rw [upd_ne (Nat.ne_of_lt hb')]
      exact (hf b hb).1
  done := by
    intro X hP hw hK hc i pins s σ H E I hf st hg
    subst hP hw hK
    obtain ⟨⟨old, he⟩, hit, hne, ha1, ha2⟩ := st
    obtain ⟨xs, hq, hx⟩ := hg
    obtain ⟨its, rv, p, hz⟩ := I.tuple hq
    obtain ⟨f0, f1, f2, f3, f4, f5⟩ := hf it (by simp)
    have hl := rv.length
    have hT : s.TypeIs (.ref e) "enumerate" := ⟨_, he, rfl⟩
    unfold pyNext
    refine wpAny_bind (wpAny_attempt (wpAny_callSpecial?_slot (name := Str.ofString "__next__") hT PySem.F.slot_enumerate_next
      (wpAny_call_entry PySem.F.slot_enumerate_next hT PySem.F.entry_enumerate_next ?_ (PySem.F.args_enumerate_next_1 _))))
    show wpAny _ _ (field (.ref e) 2 >>= _) _ _ _
    refine wpAny_bind (wpAny_field he rfl (x := .ref it) rfl ?_)
    have nx : its.toArray[i]? = none := by
      rw [← Array.getElem?_toList]
      exact List.getElem?_eq_none (by simp; omega)
    refine wpAny_bind (wpAny_nextOf_tuple_end (I.ok.hd hc) hit (show s.heap.IsTuple a its.toArray from p) nx fun h' ex hs' hex => ?_)
    obtain ⟨oe, hoe, hce⟩ := hex
    refine wpAny_bind (wpAny_isInstance (T := "StopIteration") (b := true) ⟨oe, hoe, hce⟩ isSubtype_stop ?_)
    exact wpAny_pure ⟨rfl, I.turned (t' := s.toks) (fun b o hb q => hs' b o hb q) f0 f1 f3 f4 f5⟩
  self := fun A i s Q E st h => let ⟨⟨_, he⟩, _⟩ := st; wpAny_pyIter_enum he h
/-- enumerate(xs), a list or a tuple -/
def iEnumA (K : PySem.W.Frag) (ta : TA) : TI := fun σ H R => ta σ H fun vs H1 => ∃ a xs, vs = [.ref a] ∧ ((SqL K H1 a xs ∧ (xs.length ≤ sizeLine → R (Ite K a) H1)) ∨ (SqT K H1 a xs ∧ (xs.length ≤ sizeLine → R (IteT K a) H1)))
theorem pi_enumA {X : Cx} {e : Expr} {ta : TA} {p pos tpos : Pos} {elts : List Expr} {kk : Nat} (hg : Gl X "enumerate") (hm : X.mg "enumerate" = none) (ha : PA X [e] ta) (hs : starEach [e] X.env = [(false, eval e X.env)]) :
    PI X (.Tuple elts kk tpos) (.Call (.Name "enumerate" p) [e] [] pos) (iEnumA X.K ta) := by
  refine ⟨fun pins s σ H R I h => Call_ (ld_blt I hg hm boot_enumerate (PyProof.Rows.callWith_type1 (thn (ha.run pos pins s σ H _ I h) fun us s1 ⟨vs, H1, I1, r1, a, xs, ex, q1⟩ => ?_) hs rfl))⟩
  subst ex
  cases r1 with
  | cons r rr =>
    cases rr
    cases r
    have fp : ∀ b ∈ [s1.heap.objs.size + 1, s1.heap.objs.size], FpOk X pins H1 b := fun b hb => by
      have hle : s1.heap.objs.size ≤ b := by
        rcases (by simpa using hb : b = s1.heap.objs.size + 1 ∨ b = s1.heap.objs.size) with rfl | rfl
        · exact Nat.le_add_right _ _
        · exact Nat.le_refl _
      exact I1.fpOk hle (I1.hok.fresh hle)
    rcases q1 with ⟨hq, q⟩ | ⟨hq, q⟩
    · obtain ⟨its, rv, p', hz⟩ := I1.list hq
      refine call_enumerate_list p'.isList fun h' he hit hsz hk => wpAny_pyIter_enum he ?_
      exact ⟨_, [s1.heap.objs.size + 1, s1.heap.objs.size], _, _, H1, rfl, I1.kept (t' := s1.toks) hk, turn_enum a (s1.heap.objs.size + 1) s1.heap.objs.size, ⟨⟨.none, he⟩, hit, Nat.succ_ne_self _⟩, fp, q hz⟩
    · obtain ⟨its, rv, p', hz⟩ := I1.tuple hq
      have hlt : a < s1.heap.objs.size := p'.lt
      refine enum_tuple (show s1.heap.IsTuple a its.toArray from p') fun h' he hit hk => wpAny_pyIter_enum he ?_
      exact ⟨_, [s1.heap.objs.size + 1, s1.heap.objs.size], _, _, H1, rfl, I1.kept (t' := s1.toks) hk, turn_enumT a (s1.heap.objs.size + 1) s1.heap.objs.size, ⟨⟨.none, he⟩, hit, Nat.succ_ne_self _, Nat.ne_of_lt hlt, Nat.ne_of_lt (Nat.lt_succ_of_lt hlt)⟩, fp, q hz⟩
end G9

/-! P4: zip(t, u, strict=True) of two tuples of one length. -/
namespace G9
open PySem PySem.Spec L2 PyProof.Rows RZ
abbrev IsZipS (h : Heap) (z TI TO : Addr) (f0 : Value) : Prop :=
  h.get? z = some { cls := .type "zip", dict := none, data := .fields #[f0, .bool false, .bool true, .ref TI, .ref TO], slots := #[] }
section
variable {prog : Program} {w : World} {A : Around} {E : Value → Shared → Prop} {s : Shared}
theorem noe_item {it l : Addr} {i : Nat} {items} {x : Value} {Q : Option Value → Shared → Prop} (hit : s.heap.IsTupleIter it l i) (hl : s.heap.IsTuple l items) (hx : items[i]? = some x)
    (hQ : ∀ h', h'.IsTupleIter it l (i + 1) → Heap.SameBut it s.heap h' → Q (some x) { s with heap := h' }) : wpAny (model prog w) A (Builtin.SmallTypes.nextOrEnd (.ref it)) Q E s := by
  unfold Builtin.SmallTypes.nextOrEnd
  exact wpAny_bind (wpAny_attempt (nextOf_tuple_item hit hl hx fun h' a b => wpAny_pure (hQ h' a b)))
theorem noe_end {it l : Addr} {i : Nat} {items} {Q : Option Value → Shared → Prop} (hh : A.handled = none) (hit : s.heap.IsTupleIter it l i) (hl : s.heap.IsTuple l items) (hx : items[i]? = none)
    (hQ : ∀ h', Heap.ExtBut it s.heap h' → Q none { s with heap := h' }) : wpAny (model prog w) A (Builtin.SmallTypes.nextOrEnd (.ref it)) Q E s := by
  unfold Builtin.SmallTypes.nextOrEnd
  refine wpAny_bind (wpAny_attempt (nextOf_tuple_end hh hit hl hx fun h' e a he => ?_))
  obtain ⟨o, ho, hc⟩ := he
  exact wpAny_bind (wpAny_isInstance (T := "StopIteration") (b := true) ⟨o, ho, hc⟩ isSubtype_stop (wpAny_pure (hQ h' a)))
theorem zipS_next_item {z TI TO i1 i2 l1 l2 : Addr} {k1 k2 : Nat} {xs ys : Array Value} {x y a b : Value} {Q : Value → Shared → Prop} (D : ZipApart z TI TO i1 i2 l1 l2)
    (hz : IsZipS s.heap z TI TO .none) (hTI : IsPair s.heap TI (.ref i1) (.ref i2)) (hTO : IsPair s.heap TO a b)
    (h1 : s.heap.IsTupleIter i1 l1 k1) (h2 : s.heap.IsTupleIter i2 l2 k2) (hl1 : s.heap.IsTuple l1 xs) (hl2 : s.heap.IsTuple l2 ys) (hx : xs[k1]? = some x) (hy : ys[k2]? = some y)
    (hQ : ∀ h', IsZipS h' z TI TO (rawInt s.heap.objs.size) → IsPair h' TO x y → h'.IsTupleIter i1 l1 (k1 + 1) → h'.IsTupleIter i2 l2 (k2 + 1) → IsPair h' s.heap.objs.size x y → h'.objs.size = s.heap.objs.size + 1 →
      (∀ c o, c ≠ z → c ≠ TO → c ≠ i1 → c ≠ i2 → s.heap.get? c = some o → h'.get? c = some o) → Q (.ref s.heap.objs.size) { s with heap := h' }) :
    wpAny (model prog w) A (Builtin.«zip.__next__» ⟨[.ref z], []⟩) (fun fin s' => ∃ v, fin = .done (.ret v) ∧ Q v s') E s := by
  show wpAny _ _ (field (.ref z) 2 >>= _) _ _ _
  refine wpAny_bind (wpAny_field hz rfl (x := .bool true) rfl ?_)
  show wpAny _ _ (field (.ref z) 3 >>= _) _ _ _
  refine wpAny_bind (wpAny_field hz rfl (x := .ref TI) rfl ?_)
  refine wpAny_bind (wpAny_seqItems hTI rfl ?_)
  show wpAny _ _ (Builtin.SmallTypes.ownedTupleIsFree (.ref z) >>= _) _ _ _
  refine wpAny_bind ?_
  unfold Builtin.SmallTypes.ownedTupleIsFree
  refine wpAny_bind (wpAny_field hz rfl (x := .none) rfl (wpAny_pure ?_))
  simp only [if_true]
  refine wpAny_bind (wpAny_rule ?_)
  refine wpAny_bind (wpAny_field hz rfl (x := .ref TO) rfl ?_)
  refine wpAny_bind (wpAny_setField_rec hz (by simp) fun h₁ hz₁ hs₁ => ?_)
  replace hz₁ : IsZipS h₁ z TI TO .ellipsis := hz₁
  refine wpAny_bind ?_
  simp only [List.zipIdx_cons, List.zipIdx_nil, List.forIn_cons, List.forIn_nil]
  refine wpAny_bind (wpAny_bind (wpAny_onRaise ?_))
  show wpAny _ _ (Builtin.SmallTypes.nextOrEnd (.ref i1)) _ _ _
  refine noe_item (h1.extBut hs₁.extBut D.i1z) (hl1.extBut hs₁.extBut D.l1z) hx fun h₂ h1₂ hs₂ => ?_
  have hTO₂ : IsPair h₂ TO a b := hs₂.extBut _ _ D.TOi1 (hs₁.extBut _ _ D.TOz hTO)
  refine wpAny_bind (wpAny_seqItems hTO₂ rfl ?_)
  refine wpAny_bind (wpAny_updateSeq_pair hTO₂ fun h₃ hTO₃ hs₃ => ?_)
  replace hTO₃ : IsPair h₃ TO x b := hTO₃
  refine wpAny_bind (wpAny_letGo (wpAny_pure ?_))
  refine wpAny_bind (wpAny_bind (wpAny_onRaise ?_))
  show wpAny _ _ (Builtin.SmallTypes.nextOrEnd (.ref i2)) _ _ _
  refine noe_item (((h2.extBut hs₁.extBut D.i2z).extBut hs₂.extBut D.i12.symm).extBut hs₃.extBut D.TOi2.symm)
    (((hl2.extBut hs₁.extBut D.l2z).extBut hs₂.extBut D.l2i1).extBut hs₃.extBut D.l2TO) hy fun h₄ h2₄ hs₄ => ?_
  have hTO₄ : IsPair h₄ TO x b := hs₄.extBut _ _ D.TOi2 hTO₃
  refine wpAny_bind (wpAny_seqItems hTO₄ rfl ?_)
  refine wpAny_bind (wpAny_updateSeq_pair hTO₄ fun h₅ hTO₅ hs₅ => ?_)
  replace hTO₅ : IsPair h₅ TO x y := hTO₅
  refine wpAny_bind (wpAny_letGo (wpAny_pure (wpAny_pure ?_)))
  refine wpAny_bind (wpAny_seqItems hTO₅ rfl ?_)
  refine wpAny_bind (wpAny_newTuple ?_)
  have hsz : h₅.objs.size = s.heap.objs.size := by rw [hs₅.1, hs₄.1, hs₃.1, hs₂.1, hs₁.1]
  have hz₅ : IsZipS h₅ z TI TO .ellipsis := hs₅.extBut _ _ D.TOz.symm (hs₄.extBut _ _ D.i2z.symm (hs₃.extBut _ _ D.TOz.symm (hs₂.extBut _ _ D.i1z.symm hz₁)))
  have hk₅ : ∀ c o, c ≠ z → c ≠ TO → c ≠ i1 → c ≠ i2 → s.heap.get? c = some o → h₅.get? c = some o := fun c o c1 c2 c3 c4 e =>
    hs₅.extBut _ _ c2 (hs₄.extBut _ _ c4 (hs₃.extBut _ _ c2 (hs₂.extBut _ _ c3 (hs₁.extBut _ _ c1 e))))
  have h1₅ : h₅.IsTupleIter i1 l1 (k1 + 1) := ((h1₂.extBut hs₃.extBut D.TOi1.symm).extBut hs₄.extBut D.i12).extBut hs₅.extBut D.TOi1.symm
  have h2₅ : h₅.IsTupleIter i2 l2 (k2 + 1) := h2₄.extBut hs₅.extBut D.TOi2.symm
  have hzlt : z < h₅.objs.size := Heap.lt_size hz₅
  show wpAny _ _ (Builtin.SmallTypes.ownedTupleHandOut (.ref z) (.ref h₅.objs.size) >>= _) _ _ _
  refine wpAny_bind ?_
  unfold Builtin.SmallTypes.ownedTupleHandOut
  have hz₆ : IsZipS (h₅.push { cls := .type "tuple", data := .seq #[x, y] }) z TI TO .ellipsis := Heap.get?_push_of_some _ hz₅
  refine wpAny_bind (wpAny_setField_rec hz₆ (by simp) fun h₇ hz₇ hs₇ => ?_)
  replace hz₇ : IsZipS h₇ z TI TO (rawInt h₅.objs.size) := hz₇
  refine wpAny_setField_rec hz₇ (by simp) fun h₈ hz₈ hs₈ => ?_
  replace hz₈ : IsZipS h₈ z TI TO (rawInt h₅.objs.size) := hz₈
  have up : ∀ c o, c ≠ z → h₅.get? c = some o → h₈.get? c = some o := fun c o c1 e => hs₈.extBut _ _ c1 (hs₇.extBut _ _ c1 (Heap.get?_push_of_some _ e))
  have hT₈ : IsPair h₈ h₅.objs.size x y := hs₈.extBut _ _ (Nat.ne_of_gt hzlt) (hs₇.extBut _ _ (Nat.ne_of_gt hzlt) (Heap.get?_push_size _ rfl))
  have hz8 : h₈.objs.size = h₅.objs.size + 1 := by rw [hs₈.1, hs₇.1, Heap.size_push]
  rw [hsz] at hz₈ hT₈ hz8
  refine wpAny_pure ⟨_, rfl, ?_⟩
  show Q (.ref h₅.objs.size) _
  rw [hsz]
  exact hQ h₈ hz₈ (up _ _ D.TOz hTO₅) (h1₅.at fun o e => up _ o D.i1z e) (h2₅.at fun o e => up _ o D.i2z e) hT₈ hz8 fun c o c1 c2 c3 c4 e => up c o c1 (hk₅ c o c1 c2 c3 c4 e)
theorem zipS_next_end {z TI TO i1 i2 l1 l2 : Addr} {k1 k2 : Nat} {xs ys : Array Value} {a b : Value} {Q : Fin → Shared → Prop} (hh : A.handled = none) (D : ZipApart z TI TO i1 i2 l1 l2)
    (hz : IsZipS s.heap z TI TO .none) (hTI : IsPair s.heap TI (.ref i1) (.ref i2)) (hTO : IsPair s.heap TO a b)
    (h1 : s.heap.IsTupleIter i1 l1 k1) (h2 : s.heap.IsTupleIter i2 l2 k2) (hl1 : s.heap.IsTuple l1 xs) (hl2 : s.heap.IsTuple l2 ys) (hx : xs[k1]? = none) (hy : ys[k2]? = none)
    (hE : ∀ h' e, (∀ c o, c ≠ z → c ≠ TO → c ≠ i1 → c ≠ i2 → s.heap.get? c = some o → h'.get? c = some o) → (∃ o, h'.get? e = some o ∧ o.cls = .type "StopIteration") → E (.ref e) { s with heap := h' }) :
    wpAny (model prog w) A (Builtin.«zip.__next__» ⟨[.ref z], []⟩) Q E s := by
  show wpAny _ _ (field (.ref z) 2 >>= _) _ _ _
  refine wpAny_bind (wpAny_field hz rfl (x := .bool true) rfl ?_)
  show wpAny _ _ (field (.ref z) 3 >>= _) _ _ _
  refine wpAny_bind (wpAny_field hz rfl (x := .ref TI) rfl ?_)
  refine wpAny_bind (wpAny_seqItems hTI rfl ?_)
  show wpAny _ _ (Builtin.SmallTypes.ownedTupleIsFree (.ref z) >>= _) _ _ _
  refine wpAny_bind ?_
  unfold Builtin.SmallTypes.ownedTupleIsFree
  refine wpAny_bind (wpAny_field hz rfl (x := .none) rfl (wpAny_pure ?_))
  simp only [if_true]
  refine wpAny_bind (wpAny_rule ?_)
  refine wpAny_bind (wpAny_field hz rfl (x := .ref TO) rfl ?_)
  refine wpAny_bind (wpAny_setField_rec hz (by simp) fun h₁ hz₁ hs₁ => ?_)
  replace hz₁ : IsZipS h₁ z TI TO .ellipsis := hz₁
  refine wpAny_bind ?_
  simp only [List.zipIdx_cons, List.zipIdx_nil, List.forIn_cons, List.forIn_nil]
  refine wpAny_bind (wpAny_bind (wpAny_onRaise ?_))
  show wpAny _ _ (Builtin.SmallTypes.nextOrEnd (.ref i1)) _ _ _
  refine noe_end hh (h1.extBut hs₁.extBut D.i1z) (hl1.extBut hs₁.extBut D.l1z) hx fun h₂ hs₂ => ?_
  have hz₂ : IsZipS h₂ z TI TO .ellipsis := hs₂ _ _ D.i1z.symm hz₁
  refine wpAny_bind (wpAny_setField_rec hz₂ (by simp) fun h₃ hz₃ hs₃ => ?_)
  have h2₃ : h₃.IsTupleIter i2 l2 k2 := ((h2.extBut hs₁.extBut D.i2z).extBut hs₂ D.i12.symm).extBut hs₃.extBut D.i2z
  have hl2₃ : h₃.IsTuple l2 ys := ((hl2.extBut hs₁.extBut D.l2z).extBut hs₂ D.l2i1).extBut hs₃.extBut D.l2z
  refine wpAny_bind ?_
  have key : ∀ {Q : Fin → Shared → Prop} {t : Sem Fin}, t = (do
      if (0 : Nat) > 0 then
        rule "zip.__next__.shorter"; raiseError "ValueError" s!"zip() argument {0 + 1} is shorter than {if (0 : Nat) == 1 then "argument 1" else s!"arguments 1-{0}"}"
      for (it, j) in (([.ref i1, .ref i2] : List Value).drop 1).zipIdx 1 do
        if (← Builtin.SmallTypes.nextOrEnd it).isSome then
          rule "zip.__next__.longer"; raiseError "ValueError" s!"zip() argument {j + 1} is longer than {if j == 1 then "argument 1" else s!"arguments 1-{j}"}"
      rule "zip.__next__.all-ended"; Builtin.SmallTypes.stopIteration) → wpAny (model prog w) A t Q E { s with heap := h₃ } := by
    intro Q t e
    subst e
    rw [if_neg (by omega)]
    simp only [List.drop_succ_cons, List.drop_zero, List.zipIdx_cons, List.zipIdx_nil, List.forIn_cons, List.forIn_nil]
    refine wpAny_bind (wpAny_bind (wpAny_bind (noe_end hh h2₃ hl2₃ hy fun h₄ hs₄ => ?_)))
    simp only [Option.isSome_none, Bool.false_eq_true, if_false]
    refine wpAny_pure (wpAny_pure (wpAny_bind (wpAny_rule ?_)))
    show wpAny _ _ (newExc (.type "StopIteration") [] >>= _) _ _ _
    refine wpAny_bind ?_
    simp only [newExc, newTuple]
    refine wpAny_bind (wpAny_newObj_type ?_ (by size_fits))
    refine wpAny_bind (m := firstArgMember _ _) (wpAny_of_eq (a := Value.none) (by first | rfl | (simp only [firstArgMember]; rfl)) ?_)
    refine wpAny_newObj_type ?_ (by size_fits)
    simp only [raiseNew]
    refine wpAny_bind (wpAny_handled ?_)
    first | rw [show A.in1.handled = none from hh] | rw [hh]
    refine wpAny_bind (wpAny_pure (wpAny_throw ?_))
    refine hE _ _ (fun c o c1 c2 c3 c4 q => ?_) ⟨_, Heap.get?_push_size _ rfl, rfl⟩
    exact Heap.get?_push_of_some _ (Heap.get?_push_of_some _ (hs₄ _ _ c4 (hs₃.extBut _ _ c1 (hs₂ _ _ c3 (hs₁.extBut _ _ c1 q)))))
  exact key rfl
theorem zipS_item {z TI TO i1 i2 l1 l2 : Addr} {k1 k2 : Nat} {xs ys : Array Value} {x y a b : Value} {Q : Option Value → Shared → Prop} (D : ZipApart z TI TO i1 i2 l1 l2)
    (hz : IsZipS s.heap z TI TO .none) (hTI : IsPair s.heap TI (.ref i1) (.ref i2)) (hTO : IsPair s.heap TO a b)
    (h1 : s.heap.IsTupleIter i1 l1 k1) (h2 : s.heap.IsTupleIter i2 l2 k2) (hl1 : s.heap.IsTuple l1 xs) (hl2 : s.heap.IsTuple l2 ys) (hx : xs[k1]? = some x) (hy : ys[k2]? = some y)
    (hQ : ∀ h', IsZipS h' z TI TO (rawInt s.heap.objs.size) → IsPair h' TO x y → h'.IsTupleIter i1 l1 (k1 + 1) → h'.IsTupleIter i2 l2 (k2 + 1) → IsPair h' s.heap.objs.size x y → h'.objs.size = s.heap.objs.size + 1 →
      (∀ c o, c ≠ z → c ≠ TO → c ≠ i1 → c ≠ i2 → s.heap.get? c = some o → h'.get? c = some o) → Q (some (.ref s.heap.objs.size)) { s with heap := h' }) :
    wpAny (model prog w) A (pyNext (.ref z)) Q E s := by
  have hT : s.TypeIs (.ref z) "zip" := ⟨_, hz, rfl⟩
  unfold pyNext
  exact wpAny_bind (wpAny_attempt (wpAny_callSpecial?_slot (name := Str.ofString "__next__") hT PySem.F.slot_zip_next
    (wpAny_call_entry PySem.F.slot_zip_next hT PySem.F.entry_zip_next (zipS_next_item D hz hTI hTO h1 h2 hl1 hl2 hx hy fun h' a1 a2 a3 a4 a5 a6 a7 => wpAny_pure (hQ h' a1 a2 a3 a4 a5 a6 a7)) (PySem.F.args_zip_next_1 _))))
theorem zipS_end {z TI TO i1 i2 l1 l2 : Addr} {k1 k2 : Nat} {xs ys : Array Value} {a b : Value} {Q : Option Value → Shared → Prop} (hh : A.handled = none) (D : ZipApart z TI TO i1 i2 l1 l2)
    (hz : IsZipS s.heap z TI TO .none) (hTI : IsPair s.heap TI (.ref i1) (.ref i2)) (hTO : IsPair s.heap TO a b)
    (h1 : s.heap.IsTupleIter i1 l1 k1) (h2 : s.heap.IsTupleIter i2 l2 k2) (hl1 : s.heap.IsTuple l1 xs) (hl2 : s.heap.IsTuple l2 ys) (hx : xs[k1]? = none) (hy : ys[k2]? = none)
    (hQ : ∀ h', (∀ c o, c ≠ z → c ≠ TO → c ≠ i1 → c ≠ i2 → s.heap.get? c = some o → h'.get? c = some o) → Q none { s with heap := h' }) : wpAny (model prog w) A (pyNext (.ref z)) Q E s := by
  have hT : s.TypeIs (.ref z) "zip" := ⟨_, hz, rfl⟩
  unfold pyNext
  refine wpAny_bind (wpAny_attempt (wpAny_callSpecial?_slot (name := Str.ofString "__next__") hT PySem.F.slot_zip_next
    (wpAny_call_entry PySem.F.slot_zip_next hT PySem.F.entry_zip_next (zipS_next_end hh D hz hTI hTO h1 h2 hl1 hl2 hx hy fun h' e hk he => ?_) (PySem.F.args_zip_next_1 _))))
  obtain ⟨o, ho, hc⟩ := he
  exact wpAny_bind (wpAny_isInstance (T := "StopIteration") (b := true) ⟨o, ho, hc⟩ isSubtype_stop (wpAny_pure (hQ _ hk)))
theorem zipS_let {elts : List Expr} {x1} {pos : Pos} {z TI TO T : Addr} {Q : Unit → Shared → Prop} (hz : IsZipS s.heap z TI TO (rawInt T))
    (hQ : ∀ h', IsZipS h' z TI TO .none → Heap.SameBut z s.heap h' → Q () { s with heap := h' }) : wpAny (model prog w) A (letOwnedTupleGo (.Tuple elts x1 pos) (.ref z) (.ref T)) Q E s := by
  unfold letOwnedTupleGo
  refine wpAny_bind (wpAny_load hz ?_)
  show wpAny _ _ (if (["enumerate", "zip", "dict_itemiterator", "dict_reverseitemiterator", "odict_iterator", "itertools.zip_longest", "itertools.pairwise"].contains "zip" &&
      (#[rawInt T, .bool false, .bool true, .ref TI, .ref TO] : Array Value)[0]? == some (rawInt T)) = true then _ else _) Q E s
  rw [if_pos (by simp)]
  refine wpAny_bind (wpAny_rule ?_)
  show wpAny _ _ (setField (.ref z) 0 .none) Q E s
  exact wpAny_setField_rec hz (by simp) fun h' hz' hs' => hQ h' hz' hs'
theorem zipS_iter {z TI TO : Addr} {f0 : Value} {Q : Value → Shared → Prop} (hz : IsZipS s.heap z TI TO f0) (h : Q (.ref z) s) : wpAny (model prog w) A (pyIter (.ref z)) Q E s := by
  have hT : s.TypeIs (.ref z) "zip" := ⟨_, hz, rfl⟩
  refine wpAny_pyIter_slot hT PySem.F.slot_zip_iter (wpAny_call_entry PySem.F.slot_zip_iter hT PySem.F.entry_zip_iter ?_ (PySem.F.args_zip_iter_1 _))
  show wpAny _ _ (ret (.ref z)) _ _ s
  exact wpAny_pure ⟨_, rfl, "zip", _, hT, PySem.F.slot_zip_next.lookup, h⟩
end
abbrev zS1 (h : Heap) (l1 : Addr) : Heap := h.push { cls := .type "tuple_iterator", data := .fields #[.ref l1, .int 0 0] }
abbrev zS2 (h : Heap) (l1 l2 : Addr) : Heap := (zS1 h l1).push { cls := .type "tuple_iterator", data := .fields #[.ref l2, .int 0 0] }
abbrev zS3 (h : Heap) (l1 l2 : Addr) : Heap := (zS2 h l1 l2).push { cls := .type "tuple", data := .seq #[.ref h.objs.size, .ref (zS1 h l1).objs.size] }
abbrev zS4 (h : Heap) (l1 l2 : Addr) : Heap := (zS3 h l1 l2).push { cls := .type "tuple", data := .seq #[.none, .none] }
abbrev zS5 (h : Heap) (l1 l2 : Addr) : Heap := (zS4 h l1 l2).push { cls := .type "zip", data := .fields #[.none, .bool false, .bool true, .ref (zS2 h l1 l2).objs.size, .ref (zS3 h l1 l2).objs.size] }
theorem zipS_new (l1 l2 : Addr) (xs ys : Array Value) :
    Meets (Builtin.«zip.__new__» ⟨[.type "zip", .ref l1, .ref l2], [(Str.ofString "strict", .bool true)]⟩) (fun _ R s => s.heap.IsTuple l1 xs ∧ s.heap.IsTuple l2 ys ∧
      R (.ok (.ret (.ref (zS4 s.heap l1 l2).objs.size))) { s with heap := zS5 s.heap l1 l2 }) :=
  .of_wp fun prog w A R s h => by
    obtain ⟨hp, g, d, tk, os⟩ := s; obtain ⟨hl1, hl2, h⟩ := h
    have hsub := sub_zip
    have e1 : (Str.ofString "strict" != ("strict" : Str)) = false := by decide +kernel
    have hL1 : Heap.IsTuple (Shared.heap ⟨hp, g, d, tk, os⟩) l1 xs := hl1
    have hL2 : Heap.IsTuple (Shared.heap ⟨hp.push { cls := .type "tuple_iterator", data := .fields #[.ref l1, .int 0 0] }, g, d, tk, os⟩) l2 ys := Heap.IsTuple.push hl2 _
    wp_walk using wpAny_pyIter_tuple hL1, wpAny_pyIter_tuple hL2
    exact ⟨_, rfl, h⟩
theorem typeCall_zipS (a b c : Value) : checkTypeCall "zip" ⟨[a, b], [(Str.ofString "strict", c)]⟩ = pure () := by kernel_rfl
theorem newCall_zipS (a b c : Value) : checkBuiltinCall "zip.__new__" ⟨[.type "zip", a, b], [(Str.ofString "strict", c)]⟩ = pure () := by kernel_rfl
theorem initArgs_zipS (obj a b c : Value) : argsOk "object.__init__" ⟨[obj, a, b], [(Str.ofString "strict", c)]⟩ := by unfold argsOk; kernel_rfl
section
variable {prog : Program} {w : World} {A : Around} {E : Value → Shared → Prop} {s : Shared}
theorem call_zipS {l1 l2 : Addr} {xs ys : Array Value} {Q : Value → Shared → Prop} (hl1 : s.heap.IsTuple l1 xs) (hl2 : s.heap.IsTuple l2 ys)
    (h : ∀ h', IsZipS h' (s.heap.objs.size + 4) (s.heap.objs.size + 2) (s.heap.objs.size + 3) .none → IsPair h' (s.heap.objs.size + 2) (.ref s.heap.objs.size) (.ref (s.heap.objs.size + 1)) →
      IsPair h' (s.heap.objs.size + 3) .none .none → h'.IsTupleIter s.heap.objs.size l1 0 → h'.IsTupleIter (s.heap.objs.size + 1) l2 0 →
      (∀ c o, s.heap.get? c = some o → h'.get? c = some o) → Q (.ref (s.heap.objs.size + 4)) { s with heap := h' }) :
    wpAny (model prog w) A (call (.type "zip") [.ref l1, .ref l2] [(Str.ofString "strict", .bool true)]) Q E s := by
  refine callType_newKw PySem.F.called_zip (by decide) (typeCall_zipS _ _ _) (newCall_zipS _ _ _) (fun obj => initArgs_zipS obj _ _ _) PySem.F.entry_zip_new (zipS_new l1 l2 xs ys) ⟨hl1, hl2, ?_⟩
  have z1 : (zS1 s.heap l1).objs.size = s.heap.objs.size + 1 := Heap.size_push ..
  have z2 : (zS2 s.heap l1 l2).objs.size = s.heap.objs.size + 2 := by rw [Heap.size_push, z1]
  have z3 : (zS3 s.heap l1 l2).objs.size = s.heap.objs.size + 3 := by rw [Heap.size_push, z2]
  have z4 : (zS4 s.heap l1 l2).objs.size = s.heap.objs.size + 4 := by rw [Heap.size_push, z3]
  have g5 : (zS5 s.heap l1 l2).get? (zS4 s.heap l1 l2).objs.size = some _ := Heap.get?_push_size _ rfl
  have g4 : (zS5 s.heap l1 l2).get? (zS3 s.heap l1 l2).objs.size = some _ := Heap.get?_push_of_some _ (Heap.get?_push_size _ rfl)
  have g3 : (zS5 s.heap l1 l2).get? (zS2 s.heap l1 l2).objs.size = some _ := Heap.get?_push_of_some _ (Heap.get?_push_of_some _ (Heap.get?_push_size _ rfl))
  have g2 : (zS5 s.heap l1 l2).get? (zS1 s.heap l1).objs.size = some _ := Heap.get?_push_of_some _ (Heap.get?_push_of_some _ (Heap.get?_push_of_some _ (Heap.get?_push_size _ rfl)))
  have g1 : (zS5 s.heap l1 l2).get? s.heap.objs.size = some _ := Heap.get?_push_of_some _ (Heap.get?_push_of_some _ (Heap.get?_push_of_some _ (Heap.get?_push_of_some _ (Heap.get?_push_size _ rfl))))
  show _ ∧ _
  rw [z2, z3, z4] at g5
  rw [z1, z2] at g3
  rw [z3] at g4
  rw [z1] at g2
  rw [z4]
  exact ⟨⟨_, g5, rfl⟩, h _ g5 g3 g4 ⟨_, g1, rfl, rfl⟩ ⟨_, g2, rfl, rfl⟩ fun c o x =>
    Heap.get?_push_of_some _ (Heap.get?_push_of_some _ (Heap.get?_push_of_some _ (Heap.get?_push_of_some _ (Heap.get?_push_of_some _ x))))⟩
end
/-- the tuples at a and b of one length, the items in new pairs -/
def ItzS (K : PySem.W.Frag) (a b : Addr) : It :=
  ⟨fun i H => ∃ (xs ys : List V) (x y : V), SqT K H a xs ∧ SqT K H b ys ∧ xs[i]? = some x ∧ ys[i]? = some y,
    fun i H v H' => ∃ T x y, v = .ref T ∧ H T = none ∧ H' = upd H T (.tup [x, y]) ∧ (∀ xs, SqT K H a xs → xs[i]? = some x) ∧ ∀ ys, SqT K H b ys → ys[i]? = some y,
    fun i H => ∃ xs ys : List V, SqT K H a xs ∧ SqT K H b ys ∧ xs.length ≤ i ∧ ys.length ≤ i⟩
theorem five {c z TI TO i1 i2 : Addr} (h : c ∈ [z, TI, TO, i1, i2]) : c = z ∨ c = TI ∨ c = TO ∨ c = i1 ∨ c = i2 := by simpa using h
theorem turn_zipS {P : Program} {w : World} {K : PySem.W.Frag} {elts : List Expr} {kk : Nat} {tpos : Pos} {a b z TI TO i1 i2 : Addr} (D : ZipApart z TI TO i1 i2 a b) :
    Turn P w K (.Tuple elts kk tpos) (ItzS K a b) [z, TI, TO, i1, i2] z (fun i h => IsZipS h z TI TO .none ∧ IsPair h TI (.ref i1) (.ref i2) ∧ (∃ x y, IsPair h TO x y) ∧ h.IsTupleIter i1 a i ∧ h.IsTupleIter i2 b i) where
  mem := by simp
  obj := fun i h st c hc => by
    obtain ⟨hz, hTI, ⟨x, y, hTO⟩, ⟨o1, e1, _, d1⟩, ⟨o2, e2, _, d2⟩⟩ := st
    rcases five hc with rfl | rfl | rfl | rfl | rfl
    · exact ⟨_, hz, fun v q => nomatch q⟩
    · exact ⟨_, hTI, fun v q => nomatch q⟩
    · exact ⟨_, hTO, fun v q => nomatch q⟩
    · exact ⟨o1, e1, fun v q => by rw [d1] at q; cases q⟩
    · exact ⟨o2, e2, fun v q => by rw [d2] at q; cases q⟩
  keep := fun i h h' st k => by
    obtain ⟨hz, hTI, ⟨x, y, hTO⟩, h1, h2⟩ := st
    exact ⟨k z (by simp) _ hz, k TI (by simp) _ hTI, ⟨x, y, k TO (by simp) _ hTO⟩, h1.at fun o q => k i1 (by simp) o q, h2.at fun o q => k i2 (by simp) o q⟩
  item := by
    intro X hP hw hK hc i pins s σ H E I hf st hg
    subst hP hw hK
    obtain ⟨hz, hTI, ⟨x0, y0, hTO⟩, h1, h2⟩ := st
    obtain ⟨xs, ys, x, y, hqx, hqy, hx, hy⟩ := hg
    obtain ⟨its, rv, p, _⟩ := I.tuple hqx
    obtain ⟨its2, rv2, p2, _⟩ := I.tuple hqy
    obtain ⟨u, hu, ru⟩ := rv.get hx
    obtain ⟨u2, hu2, ru2⟩ := rv2.get hy
    have hzl : z < s.heap.objs.size := Heap.lt_size hz
    refine zipS_item D hz hTI hTO h1 h2 p p2 (x := u) (y := u2) (by simpa using hu) (by simpa using hu2) fun h' z' TO' h1' h2' hT hsz hk => ?_
    refine ⟨_, rfl, zipS_let (s := { s with heap := h' }) z' fun h'' z'' sb => ?_⟩
    have hT2 : h''.get? s.heap.objs.size = some { cls := .type "tuple", data := .seq #[u, u2] } := (sb.2 _ (Nat.ne_of_gt hzl)).trans hT
    have new : ObjOk X.prog X.w (upd H s.heap.objs.size (.tup [x, y])) h'' s.heap.objs.size (.tup [x, y]) :=
      ⟨by show 2 ≤ sizeLine; decide, [u, u2], .cons ru (.cons ru2 .nil), ⟨_, hT2, rfl, _, rfl⟩⟩
    have I1 : Inv X pins σ (upd H s.heap.objs.size (.tup [x, y])) { s with heap := h'' } :=
      I.turnedNew (t' := s.toks) (ch := [z, TI, TO, i1, i2]) (fun c o hb q => (sb.2 c (fun q' => hb (by simp [q']))).trans (hk c o (fun q' => hb (by simp [q'])) (fun q' => hb (by simp [q'])) (fun q' => hb (by simp [q'])) (fun q' => hb (by simp [q'])) q)) hf (Nat.le_refl _) new
    refine ⟨.ref s.heap.objs.size, _, I1, rfl, ⟨_, x, y, rfl, I.hok.fresh (Nat.le_refl _), rfl, fun l hl => by rw [I.tuple_inj hl hqx]; exact hx, fun l hl => by rw [I.tuple_inj hl hqy]; exact hy⟩, ⟨z'', ?_, ⟨u, u2, ?_⟩, ?_, ?_⟩, fun c hcm => ?_⟩
    · exact (sb.2 _ D.TIz).trans (hk _ _ D.TIz D.TITO D.TIi1 D.TIi2 hTI)
    · exact (sb.2 _ D.TOz).trans TO'
    · exact h1'.at fun o q => (sb.2 _ D.i1z).trans q
    · exact h2'.at fun o q => (sb.2 _ D.i2z).trans q
    · have hlt : c < s.heap.objs.size := by
        rcases five hcm with rfl | rfl | rfl | rfl | rfl
        · exact hzl
        · exact Heap.lt_size hTI
        · exact Heap.lt_size hTO
        · obtain ⟨_, e1, _⟩ := h1; exact Heap.lt_size e1
        · obtain ⟨_, e2, _⟩ := h2; exact Heap.lt_size e2
      rw [upd_ne (Nat.ne_of_lt hlt)]
      exact (hf c hcm).1
  done := by
    intro X hP hw hK hc i pins s σ H E I hf st hg
    subst hP hw hK
    obtain ⟨hz, hTI, ⟨x0, y0, hTO⟩, h1, h2⟩ := st
    obtain ⟨xs, ys, hqx, hqy, e1, e2⟩ := hg
    obtain ⟨its, rv, p, _⟩ := I.tuple hqx
    obtain ⟨its2, rv2, p2, _⟩ := I.tuple hqy
    have l1 := rv.length
    have l2 := rv2.length
    exact zipS_end (I.ok.hd hc) D hz hTI hTO h1 h2 p p2 (by simp; omega) (by simp; omega) fun h' hk => ⟨rfl, I.turnedL (t' := s.toks) (ch := [z, TI, TO, i1, i2]) (fun c o hb q =>
      hk c o (fun q' => hb (by simp [q'])) (fun q' => hb (by simp [q'])) (fun q' => hb (by simp [q'])) (fun q' => hb (by simp [q'])) q) hf⟩
  self := fun A i s Q E st h => zipS_iter st.1 h
def iZipS (K : PySem.W.Frag) (ta : TA) : TI := fun σ H R => ta σ H fun vs H1 => ∃ a b xs ys, vs = [.ref a, .ref b] ∧ SqT K H1 a xs ∧ SqT K H1 b ys ∧ (xs.length ≤ sizeLine → R (ItzS K a b) H1)
theorem cw_type {M : Model} {A : Around} {E : Value → Shared → Prop} {s : Shared} {pos : Pos} {T : String} {args : List (Bool × Sem Value)} {kws : List (Option Str × Sem Value)} {Q : Value → Shared → Prop} (hplain : (args.any (·.1) || kws.any (·.1.isNone)) = false)
    (h : wpAny M A (evalArgs (.type T) true args kws) (fun a s₁ => wpAny M A (call (.type T) ([] ++ a.pos) a.kw) Q E s₁) E s) : wpAny M A (callWith pos (.type T) [] args kws) Q E s := by
  unfold callWith
  refine wpAny_bind (wpAny_holding (wpAny_mono h (fun a s₁ h₁ => wpAny_bind (wpAny_standAt ?_)) fun _ _ x => x))
  simp only [hplain]
  refine wpAny_bind (wpAny_pure ?_)
  exact wpAny_bind (wpAny_mono h₁ (fun r s₂ hr => wpAny_bind (wpAny_holding (wpAny_point (wpAny_pure hr)))) fun _ _ x => x)
theorem pi_zipS {X : Cx} {e e2 : Expr} {ta : TA} {p pos tpos kp p2 : Pos} {elts : List Expr} {kk i : Nat} (hg : Gl X "zip") (hm : X.mg "zip" = none) (ha : PA X [e, e2] ta)
    (hs : starEach [e, e2] X.env = (false, eval e X.env) :: starEach [e2] X.env) (hpl : ((backTo pos (starEach [e, e2] X.env)).any (·.1) || (backToKw pos (keywordEach [⟨some "strict", .Constant (.bool true) i p2, kp⟩] X.env)).any (·.1.isNone)) = false)
    (hall : (backToKw pos (keywordEach [⟨some "strict", .Constant (.bool true) i p2, kp⟩] X.env)).all (·.1.isSome) = true) :
    PI X (.Tuple elts kk tpos) (.Call (.Name "zip" p) [e, e2] [⟨some "strict", .Constant (.bool true) i p2, kp⟩] pos) (iZipS X.K ta) := by
  refine ⟨fun pins s σ H R I h => ?_⟩
  have kw : PK X [⟨some "strict", .Constant (.bool true) i p2, kp⟩] (tCons (tC (.bl true)) tNil) := pk_cons pe_bl pk_nil
  refine wpAny_Call_Name_kw (ld_blt I hg hm PyProof.Rows.boot_zip (cw_type hpl (evalArgs_kw2 hall ?_ hs)) (by decide) (by decide))
  refine thn (ha.run pos pins s σ H _ I h) fun us s1 ⟨vs, H1, I1, r1, a, b, xs, ys, ex, hqx, hqy, q⟩ => ?_
  subst ex
  refine thn (kw.run pos pins s1 σ H1 (fun zs H2 => zs = [.bl true] ∧ H2 = H1) I1 ⟨rfl, rfl⟩) fun ws s2 ⟨zs, H2, I2, rz, e1, e2⟩ => ?_
  subst e1 e2
  cases r1 with
  | cons r rr =>
  cases rr with
  | cons r' rr =>
  cases rr
  cases r
  cases r'
  cases rz with
  | cons r3 rr =>
  cases rr
  cases r3
  have fresh5 : ∀ c, c ∈ [s2.heap.objs.size + 4, s2.heap.objs.size + 2, s2.heap.objs.size + 3, s2.heap.objs.size, s2.heap.objs.size + 1] → FpOk X pins H2 c := fun c hcm => by
    have hle : s2.heap.objs.size ≤ c := by
      rcases five hcm with rfl | rfl | rfl | rfl | rfl
      · exact Nat.le_add_right _ _
      · exact Nat.le_add_right _ _
      · exact Nat.le_add_right _ _
      · exact Nat.le_refl _
      · exact Nat.le_add_right _ _
    exact I2.fpOk hle (I2.hok.fresh hle)
  obtain ⟨its, rv, q1, hz⟩ := I2.tuple hqx
  obtain ⟨its2, rv2, q2, _⟩ := I2.tuple hqy
  refine call_zipS (show s2.heap.IsTuple a its.toArray from q1) (show s2.heap.IsTuple b its2.toArray from q2) fun h' hz' hTI hTO h1 h2 hk => zipS_iter hz' ?_
  exact ⟨s2.heap.objs.size + 4, [s2.heap.objs.size + 4, s2.heap.objs.size + 2, s2.heap.objs.size + 3, s2.heap.objs.size, s2.heap.objs.size + 1], _, _, H2, rfl, I2.kept (t' := s2.toks) hk,
    turn_zipS (PySem.W.ktu_apart s2.heap.objs.size a b q1.lt q2.lt), ⟨hz', hTI, ⟨_, _, hTO⟩, h1, h2⟩, fresh5, q hz⟩
end G9

/-! M15: more forms: xs[::-1], {}, {k: n}, list(dict(pairs)), enumerate, zip strict. -/
namespace G9
open PySem PySem.Spec L2 PyProof.Rows
/-! ### wants -/
/-- xs[::-1] -/
def rvS (x : PyData) (Q : PyData → Bool → Prop) : Prop := match x with
  | .list xs => Q (.list xs.reverse) true
  | .tuple xs => Q (.tuple xs.reverse) false
  | _ => False
def dRev (a : DO) : DE := ⟨a.m, fun ρ P R => a ρ (fun oa ρ1 => ∃ x, rs ρ1 oa = some (.d x) ∧ rvS x fun z fr => P (.d z) fr ρ1) R⟩
/-- one more key, where it is not yet there -/
def keyIn (acc : List Str) (k : Str) : List Str := if k ∈ acc then acc else acc ++ [k]
/-- the keys of dict(pairs), each once -/
def uniqK : List PyData → List Str → Option (List Str)
  | [], acc => some acc
  | .tuple [.str k, _] :: r, acc => uniqK r (keyIn acc k)
  | _, _ => none
def dUniq (a : DO) : DE := ⟨a.m, fun ρ P R => a ρ (fun oa ρ1 => ∃ xs, rs ρ1 oa = some (.d (.list xs)) ∧ ((∃ ks, uniqK xs [] = some ks ∧ P (.d (.list (ks.map .str))) true ρ1) ∨ ∃ kss, uniqT xs [] = some kss ∧ P (.d (.list (kss.map tupS))) true ρ1)) R⟩
/-- sorted(dict(pairs)) -/
def dSrtD (a : DO) : DE := ⟨a.m, fun ρ P R => a ρ (fun oa ρ1 => ∃ xs, rs ρ1 oa = some (.d (.list xs)) ∧ ((∃ ks, uniqK xs [] = some ks ∧ ks.length < 64 ∧ ∀ ms : List Str, ms.Perm ks → sortedS ms = true → P (.d (.list (ms.map .str))) true ρ1) ∨
  ∃ kss, uniqT xs [] = some kss ∧ ∀ mss : List (List Str), mss.Perm kss → mss.Pairwise (fun a b => ltSS b a = false) → P (.d (.list (mss.map tupS))) true ρ1)) R⟩
def enumD (xs : List PyData) : List PyData := (List.range xs.length).zipWith (fun (i : Nat) x => .tuple [.int (i : Int), x]) xs
def wEnum (a : DE) : DI := ⟨a.m, fun ρ P R => a ρ (fun u _ ρ1 => ∃ xs, (u = .d (.tuple xs) ∨ u = .d (.list xs)) ∧ P (enumD xs) ρ1) R⟩
def zipD (xs ys : List PyData) : List PyData := xs.zipWith (fun x y => .tuple [x, y]) ys
def wZipS (a b : DE) : DI := ⟨a.m + b.m, fun ρ P R => a ρ (fun u _ ρ1 => b ρ1 (fun u' _ ρ2 => ∃ xs ys, u = .d (.tuple xs) ∧ u' = .d (.tuple ys) ∧ xs.length = ys.length ∧ P (zipD xs ys) ρ2) R) R⟩
section
variable {W : Wk} {K : PySem.W.Frag}
theorem enumD_at {xs : List PyData} {i : Nat} {x : PyData} (h : (enumD xs)[i]? = some x) : ∃ y, xs[i]? = some y ∧ x = .tuple [.int (i : Int), y] := by
  unfold enumD at h
  rw [List.getElem?_zipWith] at h
  cases q : xs[i]? with
  | none => rw [q] at h; cases q2 : (List.range xs.length)[i]? <;> rw [q2] at h <;> cases h
  | some y =>
    have hi : i < xs.length := (List.getElem?_eq_some_iff.mp q).1
    rw [q, List.getElem?_range hi] at h
    cases h
    exact ⟨y, rfl, rfl⟩
theorem enumD_len (xs : List PyData) : (enumD xs).length = xs.length := by
  unfold enumD
  rw [List.length_zipWith, List.length_range, Nat.min_self]
theorem zipD_at {xs ys : List PyData} {i : Nat} {x : PyData} (h : (zipD xs ys)[i]? = some x) : ∃ y z, xs[i]? = some y ∧ ys[i]? = some z ∧ x = .tuple [y, z] := by
  unfold zipD at h
  rw [List.getElem?_zipWith] at h
  cases q : xs[i]? with
  | none => rw [q] at h; cases q2 : ys[i]? <;> rw [q2] at h <;> cases h
  | some y =>
    cases q2 : ys[i]? with
    | none => rw [q, q2] at h; cases h
    | some z => rw [q, q2] at h; cases h; exact ⟨y, z, rfl, rfl, rfl⟩
theorem zipD_len {xs ys : List PyData} (h : xs.length = ys.length) : (zipD xs ys).length = xs.length := by
  unfold zipD
  rw [List.length_zipWith, h, Nat.min_self]
theorem rep_pair {H : Hp} {M M2 : List Addr} {T : Addr} {v v2 : V} {x y : PyData} (hT : H T = none) (r : Rep K H M v x) (r2 : Rep K H M v2 y) (s : ∀ a ∈ M2, a ∈ M) : Rep K (upd H T (.tup [v, v2])) M2 (.ref T) (.tuple [x, y]) :=
  (Rep.tup (SqT.of upd_same) ((RepL.cons r (.cons r2 .nil)).keep (Kp.fresh hT))).less s
theorem walk_enumL {a : Addr} {vs : List V} {ds : List PyData} {H : Hp} {M : List Addr} (hn : a ∉ M) (ha : H a = some (.lst vs)) (r : RepL K H M vs ds) : WalkOk W K (Ite K a) (enumD ds) H M := by
  intro M2 H2 k n
  have ha2 := k.same a _ hn ha
  refine ⟨fun i x e => ?_, fun i hi => ⟨vs, SqL.of ha2, by rw [enumD_len] at hi; rw [r.length]; exact hi⟩⟩
  obtain ⟨y, e', rfl⟩ := enumD_at e
  obtain ⟨v, hv, rv⟩ := r.get e'
  refine ⟨⟨vs, v, SqL.of ha2, hv⟩, fun v' H' ⟨T, x', e1, hT, e2, e3⟩ => ⟨.inr ⟨T, _, hT, e2⟩, fun M3 s => ?_⟩⟩
  have q := e3 vs (SqL.of ha2)
  rw [hv] at q; cases q
  subst e1 e2
  exact rep_pair hT (.int _) (rv.move k n) s
theorem walk_enumT {a : Addr} {vs : List V} {ds : List PyData} {H : Hp} {M : List Addr} (ha : SqT K H a vs) (r : RepL K H M vs ds) : WalkOk W K (IteT K a) (enumD ds) H M := by
  intro M2 H2 k n
  have ha2 := k.sqT ha
  refine ⟨fun i x e => ?_, fun i hi => ⟨vs, ha2, by rw [enumD_len] at hi; rw [r.length]; exact hi⟩⟩
  obtain ⟨y, e', rfl⟩ := enumD_at e
  obtain ⟨v, hv, rv⟩ := r.get e'
  refine ⟨⟨vs, v, ha2, hv⟩, fun v' H' ⟨T, x', e1, hT, e2, e3⟩ => ⟨.inr ⟨T, _, hT, e2⟩, fun M3 s => ?_⟩⟩
  have q := e3 vs ha2
  rw [hv] at q; cases q
  subst e1 e2
  exact rep_pair hT (.int _) (rv.move k n) s
theorem walk_zipS {a b : Addr} {vs ws : List V} {ds es : List PyData} {H : Hp} {M : List Addr} (ha : SqT K H a vs) (hb : SqT K H b ws) (r : RepL K H M vs ds) (r2 : RepL K H M ws es) (hl : ds.length = es.length) : WalkOk W K (ItzS K a b) (zipD ds es) H M := by
  intro M2 H2 k n
  have ha2 := k.sqT ha
  have hb2 := k.sqT hb
  refine ⟨fun i x e => ?_, fun i hi => ⟨vs, ws, ha2, hb2, by rw [zipD_len hl] at hi; rw [r.length]; exact hi, by rw [zipD_len hl, hl] at hi; rw [r2.length]; exact hi⟩⟩
  obtain ⟨y, z, e1, e2, rfl⟩ := zipD_at e
  obtain ⟨v, hv, rv⟩ := r.get e1
  obtain ⟨u, hu, ru⟩ := r2.get e2
  refine ⟨⟨vs, ws, v, u, ha2, hb2, hv, hu⟩, fun v' H' ⟨T, x', y', e1, hT, e2, e3, e4⟩ => ⟨.inr ⟨T, _, hT, e2⟩, fun M3 s => ?_⟩⟩
  have q := e3 vs ha2
  rw [hv] at q; cases q
  have q := e4 ws hb2
  rw [hu] at q; cases q
  subst e1 e2
  exact rep_pair hT (rv.move k n) (ru.move k n) s
/-! ### the keys of dict(pairs) -/
theorem keys_put (kvs : List (Key × V)) (k : Str) (v : V) (acc : List Str) (h : kvs.map (·.1) = acc.map Sum.inr) : (putK kvs (.inr k) v).map (·.1) = (keyIn acc k).map Sum.inr := by
  have e : (kvs.any fun kv => decide (kv.1 = Sum.inr k)) = decide (k ∈ acc) := by
    have e1 : (kvs.any fun kv => decide (kv.1 = Sum.inr k)) = ((kvs.map (·.1)).any fun z => decide (z = Sum.inr k)) := by rw [List.any_map]; rfl
    rw [e1, h, List.any_map, Bool.eq_iff_iff]
    simp
  unfold putK keyIn
  rw [e]
  by_cases hk : k ∈ acc
  · rw [if_pos (decide_eq_true hk), if_pos hk, List.map_map, ← h]
    refine List.map_congr_left fun kv _ => ?_
    show (if kv.1 = Sum.inr k then (kv.1, v) else kv).1 = kv.1
    split <;> rfl
  · rw [if_neg (by rw [decide_eq_false hk]; simp), if_neg hk, List.map_append, List.map_append, h]
    rfl
theorem uniq_go {H : Hp} {M : List Addr} : ∀ {xs : List PyData} {vs : List V} {acc ks : List Str} {kvs0 : List (Key × V)}, RepL K H M vs xs → uniqK xs acc = some ks → kvs0.map (·.1) = acc.map Sum.inr →
    ∃ (ps : List Addr) (kvs : List (Key × V)), vs = ps.map V.ref ∧ Paired (fun p kv => SqT K H p [kV kv.1, kv.2]) ps kvs ∧ (mergeK kvs0 kvs).map (·.1) = ks.map Sum.inr
  | [], _, acc, ks, kvs0, .nil, e, h => by cases e; exact ⟨[], [], rfl, .nil, h⟩
  | .tuple [.str k, d] :: xs, _, acc, ks, kvs0, .cons r t, e, h => by
    have e : uniqK xs (keyIn acc k) = some ks := e
    cases r with
    | tup hs q =>
      cases q with
      | cons q1 q2 =>
        cases q2 with
        | cons q2 q3 =>
          cases q3
          obtain rfl := Rep.str_inv q1
          rename_i a vv
          obtain ⟨ps, kvs, h1, h2, h3⟩ := uniq_go (kvs0 := putK kvs0 (.inr k) vv) t e (keys_put _ _ _ _ h)
          exact ⟨a :: ps, (.inr k, vv) :: kvs, by rw [h1]; rfl, .cons hs h2, h3⟩
  | .none :: _, _, _, _, _, .cons _ _, e, _ => by cases e
  | .bool _ :: _, _, _, _, _, .cons _ _, e, _ => by cases e
  | .int _ :: _, _, _, _, _, .cons _ _, e, _ => by cases e
  | .str _ :: _, _, _, _, _, .cons _ _, e, _ => by cases e
  | .list _ :: _, _, _, _, _, .cons _ _, e, _ => by cases e
  | .dict _ :: _, _, _, _, _, .cons _ _, e, _ => by cases e
  | .tuple [] :: _, _, _, _, _, .cons _ _, e, _ => by cases e
  | .tuple [x] :: _, _, _, _, _, .cons _ _, e, _ => by cases x <;> cases e
  | .tuple (.str _ :: _ :: _ :: _) :: _, _, _, _, _, .cons _ _, e, _ => by cases e
  | .tuple (.none :: _ :: _) :: _, _, _, _, _, .cons _ _, e, _ => by cases e
  | .tuple (.bool _ :: _ :: _) :: _, _, _, _, _, .cons _ _, e, _ => by cases e
  | .tuple (.int _ :: _ :: _) :: _, _, _, _, _, .cons _ _, e, _ => by cases e
  | .tuple (.list _ :: _ :: _) :: _, _, _, _, _, .cons _ _, e, _ => by cases e
  | .tuple (.tuple _ :: _ :: _) :: _, _, _, _, _, .cons _ _, e, _ => by cases e
  | .tuple (.dict _ :: _ :: _) :: _, _, _, _, _, .cons _ _, e, _ => by cases e
end
section
variable {Wp : Wk → Prop} {E : XK} {X : Cx} {ea eb : Expr} {a : DO} {da db : DE} {pos p1 p2 p3 p4 : Pos} {i j : Nat}
theorem qRev {i : Nat} (ja : JO Wp E X ea a) : JE Wp E X (.Subscript ea (.Slice none none (some (.UnaryOp .USub (.Constant (.int 1) i p1) p2)) p3) pos) (dRev a) :=
  (pe_revA ja).weak fun σ H Q ⟨W, B, M0, ρ, M, P, R, w, G, d, x, h⟩ => lO_go w G d x fun oa ρ1 v H1 M1 c G1 k1 => by
    obtain ⟨y, h1, f⟩ := c
    have r := OpdOk.pk G1 k1 h1
    cases y <;> try exact (show False from f).elim
    · obtain ⟨a, vs, rfl, ha, q⟩ := r.list_inv
      exact ⟨a, vs, rfl, .inl ⟨SqL.of ha, fun p hp => h _ _ _ _ _ _ f (Res.new G1 hp q.reverse)⟩⟩
    · obtain ⟨a, vs, rfl, ha, q⟩ := r.tup_inv
      exact ⟨a, vs, rfl, .inr ⟨ha, fun p hp => h _ _ _ _ _ _ f (Res.newT G1 hp q.reverse)⟩⟩
theorem qDict0 : JE Wp E X (.Dict [] [] pos) (dCon (.dict [])) :=
  pe_dnewK.weak fun σ H Q ⟨W, B, M0, ρ, M, P, R, w, G, d, x, h⟩ p hp => h _ _ _ _ _ _ d (.of (G.grow hp) (Rep.dct (kvs := []) (ds := []) (fun z => G.liv p z hp) upd_same .nil))
theorem qDict1 {k : Str} {n : Int} (hl : ([some (Expr.Constant (.str k) i p1)] : List (Option Expr)).length = [Expr.Constant (.int n) j p2].length := by rfl) : JE Wp E X (.Dict [some (.Constant (.str k) i p1)] [.Constant (.int n) j p2] pos) (dCon (.dict [(.str k, .int n)])) := by
  refine (pe_disp (pps_cons pe_str pe_int pps_nil) rfl rfl (by simp) (by simp)).weak fun σ H Q ⟨W, B, M0, ρ, M, P, R, w, G, d, x, h⟩ p hp => ?_
  refine ⟨upd_same, [(.inr k, .int n)], rfl, by simp, ?_⟩
  rw [upd_upd]
  exact h _ _ _ _ _ _ d (.of (G.grow hp) (Rep.dct (kvs := [(.inr k, .int n)]) (ds := [.int n]) (fun z => G.liv p z hp) upd_same (.cons (.int n) .nil)))
theorem qUniq (g : Gx X) (h1 : X.mg "list" = none) (h2 : X.mg "dict" = none) (ja : JO Wp E X ea a) (hg1 : Gl X "list" := by rfl) (hg2 : Gl X "dict" := by rfl)
    (hs1 : starEach [.Call (.Name "dict" p2) [ea] [] p3] X.env = (false, eval (.Call (.Name "dict" p2) [ea] [] p3) X.env) :: starEach [] X.env := by rfl) (hs2 : starEach [ea] X.env = (false, eval ea X.env) :: starEach [] X.env := by rfl)
    (hp1 : (backTo pos (starEach [] X.env)).any (·.1) = false := by rfl) (hp2 : (backTo p3 (starEach [] X.env)).any (·.1) = false := by rfl) : JE Wp E X (.Call (.Name "list" p1) [.Call (.Name "dict" p2) [ea] [] p3] [] pos) (dUniq a) := by
  have inner := pe_callTy (X := X) (p := p2) (pos := p3) ((call_dictP g.calm).or (call_dictT g.calm g.un)) hg2 h2 (by rfl) (pa_cons ja pa_nil hs2) (by decide) (by decide) hs2 hp2
  refine (pe_callTy ((call_list_dK g.calm).or (call_listT g.calm)) hg1 h1 (by rfl) (pa_cons inner pa_nil hs1) (by decide) (by decide) hs1 hp1).weak fun σ H Q ⟨W, B, M0, ρ, M, P, R, w, G, d, x, h⟩ => ?_
  refine lO_go w G d x fun oa ρ1 v H1 M1 c G1 k1 => ?_
  obtain ⟨xs, e1, ⟨ks, e2, c⟩ | ⟨kss, e2, c⟩⟩ := c
  · obtain ⟨l, vs, rfl, hl, rl⟩ := (OpdOk.pk G1 k1 e1).list_inv
    obtain ⟨ps, kvs, q1, q2, q3⟩ := uniq_go (kvs0 := []) rl e2 rfl
    subst q1
    refine .inl ⟨l, ps, kvs, rfl, SqL.of hl, q2, fun p hp => .inl ⟨p, _, rfl, upd_same, fun q hq => ?_⟩⟩
    have e : (mergeK [] kvs).map (fun kv => kV kv.1) = ks.map V.str := by
      have : (mergeK [] kvs).map (fun kv => kV kv.1) = ((mergeK [] kvs).map (·.1)).map kV := by rw [List.map_map]; rfl
      rw [this, q3, List.map_map]; rfl
    rw [e]
    exact h _ _ _ _ _ _ c (Res.new (G1.grow hp) hq (RepL.of_strs _))
  · obtain ⟨l, vs, rfl, hl, rl⟩ := (OpdOk.pk G1 k1 e1).list_inv
    obtain ⟨ps, ks0, q1, q2, q3⟩ := uniqT_go (acc := []) rl e2
    subst q1
    refine .inr ⟨l, ps, ks0, rfl, SqL.of hl, q2, fun p bs hp hb hz => .inr ⟨p, bs, rfl, upd_same, hz, fun q hq => ?_⟩⟩
    rw [q3] at hb
    exact h _ _ _ _ _ _ c (Res.new (G1.grow hp) hq ((RepL.of_tups hb).keep (Kp.fresh hp)))
theorem qSrtD (g : Gx X) (h1 : X.mg "sorted" = none) (h2 : X.mg "dict" = none) (ja : JO Wp E X ea a) (hg1 : Gl X "sorted" := by rfl) (hg2 : Gl X "dict" := by rfl)
    (hs1 : starEach [.Call (.Name "dict" p2) [ea] [] p3] X.env = (false, eval (.Call (.Name "dict" p2) [ea] [] p3) X.env) :: starEach [] X.env := by rfl) (hs2 : starEach [ea] X.env = (false, eval ea X.env) :: starEach [] X.env := by rfl)
    (hp1 : (backTo pos (starEach [] X.env)).any (·.1) = false := by rfl) (hp2 : (backTo p3 (starEach [] X.env)).any (·.1) = false := by rfl) : JE Wp E X (.Call (.Name "sorted" p1) [.Call (.Name "dict" p2) [ea] [] p3] [] pos) (dSrtD a) := by
  have un := g.un
  have inner := pe_callTy (X := X) (p := p2) (pos := p3) ((call_dictP g.calm).or (call_dictT g.calm g.un)) hg2 h2 (by rfl) (pa_cons ja pa_nil hs2) (by decide) (by decide) hs2 hp2
  refine (pe_callB ((call_sortedD g.calm).or (cr_sortDT g.calm (by omega))) hg1 h1 (by rfl) (pa_cons inner pa_nil hs1) (by decide) (by decide) hs1 hp1).weak fun σ H Q ⟨W, B, M0, ρ, M, P, R, w, G, d, x, h⟩ => ?_
  refine lO_go w G d x fun oa ρ1 v H1 M1 c G1 k1 => ?_
  obtain ⟨xs, e1, ⟨ks, e2, h64, c⟩ | ⟨kss, e2, c⟩⟩ := c
  · obtain ⟨l, vs, rfl, hl, rl⟩ := (OpdOk.pk G1 k1 e1).list_inv
    obtain ⟨ps, kvs, q1, q2, q3⟩ := uniq_go (kvs0 := []) rl e2 rfl
    subst q1
    refine .inl ⟨l, ps, kvs, rfl, SqL.of hl, q2, fun p hp => .inl ⟨p, _, ks, rfl, .inl upd_same, q3, h64, fun ys q pm so hq => ?_⟩⟩
    exact h _ _ _ _ _ _ (c ys pm so) (Res.new (G1.grow hp) hq (RepL.of_strs _))
  · obtain ⟨l, vs, rfl, hl, rl⟩ := (OpdOk.pk G1 k1 e1).list_inv
    obtain ⟨ps, ks0, q1, q2, q3⟩ := uniqT_go (acc := []) rl e2
    subst q1
    refine .inr ⟨l, ps, ks0, rfl, SqL.of hl, q2, fun p bs hp hb hz => .inr ⟨p, bs, kss, rfl, upd_same, hz, ?_, fun ys mss q pp pm pw hq => ?_⟩⟩
    · rw [q3] at hb
      exact L2.Paired.mapP hb fun _ _ ⟨t, e, k⟩ => ⟨t, e, (Kp.fresh (M := []) hp).sqT k⟩
    · exact h _ _ _ _ _ _ (c mss pm pw) (Res.new (G1.grow hp) hq (RepL.of_tups pp))
theorem qEnum {elts : List Expr} {kk : Nat} {tpos : Pos} (g : Gx X) (hm : X.mg "enumerate" = none) (ja : JE Wp E X ea da) (hg : Gl X "enumerate" := by rfl) (hs : starEach [ea] X.env = [(false, eval ea X.env)] := by rfl) :
    JI Wp E X (.Tuple elts kk tpos) (.Call (.Name "enumerate" p1) [ea] [] pos) (wEnum da) :=
  (pi_enumA hg hm (pa_cons ja pa_nil hs) hs).weak fun σ H Q ⟨W, B, M0, ρ, M, P, R, w, G, d, x, h⟩ => lE_go w G d x fun u fr ρ1 v H1 M1 c r => by
    obtain ⟨xs, e | e, c⟩ := c
    · have rr := r.val e
      cases rr with
      | tup ha q => exact ⟨_, _, rfl, .inr ⟨ha, fun hz => h _ _ _ _ _ c (by rw [enumD_len, ← q.length]; exact hz) r.gd (walk_enumT ha q)⟩⟩
    · have rr := r.val e
      cases rr with
      | lst hn ha q => exact ⟨_, _, rfl, .inl ⟨SqL.of ha, fun hz => h _ _ _ _ _ c (by rw [enumD_len, ← q.length]; exact hz) r.gd (walk_enumL hn ha q)⟩⟩
theorem qZipS {elts : List Expr} {kk i : Nat} {tpos kp : Pos} (g : Gx X) (hm : X.mg "zip" = none) (ja : JE Wp E X ea da) (jb : JE Wp E X eb db) (hg : Gl X "zip" := by rfl) (hs : starEach [ea, eb] X.env = (false, eval ea X.env) :: starEach [eb] X.env := by rfl) (hs2 : starEach [eb] X.env = (false, eval eb X.env) :: starEach [] X.env := by rfl)
    (hpl : ((backTo pos (starEach [ea, eb] X.env)).any (·.1) || (backToKw pos (keywordEach [⟨some "strict", .Constant (.bool true) i p2, kp⟩] X.env)).any (·.1.isNone)) = false := by rfl)
    (hall : (backToKw pos (keywordEach [⟨some "strict", .Constant (.bool true) i p2, kp⟩] X.env)).all (·.1.isSome) = true := by rfl) :
    JI Wp E X (.Tuple elts kk tpos) (.Call (.Name "zip" p1) [ea, eb] [⟨some "strict", .Constant (.bool true) i p2, kp⟩] pos) (wZipS da db) :=
  (pi_zipS hg hm (pa_cons ja (pa_cons jb pa_nil hs2) hs) hs hpl hall).weak fun σ H Q ⟨W, B, M0, ρ, M, P, R, w, G, d, x, h⟩ => lE_go w G d x fun u fr ρ1 v H1 M1 c r => lE_go' w r.gd.base c x.cons fun u' fr' ρ2 v' H2 M2 c r' => by
    obtain ⟨xs, ys, rfl, rfl, hl, c⟩ := c
    have r1 : Rep X.K H2 M2 v (.tuple xs) := r'.gd.rep r.rep
    have r2 : Rep X.K H2 M2 v' (.tuple ys) := r'.rep
    cases r1 with
    | tup ha q =>
      cases r2 with
      | tup hb q2 => exact ⟨_, _, _, _, rfl, ha, hb, fun hz => h _ _ _ _ _ c (by rw [zipD_len hl, ← q.length]; exact hz) r'.gd.tail (walk_zipS ha hb q q2 hl)⟩
end
end G9

/-! D1: a law's source of draws: a dict (its cells, a digest, a count). -/
namespace G9
open PySem PySem.Spec L2 PyProof.Rows
theorem Kp.put {M : List Addr} {H : Hp} {p : Addr} {xs ys : List (Key × V)} (hp : p ∈ M) (h : H p = some (.dK xs)) : Kp M H (upd H p (.dK ys)) := by
  refine ⟨fun a u n e => ?_, fun a u e => ?_, fun a o' u e => ?_, fun a e => ?_⟩
  · rw [upd_ne (fun z => n (by rw [z]; exact hp))]; exact e
  · rw [upd_ne (ne_of e h (fun z => nomatch z))]; exact e
  · rw [upd_ne (ne_of e h (fun z => nomatch z))]; exact e
  · by_cases z : a = p
    · rw [z, upd_same]; exact fun q => nomatch q
    · rw [upd_ne z]; exact e
/-- three keys -/
def tri (k1 k2 k3 : Str) (a b c : V) : List (Key × V) := [(.inr k1, a), (.inr k2, b), (.inr k3, c)]
theorem tri1 {k1 k2 k3 : Str} {a b c : V} : valV (tri k1 k2 k3 a b c) (.inr k1) = some a := valV_pos rfl
theorem tri2 {k1 k2 k3 : Str} {a b c : V} (h : k1 ≠ k2) : valV (tri k1 k2 k3 a b c) (.inr k2) = some b := by
  unfold tri
  rw [valV_neg (fun e => h (Sum.inr.inj e))]
  exact valV_pos rfl
theorem tri3 {k1 k2 k3 : Str} {a b c : V} (h : k1 ≠ k3) (h2 : k2 ≠ k3) : valV (tri k1 k2 k3 a b c) (.inr k3) = some c := by
  unfold tri
  rw [valV_neg (fun e => h (Sum.inr.inj e)), valV_neg (fun e => h2 (Sum.inr.inj e))]
  exact valV_pos rfl
theorem tri_put {k1 k2 k3 : Str} {a b c d : V} (h : k1 ≠ k3) (h2 : k2 ≠ k3) : putK (tri k1 k2 k3 a b c) (.inr k3) d = tri k1 k2 k3 a b d := by
  unfold putK tri
  have e1 : ¬ (Sum.inr k1 : Key) = Sum.inr k3 := fun e => h (Sum.inr.inj e)
  have e2 : ¬ (Sum.inr k2 : Key) = Sum.inr k3 := fun e => h2 (Sum.inr.inj e)
  simp [e1, e2]
structure DeckAt (k1 k2 k3 : Str) (dk c : Addr) (n : Nat) (H : Hp) : Prop where
  ex : ∃ (cs : List Int) (dg ct : Int), H dk = some (.dK (tri k1 k2 k3 (.ref c) (.int dg) (.int ct))) ∧ H c = some (.lst (cs.map V.int)) ∧ cs.length ≤ 63 ∧ 0 ≤ dg ∧ dg < 4294967296 ∧ 0 ≤ ct ∧ ct ≤ n
def deckW (k1 k2 k3 : Str) (dk c : Addr) (n : Nat) : Wk where
  dk := dk
  ad := [dk, c]
  okN := DeckAt k1 k2 k3 dk c
  n := n
  st0 := fun n H a o ha ⟨cs, dg, ct, h1, h2, h⟩ => by
    simp only [List.mem_cons, List.not_mem_nil, or_false, not_or] at ha
    exact ⟨cs, dg, ct, by rw [upd_ne (Ne.symm ha.1)]; exact h1, by rw [upd_ne (Ne.symm ha.2)]; exact h2, h⟩
  liv0 := fun n H ⟨cs, dg, ct, h1, h2, _⟩ a ha => by
    simp only [List.mem_cons, List.not_mem_nil, or_false] at ha
    rcases ha with rfl | rfl
    · rw [h1]; exact fun z => nomatch z
    · rw [h2]; exact fun z => nomatch z
  mono0 := fun n m H h ⟨cs, dg, ct, h1, h2, h3, h4, h5, h6, h7⟩ => ⟨cs, dg, ct, h1, h2, h3, h4, h5, h6, by omega⟩
def IsDeck (k1 k2 k3 : Str) (W : Wk) : Prop := ∃ dk c n, W = deckW k1 k2 k3 dk c n
theorem IsDeck.up {k1 k2 k3 : Str} {W : Wk} (h : IsDeck k1 k2 k3 W) (k : Nat) : IsDeck k1 k2 k3 (W.up k) := by
  obtain ⟨dk, c, n, rfl⟩ := h
  exact ⟨dk, c, n + k, rfl⟩
/-- * of ints whose sizes are known -/
def rMulB : R2 := rI IntMulOk fun i j => .int (i * j)
theorem op_mulB {X : Cx} : OpR X (binaryOp .Mult) rMulB := opI fun _ _ _ _ _ _ _ hc q => mul_int q hc
theorem shaped_ints (cs : List Int) : SeqAt.shaped (.list (cs.map .int)) = true := by
  have h1 : ∀ cs : List Int, PyData.canLayAll0 (cs.map .int) = true := fun cs => by
    induction cs with
    | nil => rfl
    | cons c cs ih => simp [PyData.canLayAll0, PyData.canLay0, ih]
  have h2 : ∀ cs : List Int, PyData.depthAll (cs.map .int) ≤ 1 := fun cs => by
    induction cs with
    | nil => simp [PyData.depthAll]
    | cons c cs ih => simp [PyData.depthAll, PyData.depth]; first | exact ih | omega
  unfold SeqAt.shaped
  rw [Bool.and_eq_true, decide_eq_true_iff]
  refine ⟨by simp [PyData.canLay0, h1], ?_⟩
  have := h2 cs
  simp only [PyData.depth]
  omega
theorem dp_ints {K : PySem.W.Frag} {H : Hp} {a : Addr} {cs : List Int} (h : SqL K H a (cs.map V.int)) : Dp K H (.ref a) (.list (cs.map .int)) := by
  refine .lst h ?_
  clear h
  induction cs with
  | nil => exact .nil
  | cons c cs ih => exact .cons (.int c) ih
theorem eqv_empty (cs : List Int) : PyData.eqv (.list (cs.map .int)) (.list []) = cs.isEmpty := by
  cases cs with
  | nil => rfl
  | cons c cs => rfl
/-- a count within the line may be multiplied -/
theorem count_mul {c : Int} (h0 : 0 ≤ c) (h : c ≤ LIM) (k : Int) (hk : 0 ≤ k) (hk2 : k < 4294967296) : IntMulOk (k * c) c := by
  have e : (LIM : Int) = 2 ^ 500000 := by unfold LIM; rw [Int.natCast_pow]; rfl
  rw [e] at h
  have hc : c.natAbs < 2 ^ 500001 := by
    have : c.natAbs ≤ 2 ^ 500000 := by
      have h2 : ((c.natAbs : Nat) : Int) ≤ ((2 ^ 500000 : Nat) : Int) := by rw [Int.natCast_pow]; rw [Int.natAbs_of_nonneg h0]; exact h
      exact Int.ofNat_le.mp h2
    exact Nat.lt_of_le_of_lt this (Nat.pow_lt_pow_right (by omega) (by omega))
  have hkc : (k * c).natAbs < 2 ^ 500033 := by
    rw [Int.natAbs_mul]
    have h1 : k.natAbs < 2 ^ 32 := by omega
    calc k.natAbs * c.natAbs < 2 ^ 32 * 2 ^ 500001 := Nat.mul_lt_mul_of_lt_of_lt h1 hc
      _ = 2 ^ 500033 := by rw [← Nat.pow_add]
  exact IntMulOk.of_le (intBits_le hkc) (intBits_le hc) (by omega)
theorem fmod_range {a n : Int} (h : 0 < n) : 0 ≤ a.fmod n ∧ a.fmod n < n := by
  rw [Int.fmod_eq_emod_of_nonneg a (Int.le_of_lt h)]
  exact ⟨Int.emod_nonneg _ (by omega), Int.emod_lt_of_pos _ h⟩
theorem cm_fmod {a n j : Int} (h : 0 < n) (h2 : n < 18446744073709551616) : CMul (a.fmod n) j := by
  obtain ⟨r1, r2⟩ := fmod_range (a := a) h
  exact .inl ⟨by omega, by omega⟩
end G9

/-! D3: a law: its script, its source of draws, the rest of it. -/
namespace G9
open PySem PySem.Spec L2 PyProof.Rows
def spLaw (K : PySem.W.Frag) : Sp := fun vs H Q _ => ∃ (a : Addr) (ns : List Int), vs = [.ref a] ∧ (∃ o u, H sysModules = some (.frz o u)) ∧ SqL K H a (ns.map V.int) ∧ ∀ H', Q (.bl true) H'
theorem law_gd {W : Wk} {K : PySem.W.Frag} {H : Hp} {v0 : Option V} {n : Nat} (ok : W.ok H) (sm : ∃ o u, H sysModules = some (.frz o u)) :
    Gd W K [⟨H, W.ad, W.ad⟩] W.ad (none :: some ⟨false, .deck⟩ :: List.replicate n none) (v0 :: some (.ref W.dk) :: List.replicate n none) H W.ad := by
  have no : ∀ {i : Nat} {e : Ent}, (none :: some ⟨false, .deck⟩ :: List.replicate n none : En)[i]? = some (some e) → i = 1 ∧ e = ⟨false, .deck⟩ := by
    intro i e h
    match i, h with
    | 0, h => cases h
    | 1, h => cases h; exact ⟨rfl, rfl⟩
    | i + 2, h =>
      have h : (List.replicate n none : En)[i]? = some (some e) := h
      rw [List.getElem?_replicate] at h
      split at h <;> cases h
  refine ⟨sm, ok, fun _ z => z, fun _ z => z, W.liv H ok, ?_, fun b hb => ?_, fun i e h => ?_, fun i j e e' a h1 h2 _ _ _ _ => ?_⟩
  · simp
  · obtain rfl : b = _ := List.mem_singleton.mp hb
    exact ⟨Kp.refl _ _, fun _ z => z, fun _ z => .inl z, fun a ⟨i, e, h1, h2, _⟩ => by obtain ⟨_, rfl⟩ := no h1; cases h2⟩
  · obtain ⟨rfl, rfl⟩ := no h
    refine ⟨_, rfl, ?_⟩
    unfold EntOk
    rw [if_neg (by simp)]
    rfl
  · obtain ⟨_, rfl⟩ := no h1; cases h2
theorem law_go {Wp : Wk → Prop} {W : Wk} {K : PySem.W.Frag} {mg : Str → Option Value} {E : XK} {d : DS} {H : Hp} {v0 : Option V} {n : Nat} {Q : VK} (wp : WP Wp W d.m) (ok : W.ok H) (sm : ∃ o u, H sysModules = some (.frz o u))
    (hl : ∀ (P : U → Bool → Prop) (R : RK), P (.d (.bool true)) false → d.f (none :: some ⟨false, .deck⟩ :: List.replicate n none) (dk P R)) (q : ∀ H', Q (.bl true) H') :
    lS Wp K mg E d { nx := fun _ H' => Q .non H', rt := Q } (v0 :: some (.ref W.dk) :: List.replicate n none) H := by
  refine ⟨W, H, [], W.ad, _, W.ad, dk (fun u fr => u = .d (.bool true) ∧ fr = false) X0, wp, law_gd ok sm, hl _ _ ⟨rfl, rfl⟩, .inl fun _ z => z, fun σ' ρ' H' M' _ c G => ?_, fun u fr v H' c r => ?_, fun _ _ _ _ _ c _ => c.elim, fun _ _ _ _ _ c _ => c.elim⟩
  · obtain ⟨c, _⟩ := (show U.d .none = U.d (.bool true) ∧ _ from c)
    cases c
  · obtain ⟨rfl, rfl⟩ := c
    have r := r.2.2
    rw [if_neg (by simp)] at r
    rw [show v = .bl true from Rep.bool_inv r]
    exact q H'
end G9

namespace G9
open PySem PySem.Spec L2 PyProof.Rows
theorem lcL_pure {f : PyData → En → (Option PyData → En → Prop) → Prop} {Q : List PyData → En → Prop} (b : PyData → Bool) (g : PyData → PyData) (I : En → Prop) : ∀ {xs : List PyData} {ρ : En} {acc : List PyData}, I ρ →
    (∀ x ∈ xs, ∀ ρ k, I ρ → (∀ ρ', I ρ' → k (if b x = true then some (g x) else none) ρ') → f x ρ k) → (∀ ρ', I ρ' → Q (acc ++ (xs.filter b).map g) ρ') → lcL f xs ρ acc Q
  | [], ρ, acc, h0, _, q => by simpa [lcL] using q ρ h0
  | x :: r, ρ, acc, h0, st, q => by
    refine st x List.mem_cons_self ρ _ h0 fun ρ' h1 => ?_
    by_cases hb : b x = true
    · rw [if_pos hb]
      refine lcL_pure b g I h1 (fun y hy => st y (List.mem_cons_of_mem _ hy)) fun ρ2 h2 => ?_
      have := q ρ2 h2
      rw [List.filter_cons_of_pos hb, List.map_cons] at this
      rw [List.append_assoc]; exact this
    · rw [if_neg hb]
      refine lcL_pure b g I h1 (fun y hy => st y (List.mem_cons_of_mem _ hy)) fun ρ2 h2 => ?_
      have := q ρ2 h2
      rw [List.filter_cons_of_neg hb] at this
      exact this
theorem lcL_map {f : PyData → En → (Option PyData → En → Prop) → Prop} {Q : List PyData → En → Prop} (g : PyData → PyData) (I : En → Prop) {xs : List PyData} {ρ : En} (h : I ρ)
    (st : ∀ x ∈ xs, ∀ ρ k, I ρ → (∀ ρ', I ρ' → k (some (g x)) ρ') → f x ρ k) (q : ∀ ρ', I ρ' → Q (xs.map g) ρ') : lcL f xs ρ [] Q :=
  lcL_pure (fun _ => true) g I h (fun x hx ρ k i hk => st x hx ρ k i fun ρ' i' => by have := hk ρ' i'; rw [if_pos rfl] at this; exact this) fun ρ' i => by
    rw [List.nil_append, List.filter_eq_self.mpr (fun _ _ => rfl)]; exact q ρ' i
theorem lcL_inv0 {f : PyData → En → (Option PyData → En → Prop) → Prop} {Q : List PyData → En → Prop} (J : Nat → List PyData → En → Prop) : ∀ {xs : List PyData} {ρ : En} {acc : List PyData} {n : Nat}, J n acc ρ →
    (∀ n, ∀ x ∈ xs, ∀ acc ρ k, J n acc ρ → (∀ y ρ', J (n + 1) (acc ++ [y]) ρ' → k (some y) ρ') → (∀ ρ', J (n + 1) acc ρ' → k none ρ') → f x ρ k) → (∀ acc ρ', J (n + xs.length) acc ρ' → Q acc ρ') → lcL f xs ρ acc Q
  | [], ρ, acc, n, h0, _, q => q acc ρ h0
  | x :: r, ρ, acc, n, h0, st, q => by
    have q' : ∀ acc ρ', J (n + 1 + r.length) acc ρ' → Q acc ρ' := fun acc ρ' h => q acc ρ' (by rw [List.length_cons, ← Nat.add_assoc, Nat.add_right_comm]; exact h)
    exact st n x List.mem_cons_self acc ρ _ h0 (fun y ρ' h => lcL_inv0 J h (fun m y hy => st m y (List.mem_cons_of_mem _ hy)) q') (fun ρ' h => lcL_inv0 J h (fun m y hy => st m y (List.mem_cons_of_mem _ hy)) q')
theorem lcL_inv {f : PyData → En → (Option PyData → En → Prop) → Prop} {Q : List PyData → En → Prop} (J : Nat → List PyData → En → Prop) {xs : List PyData} {ρ : En} (h0 : J 0 [] ρ)
    (st : ∀ n, ∀ x ∈ xs, ∀ acc ρ k, J n acc ρ → (∀ y ρ', J (n + 1) (acc ++ [y]) ρ' → k (some y) ρ') → (∀ ρ', J (n + 1) acc ρ' → k none ρ') → f x ρ k) (q : ∀ acc ρ', J xs.length acc ρ' → Q acc ρ') : lcL f xs ρ [] Q :=
  lcL_inv0 J h0 st fun acc ρ' h => q acc ρ' (by rw [Nat.zero_add] at h; exact h)
theorem forL_inv0 {f : PyData → En → (En → Prop) → Prop} {Q : En → Prop} (J : Nat → En → Prop) (N : Nat) : ∀ {xs : List PyData} {ρ : En} {n : Nat}, n + xs.length = N → J n ρ →
    (∀ n x ρ k, n < N → x ∈ xs → J n ρ → (∀ ρ', J (n + 1) ρ' → k ρ') → f x ρ k) → (∀ ρ', J N ρ' → Q ρ') → forL f xs ρ Q
  | [], ρ, n, e, h0, _, q => q ρ (by rw [← e]; exact h0)
  | x :: r, ρ, n, e, h0, st, q => st n x ρ _ (by rw [List.length_cons] at e; omega) List.mem_cons_self h0 fun ρ' h => forL_inv0 J N (by rw [List.length_cons] at e; omega) h (fun m y ρ k hm hy => st m y ρ k hm (List.mem_cons_of_mem _ hy)) q
theorem forL_inv {f : PyData → En → (En → Prop) → Prop} {Q : En → Prop} (J : Nat → En → Prop) (N : Nat) {xs : List PyData} {ρ : En} (e : xs.length = N) (h : J 0 ρ)
    (st : ∀ n x ρ k, n < N → x ∈ xs → J n ρ → (∀ ρ', J (n + 1) ρ' → k ρ') → f x ρ k) (q : ∀ ρ', J N ρ' → Q ρ') : forL f xs ρ Q :=
  forL_inv0 J N (by rw [Nat.zero_add]; exact e) h st q
theorem iteB {b : Bool} {A B : Prop} (h : b = true → A) (h' : b = false → B) : if b = true then A else B := by
  cases b
  · rw [if_neg (by simp)]; exact h' rfl
  · rw [if_pos rfl]; exact h rfl
theorem gF {b : Bool} {A B : Prop} (h : B) (e : b = false := by rfl) : if b = true then A else B := by
  subst e; rw [if_neg (by simp)]; exact h
theorem gT {b : Bool} {A B : Prop} (h : A) (e : b = true := by rfl) : if b = true then A else B := by
  subst e; rw [if_pos rfl]; exact h
theorem tB {b : Bool} {Q : Bool → Prop} (h : b = true → Q true) (h' : b = false → Q false) : truS (.bool b) Q := by
  cases b
  · exact h' rfl
  · exact h rfl
theorem cLe {i j : Int} {Q : Bool → Prop} (h : i ≤ j → Q true) (h' : j < i → Q false) : cmS .le (.int i) (.int j) Q := by
  show Q (decide (i ≤ j))
  by_cases c : i ≤ j
  · rw [decide_eq_true c]; exact h c
  · rw [decide_eq_false c]; exact h' (by omega)
theorem cGt {i j : Int} {Q : Bool → Prop} (h : j < i → Q true) (h' : i ≤ j → Q false) : cmS .gt (.int i) (.int j) Q := by
  show Q (decide (j < i))
  by_cases c : j < i
  · rw [decide_eq_true c]; exact h c
  · rw [decide_eq_false c]; exact h' (by omega)
theorem cEq {i j : Int} {Q : Bool → Prop} (h : i = j → Q true) (h' : i ≠ j → Q false) : cmS .eq (.int i) (.int j) Q := by
  refine ⟨.inl ⟨rfl, rfl⟩, ?_⟩
  show Q (decide (i = j))
  by_cases c : i = j
  · rw [decide_eq_true c]; exact h c
  · rw [decide_eq_false c]; exact h' c
def letB (c : Nat) : Bool := decide (97 ≤ c) && decide (c ≤ 122)
def nameB : PyData → Bool
  | .str s => decide (1 ≤ s.length) && decide (s.length ≤ 6) && s.cps.toList.all letB
  | _ => false
/-- what is asked of a text: it is not long -/
def StrOk (x : PyData) : Prop := ∀ s, x = .str s → s.length ≤ sizeLine
theorem letters_mem (c : Nat) : decide (c ∈ ("abcdefghijklmnopqrstuvwxyz" : Str).cps.toList) = letB c := by
  have e : ("abcdefghijklmnopqrstuvwxyz" : Str).cps.toList = [97,98,99,100,101,102,103,104,105,106,107,108,109,110,111,112,113,114,115,116,117,118,119,120,121,122] := by decide +kernel
  rw [e]
  unfold letB
  rw [← Bool.decide_and, decide_eq_decide]
  simp only [List.mem_cons, List.not_mem_nil, or_false]
  omega
theorem boolsD_of : ∀ bs : List Bool, boolsD (bs.map .bool) = some bs
  | [] => rfl
  | b :: r => by show (boolsD (r.map .bool)).map (b :: ·) = _; rw [boolsD_of r]; rfl
theorem name_len {s : Str} : (decide ((1 : Int) ≤ (s.length : Int)) = true) ↔ 1 ≤ s.length := by rw [decide_eq_true_iff]; omega
theorem nameB_str {s : Str} (h1 : 1 ≤ s.length) (h2 : s.length ≤ 6) : nameB (.str s) = s.cps.toList.all letB := by
  simp only [nameB]
  rw [decide_eq_true h1, decide_eq_true h2]
  simp
theorem nameB_no {s : Str} (h : ¬ (1 ≤ s.length ∧ s.length ≤ 6)) : nameB (.str s) = false := by
  simp only [nameB, Bool.and_eq_false_iff, decide_eq_false_iff_not]
  exact .inl (by omega)
theorem cutD_init {α : Type} (xs : List α) : cutD xs none (some (-1)) = xs.dropLast := by
  unfold cutD
  rw [HT.sIx_none]
  have e : HT.sIx xs.length xs.length (some (-1)) = xs.length - 1 := by
    unfold HT.sIx
    simp only
    rw [if_pos (by omega)]
    omega
  rw [e, List.drop_zero, Nat.sub_zero, List.dropLast_eq_take]
theorem cutD_tail {α : Type} (xs : List α) : cutD xs (some 1) none = xs.tail := by
  unfold cutD
  rw [HT.sIx_none]
  have e : HT.sIx xs.length 0 (some 1) = min 1 xs.length := HT.sIx_nat _ _ 1
  rw [e]
  cases xs with
  | nil => rfl
  | cons x r =>
    have e2 : min 1 (x :: r).length = 1 := by rw [List.length_cons]; omega
    rw [e2, List.drop_one, List.tail_cons, List.length_cons, Nat.add_sub_cancel, List.take_length]
theorem cutD_mem {α : Type} {xs : List α} {lo hi : Option Int} {x : α} (h : x ∈ cutD xs lo hi) : x ∈ xs := List.mem_of_mem_drop (List.mem_of_mem_take h)
theorem cutD_len {α : Type} (xs : List α) (lo hi : Option Int) : (cutD xs lo hi).length ≤ xs.length := by
  unfold cutD
  rw [List.length_take, List.length_drop]
  omega
theorem cutD_map {α β : Type} (f : α → β) (xs : List α) (lo hi : Option Int) : cutD (xs.map f) lo hi = (cutD xs lo hi).map f := by
  unfold cutD
  rw [List.length_map, List.map_take, List.map_drop]
theorem cutS_mem {s : Str} {lo hi : Option Int} {c : Nat} (h : c ∈ (cutS s lo hi).cps.toList) : c ∈ s.cps.toList := by
  unfold cutS at h
  rw [List.toList_toArray] at h
  exact List.mem_of_mem_drop (List.mem_of_mem_take h)
theorem join_empty (zs : List Str) : (Txt.join "" zs).cps.toList = (zs.map fun z => z.cps.toList).flatten := by
  have go : ∀ zs : List Str, (Str.join "" zs).cps.toList = (zs.map fun z => z.cps.toList).flatten := fun zs => by
    induction zs with
    | nil => rfl
    | cons z r ih =>
      cases r with
      | nil => simp [Str.join]
      | cons y r =>
        show (z ++ ("" : Str) ++ Str.join "" (y :: r)).cps.toList = _
        have e : ∀ a b : Str, (a ++ b).cps.toList = a.cps.toList ++ b.cps.toList := fun a b => by show (a.cps ++ b.cps).toList = _; simp
        rw [e, e, ih]
        have e0 : ("" : Str).cps.toList = [] := rfl
        rw [e0, List.append_nil, List.map_cons (l := y :: r), List.flatten_cons]
  have e : Txt.join "" zs = Str.join "" zs := StrLaws.glued_eq_join _ _
  rw [e]
  exact go zs
/-! ### bounded data -/
structure Ok (x : PyData) (d w : Nat) : Prop where
  sh : x.showable = true
  lv : x.leavesShort 45 = true
  dp : x.depth ≤ d
  wt : x.weight ≤ w
theorem Ok.mono {x : PyData} {d w d' w' : Nat} (h : Ok x d w) (a : d ≤ d') (b : w ≤ w') : Ok x d' w' := ⟨h.sh, h.lv, Nat.le_trans h.dp a, Nat.le_trans h.wt b⟩
theorem Ok.str {s : Str} {w : Nat} (h : ∀ c ∈ s.cps.toList, c < 128) (hl : s.length ≤ w) : Ok (.str s) 0 w :=
  ⟨rfl, by simp only [PyData.leavesShort, List.all_eq_true, decide_eq_true_eq]; intro c hc; have := h c hc; have e : (16 : Nat) ^ 8 = 4294967296 := by decide
           omega, Nat.le_refl _, hl⟩
theorem ok_all {xs : List PyData} {d w : Nat} (h : ∀ x ∈ xs, Ok x d w) : PyData.showableAll xs = true ∧ PyData.leavesShortAll 45 xs = true ∧ PyData.depthAll xs ≤ d ∧ PyData.weightAll xs ≤ (w + 1) * xs.length := by
  induction xs with
  | nil => exact ⟨rfl, rfl, Nat.zero_le _, Nat.zero_le _⟩
  | cons x r ih =>
    obtain ⟨a, b, c, e⟩ := ih fun y hy => h y (List.mem_cons_of_mem _ hy)
    have hx := h x List.mem_cons_self
    refine ⟨by simp only [PyData.showableAll, hx.sh, a, Bool.and_self], by simp only [PyData.leavesShortAll, hx.lv, b, Bool.and_self], ?_, ?_⟩
    · simp only [PyData.depthAll]
      exact Nat.max_le.mpr ⟨hx.dp, c⟩
    · simp only [PyData.weightAll, List.length_cons, Nat.mul_add, Nat.mul_one]
      have := hx.wt
      omega
theorem Ok.tup {xs : List PyData} {d w n : Nat} (h : ∀ x ∈ xs, Ok x d w) (hn : xs.length ≤ n) : Ok (.tuple xs) (d + 1) ((w + 1) * n) := by
  obtain ⟨a, b, c, e⟩ := ok_all h
  refine ⟨by simp only [PyData.showable]; exact a, by simp only [PyData.leavesShort]; exact b, by simp only [PyData.depth]; omega, ?_⟩
  simp only [PyData.weight]
  exact Nat.le_trans e (Nat.mul_le_mul_left _ hn)
theorem Ok.lst {xs : List PyData} {d w n : Nat} (h : ∀ x ∈ xs, Ok x d w) (hn : xs.length ≤ n) : Ok (.list xs) (d + 1) ((w + 1) * n) := by
  obtain ⟨a, b, c, e⟩ := ok_all h
  refine ⟨by simp only [PyData.showable]; exact a, by simp only [PyData.leavesShort]; exact b, by simp only [PyData.depth]; omega, ?_⟩
  simp only [PyData.weight]
  exact Nat.le_trans e (Nat.mul_le_mul_left _ hn)
theorem Ok.shown {x : PyData} {d w : Nat} (h : Ok x d w) (hw : w ≤ 300000) : x.shown.length ≤ sizeLine := by
  have := PyData.shown_le 45 (by decide) x h.lv
  have := h.wt
  rw [sizeLine_eq]
  omega
theorem Ok.strLen {s : Str} {d w : Nat} (h : Ok (.str s) d w) : s.length ≤ w := h.wt
theorem weightAll_mem {xs : List PyData} {x : PyData} (h : x ∈ xs) : x.weight ≤ PyData.weightAll xs := by
  induction xs with
  | nil => cases h
  | cons y r ih =>
    simp only [PyData.weightAll]
    rcases List.mem_cons.mp h with rfl | h
    · omega
    · have := ih h; omega
/-! ### names -/
def ascB : List Str → Bool
  | a :: b :: r => ltS a b && ascB (b :: r)
  | _ => true
theorem ascB_zip : ∀ ss : List Str, (List.zipWith ltS ss.dropLast ss.tail).all id = ascB ss
  | [] => rfl
  | [_] => rfl
  | a :: b :: r => by
    show (ltS a b :: List.zipWith ltS (b :: r).dropLast (b :: r).tail).all id = (ltS a b && ascB (b :: r))
    rw [List.all_cons, ascB_zip (b :: r)]
    rfl
theorem mem_zipD {xs ys : List PyData} {x : PyData} (h : x ∈ zipD xs ys) : ∃ a ∈ xs, ∃ b ∈ ys, x = .tuple [a, b] := by
  unfold zipD at h
  obtain ⟨i, hi⟩ := List.getElem?_of_mem h
  rw [List.getElem?_zipWith] at hi
  cases ha : xs[i]? with
  | none => rw [ha] at hi; cases hi
  | some a =>
    cases hb : ys[i]? with
    | none => rw [ha, hb] at hi; cases hi
    | some b =>
      rw [ha, hb] at hi
      cases hi
      exact ⟨a, List.mem_of_getElem? ha, b, List.mem_of_getElem? hb, rfl⟩
end G9

/-! Q2: plain: short texts, ascending lists of names, party sets, maximal sets. -/
namespace G9
open PySem PySem.Spec L2 PyProof.Rows
theorem atI_some {α : Type} {xs : List α} {i : Int} (h0 : 0 ≤ i) (h : i < xs.length) : ∃ y, atI xs i = some y ∧ y ∈ xs := by
  obtain ⟨j, rfl⟩ := Int.eq_ofNat_of_zero_le h0
  have hj : j < xs.length := by omega
  exact ⟨xs[j], atI_nat (List.getElem?_eq_getElem hj), List.getElem_mem hj⟩
/-- a short text -/
structure Sht (n : Nat) (s : Str) : Prop where
  len : s.length ≤ n
  cps : ∀ c ∈ s.cps.toList, c < 128
theorem mulOk_one (c : Nat) (n : Int) (h0 : 0 ≤ n) (h : n ≤ 1000) : MulOk ⟨#[c]⟩ n := by
  have e : (⟨#[c]⟩ : Str).length = 1 := rfl
  refine ⟨?_, fun h1 _ => ?_, fun h1 _ => ?_⟩
  · simp only [Bool.or_eq_false_iff, decide_eq_false_iff_not]
    omega
  · rw [e]
    have : 1 ≤ (2 ^ 63 - 1 : Int) / n := (Int.le_ediv_iff_mul_le (by omega)).mpr (by omega)
    omega
  · rw [e]
    show decide (1 * n.toNat > sizeLine) = false
    rw [sizeLine_eq]
    exact decide_eq_false (by omega)
theorem sht_mul {c : Nat} {n : Int} {k : Nat} (hc : c < 128) (h : n ≤ k) : Sht k (Txt.mul ⟨#[c]⟩ n) := by
  have e := mul_one_list c n
  refine ⟨?_, fun x hx => ?_⟩
  · show (Txt.mul ⟨#[c]⟩ n).cps.size ≤ k
    rw [← Array.length_toList, e, List.length_replicate]
    omega
  · rw [e] at hx
    rw [List.eq_of_mem_replicate hx]
    exact hc
theorem letters_lt {c : Nat} (h : c ∈ ("abcdefghijklmnopqrstuvwxyz" : Str).cps.toList) : c < 128 := by
  have := letters_mem c
  rw [decide_eq_true h] at this
  have := this.symm
  unfold letB at this
  simp only [Bool.and_eq_true, decide_eq_true_iff] at this
  omega
theorem cat_list (a b : Str) : (a ++ b).cps.toList = a.cps.toList ++ b.cps.toList := by show (a.cps ++ b.cps).toList = _; simp
theorem Sht.cut {n : Nat} {s : Str} (h : Sht n s) (lo hi : Option Int) : Sht n (cutS s lo hi) := ⟨Nat.le_trans (cutS_length s lo hi) h.len, fun c hc => h.cps c (cutS_mem hc)⟩
theorem Sht.app {n m : Nat} {a b : Str} (h : Sht n a) (k : Sht m b) : Sht (n + m) (a ++ b) := by
  refine ⟨?_, fun c hc => ?_⟩
  · show (a ++ b).cps.size ≤ _
    rw [← Array.length_toList, cat_list, List.length_append]
    exact Nat.add_le_add h.len k.len
  · rw [cat_list] at hc
    exact (List.mem_append.mp hc).elim (h.cps c) (k.cps c)
theorem Sht.one {c : Nat} (h : c < 128) : Sht 1 ⟨#[c]⟩ := ⟨Nat.le_refl _, fun x hx => by rw [List.mem_singleton.mp hx]; exact h⟩
theorem Sht.mono {n m : Nat} {a : Str} (h : Sht n a) (k : n ≤ m) : Sht m a := ⟨Nat.le_trans h.len k, h.cps⟩
theorem strsD_of : ∀ ss : List Str, strsD (ss.map .str) = some ss
  | [] => rfl
  | b :: r => by show (strsD (r.map .str)).map (b :: ·) = _; rw [strsD_of r]; rfl
theorem tupsD_of : ∀ ss : List (List Str), tupsD (ss.map tupS) = some ss
  | [] => rfl
  | b :: r => by show (strsD (b.map .str)).bind (fun s => (tupsD (r.map tupS)).map (s :: ·)) = _; rw [strsD_of b, tupsD_of r]; rfl
theorem join_signs (cs : List Nat) : (Txt.join "" (cs.map fun c => (⟨#[c]⟩ : Str))).cps.toList = cs := by
  rw [join_empty, List.map_map]
  induction cs with
  | nil => rfl
  | cons c r ih => rw [List.map_cons, List.flatten_cons, ih]; rfl
theorem cNil {L : List PyData} {Q : Bool → Prop} (h : Q L.isEmpty) : cmS .eq (.list L) (.list []) Q := by
  refine ⟨.inr (.inl ⟨_, _, rfl, rfl, .inr rfl⟩), ?_⟩
  rw [eqv_len (.inr rfl)]
  cases L <;> exact h
theorem cNilN {L : List PyData} {Q : Bool → Prop} (h : Q (!L.isEmpty)) : cmS .ne (.list L) (.list []) Q := by
  refine ⟨.inr (.inl ⟨_, _, rfl, rfl, .inr rfl⟩), ?_⟩
  rw [eqv_len (.inr rfl)]
  cases L <;> exact h
theorem filter_not_empty {α : Type} (p : α → Bool) (xs : List α) : (xs.filter fun x => !p x).isEmpty = xs.all p := by
  induction xs with
  | nil => rfl
  | cons x r ih => cases h : p x <;> simp [List.filter_cons, h]; simpa using ih
theorem filter_empty {α : Type} (p : α → Bool) (xs : List α) : (xs.filter p).isEmpty = xs.all fun x => !p x := by
  induction xs with
  | nil => rfl
  | cons x r ih => cases h : p x <;> simp [List.filter_cons, h]; simpa using ih
/-! ### data that may be compared -/
structure Lay (x : PyData) (d : Nat) : Prop where
  cl : x.canLay0 = true
  dp : x.depth ≤ d
theorem Lay.sh {x : PyData} {d : Nat} (h : Lay x d) (hd : d ≤ 64) : SeqAt.shaped x = true := by
  unfold SeqAt.shaped
  rw [h.cl, decide_eq_true (Nat.le_trans h.dp hd)]
  rfl
theorem lay_all {xs : List PyData} {d : Nat} (h : ∀ x ∈ xs, Lay x d) : PyData.canLayAll0 xs = true ∧ PyData.depthAll xs ≤ d := by
  induction xs with
  | nil => exact ⟨rfl, Nat.zero_le _⟩
  | cons x r ih =>
    obtain ⟨a, b⟩ := ih fun y hy => h y (List.mem_cons_of_mem _ hy)
    have z := h x List.mem_cons_self
    exact ⟨by simp only [PyData.canLayAll0, z.cl, a, Bool.and_self], by simp only [PyData.depthAll]; exact Nat.max_le.mpr ⟨z.dp, b⟩⟩
theorem Lay.tup {xs : List PyData} {d : Nat} (h : ∀ x ∈ xs, Lay x d) : Lay (.tuple xs) (d + 1) := by
  obtain ⟨a, b⟩ := lay_all h
  exact ⟨by simp only [PyData.canLay0]; exact a, by simp only [PyData.depth]; omega⟩
theorem Lay.lst {xs : List PyData} {d : Nat} (h : ∀ x ∈ xs, Lay x d) : Lay (.list xs) (d + 1) := by
  obtain ⟨a, b⟩ := lay_all h
  exact ⟨by simp only [PyData.canLay0]; exact a, by simp only [PyData.depth]; omega⟩
theorem Lay.mono {x : PyData} {d d' : Nat} (h : Lay x d) (k : d ≤ d') : Lay x d' := ⟨h.cl, Nat.le_trans h.dp k⟩
theorem eqv_str (a b : Str) : PyData.eqv (.str a) (.str b) = decide (a = b) := by
  by_cases h : a = b
  · subst h; simp [PyData.eqv]
  · rw [decide_eq_false h]; simp [PyData.eqv, h]
/-- texts that are the same -/
theorem cNeS {a b : Str} {Q : Bool → Prop} (e : a = b) (h : Q false) : cmS .ne (.str a) (.str b) Q := by
  refine ⟨.inr (.inr ⟨_, _, rfl, rfl⟩), ?_⟩
  rw [eqv_str, decide_eq_true e]
  exact h
theorem cEqS {a b : Str} {Q : Bool → Prop} (e : a = b) (h : Q true) : cmS .eq (.str a) (.str b) Q := by
  refine ⟨.inr (.inr ⟨_, _, rfl, rfl⟩), ?_⟩
  rw [eqv_str, decide_eq_true e]
  exact h
theorem eqv_strs : ∀ a b : List Str, PyData.eqvAll (a.map .str) (b.map .str) = decide (a = b)
  | [], [] => by simp [PyData.eqvAll]
  | [], _ :: _ => by simp [PyData.eqvAll]
  | _ :: _, [] => by simp [PyData.eqvAll]
  | x :: a, y :: b => by
    simp only [List.map_cons, PyData.eqvAll]
    rw [eqv_str, eqv_strs a b]
    by_cases h : x = y <;> by_cases k : a = b <;> simp [h, k]
theorem eqv_tupS (a b : List Str) : PyData.eqv (tupS a) (tupS b) = decide (a = b) := by
  show PyData.eqv (.tuple _) (.tuple _) = _
  simp only [PyData.eqv]
  exact eqv_strs a b
theorem inD_str (s : Str) (ss : List Str) : inD (.str s) (ss.map .str) = decide (s ∈ ss) := by
  unfold inD
  induction ss with
  | nil => rfl
  | cons x r ih =>
    rw [List.map_cons, List.any_cons, ih, eqv_str, Bool.eq_iff_iff]
    simp only [Bool.or_eq_true, decide_eq_true_eq, List.mem_cons]
    exact or_congr ⟨Eq.symm, Eq.symm⟩ Iff.rfl
theorem inD_tup (s : List Str) (ss : List (List Str)) : inD (tupS s) (ss.map tupS) = decide (s ∈ ss) := by
  unfold inD
  induction ss with
  | nil => rfl
  | cons x r ih =>
    rw [List.map_cons, List.any_cons, ih, eqv_tupS, Bool.eq_iff_iff]
    simp only [Bool.or_eq_true, decide_eq_true_eq, List.mem_cons]
    exact or_congr ⟨Eq.symm, Eq.symm⟩ Iff.rfl
/-! ### ascending lists -/
def Asc (ss : List Str) : Prop := ss.Pairwise fun a b => ltS a b = true
theorem rising_pw : ∀ {ss : List Str} {p : Str}, risingS p ss = true → ∀ x ∈ ss, ltS x p = false
  | [], _, _, x, hx => nomatch hx
  | y :: r, p, h, x, hx => by
    have h : (!ltCps y.cps.toList p.cps.toList && risingS y r) = true := h
    rw [Bool.and_eq_true] at h
    have e : ltS y p = false := by
      have z : ltCps y.cps.toList p.cps.toList = false := by simpa using h.1
      rw [ltCps_eq] at z
      exact z
    rcases List.mem_cons.mp hx with rfl | hx
    · exact e
    · have z := rising_pw h.2 x hx
      cases c : ltS x p with
      | false => rfl
      | true =>
        cases d : ltS p y with
        | true => rw [ltS_trans c d] at z; cases z
        | false => rw [ltS_tri d e] at c; rw [c] at z; cases z
theorem sorted_pw : ∀ {ss : List Str}, sortedS ss = true → ss.Pairwise fun a b => ltS b a = false
  | [], _ => .nil
  | x :: r, h => by
    have h : risingS x r = true := h
    refine List.pairwise_cons.mpr ⟨rising_pw h, sorted_pw ?_⟩
    cases r with
    | nil => rfl
    | cons y t =>
      have h : (!ltCps y.cps.toList x.cps.toList && risingS y t) = true := h
      rw [Bool.and_eq_true] at h
      exact h.2
theorem asc_of {ss : List Str} (h : sortedS ss = true) (nd : ss.Nodup) : Asc ss := by
  have z := sorted_pw h
  unfold Asc
  induction ss with
  | nil => exact .nil
  | cons x r ih =>
    obtain ⟨z1, z2⟩ := List.pairwise_cons.mp z
    obtain ⟨n1, n2⟩ := List.nodup_cons.mp nd
    refine List.pairwise_cons.mpr ⟨fun y hy => ?_, ih (by
      have h : risingS x r = true := h
      cases r with
      | nil => rfl
      | cons y t =>
        have h : (!ltCps y.cps.toList x.cps.toList && risingS y t) = true := h
        rw [Bool.and_eq_true] at h
        exact h.2) n2 z2⟩
    cases c : ltS x y with
    | true => rfl
    | false => exact absurd (ltS_tri c (z1 y hy)) fun e => n1 (by rw [e]; exact hy)
theorem Asc.nd {ss : List Str} (h : Asc ss) : ss.Nodup := h.imp fun {a b} k e => by rw [e, ltS_irrefl] at k; cases k
theorem Asc.sub {a l : List Str} (h : Asc l) (k : a.Sublist l) : Asc a := List.Pairwise.sublist k h
theorem asc_uniq : ∀ {a b : List Str}, Asc a → Asc b → (∀ x, x ∈ a ↔ x ∈ b) → a = b
  | [], [], _, _, _ => rfl
  | [], y :: t, _, _, h => nomatch (h y).mpr List.mem_cons_self
  | x :: r, [], _, _, h => nomatch (h x).mp List.mem_cons_self
  | x :: r, y :: t, ha, hb, h => by
    obtain ⟨a1, a2⟩ := List.pairwise_cons.mp ha
    obtain ⟨b1, b2⟩ := List.pairwise_cons.mp hb
    have no : ∀ {p q : Str}, ltS p q = true → ltS q p = true → False := fun k l => by have := ltS_trans k l; rw [ltS_irrefl] at this; cases this
    have e : x = y := by
      rcases List.mem_cons.mp ((h x).mp List.mem_cons_self) with e | m
      · exact e
      · rcases List.mem_cons.mp ((h y).mpr List.mem_cons_self) with e | n
        · exact e.symm
        · exact (no (b1 x m) (a1 y n)).elim
    subst e
    rw [asc_uniq a2 b2 fun z => ⟨fun hz => ?_, fun hz => ?_⟩]
    · rcases List.mem_cons.mp ((h z).mp (List.mem_cons_of_mem _ hz)) with e | m
      · subst e; exact (no (a1 _ hz) (a1 _ hz)).elim
      · exact m
    · rcases List.mem_cons.mp ((h z).mpr (List.mem_cons_of_mem _ hz)) with e | m
      · subst e; exact (no (b1 _ hz) (b1 _ hz)).elim
      · exact m
theorem ascB_of {ss : List Str} (h : Asc ss) : ascB ss = true := by
  induction ss with
  | nil => rfl
  | cons x r ih =>
    obtain ⟨h1, h2⟩ := List.pairwise_cons.mp h
    cases r with
    | nil => rfl
    | cons y t =>
      show (ltS x y && ascB (y :: t)) = true
      rw [h1 y List.mem_cons_self, ih h2]
      rfl
theorem of_ascB : ∀ {ss : List Str}, ascB ss = true → Asc ss
  | [], _ => .nil
  | [x], _ => List.pairwise_singleton _ _
  | x :: y :: t, h => by
    have h : (ltS x y && ascB (y :: t)) = true := h
    rw [Bool.and_eq_true] at h
    have ih := of_ascB h.2
    refine List.pairwise_cons.mpr ⟨fun z hz => ?_, ih⟩
    rcases List.mem_cons.mp hz with rfl | hz
    · exact h.1
    · exact ltS_trans h.1 ((List.pairwise_cons.mp ih).1 z hz)
/-! ### lists of party sets -/
theorem keyInT_mem {acc : List (List Str)} {k x : List Str} : x ∈ keyInT acc k ↔ x ∈ acc ∨ x = k := by
  unfold keyInT
  split
  · rename_i h
    exact ⟨.inl, fun z => z.elim id fun e => by rw [e]; exact h⟩
  · rw [List.mem_append, List.mem_singleton]
theorem keyInT_nd {acc : List (List Str)} {k : List Str} (h : acc.Nodup) : (keyInT acc k).Nodup := by
  unfold keyInT
  split
  · exact h
  · rename_i n
    rw [List.nodup_append]
    exact ⟨h, List.nodup_cons.mpr ⟨(fun z => nomatch z), List.nodup_nil⟩, fun a ha b hb => by
      rw [List.mem_singleton.mp hb]
      intro e
      exact n (by rw [← e]; exact ha)⟩
theorem keyInT_len (acc : List (List Str)) (k : List Str) : (keyInT acc k).length ≤ acc.length + 1 := by
  unfold keyInT
  split
  · omega
  · rw [List.length_append, List.length_singleton]; omega
theorem uniqT_of (gs : List (List Str)) : ∀ acc : List (List Str), acc.Nodup → ∃ ks, uniqT (gs.map fun g => .tuple [tupS g, .bool true]) acc = some ks ∧ ks.Nodup ∧ ks.length ≤ acc.length + gs.length ∧ ∀ x, x ∈ ks ↔ x ∈ acc ∨ x ∈ gs := by
  induction gs with
  | nil => exact fun acc nd => ⟨acc, rfl, nd, Nat.le_refl _, fun x => by simp⟩
  | cons s r ih =>
    intro acc nd
    obtain ⟨ks, h1, h2, h3, h4⟩ := ih (keyInT acc s) (keyInT_nd nd)
    refine ⟨ks, ?_, h2, ?_, fun x => ?_⟩
    · show (strsD (s.map .str)).bind (fun ss => uniqT (r.map fun g => .tuple [tupS g, .bool true]) (keyInT acc ss)) = _
      rw [strsD_of]
      exact h1
    · have := keyInT_len acc s
      rw [List.length_cons]
      omega
    · rw [h4 x, keyInT_mem, List.mem_cons, or_assoc]
def AscT (kss : List (List Str)) : Prop := kss.Pairwise fun a b => ltSS a b = true
theorem ascT_of {kss : List (List Str)} (h : kss.Pairwise fun a b => ltSS b a = false) (nd : kss.Nodup) : AscT kss := by
  have z := h.and nd
  exact z.imp fun {a b} k => by
    cases c : ltSS a b with
    | true => rfl
    | false => exact absurd (ltSS_tri c k.1) k.2
theorem AscT.nd {kss : List (List Str)} (h : AscT kss) : kss.Nodup := h.imp fun {a b} k e => by rw [e, ltSS_irrefl] at k; cases k
theorem AscT.sub {a l : List (List Str)} (h : AscT l) (k : a.Sublist l) : AscT a := List.Pairwise.sublist k h
def subB (g f : List Str) : Bool := g.all fun n => decide (n ∈ f)
theorem subB_iff {g f : List Str} : subB g f = true ↔ ∀ n ∈ g, n ∈ f := by simp [subB]
/-- no other of ds holds g -/
def maxB (ds : List (List Str)) (g : List Str) : Bool := ds.all fun f => decide (f = g) || !subB g f
theorem sub_len {l a b : List Str} (nd : l.Nodup) (ha : a.Sublist l) (hb : b.Sublist l) (h : ∀ x ∈ a, x ∈ b) : a.length ≤ b.length ∧ (a.length = b.length → a = b) := by
  induction l generalizing a b with
  | nil => cases ha; cases hb; exact ⟨Nat.le_refl _, fun _ => rfl⟩
  | cons x l ih =>
    obtain ⟨n1, n2⟩ := List.nodup_cons.mp nd
    rcases List.sublist_cons_iff.mp ha with ha' | ⟨a', rfl, ha'⟩
    · rcases List.sublist_cons_iff.mp hb with hb' | ⟨b', rfl, hb'⟩
      · exact ih n2 ha' hb' h
      · obtain ⟨i1, i2⟩ := ih n2 ha' hb' fun y hy => by
          rcases List.mem_cons.mp (h y hy) with rfl | z
          · exact absurd (ha'.subset hy) n1
          · exact z
        exact ⟨by rw [List.length_cons]; omega, fun e => by rw [List.length_cons] at e; omega⟩
    · have hx := h x List.mem_cons_self
      rcases List.sublist_cons_iff.mp hb with hb' | ⟨b', rfl, hb'⟩
      · exact absurd (hb'.subset hx) n1
      · obtain ⟨i1, i2⟩ := ih n2 ha' hb' fun y hy => by
          rcases List.mem_cons.mp (h y (List.mem_cons_of_mem _ hy)) with rfl | z
          · exact absurd (ha'.subset hy) n1
          · exact z
        exact ⟨by simp only [List.length_cons]; omega, fun e => by simp only [List.length_cons] at e; rw [i2 (by omega)]⟩
/-- each set lies in a maximal one -/
theorem max_over {l : List Str} {ds : List (List Str)} (nd : l.Nodup) (h : ∀ g ∈ ds, g.Sublist l) : ∀ g ∈ ds, ∃ f ∈ ds.filter (maxB ds), ∀ x ∈ g, x ∈ f := by
  have go : ∀ (n : Nat) (g : List Str), g ∈ ds → l.length - g.length ≤ n → ∃ f ∈ ds.filter (maxB ds), ∀ x ∈ g, x ∈ f := by
    intro n
    induction n with
    | zero =>
      intro g hg hn
      refine ⟨g, List.mem_filter.mpr ⟨hg, ?_⟩, fun x hx => hx⟩
      unfold maxB
      rw [List.all_eq_true]
      intro f hf
      cases hs : subB g f with
      | false => simp
      | true =>
        obtain ⟨a1, a2⟩ := sub_len nd (h g hg) (h f hf) (subB_iff.mp hs)
        have := (h f hf).length_le
        rw [a2 (by omega)]
        simp
    | succ n ih =>
      intro g hg hn
      cases hm : maxB ds g with
      | true => exact ⟨g, List.mem_filter.mpr ⟨hg, hm⟩, fun x hx => hx⟩
      | false =>
        unfold maxB at hm
        rw [List.all_eq_false] at hm
        obtain ⟨f, hf, e⟩ := hm
        simp only [Bool.or_eq_true, decide_eq_true_eq, Bool.not_eq_true', not_or, Bool.not_eq_false] at e
        have hs := subB_iff.mp e.2
        obtain ⟨a1, a2⟩ := sub_len nd (h g hg) (h f hf) hs
        have : g.length ≠ f.length := fun z => e.1 (a2 z).symm
        obtain ⟨f', h1, h2⟩ := ih f hf (by omega)
        exact ⟨f', h1, fun x hx => h2 x (hs x hx)⟩
  exact fun g hg => go _ g hg (Nat.le_refl _)
/-- names -/
theorem Sht.ok {n : Nat} {s : Str} (h : Sht n s) : Ok (.str s) 0 n := Ok.str h.cps h.len
theorem Ok.names {n m : Nat} {ss : List Str} (h : ∀ s ∈ ss, Sht n s) (hl : ss.length ≤ m) : Ok (tupS ss) 1 ((n + 1) * m) :=
  Ok.tup (fun x hx => by obtain ⟨s, hs, rfl⟩ := List.mem_map.mp hx; exact (h s hs).ok) (by rw [List.length_map]; exact hl)
theorem Sht.lay {n : Nat} {s : Str} (h : Sht n s) (hn : n ≤ 1000) : Lay (.str s) 0 := by
  refine ⟨?_, Nat.le_refl _⟩
  simp only [PyData.canLay0, PyData.strOk]
  rw [Array.all_eq_true']
  intro c hc
  exact decide_eq_true (Nat.lt_trans (h.cps c (by simpa using hc)) (by decide))
theorem Lay.names {n : Nat} {ss : List Str} (h : ∀ s ∈ ss, Sht n s) (hn : n ≤ 1000) : Lay (tupS ss) 1 :=
  Lay.tup fun x hx => by obtain ⟨s, hs, rfl⟩ := List.mem_map.mp hx; exact (h s hs).lay hn
end G9

/-! Q3: plain: loops with what is behind them, drawn names, drawing without putting back. -/
namespace G9
open PySem PySem.Spec L2 PyProof.Rows
theorem lcL_pre0 {f : PyData → En → (Option PyData → En → Prop) → Prop} {Q : List PyData → En → Prop} (J : List PyData → List PyData → En → Prop) (all : List PyData) : ∀ {xs pre : List PyData} {ρ : En} {acc : List PyData}, pre ++ xs = all → J pre acc ρ →
    (∀ pre x acc ρ k, x ∈ all → pre.length < all.length → J pre acc ρ → (∀ y ρ', J (pre ++ [x]) (acc ++ [y]) ρ' → k (some y) ρ') → (∀ ρ', J (pre ++ [x]) acc ρ' → k none ρ') → f x ρ k) → (∀ acc ρ', J all acc ρ' → Q acc ρ') → lcL f xs ρ acc Q
  | [], pre, ρ, acc, e, h0, _, q => q acc ρ (by rw [← e, List.append_nil]; exact h0)
  | x :: r, pre, ρ, acc, e, h0, st, q => by
    have e' : pre ++ [x] ++ r = all := by rw [List.append_assoc]; exact e
    have hx : x ∈ all := by rw [← e]; exact List.mem_append_right _ List.mem_cons_self
    exact st pre x acc ρ _ hx (by rw [← e, List.length_append, List.length_cons]; omega) h0 (fun y ρ' h => lcL_pre0 J all e' h st q) (fun ρ' h => lcL_pre0 J all e' h st q)
theorem lcL_pre {f : PyData → En → (Option PyData → En → Prop) → Prop} {Q : List PyData → En → Prop} (J : List PyData → List PyData → En → Prop) {xs : List PyData} {ρ : En} (h0 : J [] [] ρ)
    (st : ∀ pre x acc ρ k, x ∈ xs → pre.length < xs.length → J pre acc ρ → (∀ y ρ', J (pre ++ [x]) (acc ++ [y]) ρ' → k (some y) ρ') → (∀ ρ', J (pre ++ [x]) acc ρ' → k none ρ') → f x ρ k) (q : ∀ acc ρ', J xs acc ρ' → Q acc ρ') : lcL f xs ρ [] Q :=
  lcL_pre0 J xs rfl h0 st q
/-- a comprehension of which nothing is wanted -/
theorem lcL_any {f : PyData → En → (Option PyData → En → Prop) → Prop} {Q : List PyData → En → Prop} (I : En → Prop) {xs : List PyData} {ρ : En} (h0 : I ρ)
    (st : ∀ x ∈ xs, ∀ ρ k, I ρ → (∀ o ρ', I ρ' → k o ρ') → f x ρ k) (q : ∀ acc ρ', I ρ' → Q acc ρ') : lcL f xs ρ [] Q :=
  lcL_inv (fun _ _ ρ => I ρ) h0 (fun _ x hx _ ρ k i h1 h2 => st x hx ρ k i fun o ρ' i' => match o with
    | some y => h1 y ρ' i'
    | none => h2 ρ' i') fun acc ρ' i => q acc ρ' i
theorem forL_pre0 {f : PyData → En → (En → Prop) → Prop} {Q : En → Prop} (J : List PyData → En → Prop) (all : List PyData) : ∀ {xs pre : List PyData} {ρ : En}, pre ++ xs = all → J pre ρ →
    (∀ pre x ρ k, x ∈ all → pre.length < all.length → J pre ρ → (∀ ρ', J (pre ++ [x]) ρ' → k ρ') → f x ρ k) → (∀ ρ', J all ρ' → Q ρ') → forL f xs ρ Q
  | [], pre, ρ, e, h0, _, q => q ρ (by rw [← e, List.append_nil]; exact h0)
  | x :: r, pre, ρ, e, h0, st, q => by
    have e' : pre ++ [x] ++ r = all := by rw [List.append_assoc]; exact e
    have hx : x ∈ all := by rw [← e]; exact List.mem_append_right _ List.mem_cons_self
    exact st pre x ρ _ hx (by rw [← e, List.length_append, List.length_cons]; omega) h0 fun ρ' h => forL_pre0 J all e' h st q
theorem forL_pre {f : PyData → En → (En → Prop) → Prop} {Q : En → Prop} (J : List PyData → En → Prop) {xs : List PyData} {ρ : En} (h0 : J [] ρ)
    (st : ∀ pre x ρ k, x ∈ xs → pre.length < xs.length → J pre ρ → (∀ ρ', J (pre ++ [x]) ρ' → k ρ') → f x ρ k) (q : ∀ ρ', J xs ρ' → Q ρ') : forL f xs ρ Q := forL_pre0 J xs rfl h0 st q
/-- a loop that keeps I -/
theorem forL_any {f : PyData → En → (En → Prop) → Prop} {Q : En → Prop} (I : En → Prop) {xs : List PyData} {ρ : En} (h0 : I ρ) (st : ∀ x ∈ xs, ∀ ρ k, I ρ → (∀ ρ', I ρ' → k ρ') → f x ρ k) (q : ∀ ρ', I ρ' → Q ρ') : forL f xs ρ Q :=
  forL_pre (fun _ ρ => I ρ) h0 (fun _ x ρ k hx _ i h => st x hx ρ k i h) q
theorem forL_ix0 {f : PyData → En → (En → Prop) → Prop} {Q : En → Prop} (J : Nat → En → Prop) (all : List PyData) : ∀ {xs pre : List PyData} {ρ : En}, pre ++ xs = all → J pre.length ρ →
    (∀ (i : Nat) x ρ k, all[i]? = some x → J i ρ → (∀ ρ', J (i + 1) ρ' → k ρ') → f x ρ k) → (∀ ρ', J all.length ρ' → Q ρ') → forL f xs ρ Q
  | [], pre, ρ, e, h0, _, q => q ρ (by rw [← e, List.append_nil]; exact h0)
  | x :: r, pre, ρ, e, h0, st, q => by
    have e' : pre ++ [x] ++ r = all := by rw [List.append_assoc]; exact e
    have hx : all[pre.length]? = some x := by rw [← e, List.getElem?_append_right (Nat.le_refl _), Nat.sub_self]; rfl
    exact st pre.length x ρ _ hx h0 fun ρ' h => forL_ix0 J all e' (by rw [List.length_append, List.length_singleton]; exact h) st q
/-- a loop, by the number of turns done -/
theorem forL_ix {f : PyData → En → (En → Prop) → Prop} {Q : En → Prop} (J : Nat → En → Prop) {xs : List PyData} {ρ : En} (h0 : J 0 ρ)
    (st : ∀ (i : Nat) x ρ k, xs[i]? = some x → J i ρ → (∀ ρ', J (i + 1) ρ' → k ρ') → f x ρ k) (q : ∀ ρ', J xs.length ρ' → Q ρ') : forL f xs ρ Q := forL_ix0 J xs (pre := []) rfl h0 st q
theorem lcL_ix0 {f : PyData → En → (Option PyData → En → Prop) → Prop} {Q : List PyData → En → Prop} (J : Nat → List PyData → En → Prop) (all : List PyData) : ∀ {xs pre : List PyData} {ρ : En} {acc : List PyData}, pre ++ xs = all → J pre.length acc ρ →
    (∀ (i : Nat) x acc ρ k, all[i]? = some x → J i acc ρ → (∀ y ρ', J (i + 1) (acc ++ [y]) ρ' → k (some y) ρ') → (∀ ρ', J (i + 1) acc ρ' → k none ρ') → f x ρ k) → (∀ acc ρ', J all.length acc ρ' → Q acc ρ') → lcL f xs ρ acc Q
  | [], pre, ρ, acc, e, h0, _, q => q acc ρ (by rw [← e, List.append_nil]; exact h0)
  | x :: r, pre, ρ, acc, e, h0, st, q => by
    have e' : pre ++ [x] ++ r = all := by rw [List.append_assoc]; exact e
    have hx : all[pre.length]? = some x := by rw [← e, List.getElem?_append_right (Nat.le_refl _), Nat.sub_self]; rfl
    exact st pre.length x acc ρ _ hx h0 (fun y ρ' h => lcL_ix0 J all e' (by rw [List.length_append, List.length_singleton]; exact h) st q) (fun ρ' h => lcL_ix0 J all e' (by rw [List.length_append, List.length_singleton]; exact h) st q)
theorem lcL_ix {f : PyData → En → (Option PyData → En → Prop) → Prop} {Q : List PyData → En → Prop} (J : Nat → List PyData → En → Prop) {xs : List PyData} {ρ : En} (h0 : J 0 [] ρ)
    (st : ∀ (i : Nat) x acc ρ k, xs[i]? = some x → J i acc ρ → (∀ y ρ', J (i + 1) (acc ++ [y]) ρ' → k (some y) ρ') → (∀ ρ', J (i + 1) acc ρ' → k none ρ') → f x ρ k) (q : ∀ acc ρ', J xs.length acc ρ' → Q acc ρ') : lcL f xs ρ [] Q := lcL_ix0 J xs (pre := []) rfl h0 st q
theorem range_at {lo hi : Int} {i : Nat} {x : PyData} (h : (rangeD lo hi)[i]? = some x) : x = .int (lo + (i : Int)) ∧ i < (hi - lo).toNat := by
  unfold rangeD at h
  rw [List.getElem?_map] at h
  by_cases c : i < (hi - lo).toNat
  · rw [List.getElem?_range c] at h
    cases h
    exact ⟨rfl, c⟩
  · rw [List.getElem?_eq_none (by rw [List.length_range]; omega)] at h
    cases h
theorem fmod_nat (a b : Nat) : ((a : Int)).fmod (b : Int) = ((a % b : Nat) : Int) := by
  rw [Int.fmod_eq_emod_of_nonneg _ (by omega)]
  rfl
theorem range_len (lo hi : Int) : (rangeD lo hi).length = (hi - lo).toNat := by unfold rangeD; rw [List.length_map, List.length_range]
theorem mem_range {lo hi : Int} {x : PyData} (h : x ∈ rangeD lo hi) : ∃ i : Int, x = .int i ∧ lo ≤ i ∧ i < hi := by
  obtain ⟨k, hk, rfl⟩ := List.mem_map.mp h
  have := List.mem_range.mp hk
  exact ⟨_, rfl, by omega, by omega⟩
/-! ### names -/
def Nm (s : Str) : Prop := nameB (.str s) = true
theorem Nm.iff {s : Str} : Nm s ↔ 1 ≤ s.length ∧ s.length ≤ 6 ∧ ∀ c ∈ s.cps.toList, letB c = true := by
  unfold Nm
  simp only [nameB, Bool.and_eq_true, decide_eq_true_eq, List.all_eq_true]
  rw [and_assoc]
theorem Nm.sht {s : Str} (h : Nm s) : Sht 6 s := by
  obtain ⟨_, h2, h3⟩ := Nm.iff.mp h
  refine ⟨h2, fun c hc => ?_⟩
  have := h3 c hc
  unfold letB at this
  simp only [Bool.and_eq_true, decide_eq_true_eq] at this
  omega
theorem letters_at {j : Nat} (h : j < 26) : ("abcdefghijklmnopqrstuvwxyz" : Str).cps.toList[j]? = some (97 + j) := by
  have e : ("abcdefghijklmnopqrstuvwxyz" : Str).cps.toList = [97,98,99,100,101,102,103,104,105,106,107,108,109,110,111,112,113,114,115,116,117,118,119,120,121,122] := by decide +kernel
  rw [e]
  have z : ∀ j : Fin 26, ([97,98,99,100,101,102,103,104,105,106,107,108,109,110,111,112,113,114,115,116,117,118,119,120,121,122] : List Nat)[j.val]? = some (97 + j.val) := by decide
  exact z ⟨j, h⟩
theorem letB_add {j : Nat} (h : j < 26) : letB (97 + j) = true := by
  unfold letB
  rw [decide_eq_true (by omega), decide_eq_true (by omega)]
  rfl
theorem letB_lt {c : Nat} (h : letB c = true) : c < 128 := by
  unfold letB at h
  simp only [Bool.and_eq_true, decide_eq_true_eq] at h
  omega
theorem letters_let {c : Nat} (h : c ∈ ("abcdefghijklmnopqrstuvwxyz" : Str).cps.toList) : letB c = true := by
  rw [← letters_mem c]
  exact decide_eq_true h
theorem cut_cat (s : Str) (k : Nat) : (cutS s none (some (k : Int))).cps.toList ++ (cutS s (some (k : Int)) none).cps.toList = s.cps.toList := by
  unfold cutS
  rw [HT.sIx_none, HT.sIx_none, HT.sIx_nat, HT.sIx_nat, List.drop_zero, Nat.sub_zero]
  have e : s.length = s.cps.toList.length := by rw [Array.length_toList]; rfl
  have e2 : (s.cps.toList.drop (min k s.length)).take (s.length - min k s.length) = s.cps.toList.drop (min k s.length) := by
    rw [List.take_of_length_le]
    rw [List.length_drop, ← e]
    exact Nat.le_refl _
  show (List.take _ _) ++ (List.take _ _) = _
  rw [e2, List.take_append_drop]
/-- the letter of name number i -/
def ltr (st i : Nat) : Nat := 97 + (st + 3 * i) % 26
/-- name number i -/
def nmS (m : Nat) (w : Str) (st i : Nat) : Str :=
  if m = 0 then ⟨#[ltr st i]⟩ else if m = 1 then cutS w none (some ((i % 6 : Nat) : Int)) ++ ⟨#[ltr st i]⟩ ++ cutS w (some ((i % 6 : Nat) : Int)) none else Txt.mul ⟨#[ltr st i]⟩ (1 + ((i % 6 : Nat) : Int))
theorem nm1_list (w : Str) (st i k : Nat) : (cutS w none (some (k : Int)) ++ (⟨#[ltr st i]⟩ : Str) ++ cutS w (some (k : Int)) none).cps.toList.Perm (ltr st i :: w.cps.toList) := by
  rw [cat_list, cat_list, List.append_assoc]
  refine List.perm_middle.trans ?_
  show (ltr st i :: ((cutS w none (some (k : Int))).cps.toList ++ (cutS w (some (k : Int)) none).cps.toList)).Perm _
  rw [cut_cat]
theorem ltr_let (st i : Nat) : letB (ltr st i) = true := letB_add (Nat.mod_lt _ (by decide))
theorem nmS_nm {m : Nat} {w : Str} {st i : Nat} (hw : w.length = 5) (hl : ∀ c ∈ w.cps.toList, letB c = true) : Nm (nmS m w st i) := by
  have z := ltr_let st i
  rw [Nm.iff]
  unfold nmS
  split
  · exact ⟨Nat.le_refl 1, (by decide : 1 ≤ 6), fun c hc => by rw [List.mem_singleton.mp hc]; exact z⟩
  · split
    · have p := nm1_list w st i (i % 6)
      have e : (cutS w none (some ((i % 6 : Nat) : Int)) ++ (⟨#[ltr st i]⟩ : Str) ++ cutS w (some ((i % 6 : Nat) : Int)) none).length = 6 := by
        have : (cutS w none (some ((i % 6 : Nat) : Int)) ++ (⟨#[ltr st i]⟩ : Str) ++ cutS w (some ((i % 6 : Nat) : Int)) none).cps.toList.length = 6 := by
          rw [p.length_eq, List.length_cons, Array.length_toList]
          have : w.cps.size = 5 := hw
          omega
        rw [Array.length_toList] at this
        exact this
      rw [e]
      refine ⟨by decide, by decide, fun c hc => ?_⟩
      rcases List.mem_cons.mp (p.mem_iff.mp hc) with rfl | h
      · exact z
      · exact hl c h
    · have e := mul_one_list (ltr st i) (1 + ((i % 6 : Nat) : Int))
      have l : (Txt.mul ⟨#[ltr st i]⟩ (1 + ((i % 6 : Nat) : Int))).length = 1 + i % 6 := by
        show (Txt.mul ⟨#[ltr st i]⟩ (1 + ((i % 6 : Nat) : Int))).cps.size = _
        rw [← Array.length_toList, e, List.length_replicate]
        omega
      rw [l]
      refine ⟨by omega, by omega, fun c hc => ?_⟩
      rw [e] at hc
      rw [List.eq_of_mem_replicate hc]
      exact z
theorem nmS_inj {m : Nat} {w : Str} {st i j : Nat} (hi : i < 12) (hj : j < 12) (h : nmS m w st i = nmS m w st j) : i = j := by
  have go : ltr st i = ltr st j → i = j := fun e => by unfold ltr at e; omega
  apply go
  unfold nmS at h
  split at h
  · have h : (⟨#[ltr st i]⟩ : Str).cps.toList = (⟨#[ltr st j]⟩ : Str).cps.toList := by rw [h]
    exact List.head_eq_of_cons_eq h
  · split at h
    · have p := (nm1_list w st i (i % 6)).symm
      rw [h] at p
      have p := p.trans (nm1_list w st j (j % 6))
      have c := p.count_eq (ltr st i)
      rw [List.count_cons, List.count_cons] at c
      by_cases e : ltr st j = ltr st i
      · exact e.symm
      · simp [e] at c
    · have e1 := mul_one_list (ltr st i) (1 + ((i % 6 : Nat) : Int))
      have e2 := mul_one_list (ltr st j) (1 + ((j % 6 : Nat) : Int))
      rw [h, e2] at e1
      have z1 : (1 + ((i % 6 : Nat) : Int)).toNat = i % 6 + 1 := by omega
      have z2 : (1 + ((j % 6 : Nat) : Int)).toNat = j % 6 + 1 := by omega
      rw [z1, z2, List.replicate_succ, List.replicate_succ] at e1
      exact (List.head_eq_of_cons_eq e1).symm
def nms (m : Nat) (w : Str) (st k : Nat) : List Str := (List.range k).map (nmS m w st)
theorem nms_nd {m : Nat} {w : Str} {st k : Nat} (hk : k ≤ 12) : (nms m w st k).Nodup := by
  unfold nms
  rw [List.Nodup, List.pairwise_map]
  refine List.Pairwise.imp_of_mem (fun {a b} ha hb hab => ?_) (List.pairwise_lt_range (n := k))
  have ha := List.mem_range.mp ha
  have hb := List.mem_range.mp hb
  intro e
  have := nmS_inj (by omega) (by omega) e
  omega
/-! ### drawing without putting back -/
theorem erase_perm {α : Type} {xs : List α} {j : Nat} {y : α} (h : xs[j]? = some y) : xs.Perm (y :: xs.eraseIdx j) := by
  induction xs generalizing j with
  | nil => simp at h
  | cons x r ih =>
    cases j with
    | zero => simp at h; subst h; exact List.Perm.refl _
    | succ j =>
      have z := ih (j := j) (by simpa using h)
      simp only [List.eraseIdx_cons_succ]
      exact (z.cons x).trans (List.Perm.swap y x _)
theorem map_erase (xs : List Str) (j : Nat) : (xs.map PyData.str).eraseIdx j = (xs.eraseIdx j).map .str := by
  induction xs generalizing j with
  | nil => simp
  | cons x r ih =>
    cases j with
    | zero => simp
    | succ j => simp only [List.map_cons, List.eraseIdx_cons_succ, ih]
def memD (b : List Str) : PyData → Bool
  | .str s => decide (s ∈ b)
  | _ => false
theorem filt_map (g : List Str) (sv : List Str) : ((sv.map PyData.str).filter fun x => !memD g x) = (sv.filter fun s => !decide (s ∈ g)).map .str := by
  rw [List.filter_map]
  rfl
theorem sub_back {acc : List PyData} {ss : List Str} (h : acc.Sublist (ss.map .str)) : ∃ ts : List Str, ts.Sublist ss ∧ acc = ts.map .str := by
  obtain ⟨ts, h1, h2⟩ := List.sublist_map_iff.mp h
  exact ⟨ts, h1, h2⟩
def grp : PyData → List Str
  | .tuple xs => (strsD xs).getD []
  | _ => []
theorem grp_tup (g : List Str) : grp (tupS g) = g := by show (strsD (g.map .str)).getD [] = g; rw [strsD_of]; rfl
/-- a scheme as data -/
def sch (p : Int) (sv cl : List Str) (ob ft : List (List Str)) : PyData := .tuple [.int p, tupS sv, tupS cl, .tuple (ob.map tupS), .tuple (ft.map tupS)]
def Anti (ob : List (List Str)) : Prop := ∀ a ∈ ob, ∀ b ∈ ob, a ≠ b → subB a b = false
theorem max_anti (ds : List (List Str)) : Anti (ds.filter (maxB ds)) := by
  intro a ha b hb ne
  obtain ⟨ha, hm⟩ := List.mem_filter.mp ha
  obtain ⟨hb, _⟩ := List.mem_filter.mp hb
  unfold maxB at hm
  have z := List.all_eq_true.mp hm b hb
  rw [Bool.or_eq_true, decide_eq_true_eq] at z
  rcases z with z | z
  · exact absurd z.symm ne
  · simpa using z
/-- the sets of a drawn scheme, over the servers sv, at most n of them -/
structure Sets (sv : List Str) (n : Nat) (ob : List (List Str)) : Prop where
  asc : AscT ob
  sub : ∀ g ∈ ob, g.Sublist sv
  anti : Anti ob
  ne : ob ≠ []
  len : ob.length ≤ n
theorem sets_of {sv : List Str} {n : Nat} {gs ds : List (List Str)} (nd : sv.Nodup) (h1 : AscT ds) (h2 : ∀ k, k ∈ ds ↔ k ∈ gs) (h3 : ∀ g ∈ gs, g.Sublist sv) (h4 : gs ≠ []) (h5 : gs.length ≤ n) : Sets sv n (ds.filter (maxB ds)) := by
  refine ⟨h1.sub List.filter_sublist, fun g hg => h3 g ((h2 g).mp (List.mem_filter.mp hg).1), max_anti ds, fun e => ?_, ?_⟩
  · cases gs with
    | nil => exact h4 rfl
    | cons g r =>
      obtain ⟨f, hf, _⟩ := max_over nd (fun g hg => h3 g ((h2 g).mp hg)) g ((h2 g).mpr List.mem_cons_self)
      rw [e] at hf
      exact nomatch hf
  · refine Nat.le_trans (Nat.le_trans List.filter_sublist.length_le (nodup_len h1.nd fun k hk => (h2 k).mp hk)) h5
structure Drawn (m : Nat) (p : Int) (sv cl : List Str) (ob ft : List (List Str)) : Prop where
  pr : p ∈ [2, 3, 5, 7, 101, 997, 499, 11]
  asv : Asc sv
  acl : Asc cl
  nsv : ∀ s ∈ sv, Nm s
  ncl : ∀ s ∈ cl, Nm s
  lsv : 2 ≤ sv.length ∧ sv.length ≤ m
  lcl : 1 ≤ cl.length ∧ cl.length ≤ 4
  dis : ∀ s ∈ sv, s ∉ cl
  sob : Sets sv 6 ob
  sft : Sets sv 6 ft
  fob : ∀ g ∈ ft, ∃ o : List Str, o ∈ ob ∧ g.Sublist o
end G9

/-! Q4: plain: what a scheme is, told over data. -/
namespace G9
open PySem PySem.Spec L2 PyProof.Rows
theorem cNe {i j : Int} {Q : Bool → Prop} (h : i ≠ j → Q true) (h' : i = j → Q false) : cmS .ne (.int i) (.int j) Q := by
  refine ⟨.inl ⟨rfl, rfl⟩, ?_⟩
  show Q (!decide (i = j))
  by_cases c : i = j
  · rw [decide_eq_true c]; exact h' c
  · rw [decide_eq_false c]; exact h c
theorem cLt {i j : Int} {Q : Bool → Prop} (h : i < j → Q true) (h' : j ≤ i → Q false) : cmS .lt (.int i) (.int j) Q := by
  show Q (decide (i < j))
  by_cases c : i < j
  · rw [decide_eq_true c]; exact h c
  · rw [decide_eq_false c]; exact h' (by omega)
theorem cNilT {xs : List PyData} {Q : Bool → Prop} (hs : SeqAt.shaped (.tuple xs) = true) (h : Q xs.isEmpty) : cmS .eq (.tuple xs) (.tuple []) Q := by
  refine ⟨.inl ⟨hs, rfl⟩, ?_⟩
  have e : PyData.eqv (.tuple xs) (.tuple []) = xs.isEmpty := by
    cases xs with
    | nil => rfl
    | cons x r => simp [PyData.eqv, PyData.eqvAll]
  rw [e]
  exact h
/-- turns of two clauses, of which each adds what it adds -/
theorem lc2L_pure {f : PyData → En → List PyData → (List PyData → En → Prop) → Prop} {Q : List PyData → En → Prop} (g : PyData → List PyData) (I : En → Prop) : ∀ {xs : List PyData} {ρ : En} {acc : List PyData}, I ρ →
    (∀ x ∈ xs, ∀ ρ acc k, I ρ → (∀ ρ', I ρ' → k (acc ++ g x) ρ') → f x ρ acc k) → (∀ ρ', I ρ' → Q (acc ++ xs.flatMap g) ρ') → lc2L f xs ρ acc Q
  | [], ρ, acc, h0, _, q => by simpa [lc2L] using q ρ h0
  | x :: r, ρ, acc, h0, st, q => by
    refine st x List.mem_cons_self ρ acc _ h0 fun ρ' h1 => lc2L_pure g I h1 (fun y hy => st y (List.mem_cons_of_mem _ hy)) fun ρ2 h2 => ?_
    have z := q ρ2 h2
    rw [List.flatMap_cons, ← List.append_assoc] at z
    exact z
def intB (x : PyData) : Bool := isD x .int && !isD x .bool
/-! ### names, party sets -/
def ItemsOk (x : PyData) : Prop := ∀ xs, x = .tuple xs → ∀ y ∈ xs, StrOk y
def strsOf (xs : List PyData) : List Str := xs.filterMap fun | .str s => some s | _ => none
def setB : PyData → Bool
  | .tuple xs => xs.all nameB && ascB (strsOf xs)
  | _ => false
theorem names_strs {xs : List PyData} (h : xs.all nameB = true) : xs = (strsOf xs).map .str := by
  induction xs with
  | nil => rfl
  | cons x r ih =>
    rw [List.all_cons, Bool.and_eq_true] at h
    cases x <;> try (simp [nameB] at h; done)
    rename_i s
    show PyData.str s :: r = PyData.str s :: (strsOf r).map .str
    rw [← ih h.2]
theorem strsOf_map (ss : List Str) : strsOf (ss.map .str) = ss := by
  induction ss with
  | nil => rfl
  | cons s r ih => show s :: strsOf (r.map .str) = s :: r; rw [ih]
theorem setB_tup {ss : List Str} : setB (tupS ss) = true ↔ (∀ s ∈ ss, Nm s) ∧ Asc ss := by
  show ((ss.map PyData.str).all nameB && ascB (strsOf (ss.map .str))) = true ↔ _
  rw [Bool.and_eq_true, strsOf_map, List.all_map, List.all_eq_true]
  exact ⟨fun h => ⟨h.1, of_ascB h.2⟩, fun h => ⟨h.1, ascB_of h.2⟩⟩
theorem setB_of {x : PyData} (h : setB x = true) : ∃ ss, x = tupS ss ∧ (∀ s ∈ ss, Nm s) ∧ Asc ss := by
  cases x <;> try (cases h; done)
  rename_i xs
  have z := h
  simp only [setB, Bool.and_eq_true] at z
  have e := names_strs z.1
  refine ⟨strsOf xs, by rw [tupS, ← e], ?_⟩
  rw [e] at h
  exact setB_tup.mp h
theorem setB_grp {x : PyData} (h : setB x = true) : x = tupS (grp x) := by
  obtain ⟨ss, rfl, _⟩ := setB_of h
  rw [grp_tup]
def grps : PyData → List (List Str)
  | .tuple xs => xs.map grp
  | _ => []
theorem grps_tup (kss : List (List Str)) : grps (.tuple (kss.map tupS)) = kss := by
  show (kss.map tupS).map grp = kss
  rw [List.map_map]
  have : (grp ∘ tupS) = id := by funext g; exact grp_tup g
  rw [this, List.map_id]
theorem sets_tups {xs : List PyData} (h : xs.all setB = true) : xs = (xs.map grp).map tupS := by
  induction xs with
  | nil => rfl
  | cons x r ih =>
    rw [List.all_cons, Bool.and_eq_true] at h
    rw [List.map_cons, List.map_cons, ← setB_grp h.1, ← ih h.2]
/-! ### lists of party sets -/
def ascTB : List (List Str) → Bool
  | a :: b :: r => ltSS a b && ascTB (b :: r)
  | _ => true
theorem ascTB_zip : ∀ ss : List (List Str), (List.zipWith ltSS ss.dropLast ss.tail).all id = ascTB ss
  | [] => rfl
  | [_] => rfl
  | a :: b :: r => by
    show (ltSS a b :: List.zipWith ltSS (b :: r).dropLast (b :: r).tail).all id = (ltSS a b && ascTB (b :: r))
    rw [List.all_cons, ascTB_zip (b :: r)]
    rfl
theorem ascTB_of {ss : List (List Str)} (h : AscT ss) : ascTB ss = true := by
  induction ss with
  | nil => rfl
  | cons x r ih =>
    obtain ⟨h1, h2⟩ := List.pairwise_cons.mp h
    cases r with
    | nil => rfl
    | cons y t =>
      show (ltSS x y && ascTB (y :: t)) = true
      rw [h1 y List.mem_cons_self, ih h2]
      rfl
theorem of_ascTB : ∀ {ss : List (List Str)}, ascTB ss = true → AscT ss
  | [], _ => .nil
  | [x], _ => List.pairwise_singleton _ _
  | x :: y :: t, h => by
    have h : (ltSS x y && ascTB (y :: t)) = true := h
    rw [Bool.and_eq_true] at h
    have ih := of_ascTB h.2
    refine List.pairwise_cons.mpr ⟨fun z hz => ?_, ih⟩
    rcases List.mem_cons.mp hz with rfl | hz
    · exact h.1
    · exact ltSS_trans h.1 ((List.pairwise_cons.mp ih).1 z hz)
theorem leSS_not : ∀ a b : List Str, leSS a b = !ltSS b a
  | [], [] => rfl
  | [], _ :: _ => rfl
  | _ :: _, [] => rfl
  | x :: a, y :: b => by
    show (if x = y then leSS a b else !ltS y x) = !(if y = x then ltSS b a else ltS y x)
    by_cases e : x = y
    · rw [if_pos e, if_pos e.symm, leSS_not a b]
    · rw [if_neg e, if_neg (Ne.symm e)]
theorem ascTB_iff : ∀ ss : List (List Str), ascTB ss = true ↔ ∀ k, k + 1 < ss.length → ltSS (ss.getD k []) (ss.getD (k + 1) []) = true
  | [] => ⟨fun _ k h => absurd h (Nat.not_lt_zero _), fun _ => rfl⟩
  | [a] => ⟨fun _ k h => absurd h (by simp), fun _ => rfl⟩
  | a :: b :: r => by
    show (ltSS a b && ascTB (b :: r)) = true ↔ _
    rw [Bool.and_eq_true, ascTB_iff (b :: r)]
    constructor
    · rintro ⟨h1, h2⟩ k hk
      cases k with
      | zero => exact h1
      | succ k => exact h2 k (by simpa using hk)
    · exact fun h => ⟨h 0 (by simp), fun k hk => h (k + 1) (by simpa using hk)⟩
theorem ascB_iff : ∀ ss : List Str, ascB ss = true ↔ ∀ k, k + 1 < ss.length → ltS (ss.getD k "") (ss.getD (k + 1) "") = true
  | [] => ⟨fun _ k h => absurd h (Nat.not_lt_zero _), fun _ => rfl⟩
  | [a] => ⟨fun _ k h => absurd h (by simp), fun _ => rfl⟩
  | a :: b :: r => by
    show (ltS a b && ascB (b :: r)) = true ↔ _
    rw [Bool.and_eq_true, ascB_iff (b :: r)]
    constructor
    · rintro ⟨h1, h2⟩ k hk
      cases k with
      | zero => exact h1
      | succ k => exact h2 k (by simpa using hk)
    · exact fun h => ⟨h 0 (by simp), fun k hk => h (k + 1) (by simpa using hk)⟩
def antiB (kss : List (List Str)) : Bool := kss.all fun a => kss.all fun b => decide (a = b) || !subB a b
theorem antiB_iff {kss : List (List Str)} : antiB kss = true ↔ ∀ a ∈ kss, ∀ b ∈ kss, a = b ∨ subB a b = false := by
  unfold antiB
  simp only [List.all_eq_true, Bool.or_eq_true, decide_eq_true_eq, Bool.not_eq_true']
def setsB (sv : List Str) : PyData → Bool
  | .tuple xs => !xs.isEmpty && (xs.all setB && (ascTB (xs.map grp) && (antiB (xs.map grp) && (xs.map grp).all fun g => subB g sv)))
  | _ => false
theorem sets_of_true {sv : List Str} {x : PyData} (h : setsB sv x = true) (hn : 6 ≤ 8 := by omega) : ∃ kss : List (List Str), x = .tuple (kss.map tupS) ∧ ∀ g ∈ kss, ∀ s ∈ g, Sht 8 s := by
  cases x <;> try (cases h; done)
  rename_i xs
  simp only [setsB, Bool.and_eq_true] at h
  have e := sets_tups h.2.1
  refine ⟨xs.map grp, by rw [← e], fun g hg => ?_⟩
  obtain ⟨y, hy, rfl⟩ := List.mem_map.mp hg
  obtain ⟨ss, rfl, n1, _⟩ := setB_of (List.all_eq_true.mp h.2.1 y hy)
  rw [grp_tup]
  exact fun s hs => (n1 s hs).sht.mono hn
theorem other_mem {kss : List (List Str)} {i : Nat} {g f : List Str} (nd : kss.Nodup) (h : kss[i]? = some g) : f ∈ kss.take i ++ kss.drop (i + 1) ↔ f ∈ kss ∧ f ≠ g := by
  have hi := (List.getElem?_eq_some_iff.mp h).1
  have hg := (List.getElem?_eq_some_iff.mp h).2
  have e : kss = kss.take i ++ g :: kss.drop (i + 1) := by
    rw [← hg, ← List.drop_eq_getElem_cons hi, List.take_append_drop]
  have p : kss.Perm (g :: (kss.take i ++ kss.drop (i + 1))) := by
    have z := List.perm_middle (a := g) (l₁ := kss.take i) (l₂ := kss.drop (i + 1))
    rw [← e] at z
    exact z
  have nd2 := p.nodup_iff.mp nd
  obtain ⟨n1, _⟩ := List.nodup_cons.mp nd2
  rw [p.mem_iff, List.mem_cons]
  constructor
  · exact fun hf => ⟨.inr hf, fun e => n1 (by rw [← e]; exact hf)⟩
  · rintro ⟨hf, ne⟩
    exact hf.resolve_left ne
theorem cutD_take {α : Type} (xs : List α) {i : Nat} (h : i ≤ xs.length) : cutD xs none (some (i : Int)) = xs.take i := by
  unfold cutD
  rw [HT.sIx_none, HT.sIx_nat, List.drop_zero, Nat.sub_zero, Nat.min_eq_left h]
theorem cutD_drop {α : Type} (xs : List α) {i : Nat} (h : i ≤ xs.length) : cutD xs (some (i : Int)) none = xs.drop i := by
  unfold cutD
  rw [HT.sIx_none, HT.sIx_nat, Nat.min_eq_left h, List.take_of_length_le (by rw [List.length_drop]; exact Nat.le_refl _)]
/-! ### primes -/
def primeB : PyData → Bool
  | .int p => decide (2 ≤ p) && decide (p ≤ 997) && ((List.range (p - 2).toNat).all fun k => !decide ((2 + (k : Int)) * (2 + (k : Int)) ≤ p) || !decide (p.fmod (2 + (k : Int)) = 0))
  | _ => false
def primeL : PyData → Bool
  | .int p => decide (2 ≤ p) && decide (p ≤ 997) && ((List.range 30).all fun k => !(decide (p.fmod (2 + (k : Int)) = 0) && !decide (p = 2 + (k : Int))))
  | _ => false
def pA (n : Nat) : Bool := (List.range (n - 2)).all fun k => Nat.ble (n + 1) ((2 + k) * (2 + k)) || Nat.ble 1 (n % (2 + k))
def pA0 (n : Nat) : Bool := (List.range 30).all fun k => Nat.ble (n - 2) k || (Nat.ble (n + 1) ((2 + k) * (2 + k)) || Nat.ble 1 (n % (2 + k)))
def pB (n : Nat) : Bool := (List.range 30).all fun k => !(Nat.beq (n % (2 + k)) 0 && !Nat.beq n (2 + k))
theorem pA_eq {n : Nat} (h : n ≤ 997) : pA n = pA0 n := by
  unfold pA pA0
  rw [Bool.eq_iff_iff, List.all_eq_true, List.all_eq_true]
  constructor
  · intro z k hk
    by_cases c : k < n - 2
    · rw [z k (List.mem_range.mpr c), Bool.or_true]
    · rw [Nat.ble_eq.mpr (by omega), Bool.true_or]
  · intro z k hk
    have hk := List.mem_range.mp hk
    by_cases c : k < 30
    · have y := z k (List.mem_range.mpr c)
      rw [Bool.or_eq_true, Nat.ble_eq] at y
      exact y.resolve_left (by omega)
    · have : 32 * 32 ≤ (2 + k) * (2 + k) := Nat.mul_le_mul (by omega) (by omega)
      rw [Nat.ble_eq.mpr (by omega), Bool.true_or]
theorem pA0_pB : ∀ k : Fin 996, pA0 (k.val + 2) = pB (k.val + 2) := by decide +kernel
theorem pA_pB (k : Fin 996) : pA (k.val + 2) = pB (k.val + 2) := by rw [pA_eq (by omega), pA0_pB]
theorem prime_same (x : PyData) : primeB x = primeL x := by
  cases x <;> try rfl
  rename_i p
  simp only [primeB, primeL]
  by_cases h1 : 2 ≤ p
  · by_cases h2 : p ≤ 997
    · rw [decide_eq_true h1, decide_eq_true h2, Bool.true_and, Bool.true_and]
      obtain ⟨n, rfl⟩ := Int.eq_ofNat_of_zero_le (show 0 ≤ p by omega)
      have z := pA_pB ⟨n - 2, by omega⟩
      have e : n - 2 + 2 = n := by omega
      simp only [e] at z
      have a : ((List.range ((n : Int) - 2).toNat).all fun k => !decide ((2 + (k : Int)) * (2 + (k : Int)) ≤ (n : Int)) || !decide ((n : Int).fmod (2 + (k : Int)) = 0)) = pA n := by
        unfold pA
        have e1 : ((n : Int) - 2).toNat = n - 2 := by omega
        rw [e1]
        congr 1
        funext k
        have e2 : (n : Int).fmod (2 + (k : Int)) = ((n % (2 + k) : Nat) : Int) := fmod_nat n (2 + k)
        have e3 : (2 + (k : Int)) * (2 + (k : Int)) = (((2 + k) * (2 + k) : Nat) : Int) := by push_cast; rfl
        rw [e2, e3, Bool.eq_iff_iff]
        simp only [Bool.or_eq_true, Bool.not_eq_true', decide_eq_false_iff_not, Nat.ble_eq]
        generalize (2 + k) * (2 + k) = A
        generalize n % (2 + k) = B
        omega
      have b : ((List.range 30).all fun k => !(decide ((n : Int).fmod (2 + (k : Int)) = 0) && !decide ((n : Int) = 2 + (k : Int)))) = pB n := by
        unfold pB
        congr 1
        funext k
        have e2 : (n : Int).fmod (2 + (k : Int)) = ((n % (2 + k) : Nat) : Int) := fmod_nat n (2 + k)
        have e4 : ∀ a b : Nat, decide (((a : Nat) : Int) = ((b : Nat) : Int)) = Nat.beq a b := fun a b => by rw [Bool.eq_iff_iff, decide_eq_true_eq, Nat.beq_eq]; omega
        have e5 : (2 + (k : Int)) = ((2 + k : Nat) : Int) := by omega
        rw [e2, e5]
        have e6 := e4 (n % (2 + k)) 0
        have e7 := e4 n (2 + k)
        rw [← e7, ← e6]
        rfl
      rw [a, b, z, Bool.true_and]
    · rw [decide_eq_false h2, Bool.and_false, Bool.false_and, Bool.false_and]
  · rw [decide_eq_false h1, Bool.false_and, Bool.false_and, Bool.false_and]
/-! ### schemes -/
def schT (p sv cl ob ft : PyData) : Bool :=
  primeB p && (setB sv && (setB cl && (decide (2 ≤ (grp sv).length) && (!(grp cl).isEmpty && ((grp cl).all (fun n => !decide (n ∈ grp sv)) && (setsB (grp sv) ob && (setsB (grp sv) ft && (grps ft).all fun f => (grps ob).any fun o => subB f o)))))))
def schB : PyData → Bool
  | .tuple [p, sv, cl, ob, ft] => schT p sv cl ob ft
  | _ => false
/-! ### data over known texts -/
mutual
def wiD (ks : List Str) : PyData → Bool
  | .str s => decide (s ∈ ks)
  | .list xs => wiAll ks xs
  | .tuple xs => wiAll ks xs
  | _ => true
def wiAll (ks : List Str) : List PyData → Bool
  | [] => true
  | x :: r => wiD ks x && wiAll ks r
end
theorem wiAll_iff {ks : List Str} {xs : List PyData} : wiAll ks xs = true ↔ ∀ x ∈ xs, wiD ks x = true := by
  induction xs with
  | nil => simp [wiAll]
  | cons x r ih => simp [wiAll, ih]
structure Fit (ks : List Str) (x : PyData) (d w : Nat) : Prop where
  ok : Ok x d w
  wi : wiD ks x = true
theorem Fit.mono {ks : List Str} {x : PyData} {d w d' w' : Nat} (h : Fit ks x d w) (a : d ≤ d') (b : w ≤ w') : Fit ks x d' w' := ⟨h.ok.mono a b, h.wi⟩
theorem Fit.tup {ks : List Str} {xs : List PyData} {d w n : Nat} (h : ∀ x ∈ xs, Fit ks x d w) (hn : xs.length ≤ n) : Fit ks (.tuple xs) (d + 1) ((w + 1) * n) :=
  ⟨Ok.tup (fun x hx => (h x hx).ok) hn, by simp only [wiD]; exact wiAll_iff.mpr fun x hx => (h x hx).wi⟩
theorem Fit.lst {ks : List Str} {xs : List PyData} {d w n : Nat} (h : ∀ x ∈ xs, Fit ks x d w) (hn : xs.length ≤ n) : Fit ks (.list xs) (d + 1) ((w + 1) * n) :=
  ⟨Ok.lst (fun x hx => (h x hx).ok) hn, by simp only [wiD]; exact wiAll_iff.mpr fun x hx => (h x hx).wi⟩
theorem Fit.items {ks : List Str} {xs : List PyData} {d w : Nat} (h : Fit ks (.tuple xs) d w) {y : PyData} (hy : y ∈ xs) : Fit ks y d w := by
  have a := h.ok
  have c := h.wi
  have go : ∀ {xs : List PyData} {y : PyData}, y ∈ xs → (PyData.showableAll xs = true → y.showable = true) ∧ (PyData.leavesShortAll 45 xs = true → y.leavesShort 45 = true) ∧ y.depth ≤ PyData.depthAll xs ∧ (PyData.canLayAll0 xs = true → y.canLay0 = true) := by
    intro xs y hy
    induction xs with
    | nil => cases hy
    | cons x r ih =>
      simp only [PyData.showableAll, PyData.leavesShortAll, PyData.depthAll, PyData.canLayAll0, Bool.and_eq_true]
      rcases List.mem_cons.mp hy with rfl | hy
      · exact ⟨fun h => h.1, fun h => h.1, Nat.le_max_left _ _, fun h => h.1⟩
      · obtain ⟨i1, i2, i3, i4⟩ := ih hy
        exact ⟨fun h => i1 h.2, fun h => i2 h.2, Nat.le_trans i3 (Nat.le_max_right _ _), fun h => i4 h.2⟩
  obtain ⟨g1, g2, g3, g4⟩ := go hy
  have hd : PyData.depthAll xs + 1 ≤ d := by have := a.dp; simp only [PyData.depth] at this; exact this
  refine ⟨⟨g1 (by have := a.sh; simp only [PyData.showable] at this; exact this), g2 (by have := a.lv; simp only [PyData.leavesShort] at this; exact this), by omega, ?_⟩, ?_⟩
  · have h1 := weightAll_mem hy
    have h2 : PyData.weightAll xs ≤ w := by have := a.wt; simp only [PyData.weight] at this; exact this
    omega
  · simp only [wiD] at c
    exact wiAll_iff.mp c y hy
theorem Fit.strOk {ks : List Str} {x : PyData} {d w : Nat} (h : Fit ks x d w) (hw : w ≤ 300000) : StrOk x := by
  rintro s rfl
  have := h.ok.wt
  rw [sizeLine_eq]
  exact Nat.le_trans this (by omega)
theorem Fit.itemsOk {ks : List Str} {x : PyData} {d w : Nat} (h : Fit ks x d w) (hw : w ≤ 300000) : ItemsOk x := by
  rintro xs rfl y hy
  exact (h.items hy).strOk hw
theorem len_weight : ∀ xs : List PyData, xs.length ≤ PyData.weightAll xs
  | [] => Nat.le_refl _
  | x :: r => by have := len_weight r; simp only [PyData.weightAll, List.length_cons]; omega
theorem Fit.len {ks : List Str} {xs : List PyData} {d w : Nat} (h : Fit ks (.tuple xs) d w) : xs.length ≤ w := by
  have h2 : PyData.weightAll xs ≤ w := by have := h.ok.wt; simp only [PyData.weight] at this; exact this
  exact Nat.le_trans (len_weight xs) h2
theorem Fit.names {ks ss : List Str} {d w : Nat} (h : Fit ks (tupS ss) d w) : ∀ s ∈ ss, s ∈ ks := fun s hs => by
  have z := (Fit.items h (List.mem_map.mpr ⟨s, hs, rfl⟩)).wi
  simpa [wiD] using z
end G9

/-! Q5: plain: drawn schemes are schemes; lists of data to be asked. -/
namespace G9
open PySem PySem.Spec L2 PyProof.Rows
theorem int_all : ∀ k : Fin 1400, (PyData.int ((k.val : Int) - 100)).leavesShort 45 = true ∧ (PyData.int ((k.val : Int) - 100)).weight ≤ 20 ∧ (PyData.int ((k.val : Int) - 100)).showable = true := by decide +kernel
theorem Ok.int {n : Int} (h1 : -100 ≤ n) (h2 : n < 1300) : Ok (.int n) 0 20 := by
  have z := int_all ⟨(n + 100).toNat, by omega⟩
  have e : (((n + 100).toNat : Nat) : Int) - 100 = n := by omega
  simp only [e] at z
  exact ⟨z.2.2, z.1, Nat.le_refl _, z.2.1⟩
theorem Fit.int {ks : List Str} {n : Int} (h1 : -100 ≤ n) (h2 : n < 1300) : Fit ks (.int n) 0 20 := ⟨Ok.int h1 h2, rfl⟩
/-- a list of known names -/
structure NL (ks : List Str) (l : List Str) : Prop where
  m : ∀ s ∈ l, s ∈ ks ∧ Sht 8 s
  len : l.length ≤ 14
theorem NL.fit {ks l : List Str} (h : NL ks l) : Fit ks (tupS l) 1 126 :=
  Fit.tup (w := 8) (n := 14) (fun x hx => by
    obtain ⟨s, hs, rfl⟩ := List.mem_map.mp hx
    obtain ⟨a, b⟩ := h.m s hs
    exact ⟨b.ok, by simp only [wiD]; exact decide_eq_true a⟩) (by rw [List.length_map]; exact h.len)
theorem NL.sub {ks l l' : List Str} (h : NL ks l) (s : ∀ x ∈ l', x ∈ l) (n : l'.length ≤ l.length) : NL ks l' := ⟨fun x hx => h.m x (s x hx), Nat.le_trans n h.len⟩
theorem NL.cut {ks l : List Str} (h : NL ks l) (lo hi : Option Int) : NL ks (cutD l lo hi) := h.sub (fun x hx => cutD_mem hx) (cutD_len l lo hi)
/-- a list of such -/
structure TL (ks : List Str) (kss : List (List Str)) : Prop where
  m : ∀ g ∈ kss, NL ks g
  len : kss.length ≤ 15
theorem TL.fit {ks : List Str} {kss : List (List Str)} (h : TL ks kss) : Fit ks (.tuple (kss.map tupS)) 2 1905 :=
  Fit.tup (w := 126) (n := 15) (fun x hx => by
    obtain ⟨g, hg, rfl⟩ := List.mem_map.mp hx
    exact (h.m g hg).fit) (by rw [List.length_map]; exact h.len)
/-- what may be asked -/
structure Ask (ks : List Str) (x : PyData) : Prop where
  ok : Ok x 60 300000
  it : ∀ xs, x = .tuple xs → ∀ y ∈ xs, Fit ks y 59 4096
theorem Ask.fit {ks : List Str} {x : PyData} {d w : Nat} (h : Fit ks x d w) (hd : d ≤ 59) (hw : w ≤ 4096) : Ask ks x := ⟨h.ok.mono (by omega) (by omega), by
  rintro xs rfl y hy
  exact (h.items hy).mono hd hw⟩
theorem Ask.tup {ks : List Str} {xs : List PyData} (h : ∀ x ∈ xs, Fit ks x 2 1905) (hn : xs.length ≤ 6) : Ask ks (.tuple xs) := ⟨(Ok.tup (fun x hx => (h x hx).ok) hn).mono (by omega) (by omega), by
  intro ys e y hy
  cases e
  exact (h y hy).mono (by omega) (by omega)⟩
theorem Ask.lst {ks : List Str} {xs : List PyData} (h : ∀ x ∈ xs, Fit ks x 2 1905) (hn : xs.length ≤ 6) : Ask ks (.list xs) := ⟨(Ok.lst (fun x hx => (h x hx).ok) hn).mono (by omega) (by omega), by
  intro ys e
  cases e⟩
def fitB (ks : List Str) (x : PyData) : Bool := x.showable && (x.leavesShort 45 && (decide (x.depth ≤ 59) && (decide (x.weight ≤ 4096) && wiD ks x)))
theorem fit_of {ks : List Str} {x : PyData} (h : fitB ks x = true) : Fit ks x 59 4096 := by
  simp only [fitB, Bool.and_eq_true, decide_eq_true_eq] at h
  exact ⟨⟨h.1, h.2.1, h.2.2.1, h.2.2.2.1⟩, h.2.2.2.2⟩
def askB (ks : List Str) (x : PyData) : Bool := x.showable && (x.leavesShort 45 && (decide (x.depth ≤ 60) && (decide (x.weight ≤ 300000) && (match x with | .tuple xs => xs.all (fitB ks) | _ => true))))
theorem ask_of {ks : List Str} {x : PyData} (h : askB ks x = true) : Ask ks x := by
  simp only [askB, Bool.and_eq_true, decide_eq_true_eq] at h
  refine ⟨⟨h.1, h.2.1, h.2.2.1, h.2.2.2.1⟩, ?_⟩
  rintro xs rfl y hy
  exact fit_of (List.all_eq_true.mp h.2.2.2.2 y hy)
structure AskL (ks : List Str) (n : Nat) (L : List PyData) : Prop where
  m : ∀ x ∈ L, Ask ks x
  len : L.length ≤ n
theorem AskL.app {ks : List Str} {n m : Nat} {L K : List PyData} (h : AskL ks n L) (k : AskL ks m K) : AskL ks (n + m) (L ++ K) :=
  ⟨fun x hx => (List.mem_append.mp hx).elim (h.m x) (k.m x), by rw [List.length_append]; exact Nat.add_le_add h.len k.len⟩
theorem AskL.nil {ks : List Str} : AskL ks 0 [] := ⟨(fun _ h => nomatch h), Nat.le_refl _⟩
theorem AskL.cons {ks : List Str} {n : Nat} {x : PyData} {L : List PyData} (h : Ask ks x) (k : AskL ks n L) : AskL ks (n + 1) (x :: L) :=
  ⟨fun y hy => (List.mem_cons.mp hy).elim (fun e => by rw [e]; exact h) (k.m y), by rw [List.length_cons]; exact Nat.succ_le_succ k.len⟩
theorem AskL.mono {ks : List Str} {n m : Nat} {L : List PyData} (h : AskL ks n L) (k : n ≤ m) : AskL ks m L := ⟨h.m, Nat.le_trans h.len k⟩
theorem AskL.one {ks : List Str} {x : PyData} (h : Ask ks x) : AskL ks 1 [x] := .cons h .nil
theorem AskL.two {ks : List Str} {x y : PyData} (h : Ask ks x) (k : Ask ks y) : AskL ks 2 [x, y] := .cons h (.cons k .nil)
theorem fits5 {ks : List Str} {a b c d e : PyData} (ha : Fit ks a 2 1905) (hb : Fit ks b 2 1905) (hc : Fit ks c 2 1905) (hd : Fit ks d 2 1905) (he : Fit ks e 2 1905) : ∀ x ∈ [a, b, c, d, e], Fit ks x 2 1905 := by
  intro x hx
  simp only [List.mem_cons, List.not_mem_nil, or_false] at hx
  rcases hx with rfl | rfl | rfl | rfl | rfl <;> assumption
theorem Ask.five {ks : List Str} {a b c d e : PyData} (ha : Fit ks a 2 1905) (hb : Fit ks b 2 1905) (hc : Fit ks c 2 1905) (hd : Fit ks d 2 1905) (he : Fit ks e 2 1905) : Ask ks (.tuple [a, b, c, d, e]) := Ask.tup (fits5 ha hb hc hd he) (by show 5 ≤ 6; omega)
/-- a drawn scheme, as far as it matters -/
structure Good3 (p : Int) (sv cl : List Str) (ob ft : List (List Str)) : Prop where
  pr : primeB (.int p) = true
  pn : 0 ≤ p ∧ p < 1000
  asv : Asc sv
  acl : Asc cl
  nsv : ∀ s ∈ sv, Nm s
  ncl : ∀ s ∈ cl, Nm s
  lsv : 2 ≤ sv.length ∧ sv.length ≤ 9
  lcl : 1 ≤ cl.length ∧ cl.length ≤ 4
  dis : ∀ s ∈ sv, s ∉ cl
  sob : Sets sv 11 ob
  sft : Sets sv 11 ft
  fob : ∀ g ∈ ft, ∃ o : List Str, o ∈ ob ∧ g.Sublist o
theorem Sets.mono {sv : List Str} {n m : Nat} {ob : List (List Str)} (h : Sets sv n ob) (k : n ≤ m) : Sets sv m ob := ⟨h.asc, h.sub, h.anti, h.ne, Nat.le_trans h.len k⟩
theorem Drawn.good {m : Nat} {p : Int} {sv cl : List Str} {ob ft : List (List Str)} (h : Drawn m p sv cl ob ft) (hm : m ≤ 9) : Good3 p sv cl ob ft := by
  refine ⟨?_, ?_, h.asv, h.acl, h.nsv, h.ncl, ⟨h.lsv.1, Nat.le_trans h.lsv.2 hm⟩, h.lcl, h.dis, h.sob.mono (by omega), h.sft.mono (by omega), h.fob⟩
  · have z := h.pr
    simp only [List.mem_cons, List.not_mem_nil, or_false] at z
    rcases z with rfl | rfl | rfl | rfl | rfl | rfl | rfl | rfl <;> decide +kernel
  · have z := h.pr
    simp only [List.mem_cons, List.not_mem_nil, or_false] at z
    omega
theorem sets_true {sv : List Str} {n : Nat} {ob : List (List Str)} (h : Sets sv n ob) (a : Asc sv) (nm : ∀ s ∈ sv, Nm s) : setsB sv (.tuple (ob.map tupS)) = true := by
  have e : (ob.map tupS).map grp = ob := grps_tup ob
  simp only [setsB, e, Bool.and_eq_true, Bool.not_eq_true']
  refine ⟨?_, ?_, ascTB_of h.asc, antiB_iff.mpr fun x hx y hy => ?_, ?_⟩
  · rw [List.isEmpty_map]
    have := h.ne
    cases ob with
    | nil => exact absurd rfl this
    | cons a r => rfl
  · rw [List.all_map, List.all_eq_true]
    intro g hg
    exact setB_tup.mpr ⟨fun s hs => nm s ((h.sub g hg).subset hs), a.sub (h.sub g hg)⟩
  · by_cases c : x = y
    · exact .inl c
    · exact .inr (h.anti x hx y hy c)
  · rw [List.all_eq_true]
    exact fun g hg => subB_iff.mpr fun n hn => (h.sub g hg).subset hn
theorem good_sch {p : Int} {sv cl : List Str} {ob ft : List (List Str)} (h : Good3 p sv cl ob ft) : schB (sch p sv cl ob ft) = true := by
  show schT (.int p) (tupS sv) (tupS cl) (.tuple (ob.map tupS)) (.tuple (ft.map tupS)) = true
  simp only [schT, grp_tup, grps_tup, Bool.and_eq_true]
  refine ⟨h.pr, setB_tup.mpr ⟨h.nsv, h.asv⟩, setB_tup.mpr ⟨h.ncl, h.acl⟩, decide_eq_true h.lsv.1, ?_, ?_, sets_true h.sob h.asv h.nsv, sets_true h.sft h.asv h.nsv, ?_⟩
  · have := h.lcl.1
    cases cl with
    | nil => simp at this
    | cons a r => rfl
  · rw [List.all_eq_true]
    intro n hn
    rw [decide_eq_false fun z => h.dis n z hn]
    rfl
  · rw [List.all_eq_true]
    intro f hf
    obtain ⟨o, ho, hs⟩ := h.fob f hf
    rw [List.any_eq_true]
    exact ⟨o, ho, subB_iff.mpr fun n hn => hs.subset hn⟩
def kn (sv cl : List Str) : List Str := sv ++ (cl ++ (["zzzzzz"] : List Str))
section
variable {p : Int} {sv cl : List Str} {ob ft : List (List Str)}
theorem Good3.kl (h : Good3 p sv cl ob ft) : (kn sv cl).length < 64 := by
  unfold kn
  rw [List.length_append, List.length_append]
  have := h.lsv.2
  have := h.lcl.2
  show sv.length + (cl.length + 1) < 64
  omega
theorem Good3.nl1 (h : Good3 p sv cl ob ft) : NL (kn sv cl) sv := ⟨fun s hs => ⟨List.mem_append_left _ hs, (h.nsv s hs).sht.mono (by omega)⟩, by have := h.lsv.2; omega⟩
theorem Good3.nl2 (h : Good3 p sv cl ob ft) : NL (kn sv cl) cl := ⟨fun s hs => ⟨List.mem_append_right _ (List.mem_append_left _ hs), (h.ncl s hs).sht.mono (by omega)⟩, by have := h.lcl.2; omega⟩
theorem NL.subl {ks l l' : List Str} (h : NL ks l) (s : l'.Sublist l) : NL ks l' := h.sub (fun x hx => s.subset hx) s.length_le
theorem Good3.tl1 (h : Good3 p sv cl ob ft) : TL (kn sv cl) ob := ⟨fun g hg => h.nl1.subl (h.sob.sub g hg), by have := h.sob.len; omega⟩
theorem Good3.tl2 (h : Good3 p sv cl ob ft) : TL (kn sv cl) ft := ⟨fun g hg => h.nl1.subl (h.sft.sub g hg), by have := h.sft.len; omega⟩
theorem Good3.pf (h : Good3 p sv cl ob ft) : Fit (kn sv cl) (.int p) 2 1905 := (Fit.int (by have := h.pn; omega) (by have := h.pn; omega)).mono (by omega) (by omega)
theorem NL.f (h : NL (kn sv cl) sv) : Fit (kn sv cl) (tupS sv) 2 1905 := h.fit.mono (by omega) (by omega)
theorem NL.g {ks l : List Str} (h : NL ks l) : Fit ks (tupS l) 2 1905 := h.fit.mono (by omega) (by omega)
end
end G9

/-! M16: while; a, b, c = xs, (), () with xs a list of the def's own. -/
namespace G9
open PySem PySem.Spec L2 PyProof.Rows
/-- at most n looks at the test -/
def whL (c : En → (Bool → En → Prop) → Prop) (b : En → (En → Prop) → Prop) : Nat → En → (En → Prop) → Prop
  | 0, _, _ => False
  | n + 1, ρ, Q => c ρ fun k ρ1 => if k = true then b ρ1 fun ρ2 => whL c b n ρ2 Q else Q ρ1
def sWh (c : DT) (b : DS) : DS := ⟨sizeLine * (c.m + b.m), fun ρ D => ∃ n, n ≤ sizeLine ∧ whL (fun ρ Q => c ρ Q D.ex) (fun ρ k => b ρ { D with nx := k, ct := k, bk := D.nx }) n ρ D.nx⟩
/-- the turns by a measure that falls by one -/
theorem whL_ix {c : En → (Bool → En → Prop) → Prop} {b : En → (En → Prop) → Prop} {Q : En → Prop} (I : Nat → En → Prop)
    (st : ∀ n ρ (k : En → Prop), I n ρ → (∀ j ρ', j < n → I j ρ' → k ρ') → c ρ fun t ρ1 => if t = true then b ρ1 k else Q ρ1) : ∀ N n ρ, n ≤ N → I n ρ → whL c b (N + 1) ρ Q
  | 0, n, ρ, h, i => st n ρ _ i fun j ρ' hj _ => absurd hj (by omega)
  | N + 1, n, ρ, h, i => st n ρ _ i fun j ρ' hj ij => whL_ix I st N j ρ' (by omega) ij
/-- i, j, l = e, (), () -/
def sOwn3 (i j l : Nat) (a : DE) : DS := ⟨a.m, fun ρ D => a ρ (fun u fr ρ1 => D.nx (En.put (En.put (En.put ρ1 i fr u) j false (.d (.tuple []))) l false (.d (.tuple [])))) D.ex⟩
section
variable {W : Wk} {K : PySem.W.Frag} {B : List Bs} {M0 : List Addr} {ρ : En} {σ : L2.St} {H : Hp} {M : List Addr} {v : V} {u : U} {fr : Bool}
theorem Res.growR (r : Res W K B M0 ρ σ H M v u fr) {p : Addr} {o : HO} (hp : H p = none) : Res W K B M0 ρ σ (upd H p o) M v u fr := by
  obtain ⟨G, r⟩ := r
  refine ⟨G.grow hp, ?_⟩
  split
  · rename_i hf
    rw [if_pos hf] at r
    obtain ⟨a, vs, ds, q1, q2, q3, q4, q5, q6, q7⟩ := r
    exact ⟨a, vs, ds, q1, q2, by rw [upd_ne (ne_of_none q3 hp)]; exact q3, q4.move (Kp.fresh hp) fun _ z => .inl z, q5, q6.grow hp, q7⟩
  · rename_i hf
    rw [if_neg hf] at r
    exact r.move (Kp.fresh hp) fun _ z => .inl z
end
section
variable {Wp : Wk → Prop} {E : XK} {X : Cx} {ea : Expr} {pos px py pz pt p1 p2 : Pos} {i j l : Nat} {x y z : Str} {da : DE}
theorem sOwn30 {kt k2 pt2} {t1 t2} (g : Gx X) (hi : X.N[i]? = some x) (hj : X.N[j]? = some y) (hl : X.N[l]? = some z) (hij : i ≠ j) (hil : i ≠ l) (hjl : j ≠ l) (hx : X.env.scope.names.lookup x = some .local) (hy : X.env.scope.names.lookup y = some .local) (hz : X.env.scope.names.lookup z = some .local) (ja : JE Wp E X ea da)
    (ha1 : starEach [ea, .Tuple [] t1 p1, .Tuple [] t2 p2] X.env = (false, eval ea X.env) :: starEach [.Tuple [] t1 p1, .Tuple [] t2 p2] X.env)
    (hw : swappedStores [.Tuple [.Name x px, .Name y py, .Name z pz] kt pt] (.Tuple [ea, .Tuple [] t1 p1, .Tuple [] t2 p2] k2 pt2) X.env = pure (some [x, y, z]))
    (hs : swapsWithSole [.Tuple [.Name x px, .Name y py, .Name z pz] kt pt] (.Tuple [ea, .Tuple [] t1 p1, .Tuple [] t2 p2] k2 pt2) pos.line X.env = pure false) :
    JS Wp E X (.Assign [.Tuple [.Name x px, .Name y py, .Name z pz] kt pt] (.Tuple [ea, .Tuple [] t1 p1, .Tuple [] t2 p2] k2 pt2) pos) (sOwn3 i j l da) :=
  (ps_par3 g.calm g.nd hi hj hl hij hil hjl hx hy hz (pa_cons ja (pa_cons (pe_tup pa_nil) (pa_cons (pe_tup pa_nil) pa_nil (by rfl)) (by rfl)) ha1) hw hs).weakI fun pins s σ H D I ⟨W, H0, B, M0, ρ, M, DD, w, G, d, xo, h1, h2, h3, h4⟩ =>
    lE_go w G d xo fun u fr ρ1 v H1 M1 c r => by
    have li : i < σ.length := by rw [I.len]; exact (List.getElem?_eq_some_iff.mp hi).1
    have lj : j < σ.length := by rw [I.len]; exact (List.getElem?_eq_some_iff.mp hj).1
    have ll : l < σ.length := by rw [I.len]; exact (List.getElem?_eq_some_iff.mp hl).1
    refine ⟨Nat.zero_le _, fun p hp => ⟨Nat.zero_le _, fun q hq => ?_⟩⟩
    obtain ⟨M2, G2⟩ := ((r.growR (o := .tup []) hp).growR (o := .tup []) hq).put (i := i) li
    have pq : p ≠ q := fun e => by rw [← e, upd_same] at hq; cases hq
    have s1 : SqT X.K (upd (upd H1 p (.tup [])) q (.tup [])) p [] := .inl (.inl (by rw [upd_ne pq]; exact upd_same))
    have s2 : SqT X.K (upd (upd H1 p (.tup [])) q (.tup [])) q [] := .inl (.inl upd_same)
    exact ⟨v, .ref p, .ref q, rfl, h1 _ _ _ _ (by rw [List.length_set, List.length_set, List.length_set]) c ((G2.put0 (i := j) (by rw [List.length_set]; exact lj) (show RepU (W.up da.m) X.K _ M2 (.ref p) (.d (.tuple [])) from Rep.tup s1 .nil)).put0 (i := l) (by rw [List.length_set, List.length_set]; exact ll) (show RepU (W.up da.m) X.K _ M2 (.ref q) (.d (.tuple [])) from Rep.tup s2 .nil))⟩
theorem sWh0 {c : Expr} {body : List Stmt} {dc : DT} {db : DS} (hp : PassesOwn (model X.prog X.w) X.A X.env X.xe) (hc : JT Wp E X c dc) (hb : JB Wp E X body db) : JS Wp E X (.While c body [] pos) (sWh dc db) := by
  refine (ps_while hp hc hb).weakI fun pins s σ H D I ⟨W, H0, B, M0, ρ, M, DD, w, G, d, x, h1, h2, h3, h4⟩ => ?_
  obtain ⟨N, hN, d⟩ := d
  refine ⟨fun m σ2 H2 => ∃ i ρ' M', i + m = N ∧ Gd (W.up (i * (dc.m + db.m))) X.K (⟨H0, W.ad, M0⟩ :: B) M0 ρ' σ2 H2 M' ∧ σ2.length = σ.length ∧ whL (fun ρ Q => dc ρ Q DD.ex) (fun ρ k => db ρ { DD with nx := k, ct := k, bk := DD.nx }) m ρ' DD.nx, ⟨N, 0, ρ, M, by omega, by rw [Nat.zero_mul]; exact G, rfl, d⟩, ?_⟩
  rintro m σ2 H2 ⟨i, ρ2, M2, e, G2, l2, d2⟩
  cases m with
  | zero => exact d2.elim
  | succ m =>
    have kk : i * (dc.m + db.m) + dc.m + db.m = (i + 1) * (dc.m + db.m) := by rw [Nat.succ_mul, Nat.add_assoc]
    have le : i * (dc.m + db.m) + dc.m + db.m ≤ sizeLine * (dc.m + db.m) := by rw [kk]; exact Nat.mul_le_mul_right _ (by omega)
    have le1 : i * (dc.m + db.m) + dc.m ≤ sizeLine * (dc.m + db.m) := Nat.le_trans (Nat.le_add_right _ _) le
    refine lT_go' (hle := le1) w G2 d2 x fun k ρ3 H3 M3 c3 G3 => ?_
    cases k with
    | true =>
      refine ⟨_, fun σ' H' p' => ⟨m, Nat.lt_succ_self _, p'⟩, ?_⟩
      exact lS_go' (hle := le) w G3 c3 x (fun σ' ρ' H' M' e' c G' => ⟨i + 1, ρ', M', by omega, by rw [← kk]; exact G', e'.trans l2, c⟩) (fun u fr v H' c r => h2 _ _ _ _ c (r.mono le)) (fun σ' ρ' H' M' e' c G' => h1 _ _ _ _ (e'.trans l2) c (G'.mono le)) fun σ' ρ' H' M' e' c G' => ⟨i + 1, ρ', M', by omega, by rw [← kk]; exact G', e'.trans l2, c⟩
    | false => exact h1 _ _ _ _ l2 c3 (G3.mono le1)
theorem qOwn3 {kt k2 pt2} {t1 t2} (i j l : Nat) (g : Gx X) (ja : JE Wp E X ea da) (hi : X.N[i]? = some x := by rfl) (hj : X.N[j]? = some y := by rfl) (hl : X.N[l]? = some z := by rfl) (hij : i ≠ j := by decide) (hil : i ≠ l := by decide) (hjl : j ≠ l := by decide) (hx : X.env.scope.names.lookup x = some .local := by rfl) (hy : X.env.scope.names.lookup y = some .local := by rfl) (hz : X.env.scope.names.lookup z = some .local := by rfl)
    (ha1 : starEach [ea, .Tuple [] t1 p1, .Tuple [] t2 p2] X.env = (false, eval ea X.env) :: starEach [.Tuple [] t1 p1, .Tuple [] t2 p2] X.env := by rfl)
    (hw : swappedStores [.Tuple [.Name x px, .Name y py, .Name z pz] kt pt] (.Tuple [ea, .Tuple [] t1 p1, .Tuple [] t2 p2] k2 pt2) X.env = pure (some [x, y, z]) := by rfl)
    (hs : swapsWithSole [.Tuple [.Name x px, .Name y py, .Name z pz] kt pt] (.Tuple [ea, .Tuple [] t1 p1, .Tuple [] t2 p2] k2 pt2) pos.line X.env = pure false := by rfl) :
    JS Wp E X (.Assign [.Tuple [.Name x px, .Name y py, .Name z pz] kt pt] (.Tuple [ea, .Tuple [] t1 p1, .Tuple [] t2 p2] k2 pt2) pos) (sOwn3 i j l da) := sOwn30 g hi hj hl hij hil hjl hx hy hz ja ha1 hw hs
end
end G9

/-! D4: xs[i] = v of a list; a law's source of draws: a list (its cells, a checksum, a count). -/
namespace G9
open PySem PySem.Spec L2 PyProof.Rows
section
variable {prog : Program} {w : World} {A : Around} {E : Value → Shared → Prop} {s : Shared}
theorem put_list {l : Addr} {its : Array Value} {n : Nat} {k : Int} {t : Tok} {v : Value} {Q : Unit → Shared → Prop} (e : s.heap.get? l = some { cls := .type "list", data := .seq its n })
    (h0 : 0 ≤ k) (hf : k < 2 ^ 63) (hk : k < its.size) (h : Q () { s with heap := s.heap.update l (Obj.mapSeq (·.setIfInBounds k.toNat v)) }) :
    wpAny (model prog w) A (setItem (.ref l) (.int k t) v) Q E s := by
  have hl : s.heap.IsList l its := PySem.IsL.isList e
  obtain ⟨o, ho, hc, ne, hd⟩ := id hl
  unfold setItem
  try with_reducible refine wpAny_holding ?_
  first | refine wpAny_bind (wpAny_pure ?_) | skip
  refine wpAny_bind (wpAny_sequenceKey hl.typeIs (by decide) ?_)
  refine wpAny_bind (wpAny_callSpecial?_slot (name := Str.ofString "__setitem__") hl.typeIs slot_list_setitem
    (wpAny_call_entry slot_list_setitem hl.typeIs entry_list_setitem ?_ (args_list_setitem _ _ _)))
  show wpAny _ _ (Builtin.List.listSubscript? (.int k t) >>= _) _ _ s
  refine wpAny_bind (wpAny_listSubscript_int (fitsIndex_of h0 hf) ?_)
  clear hf
  obtain ⟨j, rfl⟩ := Int.eq_ofNat_of_zero_le h0
  have hj : j < its.size := by omega
  have hx : its[j]? = some its[j] := Array.getElem?_eq_getElem hj
  show wpAny _ _ ((seqItemAt l j >>= fun r => pure (r.map (j, ·))) >>= _) _ _ s
  refine wpAny_bind (wpAny_bind (wpAny_seqItemAt ho hd (wpAny_pure ?_)))
  rw [hx]
  show wpAny _ _ (setSeqItemAt l j v >>= _) _ _ s
  refine wpAny_bind (wpAny_setSeqItemAt ho hd ?_)
  first
    | exact wpAny_bind (wpAny_pure (wpAny_pure ⟨.none, rfl, wpAny_pure h⟩))
    | exact wpAny_pure ⟨.none, rfl, wpAny_pure h⟩
end
theorem Vals.set {xs : List V} {us : List Value} (r : Vals xs us) {y : V} {u : Value} (ry : RelV y u) : ∀ j : Nat, Vals (xs.set j y) (us.set j u) := by
  induction r with
  | nil => intro j; exact .nil
  | cons h t ih =>
    intro j
    cases j with
    | zero => exact .cons ry t
    | succ j => exact .cons h (ih j)
/-- xs[j] = v -/
def tLPut (tl ti tv : TE) : TS := fun D σ H => tv σ H fun v H1 => tl σ H1 fun x H2 => ti σ H2 fun y H3 => ∃ (l : Addr) (xs : List V) (j : Nat), x = .ref l ∧ y = .int (j : Int) ∧ H3 l = some (.lst xs) ∧ j < xs.length ∧ D.nx σ (upd H3 l (.lst (xs.set j v)))
section
variable {X : Cx} {o i value : Expr} {pos pos' : Pos} {tl ti tv : TE}
theorem ps_lput (ho : PE X o tl) (hi : PE X i ti) (hv : PE X value tv) (hs : swapsWith value (some (.Subscript o i pos')) pos.line X.env = pure false) :
    PS X (.Assign [.Subscript o i pos'] value pos) (tLPut tl ti tv) := by
  refine ⟨fun pins s σ H D I h => ?_⟩
  refine wpAny_Assign_Subscript (thn (hv.run pins s σ H _ I h) fun vr s1 ⟨v, H1, I1, rv, q1⟩ => thn (ho.run pins s1 σ H1 _ I1 q1) fun u s2 ⟨x, H2, I2, rx, q2⟩ => thn (hi.run pins s2 σ H2 _ I2 q2) fun iv s3 ⟨y, H3, I3, ry, l, xs, j, ex, ey, hH, hj, q3⟩ => ?_) hs
  subst ex ey
  obtain rfl : u = Value.ref l := rx
  obtain ⟨t, rfl⟩ := (show ∃ t, iv = Value.int (j : Int) t from ry)
  obtain ⟨z, its, n, r, hl, e⟩ := I3.lstM hH
  have hj2 : j < its.length := by rw [← hl]; exact hj
  refine put_list e (by omega) (by rw [sizeLine_eq] at z; omega) (by rw [List.size_toArray]; omega) ⟨σ, _, I3.lset (its' := its.set j vr) hH e (by simp) (Vals.set r rv j) (by rw [List.length_set]; exact z), q3⟩
end
structure DeckL (dk c : Addr) (n : Nat) (H : Hp) : Prop where
  ex : ∃ (cs : List Int) (dg ct : Int), H dk = some (.lst [.ref c, .int dg, .int ct]) ∧ H c = some (.lst (cs.map V.int)) ∧ cs.length ≤ 63 ∧ 0 ≤ dg ∧ dg < 4294967296 ∧ 0 ≤ ct ∧ ct ≤ n ∧ dk ≠ c
def deckL (dk c : Addr) (n : Nat) : Wk where
  dk := dk
  ad := [dk, c]
  okN := DeckL dk c
  n := n
  st0 := fun n H a o ha ⟨cs, dg, ct, h1, h2, h⟩ => by
    simp only [List.mem_cons, List.not_mem_nil, or_false, not_or] at ha
    exact ⟨cs, dg, ct, by rw [upd_ne (Ne.symm ha.1)]; exact h1, by rw [upd_ne (Ne.symm ha.2)]; exact h2, h⟩
  liv0 := fun n H ⟨cs, dg, ct, h1, h2, _⟩ a ha => by
    simp only [List.mem_cons, List.not_mem_nil, or_false] at ha
    rcases ha with rfl | rfl
    · rw [h1]; exact fun z => nomatch z
    · rw [h2]; exact fun z => nomatch z
  mono0 := fun n m H h ⟨cs, dg, ct, h1, h2, h3, h4, h5, h6, h7, h8⟩ => ⟨cs, dg, ct, h1, h2, h3, h4, h5, h6, by omega, h8⟩
def IsDeckL (W : Wk) : Prop := ∃ dk c n, W = deckL dk c n
theorem IsDeckL.up {W : Wk} (h : IsDeckL W) (k : Nat) : IsDeckL (W.up k) := by
  obtain ⟨dk, c, n, rfl⟩ := h
  exact ⟨dk, c, n + k, rfl⟩
theorem cut63L (ns : List Int) : ∃ ms : List Int, cutV (ns.map V.int) none (some 63) = ms.map V.int ∧ ms.length ≤ 63 := by
  refine ⟨(ns.drop (HT.sIx ns.length 0 none)).take (HT.sIx ns.length ns.length (some 63) - HT.sIx ns.length 0 none), ?_, ?_⟩
  · unfold cutV
    rw [List.length_map, List.map_take, List.map_drop]
  · have h1 : HT.sIx ns.length ns.length (some 63) ≤ 63 := by
      have := HT.sIx_le (n := ns.length)
      simp only [HT.sIx]
      first | omega | (split <;> omega)
    rw [List.length_take]
    omega
end G9

/-! N3: a, b = xs, c with xs a list of the def's own and c a name. -/
namespace G9
open PySem PySem.Spec L2 PyProof.Rows
/-- i, j = e, k -/
def sOwn2 (i j k : Nat) (a : DE) : DS := ⟨a.m, fun ρ D => a ρ (fun u fr ρ1 => ∃ u2, En.at ρ1 k = some ⟨false, u2⟩ ∧ D.nx (En.put (En.put ρ1 i fr u) j false u2)) D.ex⟩
section
variable {Wp : Wk → Prop} {E : XK} {X : Cx} {ea : Expr} {pos px py pz pt p1 p2 : Pos} {i j k : Nat} {x y z : Str} {da : DE}
theorem at_get {ρ : En} {k : Nat} {e : Ent} (h : En.at ρ k = some e) : ρ[k]? = some (some e) := by
  unfold En.at at h
  cases q : ρ[k]? with
  | none => rw [q] at h; cases h
  | some o => rw [q] at h; cases o <;> cases h; rfl
theorem qOwn2 {kt k2 pt2} (i j k : Nat) (g : Gx X) (ja : JE Wp E X ea da) (hi : X.N[i]? = some x := by rfl) (hj : X.N[j]? = some y := by rfl) (hk : X.N[k]? = some z := by rfl) (hij : i ≠ j := by decide) (hik : i ≠ k := by decide) (hx : X.env.scope.names.lookup x = some .local := by rfl) (hy : X.env.scope.names.lookup y = some .local := by rfl)
    (hv : Vis X.env.scope z := by first | exact Or.inl rfl | exact Or.inr (Or.inl rfl) | exact Or.inr (Or.inr rfl)) (hd : (z == ("__debug__" : Str)) = false := by decide) (hcd : (z == ("__classdict__" : Str)) = false := by decide)
    (ha1 : starEach [ea, .Name z pz] X.env = (false, eval ea X.env) :: starEach [.Name z pz] X.env := by rfl) (ha2 : starEach [.Name z pz] X.env = (false, eval (.Name z pz) X.env) :: starEach [] X.env := by rfl)
    (hw : swappedStores [.Tuple [.Name x p1, .Name y p2] kt pt] (.Tuple [ea, .Name z pz] k2 pt2) X.env = pure (some [x, y]) := by rfl)
    (hs : swapsWithSole [.Tuple [.Name x p1, .Name y p2] kt pt] (.Tuple [ea, .Name z pz] k2 pt2) pos.line X.env = pure false := by rfl) :
    JS Wp E X (.Assign [.Tuple [.Name x p1, .Name y p2] kt pt] (.Tuple [ea, .Name z pz] k2 pt2) pos) (sOwn2 i j k da) :=
  (ps_par g.calm g.nd hi hj hij hx hy (pa_cons ja (pa_cons (pe_var hk hv hd hcd) pa_nil ha2) ha1) hw hs).weakI fun pins s σ H D I ⟨W, H0, B, M0, ρ, M, DD, w, G, d, xo, h1, h2, h3, h4⟩ =>
    lE_go w G d xo fun u fr ρ1 v H1 M1 c r => by
    obtain ⟨u2, e2, c⟩ := c
    have li : i < σ.length := by rw [I.len]; exact (List.getElem?_eq_some_iff.mp hi).1
    have lj : j < σ.length := by rw [I.len]; exact (List.getElem?_eq_some_iff.mp hj).1
    obtain ⟨M2, G2⟩ := r.put (i := i) li
    have e3 : (En.put ρ1 i fr u)[k]? = some (some ⟨false, u2⟩) := by
      show (ρ1.set i _)[k]? = _
      rw [List.getElem?_set_ne hik]
      exact at_get e2
    obtain ⟨v2, q1, q2⟩ := G2.ent k _ e3
    rw [List.getElem?_set_ne hik] at q1
    exact ⟨v2, q1, v, v2, rfl, h1 _ _ _ _ (by rw [List.length_set, List.length_set]) c (G2.put0 (i := j) (by rw [List.length_set]; exact lj) q2)⟩
end
/-- list(range(e)) -/
def dLRng (a : DE) : DE := ⟨a.m, fun ρ P R => a ρ (fun u _ ρ1 => ∃ n, u = .d (.int n) ∧ -(2 ^ 61) ≤ n ∧ n ≤ 16777216 ∧ P (.d (.list (rangeD 0 n))) true ρ1) R⟩
/-- xs[e] = v, xs (slot i) a list of the def's own -/
def sPutO (i : Nat) (di dv : DE) : DS := ⟨dv.m + di.m, fun ρ D => dv ρ (fun u _ ρ1 => ∃ e, En.at ρ1 i = some e ∧ di ρ1 (fun u2 _ ρ2 => ∃ (x : PyData) (j : Nat) (ds : List PyData), u = .d x ∧ u2 = .d (.int (j : Int)) ∧ En.at ρ2 i = some ⟨true, .d (.list ds)⟩ ∧ j < ds.length ∧ D.nx (En.put ρ2 i true (.d (.list (ds.set j x))))) D.ex) D.ex⟩
theorem repL_set {K : PySem.W.Frag} {H : Hp} {M : List Addr} {v : V} {x : PyData} : ∀ {vs : List V} {ds : List PyData} (j : Nat), RepL K H M vs ds → Rep K H M v x → RepL K H M (vs.set j v) (ds.set j x)
  | _, _, _, .nil, _ => .nil
  | _, _, 0, .cons _ t, r => .cons r t
  | _, _, j + 1, .cons h t, r => .cons h (repL_set j t r)
section
variable {Wp : Wk → Prop} {E : XK} {X : Cx} {ea ev : Expr} {pos p1 p2 p3 pz : Pos} {z : Str} {da dv : DE}
theorem rgV_rep {K : PySem.W.Frag} {H : Hp} {M : List Addr} (n : Int) : RepL K H M (rgV 0 n) (rangeD 0 n) := by
  have e1 : rgV 0 n = ((List.range (n - 0).toNat).map fun (k : Nat) => (0 : Int) + (k : Int)).map V.int := by unfold rgV; rw [List.map_map]; rfl
  have e2 : rangeD 0 n = ((List.range (n - 0).toNat).map fun (k : Nat) => (0 : Int) + (k : Int)).map PyData.int := by unfold rangeD; rw [List.map_map]; rfl
  rw [e1, e2]
  exact RepL.of_ints _
theorem qLRng (g : Gx X) (h1 : X.mg "list" = none) (h2 : X.mg "range" = none) (ja : JE Wp E X ea da) (hg1 : Gl X "list" := by rfl) (hg2 : Gl X "range" := by rfl)
    (na1 : starEach [.Call (.Name "range" p2) [ea] [] p3] X.env = (false, eval (.Call (.Name "range" p2) [ea] [] p3) X.env) :: starEach [] X.env := by rfl) (na2 : starEach [ea] X.env = (false, eval ea X.env) :: starEach [] X.env := by rfl) :
    JE Wp E X (.Call (.Name "list" p1) [.Call (.Name "range" p2) [ea] [] p3] [] pos) (dLRng da) :=
  (pe_listRg g.calm hg1 h1 (prg_1 hg2 h2 ja na2) na1).weak fun σ H Q ⟨W, B, M0, ρ, M, P, R, w, G, d, x, h⟩ => lE_go w G d x fun u fr ρ1 v H1 M1 c r => by
    obtain ⟨n, rfl, n0, n1, c⟩ := c
    have rr := Rep.int_inv r.rep
    exact ⟨n, rr, ⟨by omega, by omega, by omega, by omega, by omega⟩, fun q hq => h _ _ _ _ _ _ c (Res.new r.gd hq (rgV_rep n))⟩
theorem qPutO (i : Nat) (g : Gx X) (ji : JE Wp E X ea da) (jv : JE Wp E X ev dv) (hi : X.N[i]? = some z := by rfl) (hv : Vis X.env.scope z := by first | exact Or.inl rfl | exact Or.inr (Or.inl rfl) | exact Or.inr (Or.inr rfl)) (hd : (z == ("__debug__" : Str)) = false := by decide)
    (hcd : (z == ("__classdict__" : Str)) = false := by decide) (hs : swapsWith ev (some (.Subscript (.Name z pz) ea p1)) pos.line X.env = pure false := by rfl) : JS Wp E X (.Assign [.Subscript (.Name z pz) ea p1] ev pos) (sPutO i da dv) :=
  (ps_lput (pe_var hi hv hd hcd) ji jv hs).weakI fun pins s σ H D I ⟨W, H0, B, M0, ρ, M, DD, w, G, d, xo, h1, h2, h3, h4⟩ => lE_go w G d xo fun u fr ρ1 v H1 M1 c r => by
    obtain ⟨e, he, c⟩ := c
    obtain ⟨w1, q1, _⟩ := r.gd.ent i e (at_get he)
    refine ⟨w1, q1, lE_go' w r.gd.base c xo.cons fun u2 fr2 ρ2 v2 H2 M2 c r2 => ?_⟩
    obtain ⟨x, j, ds, rfl, rfl, e2, hj, c⟩ := c
    have G2 := r2.gd
    have rx : Rep X.K H2 M2 v x := G2.rep r.rep
    obtain ⟨a, vs, rfl, ham, ha, rl⟩ := G2.at_own e2 q1
    have ej : v2 = V.int (j : Int) := Rep.int_inv r2.rep
    have G3 := G2.write (at_get e2) rfl q1 ha (repL_set j rl rx)
    exact ⟨a, vs, j, rfl, ej, ha, by rw [rl.length]; exact hj, h1 _ _ _ _ rfl c G3.tail⟩
end
end G9

/-! E7: x == (), isinstance(x, (tuple, list)), s.upper(), xs[::-1] of a text too. -/
namespace G9
open PySem PySem.Spec L2 PyProof.Rows
/-! ### a tuple against () -/
def rT0 (K : PySem.W.Frag) : R2 := fun x y H Q => ∃ a b xs, x = .ref a ∧ y = .ref b ∧ SqT K H a xs ∧ SqT K H b [] ∧ Q (.bl xs.isEmpty) H
theorem op_eqT0 {X : Cx} (hu : X.A.units < cLine) : OpR X (compareOp .Eq) (rT0 X.K) := by
  rintro pins s σ H x y v u Q I rx ry ⟨a, b, xs, rfl, rfl, ha, hb, q⟩
  cases rx
  cases ry
  obtain ⟨us, r1, p1, _⟩ := I.tuple ha
  obtain ⟨ws, r2, p2, _⟩ := I.tuple hb
  cases r2
  refine SeqAt.RcAt.tuples (e := fun _ => true) p1 p2 hu (fun j _ h2 => absurd h2 (Nat.not_lt_zero _)) _ _ _ _ ?_
  have e : ((List.range (min us.toArray.size ([] : List Value).toArray.size)).all (fun _ => true) && us.toArray.size == ([] : List Value).toArray.size) = xs.isEmpty := by
    have hl := r1.length
    cases xs with
    | nil =>
      have : us = [] := List.eq_nil_of_length_eq_zero hl.symm
      rw [this]; rfl
    | cons x xs =>
      cases us with
      | nil => cases hl
      | cons u us => simp
  rw [e]
  exact ⟨.bl _, H, I, rfl, q⟩
def dEq0 (a : DO) : DE := ⟨a.m, fun ρ P R => a ρ (fun oa ρ1 => ∃ xs, rs ρ1 oa = some (.d (.tuple xs)) ∧ P (.d (.bool xs.isEmpty)) false ρ1) R⟩
section
variable {Wp : Wk → Prop} {E : XK} {X : Cx} {ea : Expr} {a : DO} {pos p1 p2 p3 p4 p5 : Pos} {k : Nat}
theorem qEq0 (g : Gx X) (ja : JO Wp E X ea a) (hm : behindInMarks .Eq (.Tuple [] k p2) = false := by rfl) : JE Wp E X (.Compare ea [.Eq] [.Tuple [] k p2] pos) (dEq0 a) := by
  have un := g.un
  refine (pe_cmpR (op_eqT0 (by omega)) ja (pe_tup pa_nil) hm).weak fun σ H Q ⟨W, B, M0, ρ, M, P, R, w, G, d, x, h⟩ => ?_
  refine lO_go w G d x fun oa ρ1 v H1 M1 c G1 k1 => ?_
  obtain ⟨xs, e, c⟩ := c
  obtain ⟨l, vs, rfl, hl, rl⟩ := (OpdOk.pk G1 k1 e).tup_inv
  refine ⟨by show 0 ≤ sizeLine; omega, fun p hp => ⟨l, p, vs, rfl, rfl, (Kp.fresh (M := []) hp).sqT hl, SqT.of upd_same, ?_⟩⟩
  have e2 : vs.isEmpty = xs.isEmpty := by
    have := rl.length
    cases vs <;> cases xs <;> simp_all
  rw [e2]
  exact h _ _ _ _ _ _ c (Res.bool (G1.grow hp) _)
theorem qkEq0 (g : Gx X) (ja : JO Wp E X ea a) (hm : behindInMarks .Eq (.Tuple [] k p2) = false := by rfl) : JT Wp E X (.Compare ea [.Eq] [.Tuple [] k p2] pos) (kE (dEq0 a)) := by
  have un := g.un
  refine (pt_cmpR (op_eqT0 (by omega)) ja (pe_tup pa_nil) hm).weak fun σ H Q ⟨W, B, M0, ρ, M, P, R, w, G, d, x, h⟩ => ?_
  refine lO_go w G d x fun oa ρ1 v H1 M1 c G1 k1 => ?_
  obtain ⟨xs, e, c⟩ := c
  obtain ⟨y, e3, c⟩ := c
  cases e3
  obtain ⟨l, vs, rfl, hl, rl⟩ := (OpdOk.pk G1 k1 e).tup_inv
  refine ⟨by show 0 ≤ sizeLine; omega, fun p hp => ⟨l, p, vs, rfl, rfl, (Kp.fresh (M := []) hp).sqT hl, SqT.of upd_same, ?_⟩⟩
  have e2 : vs.isEmpty = xs.isEmpty := by
    have := rl.length
    cases vs <;> cases xs <;> simp_all
  rw [e2]
  exact ⟨_, rfl, h _ _ _ _ c (G1.grow hp)⟩
/-! ### isinstance of two kinds -/
theorem _root_.G9.RepPk.freshP {K : PySem.W.Frag} {H : Hp} {M : List Addr} {v : V} {x : PyData} {p : Addr} {o : HO} (r : RepPk K H M v x) (hp : H p = none) : RepPk K (upd H p o) M v x := by
  cases x with
  | list ds =>
    obtain ⟨a, vs, rfl, h, q⟩ := r
    exact ⟨a, vs, rfl, (Kp.fresh (M := []) hp).same _ _ (by simp) h, q.keep (Kp.fresh hp)⟩
  | none => exact Rep.keep (Kp.fresh hp) r
  | bool b => exact Rep.keep (Kp.fresh hp) r
  | int b => exact Rep.keep (Kp.fresh hp) r
  | str b => exact Rep.keep (Kp.fresh hp) r
  | tuple b => exact Rep.keep (Kp.fresh hp) r
  | dict b => exact Rep.keep (Kp.fresh hp) r
def dIsi2 (a : DO) (t u : Ty) : DE := ⟨a.m, fun ρ P R => a ρ (fun oa ρ1 => ∃ x, rs ρ1 oa = some (.d x) ∧ P (.d (.bool (isD x t || isD x u))) false ρ1) R⟩
theorem qIsi2 {y z : Str} (t u : Ty) (hm : X.mg "isinstance" = none) (hmt : X.mg y = none) (hmu : X.mg z = none) (ja : JO Wp E X ea a) (hg : Gl X "isinstance" := by rfl) (hgt : Gl X y := by rfl) (hgu : Gl X z := by rfl) (hvt : bootBuiltins y = some (.type t.nm) := by rfl) (hvu : bootBuiltins z = some (.type u.nm) := by rfl)
    (hn : y ≠ "__name__" := by decide) (hn2 : z ≠ "__name__" := by decide) (hd : (y == ("__debug__" : Str)) = false := by decide) (hd2 : (z == ("__debug__" : Str)) = false := by decide)
    (hs : starEach [ea, .Tuple [.Name y p3, .Name z p4] k p5] X.env = (false, eval ea X.env) :: starEach [.Tuple [.Name y p3, .Name z p4] k p5] X.env := by rfl) (hs2 : starEach [.Tuple [.Name y p3, .Name z p4] k p5] X.env = (false, eval (.Tuple [.Name y p3, .Name z p4] k p5) X.env) :: starEach [] X.env := by rfl)
    (hs3 : starEach [.Name y p3, .Name z p4] X.env = (false, eval (.Name y p3) X.env) :: starEach [.Name z p4] X.env := by rfl) (hs4 : starEach [.Name z p4] X.env = (false, eval (.Name z p4) X.env) :: starEach [] X.env := by rfl)
    (hpl : (backTo pos (starEach [.Tuple [.Name y p3, .Name z p4] k p5] X.env)).any (·.1) = false := by rfl) :
    JE Wp E X (.Call (.Name "isinstance" p2) [ea, .Tuple [.Name y p3, .Name z p4] k p5] [] pos) (dIsi2 a t u) := by
  have ty : PE X (.Name y p3) (tC (.ty t.nm)) := pe_bltn hgt hmt hvt rfl hn hd
  have tz : PE X (.Name z p4) (tC (.ty u.nm)) := pe_bltn hgu hmu hvu rfl hn2 hd2
  refine (pe_callB call_isiT hg hm (by rfl) (pa_cons ja (pa_cons (pe_tup (pa_cons ty (pa_cons tz pa_nil hs4) hs3)) pa_nil hs2) hs) (by decide) (by decide) hs hpl).weak fun σ H Q ⟨W, B, M0, ρ, M, P, R, w, G, d, x, h⟩ => ?_
  refine lO_go w G d x fun oa ρ1 v H1 M1 c G1 k1 => ?_
  obtain ⟨y, h1, f⟩ := c
  have pk := OpdOk.pk G1 k1 h1
  refine ⟨by show 2 ≤ sizeLine; rw [sizeLine_eq]; omega, fun p hp => ?_⟩
  have pk2 := pk.freshP (o := .tup [.ty t.nm, .ty u.nm]) hp
  obtain ⟨S, h2, _, h3⟩ := tyX_of pk2
  refine ⟨v, p, [.ty t.nm, .ty u.nm], .type S, [.type t.nm, .type u.nm], isD y t || isD y u, rfl, upd_same, .cons (.ty _) (.cons (.ty _) .nil), h2, ?_, h _ _ _ _ _ _ f (Res.bool (G1.grow hp) _)⟩
  have kk : ∀ a b : Ty, PySem.W.kitAny X.K (.type S) [.type a.nm, .type b.nm] = some (isD y a || isD y b) := by
    intro a b
    cases y <;> (have h3 : S = _ := h3; subst h3; cases a <;> cases b <;> rfl)
  exact kk t u
/-! ### s.upper() -/
def dUpper (a : DE) : DE := ⟨a.m, fun ρ P R => a ρ (fun u _ ρ1 => ∃ s, u = .d (.str s) ∧ s.length ≤ 5592405 ∧ P (.d (.str (Txt.upper s))) false ρ1) R⟩
theorem qUpper {apos : Pos} {da : DE} (ja : JE Wp E X ea da) (hbase : attributeBase ea "upper" X.env (eval ea X.env) = eval ea X.env := by rfl) (hline : (apos.endLine == pos.line) = true := by rfl) : JE Wp E X (.Call (.Attribute ea "upper" apos) [] [] pos) (dUpper da) :=
  (pe_upper ja hbase hline).weak fun σ H Q ⟨W, B, M0, ρ, M, P, R, w, G, d, x, h⟩ => lE_go w G d x fun u fr ρ1 v H1 M1 c r => by
    obtain ⟨s, rfl, hs, c⟩ := c
    obtain rfl := Rep.str_inv r.rep
    exact ⟨⟨s, rfl⟩, s, rfl, rfl, hs, h _ _ _ _ _ _ c (Res.of r.gd (Rep.str _))⟩
/-! ### xs[::-1], a text too -/
def rvStr (x : Str) : Str := ⟨((Builtin.Str.strSliceIndices none none (-1) x.length).filterMap (x.cps[·]?)).toArray⟩
theorem rvStr_len (x : Str) : (rvStr x).length ≤ x.length := by
  show ((Builtin.Str.strSliceIndices none none (-1) x.length).filterMap (x.cps[·]?)).toArray.size ≤ _
  rw [List.size_toArray]
  refine Nat.le_trans (List.length_filterMap_le _ _) ?_
  unfold Builtin.Str.strSliceIndices sliceRange
  simp
  omega
theorem rvStr_mem {x : Str} {c : Nat} (h : c ∈ (rvStr x).cps) : c ∈ x.cps := by
  have h : c ∈ ((Builtin.Str.strSliceIndices none none (-1) x.length).filterMap (x.cps[·]?)).toArray := h
  rw [List.mem_toArray, List.mem_filterMap] at h
  obtain ⟨i, _, h⟩ := h
  exact Array.mem_of_getElem? h
def tRevX (K : PySem.W.Frag) (te : TE) : TE := fun σ H Q => te σ H fun x H1 => (∃ z : Str, x = .str z ∧ z.length ≤ sizeLine ∧ Q (.str (rvStr z)) H1) ∨ ∃ a xs, x = .ref a ∧ ((SqL K H1 a xs ∧ ∀ p, H1 p = none → Q (.ref p) (upd H1 p (.lst xs.reverse))) ∨ (SqT K H1 a xs ∧ ∀ p, H1 p = none → Q (.ref p) (upd H1 p (.tup xs.reverse))))
theorem pe_revX {i : Nat} {e : Expr} {te : TE} (he : PE X e te) : PE X (.Subscript e (.Slice none none (some (.UnaryOp .USub (.Constant (.int 1) i p1) p2)) p3) pos) (tRevX X.K te) := by
  refine ⟨fun pins s σ H Q I h => Subscript_ (thn (he.run pins s σ H _ I h) fun v s1 ⟨x, H1, I1, r1, q⟩ => ?_)⟩
  have step : PO X (some (.UnaryOp .USub (.Constant (.int 1) i p1) p2)) (tPart (tUn (rU fun i => .int (-i)) (tC (.int 1)))) := po_some (pe_un un_neg pe_int)
  refine wpAny_Slice (thn (po_none.run pins s1 σ H1 (fun o H2 => o = none ∧ H2 = H1) I1 ⟨rfl, rfl⟩) fun vl s2 ⟨l, H2, I2, pl, el, e2⟩ => ?_)
  subst el e2
  refine thn (po_none.run pins s2 σ H2 (fun o H3 => o = none ∧ H3 = H2) I2 ⟨rfl, rfl⟩) fun vu s3 ⟨u, H3, I3, pu, eu, e3⟩ => ?_
  subst eu e3
  refine thn (step.run pins s3 σ H3 (fun o H4 => o = some (-1) ∧ H4 = H3) I3 ⟨1, rfl, -1, rfl, rfl, rfl⟩) fun vs s4 ⟨o, H4, I4, ps, eo, e4⟩ => ?_
  subst eo e4
  have I5 : Inv X pins σ H4 { s4 with heap := s4.heap.push { cls := .type "slice", data := .fields #[vl, vu, vs] } } := I4.kept (t' := s4.toks) fun b ob q => Heap.get?_push_of_some _ q
  have fr := I5.hok.fresh (Nat.le_refl _)
  show wpAny (model X.prog X.w) X.A (subscriptTail e (.Slice none none (some (.UnaryOp .USub (.Constant (.int 1) i p1) p2)) p3) v (.ref s4.heap.objs.size)) (EP X pins σ Q) X.xe { s4 with heap := s4.heap.push { cls := .type "slice", data := .fields #[vl, vu, vs] } }
  rcases q with ⟨z, rfl, hz, q⟩ | ⟨a, xs, rfl, q⟩
  · obtain ⟨t, rfl⟩ := r1
    cases pl
    cases pu
    cases ps with
    | int _ tk =>
    refine tail_any (ops := [.str z t, .ref s4.heap.objs.size]) (typeIs_str _ z t) (F.slot_str_getitem.lookup) ?_ (by with_unfolding_all rfl)
    refine wpAny_getItem_str_slice (l := none) (u := none) (st := some (-1, tk)) ⟨_, Heap.get?_push_size _ rfl, rfl, rfl⟩ rfl ?_
    show ((if ((-1 : Int) == 1 && _) = true then Made.val (.str z t) else Made.str (rvStr z))).post _ _
    rw [if_neg (by simp)]
    exact ⟨Nat.le_trans (rvStr_len z) hz, .str _, _, I5.tok _, ⟨_, rfl⟩, q⟩
  cases r1
  rcases q with ⟨hx, q⟩ | ⟨hx, q⟩
  · obtain ⟨its, r, ht, hz⟩ := I5.list hx
    have hlen := r.length
    refine tail_any (ops := [.ref a, .ref s4.heap.objs.size]) ht.isList.typeIs (PySem.slot_list_getitem.lookup) ?_ (by with_unfolding_all rfl)
    refine wpAny_getItem_list_slice ht.isList (Heap.IsSliceOf.new _ vl vu vs) pl pu ps (by decide) ?_ (by rw [List.size_toArray]; omega)
    rw [PySem.W.krv_pick]
    exact ⟨.ref _, _, I5.laid (t' := s4.toks) (o := .lst xs.reverse) (fun b ob q => Heap.get?_push_of_some _ q) (Nat.le_refl _) ⟨by rw [List.length_reverse]; exact hz, _, 0, r.reverse, Heap.get?_push_size _ rfl⟩, rfl, q _ fr⟩
  · obtain ⟨its, r, ht, hz⟩ := I5.tuple hx
    have hlen := r.length
    refine tail_any (ops := [.ref a, .ref s4.heap.objs.size]) ht.typeIs (PyProof.Rows.slot_tuple_getitem.lookup) ?_ (by with_unfolding_all rfl)
    refine tup_rev ht (Heap.IsSliceOf.new _ vl vu vs) pl pu ps ?_ (by rw [List.size_toArray]; omega)
    exact ⟨.ref _, _, I5.laid (t' := s4.toks) (o := .tup xs.reverse) (fun b ob q => Heap.get?_push_of_some _ q) (Nat.le_refl _) ⟨by rw [List.length_reverse]; exact hz, _, r.reverse, IsTup.new _ _⟩, rfl, q _ fr⟩
def rvX (x : PyData) (Q : PyData → Bool → Prop) : Prop := match x with
  | .list xs => Q (.list xs.reverse) true
  | .tuple xs => Q (.tuple xs.reverse) false
  | .str z => z.length ≤ sizeLine ∧ Q (.str (rvStr z)) false
  | _ => False
def dRevX (a : DO) : DE := ⟨a.m, fun ρ P R => a ρ (fun oa ρ1 => ∃ x, rs ρ1 oa = some (.d x) ∧ rvX x fun z fr => P (.d z) fr ρ1) R⟩
theorem qRevX {i : Nat} (ja : JO Wp E X ea a) : JE Wp E X (.Subscript ea (.Slice none none (some (.UnaryOp .USub (.Constant (.int 1) i p1) p2)) p3) pos) (dRevX a) :=
  (pe_revX ja).weak fun σ H Q ⟨W, B, M0, ρ, M, P, R, w, G, d, x, h⟩ => lO_go w G d x fun oa ρ1 v H1 M1 c G1 k1 => by
    obtain ⟨y, h1, f⟩ := c
    have r := OpdOk.pk G1 k1 h1
    cases y <;> try exact (show False from f).elim
    · obtain rfl := Rep.str_inv r
      exact .inl ⟨_, rfl, f.1, h _ _ _ _ _ _ f.2 (Res.of G1 (Rep.str _))⟩
    · obtain ⟨a, vs, rfl, ha, q⟩ := r.list_inv
      exact .inr ⟨a, vs, rfl, .inl ⟨SqL.of ha, fun p hp => h _ _ _ _ _ _ f (Res.new G1 hp q.reverse)⟩⟩
    · obtain ⟨a, vs, rfl, ha, q⟩ := r.tup_inv
      exact .inr ⟨a, vs, rfl, .inr ⟨ha, fun p hp => h _ _ _ _ _ _ f (Res.newT G1 hp q.reverse)⟩⟩
end
end G9

/-! E8: + - * with bools, str(bool), a def that is never called (the foot of a recursion). -/
namespace G9
open PySem PySem.Spec L2 PyProof.Rows
def bI (b : Bool) : Int := if b = true then 1 else 0
def opBS (op : Op2) (x y : PyData) (Q : PyData → Bool → Prop) : Prop := match op, x, y with
  | .add, .bool a, .int j => Q (.int (bI a + j)) false
  | .sub, .bool a, .int j => Q (.int (bI a - j)) false
  | .sub, .int i, .bool b => Q (.int (i - bI b)) false
  | .mul, .bool a, .int j => Q (.int (bI a * j)) false
  | op, x, y => opS op x y Q
def dBinB (op : Op2) (a b : DO) : DE := ⟨a.m + b.m, fun ρ P R => a ρ (fun oa ρ1 => b ρ1 (fun ob ρ2 => ∃ x y, rs ρ2 oa = some (.d x) ∧ rs ρ2 ob = some (.d y) ∧ opBS op x y fun z fr => P (.d z) fr ρ2) R) R⟩
section
variable {X : Cx}
def rBI (f : Int → Int → Int) : R2 := fun x y H Q => ∃ (a : Bool) (j : Int), x = .bl a ∧ y = .int j ∧ Q (.int (f (bI a) j)) H
def rIB (f : Int → Int → Int) : R2 := fun x y H Q => ∃ (i : Int) (b : Bool), x = .int i ∧ y = .bl b ∧ Q (.int (f i (bI b))) H
theorem op_addBI : OpR X (binaryOp .Add) (rBI (· + ·)) := by
  rintro pins s σ H x y v u Q I rx ry ⟨a, j, rfl, rfl, q⟩
  obtain ⟨t, rfl⟩ := ry
  cases rx
  exact IntBool.add_bool_int ⟨.int (bI a + j), H, I.tok _, ⟨_, rfl⟩, q⟩
theorem op_subBI : OpR X (binaryOp .Sub) (rBI (· - ·)) := by
  rintro pins s σ H x y v u Q I rx ry ⟨a, j, rfl, rfl, q⟩
  obtain ⟨t, rfl⟩ := ry
  cases rx
  exact IntBool.sub_bool_int ⟨.int (bI a - j), H, I.tok _, ⟨_, rfl⟩, q⟩
theorem op_mulBI : OpR X (binaryOp .Mult) (rBI (· * ·)) := by
  rintro pins s σ H x y v u Q I rx ry ⟨a, j, rfl, rfl, q⟩
  obtain ⟨t, rfl⟩ := ry
  cases rx
  exact IntBool.mul_bool_int ⟨.int (bI a * j), H, I.tok _, ⟨_, rfl⟩, q⟩
theorem op_subIB : OpR X (binaryOp .Sub) (rIB (· - ·)) := by
  rintro pins s σ H x y v u Q I rx ry ⟨i, b, rfl, rfl, q⟩
  obtain ⟨t, rfl⟩ := rx
  cases ry
  exact IntBool.sub_int_bool ⟨.int (i - bI b), H, I.tok _, ⟨_, rfl⟩, q⟩
end
section
variable {Wp : Wk → Prop} {E : XK} {X : Cx} {ea eb : Expr} {a b : DO} {pos p2 : Pos}
theorem jAddB (ja : JO Wp E X ea a) (jb : JO Wp E X eb b) : JE Wp E X (.BinOp ea .Add eb pos) (dBinB .add a b) :=
  (pe_op (op_addBI.or op_addA) ja jb).weak fun σ H Q ⟨W, B, M0, ρ, M, P, R, w, G, d, x, h⟩ => two w G d x fun x y ρ2 v u H2 M2 G2 r1 r2 c => by
    by_cases hb : ∃ a j, x = .bool a ∧ y = .int j
    · obtain ⟨a, j, rfl, rfl⟩ := hb
      exact .inl ⟨a, j, r1.bool_inv, r2.int_inv, h _ _ _ _ _ _ c (Res.int G2 _)⟩
    · refine .inr (add_go (C := fun z fr => P (.d z) fr ρ2) G2 r1 r2 ?_ fun z fr v' H' M' c r => h _ _ _ _ _ _ c r)
      cases x <;> cases y <;> first | exact c | exact absurd ⟨_, _, rfl, rfl⟩ hb
theorem jSubB (ja : JO Wp E X ea a) (jb : JO Wp E X eb b) : JE Wp E X (.BinOp ea .Sub eb pos) (dBinB .sub a b) :=
  (pe_op (op_subBI.or (op_subIB.or op_sub)) ja jb).weak fun σ H Q ⟨W, B, M0, ρ, M, P, R, w, G, d, x, h⟩ => two w G d x fun x y ρ2 v u H2 M2 G2 r1 r2 c => by
    by_cases hb : ∃ a j, x = .bool a ∧ y = .int j
    · obtain ⟨a, j, rfl, rfl⟩ := hb
      exact .inl ⟨a, j, r1.bool_inv, r2.int_inv, h _ _ _ _ _ _ c (Res.int G2 _)⟩
    by_cases hc : ∃ i b, x = .int i ∧ y = .bool b
    · obtain ⟨i, b, rfl, rfl⟩ := hc
      exact .inr (.inl ⟨i, b, r1.int_inv, r2.bool_inv, h _ _ _ _ _ _ c (Res.int G2 _)⟩)
    · refine .inr (.inr (sub_go (C := fun z fr => P (.d z) fr ρ2) G2 r1 r2 ?_ fun z fr v' H' M' c r => h _ _ _ _ _ _ c r))
      cases x <;> cases y <;> first | exact c | exact absurd ⟨_, _, rfl, rfl⟩ hb | exact absurd ⟨_, _, rfl, rfl⟩ hc
theorem jMulB (ja : JO Wp E X ea a) (jb : JO Wp E X eb b) : JE Wp E X (.BinOp ea .Mult eb pos) (dBinB .mul a b) :=
  (pe_op (op_mulBI.or op_mulA) ja jb).weak fun σ H Q ⟨W, B, M0, ρ, M, P, R, w, G, d, x, h⟩ => two w G d x fun x y ρ2 v u H2 M2 G2 r1 r2 c => by
    by_cases hb : ∃ a j, x = .bool a ∧ y = .int j
    · obtain ⟨a, j, rfl, rfl⟩ := hb
      exact .inl ⟨a, j, r1.bool_inv, r2.int_inv, h _ _ _ _ _ _ c (Res.int G2 _)⟩
    · refine .inr (mul_go (C := fun z fr => P (.d z) fr ρ2) G2 r1 r2 ?_ fun z fr v' H' M' c r => h _ _ _ _ _ _ c r)
      cases x <;> cases y <;> first | exact c | exact absurd ⟨_, _, rfl, rfl⟩ hb
/-! ### str(x) of a number or a bool -/
def stS (x : PyData) (Q : PyData → Prop) : Prop := match x with
  | .int i => i.natAbs.log2 < 1920 ∧ Q (.str (toString i))
  | .bool b => Q (.str (if b then "True" else "False"))
  | _ => False
def dStrB (a : DO) : DE := ⟨a.m, fun ρ P R => a ρ (fun oa ρ1 => ∃ x, rs ρ1 oa = some (.d x) ∧ stS x fun z => P (.d z) false ρ1) R⟩
def rStB : List V → Hp → VK → Prop := fun xs H Q => ∃ b : Bool, xs = [.bl b] ∧ Q (.str (if b then "True" else "False")) H
theorem call_str_boolR : CallR X (.type "str") rStB := by
  rintro pins s σ H xs us Q I r ⟨b, rfl, q⟩
  obtain ⟨u, rfl, r1⟩ := vals1 r
  cases r1
  exact PySem.P.str_of_bool ⟨.str _, H, I.tok _, ⟨_, rfl⟩, q⟩
theorem qStrB (g : Gx X) (hm : X.mg "str" = none) (ja : JO Wp E X ea a) (hg : Gl X "str" := by rfl)
    (hs : starEach [ea] X.env = (false, eval ea X.env) :: starEach [] X.env := by rfl) (hpl : (backTo pos (starEach [] X.env)).any (·.1) = false := by rfl) : JE Wp E X (.Call (.Name "str" p2) [ea] [] pos) (dStrB a) := by
  have go := pe_callTy (X := X) (p := p2) (pos := pos) (call_str_int.or call_str_boolR) hg hm (by rfl) (pa_cons ja pa_nil hs) (by decide) (by decide) hs hpl
  refine go.weak fun σ H Q ⟨W, B, M0, ρ, M, P, R, w, G, d, x, h⟩ => ?_
  refine lO_go w G d x fun oa ρ1 v H1 M1 c G1 k1 => ?_
  obtain ⟨y, h1, f⟩ := c
  have r := OpdOk.pk G1 k1 h1
  cases y <;> try exact (show False from f).elim
  · obtain rfl := r.bool_inv
    exact .inr ⟨_, rfl, h _ _ _ _ _ _ f (Res.str G1 _)⟩
  · obtain rfl := r.int_inv
    exact .inl ⟨_, rfl, f.1, h _ _ _ _ _ _ f.2 (Res.str G1 _)⟩
end
/-! ### the foot of a recursion -/
def spNo : FSpec := ⟨0, fun _ _ _ => False⟩
theorem cal_no {P : Program} {w : World} {K : PySem.W.Frag} {mg : Str → Option Value} {base : Heap} {CX : CXT} {k : Nat} {f : Addr} {fd : FuncData} {x : Str} {st : Stmt} {ps : List Str} {Wp : Wk → Prop}
    (F : Fun K x x st f fd) (hm : mg x = some (.ref f)) : Cal P w K mg base CX Wp k x st ps spNo :=
  ⟨f, fd, F, ⟨fun ⟨_, _, _, _, _, _, _, _, _, _, h, _⟩ => h, fun _ _ _ ⟨_, _, _, _, _, _, _, _, _, _, _, _, h, _⟩ => h.elim⟩, hm⟩
end G9

/-! E9: plain: places inside data, what is put there; bounds of data that are changed. -/
namespace G9
open PySem PySem.Spec L2 PyProof.Rows
theorem intText_len {i : Int} {k : Nat} (hk : 0 < k) (h : i.natAbs < 10 ^ k) : (Str.ofString (toString i)).length ≤ k + 1 ∧ ∀ c ∈ (Str.ofString (toString i)).cps.toList, c < 128 := by
  have dig : ∀ n : Nat, n < 10 ^ k → (Str.ofString (toString ((n : Nat) : Int))).length ≤ k ∧ ∀ c ∈ (Str.ofString (toString ((n : Nat) : Int))).cps.toList, c < 128 := by
    intro n hn
    have e : (Str.ofString (toString ((n : Nat) : Int))).cps.toList = TL.numL n := TL.tl_num n
    refine ⟨?_, fun c hc => ?_⟩
    · rw [TL.len_tl]
      show (Str.ofString (toString ((n : Nat) : Int))).cps.toList.length ≤ k
      rw [e]
      exact TL.numL_len hk hn
    · rw [e] at hc
      have := TL.numL_digits n c hc
      omega
  by_cases hi : i < 0
  · rw [toString_neg hi]
    have e : (0 - i) = ((i.natAbs : Nat) : Int) := by omega
    rw [e]
    have z := dig i.natAbs h
    have e2 : Str.ofString ("-" ++ toString ((i.natAbs : Nat) : Int)) = Str.ofString "-" ++ Str.ofString (toString ((i.natAbs : Nat) : Int)) := TL.ext_tl (by rw [TL.tl_append, TL.tl_ofString, TL.tl_ofString, TL.tl_ofString, String.toList_append, List.map_append])
    rw [e2]
    refine ⟨?_, fun c hc => ?_⟩
    · rw [strLen_append]
      show 1 + _ ≤ _
      omega
    · rw [Str.cps_append, Array.toList_append] at hc
      rcases List.mem_append.mp hc with hc | hc
      · have : c ∈ ([45] : List Nat) := hc
        simp at this
        omega
      · exact z.2 c hc
  · have e : i = ((i.natAbs : Nat) : Int) := by omega
    rw [e]
    have z := dig i.natAbs h
    exact ⟨by omega, z.2⟩
/-! ### places -/
def itemsD : PyData → List PyData
  | .list xs => xs
  | .tuple xs => xs
  | _ => []
inductive Pl : PyData → List Nat → PyData → Prop
  | nil (x : PyData) : Pl x [] x
  | cons {x z y : PyData} {n : Nat} {ns : List Nat} : (itemsD x)[n]? = some z → Pl z ns y → Pl x (n :: ns) y
inductive Put : PyData → List Nat → PyData → PyData → Prop
  | nil (x r : PyData) : Put x [] r r
  | lst {xs : List PyData} {n : Nat} {z z' r : PyData} {ns : List Nat} : xs[n]? = some z → Put z ns r z' → Put (.list xs) (n :: ns) r (.list (xs.set n z'))
  | tup {xs : List PyData} {n : Nat} {z z' r : PyData} {ns : List Nat} : xs[n]? = some z → Put z ns r z' → Put (.tuple xs) (n :: ns) r (.tuple (xs.set n z'))
def pathD (ns : List Nat) : PyData := .tuple (ns.map fun n : Nat => .int (n : Int))
/-! ### what leaves may be -/
mutual
def lvD (L : PyData → Bool) : PyData → Bool
  | .list xs => lvAll L xs
  | .tuple xs => lvAll L xs
  | x => L x
def lvAll (L : PyData → Bool) : List PyData → Bool
  | [] => true
  | x :: r => lvD L x && lvAll L r
end
theorem lvAll_iff {L : PyData → Bool} {xs : List PyData} : lvAll L xs = true ↔ ∀ x ∈ xs, lvD L x = true := by
  induction xs with
  | nil => simp [lvAll]
  | cons x r ih => simp [lvAll, ih]
theorem lv_items {L : PyData → Bool} {x y : PyData} (h : lvD L x = true) (hy : y ∈ itemsD x) : lvD L y = true := by
  cases x <;> try (exact (List.not_mem_nil hy).elim)
  · rename_i xs
    simp only [lvD] at h
    exact lvAll_iff.mp h y hy
  · rename_i xs
    simp only [lvD] at h
    exact lvAll_iff.mp h y hy
theorem lv_lst {L : PyData → Bool} {xs : List PyData} (h : ∀ x ∈ xs, lvD L x = true) : lvD L (.list xs) = true := by simp only [lvD]; exact lvAll_iff.mpr h
theorem lv_tup {L : PyData → Bool} {xs : List PyData} (h : ∀ x ∈ xs, lvD L x = true) : lvD L (.tuple xs) = true := by simp only [lvD]; exact lvAll_iff.mpr h
theorem lv_more {L L' : PyData → Bool} (s : ∀ x, L x = true → L' x = true) : ∀ (n : Nat) (x : PyData), x.depth ≤ n → lvD L x = true → lvD L' x = true := by
  intro n
  induction n with
  | zero =>
    intro x hd h
    cases x <;> first | (simp only [PyData.depth] at hd; omega) | (simp only [lvD] at h ⊢; exact s _ h)
  | succ n ih =>
    intro x hd h
    have go : ∀ xs : List PyData, PyData.depthAll xs ≤ n → lvAll L xs = true → lvAll L' xs = true := by
      intro xs
      induction xs with
      | nil => intros; rfl
      | cons x r ihr =>
        intro hd h
        simp only [PyData.depthAll] at hd
        simp only [lvAll, Bool.and_eq_true] at h ⊢
        exact ⟨ih x (by omega) h.1, ihr (by omega) h.2⟩
    cases x <;> first
      | (simp only [PyData.depth] at hd; simp only [lvD] at h ⊢; exact go _ (by omega) h)
      | (simp only [lvD] at h ⊢; exact s _ h)
/-! ### depth, weight -/
theorem depth_mem {xs : List PyData} {y : PyData} (h : y ∈ xs) : y.depth ≤ PyData.depthAll xs := by
  induction xs with
  | nil => cases h
  | cons x r ih =>
    simp only [PyData.depthAll]
    rcases List.mem_cons.mp h with rfl | h
    · exact Nat.le_max_left _ _
    · exact Nat.le_trans (ih h) (Nat.le_max_right _ _)
theorem depthAll_le {xs : List PyData} {d : Nat} (h : ∀ y ∈ xs, y.depth ≤ d) : PyData.depthAll xs ≤ d := by
  induction xs with
  | nil => exact Nat.zero_le _
  | cons x r ih =>
    simp only [PyData.depthAll]
    exact Nat.max_le.mpr ⟨h x List.mem_cons_self, ih fun y hy => h y (List.mem_cons_of_mem _ hy)⟩
theorem item_depth {x z : PyData} (h : z ∈ itemsD x) : z.depth + 1 ≤ x.depth := by
  cases x <;> try (exact (List.not_mem_nil h).elim)
  · rename_i xs
    have h : z ∈ xs := h
    simp only [PyData.depth]; have := depth_mem h; omega
  · rename_i xs
    have h : z ∈ xs := h
    simp only [PyData.depth]; have := depth_mem h; omega
theorem weight_mem1 {xs : List PyData} {x : PyData} (h : x ∈ xs) : x.weight + 1 ≤ PyData.weightAll xs := by
  induction xs with
  | nil => cases h
  | cons y r ih =>
    simp only [PyData.weightAll]
    rcases List.mem_cons.mp h with rfl | h
    · omega
    · have := ih h; omega
theorem item_weight {x z : PyData} (h : z ∈ itemsD x) : z.weight + 1 ≤ x.weight := by
  cases x <;> try (exact (List.not_mem_nil h).elim)
  · rename_i xs
    have h : z ∈ xs := h
    have e := weight_mem1 h
    simp only [PyData.weight]
    omega
  · rename_i xs
    have h : z ∈ xs := h
    have e := weight_mem1 h
    simp only [PyData.weight]
    omega
theorem weightAll_app (xs ys : List PyData) : PyData.weightAll (xs ++ ys) = PyData.weightAll xs + PyData.weightAll ys := by
  induction xs with
  | nil => simp [PyData.weightAll]
  | cons x r ih => simp only [List.cons_append, PyData.weightAll, ih]; omega
theorem weightAll_rev (xs : List PyData) : PyData.weightAll xs.reverse = PyData.weightAll xs := by
  induction xs with
  | nil => rfl
  | cons x r ih => rw [List.reverse_cons, weightAll_app, ih]; simp only [PyData.weightAll]; omega
theorem weightAll_take (xs : List PyData) (n : Nat) : PyData.weightAll (xs.take n) + PyData.weightAll (xs.drop n) = PyData.weightAll xs := by
  rw [← weightAll_app, List.take_append_drop]
theorem weightAll_set {xs : List PyData} {n : Nat} {z z' : PyData} (h : xs[n]? = some z) : PyData.weightAll (xs.set n z') + z.weight = PyData.weightAll xs + z'.weight := by
  induction xs generalizing n with
  | nil => simp at h
  | cons x r ih =>
    cases n with
    | zero => simp at h; subst h; show PyData.weightAll (z' :: r) + _ = PyData.weightAll (x :: r) + _; simp only [PyData.weightAll]; omega
    | succ n => have := ih (n := n) (by simpa using h); show PyData.weightAll (x :: r.set n z') + _ = PyData.weightAll (x :: r) + _; simp only [PyData.weightAll]; omega
theorem set_mem {xs : List PyData} {n : Nat} {z' y : PyData} (h : y ∈ xs.set n z') : y = z' ∨ y ∈ xs := by
  rcases List.mem_or_eq_of_mem_set h with h | h
  · exact .inr h
  · exact .inl h
/-! ### a place, what is put there -/
theorem Pl.ok {x y : PyData} {ns : List Nat} (h : Pl x ns y) : y.depth + ns.length ≤ x.depth ∧ y.weight ≤ x.weight ∧ ∀ L, lvD L x = true → lvD L y = true := by
  induction h with
  | nil x => exact ⟨Nat.le_refl _, Nat.le_refl _, fun _ h => h⟩
  | cons hz _ ih =>
    have m := List.mem_of_getElem? hz
    have d := item_depth m
    have w := item_weight m
    exact ⟨by rw [List.length_cons]; omega, by omega, fun L h => ih.2.2 L (lv_items h m)⟩
theorem Put.ok {x r x' : PyData} {ns : List Nat} (h : Put x ns r x') : ∀ {y : PyData}, Pl x ns y → x'.weight + y.weight = x.weight + r.weight ∧ x'.depth ≤ max x.depth (ns.length + r.depth) ∧ ∀ L, lvD L x = true → lvD L r = true → lvD L x' = true := by
  induction h with
  | nil x r => intro y a; cases a; exact ⟨by omega, by omega, fun _ _ h => h⟩
  | @lst xs n z z' r ns hz _ ih =>
    intro y a
    cases a with
    | cons h2 a =>
      have h2 : xs[n]? = some _ := h2
      rw [hz] at h2; cases h2
      obtain ⟨w, d, l⟩ := ih a
      have e := weightAll_set (z' := z') hz
      have m := List.mem_of_getElem? hz
      refine ⟨by simp only [PyData.weight]; omega, ?_, fun L h1 h2 => lv_lst fun q hq => ?_⟩
      · simp only [PyData.depth, List.length_cons]
        have : PyData.depthAll (xs.set n z') ≤ max (PyData.depthAll xs) (ns.length + r.depth) := depthAll_le fun q hq => by
          have := depth_mem m
          rcases set_mem hq with rfl | hq
          · omega
          · have := depth_mem hq; omega
        omega
      · rcases set_mem hq with rfl | hq
        · exact l L (lv_items h1 (show z ∈ itemsD (.list xs) from m)) h2
        · exact lv_items h1 (show q ∈ itemsD (.list xs) from hq)
  | @tup xs n z z' r ns hz _ ih =>
    intro y a
    cases a with
    | cons h2 a =>
      have h2 : xs[n]? = some _ := h2
      rw [hz] at h2; cases h2
      obtain ⟨w, d, l⟩ := ih a
      have e := weightAll_set (z' := z') hz
      have m := List.mem_of_getElem? hz
      refine ⟨by simp only [PyData.weight]; omega, ?_, fun L h1 h2 => lv_tup fun q hq => ?_⟩
      · simp only [PyData.depth, List.length_cons]
        have : PyData.depthAll (xs.set n z') ≤ max (PyData.depthAll xs) (ns.length + r.depth) := depthAll_le fun q hq => by
          have := depth_mem m
          rcases set_mem hq with rfl | hq
          · omega
          · have := depth_mem hq; omega
        omega
      · rcases set_mem hq with rfl | hq
        · exact l L (lv_items h1 (show z ∈ itemsD (.tuple xs) from m)) h2
        · exact lv_items h1 (show q ∈ itemsD (.tuple xs) from hq)
/-! ### bounds that go with data through the changes -/
/-- texts of ks, numbers below N, empty dicts -/
def lfB (ks : List Str) (N : Nat) : PyData → Bool
  | .str s => decide (s ∈ ks)
  | .int i => decide (i.natAbs < N)
  | .dict kvs => kvs.isEmpty
  | _ => true
structure Pt (ks : List Str) (l N d w : Nat) (x : PyData) : Prop where
  kl : ∀ s ∈ ks, s.length ≤ l ∧ ∀ c ∈ s.cps.toList, c < 128
  k3 : ("" : Str) ∈ ks ∧ ("a" : Str) ∈ ks ∧ ("b" : Str) ∈ ks
  lv : lvD (lfB ks N) x = true
  dp : x.depth ≤ d
  wt : x.weight ≤ w
theorem lf_more {ks ks' : List Str} {N N' : Nat} (h1 : ∀ s ∈ ks, s ∈ ks') (h2 : N ≤ N') {x : PyData} (h : lvD (lfB ks N) x = true) : lvD (lfB ks' N') x = true := by
  refine lv_more (fun x h => ?_) x.depth x (Nat.le_refl _) h
  cases x <;> simp only [lfB, decide_eq_true_eq] at h ⊢ <;> first | exact h1 _ h | omega | exact h
theorem lv_ok {ks : List Str} {N : Nat} (hk : ∀ s ∈ ks, ∀ c ∈ s.cps.toList, c < 128) (hN : N ≤ 10 ^ 44) : ∀ (n : Nat) (x : PyData), x.depth ≤ n → lvD (lfB ks N) x = true → x.showable = true ∧ x.leavesShort 45 = true ∧ wiD ks x = true := by
  intro n
  have leaf : ∀ x : PyData, (∀ xs, x ≠ .list xs) → (∀ xs, x ≠ .tuple xs) → lfB ks N x = true → x.showable = true ∧ x.leavesShort 45 = true ∧ wiD ks x = true := by
    intro x e1 e2 h
    cases x with
    | none => exact ⟨rfl, rfl, rfl⟩
    | bool b => exact ⟨rfl, rfl, rfl⟩
    | int i =>
      have h : i.natAbs < N := of_decide_eq_true h
      have h1 : i.natAbs < 10 ^ 44 := Nat.lt_of_lt_of_le h hN
      refine ⟨decide_eq_true ?_, decide_eq_true ((intText_len (by omega) h1).1), rfl⟩
      by_cases z : i.natAbs = 0
      · rw [z]; decide
      · exact (Nat.log2_lt z).mpr (Nat.lt_trans h1 (by decide +kernel))
    | str s =>
      have h : s ∈ ks := of_decide_eq_true h
      refine ⟨rfl, ?_, decide_eq_true h⟩
      simp only [PyData.leavesShort, List.all_eq_true, decide_eq_true_eq]
      intro c hc
      have := hk s h c hc
      have e : (16 : Nat) ^ 8 = 4294967296 := by decide
      omega
    | dict kvs =>
      cases kvs with
      | nil => exact ⟨rfl, rfl, rfl⟩
      | cons p r => cases h
    | list xs => exact absurd rfl (e1 xs)
    | tuple xs => exact absurd rfl (e2 xs)
  induction n with
  | zero =>
    intro x hd h
    cases x <;> first | (simp only [PyData.depth] at hd; omega) | exact leaf _ (fun _ h => nomatch h) (fun _ h => nomatch h) h
  | succ n ih =>
    intro x hd h
    have go : ∀ xs : List PyData, PyData.depthAll xs ≤ n → lvAll (lfB ks N) xs = true → PyData.showableAll xs = true ∧ PyData.leavesShortAll 45 xs = true ∧ wiAll ks xs = true := by
      intro xs
      induction xs with
      | nil => intros; exact ⟨rfl, rfl, rfl⟩
      | cons x r ihr =>
        intro hd h
        simp only [PyData.depthAll] at hd
        simp only [lvAll, Bool.and_eq_true] at h
        obtain ⟨a, b, c⟩ := ih x (by omega) h.1
        obtain ⟨a2, b2, c2⟩ := ihr (by omega) h.2
        exact ⟨by simp only [PyData.showableAll, a, a2, Bool.and_self], by simp only [PyData.leavesShortAll, b, b2, Bool.and_self], by simp only [wiAll, c, c2, Bool.and_self]⟩
    cases x with
    | list xs => simp only [PyData.depth] at hd; simp only [lvD] at h; simpa only [PyData.showable, PyData.leavesShort, wiD] using go xs (by omega) h
    | tuple xs => simp only [PyData.depth] at hd; simp only [lvD] at h; simpa only [PyData.showable, PyData.leavesShort, wiD] using go xs (by omega) h
    | _ => exact leaf _ (fun _ h => nomatch h) (fun _ h => nomatch h) h
theorem Pt.fit {ks : List Str} {l N d w : Nat} {x : PyData} (h : Pt ks l N d w x) (hN : N ≤ 10 ^ 44) : Fit ks x d w := by
  obtain ⟨a, b, c⟩ := lv_ok (fun s hs => (h.kl s hs).2) hN x.depth x (Nat.le_refl _) h.lv
  exact ⟨⟨a, b, h.dp, h.wt⟩, c⟩
theorem Pt.item {ks : List Str} {l N d w : Nat} {x y : PyData} (h : Pt ks l N d w x) (hy : y ∈ itemsD x) : Pt ks l N d w y :=
  ⟨h.kl, h.k3, lv_items h.lv hy, by have := item_depth hy; have := h.dp; omega, by have := item_weight hy; have := h.wt; omega⟩
theorem Pt.pl {ks : List Str} {l N d w : Nat} {x y : PyData} {ns : List Nat} (h : Pt ks l N d w x) (a : Pl x ns y) : Pt ks l N (d - ns.length) w y :=
  ⟨h.kl, h.k3, a.ok.2.2 _ h.lv, by have := a.ok.1; have := h.dp; omega, Nat.le_trans a.ok.2.1 h.wt⟩
end G9

/-! E10: plain: what a part may be replaced by. -/
namespace G9
open PySem PySem.Spec L2 PyProof.Rows
@[irreducible] def T39 : Nat := 10 ^ 39
theorem t39 : T39 = 10 ^ 39 := by unfold T39; rfl
@[irreducible] def T41 : Nat := 10 ^ 41
@[irreducible] def T42 : Nat := 10 ^ 42
theorem t42 : 2 * T41 + 2 * T39 < T42 := by unfold T41 T39 T42; decide +kernel
theorem t1 : T39 > 1 := by unfold T39; decide +kernel
/-- what part may become; far is another part -/
structure Rp (ks : List Str) (l M B : Nat) (part far r : PyData) : Prop where
  ex : ∃ s : Str, s.length ≤ 7 * l + 3 ∧ (∀ c ∈ s.cps.toList, c < 128) ∧ lvD (lfB (s :: ks) M) r = true
  dp : r.depth ≤ max (part.depth + 1) (max far.depth 2)
  wt : r.weight ≤ part.weight + B + 320
/-- where it is asked -/
structure Rq (ks : List Str) (l N M d B : Nat) (part far : PyData) : Prop where
  p : Pt ks l N d B part
  f : Pt ks l N d B far
  l0 : 6 ≤ l
  l1 : l ≤ 45
  n0 : 2 < N
  n1 : 2 * N + 2 * T39 ≤ M
  n2 : M < T42
  b1 : B ≤ 1400
section
variable {ks : List Str} {l N M d B : Nat} {part far : PyData}
theorem Rp.of (q : Rq ks l N M d B part far) {r : PyData} (h : lvD (lfB ks M) r = true) (h1 : r.depth ≤ max (part.depth + 1) (max far.depth 2)) (h2 : r.weight ≤ part.weight + B + 320) : Rp ks l M B part far r :=
  ⟨⟨"", Nat.zero_le _, (fun _ h => nomatch h), lf_more (fun s hs => List.mem_cons_of_mem _ hs) (Nat.le_refl _) h⟩, h1, h2⟩
theorem Rq.le (q : Rq ks l N M d B part far) : N ≤ M := by have := q.n1; omega
theorem Rq.lvp (q : Rq ks l N M d B part far) : lvD (lfB ks M) part = true := lf_more (fun _ h => h) q.le q.p.lv
theorem Rp.fr0 (q : Rq ks l N M d B part far) : Rp ks l M B part far far :=
  .of q (lf_more (fun _ h => h) q.le q.f.lv) (by omega) (by have := q.f.wt; omega)
theorem Rp.one (q : Rq ks l N M d B part far) : Rp ks l M B part far (.tuple [part]) :=
  .of q (lv_tup fun x hx => by rw [List.mem_singleton.mp hx]; exact q.lvp) (by simp only [PyData.depth, PyData.depthAll]; omega) (by simp only [PyData.weight, PyData.weightAll]; omega)
theorem Rp.str (q : Rq ks l N M d B part far) {s : Str} (h : s.length ≤ 7 * l + 3) (h2 : ∀ c ∈ s.cps.toList, c < 128) : Rp ks l M B part far (.str s) := by
  refine ⟨⟨s, h, h2, ?_⟩, ?_, ?_⟩
  · simp only [lvD, lfB]; exact decide_eq_true List.mem_cons_self
  · simp only [PyData.depth]; omega
  · have := q.l1
    have e : (PyData.str s).weight = s.length := rfl
    omega
theorem log_lt {n : Nat} (h : n < T42) : n.log2 < 150 := by
  unfold T42 at h
  by_cases z : n = 0
  · rw [z]; decide
  · exact (Nat.log2_lt z).mpr (Nat.lt_trans h (by decide +kernel))
theorem Rp.int (q : Rq ks l N M d B part far) {i : Int} (h : i.natAbs < M) : Rp ks l M B part far (.int i) := by
  refine .of q ?_ ?_ ?_
  · simp only [lvD, lfB]; exact decide_eq_true h
  · simp only [PyData.depth]; omega
  · have b := q.n2
    have e : (PyData.int i).weight ≤ 160 := by
      simp only [PyData.weight]
      split
      · omega
      · rename_i z
        have z : i ≠ 0 := by simpa using z
        have := log_lt (Nat.lt_trans h b)
        omega
    omega
theorem Rp.bool (q : Rq ks l N M d B part far) (b : Bool) : Rp ks l M B part far (.bool b) := .of q rfl (by simp only [PyData.depth]; omega) (by simp only [PyData.weight]; omega)
/-- fixed values -/
def conB (x : PyData) : Bool := lvD (lfB ["", "a", "b"] (T39 + 1)) x && decide (x.depth ≤ 2) && decide (x.weight ≤ 320)
theorem Rp.con (q : Rq ks l N M d B part far) {r : PyData} (h : conB r = true) : Rp ks l M B part far r := by
  unfold conB at h
  rw [Bool.and_eq_true, Bool.and_eq_true, decide_eq_true_eq, decide_eq_true_eq] at h
  obtain ⟨⟨h1, h2⟩, h3⟩ := h
  refine .of q (lf_more (fun s hs => ?_) ?_ h1) (by omega) (by omega)
  · obtain ⟨a, b, c⟩ := q.p.k3
    simp only [List.mem_cons, List.not_mem_nil, or_false] at hs
    rcases hs with rfl | rfl | rfl <;> assumption
  · have := t1; have := q.n1; omega
theorem Rp.cons (q : Rq ks l N M d B part far) {L : List PyData} (h : L.all conB = true) : ∀ r ∈ L, Rp ks l M B part far r := fun r hr => .con q (List.all_eq_true.mp h r hr)
/-- parts of part, in a row -/
theorem Rp.seqT (q : Rq ks l N M d B part far) {ys : List PyData} (h : ∀ y ∈ ys, y ∈ itemsD part) (hw : PyData.weightAll ys ≤ 2 * part.weight) (hp : part.depth ≠ 0) : Rp ks l M B part far (.tuple ys) := by
  refine .of q (lv_tup fun y hy => lv_items q.lvp (h y hy)) ?_ ?_
  · have : PyData.depthAll ys ≤ part.depth - 1 := depthAll_le fun y hy => by have := item_depth (h y hy); omega
    simp only [PyData.depth]; omega
  · have := q.p.wt; simp only [PyData.weight]; omega
theorem Rp.seqL (q : Rq ks l N M d B part far) {ys : List PyData} (h : ∀ y ∈ ys, y ∈ itemsD part) (hw : PyData.weightAll ys ≤ 2 * part.weight) (hp : part.depth ≠ 0) : Rp ks l M B part far (.list ys) := by
  refine .of q (lv_lst fun y hy => lv_items q.lvp (h y hy)) ?_ ?_
  · have : PyData.depthAll ys ≤ part.depth - 1 := depthAll_le fun y hy => by have := item_depth (h y hy); omega
    simp only [PyData.depth]; omega
  · have := q.p.wt; simp only [PyData.weight]; omega
theorem Rp.item (q : Rq ks l N M d B part far) {y : PyData} (h : y ∈ itemsD part) : Rp ks l M B part far y :=
  .of q (lv_items q.lvp h) (by have := item_depth h; omega) (by have := item_weight h; omega)
end
/-! ### cuts -/
theorem weightAll_sub {xs ys : List PyData} (h : xs.Sublist ys) : PyData.weightAll xs ≤ PyData.weightAll ys := by
  induction h with
  | slnil => exact Nat.le_refl _
  | cons a _ ih => simp only [PyData.weightAll]; omega
  | cons_cons a _ ih => simp only [PyData.weightAll]; omega
theorem cutD_sub {α : Type} (xs : List α) (lo hi : Option Int) : (cutD xs lo hi).Sublist xs := (List.take_sublist _ _).trans (List.drop_sublist _ _)
theorem cutD_w (xs : List PyData) (lo hi : Option Int) : PyData.weightAll (cutD xs lo hi) ≤ PyData.weightAll xs := weightAll_sub (cutD_sub xs lo hi)
theorem cut_two (xs : List PyData) (k : Nat) (h : k ≤ xs.length) (hi : Option Int) : PyData.weightAll (cutD xs none (some (k : Int))) + PyData.weightAll (cutD xs (some (k : Int)) hi) ≤ PyData.weightAll xs := by
  rw [cutD_take xs h]
  have e : HT.sIx xs.length 0 (some (k : Int)) = k := by rw [HT.sIx_nat, Nat.min_eq_left h]
  have z : PyData.weightAll (cutD xs (some (k : Int)) hi) ≤ PyData.weightAll (xs.drop k) := by
    unfold cutD
    rw [e]
    exact weightAll_sub (List.take_sublist _ _)
  have := weightAll_take xs k
  omega
/-! ### texts -/
theorem mul_mem {x : Str} {n : Int} {c : Nat} (h : c ∈ (Txt.mul x n).cps.toList) : c ∈ x.cps.toList := by
  have go : ∀ (k : Nat) (acc : Array Nat), c ∈ (List.replicate k x.cps).foldl (· ++ ·) acc → c ∈ acc ∨ c ∈ x.cps := by
    intro k
    induction k with
    | zero => exact fun acc h => .inl h
    | succ k ih =>
      intro acc h
      rw [List.replicate_succ, List.foldl_cons] at h
      rcases ih _ h with h | h
      · exact (Array.mem_append.mp h).imp id id
      · exact .inr h
  unfold Txt.mul at h
  split at h
  · cases h
  · split at h
    · exact h
    · have h : c ∈ (List.replicate n.toNat x.cps).foldl (· ++ ·) #[] := Array.mem_toList_iff.mp h
      rcases go _ _ h with h | h
      · simp at h
      · exact Array.mem_toList_iff.mpr h
theorem mulOk_7 {x : Str} (h : x.length ≤ 1000) : MulOk x 7 := by
  refine ⟨?_, fun h1 _ => ?_, fun h1 _ => ?_⟩
  · simp only [Bool.or_eq_false_iff, decide_eq_false_iff_not]
    omega
  · have : (1000 : Int) ≤ (2 ^ 63 - 1 : Int) / 7 := (Int.le_ediv_iff_mul_le (by omega)).mpr (by omega)
    omega
  · show decide (x.length * 7 > sizeLine) = false
    rw [sizeLine_eq]
    exact decide_eq_false (by omega)
theorem app_asc {x y : Str} (h1 : ∀ c ∈ x.cps.toList, c < 128) (h2 : ∀ c ∈ y.cps.toList, c < 128) : ∀ c ∈ (x ++ y).cps.toList, c < 128 := by
  intro c hc
  rw [Str.cps_append, Array.toList_append] at hc
  exact (List.mem_append.mp hc).elim (h1 c) (h2 c)
theorem upper_asc {x : Str} (h : ∀ c ∈ x.cps.toList, c < 128) : (Txt.upper x).length = x.length ∧ ∀ c ∈ (Txt.upper x).cps.toList, c < 128 := by
  rw [upper_ascii h]
  refine ⟨by show (x.cps.map up1).size = x.cps.size; rw [Array.size_map], fun c hc => ?_⟩
  have hc : c ∈ (x.cps.map up1).toList := hc
  rw [Array.toList_map] at hc
  obtain ⟨b, hb, rfl⟩ := List.mem_map.mp hc
  have := h b hb
  unfold up1
  split <;> omega
/-! ### the start -/
def kz (sv cl : List Str) : List Str := sv ++ (cl ++ (["", "a", "b"] : List Str))
theorem tupS_w {ss : List Str} {n : Nat} (h : ∀ s ∈ ss, s.length ≤ 6) (hn : ss.length ≤ n) : (tupS ss).weight ≤ 7 * n := by
  have : ∀ ss : List Str, (∀ s ∈ ss, s.length ≤ 6) → PyData.weightAll (ss.map .str) ≤ 7 * ss.length := by
    intro ss
    induction ss with
    | nil => intros; exact Nat.zero_le _
    | cons s r ih =>
      intro h
      have h1 := h s List.mem_cons_self
      have h2 := ih fun s hs => h s (List.mem_cons_of_mem _ hs)
      have e : (PyData.str s).weight = s.length := rfl
      simp only [List.map_cons, PyData.weightAll, List.length_cons]
      omega
  have := this ss h
  show PyData.weightAll (ss.map .str) ≤ _
  omega
theorem tups_w {kss : List (List Str)} {n m : Nat} (h : ∀ g ∈ kss, (tupS g).weight ≤ m) (hn : kss.length ≤ n) : (PyData.tuple (kss.map tupS)).weight ≤ (m + 1) * n := by
  have : ∀ kss : List (List Str), (∀ g ∈ kss, (tupS g).weight ≤ m) → PyData.weightAll (kss.map tupS) ≤ (m + 1) * kss.length := by
    intro kss
    induction kss with
    | nil => intros; exact Nat.zero_le _
    | cons s r ih =>
      intro h
      have h1 := h s List.mem_cons_self
      have h2 := ih fun s hs => h s (List.mem_cons_of_mem _ hs)
      simp only [List.map_cons, PyData.weightAll, List.length_cons, Nat.mul_add, Nat.mul_one]
      omega
  have := this kss h
  have : (m + 1) * kss.length ≤ (m + 1) * n := Nat.mul_le_mul_left _ hn
  show PyData.weightAll (kss.map tupS) ≤ _
  omega
theorem tupS_d (ss : List Str) : (tupS ss).depth ≤ 1 := by
  have : PyData.depthAll (ss.map .str) ≤ 0 := depthAll_le fun y hy => by obtain ⟨s, _, rfl⟩ := List.mem_map.mp hy; exact Nat.le_refl _
  show PyData.depthAll (ss.map .str) + 1 ≤ 1
  omega
theorem tups_d (kss : List (List Str)) : (PyData.tuple (kss.map tupS)).depth ≤ 2 := by
  have : PyData.depthAll (kss.map tupS) ≤ 1 := depthAll_le fun y hy => by obtain ⟨s, _, rfl⟩ := List.mem_map.mp hy; exact tupS_d s
  show PyData.depthAll (kss.map tupS) + 1 ≤ 2
  omega
theorem tupS_lv {ks ss : List Str} {N : Nat} (h : ∀ s ∈ ss, s ∈ ks) : lvD (lfB ks N) (tupS ss) = true :=
  lv_tup fun y hy => by
    obtain ⟨s, hs, rfl⟩ := List.mem_map.mp hy
    simp only [lvD, lfB]
    exact decide_eq_true (h s hs)
theorem Drawn.pt {p : Int} {sv cl : List Str} {ob ft : List (List Str)} (h : Drawn 5 p sv cl ob ft) : Pt (kz sv cl) 6 1000 3 520 (sch p sv cl ob ft) := by
  have hp : p.natAbs < 1000 ∧ (PyData.int p).weight ≤ 10 := by
    have z := h.pr
    simp only [List.mem_cons, List.not_mem_nil, or_false] at z
    rcases z with rfl | rfl | rfl | rfl | rfl | rfl | rfl | rfl <;> decide +kernel
  have s6 : ∀ s ∈ sv, s.length ≤ 6 := fun s hs => (h.nsv s hs).sht.len
  have c6 : ∀ s ∈ cl, s.length ≤ 6 := fun s hs => (h.ncl s hs).sht.len
  have setW : ∀ kss : List (List Str), Sets sv 6 kss → (PyData.tuple (kss.map tupS)).weight ≤ 216 ∧ (PyData.tuple (kss.map tupS)).depth ≤ 2 ∧ lvD (lfB (kz sv cl) 1000) (.tuple (kss.map tupS)) = true := by
    intro kss hs
    refine ⟨tups_w (m := 35) (n := 6) (fun g hg => tupS_w (n := 5) (fun s k => s6 s ((hs.sub g hg).subset k)) (Nat.le_trans (hs.sub g hg).length_le h.lsv.2)) hs.len, tups_d kss, lv_tup fun y hy => ?_⟩
    obtain ⟨g, hg, rfl⟩ := List.mem_map.mp hy
    exact tupS_lv fun s k => List.mem_append_left _ ((hs.sub g hg).subset k)
  obtain ⟨w1, d1, l1⟩ := setW ob h.sob
  obtain ⟨w2, d2, l2⟩ := setW ft h.sft
  have w3 := tupS_w (n := 5) s6 h.lsv.2
  have w4 := tupS_w (n := 4) c6 h.lcl.2
  have d3 := tupS_d sv
  have d4 := tupS_d cl
  refine ⟨fun s hs => ?_, ⟨?_, ?_, ?_⟩, lv_tup fun y hy => ?_, ?_, ?_⟩
  · rcases List.mem_append.mp hs with hs | hs
    · exact ⟨s6 s hs, (h.nsv s hs).sht.cps⟩
    rcases List.mem_append.mp hs with hs | hs
    · exact ⟨c6 s hs, (h.ncl s hs).sht.cps⟩
    simp only [List.mem_cons, List.not_mem_nil, or_false] at hs
    rcases hs with rfl | rfl | rfl <;> decide +kernel
  · exact List.mem_append_right _ (List.mem_append_right _ (by simp))
  · exact List.mem_append_right _ (List.mem_append_right _ (by simp))
  · exact List.mem_append_right _ (List.mem_append_right _ (by simp))
  · simp only [List.mem_cons, List.not_mem_nil, or_false] at hy
    rcases hy with rfl | rfl | rfl | rfl | rfl
    · simp only [lvD, lfB]; exact decide_eq_true hp.1
    · exact tupS_lv fun s k => List.mem_append_left _ k
    · exact tupS_lv fun s k => List.mem_append_right _ (List.mem_append_left _ k)
    · exact l1
    · exact l2
  · have : PyData.depthAll [.int p, tupS sv, tupS cl, .tuple (ob.map tupS), .tuple (ft.map tupS)] ≤ 2 := depthAll_le fun y hy => by
      simp only [List.mem_cons, List.not_mem_nil, or_false] at hy
      rcases hy with rfl | rfl | rfl | rfl | rfl
      · exact Nat.zero_le _
      · omega
      · omega
      · exact d1
      · exact d2
    show PyData.depthAll [.int p, tupS sv, tupS cl, .tuple (ob.map tupS), .tuple (ft.map tupS)] + 1 ≤ 3
    omega
  · show PyData.weightAll [.int p, tupS sv, tupS cl, .tuple (ob.map tupS), .tuple (ft.map tupS)] ≤ 520
    simp only [PyData.weightAll]
    have := hp.2
    omega
theorem kz_len {m : Nat} {p : Int} {sv cl : List Str} {ob ft : List (List Str)} (h : Drawn m p sv cl ob ft) (hm : m ≤ 5) : (kz sv cl).length ≤ 12 := by
  unfold kz
  rw [List.length_append, List.length_append]
  have := h.lsv.2
  have := h.lcl.2
  show sv.length + (cl.length + 3) ≤ 12
  omega
/-- a part of data is replaced -/
theorem Pt.put {ks : List Str} {l N M d w : Nat} {x y far r x' : PyData} {ns ms : List Nat} (h : Pt ks l N d w x) (a : Pl x ns y) (b : Pl x ms far) (hM : N ≤ M) (hr : Rp ks l M w y far r) (p : Put x ns r x') :
    ∃ s : Str, Pt (s :: ks) (7 * l + 3) M (2 * d + 2) (2 * w + 320) x' := by
  obtain ⟨s, s1, s2, s3⟩ := hr.ex
  obtain ⟨o1, o2, o3⟩ := p.ok a
  have a1 := a.ok
  have b1 := b.ok
  refine ⟨s, fun t ht => ?_, ⟨List.mem_cons_of_mem _ h.k3.1, List.mem_cons_of_mem _ h.k3.2.1, List.mem_cons_of_mem _ h.k3.2.2⟩, o3 _ (lf_more (fun s hs => List.mem_cons_of_mem _ hs) hM h.lv) s3, ?_, ?_⟩
  · rcases List.mem_cons.mp ht with rfl | ht
    · exact ⟨s1, s2⟩
    · have := h.kl t ht
      exact ⟨by omega, this.2⟩
  · have := hr.dp
    have := h.dp
    have := b1.1
    have := a1.1
    omega
  · have := hr.wt
    have := h.wt
    omega
end G9

namespace G9
open PySem PySem.Spec L2 PyProof.Rows

/-! ### is_integer -/
abbrev P_is_integer : List Str := ["thing"]
def N_is_integer : List Str := ["thing"]
def d_is_integer : DS := sRet (dAnd (dIsi (oSlot 0) .int) (dNot (dIsi (oSlot 0) .bool)))
def sp_is_integer : FSpec := ⟨d_is_integer.m, fun us P _ => ∃ x, us = [.d x] ∧ P (.d (.bool (intB x))) false⟩
theorem law_is_integer : ∀ us P R, us.length = P_is_integer.length → sp_is_integer.f us P R → d_is_integer.f (startE N_is_integer us) (dk P R) := by
  rintro us P R - ⟨x, rfl, q⟩
  refine ⟨_, rfl, _, rfl, _, rfl, iteB (fun e => ?_) fun e => ?_⟩
  · refine ⟨_, rfl, _, rfl, _, rfl, ?_⟩
    have z : intB x = !isD x .bool := by unfold intB; rw [e, Bool.true_and]
    rw [z] at q
    exact q
  · have z : intB x = false := by unfold intB; rw [e, Bool.false_and]
    rw [z] at q
    exact q

/-! ### is_name -/
abbrev P_is_name : List Str := ["thing"]
def N_is_name : List Str := ["thing", "character"]
def d_is_name : DS := sSeq (sIf (kOr (kNot (kE (dIsi (oSlot 0) .str))) (kNot (kE (dCmp2 .le .le (oE (dCon (.int 1))) (oE (dBif .len (oSlot 0))) (oE (dCon (.int 6))))))) (sRet (dCon (.bool false))) (sSkip)) (sRet (dBif .all (oE (dLc [1] [1] false (wE (dVar 0)) (kTrue) (dCmp .isIn (oSlot 1) (oE (dCon (.str "abcdefghijklmnopqrstuvwxyz"))))))))
def sp_is_name : FSpec := ⟨d_is_name.m, fun us P _ => ∃ x, us = [.d x] ∧ StrOk x ∧ P (.d (.bool (nameB x))) false⟩
theorem law_is_name : ∀ us P R, us.length = P_is_name.length → sp_is_name.f us P R → d_is_name.f (startE N_is_name us) (dk P R) := by
  rintro us P R - ⟨x, rfl, hx, q⟩
  cases x with
  | str s =>
    have hl := hx s rfl
    refine ⟨_, rfl, _, rfl, _, rfl, ⟨_, rfl, _, rfl, hl, _, _, rfl, rfl, cLe (fun h1 => ⟨_, _, rfl, rfl, cLe (fun h2 => ⟨_, rfl, ?_⟩) fun h2 => ⟨_, rfl, ?_⟩⟩) fun h1 => ⟨_, rfl, ?_⟩⟩⟩
    · rw [nameB_str (by omega) (by omega)] at q
      refine ⟨_, rfl, hl, lcL_map (fun x => .bool (match x with | .str c => c.cps.toList.all letB | _ => false)) (fun ρ => ∃ o, ρ = [some ⟨false, .d (.str s)⟩, o]) ⟨_, rfl⟩ ?_ ?_⟩
      · rintro x hx' ρ k ⟨o, rfl⟩ hk
        obtain ⟨c, hc, rfl⟩ := List.mem_map.mp hx'
        refine ⟨_, rfl, _, _, rfl, rfl, c, rfl, _, rfl, ?_⟩
        rw [letters_mem]
        have := hk [some ⟨false, .d (.str s)⟩, some ⟨false, .d (sgn c)⟩] ⟨_, rfl⟩
        have e2 : (⟨#[c]⟩ : Str).cps.toList.all letB = letB c := by simp
        simp only [sgn] at this
        rw [e2] at this
        exact this
      · rintro ρ' ⟨o, rfl⟩
        refine ⟨_, rfl, s.cps.toList.map letB, ?_, ?_⟩
        · rw [← boolsD_of (s.cps.toList.map letB)]
          simp [sgn, Function.comp_def]
        · have e3 : (s.cps.toList.map letB).all id = s.cps.toList.all letB := by simp [List.all_map]
          rw [e3]
          exact q
    · rw [nameB_no (by omega)] at q; exact q
    · rw [nameB_no (by omega)] at q; exact q
  | _ => exact ⟨_, rfl, _, rfl, _, rfl, q⟩

/-! ### is_ascending -/
abbrev P_is_ascending : List Str := ["items"]
def N_is_ascending : List Str := ["items", "first", "second"]
def d_is_ascending : DS := sRet (dBif .all (oE (dLc [1, 2] [1, 2] true (wZipS (dSli (oSlot 0) (pNo) (pE (dNeg (oE (dCon (.int 1)))))) (dSli (oSlot 0) (pE (dCon (.int 1))) (pNo))) (kTrue) (dCmp .lt (oSlot 1) (oSlot 2)))))
def sp_is_ascending : FSpec := ⟨d_is_ascending.m, fun us P _ => (∃ ss : List Str, us = [.d (.tuple (ss.map .str))] ∧ P (.d (.bool (ascB ss))) false) ∨ ∃ kss : List (List Str), us = [.d (.tuple (kss.map tupS))] ∧ P (.d (.bool (ascTB kss))) false⟩
def pairLt : PyData → PyData
  | .tuple [.str a, .str b] => .bool (ltS a b)
  | _ => .none
theorem pairLt_all (ss : List Str) : (zipD ((ss.dropLast).map .str) ((ss.tail).map .str)).map pairLt = (List.zipWith ltS ss.dropLast ss.tail).map .bool := by
  unfold zipD
  rw [List.zipWith_map, List.map_zipWith, List.map_zipWith]
  rfl
def pairLtT : PyData → PyData
  | .tuple [a, b] => .bool (ltSS (grp a) (grp b))
  | _ => .none
theorem pairLtT_at (a b : List Str) : pairLtT (.tuple [tupS a, tupS b]) = .bool (ltSS a b) := by
  show PyData.bool (ltSS (grp (tupS a)) (grp (tupS b))) = _
  rw [grp_tup, grp_tup]
theorem pairLtT_all (ss : List (List Str)) : (zipD ((ss.dropLast).map tupS) ((ss.tail).map tupS)).map pairLtT = (List.zipWith ltSS ss.dropLast ss.tail).map .bool := by
  unfold zipD
  rw [List.zipWith_map, List.map_zipWith, List.map_zipWith]
  congr 1
  funext a b
  exact pairLtT_at a b
theorem law_is_ascending : ∀ us P R, us.length = P_is_ascending.length → sp_is_ascending.f us P R → d_is_ascending.f (startE N_is_ascending us) (dk P R) := by
  rintro us P R - (⟨ss, rfl, q⟩ | ⟨kss, rfl, q⟩)
  · refine ⟨_, rfl, _, rfl, _, rfl, _, rfl, _, rfl, _, rfl, _, rfl, _, _, rfl, rfl, ?_⟩
    rw [cutD_init, cutD_tail, ← List.map_dropLast, ← List.map_tail]
    refine ⟨by rw [List.length_map, List.length_map, List.length_dropLast, List.length_tail], lcL_map pairLt (fun ρ => ∃ o o', ρ = [some ⟨false, .d (.tuple (ss.map .str))⟩, o, o']) ⟨_, _, rfl⟩ ?_ ?_⟩
    · rintro x hx ρ k ⟨o, o', rfl⟩ hk
      obtain ⟨a, ha, b, hb, rfl⟩ := mem_zipD hx
      obtain ⟨a, _, rfl⟩ := List.mem_map.mp ha
      obtain ⟨b, _, rfl⟩ := List.mem_map.mp hb
      exact ⟨_, rfl, _, rfl, _, rfl, _, _, rfl, rfl, _, rfl, hk _ ⟨_, _, rfl⟩⟩
    · rintro ρ' ⟨o, o', rfl⟩
      refine ⟨_, rfl, List.zipWith ltS ss.dropLast ss.tail, ?_, ?_⟩
      · rw [pairLt_all, boolsD_of]
      · rw [ascB_zip]
        exact q
  · refine ⟨_, rfl, _, rfl, _, rfl, _, rfl, _, rfl, _, rfl, _, rfl, _, _, rfl, rfl, ?_⟩
    rw [cutD_init, cutD_tail, ← List.map_dropLast, ← List.map_tail]
    refine ⟨by rw [List.length_map, List.length_map, List.length_dropLast, List.length_tail], lcL_map pairLtT (fun ρ => ∃ o o', ρ = [some ⟨false, .d (.tuple (kss.map tupS))⟩, o, o']) ⟨_, _, rfl⟩ ?_ ?_⟩
    · rintro x hx ρ k ⟨o, o', rfl⟩ hk
      obtain ⟨a, ha, b, hb, rfl⟩ := mem_zipD hx
      obtain ⟨a, _, rfl⟩ := List.mem_map.mp ha
      obtain ⟨b, _, rfl⟩ := List.mem_map.mp hb
      refine ⟨_, rfl, _, rfl, _, rfl, _, _, rfl, rfl, a, b, strsD_of a, strsD_of b, _, rfl, ?_⟩
      have hk := hk _ ⟨some ⟨false, .d (tupS a)⟩, some ⟨false, .d (tupS b)⟩, rfl⟩
      rw [pairLtT_at] at hk
      exact hk
    · rintro ρ' ⟨o, o', rfl⟩
      refine ⟨_, rfl, List.zipWith ltSS kss.dropLast kss.tail, ?_, ?_⟩
      · rw [pairLtT_all, boolsD_of]
      · rw [ascTB_zip]
        exact q

/-! ### is_party_set -/
abbrev P_is_party_set : List Str := ["thing"]
def N_is_party_set : List Str := ["thing", "name"]
def d_is_party_set : DS := sRet (dAnd (dIsi (oSlot 0) .tuple) (dAnd (dBif .all (oE (dLc [1] [1] false (wE (dVar 0)) (kTrue) (dCall sp_is_name (aLen 1 (aCons (dVar 1) (aNil))))))) (dCall sp_is_ascending (aLen 1 (aCons (dVar 0) (aNil))))))
def sp_is_party_set : FSpec := ⟨d_is_party_set.m, fun us P _ => ∃ x, us = [.d x] ∧ ItemsOk x ∧ P (.d (.bool (setB x))) false⟩
theorem law_is_party_set : ∀ us P R, us.length = P_is_party_set.length → sp_is_party_set.f us P R → d_is_party_set.f (startE N_is_party_set us) (dk P R) := by
  rintro us P R - ⟨x, rfl, hx, q⟩
  cases x with
  | tuple xs =>
    refine ⟨_, rfl, _, rfl, _, rfl, _, rfl, lcL_map (fun x => .bool (nameB x)) (fun ρ => ∃ o, ρ = [some ⟨false, .d (.tuple xs)⟩, o]) ⟨_, rfl⟩ ?_ ?_⟩
    · rintro x hx' ρ k ⟨o, rfl⟩ hk
      exact ⟨rfl, x, rfl, hx xs rfl x hx', _, rfl, hk _ ⟨_, rfl⟩⟩
    · rintro ρ' ⟨o, rfl⟩
      refine ⟨_, rfl, xs.map nameB, ?_, _, rfl, ?_⟩
      · rw [← boolsD_of (xs.map nameB), List.map_map]; rfl
      · have e : (xs.map nameB).all id = xs.all nameB := by simp [List.all_map]
        rw [e]
        cases hb : xs.all nameB with
        | false =>
          have : setB (.tuple xs) = false := by simp only [setB, hb, Bool.false_and]
          rw [this] at q
          exact q
        | true =>
          have : setB (.tuple xs) = ascB (strsOf xs) := by simp only [setB, hb, Bool.true_and]
          rw [this] at q
          refine ⟨rfl, .inl ⟨strsOf xs, ?_, q⟩⟩
          rw [← names_strs hb]
  | _ => exact ⟨_, rfl, _, rfl, _, rfl, q⟩

/-! ### is_subset -/
abbrev P_is_subset : List Str := ["first", "second"]
def N_is_subset : List Str := ["first", "second", "name"]
def d_is_subset : DS := sRet (dBif .all (oE (dLc [2] [2] false (wE (dVar 0)) (kTrue) (dCmp .isIn (oSlot 2) (oSlot 1)))))
def sp_is_subset : FSpec := ⟨d_is_subset.m, fun us P _ => ∃ a b : List Str, us = [.d (tupS a), .d (tupS b)] ∧ (∀ s ∈ a, Sht 8 s) ∧ (∀ s ∈ b, Sht 8 s) ∧ P (.d (.bool (subB a b))) false⟩
theorem law_is_subset : ∀ us P R, us.length = P_is_subset.length → sp_is_subset.f us P R → d_is_subset.f (startE N_is_subset us) (dk P R) := by
  rintro us P R - ⟨a, b, rfl, ha, hb, q⟩
  refine ⟨_, rfl, lcL_map (fun x => .bool (memD b x)) (fun ρ => ∃ o, ρ = [some ⟨false, .d (tupS a)⟩, some ⟨false, .d (tupS b)⟩, o]) ⟨_, rfl⟩ ?_ ?_⟩
  · rintro x hx ρ k ⟨o, rfl⟩ hk
    obtain ⟨s, hs, rfl⟩ := List.mem_map.mp hx
    refine ⟨_, rfl, _, rfl, _, _, rfl, rfl, ((ha s hs).lay (by omega)).sh (by omega), (Lay.names hb (by omega)).sh (by omega), _, rfl, ?_⟩
    rw [inD_str]
    exact hk _ ⟨_, rfl⟩
  · rintro ρ' ⟨o, rfl⟩
    refine ⟨_, rfl, a.map fun s => decide (s ∈ b), ?_, ?_⟩
    · rw [← boolsD_of (a.map fun s => decide (s ∈ b)), List.map_map, List.map_map]; rfl
    · have e : (a.map fun s => decide (s ∈ b)).all id = subB a b := by unfold subB; rw [List.all_map]; rfl
      rw [e]
      exact q

/-! ### union -/
abbrev P_union : List Str := ["sets"]
def N_union : List Str := ["sets", "names", "name"]
def d_union : DS := sRet (dBif .tuple (oE (dUni (dVar 0))))
def sp_union : FSpec := ⟨d_union.m, fun us P _ => ∃ (kss : List (List Str)) (ks : List Str), us = [.d (.tuple (kss.map tupS))] ∧ (∀ n ∈ kss.flatten, n ∈ ks) ∧ ks.length < 64 ∧ ∀ ms, Asc ms → (∀ k, k ∈ ms ↔ k ∈ kss.flatten) → P (.d (tupS ms)) false⟩
theorem law_union : ∀ us P R, us.length = P_union.length → sp_union.f us P R → d_union.f (startE N_union us) (dk P R) := by
  rintro us P R - ⟨kss, ks, rfl, h1, h2, q⟩
  exact ⟨_, kss, ks, .inl rfl, seqsD_of kss, h1, h2, fun ms a b c => ⟨_, rfl, q ms (asc_of a b) c⟩⟩

/-! ### is_prime -/
abbrev P_is_prime : List Str := ["thing"]
def N_is_prime : List Str := ["thing", "factor"]
def d_is_prime : DS := sSeq (sIf (kOr (kNot (kE (dCall sp_is_integer (aLen 1 (aCons (dVar 0) (aNil)))))) (kNot (kE (dCmp2 .le .le (oE (dCon (.int 2))) (oSlot 0) (oE (dCon (.int 997))))))) (sRet (dCon (.bool false))) (sSkip)) (sRet (dBif .all (oE (dLc [1] [1] false (wRng2 (dCon (.int 2)) (dVar 0)) (kE (dCmp .le (oE (dBin .mul (oSlot 1) (oSlot 1))) (oSlot 0))) (dCmp .ne (oE (dBin .mod (oSlot 0) (oSlot 1))) (oE (dCon (.int 0))))))))
theorem filter_all {α : Type} (p q : α → Bool) (xs : List α) : (xs.filter p).all q = xs.all fun x => !p x || q x := by
  induction xs with
  | nil => rfl
  | cons x r ih => cases h : p x <;> simp [List.filter_cons, h, ih]
def facB (p : Int) : PyData → Bool
  | .int f => decide (f * f ≤ p)
  | _ => false
def facG (p : Int) : PyData → Bool
  | .int f => !decide (p.fmod f = 0)
  | _ => false
def sp_is_prime : FSpec := ⟨d_is_prime.m, fun us P _ => ∃ x, us = [.d x] ∧ P (.d (.bool (primeB x))) false⟩
theorem law_is_prime : ∀ us P R, us.length = P_is_prime.length → sp_is_prime.f us P R → d_is_prime.f (startE N_is_prime us) (dk P R) := by
  rintro us P R - ⟨x, rfl, q⟩
  cases x with
  | int p =>
    refine ⟨rfl, _, rfl, _, rfl, _, rfl, _, _, rfl, rfl, cLe (fun h1 => ⟨_, _, rfl, rfl, cLe (fun h2 => ⟨_, rfl, ?_⟩) fun h2 => ⟨_, rfl, ?_⟩⟩) fun h1 => ⟨_, rfl, ?_⟩⟩
    · refine ⟨_, _, rfl, rfl, ⟨by decide, by decide⟩, ⟨by omega, by omega⟩, lcL_pure (facB p) (fun x => .bool (facG p x)) (fun ρ => ∃ o, ρ = [some ⟨false, .d (.int p)⟩, o]) ⟨_, rfl⟩ ?_ ?_⟩
      · rintro x hx ρ k ⟨o, rfl⟩ hk
        obtain ⟨f, rfl, f1, f2⟩ := mem_range hx
        have hk := hk _ ⟨some ⟨false, .d (.int f)⟩, rfl⟩
        refine ⟨_, rfl, _, rfl, _, _, rfl, rfl, .inl ⟨by omega, by omega⟩, _, rfl, _, _, rfl, rfl, _, rfl, tB (fun e => ?_) fun e => ?_⟩
        · have e' : facB p (.int f) = true := e
          rw [if_pos e'] at hk
          exact ⟨_, rfl, _, rfl, _, _, rfl, rfl, by omega, _, _, rfl, rfl, .inl ⟨rfl, rfl⟩, _, rfl, hk⟩
        · have e' : ¬ facB p (.int f) = true := by rw [show facB p (.int f) = false from e]; simp
          rw [if_neg e'] at hk
          exact hk
      · rintro ρ' ⟨o, rfl⟩
        rw [List.nil_append]
        refine ⟨_, rfl, ((rangeD 2 p).filter (facB p)).map (facG p), ?_, ?_⟩
        · rw [← boolsD_of (((rangeD 2 p).filter (facB p)).map (facG p)), List.map_map]; rfl
        · have e : (((rangeD 2 p).filter (facB p)).map (facG p)).all id = primeB (.int p) := by
            rw [List.all_map]
            show ((rangeD 2 p).filter (facB p)).all (facG p) = _
            rw [filter_all]
            unfold rangeD
            rw [List.all_map]
            simp only [primeB]
            rw [decide_eq_true h1, decide_eq_true h2]
            rfl
          rw [e]
          exact q
    · have z : primeB (.int p) = false := by simp only [primeB]; rw [decide_eq_false (show ¬ p ≤ 997 by omega), Bool.and_false, Bool.false_and]
      rw [z] at q
      exact q
    · have z : primeB (.int p) = false := by simp only [primeB]; rw [decide_eq_false (show ¬ 2 ≤ p by omega), Bool.false_and, Bool.false_and]
      rw [z] at q
      exact q
  | _ => exact ⟨rfl, _, rfl, _, rfl, q⟩

/-! ### is_antichain -/
abbrev P_is_antichain : List Str := ["sets"]
def N_is_antichain : List Str := ["sets", "first", "second"]
def d_is_antichain : DS := sRet (dNot (dBif .any (oE (dLc2 [1, 2] [1] false (wE (dVar 0)) (kTrue) [2] [2] false (wE (dVar 0)) (kE (dCmp .ne (oSlot 1) (oSlot 2))) (dCall sp_is_subset (aLen 2 (aCons (dVar 1) (aCons (dVar 2) (aNil)))))))))
def sp_is_antichain : FSpec := ⟨d_is_antichain.m, fun us P _ => ∃ kss : List (List Str), us = [.d (.tuple (kss.map tupS))] ∧ kss.length ≤ 4096 ∧ (∀ g ∈ kss, ∀ s ∈ g, Sht 8 s) ∧ P (.d (.bool (antiB kss))) false⟩
theorem law_is_antichain : ∀ us P R, us.length = P_is_antichain.length → sp_is_antichain.f us P R → d_is_antichain.f (startE N_is_antichain us) (dk P R) := by
  rintro us P R - ⟨kss, rfl, hl, h8, q⟩
  have hl' : (kss.map tupS).length ≤ 4096 := by rw [List.length_map]; exact hl
  have lay : ∀ g ∈ kss, SeqAt.shaped (tupS g) = true := fun g hg => (Lay.names (h8 g hg) (by omega)).sh (by omega)
  refine ⟨_, rfl, hl', lc2L_pure (fun x => ((kss.map tupS).filter fun y => !decide (grp x = grp y)).map fun y => .bool (subB (grp x) (grp y))) (fun ρ => ∃ o o', ρ = [some ⟨false, .d (.tuple (kss.map tupS))⟩, o, o']) ⟨_, _, rfl⟩ ?_ ?_⟩
  · rintro x hx ρ acc k ⟨o, o', rfl⟩ hk
    obtain ⟨a, ha, rfl⟩ := List.mem_map.mp hx
    refine ⟨_, rfl, hl', lcL_pure (fun y => !decide (grp (tupS a) = grp y)) (fun y => .bool (subB (grp (tupS a)) (grp y))) (fun ρ => ∃ o', ρ = [some ⟨false, .d (.tuple (kss.map tupS))⟩, some ⟨false, .d (tupS a)⟩, o']) ⟨_, rfl⟩ ?_ ?_⟩
    · rintro y hy ρ k2 ⟨o', rfl⟩ hk2
      obtain ⟨b, hb, rfl⟩ := List.mem_map.mp hy
      rw [grp_tup, grp_tup] at hk2
      have hk2 := hk2 _ ⟨some ⟨false, .d (tupS b)⟩, rfl⟩
      refine ⟨_, rfl, _, rfl, _, _, rfl, rfl, .inl ⟨lay a ha, lay b hb⟩, _, rfl, ?_⟩
      rw [eqv_tupS]
      refine tB (fun e => ?_) fun e => ?_
      · rw [if_pos e] at hk2
        exact ⟨rfl, a, b, rfl, h8 a ha, h8 b hb, _, rfl, hk2⟩
      · rw [if_neg (by rw [e]; simp)] at hk2
        exact hk2
    · rintro ρ' ⟨o', rfl⟩
      exact hk _ ⟨_, _, rfl⟩
  · rintro ρ' ⟨o, o', rfl⟩
    rw [List.nil_append]
    refine ⟨_, rfl, kss.flatMap fun a => (kss.filter fun b => !decide (a = b)).map fun b => subB a b, ?_, _, rfl, ?_⟩
    · have e : (kss.map tupS).flatMap (fun x => ((kss.map tupS).filter fun y => !decide (grp x = grp y)).map fun y => PyData.bool (subB (grp x) (grp y))) = (kss.flatMap fun a => (kss.filter fun b => !decide (a = b)).map fun b => subB a b).map .bool := by
        rw [List.flatMap_map, List.map_flatMap]
        congr 1
        funext a
        rw [grp_tup, List.filter_map, List.map_map, List.map_map]
        have e1 : ((fun y => !decide (a = grp y)) ∘ tupS) = fun b => !decide (a = b) := by funext b; show (!decide (a = grp (tupS b))) = _; rw [grp_tup]
        have e2 : ((fun y => PyData.bool (subB a (grp y))) ∘ tupS) = (PyData.bool ∘ fun b => subB a b) := by funext b; show PyData.bool (subB a (grp (tupS b))) = _; rw [grp_tup]; rfl
        rw [e1, e2]
      rw [e]
      exact boolsD_of _
    · have e : (!(kss.flatMap fun a => (kss.filter fun b => !decide (a = b)).map fun b => subB a b).any id) = antiB kss := by
        rw [Bool.eq_iff_iff, antiB_iff, Bool.not_eq_true', List.any_eq_false]
        constructor
        · intro h a ha b hb
          by_cases c : a = b
          · exact .inl c
          · have z := h (subB a b) (List.mem_flatMap.mpr ⟨a, ha, List.mem_map.mpr ⟨b, List.mem_filter.mpr ⟨hb, by rw [decide_eq_false c]; rfl⟩, rfl⟩⟩)
            exact .inr (by simpa using z)
        · intro h x hx
          obtain ⟨a, ha, hx⟩ := List.mem_flatMap.mp hx
          obtain ⟨b, hb, rfl⟩ := List.mem_map.mp hx
          obtain ⟨hb, c⟩ := List.mem_filter.mp hb
          have c : ¬ a = b := by simpa using c
          have z := (h a ha b hb).resolve_left c
          show ¬ subB a b = true
          rw [z]
          simp
      rw [e]
      exact q

/-! ### are_server_sets -/
abbrev P_are_server_sets : List Str := ["servers", "thing"]
def N_are_server_sets : List Str := ["servers", "thing", "names"]
def d_are_server_sets : DS := sSeq (sIf (kOr (kNot (kE (dIsi (oSlot 1) .tuple))) (kOr (kE (dEq0 (oSlot 1))) (kNot (kE (dBif .all (oE (dLc [2] [2] false (wE (dVar 1)) (kTrue) (dCall sp_is_party_set (aLen 1 (aCons (dVar 2) (aNil))))))))))) (sRet (dCon (.bool false))) (sSkip)) (sRet (dAnd (dCall sp_is_ascending (aLen 1 (aCons (dVar 1) (aNil)))) (dAnd (dCall sp_is_antichain (aLen 1 (aCons (dVar 1) (aNil)))) (dCall sp_is_subset (aLen 2 (aCons (dCall sp_union (aLen 1 (aCons (dVar 1) (aNil)))) (aCons (dVar 0) (aNil))))))))
def sp_are_server_sets : FSpec := ⟨d_are_server_sets.m, fun us P _ => ∃ (sv : List Str) (x : PyData) (ks : List Str) (d w : Nat), us = [.d (tupS sv), .d x] ∧ (∀ s ∈ sv, Sht 8 s) ∧ ks.length < 64 ∧ Fit ks x d w ∧ d ≤ 60 ∧ w ≤ 4096 ∧ P (.d (.bool (setsB sv x))) false⟩
theorem law_are_server_sets : ∀ us P R, us.length = P_are_server_sets.length → sp_are_server_sets.f us P R → d_are_server_sets.f (startE N_are_server_sets us) (dk P R) := by
  have sz : sizeLine = 16777216 := sizeLine_eq
  rintro us P R - ⟨sv, x, ks, d, w, rfl, h8, hk, fit, hd, hw, q⟩
  cases x with
  | tuple xs =>
    refine ⟨_, rfl, _, rfl, _, rfl, _, rfl, _, rfl, ?_⟩
    cases he : xs.isEmpty with
    | true =>
      have z : setsB sv (.tuple xs) = false := by simp only [setsB, he, Bool.not_true, Bool.false_and]
      rw [z] at q
      exact ⟨_, rfl, q⟩
    | false =>
      refine ⟨_, rfl, _, rfl, lcL_map (fun x => .bool (setB x)) (fun ρ => ∃ o, ρ = [some ⟨false, .d (tupS sv)⟩, some ⟨false, .d (.tuple xs)⟩, o]) ⟨_, rfl⟩ ?_ ?_⟩
      · rintro y hy ρ k ⟨o, rfl⟩ hk2
        exact ⟨rfl, y, rfl, (fit.items hy).itemsOk (by omega), _, rfl, hk2 _ ⟨_, rfl⟩⟩
      · rintro ρ' ⟨o, rfl⟩
        refine ⟨_, rfl, xs.map setB, ?_, _, rfl, ?_⟩
        · rw [← boolsD_of (xs.map setB), List.map_map]; rfl
        have ea : (xs.map setB).all id = xs.all setB := by rw [List.all_map]; rfl
        rw [ea]
        cases ha : xs.all setB with
        | false =>
          have z : setsB sv (.tuple xs) = false := by simp only [setsB, ha, Bool.false_and, Bool.and_false]
          rw [z] at q
          exact q
        | true =>
          have e := sets_tups ha
          have e1 : setsB sv (.tuple xs) = (ascTB (xs.map grp) && (antiB (xs.map grp) && (xs.map grp).all fun g => subB g sv)) := by simp only [setsB, he, ha, Bool.not_false, Bool.true_and]
          rw [e1] at q
          have lx := fit.len
          have ks1 : ∀ g ∈ xs.map grp, (∀ s ∈ g, Sht 8 s) ∧ ∀ s ∈ g, s ∈ ks := fun g hg => by
            obtain ⟨y, hy, rfl⟩ := List.mem_map.mp hg
            have hs := List.all_eq_true.mp ha y hy
            have f := fit.items hy
            obtain ⟨ss, rfl, n1, _⟩ := setB_of hs
            rw [grp_tup]
            exact ⟨fun s h => (n1 s h).sht.mono (by omega), f.names⟩
          have lk : (xs.map grp).length ≤ 4096 := by rw [List.length_map]; omega
          generalize xs.map grp = kss at e ks1 q lk
          subst e
          refine ⟨rfl, .inr ⟨kss, rfl, _, rfl, iteB (fun h1 => ?_) fun h1 => ?_⟩⟩
          · rw [h1, Bool.true_and] at q
            refine ⟨rfl, kss, rfl, lk, fun g hg => (ks1 g hg).1, _, rfl, iteB (fun h2 => ?_) fun h2 => ?_⟩
            · rw [h2, Bool.true_and] at q
              refine ⟨rfl, kss, ks, rfl, fun n hn => ?_, hk, fun ms a b => ?_⟩
              · obtain ⟨g, hg, hn⟩ := List.mem_flatten.mp hn
                exact (ks1 g hg).2 n hn
              · refine ⟨rfl, ms, sv, rfl, fun s hs => ?_, h8, ?_⟩
                · obtain ⟨g, hg, hn⟩ := List.mem_flatten.mp ((b s).mp hs)
                  exact (ks1 g hg).1 s hn
                · have e2 : subB ms sv = kss.all fun g => subB g sv := by
                    rw [Bool.eq_iff_iff, subB_iff, List.all_eq_true]
                    constructor
                    · exact fun h g hg => subB_iff.mpr fun n hn => h n ((b n).mpr (List.mem_flatten.mpr ⟨g, hg, hn⟩))
                    · intro h n hn
                      obtain ⟨g, hg, hn⟩ := List.mem_flatten.mp ((b n).mp hn)
                      exact subB_iff.mp (h g hg) n hn
                  rw [e2]
                  exact q
            · rw [h2, Bool.false_and] at q
              exact q
          · rw [h1, Bool.false_and] at q
            exact q
  | _ => exact ⟨_, rfl, _, rfl, _, rfl, q⟩

/-! ### is_scheme -/
abbrev P_is_scheme : List Str := ["thing"]
def N_is_scheme : List Str := ["thing", "prime", "servers", "clients", "observers", "faults", "faulty", "name", "observing"]
def d_is_scheme : DS := sSeq (sIf (kOr (kNot (kE (dIsi (oSlot 0) .tuple))) (kE (dCmp .ne (oE (dBif .len (oSlot 0))) (oE (dCon (.int 5)))))) (sRet (dCon (.bool false))) (sSkip)) (sSeq (sSetT [1, 2, 3, 4, 5] (dVar 0)) (sSeq (sIf (kOr (kNot (kE (dCall sp_is_prime (aLen 1 (aCons (dVar 1) (aNil)))))) (kOr (kNot (kE (dCall sp_is_party_set (aLen 1 (aCons (dVar 2) (aNil)))))) (kNot (kE (dCall sp_is_party_set (aLen 1 (aCons (dVar 3) (aNil)))))))) (sRet (dCon (.bool false))) (sSkip)) (sSeq (sIf (kOr (kE (dCmp .lt (oE (dBif .len (oSlot 2))) (oE (dCon (.int 2))))) (kOr (kE (dCmp .eq (oSlot 3) (oE (dTup (aNil))))) (kE (dBif .any (oE (dLc [7] [7] false (wE (dVar 3)) (kTrue) (dCmp .isIn (oSlot 7) (oSlot 2)))))))) (sRet (dCon (.bool false))) (sSkip)) (sSeq (sIf (kOr (kNot (kE (dCall sp_are_server_sets (aLen 2 (aCons (dVar 2) (aCons (dVar 4) (aNil))))))) (kNot (kE (dCall sp_are_server_sets (aLen 2 (aCons (dVar 2) (aCons (dVar 5) (aNil)))))))) (sRet (dCon (.bool false))) (sSkip)) (sRet (dBif .all (oE (dLc [6] [6] false (wE (dVar 5)) (kTrue) (dBif .any (oE (dLc [8] [8] false (wE (dVar 4)) (kTrue) (dCall sp_is_subset (aLen 2 (aCons (dVar 6) (aCons (dVar 8) (aNil))))))))))))))))
def sp_is_scheme : FSpec := ⟨d_is_scheme.m, fun us P _ => ∃ (x : PyData) (ks : List Str), us = [.d x] ∧ ks.length < 64 ∧ (∀ xs, x = .tuple xs → ∀ y ∈ xs, Fit ks y 59 4096) ∧ P (.d (.bool (schB x))) false⟩
theorem len5 {α : Type} {xs : List α} (h : xs.length = 5) : ∃ a b c d e, xs = [a, b, c, d, e] := by
  match xs, h with
  | [a, b, c, d, e], _ => exact ⟨a, b, c, d, e, rfl⟩
theorem schB_no {xs : List PyData} (h : xs.length ≠ 5) : schB (.tuple xs) = false := by
  unfold schB
  split
  · rename_i e
    cases e
    exact absurd rfl h
  · rfl
theorem law_is_scheme : ∀ us P R, us.length = P_is_scheme.length → sp_is_scheme.f us P R → d_is_scheme.f (startE N_is_scheme us) (dk P R) := by
  have sz : sizeLine = 16777216 := sizeLine_eq
  rintro us P R - ⟨x, ks, rfl, hk, hf, q⟩
  cases x with
  | tuple xs =>
    have hf := hf xs rfl
    refine ⟨_, rfl, _, rfl, _, rfl, _, rfl, _, rfl, _, _, rfl, rfl, cNe (fun h => ⟨_, rfl, ?_⟩) fun h => ⟨_, rfl, ?_⟩⟩
    · rw [schB_no (by omega)] at q
      exact q
    obtain ⟨p, sv, cl, ob, ft, rfl⟩ := len5 (xs := xs) (by omega)
    have fsv := hf sv (by simp)
    have fcl := hf cl (by simp)
    have fob := hf ob (by simp)
    have fft := hf ft (by simp)
    have q : P (.d (.bool (schT p sv cl ob ft))) false := q
    clear hf h
    refine ⟨_, rfl, _, rfl, ?_⟩
    have no : schT p sv cl ob ft = false → P (.d (.bool false)) false := fun e => by rw [e] at q; exact q
    refine ⟨rfl, p, rfl, _, rfl, ?_⟩
    cases h1 : primeB p with
    | false => exact no (by simp only [schT, h1, Bool.false_and])
    | true =>
    refine ⟨rfl, sv, rfl, fsv.itemsOk (by omega), _, rfl, ?_⟩
    cases h2 : setB sv with
    | false => exact no (by simp only [schT, h2, Bool.false_and, Bool.and_false])
    | true =>
    refine ⟨rfl, cl, rfl, fcl.itemsOk (by omega), _, rfl, ?_⟩
    cases h3 : setB cl with
    | false => exact no (by simp only [schT, h3, Bool.false_and, Bool.and_false])
    | true =>
    obtain ⟨sv, rfl, nsv, _⟩ := setB_of h2
    obtain ⟨cl, rfl, ncl, _⟩ := setB_of h3
    have s8 : ∀ s ∈ sv, Sht 8 s := fun s h => (nsv s h).sht.mono (by omega)
    have c8 : ∀ s ∈ cl, Sht 8 s := fun s h => (ncl s h).sht.mono (by omega)
    have gs := grp_tup sv
    have gc := grp_tup cl
    have hT : schT p (tupS sv) (tupS cl) ob ft = (decide (2 ≤ sv.length) && (!cl.isEmpty && (cl.all (fun n => !decide (n ∈ sv)) && (setsB sv ob && (setsB sv ft && (grps ft).all fun f => (grps ob).any fun o => subB f o))))) := by
      simp only [schT, h1, h2, h3, gs, gc, Bool.true_and]
    rw [hT] at q no
    clear hT
    refine ⟨_, rfl, _, rfl, _, _, rfl, rfl, cLt (fun h => ⟨_, rfl, ?_⟩) fun h => ⟨_, rfl, ?_⟩⟩
    · rw [List.length_map] at h
      exact no (by rw [decide_eq_false (show ¬ 2 ≤ sv.length by omega), Bool.false_and])
    rw [List.length_map] at h
    have h4 : decide (2 ≤ sv.length) = true := decide_eq_true (by omega)
    rw [h4, Bool.true_and] at q no
    refine ⟨_, rfl, _, rfl, by show 0 ≤ sizeLine; omega, _, _, rfl, rfl, cNilT ((Lay.names c8 (by omega)).sh (by omega)) ?_⟩
    rw [List.isEmpty_map]
    cases h5 : cl.isEmpty with
    | true => exact ⟨_, rfl, no (by rw [h5]; rfl)⟩
    | false =>
    rw [h5, Bool.not_false, Bool.true_and] at q no
    refine ⟨_, rfl, _, rfl, lcL_map (fun x => .bool (memD sv x)) (fun ρ => ∃ o, ρ = [some ⟨false, .d (.tuple [p, tupS sv, tupS cl, ob, ft])⟩, some ⟨false, .d p⟩, some ⟨false, .d (tupS sv)⟩, some ⟨false, .d (tupS cl)⟩, some ⟨false, .d ob⟩, some ⟨false, .d ft⟩, none, o, none]) ⟨_, rfl⟩ ?_ ?_⟩
    · rintro y hy ρ k ⟨o, rfl⟩ hk2
      obtain ⟨s, hs, rfl⟩ := List.mem_map.mp hy
      refine ⟨_, rfl, _, rfl, _, _, rfl, rfl, ((c8 s hs).lay (by omega)).sh (by omega), (Lay.names s8 (by omega)).sh (by omega), _, rfl, ?_⟩
      rw [inD_str]
      exact hk2 _ ⟨_, rfl⟩
    rintro ρ' ⟨o, rfl⟩
    refine ⟨_, rfl, cl.map fun n => decide (n ∈ sv), ?_, _, rfl, ?_⟩
    · rw [← boolsD_of (cl.map fun n => decide (n ∈ sv)), List.map_map, List.map_map]; rfl
    have ea : (cl.map fun n => decide (n ∈ sv)).any id = !(cl.all fun n => !decide (n ∈ sv)) := by
      rw [List.any_map, List.any_eq_not_all_not]
      rfl
    rw [ea]
    cases h6 : cl.all fun n => !decide (n ∈ sv) with
    | false => exact no (by rw [h6, Bool.false_and])
    | true =>
    rw [h6, Bool.true_and] at q no
    refine ⟨rfl, sv, ob, ks, 59, 4096, rfl, s8, hk, fob, by omega, by omega, _, rfl, ?_⟩
    cases h7 : setsB sv ob with
    | false => exact no (by rw [h7, Bool.false_and])
    | true =>
    rw [h7, Bool.true_and] at q no
    refine ⟨rfl, sv, ft, ks, 59, 4096, rfl, s8, hk, fft, by omega, by omega, _, rfl, ?_⟩
    cases h8 : setsB sv ft with
    | false => exact no (by rw [h8, Bool.false_and])
    | true =>
    rw [h8, Bool.true_and] at q
    obtain ⟨fs, rfl, nfs⟩ := sets_of_true h8 (by omega)
    obtain ⟨os, rfl, nos⟩ := sets_of_true h7 (by omega)
    rw [grps_tup, grps_tup] at q
    refine ⟨_, rfl, lcL_map (fun x => .bool (os.any fun o => subB (grp x) o)) (fun ρ => ∃ o6 o7 o8, ρ = [some ⟨false, .d (.tuple [p, tupS sv, tupS cl, .tuple (os.map tupS), .tuple (fs.map tupS)])⟩, some ⟨false, .d p⟩, some ⟨false, .d (tupS sv)⟩, some ⟨false, .d (tupS cl)⟩, some ⟨false, .d (.tuple (os.map tupS))⟩, some ⟨false, .d (.tuple (fs.map tupS))⟩, o6, o7, o8]) ⟨_, _, _, rfl⟩ ?_ ?_⟩
    · rintro y hy ρ k ⟨o6, o7, o8, rfl⟩ hk2
      obtain ⟨f, hf, rfl⟩ := List.mem_map.mp hy
      rw [grp_tup] at hk2
      refine ⟨_, rfl, lcL_map (fun x => .bool (subB f (grp x))) (fun ρ => ∃ o8, ρ = [some ⟨false, .d (.tuple [p, tupS sv, tupS cl, .tuple (os.map tupS), .tuple (fs.map tupS)])⟩, some ⟨false, .d p⟩, some ⟨false, .d (tupS sv)⟩, some ⟨false, .d (tupS cl)⟩, some ⟨false, .d (.tuple (os.map tupS))⟩, some ⟨false, .d (.tuple (fs.map tupS))⟩, some ⟨false, .d (tupS f)⟩, o7, o8]) ⟨_, rfl⟩ ?_ ?_⟩
      · rintro z hz ρ k3 ⟨o8, rfl⟩ hk3
        obtain ⟨o, ho, rfl⟩ := List.mem_map.mp hz
        rw [grp_tup] at hk3
        exact ⟨rfl, f, o, rfl, nfs f hf, nos o ho, _, rfl, hk3 _ ⟨_, rfl⟩⟩
      · rintro ρ' ⟨o8, rfl⟩
        refine ⟨_, rfl, os.map fun o => subB f o, ?_, _, rfl, ?_⟩
        · rw [← boolsD_of (os.map fun o => subB f o), List.map_map, List.map_map]
          congr 1
          refine List.map_congr_left fun o _ => ?_
          show PyData.bool (subB f (grp (tupS o))) = _
          rw [grp_tup]
          rfl
        · rw [List.any_map]
          exact hk2 _ ⟨_, _, _, rfl⟩
    · rintro ρ' ⟨o6, o7, o8, rfl⟩
      refine ⟨_, rfl, fs.map fun f => os.any fun o => subB f o, ?_, ?_⟩
      · rw [← boolsD_of (fs.map fun f => os.any fun o => subB f o), List.map_map, List.map_map]
        congr 1
        refine List.map_congr_left fun f _ => ?_
        show PyData.bool (os.any fun o => subB (grp (tupS f)) o) = _
        rw [grp_tup]
        rfl
      · rw [List.all_map]
        exact q
  | _ => exact ⟨_, rfl, _, rfl, _, rfl, q⟩

/-! ### _law_source -/
abbrev P_law_source : List Str := ["_law_script"]

/-! ### _law_draw -/
abbrev P_law_draw : List Str := ["_law_source_here", "_law_limit"]
def sp_law_draw : FSpec := ⟨1, fun us P _ => ∃ n : Int, us = [.deck, .d (.int n)] ∧ 0 < n ∧ n < 1073741824 ∧ ∀ d : Int, 0 ≤ d → d < n → P (.d (.int d)) false⟩

/-! ### _law_pick -/
abbrev P_law_pick : List Str := ["_law_source_here", "_law_options"]
def N_law_pick : List Str := ["_law_source_here", "_law_options"]
def d_law_pick : DS := sRet (dIdx (oSlot 1) (oE (dCall sp_law_draw (aLen 2 (aCons (dVar 0) (aCons (dBif .len (oSlot 1)) (aNil)))))))
def sp_law_pick : FSpec := ⟨d_law_pick.m, fun us P _ => (∃ s : Str, us = [.deck, .d (.str s)] ∧ 0 < s.length ∧ s.length ≤ sizeLine ∧ ∀ c ∈ s.cps.toList, P (.d (sgn c)) false) ∨ (∃ xs, (us = [.deck, .d (.list xs)] ∨ us = [.deck, .d (.tuple xs)]) ∧ 0 < xs.length ∧ xs.length ≤ sizeLine ∧ ∀ y ∈ xs, P (.d y) false)⟩
theorem law_law_pick : ∀ us P R, us.length = P_law_pick.length → sp_law_pick.f us P R → d_law_pick.f (startE N_law_pick us) (dk P R) := by
  have sz : sizeLine < 1073741824 := by rw [sizeLine_eq]; omega
  rintro us P R - (⟨s, rfl, h0, h1, q⟩ | ⟨xs, rfl | rfl, h0, h1, q⟩)
  · refine ⟨_, rfl, _, rfl, _, rfl, h1, rfl, _, rfl, by omega, by omega, fun d d0 d1 => ?_⟩
    obtain ⟨c, hc, hm⟩ := atI_some (xs := s.cps.toList) d0 (by rw [Array.length_toList]; exact d1)
    exact ⟨_, _, rfl, rfl, h1, c, hc, q c hm⟩
  · refine ⟨_, rfl, _, rfl, _, rfl, rfl, _, rfl, by omega, by omega, fun d d0 d1 => ?_⟩
    obtain ⟨c, hc, hm⟩ := atI_some d0 d1
    exact ⟨_, _, rfl, rfl, c, hc, q c hm⟩
  · refine ⟨_, rfl, _, rfl, _, rfl, rfl, _, rfl, by omega, by omega, fun d d0 d1 => ?_⟩
    obtain ⟨c, hc, hm⟩ := atI_some d0 d1
    exact ⟨_, _, rfl, rfl, c, hc, q c hm⟩

/-! ### _law_names -/
abbrev P_law_names : List Str := ["_law_source_here", "_law_count"]
def N_law_names : List Str := ["_law_source_here", "_law_count", "_law_word", "_law_found", "_law_n", "_law_letters", "_law_mode", "_law_start", "_law_letter"]
def d_law_names : DS := sSeq (sSetT [5, 6, 7] (dTup (aCons (dCon (.str "abcdefghijklmnopqrstuvwxyz")) (aCons (dCall sp_law_draw (aLen 2 (aCons (dVar 0) (aCons (dCon (.int 3)) (aNil))))) (aCons (dCall sp_law_draw (aLen 2 (aCons (dVar 0) (aCons (dCon (.int 26)) (aNil))))) (aNil)))))) (sSeq (sSet 2 (dMth .join (oE (dCon (.str ""))) (aCons (dLc [4] [4] false (wRng1 (dCon (.int 5))) (kTrue) (dCall sp_law_pick (aLen 2 (aCons (dVar 0) (aCons (dVar 5) (aNil)))))) (aNil)))) (sSeq (sSet 3 (dLst (aNil))) (sSeq (sFor [4] false (wRng1 (dVar 1)) (sSeq (sSet 8 (dIdx (oSlot 5) (oE (dBin .mod (oE (dBin .add (oSlot 7) (oE (dBin .mul (oE (dCon (.int 3))) (oSlot 4))))) (oE (dCon (.int 26))))))) (sDrop (dMth .append (oSlot 3) (aCons (dIdx (oE (dLst (aCons (dVar 8) (aCons (dBin .add (oE (dBin .add (oE (dSli (oSlot 2) (pNo) (pE (dBin .mod (oSlot 4) (oE (dCon (.int 6))))))) (oSlot 8))) (oE (dSli (oSlot 2) (pE (dBin .mod (oSlot 4) (oE (dCon (.int 6))))) (pNo)))) (aCons (dBin .mul (oSlot 8) (oE (dBin .add (oE (dCon (.int 1))) (oE (dBin .mod (oSlot 4) (oE (dCon (.int 6)))))))) (aNil)))))) (oSlot 6)) (aNil)))))) (sRet (dBif .sorted (oSlot 3))))))
def sp_law_names : FSpec := ⟨d_law_names.m, fun us P _ => ∃ k : Nat, us = [.deck, .d (.int k)] ∧ k ≤ 12 ∧ ∀ ss, Asc ss → ss.length = k → (∀ s ∈ ss, Nm s) → P (.d (.list (ss.map .str))) true⟩
theorem law_law_names : ∀ us P R, us.length = P_law_names.length → sp_law_names.f us P R → d_law_names.f (startE N_law_names us) (dk P R) := by
  have sz : sizeLine = 16777216 := sizeLine_eq
  have l26 : ("abcdefghijklmnopqrstuvwxyz" : Str).length = 26 := by decide +kernel
  rintro us P R - ⟨n, rfl, hn, q⟩
  refine ⟨rfl, 3, rfl, by decide, by decide, fun m m0 m1 => ⟨rfl, 26, rfl, by decide, by decide, fun st s0 s1 => ⟨_, rfl, by show 3 ≤ sizeLine; omega, _, rfl, _, rfl, ?_⟩⟩⟩
  obtain ⟨st, rfl⟩ := Int.eq_ofNat_of_zero_le s0
  obtain ⟨m, rfl⟩ := Int.eq_ofNat_of_zero_le m0
  refine ⟨⟨_, rfl⟩, _, rfl, by decide, by decide, lcL_inv (fun j acc ρ => (∃ cs : List Nat, acc = cs.map sgn ∧ cs.length = j ∧ ∀ c ∈ cs, letB c = true) ∧ ∃ o, ρ = [some ⟨false, .deck⟩, some ⟨false, .d (.int n)⟩, none, none, o, some ⟨false, .d (.str "abcdefghijklmnopqrstuvwxyz")⟩, some ⟨false, .d (.int m)⟩, some ⟨false, .d (.int st)⟩, none]) ⟨⟨[], rfl, rfl, fun _ h => nomatch h⟩, _, rfl⟩ ?_ ?_⟩
  · rintro j x hx acc ρ k ⟨⟨cs, rfl, hc, hb⟩, o, rfl⟩ hk -
    refine ⟨rfl, .inl ⟨_, rfl, by omega, by omega, fun c hm => ⟨_, rfl, hk _ _ ⟨⟨cs ++ [c], by rw [List.map_append]; rfl, by rw [List.length_append, List.length_singleton]; omega, fun c' h' => ?_⟩, _, rfl⟩⟩⟩⟩
    rcases List.mem_append.mp h' with h' | h'
    · exact hb c' h'
    · rw [List.mem_singleton.mp h']; exact letters_let hm
  rintro acc ρ' ⟨⟨cs, rfl, hc, hb⟩, o, rfl⟩
  rw [range_len] at hc
  have e : cs.map sgn = (cs.map fun c => (⟨#[c]⟩ : Str)).map .str := by rw [List.map_map]; rfl
  have e1 : ∀ cs : List Nat, ((cs.map fun c => (⟨#[c]⟩ : Str)).map Str.length).sum = cs.length := fun cs => by
    induction cs with
    | nil => rfl
    | cons c r ih => rw [List.map_cons, List.map_cons, List.sum_cons, ih, List.length_cons]; show 1 + r.length = _; omega
  have ej := join_signs cs
  refine ⟨_, rfl, _, _, rfl, by rw [e]; exact strsD_of _, ?_, ?_⟩
  · rw [e1, List.length_map]
    show cs.length + cs.length * 0 ≤ _
    omega
  have hw : (Txt.join "" (cs.map fun c => (⟨#[c]⟩ : Str))).length = 5 := by
    show (Txt.join "" (cs.map fun c => (⟨#[c]⟩ : Str))).cps.size = 5
    rw [← Array.length_toList, ej]
    omega
  have hl : ∀ c ∈ (Txt.join "" (cs.map fun c => (⟨#[c]⟩ : Str))).cps.toList, letB c = true := fun c h => by rw [ej] at h; exact hb c h
  generalize Txt.join "" (cs.map fun c => (⟨#[c]⟩ : Str)) = w at hw hl
  refine ⟨_, rfl, by show 0 ≤ sizeLine; omega, ?_⟩
  refine ⟨_, rfl, by omega, by omega, forL_ix (fun i ρ => ∃ o4 o8, ρ = [some ⟨false, .deck⟩, some ⟨false, .d (.int n)⟩, some ⟨false, .d (.str w)⟩, some ⟨true, .d (.list ((nms m w st i).map .str))⟩, o4, some ⟨false, .d (.str "abcdefghijklmnopqrstuvwxyz")⟩, some ⟨false, .d (.int m)⟩, some ⟨false, .d (.int st)⟩, o8]) ⟨_, _, rfl⟩ ?_ ?_⟩
  · rintro i x ρ k hx ⟨o4, o8, rfl⟩ hk
    obtain ⟨rfl, hi⟩ := range_at hx
    have hi : i < 12 := by omega
    rw [Int.zero_add]
    have e26 : ((st : Int) + 3 * (i : Int)).fmod 26 = (((st + 3 * i) % 26 : Nat) : Int) := by
      rw [← fmod_nat]
      rfl
    have e6 : ((i : Int)).fmod 6 = ((i % 6 : Nat) : Int) := fmod_nat i 6
    have z : (nms m w st (i + 1)).map PyData.str = (nms m w st i).map .str ++ [.str (nmS m w st i)] := by
      unfold nms
      rw [List.range_succ, List.map_append, List.map_append]
      rfl
    rw [z] at hk
    refine ⟨_, rfl, _, rfl, _, rfl, _, _, rfl, rfl, .inl ⟨by omega, by omega⟩, _, _, rfl, rfl, _, _, rfl, rfl, by decide, _, _, rfl, rfl, by omega, ltr st i, ?_, ?_⟩
    · rw [e26]
      exact atI_nat (letters_at (Nat.mod_lt _ (by decide)))
    have S1 := Sht.one (letB_lt (ltr_let st i))
    have C1 := cutS_length w none (some ((i : Int).fmod 6))
    have C2 := cutS_length w (some ((i : Int).fmod 6)) none
    have A1 : (cutS w none (some ((i : Int).fmod 6)) ++ (⟨#[ltr st i]⟩ : Str)).length ≤ 6 := by
      show (cutS w none (some ((i : Int).fmod 6)) ++ (⟨#[ltr st i]⟩ : Str)).cps.size ≤ 6
      rw [← Array.length_toList, cat_list, List.length_append]
      have : (cutS w none (some ((i : Int).fmod 6))).cps.toList.length = (cutS w none (some ((i : Int).fmod 6))).length := Array.length_toList
      rw [this]
      show _ + 1 ≤ 6
      omega
    refine ⟨_, rfl, ⟨_, rfl⟩, _, rfl, _, rfl, _, _, rfl, rfl, by decide, _, rfl, _, rfl, by omega, _, rfl, _, _, rfl, rfl, ?_, ?_⟩
    · show (cutS w none (some ((i : Int).fmod 6))).length + 1 ≤ sizeLine
      omega
    refine ⟨_, rfl, _, rfl, _, _, rfl, rfl, by decide, _, rfl, _, rfl, by omega, _, _, rfl, rfl, by omega, ?_⟩
    refine ⟨_, rfl, _, rfl, _, _, rfl, rfl, by decide, _, _, rfl, rfl, _, _, rfl, rfl, ?_, ?_⟩
    · rw [e6]
      exact mulOk_one _ _ (by omega) (by omega)
    refine ⟨_, rfl, by show 3 ≤ sizeLine; omega, _, rfl, _, _, rfl, rfl, .str (nmS m w st i), ?_, _, rfl, _, _, rfl, rfl, ?_, hk _ ⟨_, _, rfl⟩⟩
    · rw [e6]
      have h3 : m = 0 ∨ m = 1 ∨ m = 2 := by omega
      rcases h3 with rfl | rfl | rfl <;> rfl
    · rw [List.length_map]
      unfold nms
      rw [List.length_map, List.length_range]
      omega
  · rintro ρ' ⟨o4, o8, rfl⟩
    rw [range_len]
    have hk : ((n : Int) - 0).toNat = n := by omega
    rw [hk]
    refine ⟨_, rfl, _, rfl, ?_, .inr (.inl ⟨nms m w st n, strsD_of _, fun ms pm so => q ms (asc_of so (pm.nodup_iff.mpr (nms_nd hn))) ?_ fun s hs => ?_⟩)⟩
    · rw [List.length_map]
      unfold nms
      rw [List.length_map, List.length_range]
      omega
    · rw [pm.length_eq]
      unfold nms
      rw [List.length_map, List.length_range]
    · have hs := pm.mem_iff.mp hs
      unfold nms at hs
      obtain ⟨i, _, rfl⟩ := List.mem_map.mp hs
      exact nmS_nm hw hl

/-! ### _law_some -/
abbrev P_law_some : List Str := ["_law_source_here", "_law_names_here"]
def N_law_some : List Str := ["_law_source_here", "_law_names_here", "_law_threshold", "_law_name"]
def d_law_some : DS := sSeq (sSet 2 (dCall sp_law_draw (aLen 2 (aCons (dVar 0) (aCons (dCon (.int 4)) (aNil)))))) (sRet (dBif .tuple (oE (dLc [3] [3] false (wE (dVar 1)) (kE (dCmp .gt (oE (dCall sp_law_draw (aLen 2 (aCons (dVar 0) (aCons (dCon (.int 4)) (aNil)))))) (oSlot 2))) (dVar 3)))))
def sp_law_some : FSpec := ⟨d_law_some.m, fun us P _ => ∃ ss : List Str, us = [.deck, .d (tupS ss)] ∧ ∀ ts : List Str, ts.Sublist ss → P (.d (tupS ts)) false⟩
theorem law_law_some : ∀ us P R, us.length = P_law_some.length → sp_law_some.f us P R → d_law_some.f (startE N_law_some us) (dk P R) := by
  rintro us P R - ⟨ss, rfl, q⟩
  refine ⟨rfl, 4, rfl, by decide, by decide, fun t t0 t1 => ⟨_, rfl, lcL_pre (fun pre acc ρ => acc.Sublist pre ∧ ∃ o, ρ = [some ⟨false, .deck⟩, some ⟨false, .d (tupS ss)⟩, some ⟨false, .d (.int t)⟩, o]) ⟨List.Sublist.refl _, _, rfl⟩ ?_ ?_⟩⟩
  · rintro pre x acc ρ k hx - ⟨hs, o, rfl⟩ h1 h2
    refine ⟨rfl, 4, rfl, by decide, by decide, fun d d0 d1 => ⟨_, rfl, _, _, rfl, rfl, cGt (fun _ => ⟨_, rfl, _, rfl, h1 _ _ ⟨hs.append (List.Sublist.refl _), _, rfl⟩⟩) fun _ => ⟨_, rfl, h2 _ ⟨hs.trans (List.sublist_append_left _ _), _, rfl⟩⟩⟩⟩
  · rintro acc ρ' ⟨hs, o, rfl⟩
    obtain ⟨ts, h1, rfl⟩ := sub_back hs
    exact ⟨_, rfl, q ts h1⟩

/-! ### _law_maximal -/
abbrev P_law_maximal : List Str := ["_law_groups"]
def N_law_maximal : List Str := ["_law_groups", "_law_distinct", "_law_found", "_law_group", "_law_far", "_law_name"]
def d_law_maximal : DS := sSeq (sSet 1 (dBif .sorted (oE (dUniq (oE (dLc [3] [3] false (wE (dVar 0)) (kTrue) (dTup (aCons (dVar 3) (aCons (dCon (.bool true)) (aNil)))))))))) (sSeq (sSet 2 (dLst (aNil))) (sSeq (sFor [3] false (wE (dVar 1)) (sIf (kE (dCmp .eq (oE (dLc [4] [4] false (wE (dVar 1)) (kAnd (kE (dCmp .ne (oSlot 4) (oSlot 3))) (kE (dCmp .eq (oE (dLc [5] [5] false (wE (dVar 3)) (kE (dCmp .notIn (oSlot 5) (oSlot 4))) (dVar 5))) (oE (dLst (aNil)))))) (dVar 4))) (oE (dLst (aNil))))) (sDrop (dMth .append (oSlot 2) (aCons (dVar 3) (aNil)))) (sSkip))) (sRet (dBif .tuple (oSlot 2)))))
def sp_law_maximal : FSpec := ⟨d_law_maximal.m, fun us P _ => ∃ gs : List (List Str), us = [.d (.list (gs.map tupS))] ∧ gs.length < 60 ∧ (∀ g ∈ gs, ∀ s ∈ g, Sht 8 s) ∧ ∀ ds, AscT ds → (∀ k, k ∈ ds ↔ k ∈ gs) → P (.d (.tuple ((ds.filter (maxB ds)).map tupS))) false⟩
theorem law_law_maximal : ∀ us P R, us.length = P_law_maximal.length → sp_law_maximal.f us P R → d_law_maximal.f (startE N_law_maximal us) (dk P R) := by
  have sz : sizeLine = 16777216 := sizeLine_eq
  rintro us P R - ⟨gs, rfl, hl, hg, q⟩
  obtain ⟨ks, k1, k2, k3, k4⟩ := uniqT_of gs [] List.nodup_nil
  rw [List.length_nil] at k3
  refine ⟨_, rfl, lcL_map (fun x => .tuple [x, .bool true]) (fun ρ => ∃ o, ρ = [some ⟨false, .d (.list (gs.map tupS))⟩, none, none, o, none, none]) ⟨_, rfl⟩ ?_ ?_⟩
  · rintro x hx ρ k ⟨o, rfl⟩ hk
    exact ⟨_, rfl, by show 2 ≤ sizeLine; omega, _, rfl, hk _ ⟨_, rfl⟩⟩
  rintro ρ' ⟨o, rfl⟩
  refine ⟨_, rfl, .inr ⟨ks, ?_, _, rfl, by rw [List.length_map]; omega, .inr (.inr ⟨ks, tupsD_of ks, fun ds pm pw => ?_⟩)⟩⟩
  · rw [← k1, List.map_map]; rfl
  have ad : AscT ds := ascT_of pw (pm.nodup_iff.mpr k2)
  have hm : ∀ k, k ∈ ds ↔ k ∈ gs := fun k => by rw [pm.mem_iff, k4 k]; simp
  have hd : ∀ g ∈ ds, ∀ s ∈ g, Sht 8 s := fun g h => hg g ((hm g).mp h)
  have dl : ds.length ≤ 60 := by rw [pm.length_eq]; omega
  have lm : (ds.map tupS).length ≤ 60 := by rw [List.length_map]; exact dl
  refine ⟨_, rfl, by show 0 ≤ sizeLine; omega, _, rfl, forL_pre (fun pre ρ => ∃ o3 o4 o5, ρ = [some ⟨false, .d (.list (gs.map tupS))⟩, some ⟨false, .d (.list (ds.map tupS))⟩, some ⟨true, .d (.list (pre.filter fun x => maxB ds (grp x)))⟩, o3, o4, o5]) ⟨_, _, _, rfl⟩ ?_ ?_⟩
  · rintro pre x ρ k hx lt ⟨o3, o4, o5, rfl⟩ hk
    obtain ⟨g, hgd, rfl⟩ := List.mem_map.mp hx
    refine ⟨_, rfl, lcL_pure (fun x => !(decide (grp x = g) || !subB g (grp x))) id (fun ρ => ∃ o4 o5, ρ = [some ⟨false, .d (.list (gs.map tupS))⟩, some ⟨false, .d (.list (ds.map tupS))⟩, some ⟨true, .d (.list (pre.filter fun x => maxB ds (grp x)))⟩, some ⟨false, .d (tupS g)⟩, o4, o5]) ⟨_, _, rfl⟩ ?_ ?_⟩
    · rintro y hy ρ k2 ⟨o4, o5, rfl⟩ hk2
      obtain ⟨f, hfd, rfl⟩ := List.mem_map.mp hy
      rw [grp_tup] at hk2
      have L1 := Lay.names (hd f hfd) (by omega)
      have L2 := Lay.names (hd g hgd) (by omega)
      refine ⟨_, rfl, _, rfl, _, _, rfl, rfl, .inl ⟨L1.sh (by omega), L2.sh (by omega)⟩, _, rfl, ?_⟩
      rw [eqv_tupS]
      refine tB (fun e => ?_) fun e => ?_
      · have e : f ≠ g := by simpa using e
        rw [decide_eq_false e, Bool.false_or, Bool.not_not] at hk2
        refine ⟨_, rfl, lcL_pure (fun x => !memD f x) id (fun ρ => ∃ o5, ρ = [some ⟨false, .d (.list (gs.map tupS))⟩, some ⟨false, .d (.list (ds.map tupS))⟩, some ⟨true, .d (.list (pre.filter fun x => maxB ds (grp x)))⟩, some ⟨false, .d (tupS g)⟩, some ⟨false, .d (tupS f)⟩, o5]) ⟨_, rfl⟩ ?_ ?_⟩
        · rintro z hz ρ k3 ⟨o5, rfl⟩ hk3
          obtain ⟨s, hs, rfl⟩ := List.mem_map.mp hz
          have hk3 := hk3 _ ⟨some ⟨false, .d (.str s)⟩, rfl⟩
          refine ⟨_, rfl, _, rfl, _, _, rfl, rfl, ((hd g hgd s hs).lay (by omega)).sh (by omega), L1.sh (by omega), _, rfl, ?_⟩
          rw [inD_str]
          refine tB (fun e => ?_) fun e => ?_
          · have e' : (!memD f (.str s)) = true := e
            rw [if_pos e'] at hk3
            exact ⟨_, rfl, hk3⟩
          · have e' : ¬ (!memD f (.str s)) = true := by rw [show (!memD f (.str s)) = false from e]; simp
            rw [if_neg e'] at hk3
            exact hk3
        · rintro ρ' ⟨o5, rfl⟩
          rw [List.nil_append, List.map_id, filt_map]
          refine ⟨_, rfl, by show 0 ≤ sizeLine; omega, _, _, rfl, rfl, cNil ?_⟩
          have e2 : ((g.filter fun s => !decide (s ∈ f)).map PyData.str).isEmpty = subB g f := by rw [List.isEmpty_map, filter_not_empty]; rfl
          rw [e2]
          refine ⟨_, rfl, ?_⟩
          have hk2 := fun o5 => hk2 [some ⟨false, .d (.list (gs.map tupS))⟩, some ⟨false, .d (.list (ds.map tupS))⟩, some ⟨true, .d (.list (pre.filter fun x => maxB ds (grp x)))⟩, some ⟨false, .d (tupS g)⟩, some ⟨false, .d (tupS f)⟩, o5] ⟨_, _, rfl⟩
          cases c : subB g f with
          | true => rw [c] at hk2; exact ⟨_, rfl, hk2 _⟩
          | false => rw [c] at hk2; exact hk2 _
      · have e : f = g := by simpa using e
        rw [decide_eq_true e, Bool.true_or] at hk2
        exact hk2 _ ⟨some ⟨false, .d (tupS f)⟩, o5, rfl⟩
    · rintro ρ' ⟨o4, o5, rfl⟩
      rw [List.nil_append, List.map_id]
      refine ⟨_, rfl, by show 0 ≤ sizeLine; omega, _, _, rfl, rfl, cNil ?_⟩
      have e2 : ((ds.map tupS).filter fun x => !(decide (grp x = g) || !subB g (grp x))).isEmpty = maxB ds g := by
        rw [filter_not_empty, List.all_map]
        unfold maxB
        congr 1
        funext f
        show (decide (grp (tupS f) = g) || !subB g (grp (tupS f))) = _
        rw [grp_tup]
      rw [e2]
      refine ⟨_, rfl, ?_⟩
      have hk := fun o4 o5 => hk [some ⟨false, .d (.list (gs.map tupS))⟩, some ⟨false, .d (.list (ds.map tupS))⟩, some ⟨true, .d (.list ((pre ++ [tupS g]).filter fun x => maxB ds (grp x)))⟩, some ⟨false, .d (tupS g)⟩, o4, o5] ⟨_, _, _, rfl⟩
      rw [List.filter_append] at hk
      cases c : maxB ds g with
      | true =>
        have e3 : [tupS g].filter (fun x => maxB ds (grp x)) = [tupS g] := by rw [List.filter_cons_of_pos (by rw [grp_tup]; exact c)]; rfl
        rw [e3] at hk
        refine ⟨_, rfl, ⟨_, rfl⟩, _, rfl, _, _, rfl, rfl, ?_, hk _ _⟩
        have := (List.filter_sublist (l := pre) (p := fun x => maxB ds (grp x))).length_le
        omega
      | false =>
        have e3 : [tupS g].filter (fun x => maxB ds (grp x)) = [] := by rw [List.filter_cons_of_neg (by rw [grp_tup, c]; simp)]; rfl
        rw [e3, List.append_nil] at hk
        exact hk _ _
  · rintro ρ' ⟨o3, o4, o5, rfl⟩
    refine ⟨_, rfl, _, rfl, ?_⟩
    have e : (ds.map tupS).filter (fun x => maxB ds (grp x)) = (ds.filter (maxB ds)).map tupS := by
      rw [List.filter_map]
      congr 1
      refine List.filter_congr fun f _ => ?_
      show maxB ds (grp (tupS f)) = _
      rw [grp_tup]
    rw [e]
    exact q ds ad hm

/-! ### _law_scheme -/
abbrev P_law_scheme : List Str := ["_law_source_here", "_law_most"]
def N_law_scheme : List Str := ["_law_source_here", "_law_most", "_law_left", "_law_servers", "_law_clients", "_law_observing", "_law_failing", "_law_prime", "_law_names_here", "_law_count", "_law_n"]
def d_law_scheme : DS := sSeq (sPar 8 9 (dCall sp_law_names (aLen 2 (aCons (dVar 0) (aCons (dCon (.int 12)) (aNil))))) (dBin .add (oE (dCon (.int 2))) (oE (dCall sp_law_draw (aLen 2 (aCons (dVar 0) (aCons (dBin .sub (oSlot 1) (oE (dCon (.int 1)))) (aNil)))))))) (sSeq (sSet 2 (dBif .list (oSlot 8))) (sSeq (sSet 3 (dBif .tuple (oE (dBif .sorted (oE (dLc [10] [10] false (wRng1 (dVar 9)) (kTrue) (dMth .popAt (oSlot 2) (aCons (dCall sp_law_draw (aLen 2 (aCons (dVar 0) (aCons (dBif .len (oSlot 2)) (aNil))))) (aNil))))))))) (sSeq (sSet 4 (dBif .tuple (oE (dBif .sorted (oE (dLc [10] [10] false (wRng1 (dBin .add (oE (dCon (.int 1))) (oE (dCall sp_law_draw (aLen 2 (aCons (dVar 0) (aCons (dCon (.int 4)) (aNil)))))))) (kTrue) (dMth .popAt (oSlot 2) (aCons (dCall sp_law_draw (aLen 2 (aCons (dVar 0) (aCons (dBif .len (oSlot 2)) (aNil))))) (aNil))))))))) (sSeq (sSet 5 (dCall sp_law_maximal (aLen 1 (aCons (dLc [10] [10] false (wRng1 (dBin .add (oE (dCon (.int 1))) (oE (dCall sp_law_draw (aLen 2 (aCons (dVar 0) (aCons (dCon (.int 6)) (aNil)))))))) (kTrue) (dCall sp_law_some (aLen 2 (aCons (dVar 0) (aCons (dVar 3) (aNil)))))) (aNil))))) (sSeq (sSet 6 (dLc [10] [10] false (wRng1 (dBin .add (oE (dCon (.int 1))) (oE (dCall sp_law_draw (aLen 2 (aCons (dVar 0) (aCons (dCon (.int 6)) (aNil)))))))) (kTrue) (dCall sp_law_some (aLen 2 (aCons (dVar 0) (aCons (dCall sp_law_pick (aLen 2 (aCons (dVar 0) (aCons (dVar 5) (aNil))))) (aNil))))))) (sSeq (sSet 7 (dCall sp_law_pick (aLen 2 (aCons (dVar 0) (aCons (dLst (aCons (dCon (.int 2)) (aCons (dCon (.int 3)) (aCons (dCon (.int 5)) (aCons (dCon (.int 7)) (aCons (dCon (.int 101)) (aCons (dCon (.int 997)) (aCons (dCon (.int 499)) (aCons (dCon (.int 11)) (aNil)))))))))) (aNil)))))) (sRet (dTup (aCons (dVar 7) (aCons (dVar 3) (aCons (dVar 4) (aCons (dVar 5) (aCons (dCall sp_law_maximal (aLen 1 (aCons (dVar 6) (aNil)))) (aNil))))))))))))))
def sp_law_scheme : FSpec := ⟨d_law_scheme.m, fun us P _ => ∃ m : Nat, us = [.deck, .d (.int m)] ∧ 2 ≤ m ∧ m ≤ 6 ∧ ∀ p sv cl ob ft, Drawn m p sv cl ob ft → P (.d (sch p sv cl ob ft)) false⟩
theorem law_law_scheme : ∀ us P R, us.length = P_law_scheme.length → sp_law_scheme.f us P R → d_law_scheme.f (startE N_law_scheme us) (dk P R) := by
  have sz : sizeLine = 16777216 := sizeLine_eq
  rintro us P R - ⟨m, rfl, hm0, hm, q⟩
  refine ⟨rfl, 12, rfl, Nat.le_refl _, fun ns n1 n2 n3 => ⟨_, rfl, _, _, rfl, rfl, rfl, _, rfl, by omega, by omega, fun c c0 c1 => ⟨_, _, rfl, rfl, ?_⟩⟩⟩
  have nnd := n1.nd
  refine ⟨_, rfl, _, rfl, ?_⟩
  have pop : ∀ {i : Nat} {ts rs xs : List Str} {d : Int}, xs.length ≤ 12 → (ts ++ rs).Perm xs → 0 ≤ d → d < (rs.length : Int) → ∃ j s, ixN (rs.map PyData.str).length d = some j ∧ (rs.map PyData.str)[j]? = some (.str s) ∧ (ts ++ [s] ++ rs.eraseIdx j).Perm xs := by
    intro i ts rs xs d _ hp d0 d1
    obtain ⟨j, rfl⟩ := Int.eq_ofNat_of_zero_le d0
    have hj : j < rs.length := by omega
    refine ⟨j, rs[j], ?_, by rw [List.getElem?_map, List.getElem?_eq_getElem hj]; rfl, ?_⟩
    · unfold ixN
      rw [if_pos d0, List.length_map, if_pos (by omega), Int.toNat_natCast]
    · rw [List.append_assoc]
      exact (((erase_perm (List.getElem?_eq_getElem hj)).append_left ts).symm).trans hp
  refine ⟨_, rfl, by omega, by omega, lcL_ix (fun i acc ρ => ∃ ts rs : List Str, acc = ts.map .str ∧ ts.length = i ∧ (ts ++ rs).Perm ns ∧ ∃ o, ρ = [some ⟨false, .deck⟩, some ⟨false, .d (.int m)⟩, some ⟨true, .d (.list (rs.map .str))⟩, none, none, none, none, none, some ⟨false, .d (.list (ns.map .str))⟩, some ⟨false, .d (.int (2 + c))⟩, o]) ⟨[], ns, rfl, rfl, List.Perm.refl _, _, rfl⟩ ?_ ?_⟩
  · rintro i x acc ρ k hx ⟨ts, rs, rfl, ht, hp, o, rfl⟩ h1 -
    obtain ⟨rfl, hi⟩ := range_at hx
    have hl := hp.length_eq
    rw [List.length_append] at hl
    refine ⟨_, rfl, ⟨_, rfl⟩, _, rfl, _, rfl, rfl, _, rfl, by rw [List.length_map]; omega, by rw [List.length_map]; omega, fun d d0 d1 => ?_⟩
    rw [List.length_map] at d1
    obtain ⟨j, s, j1, j2, j3⟩ := pop (i := i) (by omega) hp d0 d1
    refine ⟨_, rfl, _, _, j, _, rfl, rfl, by omega, by omega, j1, j2, _, rfl, ?_⟩
    rw [map_erase]
    exact h1 _ _ ⟨ts ++ [s], rs.eraseIdx j, by rw [List.map_append]; rfl, by rw [List.length_append, List.length_singleton, ht], j3, _, rfl⟩
  rintro acc ρ' ⟨ts, rs, rfl, ht, hp, o, rfl⟩
  rw [range_len] at ht
  have hl := hp.length_eq
  rw [List.length_append] at hl
  have tnd := hp.nodup_iff.mpr nnd
  have mem1 : ∀ s ∈ ts ++ rs, Nm s := fun s hs => n3 s (hp.mem_iff.mp hs)
  refine ⟨_, rfl, by rw [List.length_map]; omega, .inr (.inl ⟨ts, strsD_of ts, fun sv pm so => ⟨_, rfl, ?_⟩⟩)⟩
  have asv : Asc sv := asc_of so (pm.nodup_iff.mpr (List.nodup_append.mp tnd).1)
  refine ⟨rfl, 4, rfl, by decide, by decide, fun e e0 e1 => ⟨_, _, rfl, rfl, _, rfl, by omega, by omega, ?_⟩⟩
  refine lcL_ix (fun i acc ρ => ∃ t2 r2 : List Str, acc = t2.map .str ∧ t2.length = i ∧ (t2 ++ r2).Perm rs ∧ ∃ o, ρ = [some ⟨false, .deck⟩, some ⟨false, .d (.int m)⟩, some ⟨true, .d (.list (r2.map .str))⟩, some ⟨false, .d (tupS sv)⟩, none, none, none, none, some ⟨false, .d (.list (ns.map .str))⟩, some ⟨false, .d (.int (2 + c))⟩, o]) ⟨[], rs, rfl, rfl, List.Perm.refl _, _, rfl⟩ ?_ ?_
  · rintro i x acc ρ k hx ⟨t2, r2, rfl, ht2, hp2, o, rfl⟩ h1 -
    obtain ⟨rfl, hi⟩ := range_at hx
    have hl2 := hp2.length_eq
    rw [List.length_append] at hl2
    refine ⟨_, rfl, ⟨_, rfl⟩, _, rfl, _, rfl, rfl, _, rfl, by rw [List.length_map]; omega, by rw [List.length_map]; omega, fun d d0 d1 => ?_⟩
    rw [List.length_map] at d1
    obtain ⟨j, s, j1, j2, j3⟩ := pop (i := i) (by omega) hp2 d0 d1
    refine ⟨_, rfl, _, _, j, _, rfl, rfl, by omega, by omega, j1, j2, _, rfl, ?_⟩
    rw [map_erase]
    exact h1 _ _ ⟨t2 ++ [s], r2.eraseIdx j, by rw [List.map_append]; rfl, by rw [List.length_append, List.length_singleton, ht2], j3, _, rfl⟩
  rintro acc ρ' ⟨t2, r2, rfl, ht2, hp2, o, rfl⟩
  rw [range_len] at ht2
  have hl2 := hp2.length_eq
  rw [List.length_append] at hl2
  obtain ⟨u1, u2, u3⟩ := List.nodup_append.mp tnd
  have t2nd := hp2.nodup_iff.mpr u2
  refine ⟨_, rfl, by rw [List.length_map]; omega, .inr (.inl ⟨t2, strsD_of t2, fun cl pc so2 => ⟨_, rfl, ?_⟩⟩)⟩
  have acl : Asc cl := asc_of so2 (pc.nodup_iff.mpr (List.nodup_append.mp t2nd).1)
  have msv : ∀ s ∈ sv, Nm s := fun s hs => mem1 s (List.mem_append_left _ (pm.mem_iff.mp hs))
  have mcl : ∀ s ∈ cl, Nm s := fun s hs => mem1 s (List.mem_append_right _ (hp2.mem_iff.mp (List.mem_append_left _ (pc.mem_iff.mp hs))))
  have dis : ∀ s ∈ sv, s ∉ cl := fun s h1 h2 => u3 s (pm.mem_iff.mp h1) s (hp2.mem_iff.mp (List.mem_append_left _ (pc.mem_iff.mp h2))) rfl
  have s8 : ∀ {g : List Str}, g.Sublist sv → ∀ s ∈ g, Sht 8 s := fun h s hs => (msv s (h.subset hs)).sht.mono (by omega)
  refine ⟨rfl, 6, rfl, by decide, by decide, fun f f0 f1 => ⟨_, _, rfl, rfl, _, rfl, by omega, by omega, ?_⟩⟩
  refine lcL_ix (fun i acc ρ => ∃ gs : List (List Str), acc = gs.map tupS ∧ gs.length = i ∧ (∀ g ∈ gs, g.Sublist sv) ∧ ∃ o, ρ = [some ⟨false, .deck⟩, some ⟨false, .d (.int m)⟩, some ⟨true, .d (.list (r2.map .str))⟩, some ⟨false, .d (tupS sv)⟩, some ⟨false, .d (tupS cl)⟩, none, none, none, some ⟨false, .d (.list (ns.map .str))⟩, some ⟨false, .d (.int (2 + c))⟩, o]) ⟨[], rfl, rfl, (fun _ h => nomatch h), _, rfl⟩ ?_ ?_
  · rintro i x acc ρ k hx ⟨gs, rfl, hg, hs, o, rfl⟩ h1 -
    refine ⟨rfl, sv, rfl, fun ts h => ⟨_, rfl, h1 _ _ ⟨gs ++ [ts], by rw [List.map_append]; rfl, by rw [List.length_append, List.length_singleton, hg], fun g hg => ?_, _, rfl⟩⟩⟩
    rcases List.mem_append.mp hg with hg | hg
    · exact hs g hg
    · rw [List.mem_singleton.mp hg]; exact h
  rintro acc ρ' ⟨gs, rfl, hg, hs, o, rfl⟩
  rw [range_len] at hg
  refine ⟨rfl, gs, rfl, by omega, fun g h => s8 (hs g h), fun ds a1 a2 => ?_⟩
  have so : Sets sv 6 (ds.filter (maxB ds)) := sets_of asv.nd a1 a2 hs (fun z => by rw [z, List.length_nil] at hg; omega) (by omega)
  generalize ds.filter (maxB ds) = ob at so
  refine ⟨rfl, 6, rfl, by decide, by decide, fun h h0 h1 => ⟨_, _, rfl, rfl, _, rfl, by omega, by omega, ?_⟩⟩
  have ol : 0 < ob.length := List.length_pos_iff.mpr so.ne
  have ol6 := so.len
  refine lcL_ix (fun i acc ρ => ∃ gs : List (List Str), acc = gs.map tupS ∧ gs.length = i ∧ (∀ g ∈ gs, ∃ o ∈ ob, g.Sublist o) ∧ ∃ o, ρ = [some ⟨false, .deck⟩, some ⟨false, .d (.int m)⟩, some ⟨true, .d (.list (r2.map .str))⟩, some ⟨false, .d (tupS sv)⟩, some ⟨false, .d (tupS cl)⟩, some ⟨false, .d (.tuple (ob.map tupS))⟩, none, none, some ⟨false, .d (.list (ns.map .str))⟩, some ⟨false, .d (.int (2 + c))⟩, o]) ⟨[], rfl, rfl, (fun _ h => nomatch h), _, rfl⟩ ?_ ?_
  · rintro i x acc ρ k hx ⟨gs, rfl, hg, hs, o, rfl⟩ k1 -
    refine ⟨rfl, .inr ⟨_, .inr rfl, by rw [List.length_map]; exact ol, by rw [List.length_map]; omega, fun y hy => ?_⟩⟩
    obtain ⟨w, hw, rfl⟩ := List.mem_map.mp hy
    refine ⟨rfl, w, rfl, fun ts h => ⟨_, rfl, k1 _ _ ⟨gs ++ [ts], by rw [List.map_append]; rfl, by rw [List.length_append, List.length_singleton, hg], fun g hg => ?_, _, rfl⟩⟩⟩
    rcases List.mem_append.mp hg with hg | hg
    · exact hs g hg
    · rw [List.mem_singleton.mp hg]; exact ⟨w, hw, h⟩
  rintro acc ρ' ⟨g2, rfl, hg2, hs2, o, rfl⟩
  rw [range_len] at hg2
  refine ⟨_, rfl, by show 8 ≤ sizeLine; omega, rfl, .inr ⟨_, .inl rfl, by decide, by rw [sz]; decide, fun y hy => ?_⟩⟩
  obtain ⟨p, hp, rfl⟩ : ∃ p : Int, p ∈ ([2, 3, 5, 7, 101, 997, 499, 11] : List Int) ∧ y = .int p := by
    have e : ([.int 2, .int 3, .int 5, .int 7, .int 101, .int 997, .int 499, .int 11] : List PyData) = ([2, 3, 5, 7, 101, 997, 499, 11] : List Int).map .int := rfl
    have hy : y ∈ ([2, 3, 5, 7, 101, 997, 499, 11] : List Int).map PyData.int := hy
    obtain ⟨p, hp, rfl⟩ := List.mem_map.mp hy
    exact ⟨p, hp, rfl⟩
  have sub2 : ∀ g ∈ g2, g.Sublist sv := fun g hg => by
    obtain ⟨w, hw, h⟩ := hs2 g hg
    exact h.trans (so.sub w hw)
  refine ⟨rfl, g2, rfl, by omega, fun g h => s8 (sub2 g h), fun ds2 b1 b2 => ⟨_, rfl, by show 5 ≤ sizeLine; omega, q p sv cl ob (ds2.filter (maxB ds2)) ⟨hp, asv, acl, msv, mcl, ?_, ?_, dis, so, sets_of asv.nd b1 b2 sub2 (fun z => by rw [z, List.length_nil] at hg2; omega) (by omega), fun g hg => hs2 g ((b2 g).mp (List.mem_filter.mp hg).1)⟩⟩⟩
  · rw [pm.length_eq, ht]
    omega
  · rw [pc.length_eq, ht2]
    omega

/-! ### _law_is_name -/
abbrev P_law_is_name : List Str := ["_law_it"]
def N_law_is_name : List Str := ["_law_it", "_law_sign"]
def d_law_is_name : DS := sRet (dAnd (dIsi (oSlot 0) .str) (dAnd (dCmp2 .lt .lt (oE (dCon (.int 0))) (oE (dBif .len (oSlot 0))) (oE (dCon (.int 7)))) (dCmp .eq (oE (dLc [1] [1] false (wE (dVar 0)) (kNot (kE (dCmp2 .le .le (oE (dCon (.str "a"))) (oSlot 1) (oE (dCon (.str "z")))))) (dVar 1))) (oE (dLst (aNil))))))
theorem cLeA {c : Nat} {Q : Bool → Prop} (h : 97 ≤ c → Q true) (h' : c < 97 → Q false) : cmS .le (.str "a") (.str ⟨#[c]⟩) Q := by
  show Q (!decide ((#[c] : Array Nat).toList < ("a" : Str).cps.toList))
  have e : ("a" : Str).cps.toList = [97] := by decide +kernel
  rw [e]
  by_cases z : c < 97
  · rw [decide_eq_true (by simp [List.cons_lt_cons_iff]; exact z)]; exact h' z
  · rw [decide_eq_false (by simp [List.cons_lt_cons_iff]; omega)]; exact h (by omega)
theorem cLeZ {c : Nat} {Q : Bool → Prop} (h : c ≤ 122 → Q true) (h' : 122 < c → Q false) : cmS .le (.str ⟨#[c]⟩) (.str "z") Q := by
  show Q (!decide (("z" : Str).cps.toList < (#[c] : Array Nat).toList))
  have e : ("z" : Str).cps.toList = [122] := by decide +kernel
  rw [e]
  by_cases z : 122 < c
  · rw [decide_eq_true (by simp [List.cons_lt_cons_iff]; exact z)]; exact h' z
  · rw [decide_eq_false (by simp [List.cons_lt_cons_iff]; omega)]; exact h (by omega)
def sgnB : PyData → Bool
  | .str c => c.cps.toList.all letB
  | _ => false
theorem sgnB_sgn (c : Nat) : sgnB (sgn c) = letB c := by simp [sgnB, sgn]
def sp_law_is_name : FSpec := ⟨d_law_is_name.m, fun us P _ => ∃ x, us = [.d x] ∧ StrOk x ∧ P (.d (.bool (nameB x))) false⟩
theorem law_law_is_name : ∀ us P R, us.length = P_law_is_name.length → sp_law_is_name.f us P R → d_law_is_name.f (startE N_law_is_name us) (dk P R) := by
  have sz : sizeLine = 16777216 := sizeLine_eq
  rintro us P R - ⟨x, rfl, hx, q⟩
  cases x with
  | str s =>
    have hl := hx s rfl
    refine ⟨_, rfl, _, rfl, _, rfl, _, rfl, _, rfl, hl, _, _, rfl, rfl, cLt (fun h1 => ⟨_, _, rfl, rfl, cLt (fun h2 => ⟨_, rfl, ?_⟩) fun h2 => ⟨_, rfl, ?_⟩⟩) fun h1 => ⟨_, rfl, ?_⟩⟩
    · rw [nameB_str (by omega) (by omega)] at q
      refine ⟨_, rfl, hl, lcL_pure (fun x => !sgnB x) id (fun ρ => ∃ o, ρ = [some ⟨false, .d (.str s)⟩, o]) ⟨_, rfl⟩ ?_ ?_⟩
      · rintro x hx' ρ k ⟨o, rfl⟩ hk
        obtain ⟨c, hc, rfl⟩ := List.mem_map.mp hx'
        rw [sgnB_sgn] at hk
        have hk := hk _ ⟨some ⟨false, .d (sgn c)⟩, rfl⟩
        refine ⟨_, rfl, _, _, rfl, rfl, cLeA (fun h2 => ⟨_, _, rfl, rfl, cLeZ (fun h3 => ⟨_, rfl, ?_⟩) fun h3 => ⟨_, rfl, _, rfl, ?_⟩⟩) fun h2 => ⟨_, rfl, _, rfl, ?_⟩⟩
        · have e : letB c = true := by unfold letB; rw [decide_eq_true h2, decide_eq_true h3]; rfl
          rw [e] at hk
          exact hk
        · have e : letB c = false := by unfold letB; rw [decide_eq_false (show ¬ c ≤ 122 by omega), Bool.and_false]
          rw [e] at hk
          exact hk
        · have e : letB c = false := by unfold letB; rw [decide_eq_false (show ¬ 97 ≤ c by omega), Bool.false_and]
          rw [e] at hk
          exact hk
      · rintro ρ' ⟨o, rfl⟩
        refine ⟨_, rfl, by show 0 ≤ sizeLine; omega, _, _, rfl, rfl, cNil ?_⟩
        have e : ([] ++ (((s.cps.toList.map sgn).filter fun x => !sgnB x).map id)).isEmpty = s.cps.toList.all letB := by
          rw [List.nil_append, List.map_id, filter_not_empty, List.all_map]
          congr 1
          funext c
          exact sgnB_sgn c
        rw [e]
        exact q
    · rw [nameB_no (by omega)] at q; exact q
    · rw [nameB_no (by omega)] at q; exact q
  | _ => exact ⟨_, rfl, _, rfl, _, rfl, q⟩

/-! ### _law_is_set -/
abbrev P_law_is_set : List Str := ["_law_it"]
def N_law_is_set : List Str := ["_law_it", "_law_n", "_law_name"]
def d_law_is_set : DS := sSeq (sIf (kOr (kNot (kE (dIsi (oSlot 0) .tuple))) (kE (dCmp .ne (oE (dLc [2] [2] false (wE (dVar 0)) (kNot (kE (dCall sp_law_is_name (aLen 1 (aCons (dVar 2) (aNil)))))) (dVar 2))) (oE (dLst (aNil)))))) (sRet (dCon (.bool false))) (sSkip)) (sRet (dCmp .eq (oE (dLc [1] [1] false (wRng2 (dCon (.int 1)) (dBif .len (oSlot 0))) (kE (dCmp .le (oE (dIdx (oSlot 0) (oSlot 1))) (oE (dIdx (oSlot 0) (oE (dBin .sub (oSlot 1) (oE (dCon (.int 1))))))))) (dVar 1))) (oE (dLst (aNil)))))
def dropB (ss : List Str) : PyData → Bool
  | .int i => !ltS (ss.getD (i - 1).toNat "") (ss.getD i.toNat "")
  | _ => false
theorem drop_gen (f : Nat → Bool) (n : Nat) : (∀ k, k + 1 < n → f k = true) ↔ ((rangeD 1 (n : Int)).filter fun x => match x with | .int i => !f (i - 1).toNat | _ => false).isEmpty = true := by
  rw [List.isEmpty_iff, List.filter_eq_nil_iff]
  unfold rangeD
  constructor
  · intro h x hx
    obtain ⟨k, hk, rfl⟩ := List.mem_map.mp hx
    have hk := List.mem_range.mp hk
    have := h k (by omega)
    have e1 : (1 + (k : Int) - 1).toNat = k := by omega
    simp only [e1, this, Bool.not_true, Bool.false_eq_true, not_false_eq_true]
  · intro h k hk
    have := h (.int (1 + (k : Int))) (List.mem_map.mpr ⟨k, List.mem_range.mpr (by omega), rfl⟩)
    have e1 : (1 + (k : Int) - 1).toNat = k := by omega
    simpa only [e1, Bool.not_eq_true', Bool.not_eq_false] using this
theorem dropB_asc (ss : List Str) : ((rangeD 1 (ss.length : Int)).filter (dropB ss)).isEmpty = ascB ss := by
  rw [Bool.eq_iff_iff, ascB_iff]
  rw [drop_gen (fun k => ltS (ss.getD k "") (ss.getD (k + 1) "")) ss.length]
  have e : (rangeD 1 (ss.length : Int)).filter (dropB ss) = (rangeD 1 (ss.length : Int)).filter fun x => match x with | .int i => !(fun k => ltS (ss.getD k "") (ss.getD (k + 1) "")) (i - 1).toNat | _ => false := by
    refine List.filter_congr fun x hx => ?_
    obtain ⟨i, rfl, h1, h2⟩ := mem_range hx
    show (!ltS (ss.getD (i - 1).toNat "") (ss.getD i.toNat "")) = !ltS (ss.getD (i - 1).toNat "") (ss.getD ((i - 1).toNat + 1) "")
    have : i.toNat = (i - 1).toNat + 1 := by omega
    rw [this]
  rw [e]
theorem strs_get {ss : List Str} {k : Nat} (h : k < ss.length) : atI (ss.map PyData.str) (k : Int) = some (.str (ss.getD k "")) := by
  refine atI_nat ?_
  rw [List.getElem?_map, List.getElem?_eq_getElem h, List.getD_eq_getElem?_getD, List.getElem?_eq_getElem h]
  rfl
def sp_law_is_set : FSpec := ⟨d_law_is_set.m, fun us P _ => ∃ x, us = [.d x] ∧ (∀ xs, x = .tuple xs → xs.length ≤ 1000000) ∧ ItemsOk x ∧ P (.d (.bool (setB x))) false⟩
theorem law_law_is_set : ∀ us P R, us.length = P_law_is_set.length → sp_law_is_set.f us P R → d_law_is_set.f (startE N_law_is_set us) (dk P R) := by
  have sz : sizeLine = 16777216 := sizeLine_eq
  rintro us P R - ⟨x, rfl, hn, hx, q⟩
  cases x with
  | tuple xs =>
    have hn := hn xs rfl
    refine ⟨_, rfl, _, rfl, _, rfl, _, rfl, lcL_pure (fun x => !nameB x) id (fun ρ => ∃ o o', ρ = [some ⟨false, .d (.tuple xs)⟩, o, o']) ⟨_, _, rfl⟩ ?_ ?_⟩
    · rintro x hx' ρ k ⟨o, o', rfl⟩ hk
      have hk := hk _ ⟨o, some ⟨false, .d x⟩, rfl⟩
      refine ⟨rfl, x, rfl, hx xs rfl x hx', _, rfl, ?_⟩
      cases hb : nameB x with
      | true => rw [hb] at hk; exact hk
      | false => rw [hb] at hk; exact ⟨_, rfl, hk⟩
    · rintro ρ' ⟨o, o', rfl⟩
      refine ⟨_, rfl, by show 0 ≤ sizeLine; omega, _, _, rfl, rfl, cNilN ?_⟩
      have e : ([] ++ ((xs.filter fun x => !nameB x).map id)).isEmpty = xs.all nameB := by
        rw [List.nil_append, List.map_id, filter_not_empty]
      rw [e]
      refine ⟨_, rfl, ?_⟩
      cases hb : xs.all nameB with
      | false =>
        have : setB (.tuple xs) = false := by simp only [setB, hb, Bool.false_and]
        rw [this] at q
        exact q
      | true =>
        have e1 : setB (.tuple xs) = ascB (strsOf xs) := by simp only [setB, hb, Bool.true_and]
        rw [e1] at q
        have ex := names_strs hb
        generalize strsOf xs = ss at ex q
        subst ex
        rw [List.length_map] at hn
        refine ⟨_, rfl, _, rfl, _, _, rfl, rfl, ⟨by omega, by omega⟩, ⟨by omega, by rw [List.length_map]; omega⟩, lcL_pure (dropB ss) id (fun ρ => ∃ o o', ρ = [some ⟨false, .d (.tuple (ss.map .str))⟩, o, o']) ⟨_, _, rfl⟩ ?_ ?_⟩
        · rintro x hx' ρ k ⟨o, o', rfl⟩ hk
          obtain ⟨j, hj, rfl⟩ := List.mem_map.mp hx'
          have hj := List.mem_range.mp hj
          rw [List.length_map] at hj
          have hk := hk _ ⟨some ⟨false, .d (.int (1 + (j : Int)))⟩, o', rfl⟩
          have e2 : (1 + (j : Int)) = ((j + 1 : Nat) : Int) := by omega
          have e3 : (1 + (j : Int)) - 1 = (j : Int) := by omega
          refine ⟨_, rfl, _, rfl, _, _, rfl, rfl, .str (ss.getD (j + 1) ""), by rw [e2]; exact strs_get (by omega), _, rfl, _, rfl, _, _, rfl, rfl, _, _, rfl, rfl, .str (ss.getD j ""), by rw [e3]; exact strs_get (by omega), _, _, rfl, rfl, _, rfl, ?_⟩
          have e4 : dropB ss (.int (1 + (j : Int))) = !ltS (ss.getD j "") (ss.getD (j + 1) "") := by
            simp only [dropB]
            rw [e3, show (1 + (j : Int)).toNat = j + 1 by omega, show ((j : Int)).toNat = j by omega]
          rw [e4] at hk
          show (if (!ltS (ss.getD j "") (ss.getD (j + 1) "")) = true then _ else _)
          cases hb2 : ltS (ss.getD j "") (ss.getD (j + 1) "") with
          | true => rw [hb2] at hk; exact hk
          | false => rw [hb2] at hk; exact ⟨_, rfl, hk⟩
        · rintro ρ' ⟨o, o', rfl⟩
          refine ⟨_, rfl, by show 0 ≤ sizeLine; omega, _, _, rfl, rfl, cNil ?_⟩
          rw [List.nil_append, List.map_id, List.length_map, dropB_asc]
          exact q
  | _ => exact ⟨_, rfl, _, rfl, _, rfl, q⟩

/-! ### _law_is_inside -/
abbrev P_law_is_inside : List Str := ["_law_group", "_law_far"]
def N_law_is_inside : List Str := ["_law_group", "_law_far", "_law_name"]
def d_law_is_inside : DS := sRet (dCmp .eq (oE (dLc [2] [2] false (wE (dVar 0)) (kE (dCmp .notIn (oSlot 2) (oSlot 1))) (dVar 2))) (oE (dLst (aNil))))
def sp_law_is_inside : FSpec := ⟨d_law_is_inside.m, fun us P _ => ∃ a b : List Str, us = [.d (tupS a), .d (tupS b)] ∧ (∀ s ∈ a, Sht 8 s) ∧ (∀ s ∈ b, Sht 8 s) ∧ P (.d (.bool (subB a b))) false⟩
theorem law_law_is_inside : ∀ us P R, us.length = P_law_is_inside.length → sp_law_is_inside.f us P R → d_law_is_inside.f (startE N_law_is_inside us) (dk P R) := by
  have sz : sizeLine = 16777216 := sizeLine_eq
  rintro us P R - ⟨a, b, rfl, ha, hb, q⟩
  refine ⟨_, rfl, lcL_pure (fun x => !memD b x) id (fun ρ => ∃ o, ρ = [some ⟨false, .d (tupS a)⟩, some ⟨false, .d (tupS b)⟩, o]) ⟨_, rfl⟩ ?_ ?_⟩
  · rintro z hz ρ k ⟨o, rfl⟩ hk
    obtain ⟨s, hs, rfl⟩ := List.mem_map.mp hz
    have hk := hk _ ⟨some ⟨false, .d (.str s)⟩, rfl⟩
    refine ⟨_, rfl, _, rfl, _, _, rfl, rfl, ((ha s hs).lay (by omega)).sh (by omega), (Lay.names hb (by omega)).sh (by omega), _, rfl, ?_⟩
    rw [inD_str]
    refine tB (fun e => ?_) fun e => ?_
    · have e' : (!memD b (.str s)) = true := e
      rw [if_pos e'] at hk
      exact ⟨_, rfl, hk⟩
    · have e' : ¬ (!memD b (.str s)) = true := by rw [show (!memD b (.str s)) = false from e]; simp
      rw [if_neg e'] at hk
      exact hk
  · rintro ρ' ⟨o, rfl⟩
    rw [List.nil_append, List.map_id, filt_map]
    refine ⟨_, rfl, by show 0 ≤ sizeLine; omega, _, _, rfl, rfl, cNil ?_⟩
    have e2 : ((a.filter fun s => !decide (s ∈ b)).map PyData.str).isEmpty = subB a b := by rw [List.isEmpty_map, filter_not_empty]; rfl
    rw [e2]
    exact q

/-! ### _law_are_sets -/
abbrev P_law_are_sets : List Str := ["_law_servers", "_law_it"]
def N_law_are_sets : List Str := ["_law_servers", "_law_it", "_law_n", "_law_group", "_law_far"]
def d_law_are_sets : DS := sSeq (sIf (kOr (kNot (kE (dIsi (oSlot 1) .tuple))) (kOr (kE (dEq0 (oSlot 1))) (kE (dCmp .ne (oE (dLc [3] [3] false (wE (dVar 1)) (kNot (kE (dCall sp_law_is_set (aLen 1 (aCons (dVar 3) (aNil)))))) (dVar 3))) (oE (dLst (aNil))))))) (sRet (dCon (.bool false))) (sSkip)) (sSeq (sIf (kE (dCmp .ne (oE (dLc [2] [2] false (wRng2 (dCon (.int 1)) (dBif .len (oSlot 1))) (kE (dCmp .le (oE (dIdx (oSlot 1) (oSlot 2))) (oE (dIdx (oSlot 1) (oE (dBin .sub (oSlot 2) (oE (dCon (.int 1))))))))) (dVar 2))) (oE (dLst (aNil))))) (sRet (dCon (.bool false))) (sSkip)) (sSeq (sIf (kE (dCmp .ne (oE (dLc [3] [3] false (wE (dVar 1)) (kNot (kE (dCall sp_law_is_inside (aLen 2 (aCons (dVar 3) (aCons (dVar 0) (aNil))))))) (dVar 3))) (oE (dLst (aNil))))) (sRet (dCon (.bool false))) (sSkip)) (sSeq (sFor [2, 3] true (wEnum (dVar 1)) (sIf (kE (dCmp .ne (oE (dLc [4] [4] false (wE (dBin .add (oE (dSli (oSlot 1) (pNo) (pE (dVar 2)))) (oE (dSli (oSlot 1) (pE (dBin .add (oSlot 2) (oE (dCon (.int 1))))) (pNo))))) (kE (dCall sp_law_is_inside (aLen 2 (aCons (dVar 3) (aCons (dVar 4) (aNil)))))) (dVar 4))) (oE (dLst (aNil))))) (sRet (dCon (.bool false))) (sSkip))) (sRet (dCon (.bool true))))))
def dropT (ss : List (List Str)) : PyData → Bool
  | .int i => leSS (ss.getD i.toNat []) (ss.getD (i - 1).toNat [])
  | _ => false
theorem dropT_asc (ss : List (List Str)) : ((rangeD 1 (ss.length : Int)).filter (dropT ss)).isEmpty = ascTB ss := by
  rw [Bool.eq_iff_iff, ascTB_iff]
  rw [drop_gen (fun k => ltSS (ss.getD k []) (ss.getD (k + 1) [])) ss.length]
  have e : (rangeD 1 (ss.length : Int)).filter (dropT ss) = (rangeD 1 (ss.length : Int)).filter fun x => match x with | .int i => !(fun k => ltSS (ss.getD k []) (ss.getD (k + 1) [])) (i - 1).toNat | _ => false := by
    refine List.filter_congr fun x hx => ?_
    obtain ⟨i, rfl, h1, h2⟩ := mem_range hx
    show leSS (ss.getD i.toNat []) (ss.getD (i - 1).toNat []) = !ltSS (ss.getD (i - 1).toNat []) (ss.getD ((i - 1).toNat + 1) [])
    have : i.toNat = (i - 1).toNat + 1 := by omega
    rw [this, leSS_not]
  rw [e]
theorem tups_get {ss : List (List Str)} {k : Nat} (h : k < ss.length) : atI (ss.map tupS) (k : Int) = some (tupS (ss.getD k [])) := by
  refine atI_nat ?_
  rw [List.getElem?_map, List.getElem?_eq_getElem h, List.getD_eq_getElem?_getD, List.getElem?_eq_getElem h]
  rfl
def sp_law_are_sets : FSpec := ⟨d_law_are_sets.m, fun us P _ => ∃ (sv : List Str) (x : PyData) (ks : List Str) (d w : Nat), us = [.d (tupS sv), .d x] ∧ (∀ s ∈ sv, Sht 8 s) ∧ Fit ks x d w ∧ d ≤ 60 ∧ w ≤ 4096 ∧ P (.d (.bool (setsB sv x))) false⟩
theorem law_law_are_sets : ∀ us P R, us.length = P_law_are_sets.length → sp_law_are_sets.f us P R → d_law_are_sets.f (startE N_law_are_sets us) (dk P R) := by
  have sz : sizeLine = 16777216 := sizeLine_eq
  rintro us P R - ⟨sv, x, ks, d, w, rfl, h8, fit, hd, hw, q⟩
  cases x with
  | tuple xs =>
    refine ⟨_, rfl, _, rfl, _, rfl, _, rfl, _, rfl, ?_⟩
    cases he : xs.isEmpty with
    | true =>
      have z : setsB sv (.tuple xs) = false := by simp only [setsB, he, Bool.not_true, Bool.false_and]
      rw [z] at q
      exact ⟨_, rfl, q⟩
    | false =>
      refine ⟨_, rfl, _, rfl, lcL_pure (fun x => !setB x) id (fun ρ => ∃ o, ρ = [some ⟨false, .d (tupS sv)⟩, some ⟨false, .d (.tuple xs)⟩, none, o, none]) ⟨_, rfl⟩ ?_ ?_⟩
      · rintro y hy ρ k ⟨o, rfl⟩ hk2
        have hk2 := hk2 _ ⟨some ⟨false, .d y⟩, rfl⟩
        refine ⟨rfl, y, rfl, ?_, (fit.items hy).itemsOk (by omega), _, rfl, ?_⟩
        · rintro ys rfl
          have := (fit.items hy).len
          omega
        · cases hb : setB y with
          | true => rw [hb] at hk2; exact hk2
          | false => rw [hb] at hk2; exact ⟨_, rfl, hk2⟩
      rintro ρ' ⟨o, rfl⟩
      refine ⟨_, rfl, by show 0 ≤ sizeLine; omega, _, _, rfl, rfl, cNilN ?_⟩
      have ea : ([] ++ ((xs.filter fun x => !setB x).map id)).isEmpty = xs.all setB := by rw [List.nil_append, List.map_id, filter_not_empty]
      rw [ea]
      refine ⟨_, rfl, ?_⟩
      cases ha : xs.all setB with
      | false =>
        have z : setsB sv (.tuple xs) = false := by simp only [setsB, ha, Bool.false_and, Bool.and_false]
        rw [z] at q
        exact q
      | true =>
      have e := sets_tups ha
      have e1 : setsB sv (.tuple xs) = (ascTB (xs.map grp) && (antiB (xs.map grp) && (xs.map grp).all fun g => subB g sv)) := by simp only [setsB, he, ha, Bool.not_false, Bool.true_and]
      rw [e1] at q
      have lx := fit.len
      have ks1 : ∀ g ∈ xs.map grp, ∀ s ∈ g, Sht 8 s := fun g hg => by
        obtain ⟨y, hy, rfl⟩ := List.mem_map.mp hg
        obtain ⟨ss, rfl, n1, _⟩ := setB_of (List.all_eq_true.mp ha y hy)
        rw [grp_tup]
        exact fun s h => (n1 s h).sht.mono (by omega)
      have lk : (xs.map grp).length ≤ 4096 := by rw [List.length_map]; omega
      generalize xs.map grp = kss at e ks1 q lk
      subst e
      clear fit he ha e1 ea lx
      refine ⟨_, rfl, _, rfl, _, _, rfl, rfl, ⟨by omega, by omega⟩, ⟨by omega, by rw [List.length_map]; omega⟩, lcL_pure (dropT kss) id (fun ρ => ∃ o2 o3, ρ = [some ⟨false, .d (tupS sv)⟩, some ⟨false, .d (.tuple (kss.map tupS))⟩, o2, o3, none]) ⟨_, _, rfl⟩ ?_ ?_⟩
      · rintro x hx' ρ k ⟨o2, o3, rfl⟩ hk
        obtain ⟨j, hj, rfl⟩ := List.mem_map.mp hx'
        have hj := List.mem_range.mp hj
        rw [List.length_map] at hj
        have hk := hk _ ⟨some ⟨false, .d (.int (1 + (j : Int)))⟩, o3, rfl⟩
        have e2 : (1 + (j : Int)) = ((j + 1 : Nat) : Int) := by omega
        have e3 : (1 + (j : Int)) - 1 = (j : Int) := by omega
        refine ⟨_, rfl, _, rfl, _, _, rfl, rfl, tupS (kss.getD (j + 1) []), by rw [e2]; exact tups_get (by omega), _, rfl, _, rfl, _, _, rfl, rfl, _, _, rfl, rfl, tupS (kss.getD j []), by rw [e3]; exact tups_get (by omega), _, _, rfl, rfl, _, _, strsD_of _, strsD_of _, _, rfl, ?_⟩
        have e4 : dropT kss (.int (1 + (j : Int))) = leSS (kss.getD (j + 1) []) (kss.getD j []) := by
          simp only [dropT]
          rw [e3, show (1 + (j : Int)).toNat = j + 1 by omega, show ((j : Int)).toNat = j by omega]
        rw [e4] at hk
        refine tB (fun e => ?_) fun e => ?_
        · rw [if_pos e] at hk; exact ⟨_, rfl, hk⟩
        · rw [if_neg (by rw [e]; simp)] at hk; exact hk
      rintro ρ' ⟨o2, o3, rfl⟩
      refine ⟨_, rfl, by show 0 ≤ sizeLine; omega, _, _, rfl, rfl, cNilN ?_⟩
      rw [List.nil_append, List.map_id, List.length_map, dropT_asc]
      refine ⟨_, rfl, ?_⟩
      cases h1 : ascTB kss with
      | false => rw [h1, Bool.false_and] at q; exact q
      | true =>
      rw [h1, Bool.true_and] at q
      have nd := (of_ascTB h1).nd
      refine ⟨_, rfl, lcL_pure (fun x => !subB (grp x) sv) id (fun ρ => ∃ o2 o3 o4, ρ = [some ⟨false, .d (tupS sv)⟩, some ⟨false, .d (.tuple (kss.map tupS))⟩, o2, o3, o4]) ⟨_, _, _, rfl⟩ ?_ ?_⟩
      · rintro x hx' ρ k ⟨o2, o3, o4, rfl⟩ hk
        obtain ⟨g, hg, rfl⟩ := List.mem_map.mp hx'
        have hk := hk _ ⟨o2, some ⟨false, .d (tupS g)⟩, o4, rfl⟩
        rw [grp_tup] at hk
        refine ⟨rfl, g, sv, rfl, ks1 g hg, h8, _, rfl, ?_⟩
        cases hb : subB g sv with
        | true => rw [hb] at hk; exact hk
        | false => rw [hb] at hk; exact ⟨_, rfl, hk⟩
      rintro ρ' ⟨o2, o3, o4, rfl⟩
      refine ⟨_, rfl, by show 0 ≤ sizeLine; omega, _, _, rfl, rfl, cNilN ?_⟩
      have eb : ([] ++ (((kss.map tupS).filter fun x => !subB (grp x) sv).map id)).isEmpty = kss.all fun g => subB g sv := by
        rw [List.nil_append, List.map_id, filter_not_empty, List.all_map]
        congr 1
        funext g
        show subB (grp (tupS g)) sv = _
        rw [grp_tup]
      rw [eb]
      refine ⟨_, rfl, ?_⟩
      cases h2 : kss.all fun g => subB g sv with
      | false => rw [h2, Bool.and_false] at q; exact q
      | true =>
      rw [h2, Bool.and_true] at q
      refine ⟨_, .inl rfl, forL_ix (fun i ρ => (∀ j g, j < i → kss[j]? = some g → ∀ f ∈ kss, f ≠ g → subB g f = false) ∧ ∃ o2 o3 o4, ρ = [some ⟨false, .d (tupS sv)⟩, some ⟨false, .d (.tuple (kss.map tupS))⟩, o2, o3, o4]) ⟨fun j g h => absurd h (Nat.not_lt_zero _), _, _, _, rfl⟩ ?_ ?_⟩
      · rintro i x ρ k hx ⟨hj, o2, o3, o4, rfl⟩ hk
        obtain ⟨y, hy, rfl⟩ := enumD_at hx
        rw [List.getElem?_map] at hy
        cases hg : kss[i]? with
        | none => rw [hg] at hy; cases hy
        | some g =>
        rw [hg] at hy
        cases hy
        have hi := (List.getElem?_eq_some_iff.mp hg).1
        have gm := List.mem_of_getElem? hg
        refine ⟨_, rfl, _, rfl, _, rfl, _, rfl, _, rfl, _, rfl, _, _, rfl, rfl, _, rfl, _, rfl, _, _, rfl, rfl, ?_, ?_⟩
        · have a1 := cutD_len (kss.map tupS) none (some (i : Int))
          have a2 := cutD_len (kss.map tupS) (some ((i : Int) + 1)) none
          rw [List.length_map] at a1 a2
          omega
        have ec : cutD (kss.map tupS) none (some (i : Int)) ++ cutD (kss.map tupS) (some ((i : Int) + 1)) none = (kss.take i ++ kss.drop (i + 1)).map tupS := by
          have z : ((i : Int) + 1) = ((i + 1 : Nat) : Int) := by omega
          rw [z, cutD_map, cutD_map, cutD_take _ (by omega), cutD_drop _ (by omega), ← List.map_append]
        refine ⟨_, rfl, ?_⟩
        show lcL _ (cutD (kss.map tupS) none (some (i : Int)) ++ cutD (kss.map tupS) (some ((i : Int) + 1)) none) _ _ _
        rw [ec]
        have om : ∀ f, f ∈ kss.take i ++ kss.drop (i + 1) ↔ f ∈ kss ∧ f ≠ g := fun f => other_mem nd hg
        generalize kss.take i ++ kss.drop (i + 1) = os at om
        refine lcL_pure (fun x => subB g (grp x)) id (fun ρ => ∃ o4, ρ = [some ⟨false, .d (tupS sv)⟩, some ⟨false, .d (.tuple (kss.map tupS))⟩, some ⟨false, .d (.int i)⟩, some ⟨false, .d (tupS g)⟩, o4]) ⟨_, rfl⟩ ?_ ?_
        · rintro x hx' ρ k2 ⟨o4, rfl⟩ hk2
          obtain ⟨f, hf, rfl⟩ := List.mem_map.mp hx'
          have hk2 := hk2 _ ⟨some ⟨false, .d (tupS f)⟩, rfl⟩
          rw [grp_tup] at hk2
          refine ⟨rfl, g, f, rfl, ks1 g gm, ks1 f ((om f).mp hf).1, _, rfl, ?_⟩
          refine tB (fun e => ?_) fun e => ?_
          · rw [if_pos e] at hk2; exact ⟨_, rfl, hk2⟩
          · rw [if_neg (by rw [e]; simp)] at hk2; exact hk2
        · rintro ρ' ⟨o4, rfl⟩
          rw [List.nil_append, List.map_id]
          refine ⟨_, rfl, by show 0 ≤ sizeLine; omega, _, _, rfl, rfl, cNilN ?_⟩
          have ee : ((os.map tupS).filter fun x => subB g (grp x)).isEmpty = os.all fun f => !subB g f := by
            rw [filter_empty, List.all_map]
            congr 1
            funext f
            show (!subB g (grp (tupS f))) = _
            rw [grp_tup]
          rw [ee]
          refine ⟨_, rfl, ?_⟩
          cases h3 : os.all fun f => !subB g f with
          | true =>
            refine hk _ ⟨fun j g' hlt hg' f hf ne => ?_, _, _, _, rfl⟩
            by_cases c : j < i
            · exact hj j g' c hg' f hf ne
            · have : j = i := by omega
              subst this
              rw [hg] at hg'
              cases hg'
              have z := List.all_eq_true.mp h3 f ((om f).mpr ⟨hf, ne⟩)
              simpa using z
          | false =>
            have z : antiB kss = false := by
              cases c : antiB kss with
              | false => rfl
              | true =>
                rw [List.all_eq_false] at h3
                obtain ⟨f, hf, hs⟩ := h3
                obtain ⟨f1, f2⟩ := (om f).mp hf
                have := (antiB_iff.mp c g gm f f1).resolve_left (Ne.symm f2)
                rw [this] at hs
                exact absurd rfl hs
            rw [z] at q
            exact q
      · rintro ρ' ⟨hj, o2, o3, o4, rfl⟩
        have z : antiB kss = true := antiB_iff.mpr fun a ha b hb => by
          obtain ⟨i, hi⟩ := List.getElem?_of_mem ha
          by_cases c : a = b
          · exact .inl c
          · refine .inr (hj i a ?_ hi b hb (Ne.symm c))
            rw [enumD_len, List.length_map]
            exact (List.getElem?_eq_some_iff.mp hi).1
        rw [z] at q
        exact q
  | _ => exact ⟨_, rfl, _, rfl, _, rfl, q⟩

/-! ### _law_is_prime -/
abbrev P_law_is_prime : List Str := ["_law_it"]
def N_law_is_prime : List Str := ["_law_it", "_law_n"]
def d_law_is_prime : DS := sSeq (sIf (kOr (kNot (kE (dIsi (oSlot 0) .int))) (kOr (kE (dIsi (oSlot 0) .bool)) (kOr (kE (dCmp .lt (oSlot 0) (oE (dCon (.int 2))))) (kE (dCmp .gt (oSlot 0) (oE (dCon (.int 997)))))))) (sRet (dCon (.bool false))) (sSkip)) (sRet (dCmp .eq (oE (dLc [1] [1] false (wRng2 (dCon (.int 2)) (dCon (.int 32))) (kAnd (kE (dCmp .eq (oE (dBin .mod (oSlot 0) (oSlot 1))) (oE (dCon (.int 0))))) (kE (dCmp .ne (oSlot 0) (oSlot 1)))) (dVar 1))) (oE (dLst (aNil)))))
def divB (p : Int) : PyData → Bool
  | .int n => decide (p.fmod n = 0) && !decide (p = n)
  | _ => false
def sp_law_is_prime : FSpec := ⟨d_law_is_prime.m, fun us P _ => ∃ x, us = [.d x] ∧ P (.d (.bool (primeL x))) false⟩
theorem law_law_is_prime : ∀ us P R, us.length = P_law_is_prime.length → sp_law_is_prime.f us P R → d_law_is_prime.f (startE N_law_is_prime us) (dk P R) := by
  have sz : sizeLine = 16777216 := sizeLine_eq
  rintro us P R - ⟨x, rfl, q⟩
  cases x with
  | int p =>
    refine ⟨_, rfl, _, rfl, _, rfl, _, rfl, _, rfl, _, rfl, _, rfl, _, _, rfl, rfl, cLt (fun h1 => ⟨_, rfl, ?_⟩) fun h1 => ⟨_, rfl, _, rfl, _, _, rfl, rfl, cGt (fun h2 => ⟨_, rfl, ?_⟩) fun h2 => ⟨_, rfl, ?_⟩⟩⟩
    · have z : primeL (.int p) = false := by simp only [primeL]; rw [decide_eq_false (show ¬ 2 ≤ p by omega), Bool.false_and, Bool.false_and]
      rw [z] at q
      exact q
    · have z : primeL (.int p) = false := by simp only [primeL]; rw [decide_eq_false (show ¬ p ≤ 997 by omega), Bool.and_false, Bool.false_and]
      rw [z] at q
      exact q
    · refine ⟨_, _, rfl, rfl, ⟨by decide, by decide⟩, ⟨by decide, by decide⟩, lcL_pure (divB p) id (fun ρ => ∃ o, ρ = [some ⟨false, .d (.int p)⟩, o]) ⟨_, rfl⟩ ?_ ?_⟩
      · rintro x hx ρ k ⟨o, rfl⟩ hk
        obtain ⟨f, rfl, f1, f2⟩ := mem_range hx
        have hk := hk _ ⟨some ⟨false, .d (.int f)⟩, rfl⟩
        refine ⟨_, rfl, _, rfl, _, _, rfl, rfl, by omega, _, _, rfl, rfl, cEq (fun e => ⟨_, rfl, _, rfl, _, rfl, _, _, rfl, rfl, cNe (fun e2 => ⟨_, rfl, ?_⟩) fun e2 => ⟨_, rfl, ?_⟩⟩) fun e => ⟨_, rfl, ?_⟩⟩
        · have z : divB p (.int f) = true := by simp only [divB]; rw [decide_eq_true e, decide_eq_false e2]; rfl
          rw [if_pos z] at hk
          exact ⟨_, rfl, hk⟩
        · have z : divB p (.int f) = false := by simp only [divB]; rw [decide_eq_true e2]; simp
          rw [if_neg (by rw [z]; simp)] at hk
          exact hk
        · have z : divB p (.int f) = false := by simp only [divB]; rw [decide_eq_false e]; rfl
          rw [if_neg (by rw [z]; simp)] at hk
          exact hk
      · rintro ρ' ⟨o, rfl⟩
        rw [List.nil_append, List.map_id]
        refine ⟨_, rfl, by show 0 ≤ sizeLine; omega, _, _, rfl, rfl, cNil ?_⟩
        have e : ((rangeD 2 32).filter (divB p)).isEmpty = primeL (.int p) := by
          rw [filter_empty]
          unfold rangeD
          rw [List.all_map]
          simp only [primeL]
          rw [decide_eq_true (show 2 ≤ p by omega), decide_eq_true (show p ≤ 997 by omega)]
          rfl
        rw [e]
        exact q
  | bool b => exact ⟨_, rfl, _, rfl, _, rfl, _, rfl, _, rfl, _, rfl, q⟩
  | _ => exact ⟨_, rfl, _, rfl, _, rfl, q⟩

/-! ### _law_expected -/
abbrev P_law_expected : List Str := ["_law_it"]
def N_law_expected : List Str := ["_law_it", "_law_name", "_law_group", "_law_far"]
def d_law_expected : DS := sSeq (sIf (kOr (kNot (kE (dIsi (oSlot 0) .tuple))) (kOr (kE (dCmp .ne (oE (dBif .len (oSlot 0))) (oE (dCon (.int 5))))) (kNot (kE (dCall sp_law_is_prime (aLen 1 (aCons (dIdx (oSlot 0) (oE (dCon (.int 0)))) (aNil)))))))) (sRet (dCon (.bool false))) (sSkip)) (sSeq (sIf (kOr (kNot (kE (dCall sp_law_is_set (aLen 1 (aCons (dIdx (oSlot 0) (oE (dCon (.int 1)))) (aNil)))))) (kOr (kNot (kE (dCall sp_law_is_set (aLen 1 (aCons (dIdx (oSlot 0) (oE (dCon (.int 2)))) (aNil)))))) (kOr (kE (dCmp .lt (oE (dBif .len (oE (dIdx (oSlot 0) (oE (dCon (.int 1))))))) (oE (dCon (.int 2))))) (kE (dCmp .lt (oE (dBif .len (oE (dIdx (oSlot 0) (oE (dCon (.int 2))))))) (oE (dCon (.int 1)))))))) (sRet (dCon (.bool false))) (sSkip)) (sSeq (sIf (kE (dCmp .ne (oE (dLc [1] [1] false (wE (dIdx (oSlot 0) (oE (dCon (.int 2))))) (kE (dCmp .isIn (oSlot 1) (oE (dIdx (oSlot 0) (oE (dCon (.int 1))))))) (dVar 1))) (oE (dLst (aNil))))) (sRet (dCon (.bool false))) (sSkip)) (sSeq (sIf (kOr (kNot (kE (dCall sp_law_are_sets (aLen 2 (aCons (dIdx (oSlot 0) (oE (dCon (.int 1)))) (aCons (dIdx (oSlot 0) (oE (dCon (.int 3)))) (aNil))))))) (kNot (kE (dCall sp_law_are_sets (aLen 2 (aCons (dIdx (oSlot 0) (oE (dCon (.int 1)))) (aCons (dIdx (oSlot 0) (oE (dCon (.int 4)))) (aNil)))))))) (sRet (dCon (.bool false))) (sSkip)) (sRet (dCmp .eq (oE (dLc [2] [2] false (wE (dIdx (oSlot 0) (oE (dCon (.int 4))))) (kE (dCmp .eq (oE (dLc [3] [3] false (wE (dIdx (oSlot 0) (oE (dCon (.int 3))))) (kE (dCall sp_law_is_inside (aLen 2 (aCons (dVar 2) (aCons (dVar 3) (aNil)))))) (dVar 3))) (oE (dLst (aNil))))) (dVar 2))) (oE (dLst (aNil))))))))
def sp_law_expected : FSpec := ⟨d_law_expected.m, fun us P _ => ∃ (x : PyData) (ks : List Str), us = [.d x] ∧ (∀ xs, x = .tuple xs → ∀ y ∈ xs, Fit ks y 59 4096) ∧ P (.d (.bool (schB x))) false⟩
theorem law_law_expected : ∀ us P R, us.length = P_law_expected.length → sp_law_expected.f us P R → d_law_expected.f (startE N_law_expected us) (dk P R) := by
  have sz : sizeLine = 16777216 := sizeLine_eq
  rintro us P R - ⟨x, ks, rfl, hf, q⟩
  cases x with
  | tuple xs =>
    have hf := hf xs rfl
    refine ⟨_, rfl, _, rfl, _, rfl, _, rfl, _, rfl, _, _, rfl, rfl, cNe (fun h => ⟨_, rfl, ?_⟩) fun h => ⟨_, rfl, ?_⟩⟩
    · rw [schB_no (by omega)] at q
      exact q
    obtain ⟨p, sv, cl, ob, ft, rfl⟩ := len5 (xs := xs) (by omega)
    have fsv := hf sv (by simp)
    have fcl := hf cl (by simp)
    have fob := hf ob (by simp)
    have fft := hf ft (by simp)
    have q : P (.d (.bool (schT p sv cl ob ft))) false := q
    clear hf h
    have no : schT p sv cl ob ft = false → P (.d (.bool false)) false := fun e => by rw [e] at q; exact q
    refine ⟨_, rfl, _, _, rfl, rfl, p, rfl, rfl, p, rfl, _, rfl, ?_⟩
    rw [← prime_same]
    cases h1 : primeB p with
    | false => exact no (by simp only [schT, h1, Bool.false_and])
    | true =>
    refine ⟨_, rfl, _, _, rfl, rfl, sv, rfl, rfl, sv, rfl, ?_, fsv.itemsOk (by omega), _, rfl, ?_⟩
    · rintro ys rfl
      have := fsv.len
      omega
    cases h2 : setB sv with
    | false => exact no (by simp only [schT, h2, Bool.false_and, Bool.and_false])
    | true =>
    refine ⟨_, rfl, _, _, rfl, rfl, cl, rfl, rfl, cl, rfl, ?_, fcl.itemsOk (by omega), _, rfl, ?_⟩
    · rintro ys rfl
      have := fcl.len
      omega
    cases h3 : setB cl with
    | false => exact no (by simp only [schT, h3, Bool.false_and, Bool.and_false])
    | true =>
    obtain ⟨sv, rfl, nsv, _⟩ := setB_of h2
    obtain ⟨cl, rfl, ncl, _⟩ := setB_of h3
    have s8 : ∀ s ∈ sv, Sht 8 s := fun s h => (nsv s h).sht.mono (by omega)
    have c8 : ∀ s ∈ cl, Sht 8 s := fun s h => (ncl s h).sht.mono (by omega)
    have gs := grp_tup sv
    have gc := grp_tup cl
    have hT : schT p (tupS sv) (tupS cl) ob ft = (decide (2 ≤ sv.length) && (!cl.isEmpty && (cl.all (fun n => !decide (n ∈ sv)) && (setsB sv ob && (setsB sv ft && (grps ft).all fun f => (grps ob).any fun o => subB f o))))) := by
      simp only [schT, h1, h2, h3, gs, gc, Bool.true_and]
    rw [hT] at q no
    clear hT
    refine ⟨_, rfl, _, _, rfl, rfl, tupS sv, rfl, _, rfl, _, _, rfl, rfl, cLt (fun h => ⟨_, rfl, ?_⟩) fun h => ⟨_, rfl, ?_⟩⟩
    · rw [List.length_map] at h
      exact no (by rw [decide_eq_false (show ¬ 2 ≤ sv.length by omega), Bool.false_and])
    rw [List.length_map] at h
    have h4 : decide (2 ≤ sv.length) = true := decide_eq_true (by omega)
    rw [h4, Bool.true_and] at q no
    refine ⟨_, rfl, _, _, rfl, rfl, tupS cl, rfl, _, rfl, _, _, rfl, rfl, cLt (fun h => ⟨_, rfl, ?_⟩) fun h => ⟨_, rfl, ?_⟩⟩
    · rw [List.length_map] at h
      have : cl.isEmpty = true := by rw [List.isEmpty_iff]; exact List.eq_nil_of_length_eq_zero (by omega)
      exact no (by rw [this]; rfl)
    rw [List.length_map] at h
    have h5 : cl.isEmpty = false := by cases cl with | nil => simp at h | cons a b => rfl
    rw [h5, Bool.not_false, Bool.true_and] at q no
    refine ⟨_, rfl, _, _, rfl, rfl, tupS cl, rfl, _, rfl, lcL_pure (memD sv) id (fun ρ => ∃ o, ρ = [some ⟨false, .d (.tuple [p, tupS sv, tupS cl, ob, ft])⟩, o, none, none]) ⟨_, rfl⟩ ?_ ?_⟩
    · rintro y hy ρ k ⟨o, rfl⟩ hk2
      obtain ⟨s, hs, rfl⟩ := List.mem_map.mp hy
      have hk2 := hk2 _ ⟨some ⟨false, .d (.str s)⟩, rfl⟩
      refine ⟨_, rfl, _, rfl, _, _, rfl, rfl, tupS sv, rfl, _, _, rfl, rfl, ((c8 s hs).lay (by omega)).sh (by omega), (Lay.names s8 (by omega)).sh (by omega), _, rfl, ?_⟩
      rw [inD_str]
      refine tB (fun e => ?_) fun e => ?_
      · have e' : memD sv (.str s) = true := e
        rw [if_pos e'] at hk2
        exact ⟨_, rfl, hk2⟩
      · have e' : ¬ memD sv (.str s) = true := by rw [show memD sv (.str s) = false from e]; simp
        rw [if_neg e'] at hk2
        exact hk2
    rintro ρ' ⟨o, rfl⟩
    refine ⟨_, rfl, by show 0 ≤ sizeLine; omega, _, _, rfl, rfl, cNilN ?_⟩
    have ea : ([] ++ (((cl.map PyData.str).filter (memD sv)).map id)).isEmpty = cl.all fun n => !decide (n ∈ sv) := by
      rw [List.nil_append, List.map_id, filter_empty, List.all_map]
      rfl
    rw [ea]
    refine ⟨_, rfl, ?_⟩
    cases h6 : cl.all fun n => !decide (n ∈ sv) with
    | false => exact no (by rw [h6, Bool.false_and])
    | true =>
    rw [h6, Bool.true_and] at q no
    refine ⟨_, rfl, _, _, rfl, rfl, tupS sv, rfl, _, rfl, _, _, rfl, rfl, ob, rfl, rfl, sv, ob, ks, 59, 4096, rfl, s8, fob, by omega, by omega, _, rfl, ?_⟩
    cases h7 : setsB sv ob with
    | false => exact no (by rw [h7, Bool.false_and])
    | true =>
    rw [h7, Bool.true_and] at q no
    refine ⟨_, rfl, _, _, rfl, rfl, tupS sv, rfl, _, rfl, _, _, rfl, rfl, ft, rfl, rfl, sv, ft, ks, 59, 4096, rfl, s8, fft, by omega, by omega, _, rfl, ?_⟩
    cases h8 : setsB sv ft with
    | false => exact no (by rw [h8, Bool.false_and])
    | true =>
    rw [h8, Bool.true_and] at q
    obtain ⟨fs, rfl, nfs⟩ := sets_of_true h8 (by omega)
    obtain ⟨os, rfl, nos⟩ := sets_of_true h7 (by omega)
    rw [grps_tup, grps_tup] at q
    refine ⟨_, rfl, _, _, rfl, rfl, .tuple (fs.map tupS), rfl, _, rfl, lcL_pure (fun x => os.all fun o => !subB (grp x) o) id (fun ρ => ∃ o1 o2 o3, ρ = [some ⟨false, .d (.tuple [p, tupS sv, tupS cl, .tuple (os.map tupS), .tuple (fs.map tupS)])⟩, o1, o2, o3]) ⟨_, _, _, rfl⟩ ?_ ?_⟩
    · rintro y hy ρ k ⟨o1, o2, o3, rfl⟩ hk2
      obtain ⟨f, hf, rfl⟩ := List.mem_map.mp hy
      rw [grp_tup] at hk2
      refine ⟨_, rfl, _, _, rfl, rfl, .tuple (os.map tupS), rfl, _, rfl, lcL_pure (fun x => subB f (grp x)) id (fun ρ => ∃ o3, ρ = [some ⟨false, .d (.tuple [p, tupS sv, tupS cl, .tuple (os.map tupS), .tuple (fs.map tupS)])⟩, o1, some ⟨false, .d (tupS f)⟩, o3]) ⟨_, rfl⟩ ?_ ?_⟩
      · rintro z hz ρ k3 ⟨o3, rfl⟩ hk3
        obtain ⟨o, ho, rfl⟩ := List.mem_map.mp hz
        have hk3 := hk3 _ ⟨some ⟨false, .d (tupS o)⟩, rfl⟩
        rw [grp_tup] at hk3
        refine ⟨rfl, f, o, rfl, nfs f hf, nos o ho, _, rfl, ?_⟩
        refine tB (fun e => ?_) fun e => ?_
        · rw [if_pos e] at hk3; exact ⟨_, rfl, hk3⟩
        · rw [if_neg (by rw [e]; simp)] at hk3; exact hk3
      · rintro ρ' ⟨o3, rfl⟩
        rw [List.nil_append, List.map_id]
        refine ⟨_, rfl, by show 0 ≤ sizeLine; omega, _, _, rfl, rfl, cNil ?_⟩
        have ee : ((os.map tupS).filter fun x => subB f (grp x)).isEmpty = os.all fun o => !subB f o := by
          rw [filter_empty, List.all_map]
          congr 1
          funext o
          show (!subB f (grp (tupS o))) = _
          rw [grp_tup]
        rw [ee]
        have hk2 := fun o3 => hk2 [some ⟨false, .d (.tuple [p, tupS sv, tupS cl, .tuple (os.map tupS), .tuple (fs.map tupS)])⟩, o1, some ⟨false, .d (tupS f)⟩, o3] ⟨_, _, _, rfl⟩
        refine ⟨_, rfl, tB (fun e => ?_) fun e => ?_⟩
        · rw [if_pos e] at hk2; exact ⟨_, rfl, hk2 _⟩
        · rw [if_neg (by rw [e]; simp)] at hk2; exact hk2 _
    · rintro ρ' ⟨o1, o2, o3, rfl⟩
      rw [List.nil_append, List.map_id]
      refine ⟨_, rfl, by show 0 ≤ sizeLine; omega, _, _, rfl, rfl, cNil ?_⟩
      have ee : ((fs.map tupS).filter fun x => os.all fun o => !subB (grp x) o).isEmpty = fs.all fun f => os.any fun o => subB f o := by
        rw [filter_empty, List.all_map]
        congr 1
        funext f
        show (!os.all fun o => !subB (grp (tupS f)) o) = _
        rw [grp_tup, List.any_eq_not_all_not]
      rw [ee]
      exact q
  | _ => exact ⟨_, rfl, _, rfl, _, rfl, q⟩

/-! ### _law_paths -/
abbrev P_law_paths : List Str := ["_law_it"]
def N_law_paths : List Str := ["_law_it", "_law_found", "_law_n", "_law_part", "_law_path"]
def d_law_paths (sq : FSpec) : DS := sSeq (sSet 1 (dLst (aCons (dTup (aNil)) (aNil)))) (sSeq (sIf (kE (dIsi2 (oSlot 0) .tuple .list)) (sFor [2, 3] true (wEnum (dVar 0)) (sSet 1 (dBin .add (oSlot 1) (oE (dLc [4] [4] false (wE (dCall sq (aLen 1 (aCons (dVar 3) (aNil))))) (kTrue) (dBin .add (oE (dTup (aCons (dVar 2) (aNil)))) (oSlot 4))))))) (sSkip)) (sRetV 1))
structure Paths (x : PyData) (L : List PyData) : Prop where
  ne : L ≠ []
  len : L.length ≤ x.weight + 1
  pl : ∀ p ∈ L, ∃ ns y, p = pathD ns ∧ Pl x ns y
def sq_law_paths : Nat → FSpec
  | 0 => spNo
  | n + 1 => ⟨0, fun us P _ => ∃ x : PyData, us = [.d x] ∧ x.depth ≤ n ∧ n ≤ 100 ∧ x.weight ≤ 5000 ∧ ∀ L, Paths x L → P (.d (.list L)) true⟩
theorem le_law_paths (n : Nat) : (d_law_paths (sq_law_paths n)).m ≤ (sq_law_paths (n + 1)).m := by cases n <;> exact Nat.le_of_eq rfl
def deeperP (i : Nat) : PyData → PyData
  | .tuple ys => .tuple (.int (i : Int) :: ys)
  | x => x
theorem paths_loop {x : PyData} {xs : List PyData} {n : Nat} (hx : itemsD x = xs) (hw2 : x.weight = PyData.weightAll xs) (hd : x.depth ≤ n) (hn : n ≤ 100) (hw : x.weight ≤ 5000) {D : DK}
    (hk : ∀ L o2 o3 o4, Paths x L → D.nx [some ⟨false, .d x⟩, some ⟨true, .d (.list L)⟩, o2, o3, o4]) :
    forL (fun z ρ' k => bindT [2, 3] true z ρ' fun ρ2 => (sSet 1 (dBin .add (oSlot 1) (oE (dLc [4] [4] false (wE (dCall (sq_law_paths n) (aLen 1 (aCons (dVar 3) (aNil))))) (kTrue) (dBin .add (oE (dTup (aCons (dVar 2) (aNil)))) (oSlot 4)))))).f ρ2 { D with nx := k, ct := k, bk := D.nx }) (enumD xs) [some ⟨false, .d x⟩, some ⟨true, .d (.list [.tuple []])⟩, none, none, none] D.nx := by
  have sz : sizeLine = 16777216 := sizeLine_eq
  refine forL_ix (fun i ρ => ∃ L o2 o3 o4, ρ = [some ⟨false, .d x⟩, some ⟨true, .d (.list L)⟩, o2, o3, o4] ∧ L ≠ [] ∧ L.length ≤ PyData.weightAll (xs.take i) + 1 ∧ ∀ p ∈ L, ∃ ns y, p = pathD ns ∧ Pl x ns y) ⟨_, _, _, _, rfl, by simp, by show 1 ≤ _; omega, fun p hp => ⟨[], x, by rw [List.mem_singleton.mp hp]; rfl, .nil x⟩⟩ ?_ ?_
  · rintro i c ρ k hc ⟨L, o2, o3, o4, rfl, h1, h2, h3⟩ hk2
    obtain ⟨y, hy, rfl⟩ := enumD_at hc
    have my : y ∈ itemsD x := by rw [hx]; exact List.mem_of_getElem? hy
    have yd := item_depth my
    have yw := item_weight my
    cases n with
    | zero => omega
    | succ n =>
      have tk := weightAll_take xs (i + 1)
      have t1 : PyData.weightAll (xs.take (i + 1)) = PyData.weightAll (xs.take i) + (y.weight + 1) := by
        rw [List.take_succ, hy, weightAll_app]
        rfl
      refine ⟨_, rfl, _, rfl, rfl, y, rfl, by omega, by omega, by omega, fun L' P' => ⟨_, rfl, ?_⟩⟩
      refine lcL_map (deeperP i) (fun ρ => ∃ o4, ρ = [some ⟨false, .d x⟩, some ⟨true, .d (.list L)⟩, some ⟨false, .d (.int (i : Int))⟩, some ⟨false, .d y⟩, o4]) ⟨_, rfl⟩ ?_ ?_
      · rintro p hp ρ k3 ⟨o4, rfl⟩ hk3
        obtain ⟨ns, z, rfl, pz⟩ := P'.pl p hp
        have := pz.ok.1
        refine ⟨_, rfl, by show 1 ≤ sizeLine; omega, _, rfl, _, _, rfl, rfl, ?_⟩
        refine ⟨?_, _, rfl, hk3 _ ⟨_, rfl⟩⟩
        rw [List.length_map]
        show 1 + ns.length ≤ sizeLine
        omega
      · rintro ρ' ⟨o4, rfl⟩
        have pl := P'.len
        refine ⟨_, _, rfl, rfl, ?_, hk2 _ ⟨_, _, _, _, rfl, ?_, ?_, fun p hp => ?_⟩⟩
        · rw [List.length_map]; omega
        · exact fun z => h1 (List.append_eq_nil_iff.mp z).1
        · rw [List.length_append, List.length_map]; omega
        · rcases List.mem_append.mp hp with hp | hp
          · exact h3 p hp
          · obtain ⟨p', hp', rfl⟩ := List.mem_map.mp hp
            obtain ⟨ns, z, rfl, pz⟩ := P'.pl p' hp'
            exact ⟨i :: ns, z, rfl, .cons (by rw [hx]; exact hy) pz⟩
  · rintro ρ' ⟨L, o2, o3, o4, rfl, h1, h2, h3⟩
    have e : (enumD xs).length = xs.length := by simp [enumD]
    rw [e, List.take_length] at h2
    exact hk L _ _ _ ⟨h1, by omega, h3⟩
theorem law_law_paths (n : Nat) : ∀ us P R, us.length = P_law_paths.length → (sq_law_paths (n + 1)).f us P R → (d_law_paths (sq_law_paths n)).f (startE N_law_paths us) (dk P R) := by
  have sz : sizeLine = 16777216 := sizeLine_eq
  rintro us P R - ⟨x, rfl, hd, hn, hw, q⟩
  refine ⟨_, rfl, by show 0 ≤ sizeLine; omega, _, rfl, by show 1 ≤ sizeLine; omega, ?_⟩
  have one : Paths x [.tuple []] := ⟨by simp, by show 1 ≤ _; omega, fun p hp => ⟨[], x, by rw [List.mem_singleton.mp hp]; rfl, .nil x⟩⟩
  refine ⟨_, rfl, x, rfl, _, rfl, ?_⟩
  cases x with
  | list xs =>
    exact ⟨xs, .inr rfl, paths_loop (x := .list xs) (xs := xs) rfl (by simp only [PyData.weight]) hd hn hw (D := { dk P R with nx := fun ρ => (sRetV 1).f ρ (dk P R) }) fun L o2 o3 o4 h => ⟨_, rfl, q L h⟩⟩
  | tuple xs =>
    exact ⟨xs, .inl rfl, paths_loop (x := .tuple xs) (xs := xs) rfl (by simp only [PyData.weight]) hd hn hw (D := { dk P R with nx := fun ρ => (sRetV 1).f ρ (dk P R) }) fun L o2 o3 o4 h => ⟨_, rfl, q L h⟩⟩
  | _ => exact ⟨_, rfl, q _ one⟩
abbrev sp_law_paths : FSpec := sq_law_paths 24

/-! ### _law_at -/
abbrev P_law_at : List Str := ["_law_it", "_law_path"]
def N_law_at : List Str := ["_law_it", "_law_path", "_law_n"]
def d_law_at : DS := sSeq (sFor [2] false (wE (dVar 1)) (sSet 0 (dIdx (oSlot 0) (oSlot 2)))) (sRetV 0)
def sp_law_at : FSpec := ⟨0, fun us P _ => ∃ (x : PyData) (ns : List Nat) (y : PyData), us = [.d x, .d (pathD ns)] ∧ Pl x ns y ∧ P (.d y) false⟩
theorem law_law_at : ∀ us P R, us.length = P_law_at.length → sp_law_at.f us P R → d_law_at.f (startE N_law_at us) (dk P R) := by
  rintro us P R - ⟨x, ns, y, rfl, hp, q⟩
  refine ⟨_, rfl, forL_ix (fun i ρ => ∃ z o2, ρ = [some ⟨false, .d z⟩, some ⟨false, .d (pathD ns)⟩, o2] ∧ Pl z (ns.drop i) y) ⟨x, _, rfl, hp⟩ ?_ ?_⟩
  · rintro i c ρ k hc ⟨z, o2, rfl, h⟩ hk
    rw [List.getElem?_map] at hc
    cases e : ns[i]? with
    | none => rw [e] at hc; cases hc
    | some n =>
      rw [e] at hc
      cases hc
      have hi := (List.getElem?_eq_some_iff.mp e).1
      have hg := (List.getElem?_eq_some_iff.mp e).2
      rw [List.drop_eq_getElem_cons hi, hg] at h
      cases h with
      | @cons _ z2 _ _ _ h1 h2 =>
      refine ⟨_, rfl, _, rfl, z, (n : Int), rfl, rfl, ?_⟩
      have go : ixS z (n : Int) fun y => k (En.put [some ⟨false, .d z⟩, some ⟨false, .d (pathD ns)⟩, some ⟨false, .d (.int (n : Int))⟩] 0 false (.d y)) := by
        have a : atI (itemsD z) (n : Int) = some z2 := atI_nat h1
        cases z <;> first
          | exact ⟨z2, a, hk _ ⟨z2, _, rfl, h2⟩⟩
          | exact absurd h1 (by simp [itemsD])
      exact go
  · rintro ρ' ⟨z, o2, rfl, h⟩
    rw [List.length_map, List.drop_length] at h
    cases h
    exact ⟨_, rfl, q⟩

/-! ### _law_put -/
abbrev P_law_put : List Str := ["_law_it", "_law_path", "_law_part"]
def N_law_put : List Str := ["_law_it", "_law_path", "_law_part", "_law_found"]
def d_law_put (sq : FSpec) : DS := sSeq (sIf (kE (dEq0 (oSlot 1))) (sRetV 2) (sSkip)) (sSeq (sSet 3 (dBif .list (oSlot 0))) (sSeq (sPutO 3 (dIdx (oSlot 1) (oE (dCon (.int 0)))) (dCall sq (aLen 3 (aCons (dIdx (oSlot 0) (oE (dIdx (oSlot 1) (oE (dCon (.int 0)))))) (aCons (dSli (oSlot 1) (pE (dCon (.int 1))) (pNo)) (aCons (dVar 2) (aNil))))))) (sRet (dIte (kE (dIsi (oSlot 0) .list)) (dVar 3) (dBif .tuple (oSlot 3))))))
def sq_law_put : Nat → FSpec
  | 0 => spNo
  | n + 1 => ⟨0, fun us P _ => ∃ (x : PyData) (ns : List Nat) (y r : PyData), us = [.d x, .d (pathD ns), .d r] ∧ ns.length ≤ n ∧ Pl x ns y ∧ ∀ x', Put x ns r x' → P (.d x') false⟩
theorem le_law_put (n : Nat) : (d_law_put (sq_law_put n)).m ≤ (sq_law_put (n + 1)).m := by cases n <;> exact Nat.le_of_eq rfl
theorem cut1 {α : Type} (x : α) (xs : List α) : cutD (x :: xs) (some 1) none = xs := cutD_drop (x :: xs) (i := 1) (by simp)
theorem sl_path {a : Nat} {ns : List Nat} {Q : PyData → Bool → Prop} (h : Q (pathD ns) false) : slS (pathD (a :: ns)) (some 1) none Q := by
  show Q (.tuple (cutD (PyData.int (a : Int) :: ns.map fun n : Nat => PyData.int (n : Int)) (some 1) none)) false
  rw [cut1]
  exact h
theorem law_law_put (n : Nat) : ∀ us P R, us.length = P_law_put.length → (sq_law_put (n + 1)).f us P R → (d_law_put (sq_law_put n)).f (startE N_law_put us) (dk P R) := by
  rintro us P R - ⟨x, ns, y, r, rfl, hn, hp, q⟩
  cases ns with
  | nil => exact ⟨_, rfl, _, rfl, _, rfl, _, rfl, q _ (.nil x r)⟩
  | cons a ns =>
    cases n with
    | zero => exact absurd hn (by simp)
    | succ n =>
      cases hp with
      | @cons _ z _ _ _ h1 h2 =>
      have hl : ns.length ≤ n := by rw [List.length_cons] at hn; omega
      have ha : a < (itemsD x).length := (List.getElem?_eq_some_iff.mp h1).1
      have a0 : atI ((a :: ns).map fun n : Nat => PyData.int (n : Int)) 0 = some (.int (a : Int)) := atI_nat (j := 0) rfl
      have az : atI (itemsD x) (a : Int) = some z := atI_nat h1
      refine ⟨_, rfl, _, rfl, _, rfl, ?_⟩
      cases x with
      | list xs =>
        refine ⟨_, rfl, _, rfl, _, rfl, _, rfl, _, _, rfl, rfl, _, a0, _, _, rfl, rfl, z, az, _, rfl, _, rfl, _, rfl, sl_path ?_⟩
        refine ⟨rfl, z, ns, y, r, rfl, hl, h2, fun z' hz => ⟨_, rfl, _, rfl, _, _, rfl, rfl, _, a0, z', a, xs, rfl, rfl, rfl, ha, ?_⟩⟩
        exact ⟨_, rfl, _, rfl, _, rfl, q _ (.lst h1 hz)⟩
      | tuple xs =>
        refine ⟨_, rfl, _, rfl, _, rfl, _, rfl, _, _, rfl, rfl, _, a0, _, _, rfl, rfl, z, az, _, rfl, _, rfl, _, rfl, sl_path ?_⟩
        refine ⟨rfl, z, ns, y, r, rfl, hl, h2, fun z' hz => ⟨_, rfl, _, rfl, _, _, rfl, rfl, _, a0, z', a, xs, rfl, rfl, rfl, ha, ?_⟩⟩
        exact ⟨_, rfl, _, rfl, _, rfl, _, rfl, _, rfl, q _ (.tup h1 hz)⟩
      | _ => exact absurd ha (by simp [itemsD])
abbrev sp_law_put : FSpec := sq_law_put 24

/-! ### _law_replacement -/
abbrev P_law_replacement : List Str := ["_law_source_here", "_law_part", "_law_far"]
def N_law_replacement : List Str := ["_law_source_here", "_law_part", "_law_far", "_law_mode", "_law_spot", "_law_some_here", "_law_head", "_law_tail"]
@[irreducible] def d_law_replacement_t10 : DS := sRet (dIdx (oE (dBinB .add (oSlot 5) (oE (dLst (aCons (dBinB .add (oE (dSli (oSlot 1) (pE (dVar 4)) (pNo))) (oSlot 6)) (aNil)))))) (oE (dBinB .sub (oSlot 3) (oE (dCon (.int 2))))))
@[irreducible] def d_law_replacement_t9 : DS := sSeq (sDrop (dMth .append (oSlot 5) (aCons (dBinB .add (oE (dBinB .add (oSlot 6) (oE (dRevX (oE (dSli (oSlot 1) (pE (dVar 4)) (pE (dBinB .add (oSlot 4) (oE (dCon (.int 2))))))))))) (oE (dSli (oSlot 7) (pE (dCon (.int 1))) (pNo)))) (aNil)))) d_law_replacement_t10
@[irreducible] def d_law_replacement_t8 : DS := sSeq (sSet 5 (dLst (aCons (dBinB .add (oSlot 6) (oSlot 7)) (aCons (dBinB .add (oE (dSli (oSlot 1) (pNo) (pE (dBinB .add (oSlot 4) (oE (dCon (.int 1))))))) (oE (dSli (oSlot 1) (pE (dVar 4)) (pNo)))) (aCons (dRevX (oSlot 1)) (aCons (dBif .list (oSlot 1)) (aCons (dIdx (oSlot 1) (oSlot 4)) (aCons (dTup (aCons (dVar 1) (aNil))) (aNil))))))))) d_law_replacement_t9
@[irreducible] def d_law_replacement_t7 : DS := sSeq (sPar 6 7 (dSli (oSlot 1) (pNo) (pE (dVar 4))) (dSli (oSlot 1) (pE (dBinB .add (oSlot 4) (oE (dCon (.int 1))))) (pNo))) d_law_replacement_t8
@[irreducible] def d_law_replacement_t6 : DS := sSeq (sSet 4 (dCall sp_law_draw (aLen 2 (aCons (dVar 0) (aCons (dBif .len (oSlot 1)) (aNil)))))) d_law_replacement_t7
@[irreducible] def d_law_replacement_t5 : DS := sSeq (sIf (kOr (kNot (kE (dIsi2 (oSlot 1) .tuple .list))) (kE (dCmp .eq (oE (dBif .len (oSlot 1))) (oE (dCon (.int 0)))))) (sRet (dIdx (oE (dLst (aCons (dTup (aCons (dCon (.str "a")) (aNil))) (aCons (dTup (aCons (dTup (aNil)) (aNil))) (aCons (dCon .none) (aCons (dCon (.int 0)) (aCons (dCon (.str "a")) (aCons (dLst (aCons (dTup (aNil)) (aNil))) (aCons (dTup (aCons (dCon (.str "b")) (aCons (dCon (.str "a")) (aNil)))) (aCons (dTup (aCons (dCon (.str "a")) (aCons (dCon (.str "b")) (aNil)))) (aNil))))))))))) (oE (dBinB .sub (oSlot 3) (oE (dCon (.int 2))))))) (sSkip)) d_law_replacement_t6
@[irreducible] def d_law_replacement_t4 : DS := sSeq (sIf (kE (dIsi (oSlot 1) .int)) (sRet (dIdx (oE (dLst (aCons (dBinB .add (oSlot 1) (oE (dCon (.int 1)))) (aCons (dBinB .sub (oSlot 1) (oE (dCon (.int 1)))) (aCons (dBinB .sub (oE (dCon (.int 0))) (oSlot 1)) (aCons (dCmp .eq (oSlot 1) (oE (dCon (.int 1)))) (aCons (dStrB (oSlot 1)) (aCons (dBinB .add (oSlot 1) (oE (dBin .pow (oE (dCon (.int 10))) (oE (dCon (.int 30)))))) (aCons (dBinB .mul (oSlot 1) (oE (dCon (.int 2)))) (aCons (dTup (aCons (dVar 1) (aNil))) (aNil))))))))))) (oE (dBinB .sub (oSlot 3) (oE (dCon (.int 2))))))) (sSkip)) d_law_replacement_t5
@[irreducible] def d_law_replacement_t3 : DS := sSeq (sIf (kE (dIsi (oSlot 1) .str)) (sSeq (sSet 5 (dLst (aCons (dBinB .add (oSlot 1) (oE (dCon (.str "z")))) (aCons (dSli (oSlot 1) (pE (dCon (.int 1))) (pNo)) (aCons (dUpper (dVar 1)) (aCons (dBinB .add (oSlot 1) (oE (dCon (.str " ")))) (aCons (dBinB .add (oE (dSli (oSlot 1) (pNo) (pE (dNeg (oE (dCon (.int 1))))))) (oE (dCon (.str "a")))) (aCons (dTup (aCons (dVar 1) (aNil))) (aCons (dBinB .mul (oSlot 1) (oE (dCon (.int 7)))) (aCons (dRevX (oSlot 1)) (aNil))))))))))) (sRet (dIdx (oSlot 5) (oE (dBinB .sub (oSlot 3) (oE (dCon (.int 2)))))))) (sSkip)) d_law_replacement_t4
@[irreducible] def d_law_replacement_t2 : DS := sSeq (sIf (kE (dCmp .eq (oSlot 3) (oE (dCon (.int 1))))) (sRetV 2) (sSkip)) d_law_replacement_t3
@[irreducible] def d_law_replacement_t1 : DS := sSeq (sIf (kE (dCmp .eq (oSlot 3) (oE (dCon (.int 0))))) (sRet (dCall sp_law_pick (aLen 2 (aCons (dVar 0) (aCons (dLst (aCons (dCon .none) (aCons (dCon (.bool true)) (aCons (dCon (.int 0)) (aCons (dCon (.int 1)) (aCons (dCon (.int 2)) (aCons (dCon (.str "")) (aCons (dCon (.str "a")) (aCons (dTup (aNil)) (aCons (dTup (aCons (dCon (.str "a")) (aNil))) (aCons (dLst (aNil)) (aCons (dCon (.dict [])) (aCons (dTup (aCons (dTup (aNil)) (aNil))) (aCons (dTup (aCons (dTup (aNil)) (aCons (dTup (aCons (dCon (.str "a")) (aNil))) (aNil)))) (aCons (dBin .pow (oE (dCon (.int 10))) (oE (dCon (.int 39)))) (aNil)))))))))))))))) (aNil)))))) (sSkip)) d_law_replacement_t2
def d_law_replacement : DS := sSeq (sSet 3 (dCall sp_law_draw (aLen 2 (aCons (dVar 0) (aCons (dCon (.int 10)) (aNil)))))) (sSeq (sIf (kE (dCmp .eq (oSlot 3) (oE (dCon (.int 0))))) (sRet (dCall sp_law_pick (aLen 2 (aCons (dVar 0) (aCons (dLst (aCons (dCon .none) (aCons (dCon (.bool true)) (aCons (dCon (.int 0)) (aCons (dCon (.int 1)) (aCons (dCon (.int 2)) (aCons (dCon (.str "")) (aCons (dCon (.str "a")) (aCons (dTup (aNil)) (aCons (dTup (aCons (dCon (.str "a")) (aNil))) (aCons (dLst (aNil)) (aCons (dCon (.dict [])) (aCons (dTup (aCons (dTup (aNil)) (aNil))) (aCons (dTup (aCons (dTup (aNil)) (aCons (dTup (aCons (dCon (.str "a")) (aNil))) (aNil)))) (aCons (dBin .pow (oE (dCon (.int 10))) (oE (dCon (.int 39)))) (aNil)))))))))))))))) (aNil)))))) (sSkip)) (sSeq (sIf (kE (dCmp .eq (oSlot 3) (oE (dCon (.int 1))))) (sRetV 2) (sSkip)) (sSeq (sIf (kE (dIsi (oSlot 1) .str)) (sSeq (sSet 5 (dLst (aCons (dBinB .add (oSlot 1) (oE (dCon (.str "z")))) (aCons (dSli (oSlot 1) (pE (dCon (.int 1))) (pNo)) (aCons (dUpper (dVar 1)) (aCons (dBinB .add (oSlot 1) (oE (dCon (.str " ")))) (aCons (dBinB .add (oE (dSli (oSlot 1) (pNo) (pE (dNeg (oE (dCon (.int 1))))))) (oE (dCon (.str "a")))) (aCons (dTup (aCons (dVar 1) (aNil))) (aCons (dBinB .mul (oSlot 1) (oE (dCon (.int 7)))) (aCons (dRevX (oSlot 1)) (aNil))))))))))) (sRet (dIdx (oSlot 5) (oE (dBinB .sub (oSlot 3) (oE (dCon (.int 2)))))))) (sSkip)) (sSeq (sIf (kE (dIsi (oSlot 1) .int)) (sRet (dIdx (oE (dLst (aCons (dBinB .add (oSlot 1) (oE (dCon (.int 1)))) (aCons (dBinB .sub (oSlot 1) (oE (dCon (.int 1)))) (aCons (dBinB .sub (oE (dCon (.int 0))) (oSlot 1)) (aCons (dCmp .eq (oSlot 1) (oE (dCon (.int 1)))) (aCons (dStrB (oSlot 1)) (aCons (dBinB .add (oSlot 1) (oE (dBin .pow (oE (dCon (.int 10))) (oE (dCon (.int 30)))))) (aCons (dBinB .mul (oSlot 1) (oE (dCon (.int 2)))) (aCons (dTup (aCons (dVar 1) (aNil))) (aNil))))))))))) (oE (dBinB .sub (oSlot 3) (oE (dCon (.int 2))))))) (sSkip)) (sSeq (sIf (kOr (kNot (kE (dIsi2 (oSlot 1) .tuple .list))) (kE (dCmp .eq (oE (dBif .len (oSlot 1))) (oE (dCon (.int 0)))))) (sRet (dIdx (oE (dLst (aCons (dTup (aCons (dCon (.str "a")) (aNil))) (aCons (dTup (aCons (dTup (aNil)) (aNil))) (aCons (dCon .none) (aCons (dCon (.int 0)) (aCons (dCon (.str "a")) (aCons (dLst (aCons (dTup (aNil)) (aNil))) (aCons (dTup (aCons (dCon (.str "b")) (aCons (dCon (.str "a")) (aNil)))) (aCons (dTup (aCons (dCon (.str "a")) (aCons (dCon (.str "b")) (aNil)))) (aNil))))))))))) (oE (dBinB .sub (oSlot 3) (oE (dCon (.int 2))))))) (sSkip)) (sSeq (sSet 4 (dCall sp_law_draw (aLen 2 (aCons (dVar 0) (aCons (dBif .len (oSlot 1)) (aNil)))))) (sSeq (sPar 6 7 (dSli (oSlot 1) (pNo) (pE (dVar 4))) (dSli (oSlot 1) (pE (dBinB .add (oSlot 4) (oE (dCon (.int 1))))) (pNo))) (sSeq (sSet 5 (dLst (aCons (dBinB .add (oSlot 6) (oSlot 7)) (aCons (dBinB .add (oE (dSli (oSlot 1) (pNo) (pE (dBinB .add (oSlot 4) (oE (dCon (.int 1))))))) (oE (dSli (oSlot 1) (pE (dVar 4)) (pNo)))) (aCons (dRevX (oSlot 1)) (aCons (dBif .list (oSlot 1)) (aCons (dIdx (oSlot 1) (oSlot 4)) (aCons (dTup (aCons (dVar 1) (aNil))) (aNil))))))))) (sSeq (sDrop (dMth .append (oSlot 5) (aCons (dBinB .add (oE (dBinB .add (oSlot 6) (oE (dRevX (oE (dSli (oSlot 1) (pE (dVar 4)) (pE (dBinB .add (oSlot 4) (oE (dCon (.int 2))))))))))) (oE (dSli (oSlot 7) (pE (dCon (.int 1))) (pNo)))) (aNil)))) (sRet (dIdx (oE (dBinB .add (oSlot 5) (oE (dLst (aCons (dBinB .add (oE (dSli (oSlot 1) (pE (dVar 4)) (pNo))) (oSlot 6)) (aNil)))))) (oE (dBinB .sub (oSlot 3) (oE (dCon (.int 2))))))))))))))))
theorem e_law_replacement : d_law_replacement = sSeq (sSet 3 (dCall sp_law_draw (aLen 2 (aCons (dVar 0) (aCons (dCon (.int 10)) (aNil)))))) d_law_replacement_t1 := by
  unfold d_law_replacement d_law_replacement_t1 d_law_replacement_t2 d_law_replacement_t3 d_law_replacement_t4 d_law_replacement_t5 d_law_replacement_t6 d_law_replacement_t7 d_law_replacement_t8 d_law_replacement_t9 d_law_replacement_t10
  rfl
def sp_law_replacement : FSpec := ⟨d_law_replacement.m, fun us P _ => ∃ (part far : PyData) (ks : List Str) (l N M d B : Nat), us = [.deck, .d part, .d far] ∧ Rq ks l N M d B part far ∧ ∀ r fr, Rp ks l M B part far r → P (.d r) fr⟩
abbrev rE (part far : PyData) (m : Int) : En := [some ⟨false, .deck⟩, some ⟨false, .d part⟩, some ⟨false, .d far⟩, some ⟨false, .d (.int m)⟩, none, none, none, none]
theorem ix8 {L : List PyData} (hL : L.length = 8) {m : Int} (m0 : 2 ≤ m) (m1 : m < 10) {Q : PyData → Prop} (h : ∀ y ∈ L, Q y) : ixS (.list L) (m - 2) Q := by
  obtain ⟨y, e, hy⟩ := atI_some (xs := L) (i := m - 2) (by omega) (by omega)
  exact ⟨y, e, h y hy⟩
theorem i42 {n : Nat} (h : n < T42) : n < 10 ^ 42 := by unfold T42 at h; exact h
theorem e30 : ((10 : Int) ^ (30 : Int).toNat).natAbs ≤ T39 := by unfold T39; decide +kernel
theorem natAbs_add3 {i j : Int} {N M T : Nat} (h : i.natAbs < N) (hj : j.natAbs ≤ T) (hM : 2 * N + 2 * T ≤ M) : (i + j).natAbs < M := by omega
section
variable {ks : List Str} {l N M d B : Nat} {xs : List PyData} {part far : PyData} {P : U → Bool → Prop} {R : RK}

theorem rq10seqL (q : Rq ks l N M d B (.list xs) far) (h : ∀ r fr, Rp ks l M B (.list xs) far r → P (.d r) fr) {m : Int} (m0 : 2 ≤ m) (m1 : m < 10) {k : Nat} (hk : k < xs.length) {L : List PyData} (hL : L.length = 7) (hr : ∀ r ∈ L, Rp ks l M B (.list xs) far r) :
    d_law_replacement_t10.f [some ⟨false, .deck⟩, some ⟨false, .d (.list xs)⟩, some ⟨false, .d far⟩, some ⟨false, .d (.int m)⟩, some ⟨false, .d (.int (k : Int))⟩, some ⟨true, .d (.list L)⟩, some ⟨false, .d (.list (cutD xs none (some (k : Int))))⟩, some ⟨true, .d (.list (cutD xs (some ((k : Int) + 1)) none))⟩] (dk P R) := by
  unfold d_law_replacement_t10
  have sz : sizeLine = 16777216 := sizeLine_eq
  have wl := len_weight xs
  have wp : (.list xs : PyData).weight = PyData.weightAll xs := by simp only [PyData.weight]
  have wt := q.p.wt
  have b1 := q.b1
  have la := cutD_len xs (some (k : Int)) none
  have lb := cutD_len xs none (some (k : Int))
  have wa := cutD_w xs (some (k : Int)) none
  have wb := cutD_w xs none (some (k : Int))
  have r8 : Rp ks l M B (.list xs) far (.list (cutD xs (some (k : Int)) none ++ cutD xs none (some (k : Int)))) :=
    Rp.seqL q (fun y hy => (List.mem_append.mp hy).elim cutD_mem cutD_mem) (by rw [weightAll_app]; omega) (by simp only [PyData.depth]; omega)
  refine ⟨_, rfl, _, rfl, _, rfl, _, rfl, _, rfl, _, _, rfl, rfl, by show (cutD xs (some (k : Int)) none).length + (cutD xs none (some (k : Int))).length ≤ sizeLine; omega, _, rfl, by show 1 ≤ sizeLine; omega, _, _, rfl, rfl, by show L.length + 1 ≤ sizeLine; omega, _, rfl, _, _, rfl, rfl, _, _, rfl, rfl, ?_⟩
  refine ix8 (by rw [List.length_append, hL]; rfl) m0 m1 fun r hm => h _ _ ?_
  rcases List.mem_append.mp hm with hm | hm
  · exact hr r hm
  · rw [List.mem_singleton.mp hm]; exact r8
theorem rq6seqL (q : Rq ks l N M d B (.list xs) far) (h : ∀ r fr, Rp ks l M B (.list xs) far r → P (.d r) fr) {m : Int} (m0 : 2 ≤ m) (m1 : m < 10) (hne : xs ≠ []) : d_law_replacement_t6.f (rE (.list xs) far m) (dk P R) := by
  unfold d_law_replacement_t6
  have sz : sizeLine = 16777216 := sizeLine_eq
  have wl := len_weight xs
  have wp : (.list xs : PyData).weight = PyData.weightAll xs := by simp only [PyData.weight]
  have dp : (.list xs : PyData).depth ≠ 0 := by simp only [PyData.depth]; omega
  have wt := q.p.wt
  have b1 := q.b1
  have h0 : 0 < xs.length := List.length_pos_iff.mpr hne
  refine ⟨_, rfl, _, rfl, rfl, _, rfl, by omega, by omega, fun k k0 k1 => ?_⟩
  obtain ⟨k, rfl⟩ := Int.eq_ofNat_of_zero_le k0
  have hk : k < xs.length := by omega
  unfold d_law_replacement_t7
  refine ⟨_, rfl, _, rfl, _, rfl, _, rfl, _, rfl, _, _, rfl, rfl, _, rfl, _, rfl, ?_⟩
  unfold d_law_replacement_t8
  have lk := cutD_len xs none (some (k : Int))
  have lt := cutD_len xs (some ((k : Int) + 1)) none
  have lk1 := cutD_len xs none (some ((k : Int) + 1))
  have ld := cutD_len xs (some (k : Int)) none
  have l2 := cutD_len xs (some (k : Int)) (some ((k : Int) + 2))
  have l3 := cutD_len (cutD xs (some ((k : Int) + 1)) none) (some 1) none
  have wk := cutD_w xs none (some (k : Int))
  have wt2 := cutD_w xs (some ((k : Int) + 1)) none
  have wk1 := cutD_w xs none (some ((k : Int) + 1))
  have wd := cutD_w xs (some (k : Int)) none
  have w3 := cutD_w (cutD xs (some ((k : Int) + 1)) none) (some 1) none
  have w2 := cut_two xs k (by omega) (some ((k : Int) + 2))
  obtain ⟨y, ey, hy⟩ := atI_some (xs := xs) (i := (k : Int)) (by omega) (by omega)
  refine ⟨_, rfl, _, rfl, _, _, rfl, rfl, by show (cutD xs none (some (k : Int))).length + (cutD xs (some ((k : Int) + 1)) none).length ≤ sizeLine; omega, ?_⟩
  refine ⟨_, rfl, _, rfl, _, _, rfl, rfl, _, rfl, _, rfl, _, rfl, _, rfl, _, rfl, _, _, rfl, rfl, by show (cutD xs none (some ((k : Int) + 1))).length + (cutD xs (some (k : Int)) none).length ≤ sizeLine; omega, ?_⟩
  refine ⟨_, rfl, _, rfl, _, rfl, _, rfl, _, rfl, _, rfl, _, _, rfl, rfl, y, ey, _, rfl, by show 1 ≤ sizeLine; omega, _, rfl, by show 6 ≤ sizeLine; omega, ?_⟩
  unfold d_law_replacement_t9
  refine ⟨_, rfl, ⟨_, rfl⟩, _, rfl, _, rfl, _, rfl, _, rfl, _, _, rfl, rfl, _, rfl, _, rfl, _, rfl, _, _, rfl, rfl, ?_, _, rfl, _, rfl, _, rfl, _, _, rfl, rfl, ?_, _, rfl, _, _, rfl, rfl, by show 6 < sizeLine; omega, ?_⟩
  · show (cutD xs none (some (k : Int))).length + (cutD xs (some (k : Int)) (some ((k : Int) + 2))).reverse.length ≤ sizeLine
    rw [List.length_reverse]; omega
  · show (cutD xs none (some (k : Int)) ++ (cutD xs (some (k : Int)) (some ((k : Int) + 2))).reverse).length + (cutD (cutD xs (some ((k : Int) + 1)) none) (some 1) none).length ≤ sizeLine
    rw [List.length_append, List.length_reverse]; omega
  refine rq10seqL q h m0 m1 hk rfl fun r hm => ?_
  simp only [List.cons_append, List.nil_append, List.mem_cons, List.not_mem_nil, or_false] at hm
  rcases hm with rfl | rfl | rfl | rfl | rfl | rfl | rfl
  · exact Rp.seqL q (fun y hy => (List.mem_append.mp hy).elim cutD_mem cutD_mem) (by rw [weightAll_app]; omega) dp
  · exact Rp.seqL q (fun y hy => (List.mem_append.mp hy).elim cutD_mem cutD_mem) (by rw [weightAll_app]; omega) dp
  · exact Rp.seqL q (fun y hy => List.mem_reverse.mp hy) (by rw [weightAll_rev]; omega) dp
  · exact Rp.seqL q (fun y hy => hy) (by omega) dp
  · exact Rp.item q hy
  · exact Rp.one q
  · refine Rp.seqL q (fun y hy => ?_) (by rw [weightAll_app, weightAll_app, weightAll_rev]; omega) dp
    rcases List.mem_append.mp hy with hy | hy
    · exact (List.mem_append.mp hy).elim cutD_mem fun z => cutD_mem (List.mem_reverse.mp z)
    · exact cutD_mem (cutD_mem hy)

theorem rq10seqT (q : Rq ks l N M d B (.tuple xs) far) (h : ∀ r fr, Rp ks l M B (.tuple xs) far r → P (.d r) fr) {m : Int} (m0 : 2 ≤ m) (m1 : m < 10) {k : Nat} (hk : k < xs.length) {L : List PyData} (hL : L.length = 7) (hr : ∀ r ∈ L, Rp ks l M B (.tuple xs) far r) :
    d_law_replacement_t10.f [some ⟨false, .deck⟩, some ⟨false, .d (.tuple xs)⟩, some ⟨false, .d far⟩, some ⟨false, .d (.int m)⟩, some ⟨false, .d (.int (k : Int))⟩, some ⟨true, .d (.list L)⟩, some ⟨false, .d (.tuple (cutD xs none (some (k : Int))))⟩, some ⟨false, .d (.tuple (cutD xs (some ((k : Int) + 1)) none))⟩] (dk P R) := by
  unfold d_law_replacement_t10
  have sz : sizeLine = 16777216 := sizeLine_eq
  have wl := len_weight xs
  have wp : (.tuple xs : PyData).weight = PyData.weightAll xs := by simp only [PyData.weight]
  have wt := q.p.wt
  have b1 := q.b1
  have la := cutD_len xs (some (k : Int)) none
  have lb := cutD_len xs none (some (k : Int))
  have wa := cutD_w xs (some (k : Int)) none
  have wb := cutD_w xs none (some (k : Int))
  have r8 : Rp ks l M B (.tuple xs) far (.tuple (cutD xs (some (k : Int)) none ++ cutD xs none (some (k : Int)))) :=
    Rp.seqT q (fun y hy => (List.mem_append.mp hy).elim cutD_mem cutD_mem) (by rw [weightAll_app]; omega) (by simp only [PyData.depth]; omega)
  refine ⟨_, rfl, _, rfl, _, rfl, _, rfl, _, rfl, _, _, rfl, rfl, by show (cutD xs (some (k : Int)) none).length + (cutD xs none (some (k : Int))).length ≤ sizeLine; omega, _, rfl, by show 1 ≤ sizeLine; omega, _, _, rfl, rfl, by show L.length + 1 ≤ sizeLine; omega, _, rfl, _, _, rfl, rfl, _, _, rfl, rfl, ?_⟩
  refine ix8 (by rw [List.length_append, hL]; rfl) m0 m1 fun r hm => h _ _ ?_
  rcases List.mem_append.mp hm with hm | hm
  · exact hr r hm
  · rw [List.mem_singleton.mp hm]; exact r8
theorem rq6seqT (q : Rq ks l N M d B (.tuple xs) far) (h : ∀ r fr, Rp ks l M B (.tuple xs) far r → P (.d r) fr) {m : Int} (m0 : 2 ≤ m) (m1 : m < 10) (hne : xs ≠ []) : d_law_replacement_t6.f (rE (.tuple xs) far m) (dk P R) := by
  unfold d_law_replacement_t6
  have sz : sizeLine = 16777216 := sizeLine_eq
  have wl := len_weight xs
  have wp : (.tuple xs : PyData).weight = PyData.weightAll xs := by simp only [PyData.weight]
  have dp : (.tuple xs : PyData).depth ≠ 0 := by simp only [PyData.depth]; omega
  have wt := q.p.wt
  have b1 := q.b1
  have h0 : 0 < xs.length := List.length_pos_iff.mpr hne
  refine ⟨_, rfl, _, rfl, rfl, _, rfl, by omega, by omega, fun k k0 k1 => ?_⟩
  obtain ⟨k, rfl⟩ := Int.eq_ofNat_of_zero_le k0
  have hk : k < xs.length := by omega
  unfold d_law_replacement_t7
  refine ⟨_, rfl, _, rfl, _, rfl, _, rfl, _, rfl, _, _, rfl, rfl, _, rfl, _, rfl, ?_⟩
  unfold d_law_replacement_t8
  have lk := cutD_len xs none (some (k : Int))
  have lt := cutD_len xs (some ((k : Int) + 1)) none
  have lk1 := cutD_len xs none (some ((k : Int) + 1))
  have ld := cutD_len xs (some (k : Int)) none
  have l2 := cutD_len xs (some (k : Int)) (some ((k : Int) + 2))
  have l3 := cutD_len (cutD xs (some ((k : Int) + 1)) none) (some 1) none
  have wk := cutD_w xs none (some (k : Int))
  have wt2 := cutD_w xs (some ((k : Int) + 1)) none
  have wk1 := cutD_w xs none (some ((k : Int) + 1))
  have wd := cutD_w xs (some (k : Int)) none
  have w3 := cutD_w (cutD xs (some ((k : Int) + 1)) none) (some 1) none
  have w2 := cut_two xs k (by omega) (some ((k : Int) + 2))
  obtain ⟨y, ey, hy⟩ := atI_some (xs := xs) (i := (k : Int)) (by omega) (by omega)
  refine ⟨_, rfl, _, rfl, _, _, rfl, rfl, by show (cutD xs none (some (k : Int))).length + (cutD xs (some ((k : Int) + 1)) none).length ≤ sizeLine; omega, ?_⟩
  refine ⟨_, rfl, _, rfl, _, _, rfl, rfl, _, rfl, _, rfl, _, rfl, _, rfl, _, rfl, _, _, rfl, rfl, by show (cutD xs none (some ((k : Int) + 1))).length + (cutD xs (some (k : Int)) none).length ≤ sizeLine; omega, ?_⟩
  refine ⟨_, rfl, _, rfl, _, rfl, _, rfl, _, rfl, _, rfl, _, _, rfl, rfl, y, ey, _, rfl, by show 1 ≤ sizeLine; omega, _, rfl, by show 6 ≤ sizeLine; omega, ?_⟩
  unfold d_law_replacement_t9
  refine ⟨_, rfl, ⟨_, rfl⟩, _, rfl, _, rfl, _, rfl, _, rfl, _, _, rfl, rfl, _, rfl, _, rfl, _, rfl, _, _, rfl, rfl, ?_, _, rfl, _, rfl, _, rfl, _, _, rfl, rfl, ?_, _, rfl, _, _, rfl, rfl, by show 6 < sizeLine; omega, ?_⟩
  · show (cutD xs none (some (k : Int))).length + (cutD xs (some (k : Int)) (some ((k : Int) + 2))).reverse.length ≤ sizeLine
    rw [List.length_reverse]; omega
  · show (cutD xs none (some (k : Int)) ++ (cutD xs (some (k : Int)) (some ((k : Int) + 2))).reverse).length + (cutD (cutD xs (some ((k : Int) + 1)) none) (some 1) none).length ≤ sizeLine
    rw [List.length_append, List.length_reverse]; omega
  refine rq10seqT q h m0 m1 hk rfl fun r hm => ?_
  simp only [List.cons_append, List.nil_append, List.mem_cons, List.not_mem_nil, or_false] at hm
  rcases hm with rfl | rfl | rfl | rfl | rfl | rfl | rfl
  · exact Rp.seqT q (fun y hy => (List.mem_append.mp hy).elim cutD_mem cutD_mem) (by rw [weightAll_app]; omega) dp
  · exact Rp.seqT q (fun y hy => (List.mem_append.mp hy).elim cutD_mem cutD_mem) (by rw [weightAll_app]; omega) dp
  · exact Rp.seqT q (fun y hy => List.mem_reverse.mp hy) (by rw [weightAll_rev]; omega) dp
  · exact Rp.seqL q (fun y hy => hy) (by omega) dp
  · exact Rp.item q hy
  · exact Rp.one q
  · refine Rp.seqT q (fun y hy => ?_) (by rw [weightAll_app, weightAll_app, weightAll_rev]; omega) dp
    rcases List.mem_append.mp hy with hy | hy
    · exact (List.mem_append.mp hy).elim cutD_mem fun z => cutD_mem (List.mem_reverse.mp z)
    · exact cutD_mem (cutD_mem hy)

theorem rq5 (q : Rq ks l N M d B part far) (h : ∀ r fr, Rp ks l M B part far r → P (.d r) fr) {m : Int} (m0 : 2 ≤ m) (m1 : m < 10) (hs : isD part .str = false) (hi : isD part .int = false) : d_law_replacement_t5.f (rE part far m) (dk P R) := by
  unfold d_law_replacement_t5
  have sz : sizeLine = 16777216 := sizeLine_eq
  cases part with
  | list xs =>
    refine ⟨_, rfl, _, rfl, _, rfl, _, rfl, _, rfl, _, _, rfl, rfl, cEq (fun e => ⟨_, rfl, ?_⟩) fun ne => ⟨_, rfl, ?_⟩⟩
    · exact ⟨_, rfl, by show 1 ≤ sizeLine; omega, _, rfl, by show 0 ≤ sizeLine; omega, _, rfl, by show 1 ≤ sizeLine; omega, _, rfl, by show 0 ≤ sizeLine; omega, _, rfl, by show 1 ≤ sizeLine; omega, _, rfl, by show 2 ≤ sizeLine; omega, _, rfl, by show 2 ≤ sizeLine; omega, _, rfl, by show 8 ≤ sizeLine; omega, _, rfl, _, _, rfl, rfl, _, _, rfl, rfl, ix8 rfl m0 m1 fun r hm => h _ _ (Rp.cons q (by decide +kernel) r hm)⟩
    · exact rq6seqL q h m0 m1 fun z => ne (by rw [z]; rfl)
  | tuple xs =>
    refine ⟨_, rfl, _, rfl, _, rfl, _, rfl, _, rfl, _, _, rfl, rfl, cEq (fun e => ⟨_, rfl, ?_⟩) fun ne => ⟨_, rfl, ?_⟩⟩
    · exact ⟨_, rfl, by show 1 ≤ sizeLine; omega, _, rfl, by show 0 ≤ sizeLine; omega, _, rfl, by show 1 ≤ sizeLine; omega, _, rfl, by show 0 ≤ sizeLine; omega, _, rfl, by show 1 ≤ sizeLine; omega, _, rfl, by show 2 ≤ sizeLine; omega, _, rfl, by show 2 ≤ sizeLine; omega, _, rfl, by show 8 ≤ sizeLine; omega, _, rfl, _, _, rfl, rfl, _, _, rfl, rfl, ix8 rfl m0 m1 fun r hm => h _ _ (Rp.cons q (by decide +kernel) r hm)⟩
    · exact rq6seqT q h m0 m1 fun z => ne (by rw [z]; rfl)
  | none => exact ⟨_, rfl, _, rfl, _, rfl, _, rfl, by show 1 ≤ sizeLine; omega, _, rfl, by show 0 ≤ sizeLine; omega, _, rfl, by show 1 ≤ sizeLine; omega, _, rfl, by show 0 ≤ sizeLine; omega, _, rfl, by show 1 ≤ sizeLine; omega, _, rfl, by show 2 ≤ sizeLine; omega, _, rfl, by show 2 ≤ sizeLine; omega, _, rfl, by show 8 ≤ sizeLine; omega, _, rfl, _, _, rfl, rfl, _, _, rfl, rfl, ix8 rfl m0 m1 fun r hm => h _ _ (Rp.cons q (by decide +kernel) r hm)⟩
  | dict kvs => exact ⟨_, rfl, _, rfl, _, rfl, _, rfl, by show 1 ≤ sizeLine; omega, _, rfl, by show 0 ≤ sizeLine; omega, _, rfl, by show 1 ≤ sizeLine; omega, _, rfl, by show 0 ≤ sizeLine; omega, _, rfl, by show 1 ≤ sizeLine; omega, _, rfl, by show 2 ≤ sizeLine; omega, _, rfl, by show 2 ≤ sizeLine; omega, _, rfl, by show 8 ≤ sizeLine; omega, _, rfl, _, _, rfl, rfl, _, _, rfl, rfl, ix8 rfl m0 m1 fun r hm => h _ _ (Rp.cons q (by decide +kernel) r hm)⟩
  | str s => cases hs
  | int i => cases hi
  | bool b => cases hi
theorem rq4 (q : Rq ks l N M d B part far) (h : ∀ r fr, Rp ks l M B part far r → P (.d r) fr) {m : Int} (m0 : 2 ≤ m) (m1 : m < 10) (hs : isD part .str = false) : d_law_replacement_t4.f (rE part far m) (dk P R) := by
  unfold d_law_replacement_t4
  have sz : sizeLine = 16777216 := sizeLine_eq
  have n0 := q.n0
  have n1 := q.n1
  have tt := t1
  cases part with
  | int i =>
    have hi : i.natAbs < N := by have := q.p.lv; simp only [lvD, lfB] at this; exact of_decide_eq_true this
    have hl : i.natAbs.log2 < 150 := log_lt (by have := q.n2; omega)
    have hst : (Str.ofString (toString i)).length ≤ 42 + 1 ∧ ∀ c ∈ (Str.ofString (toString i)).cps.toList, c < 128 := intText_len (k := 42) (by omega) (i42 (by have := q.n2; omega))

    refine ⟨_, rfl, _, rfl, _, rfl, ?_⟩
    refine ⟨_, rfl, _, _, rfl, rfl, _, rfl, _, _, rfl, rfl, _, rfl, _, _, rfl, rfl, _, rfl, _, _, rfl, rfl, .inl ⟨rfl, rfl⟩, _, rfl, _, rfl, by omega, _, rfl, _, _, rfl, rfl, ⟨by decide, by decide, by decide⟩, _, _, rfl, rfl, _, rfl, _, _, rfl, rfl, .inr ⟨by decide, by decide⟩, _, rfl, by show 1 ≤ sizeLine; omega, _, rfl, by show 8 ≤ sizeLine; omega, _, rfl, _, _, rfl, rfl, _, _, rfl, rfl, ix8 rfl m0 m1 fun r hm => h _ _ ?_⟩
    simp only [List.mem_cons, List.not_mem_nil, or_false] at hm
    rcases hm with rfl | rfl | rfl | rfl | rfl | rfl | rfl | rfl
    · exact Rp.int q (by omega)
    · exact Rp.int q (by omega)
    · exact Rp.int q (by omega)
    · exact Rp.bool q _
    · exact Rp.str q (by have := q.l0; show (Str.ofString (toString i)).length ≤ _; omega) hst.2
    · exact Rp.int q (natAbs_add3 hi e30 n1)
    · exact Rp.int q (by omega)
    · exact Rp.one q
  | bool b =>
    have hb : (bI b).natAbs ≤ 1 := by cases b <;> decide
    refine ⟨_, rfl, _, rfl, _, rfl, ?_⟩
    refine ⟨_, rfl, _, _, rfl, rfl, _, rfl, _, _, rfl, rfl, _, rfl, _, _, rfl, rfl, _, rfl, _, _, rfl, rfl, .inl ⟨rfl, rfl⟩, _, rfl, _, rfl, _, rfl, _, _, rfl, rfl, ⟨by decide, by decide, by decide⟩, _, _, rfl, rfl, _, rfl, _, _, rfl, rfl, _, rfl, by show 1 ≤ sizeLine; omega, _, rfl, by show 8 ≤ sizeLine; omega, _, rfl, _, _, rfl, rfl, _, _, rfl, rfl, ix8 rfl m0 m1 fun r hm => h _ _ ?_⟩
    simp only [List.mem_cons, List.not_mem_nil, or_false] at hm
    rcases hm with rfl | rfl | rfl | rfl | rfl | rfl | rfl | rfl
    · exact Rp.int q (by omega)
    · exact Rp.int q (by omega)
    · exact Rp.int q (by omega)
    · exact Rp.bool q _
    · cases b
      · exact Rp.str q (s := "False") (by have := q.l0; show 5 ≤ _; omega) (by decide +kernel)
      · exact Rp.str q (s := "True") (by have := q.l0; show 4 ≤ _; omega) (by decide +kernel)
    · exact Rp.int q (natAbs_add3 (N := N) (by omega) e30 n1)
    · exact Rp.int q (by omega)
    · exact Rp.one q
  | str s => cases hs
  | none => exact ⟨_, rfl, _, rfl, _, rfl, rq5 q h m0 m1 rfl rfl⟩
  | list xs => exact ⟨_, rfl, _, rfl, _, rfl, rq5 q h m0 m1 rfl rfl⟩
  | tuple xs => exact ⟨_, rfl, _, rfl, _, rfl, rq5 q h m0 m1 rfl rfl⟩
  | dict xs => exact ⟨_, rfl, _, rfl, _, rfl, rq5 q h m0 m1 rfl rfl⟩
theorem rq3 (q : Rq ks l N M d B part far) (h : ∀ r fr, Rp ks l M B part far r → P (.d r) fr) {m : Int} (m0 : 2 ≤ m) (m1 : m < 10) : d_law_replacement_t3.f (rE part far m) (dk P R) := by
  unfold d_law_replacement_t3
  have sz : sizeLine = 16777216 := sizeLine_eq
  have l0 := q.l0
  have l1 := q.l1
  cases part with
  | str s =>
    have hs : s ∈ ks := by have := q.p.lv; simp only [lvD, lfB] at this; exact of_decide_eq_true this
    obtain ⟨sl, sa⟩ := q.p.kl s hs
    obtain ⟨ul, ua⟩ := upper_asc sa
    have c1 := cutS_length s (some 1) none
    have c2 := cutS_length s none (some (-1))
    have rl := rvStr_len s
    have ml := len_mul_leN (x := s) (n := 7) (L := l) (N := 7) sl (by omega)
    refine ⟨_, rfl, _, rfl, _, rfl, ?_⟩
    refine ⟨_, rfl, _, _, rfl, rfl, by show s.length + 1 ≤ sizeLine; omega, _, rfl, _, rfl, _, rfl, by omega, _, rfl, by omega, _, rfl, _, _, rfl, rfl, by show s.length + 1 ≤ sizeLine; omega, ?_⟩
    refine ⟨_, rfl, _, rfl, _, rfl, _, rfl, by omega, _, _, rfl, rfl, by show (cutS s none (some (-1))).length + 1 ≤ sizeLine; omega, _, rfl, by show 1 ≤ sizeLine; omega, _, rfl, _, _, rfl, rfl, mulOk_7 (by omega), _, rfl, _, rfl, by omega, _, rfl, by show 8 ≤ sizeLine; omega, ?_⟩
    refine ⟨_, rfl, _, rfl, _, _, rfl, rfl, _, _, rfl, rfl, ix8 rfl m0 m1 fun r hm => h _ _ ?_⟩
    simp only [List.mem_cons, List.not_mem_nil, or_false] at hm
    rcases hm with rfl | rfl | rfl | rfl | rfl | rfl | rfl | rfl
    · exact Rp.str q (by rw [strLen_append]; show s.length + 1 ≤ _; omega) (app_asc sa (by decide +kernel))
    · exact Rp.str q (by omega) fun c hc => sa c (cutS_mem hc)
    · exact Rp.str q (by omega) ua
    · exact Rp.str q (by rw [strLen_append]; show s.length + 1 ≤ _; omega) (app_asc sa (by decide +kernel))
    · exact Rp.str q (by rw [strLen_append]; show (cutS s none (some (-1))).length + 1 ≤ _; omega) (app_asc (fun c hc => sa c (cutS_mem hc)) (by decide +kernel))
    · exact Rp.one q
    · exact Rp.str q (by omega) fun c hc => sa c (mul_mem hc)
    · exact Rp.str q (by omega) fun c hc => sa c (Array.mem_toList_iff.mpr (rvStr_mem (Array.mem_toList_iff.mp hc)))
  | none => exact ⟨_, rfl, _, rfl, _, rfl, rq4 q h m0 m1 rfl⟩
  | int i => exact ⟨_, rfl, _, rfl, _, rfl, rq4 q h m0 m1 rfl⟩
  | bool b => exact ⟨_, rfl, _, rfl, _, rfl, rq4 q h m0 m1 rfl⟩
  | list xs => exact ⟨_, rfl, _, rfl, _, rfl, rq4 q h m0 m1 rfl⟩
  | tuple xs => exact ⟨_, rfl, _, rfl, _, rfl, rq4 q h m0 m1 rfl⟩
  | dict xs => exact ⟨_, rfl, _, rfl, _, rfl, rq4 q h m0 m1 rfl⟩
end
def pickL : List PyData := [.none, .bool true, .int 0, .int 1, .int 2, .str "", .str "a", .tuple [], .tuple [.str "a"], .list [], .dict [], .tuple [.tuple []], .tuple [.tuple [], .tuple [.str "a"]], .int ((10 : Int) ^ (39 : Int).toNat)]
theorem law_law_replacement : ∀ us P R, us.length = P_law_replacement.length → sp_law_replacement.f us P R → d_law_replacement.f (startE N_law_replacement us) (dk P R) := by
  have sz : sizeLine = 16777216 := sizeLine_eq
  rintro us P R - ⟨part, far, ks, l, N, M, d, B, rfl, q, h⟩
  rw [e_law_replacement]
  refine ⟨rfl, 10, rfl, by decide, by decide, fun m m0 m1 => ?_⟩
  unfold d_law_replacement_t1
  refine ⟨_, rfl, _, _, rfl, rfl, cEq (fun e => ⟨_, rfl, ?_⟩) fun e0 => ⟨_, rfl, ?_⟩⟩
  · refine ⟨_, rfl, by show 0 ≤ sizeLine; omega, _, rfl, by show 1 ≤ sizeLine; omega, _, rfl, by show 0 ≤ sizeLine; omega, _, rfl, by show 0 ≤ sizeLine; omega, _, rfl, by show 1 ≤ sizeLine; omega, _, rfl, by show 0 ≤ sizeLine; omega, _, rfl, by show 1 ≤ sizeLine; omega, _, rfl, by show 2 ≤ sizeLine; omega, _, _, rfl, rfl, ⟨by decide, by decide, by decide⟩, _, rfl, by show 14 ≤ sizeLine; omega, rfl, .inr ⟨pickL, .inl rfl, by decide, by show 14 ≤ sizeLine; omega, fun y hy => h _ _ (Rp.cons q (L := pickL) (by decide +kernel) y hy)⟩⟩
  unfold d_law_replacement_t2
  refine ⟨_, rfl, _, _, rfl, rfl, cEq (fun e => ⟨_, rfl, ?_⟩) fun e1 => ⟨_, rfl, ?_⟩⟩
  · exact ⟨_, rfl, h _ _ (Rp.fr0 q)⟩
  exact rq3 q h (by omega) m1

/-! ### _law_modified -/
abbrev P_law_modified : List Str := ["_law_source_here", "_law_it"]
def N_law_modified : List Str := ["_law_source_here", "_law_it", "_law_paths_here", "_law_path", "_law_far"]
def d_law_modified : DS := sSeq (sSet 2 (dCall sp_law_paths (aLen 1 (aCons (dVar 1) (aNil))))) (sSeq (sPar 3 4 (dCall sp_law_pick (aLen 2 (aCons (dVar 0) (aCons (dVar 2) (aNil))))) (dCall sp_law_pick (aLen 2 (aCons (dVar 0) (aCons (dVar 2) (aNil)))))) (sRet (dCall sp_law_put (aLen 3 (aCons (dVar 1) (aCons (dVar 3) (aCons (dCall sp_law_replacement (aLen 3 (aCons (dVar 0) (aCons (dCall sp_law_at (aLen 2 (aCons (dVar 1) (aCons (dVar 3) (aNil))))) (aCons (dCall sp_law_at (aLen 2 (aCons (dVar 1) (aCons (dVar 4) (aNil))))) (aNil)))))) (aNil))))))))
def sp_law_modified : FSpec := ⟨d_law_modified.m, fun us P _ => ∃ (x : PyData) (ks : List Str) (l N M d w : Nat), us = [.deck, .d x] ∧ Pt ks l N d w x ∧ 6 ≤ l ∧ l ≤ 45 ∧ 2 < N ∧ 2 * N + 2 * T39 ≤ M ∧ M < T42 ∧ d ≤ 22 ∧ w ≤ 1400 ∧ ∀ y s, Pt (s :: ks) (7 * l + 3) M (2 * d + 2) (2 * w + 320) y → P (.d y) false⟩
theorem law_law_modified : ∀ us P R, us.length = P_law_modified.length → sp_law_modified.f us P R → d_law_modified.f (startE N_law_modified us) (dk P R) := by
  have sz : sizeLine = 16777216 := sizeLine_eq
  rintro us P R - ⟨x, ks, l, N, M, d, w, rfl, pt, l0, l1, n0, n1, n2, hd, hw, q⟩
  have dp := pt.dp
  have wt := pt.wt
  refine ⟨rfl, x, rfl, by show x.depth ≤ 23; omega, by show 23 ≤ 100; omega, by omega, fun L hL => ?_⟩
  have ln := hL.len
  have l0' : 0 < L.length := List.length_pos_iff.mpr hL.ne
  refine ⟨rfl, .inr ⟨L, .inl rfl, l0', by omega, fun p hp => ?_⟩⟩
  refine ⟨rfl, .inr ⟨L, .inl rfl, l0', by omega, fun p2 hp2 => ?_⟩⟩
  obtain ⟨ns, y, rfl, hy⟩ := hL.pl p hp
  obtain ⟨ms, far, rfl, hf⟩ := hL.pl p2 hp2
  have mem : ∀ {ns : List Nat} {y : PyData}, Pl x ns y → Pt ks l N d w y := fun a => ⟨pt.kl, pt.k3, a.ok.2.2 _ pt.lv, by have := a.ok.1; omega, by have := a.ok.2.1; omega⟩
  refine ⟨rfl, x, ns, y, rfl, hy, rfl, x, ms, far, rfl, hf, rfl, y, far, ks, l, N, M, d, w, rfl, ⟨mem hy, mem hf, l0, l1, n0, n1, n2, hw⟩, fun r fr hr => ⟨rfl, x, ns, y, r, rfl, by have := hy.ok.1; show ns.length ≤ 23; omega, hy, fun x' hx => ?_⟩⟩
  obtain ⟨s, hs⟩ := pt.put hy hf (by omega) hr hx
  exact q x' s hs

/-! ### _law_right -/
abbrev P_law_right : List Str := ["_law_it"]
def N_law_right : List Str := ["_law_it", "_law_kept", "_law_expected_here"]
def d_law_right : DS := sSeq (sPar 1 2 (dBif .repr (oSlot 0)) (dCall sp_law_expected (aLen 1 (aCons (dVar 0) (aNil))))) (sRet (dAnd (dCmp .eq (oE (dBif .repr (oE (dLst (aCons (dCall sp_is_scheme (aLen 1 (aCons (dVar 0) (aNil)))) (aCons (dCall sp_is_scheme (aLen 1 (aCons (dVar 0) (aNil)))) (aNil))))))) (oE (dBif .repr (oE (dBin .mul (oE (dLst (aCons (dVar 2) (aNil)))) (oE (dCon (.int 2)))))))) (dCmp .eq (oE (dBif .repr (oSlot 0))) (oSlot 1))))
structure Gk (ks : List Str) (x : PyData) : Prop where
  kl : ks.length < 64
  ok : Ok x 60 300000
  it : ∀ xs, x = .tuple xs → ∀ y ∈ xs, Fit ks y 59 4096
theorem gk_of {ks : List Str} {l N d w : Nat} {x : PyData} (h : Pt ks l N d w x) (hk : ks.length < 64) (hN : N ≤ 10 ^ 44) (hd : d ≤ 59) (hw : w ≤ 4096) : Gk ks x :=
  ⟨hk, (h.fit hN).ok.mono (by omega) (by omega), fun xs e y hy => ((h.item (y := y) (by rw [e]; exact hy)).fit hN).mono hd hw⟩
def sp_law_right : FSpec := ⟨d_law_right.m, fun us P _ => ∃ (x : PyData) (ks : List Str), us = [.d x] ∧ Gk ks x ∧ P (.d (.bool true)) false⟩
theorem Ok.bool2 (b : Bool) : Ok (.list [.bool b, .bool b]) 1 2 := by
  have := Ok.lst (xs := [PyData.bool b, .bool b]) (d := 0) (w := 0) (n := 2) (fun x hx => by
    have : x = .bool b := by simpa using hx
    rw [this]
    exact ⟨rfl, rfl, Nat.le_refl _, Nat.le_refl _⟩) (Nat.le_refl _)
  exact this
theorem law_law_right : ∀ us P R, us.length = P_law_right.length → sp_law_right.f us P R → d_law_right.f (startE N_law_right us) (dk P R) := by
  have sz : sizeLine = 16777216 := sizeLine_eq
  rintro us P R - ⟨x, ks, rfl, ⟨hk, ok, hf⟩, q⟩
  have b2 := Ok.bool2 (schB x)
  refine ⟨_, rfl, _, rfl, ok.sh, Nat.le_trans ok.dp (by omega), ok.shown (Nat.le_refl _), rfl, x, ks, rfl, hf, ?_⟩
  refine ⟨rfl, x, ks, rfl, hk, hf, rfl, x, ks, rfl, hk, hf, _, rfl, by show 2 ≤ sizeLine; omega, ?_⟩
  refine ⟨_, rfl, b2.sh, Nat.le_trans b2.dp (by omega), b2.shown (by omega), _, rfl, by show 1 ≤ sizeLine; omega, _, _, rfl, rfl, by omega, by omega, by show 1 * 2 ≤ sizeLine; omega, _, rfl, b2.sh, Nat.le_trans b2.dp (by omega), b2.shown (by omega), _, _, rfl, rfl, cEqS rfl ⟨_, rfl, ?_⟩⟩
  exact ⟨_, rfl, _, rfl, ok.sh, Nat.le_trans ok.dp (by omega), ok.shown (Nat.le_refl _), _, rfl, _, _, rfl, rfl, cEqS rfl q⟩

/-! ### law -/
abbrev P_law : List Str := ["_law_script"]
def N_law : List Str := ["_law_script", "_law_source_here", "_law_twice", "_law_turn", "_law_scheme_here", "_law_some_here", "_law_again", "_law_n", "_law_modified_here", "_law_it"]
def d_law : DS := sSeq (sSet 2 (dLc [7] [7] false (wRng1 (dCon (.int 30))) (kTrue) (dCmp .eq (oE (dCall sp_law_draw (aLen 2 (aCons (dVar 1) (aCons (dCon (.int 3)) (aNil)))))) (oE (dCon (.int 0)))))) (sSeq (sFor [3] false (wRng1 (dCon (.int 3))) (sSeq (sSet 4 (dCall sp_law_scheme (aLen 2 (aCons (dVar 1) (aCons (dCon (.int 5)) (aNil)))))) (sSeq (sSet 5 (dLst (aCons (dVar 4) (aNil)))) (sSeq (sFor [6] false (wE (dVar 2)) (sSeq (sSet 8 (dCall sp_law_modified (aLen 2 (aCons (dVar 1) (aCons (dVar 4) (aNil)))))) (sDrop (dMth .append (oSlot 5) (aCons (dIte (kVar 6) (dCall sp_law_modified (aLen 2 (aCons (dVar 1) (aCons (dVar 8) (aNil))))) (dVar 8)) (aNil)))))) (sIf (kOr (kE (dCmp .ne (oE (dLc [9] [9] false (wE (dBin .add (oSlot 5) (oE (dLst (aCons (dVar 4) (aNil)))))) (kNot (kE (dCall sp_law_right (aLen 1 (aCons (dVar 9) (aNil)))))) (dVar 9))) (oE (dLst (aNil))))) (kE (dCmp .notB (oE (dCall sp_is_scheme (aLen 1 (aCons (dVar 4) (aNil))))) (oE (dCon (.bool true)))))) (sRet (dCon (.bool false))) (sSkip)))))) (sRet (dCon (.bool true))))
theorem t44 : T42 ≤ 10 ^ 44 := by unfold T42; decide +kernel
theorem t3 : 2 * (2000 + 2 * T39) + 2 * T39 < T42 := by unfold T39 T42; decide +kernel
abbrev lwE (bs : List Bool) (w2 : Bool) (o3 o4 o5 o6 o7 o8 o9 : Option Ent) : En := [none, some ⟨false, .deck⟩, some ⟨w2, .d (.list (bs.map .bool))⟩, o3, o4, o5, o6, o7, o8, o9]
abbrev bodyT : DS := sSeq (sSet 8 (dCall sp_law_modified (aLen 2 (aCons (dVar 1) (aCons (dVar 4) (aNil)))))) (sDrop (dMth .append (oSlot 5) (aCons (dIte (kVar 6) (dCall sp_law_modified (aLen 2 (aCons (dVar 1) (aCons (dVar 8) (aNil))))) (dVar 8)) (aNil))))
theorem body_turn {p : Int} {sv cl : List Str} {ob ft : List (List Str)} (D : Drawn 5 p sv cl ob ft) {bs : List Bool} {b : Bool} {L : List PyData} (hL : L.length ≤ 1000) (hg : ∀ x ∈ L, ∃ ks, Gk ks x) {o3 o7 o8 o9 : Option Ent} {K : DK}
    (hk : ∀ L' o8, L'.length = L.length + 1 → (∀ x ∈ L', ∃ ks, Gk ks x) → K.nx (lwE bs false o3 (some ⟨false, .d (sch p sv cl ob ft)⟩) (some ⟨true, .d (.list L')⟩) (some ⟨false, .d (.bool b)⟩) o7 o8 o9)) :
    bodyT.f (lwE bs false o3 (some ⟨false, .d (sch p sv cl ob ft)⟩) (some ⟨true, .d (.list L)⟩) (some ⟨false, .d (.bool b)⟩) o7 o8 o9) K := by
  have sz : sizeLine = 16777216 := sizeLine_eq
  have t3 := t3
  have t44 := t44
  have kl := kz_len D (Nat.le_refl _)
  refine ⟨rfl, sch p sv cl ob ft, kz sv cl, 6, 1000, 2000 + 2 * T39, 3, 520, rfl, D.pt, by omega, by omega, by omega, by omega, by omega, by omega, by omega, fun y s hy => ?_⟩
  refine ⟨_, rfl, ⟨_, rfl⟩, _, rfl, ?_⟩
  have app : ∀ {z : PyData}, (∃ ks, Gk ks z) → ∀ x ∈ L ++ [z], ∃ ks, Gk ks x := fun hz x hx => (List.mem_append.mp hx).elim (hg x) fun e => by rw [List.mem_singleton.mp e]; exact hz
  cases b with
  | true =>
    refine ⟨rfl, y, s :: kz sv cl, 7 * 6 + 3, 2000 + 2 * T39, 2 * (2000 + 2 * T39) + 2 * T39, 2 * 3 + 2, 2 * 520 + 320, rfl, hy, by omega, by omega, by omega, by omega, by omega, by omega, by omega, fun y2 s2 hy2 => ?_⟩
    exact ⟨_, rfl, _, _, rfl, rfl, by omega, hk _ _ (by rw [List.length_append]; rfl) (app ⟨_, gk_of hy2 (by rw [List.length_cons, List.length_cons]; omega) (by omega) (by omega) (by omega)⟩)⟩
  | false =>
    exact ⟨_, rfl, _, _, rfl, rfl, by omega, hk _ _ (by rw [List.length_append]; rfl) (app ⟨_, gk_of hy (by rw [List.length_cons]; omega) (by omega) (by omega) (by omega)⟩)⟩
theorem law_law : ∀ (P : U → Bool → Prop) (R : RK), P (.d (.bool true)) false → d_law.f (none :: some ⟨false, .deck⟩ :: List.replicate 8 none) (dk P R) := by
  have sz : sizeLine = 16777216 := sizeLine_eq
  intro P R q
  refine ⟨_, rfl, by omega, by omega, lcL_ix (fun i acc ρ => ∃ bs : List Bool, acc = bs.map .bool ∧ bs.length = i ∧ ∃ o7, ρ = [none, some ⟨false, .deck⟩, none, none, none, none, none, o7, none, none]) ⟨[], rfl, rfl, _, rfl⟩ ?_ ?_⟩
  · rintro i x acc ρ k hx ⟨bs, rfl, hb, o7, rfl⟩ h1 -
    refine ⟨rfl, 3, rfl, by decide, by decide, fun d d0 d1 => ⟨_, _, rfl, rfl, .inl ⟨rfl, rfl⟩, _, rfl, h1 _ _ ⟨bs ++ [PyData.eqv (.int d) (.int 0)], by rw [List.map_append]; rfl, by rw [List.length_append, hb]; rfl, _, rfl⟩⟩⟩
  rintro acc ρ' ⟨bs, rfl, hb, o7, rfl⟩
  rw [range_len] at hb
  refine ⟨_, rfl, by omega, by omega, forL_ix (fun i ρ => ∃ w2 o3 o4 o5 o6 o7 o8 o9, ρ = lwE bs w2 o3 o4 o5 o6 o7 o8 o9) ⟨_, _, _, _, _, _, _, _, rfl⟩ ?_ ?_⟩
  · rintro i x ρ k hx ⟨w2, o3, o4, o5, o6, o7, o8, o9, rfl⟩ hk
    refine ⟨rfl, 5, rfl, by omega, by omega, fun p sv cl ob ft D => ⟨_, rfl, by show 1 ≤ sizeLine; omega, ?_⟩⟩
    have G := D.good (by omega)
    have gs := good_sch G
    have kl := kz_len D (Nat.le_refl _)
    have gsc : Gk (kz sv cl) (sch p sv cl ob ft) := gk_of D.pt (by omega) (by decide +kernel) (by omega) (by omega)
    have run : (sSeq (sFor [6] false (wE (dVar 2)) bodyT) (sIf (kOr (kE (dCmp .ne (oE (dLc [9] [9] false (wE (dBin .add (oSlot 5) (oE (dLst (aCons (dVar 4) (aNil)))))) (kNot (kE (dCall sp_law_right (aLen 1 (aCons (dVar 9) (aNil)))))) (dVar 9))) (oE (dLst (aNil))))) (kE (dCmp .notB (oE (dCall sp_is_scheme (aLen 1 (aCons (dVar 4) (aNil))))) (oE (dCon (.bool true)))))) (sRet (dCon (.bool false))) (sSkip))).f (lwE bs w2 (some ⟨false, .d x⟩) (some ⟨false, .d (sch p sv cl ob ft)⟩) (some ⟨true, .d (.list [sch p sv cl ob ft])⟩) o6 o7 o8 o9) { dk P R with nx := k, ct := k, bk := fun ρ => (sRet (dCon (.bool true))).f ρ (dk P R) } := by
      have loop : ∀ {K : DK}, (∀ L o6 o7 o8 o9, L.length ≤ 1000 → (∀ x ∈ L, ∃ ks, Gk ks x) → K.nx (lwE bs false (some ⟨false, .d x⟩) (some ⟨false, .d (sch p sv cl ob ft)⟩) (some ⟨true, .d (.list L)⟩) o6 o7 o8 o9)) →
          (sFor [6] false (wE (dVar 2)) bodyT).f (lwE bs w2 (some ⟨false, .d x⟩) (some ⟨false, .d (sch p sv cl ob ft)⟩) (some ⟨true, .d (.list [sch p sv cl ob ft])⟩) o6 o7 o8 o9) K := by
        intro K hK
        have go : forL (fun z ρ' k => bindT [6] false z ρ' fun ρ2 => bodyT.f ρ2 { K with nx := k, ct := k, bk := K.nx }) (bs.map .bool) (lwE bs false (some ⟨false, .d x⟩) (some ⟨false, .d (sch p sv cl ob ft)⟩) (some ⟨true, .d (.list [sch p sv cl ob ft])⟩) o6 o7 o8 o9) K.nx := by
          refine forL_ix (fun i ρ => ∃ L o6 o7 o8 o9, ρ = lwE bs false (some ⟨false, .d x⟩) (some ⟨false, .d (sch p sv cl ob ft)⟩) (some ⟨true, .d (.list L)⟩) o6 o7 o8 o9 ∧ L.length = i + 1 ∧ ∀ x ∈ L, ∃ ks, Gk ks x) ⟨_, _, _, _, _, rfl, rfl, fun x hx => ⟨kz sv cl, by rw [List.mem_singleton.mp hx]; exact gsc⟩⟩ ?_ ?_
          · rintro i z ρ k hz ⟨L, o6, o7, o8, o9, rfl, hl, hg⟩ hk
            rw [List.getElem?_map] at hz
            cases e : bs[i]? with
            | none => rw [e] at hz; cases hz
            | some b =>
              rw [e] at hz
              cases hz
              have hi := (List.getElem?_eq_some_iff.mp e).1
              exact body_turn D (by omega) hg fun L' o8 h1 h2 => hk _ ⟨L', _, _, _, _, rfl, by omega, h2⟩
          · rintro ρ' ⟨L, o6, o7, o8, o9, rfl, hl, hg⟩
            rw [List.length_map] at hl
            exact hK L _ _ _ _ (by omega) hg
        cases w2 <;> exact ⟨_, rfl, go⟩
      refine loop fun L o6 o7 o8 o9 hl hg => ?_
      refine ⟨_, rfl, _, rfl, by show 1 ≤ sizeLine; omega, _, _, rfl, rfl, by show L.length + 1 ≤ sizeLine; omega, _, rfl, ?_⟩
      refine lcL_pure (fun _ => false) id (fun ρ => ∃ o9, ρ = lwE bs false (some ⟨false, .d x⟩) (some ⟨false, .d (sch p sv cl ob ft)⟩) (some ⟨true, .d (.list L)⟩) o6 o7 o8 o9) ⟨_, rfl⟩ ?_ ?_
      · rintro z hz ρ k2 ⟨o9, rfl⟩ hk2
        have A : ∃ ks, Gk ks z := by
          rcases List.mem_append.mp hz with hz | hz
          · exact hg z hz
          · exact ⟨kz sv cl, by rw [List.mem_singleton.mp hz]; exact gsc⟩
        obtain ⟨ks, A⟩ := A
        exact ⟨rfl, z, ks, rfl, A, _, rfl, hk2 _ ⟨_, rfl⟩⟩
      · rintro ρ' ⟨o9, rfl⟩
        refine ⟨_, rfl, by show 0 ≤ sizeLine; omega, _, _, rfl, rfl, cNilN ?_⟩
        have e : ∀ xs : List PyData, (([] : List PyData) ++ ((xs.filter fun _ => false).map id)).isEmpty = true := fun xs => by simp
        rw [e]
        refine ⟨_, rfl, rfl, _, _, rfl, gsc.kl, gsc.it, ?_⟩
        rw [gs]
        exact ⟨_, _, rfl, rfl, _, rfl, hk _ ⟨_, _, _, _, _, _, _, _, rfl⟩⟩
    exact run
  · rintro ρ' ⟨w2, o3, o4, o5, o6, o7, o8, o9, rfl⟩
    exact q

end G9

namespace G9
open PySem PySem.Spec L2 PyProof.Rows

def topS (i : Nat) : Stmt := PySem.Challenge.pw_lotkept_k04_modified_schemes.main.body.getD i (.Pass ⟨0, 0, 0, 0⟩)
structure Mg (mg : Str → Option Value) : Prop where
  c_FIELD_COUNT : ∃ t, mg "FIELD_COUNT" = some (.int 5 t)
  c_LETTERS : ∃ t, mg "LETTERS" = some (.str "abcdefghijklmnopqrstuvwxyz" t)
  c_MAX_NAME_LENGTH : ∃ t, mg "MAX_NAME_LENGTH" = some (.int 6 t)
  c_MAX_PRIME : ∃ t, mg "MAX_PRIME" = some (.int 997 t)
  c_MIN_PRIME : ∃ t, mg "MIN_PRIME" = some (.int 2 t)
  c_MIN_SERVERS : ∃ t, mg "MIN_SERVERS" = some (.int 2 t)
  n_all : mg "all" = none
  n_any : mg "any" = none
  n_bool : mg "bool" = none
  n_dict : mg "dict" = none
  n_enumerate : mg "enumerate" = none
  n_int : mg "int" = none
  n_isinstance : mg "isinstance" = none
  n_len : mg "len" = none
  n_list : mg "list" = none
  n_range : mg "range" = none
  n_repr : mg "repr" = none
  n_sorted : mg "sorted" = none
  n_str : mg "str" = none
  n_tuple : mg "tuple" = none
  n_zip : mg "zip" = none
/-! ### is_integer -/
abbrev s_is_integer : Stmt := topS 3
theorem sc_is_integer : FnScope N_is_integer P_is_integer (defScope s_is_integer) := ⟨rfl, rfl, rfl, by decide +kernel, rfl, by decide +kernel, by decide +kernel⟩
theorem jb_is_integer {P : Program} {w : World} {K : PySem.W.Frag} {mg : Str → Option Value} {base : Heap} {Wp : Wk → Prop} (m : Mg mg) {f : Addr} {cdv : Value} {A : Around} {outer : List Env} {s : Shared} {H : Hp} {E : XK}
    (hr : RmG 0 (A.deeper (envOfC "is_integer" (defScope s_is_integer) s.heap.objs.size f cdv))) (g : Gx (cxOf CX0 P w K mg base N_is_integer "is_integer" (defScope s_is_integer) f cdv A outer s H E)) :
    JB Wp E (cxOf CX0 P w K mg base N_is_integer "is_integer" (defScope s_is_integer) f cdv A outer s H E) (defBody s_is_integer) d_is_integer :=
  sOne (sRet0 (jAnd (qIsi .int m.n_isinstance m.n_int (qO 0)) (jAnd1 (jNot (qIsi .bool m.n_isinstance m.n_bool (qO 0))))))
theorem cal_is_integer {P : Program} {w : World} {K : PySem.W.Frag} {mg : Str → Option Value} {base : Heap} {Wp : Wk → Prop} (m : Mg mg) {f : Addr} {fd : FuncData} (F : Fun K "is_integer" "is_integer" s_is_integer f fd) (hm : mg "is_integer" = some (.ref f)) : Cal P w K mg base CX0 Wp 1 "is_integer" s_is_integer P_is_integer sp_is_integer :=
  cal_of F hm sc_is_integer (fun cdv A outer s H E hr g => jb_is_integer m hr g) (Nat.le_refl _) law_is_integer
/-! ### is_name -/
abbrev s_is_name : Stmt := topS 4
theorem sc_is_name : FnScope N_is_name P_is_name (defScope s_is_name) := ⟨rfl, rfl, rfl, by decide +kernel, rfl, by decide +kernel, by decide +kernel⟩
theorem jb_is_name {P : Program} {w : World} {K : PySem.W.Frag} {mg : Str → Option Value} {base : Heap} {Wp : Wk → Prop} (m : Mg mg) {f : Addr} {cdv : Value} {A : Around} {outer : List Env} {s : Shared} {H : Hp} {E : XK}
    (hr : RmG 0 (A.deeper (envOfC "is_name" (defScope s_is_name) s.heap.objs.size f cdv))) (g : Gx (cxOf CX0 P w K mg base N_is_name "is_name" (defScope s_is_name) f cdv A outer s H E)) :
    JB Wp E (cxOf CX0 P w K mg base N_is_name "is_name" (defScope s_is_name) f cdv A outer s H E) (defBody s_is_name) d_is_name :=
  sCons (sIf0 (kW (kOrC (kNotC (qkOf (qIsi .str m.n_isinstance m.n_str (qO 0)))) (kOr1 (kNotC (qkCmp2 .le .le g (oOf (jInt)) (oOf (qBif .len g m.n_len (qO 0))) (oOf (qGI m.c_MAX_NAME_LENGTH))))))) (sOne (sRet0 (jBl))) (sNil)) (sOne (sRet0 (qBif .all g m.n_all (oOf (qLc [("character", 1)] [1] g (wSeq (qV 0)) (fun _ _ _ _ _ => qgN (g.blk _ _ _ _ _) 1) (fun _ _ _ _ _ => kIfs0) (fun _ _ _ _ _ => qCmp .isIn (g.blk _ _ _ _ _) (qO 1) (oOf (qGS m.c_LETTERS))) (by show blkC N_is_name (defScope s_is_name) _ _ = true; decide +kernel))))))
theorem cal_is_name {P : Program} {w : World} {K : PySem.W.Frag} {mg : Str → Option Value} {base : Heap} {Wp : Wk → Prop} (m : Mg mg) {f : Addr} {fd : FuncData} (F : Fun K "is_name" "is_name" s_is_name f fd) (hm : mg "is_name" = some (.ref f)) : Cal P w K mg base CX0 Wp 1 "is_name" s_is_name P_is_name sp_is_name :=
  cal_of F hm sc_is_name (fun cdv A outer s H E hr g => jb_is_name m hr g) (Nat.le_refl _) law_is_name
/-! ### is_ascending -/
abbrev s_is_ascending : Stmt := topS 5
theorem sc_is_ascending : FnScope N_is_ascending P_is_ascending (defScope s_is_ascending) := ⟨rfl, rfl, rfl, by decide +kernel, rfl, by decide +kernel, by decide +kernel⟩
theorem jb_is_ascending {P : Program} {w : World} {K : PySem.W.Frag} {mg : Str → Option Value} {base : Heap} {Wp : Wk → Prop} (m : Mg mg) {f : Addr} {cdv : Value} {A : Around} {outer : List Env} {s : Shared} {H : Hp} {E : XK}
    (hr : RmG 0 (A.deeper (envOfC "is_ascending" (defScope s_is_ascending) s.heap.objs.size f cdv))) (g : Gx (cxOf CX0 P w K mg base N_is_ascending "is_ascending" (defScope s_is_ascending) f cdv A outer s H E)) :
    JB Wp E (cxOf CX0 P w K mg base N_is_ascending "is_ascending" (defScope s_is_ascending) f cdv A outer s H E) (defBody s_is_ascending) d_is_ascending :=
  sOne (sRet0 (qBif .all g m.n_all (oOf (qLc [("first", 1), ("second", 2)] [1, 2] g (qZipS g m.n_zip (jSli (qO 0) (pNone) (pSome (jNeg (oOf (jInt))))) (jSli (qO 0) (pSome (jInt)) (pNone))) (fun _ _ _ _ _ => qgT (g.blk _ _ _ _ _) (qgs (qgN (g.blk _ _ _ _ _) 1) (qgs (qgN (g.blk _ _ _ _ _) 2) (gNilN)))) (fun _ _ _ _ _ => kIfs0) (fun _ _ _ _ _ => qCmp .lt (g.blk _ _ _ _ _) (qO 1) (qO 2)) (by show blkC N_is_ascending (defScope s_is_ascending) _ _ = true; decide +kernel)))))
theorem cal_is_ascending {P : Program} {w : World} {K : PySem.W.Frag} {mg : Str → Option Value} {base : Heap} {Wp : Wk → Prop} (m : Mg mg) {f : Addr} {fd : FuncData} (F : Fun K "is_ascending" "is_ascending" s_is_ascending f fd) (hm : mg "is_ascending" = some (.ref f)) : Cal P w K mg base CX0 Wp 1 "is_ascending" s_is_ascending P_is_ascending sp_is_ascending :=
  cal_of F hm sc_is_ascending (fun cdv A outer s H E hr g => jb_is_ascending m hr g) (Nat.le_refl _) law_is_ascending
/-! ### is_party_set -/
abbrev s_is_party_set : Stmt := topS 6
theorem sc_is_party_set : FnScope N_is_party_set P_is_party_set (defScope s_is_party_set) := ⟨rfl, rfl, rfl, by decide +kernel, rfl, by decide +kernel, by decide +kernel⟩
theorem jb_is_party_set {P : Program} {w : World} {K : PySem.W.Frag} {mg : Str → Option Value} {base : Heap} {Wp : Wk → Prop} (m : Mg mg) (c_is_name : Cal P w K mg base CX0 Wp 1 "is_name" s_is_name P_is_name sp_is_name) (c_is_ascending : Cal P w K mg base CX0 Wp 1 "is_ascending" s_is_ascending P_is_ascending sp_is_ascending) {f : Addr} {cdv : Value} {A : Around} {outer : List Env} {s : Shared} {H : Hp} {E : XK}
    (hr : RmG 1 (A.deeper (envOfC "is_party_set" (defScope s_is_party_set) s.heap.objs.size f cdv))) (g : Gx (cxOf CX0 P w K mg base N_is_party_set "is_party_set" (defScope s_is_party_set) f cdv A outer s H E)) :
    JB Wp E (cxOf CX0 P w K mg base N_is_party_set "is_party_set" (defScope s_is_party_set) f cdv A outer s H E) (defBody s_is_party_set) d_is_party_set :=
  sOne (sRet0 (jAnd (qIsi .tuple m.n_isinstance m.n_tuple (qO 0)) (jAnd (qBif .all g m.n_all (oOf (qLc [("name", 1)] [1] g (wSeq (qV 0)) (fun _ _ _ _ _ => qgN (g.blk _ _ _ _ _) 1) (fun _ _ _ _ _ => kIfs0) (fun _ _ _ _ _ => qCall hr c_is_name pass0G (fun _ _ _ _ _ _ us hl => match us, hl with | [_], _ => rfl) (qaCons (qV 1) (aNil0))) (by show blkC N_is_party_set (defScope s_is_party_set) _ _ = true; decide +kernel)))) (jAnd1 (qCall hr c_is_ascending pass0G (fun _ _ _ _ _ _ us hl => match us, hl with | [_], _ => rfl) (qaCons (qV 0) (aNil0)))))))
theorem cal_is_party_set {P : Program} {w : World} {K : PySem.W.Frag} {mg : Str → Option Value} {base : Heap} {Wp : Wk → Prop} (m : Mg mg) (c_is_name : Cal P w K mg base CX0 Wp 1 "is_name" s_is_name P_is_name sp_is_name) (c_is_ascending : Cal P w K mg base CX0 Wp 1 "is_ascending" s_is_ascending P_is_ascending sp_is_ascending) {f : Addr} {fd : FuncData} (F : Fun K "is_party_set" "is_party_set" s_is_party_set f fd) (hm : mg "is_party_set" = some (.ref f)) : Cal P w K mg base CX0 Wp 2 "is_party_set" s_is_party_set P_is_party_set sp_is_party_set :=
  cal_of F hm sc_is_party_set (fun cdv A outer s H E hr g => jb_is_party_set m c_is_name c_is_ascending hr g) (Nat.le_refl _) law_is_party_set
/-! ### is_subset -/
abbrev s_is_subset : Stmt := topS 7
theorem sc_is_subset : FnScope N_is_subset P_is_subset (defScope s_is_subset) := ⟨rfl, rfl, rfl, by decide +kernel, rfl, by decide +kernel, by decide +kernel⟩
theorem jb_is_subset {P : Program} {w : World} {K : PySem.W.Frag} {mg : Str → Option Value} {base : Heap} {Wp : Wk → Prop} (m : Mg mg) {f : Addr} {cdv : Value} {A : Around} {outer : List Env} {s : Shared} {H : Hp} {E : XK}
    (hr : RmG 0 (A.deeper (envOfC "is_subset" (defScope s_is_subset) s.heap.objs.size f cdv))) (g : Gx (cxOf CX0 P w K mg base N_is_subset "is_subset" (defScope s_is_subset) f cdv A outer s H E)) :
    JB Wp E (cxOf CX0 P w K mg base N_is_subset "is_subset" (defScope s_is_subset) f cdv A outer s H E) (defBody s_is_subset) d_is_subset :=
  sOne (sRet0 (qBif .all g m.n_all (oOf (qLc [("name", 2)] [2] g (wSeq (qV 0)) (fun _ _ _ _ _ => qgN (g.blk _ _ _ _ _) 2) (fun _ _ _ _ _ => kIfs0) (fun _ _ _ _ _ => qCmp .isIn (g.blk _ _ _ _ _) (qO 2) (qO 1)) (by show blkC N_is_subset (defScope s_is_subset) _ _ = true; decide +kernel)))))
theorem cal_is_subset {P : Program} {w : World} {K : PySem.W.Frag} {mg : Str → Option Value} {base : Heap} {Wp : Wk → Prop} (m : Mg mg) {f : Addr} {fd : FuncData} (F : Fun K "is_subset" "is_subset" s_is_subset f fd) (hm : mg "is_subset" = some (.ref f)) : Cal P w K mg base CX0 Wp 1 "is_subset" s_is_subset P_is_subset sp_is_subset :=
  cal_of F hm sc_is_subset (fun cdv A outer s H E hr g => jb_is_subset m hr g) (Nat.le_refl _) law_is_subset
/-! ### union -/
abbrev s_union : Stmt := topS 8
theorem sc_union : FnScope N_union P_union (defScope s_union) := ⟨rfl, rfl, rfl, by decide +kernel, rfl, by decide +kernel, by decide +kernel⟩
theorem jb_union {P : Program} {w : World} {K : PySem.W.Frag} {mg : Str → Option Value} {base : Heap} {Wp : Wk → Prop} (m : Mg mg) {f : Addr} {cdv : Value} {A : Around} {outer : List Env} {s : Shared} {H : Hp} {E : XK}
    (hr : RmG 0 (A.deeper (envOfC "union" (defScope s_union) s.heap.objs.size f cdv))) (g : Gx (cxOf CX0 P w K mg base N_union "union" (defScope s_union) f cdv A outer s H E)) :
    JB Wp E (cxOf CX0 P w K mg base N_union "union" (defScope s_union) f cdv A outer s H E) (defBody s_union) d_union :=
  sOne (sRet0 (qBif .tuple g m.n_tuple (oOf (qUni 1 2 [("names", 1), ("name", 2)] g m.n_sorted (qV 0) (fun _ _ _ _ _ => qgN (g.blk _ _ _ _ _) 1) (fun _ _ _ _ _ => qTV 1) (fun _ _ _ _ _ => qgN (g.blk _ _ _ _ _) 2) (fun _ _ _ _ _ => qTV 2) (by show blkC N_union (defScope s_union) _ _ = true; decide +kernel)))))
theorem cal_union {P : Program} {w : World} {K : PySem.W.Frag} {mg : Str → Option Value} {base : Heap} {Wp : Wk → Prop} (m : Mg mg) {f : Addr} {fd : FuncData} (F : Fun K "union" "union" s_union f fd) (hm : mg "union" = some (.ref f)) : Cal P w K mg base CX0 Wp 1 "union" s_union P_union sp_union :=
  cal_of F hm sc_union (fun cdv A outer s H E hr g => jb_union m hr g) (Nat.le_refl _) law_union
/-! ### is_prime -/
abbrev s_is_prime : Stmt := topS 14
theorem sc_is_prime : FnScope N_is_prime P_is_prime (defScope s_is_prime) := ⟨rfl, rfl, rfl, by decide +kernel, rfl, by decide +kernel, by decide +kernel⟩
theorem jb_is_prime {P : Program} {w : World} {K : PySem.W.Frag} {mg : Str → Option Value} {base : Heap} {Wp : Wk → Prop} (m : Mg mg) (c_is_integer : Cal P w K mg base CX0 Wp 1 "is_integer" s_is_integer P_is_integer sp_is_integer) {f : Addr} {cdv : Value} {A : Around} {outer : List Env} {s : Shared} {H : Hp} {E : XK}
    (hr : RmG 1 (A.deeper (envOfC "is_prime" (defScope s_is_prime) s.heap.objs.size f cdv))) (g : Gx (cxOf CX0 P w K mg base N_is_prime "is_prime" (defScope s_is_prime) f cdv A outer s H E)) :
    JB Wp E (cxOf CX0 P w K mg base N_is_prime "is_prime" (defScope s_is_prime) f cdv A outer s H E) (defBody s_is_prime) d_is_prime :=
  sCons (sIf0 (kW (kOrC (kNotC (qkOf (qCall hr c_is_integer pass0G (fun _ _ _ _ _ _ us hl => match us, hl with | [_], _ => rfl) (qaCons (qV 0) (aNil0))))) (kOr1 (kNotC (qkCmp2 .le .le g (oOf (qGI m.c_MIN_PRIME)) (qO 0) (oOf (qGI m.c_MAX_PRIME))))))) (sOne (sRet0 (jBl))) (sNil)) (sOne (sRet0 (qBif .all g m.n_all (oOf (qLc [("factor", 1)] [1] g (qR2 m.n_range (jInt) (qV 0)) (fun _ _ _ _ _ => qgN (g.blk _ _ _ _ _) 1) (fun _ _ _ _ _ => kIfs1 (qkCmp .le (g.blk _ _ _ _ _) (oOf (jMul (qO 1) (qO 1))) (qO 0))) (fun _ _ _ _ _ => qCmp .ne (g.blk _ _ _ _ _) (oOf (jMod (qO 0) (qO 1))) (oOf (jInt))) (by show blkC N_is_prime (defScope s_is_prime) _ _ = true; decide +kernel))))))
theorem cal_is_prime {P : Program} {w : World} {K : PySem.W.Frag} {mg : Str → Option Value} {base : Heap} {Wp : Wk → Prop} (m : Mg mg) (c_is_integer : Cal P w K mg base CX0 Wp 1 "is_integer" s_is_integer P_is_integer sp_is_integer) {f : Addr} {fd : FuncData} (F : Fun K "is_prime" "is_prime" s_is_prime f fd) (hm : mg "is_prime" = some (.ref f)) : Cal P w K mg base CX0 Wp 2 "is_prime" s_is_prime P_is_prime sp_is_prime :=
  cal_of F hm sc_is_prime (fun cdv A outer s H E hr g => jb_is_prime m c_is_integer hr g) (Nat.le_refl _) law_is_prime
/-! ### is_antichain -/
abbrev s_is_antichain : Stmt := topS 15
theorem sc_is_antichain : FnScope N_is_antichain P_is_antichain (defScope s_is_antichain) := ⟨rfl, rfl, rfl, by decide +kernel, rfl, by decide +kernel, by decide +kernel⟩
theorem jb_is_antichain {P : Program} {w : World} {K : PySem.W.Frag} {mg : Str → Option Value} {base : Heap} {Wp : Wk → Prop} (m : Mg mg) (c_is_subset : Cal P w K mg base CX0 Wp 1 "is_subset" s_is_subset P_is_subset sp_is_subset) {f : Addr} {cdv : Value} {A : Around} {outer : List Env} {s : Shared} {H : Hp} {E : XK}
    (hr : RmG 1 (A.deeper (envOfC "is_antichain" (defScope s_is_antichain) s.heap.objs.size f cdv))) (g : Gx (cxOf CX0 P w K mg base N_is_antichain "is_antichain" (defScope s_is_antichain) f cdv A outer s H E)) :
    JB Wp E (cxOf CX0 P w K mg base N_is_antichain "is_antichain" (defScope s_is_antichain) f cdv A outer s H E) (defBody s_is_antichain) d_is_antichain :=
  sOne (sRet0 (jNot (qBif .any g m.n_any (oOf (qLc2 [("first", 1), ("second", 2)] [1, 2] [2] g (wSeq (qV 0)) (fun _ _ _ _ _ => qgN (g.blk _ _ _ _ _) 1) (fun _ _ _ _ _ => kIfs0) (fun _ _ _ _ _ => wSeq (qV 0)) (fun _ _ _ _ _ => qgN (g.blk _ _ _ _ _) 2) (fun _ _ _ _ _ => kIfs1 (qkCmp .ne (g.blk _ _ _ _ _) (qO 1) (qO 2))) (fun _ _ _ _ _ => qCall hr c_is_subset pass0G (fun _ _ _ _ _ _ us hl => match us, hl with | [_, _], _ => rfl) (qaCons (qV 1) (qaCons (qV 2) (aNil0)))) (by show blkC N_is_antichain (defScope s_is_antichain) _ _ = true; decide +kernel))))))
theorem cal_is_antichain {P : Program} {w : World} {K : PySem.W.Frag} {mg : Str → Option Value} {base : Heap} {Wp : Wk → Prop} (m : Mg mg) (c_is_subset : Cal P w K mg base CX0 Wp 1 "is_subset" s_is_subset P_is_subset sp_is_subset) {f : Addr} {fd : FuncData} (F : Fun K "is_antichain" "is_antichain" s_is_antichain f fd) (hm : mg "is_antichain" = some (.ref f)) : Cal P w K mg base CX0 Wp 2 "is_antichain" s_is_antichain P_is_antichain sp_is_antichain :=
  cal_of F hm sc_is_antichain (fun cdv A outer s H E hr g => jb_is_antichain m c_is_subset hr g) (Nat.le_refl _) law_is_antichain
/-! ### are_server_sets -/
abbrev s_are_server_sets : Stmt := topS 16
theorem sc_are_server_sets : FnScope N_are_server_sets P_are_server_sets (defScope s_are_server_sets) := ⟨rfl, rfl, rfl, by decide +kernel, rfl, by decide +kernel, by decide +kernel⟩
theorem jb_are_server_sets {P : Program} {w : World} {K : PySem.W.Frag} {mg : Str → Option Value} {base : Heap} {Wp : Wk → Prop} (m : Mg mg) (c_is_party_set : Cal P w K mg base CX0 Wp 2 "is_party_set" s_is_party_set P_is_party_set sp_is_party_set) (c_is_ascending : Cal P w K mg base CX0 Wp 1 "is_ascending" s_is_ascending P_is_ascending sp_is_ascending) (c_is_antichain : Cal P w K mg base CX0 Wp 2 "is_antichain" s_is_antichain P_is_antichain sp_is_antichain) (c_is_subset : Cal P w K mg base CX0 Wp 1 "is_subset" s_is_subset P_is_subset sp_is_subset) (c_union : Cal P w K mg base CX0 Wp 1 "union" s_union P_union sp_union) {f : Addr} {cdv : Value} {A : Around} {outer : List Env} {s : Shared} {H : Hp} {E : XK}
    (hr : RmG 2 (A.deeper (envOfC "are_server_sets" (defScope s_are_server_sets) s.heap.objs.size f cdv))) (g : Gx (cxOf CX0 P w K mg base N_are_server_sets "are_server_sets" (defScope s_are_server_sets) f cdv A outer s H E)) :
    JB Wp E (cxOf CX0 P w K mg base N_are_server_sets "are_server_sets" (defScope s_are_server_sets) f cdv A outer s H E) (defBody s_are_server_sets) d_are_server_sets :=
  sCons (sIf0 (kW (kOrC (kNotC (qkOf (qIsi .tuple m.n_isinstance m.n_tuple (qO 1)))) (kOrC (qkEq0 g (qO 1)) (kOr1 (kNotC (qkOf (qBif .all g m.n_all (oOf (qLc [("names", 2)] [2] g (wSeq (qV 1)) (fun _ _ _ _ _ => qgN (g.blk _ _ _ _ _) 2) (fun _ _ _ _ _ => kIfs0) (fun _ _ _ _ _ => qCall hr c_is_party_set pass0G (fun _ _ _ _ _ _ us hl => match us, hl with | [_], _ => rfl) (qaCons (qV 2) (aNil0))) (by show blkC N_are_server_sets (defScope s_are_server_sets) _ _ = true; decide +kernel)))))))))) (sOne (sRet0 (jBl))) (sNil)) (sOne (sRet0 (jAnd (qCall hr c_is_ascending pass0G (fun _ _ _ _ _ _ us hl => match us, hl with | [_], _ => rfl) (qaCons (qV 1) (aNil0))) (jAnd (qCall hr c_is_antichain pass0G (fun _ _ _ _ _ _ us hl => match us, hl with | [_], _ => rfl) (qaCons (qV 1) (aNil0))) (jAnd1 (qCall hr c_is_subset pass0G (fun _ _ _ _ _ _ us hl => match us, hl with | [_, _], _ => rfl) (qaCons (qCall hr c_union pass0G (fun _ _ _ _ _ _ us hl => match us, hl with | [_], _ => rfl) (qaCons (qV 1) (aNil0))) (qaCons (qV 0) (aNil0)))))))))
theorem cal_are_server_sets {P : Program} {w : World} {K : PySem.W.Frag} {mg : Str → Option Value} {base : Heap} {Wp : Wk → Prop} (m : Mg mg) (c_is_party_set : Cal P w K mg base CX0 Wp 2 "is_party_set" s_is_party_set P_is_party_set sp_is_party_set) (c_is_ascending : Cal P w K mg base CX0 Wp 1 "is_ascending" s_is_ascending P_is_ascending sp_is_ascending) (c_is_antichain : Cal P w K mg base CX0 Wp 2 "is_antichain" s_is_antichain P_is_antichain sp_is_antichain) (c_is_subset : Cal P w K mg base CX0 Wp 1 "is_subset" s_is_subset P_is_subset sp_is_subset) (c_union : Cal P w K mg base CX0 Wp 1 "union" s_union P_union sp_union) {f : Addr} {fd : FuncData} (F : Fun K "are_server_sets" "are_server_sets" s_are_server_sets f fd) (hm : mg "are_server_sets" = some (.ref f)) : Cal P w K mg base CX0 Wp 3 "are_server_sets" s_are_server_sets P_are_server_sets sp_are_server_sets :=
  cal_of F hm sc_are_server_sets (fun cdv A outer s H E hr g => jb_are_server_sets m c_is_party_set c_is_ascending c_is_antichain c_is_subset c_union hr g) (Nat.le_refl _) law_are_server_sets
/-! ### is_scheme -/
abbrev s_is_scheme : Stmt := topS 17
theorem sc_is_scheme : FnScope N_is_scheme P_is_scheme (defScope s_is_scheme) := ⟨rfl, rfl, rfl, by decide +kernel, rfl, by decide +kernel, by decide +kernel⟩
theorem jb_is_scheme {P : Program} {w : World} {K : PySem.W.Frag} {mg : Str → Option Value} {base : Heap} {Wp : Wk → Prop} (m : Mg mg) (c_is_prime : Cal P w K mg base CX0 Wp 2 "is_prime" s_is_prime P_is_prime sp_is_prime) (c_is_party_set : Cal P w K mg base CX0 Wp 2 "is_party_set" s_is_party_set P_is_party_set sp_is_party_set) (c_are_server_sets : Cal P w K mg base CX0 Wp 3 "are_server_sets" s_are_server_sets P_are_server_sets sp_are_server_sets) (c_is_subset : Cal P w K mg base CX0 Wp 1 "is_subset" s_is_subset P_is_subset sp_is_subset) {f : Addr} {cdv : Value} {A : Around} {outer : List Env} {s : Shared} {H : Hp} {E : XK}
    (hr : RmG 3 (A.deeper (envOfC "is_scheme" (defScope s_is_scheme) s.heap.objs.size f cdv))) (g : Gx (cxOf CX0 P w K mg base N_is_scheme "is_scheme" (defScope s_is_scheme) f cdv A outer s H E)) :
    JB Wp E (cxOf CX0 P w K mg base N_is_scheme "is_scheme" (defScope s_is_scheme) f cdv A outer s H E) (defBody s_is_scheme) d_is_scheme :=
  sCons (sIf0 (kW (kOrC (kNotC (qkOf (qIsi .tuple m.n_isinstance m.n_tuple (qO 0)))) (kOr1 (qkCmp .ne g (oOf (qBif .len g m.n_len (qO 0))) (oOf (qGI m.c_FIELD_COUNT)))))) (sOne (sRet0 (jBl))) (sNil)) (sCons (qSetT g (qV 0) (qgT g (qgs (qgN g 1) (qgs (qgN g 2) (qgs (qgN g 3) (qgs (qgN g 4) (qgs (qgN g 5) (gNilN)))))))) (sCons (sIf0 (kW (kOrC (kNotC (qkOf (qCall hr c_is_prime pass0G (fun _ _ _ _ _ _ us hl => match us, hl with | [_], _ => rfl) (qaCons (qV 1) (aNil0))))) (kOrC (kNotC (qkOf (qCall hr c_is_party_set pass0G (fun _ _ _ _ _ _ us hl => match us, hl with | [_], _ => rfl) (qaCons (qV 2) (aNil0))))) (kOr1 (kNotC (qkOf (qCall hr c_is_party_set pass0G (fun _ _ _ _ _ _ us hl => match us, hl with | [_], _ => rfl) (qaCons (qV 3) (aNil0))))))))) (sOne (sRet0 (jBl))) (sNil)) (sCons (sIf0 (kW (kOrC (qkCmp .lt g (oOf (qBif .len g m.n_len (qO 2))) (oOf (qGI m.c_MIN_SERVERS))) (kOrC (qkCmp .eq g (qO 3) (oOf (jTup (aNil0)))) (kOr1 (qkOf (qBif .any g m.n_any (oOf (qLc [("name", 7)] [7] g (wSeq (qV 3)) (fun _ _ _ _ _ => qgN (g.blk _ _ _ _ _) 7) (fun _ _ _ _ _ => kIfs0) (fun _ _ _ _ _ => qCmp .isIn (g.blk _ _ _ _ _) (qO 7) (qO 2)) (by show blkC N_is_scheme (defScope s_is_scheme) _ _ = true; decide +kernel))))))))) (sOne (sRet0 (jBl))) (sNil)) (sCons (sIf0 (kW (kOrC (kNotC (qkOf (qCall hr c_are_server_sets pass0G (fun _ _ _ _ _ _ us hl => match us, hl with | [_, _], _ => rfl) (qaCons (qV 2) (qaCons (qV 4) (aNil0)))))) (kOr1 (kNotC (qkOf (qCall hr c_are_server_sets pass0G (fun _ _ _ _ _ _ us hl => match us, hl with | [_, _], _ => rfl) (qaCons (qV 2) (qaCons (qV 5) (aNil0))))))))) (sOne (sRet0 (jBl))) (sNil)) (sOne (sRet0 (qBif .all g m.n_all (oOf (qLc [("faulty", 6)] [6] g (wSeq (qV 5)) (fun _ _ _ _ _ => qgN (g.blk _ _ _ _ _) 6) (fun _ _ _ _ _ => kIfs0) (fun _ _ _ _ _ => qBif .any (g.blk _ _ _ _ _) m.n_any (oOf (qLc [("observing", 8)] [8] (g.blk _ _ _ _ _) (wSeq (qV 4)) (fun _ _ _ _ _ => qgN ((g.blk _ _ _ _ _).blk _ _ _ _ _) 8) (fun _ _ _ _ _ => kIfs0) (fun _ _ _ _ _ => qCall hr c_is_subset pass0G (fun _ _ _ _ _ _ us hl => match us, hl with | [_, _], _ => rfl) (qaCons (qV 6) (qaCons (qV 8) (aNil0)))) (by rfl)))) (by show blkC N_is_scheme (defScope s_is_scheme) _ _ = true; decide +kernel))))))))))
theorem cal_is_scheme {P : Program} {w : World} {K : PySem.W.Frag} {mg : Str → Option Value} {base : Heap} {Wp : Wk → Prop} (m : Mg mg) (c_is_prime : Cal P w K mg base CX0 Wp 2 "is_prime" s_is_prime P_is_prime sp_is_prime) (c_is_party_set : Cal P w K mg base CX0 Wp 2 "is_party_set" s_is_party_set P_is_party_set sp_is_party_set) (c_are_server_sets : Cal P w K mg base CX0 Wp 3 "are_server_sets" s_are_server_sets P_are_server_sets sp_are_server_sets) (c_is_subset : Cal P w K mg base CX0 Wp 1 "is_subset" s_is_subset P_is_subset sp_is_subset) {f : Addr} {fd : FuncData} (F : Fun K "is_scheme" "is_scheme" s_is_scheme f fd) (hm : mg "is_scheme" = some (.ref f)) : Cal P w K mg base CX0 Wp 4 "is_scheme" s_is_scheme P_is_scheme sp_is_scheme :=
  cal_of F hm sc_is_scheme (fun cdv A outer s H E hr g => jb_is_scheme m c_is_prime c_is_party_set c_are_server_sets c_is_subset hr g) (Nat.le_refl _) law_is_scheme
/-! ### _law_source -/
abbrev s_law_source : Stmt := topS 19
def spSrc (k1 k2 k3 : Str) (K : PySem.W.Frag) : Sp := fun vs H Q E => ∃ (a : Addr) (ns : List Int), vs = [.ref a] ∧ SqL K H a (ns.map V.int) ∧
  ∀ dk c H', Kp [] H H' → H dk = none → H c = none → DeckAt k1 k2 k3 dk c 0 H' → Q (.ref dk) H'
theorem cut63 (ns : List Int) : ∃ ms : List Int, cutV (ns.map V.int) none (some 63) = ms.map V.int ∧ ms.length ≤ 63 := by
  refine ⟨(ns.drop (HT.sIx ns.length 0 none)).take (HT.sIx ns.length ns.length (some 63) - HT.sIx ns.length 0 none), ?_, ?_⟩
  · unfold cutV
    rw [List.length_map, List.map_take, List.map_drop]
  · have h1 : HT.sIx ns.length ns.length (some 63) ≤ 63 := by
      have := HT.sIx_le (n := ns.length)
      simp only [HT.sIx]
      first | omega | (split <;> omega)
    rw [List.length_take]
    omega
def N_law_source : List Str := ["_law_script", "_law_cells", "_law_digest", "_law_cell"]
theorem sc_law_source : FnScope N_law_source P_law_source (defScope s_law_source) := ⟨rfl, rfl, rfl, by decide +kernel, rfl, by decide +kernel, by decide +kernel⟩
theorem sq_keep {K : PySem.W.Frag} {H H' : Hp} {p : Addr} {o : HO} (e : H' = upd H p o) (h : H p = none) {a : Addr} {xs : List V} (ha : H a = some (.lst xs)) : H' a = some (.lst xs) := by
  rw [e, upd_ne (ne_of_none ha h)]; exact ha
theorem tri_merge {k1 k2 k3 : Str} {a b c : V} (h1 : k1 ≠ k2) (h2 : k1 ≠ k3) (h3 : k2 ≠ k3) : mergeK [] (tri k1 k2 k3 a b c) = tri k1 k2 k3 a b c := by
  have e1 : ¬ (Sum.inr k1 : Key) = Sum.inr k2 := fun e => h1 (Sum.inr.inj e)
  have e2 : ¬ (Sum.inr k1 : Key) = Sum.inr k3 := fun e => h2 (Sum.inr.inj e)
  have e3 : ¬ (Sum.inr k2 : Key) = Sum.inr k3 := fun e => h3 (Sum.inr.inj e)
  simp [mergeK, tri, putK, e1, e2, e3]
theorem Kp.over {M : List Addr} {H H' : Hp} {p : Addr} {o : HO} (k : Kp M H H') (h : H p = none) : Kp M H (upd H' p o) := by
  have ne : ∀ a u, H a = some u → a ≠ p := fun a u e z => by rw [z, h] at e; cases e
  refine ⟨fun a u n e => ?_, fun a u e => ?_, fun a o' u e => ?_, fun a e => ?_⟩
  · rw [upd_ne (ne a _ e)]; exact k.same a u n e
  · rw [upd_ne (ne a _ e)]; exact k.tup a u e
  · rw [upd_ne (ne a _ e)]; exact k.frz a o' u e
  · by_cases z : a = p
    · rw [z, upd_same]; exact fun q => nomatch q
    · rw [upd_ne z]; exact k.liv a e
section
variable {P : Program} {w : World} {K : PySem.W.Frag} {mg : Str → Option Value} {base : Heap} {CX : CXT}
theorem fn_law_source {f : Addr} {fd : FuncData} (F : Fun K "_law_source" "_law_source" s_law_source f fd) (ml : mg "list" = none) : FnG P w K mg base CX 1 f fd P_law_source (spSrc "cells" "digest" "count" K) := by
  obtain ⟨oc, od, kV, doc, pm, an, cdv, ct, osl, e, lk, hcd⟩ := F.ex
  have D : Def K f fd "_law_source" (defBody s_law_source) (defScope s_law_source) cdv := ⟨⟨_, _, _, _, _, _, _, _, _, _, _, e, lk⟩, hcd⟩
  refine fnG_of D sc_law_source (fun {vs H Q E} ⟨a, ns, h, _⟩ => by rw [h]; rfl) fun A outer s H vs Q E hr sp => ?_
  have hu : (A.deeper (envOfC "_law_source" (defScope s_law_source) s.heap.objs.size f cdv)).units + 1 < cLine := hu_of hr.rm
  have nd := sc_law_source.nd
  refine ⟨_, pss_cons (ps_par (i := 1) (j := 2) rfl nd rfl rfl (by decide) rfl rfl
      (pa_cons (pe_callTy call_list_of (by rfl) ml (by rfl) (pa_cons (pe_slice sl_list (pv 0) po_none (po_some pe_int)) pa_nil)) (pa_cons pe_int pa_nil)) (by with_unfolding_all rfl))
    (pss_cons (ps_for owns_cx rfl (pi_list (pv 1)) (pg_name (i := 3) nd rfl (.inl rfl))
      (pss_one (ps_set (i := 2) nd rfl (.inl rfl) (pe_op op_modN (pe_op op_add (pe_op op_add (pe_op op_mul (pv 2) pe_int) (pe_op op_modN (pv 3) pe_int)) pe_int) pe_int))))
    (pss_one (ps_ret (pe_disp (pps_cons pe_str (pe_revL (pv 1)) (pps_cons pe_str (pv 2) (pps_cons pe_str pe_int pps_nil))) (by decide) (by decide) (by simp [defBody]) (by decide))))), ?_⟩
  obtain ⟨a, ns, rfl, ha, hq⟩ := sp
  obtain ⟨ms, em, hm⟩ := cut63 ns
  refine ⟨.ref a, rfl, 63, rfl, a, _, rfl, ha, fun p hp => ⟨p, _, rfl, .inl (SqL.of upd_same), fun l hl => ⟨_, _, rfl, ?_⟩⟩⟩
  rw [em]
  have lp : l ≠ p := fun z => by rw [z, upd_same] at hl; cases hl
  have c1 : (upd (upd H p (.lst (ms.map V.int))) l (.lst (ms.map V.int))) l = some (.lst (ms.map V.int)) := upd_same
  have k1 : Kp [] H (upd (upd H p (.lst (ms.map V.int))) l (.lst (ms.map V.int))) := (Kp.fresh hp).trans (Kp.fresh (by rw [← em]; exact hl))
  generalize upd (upd H p (.lst (ms.map V.int))) l (.lst (ms.map V.int)) = H1 at c1 k1
  have sl : SqL K H1 l (ms.map V.int) := SqL.of c1
  refine ⟨_, rfl, l, rfl, ⟨_, sl⟩, ?_⟩
  refine for_list (xs := ms.map V.int) (fun i σ H2 => H2 = H1 ∧ ∃ (dg : Int) (o : Option V), 0 ≤ dg ∧ dg < 4294967296 ∧ σ = [some (.ref a), some (.ref l), some (.int dg), o]) ⟨rfl, 30103, none, by decide, by decide, rfl⟩ (fun i σ H2 _ h => h.1 ▸ sl) ?_ ?_
  · rintro i x σ H2 hx ⟨rfl, dg, o, g1, g2, rfl⟩
    rw [List.getElem?_map] at hx
    obtain ⟨n, hn, rfl⟩ := Option.map_eq_some_iff.mp hx
    have z1 : (2147483587 : Int) ≠ 0 := by decide
    have z2 : (2147483629 : Int) ≠ 0 := by decide
    refine ⟨.int dg, rfl, dg, 39373, rfl, rfl, .inl ⟨by omega, by omega⟩, .int n, rfl, n, _, rfl, rfl, z1, _, _, rfl, rfl, _, 53, rfl, rfl, _, _, rfl, rfl, z2, ?_⟩
    obtain ⟨f1, f2⟩ := fmod_range (a := dg * 39373 + n.fmod 2147483587 + 53) (n := 2147483629) (by decide)
    exact ⟨rfl, _, some (.int n), f1, by omega, rfl⟩
  · rintro σ H2 ⟨rfl, dg, o, g1, g2, rfl⟩
    intro q hq0
    refine ⟨.ref l, rfl, l, _, rfl, SqL.of (by rw [upd_ne (ne_of_none c1 hq0)]; exact c1), fun c hc => ⟨.int dg, rfl, ?_⟩⟩
    have cq : c ≠ q := fun z => by rw [z, upd_same] at hc; cases hc
    refine ⟨by rw [upd_ne (Ne.symm cq)]; exact upd_same, tri "cells" "digest" "count" (.ref c) (.int dg) (.int 0), rfl, by show 3 ≤ 15; omega, ?_⟩
    rw [tri_merge (by decide) (by decide) (by decide)]
    have hc1 : H2 c = none := by rw [upd_ne cq] at hc; exact hc
    have z : ∀ b, H2 b = none → H b = none := fun b hb => Classical.byContradiction fun ne => k1.liv b ne hb
    refine hq q c _ (k1.trans ?_) (z q hq0) (z c hc1) ⟨ms.reverse, dg, 0, upd_same, ?_, by rw [List.length_reverse]; exact hm, g1, g2, by decide, by decide⟩
    · exact Kp.over ((Kp.fresh hq0).trans (Kp.fresh hc)) hq0
    · rw [upd_ne cq, upd_same, List.map_reverse]
end

/-! ### _law_draw -/
abbrev s_law_draw : Stmt := topS 20
def N_law_draw : List Str := ["_law_source_here", "_law_limit", "_law_cell", "_law_mixed"]
theorem sc_law_draw : FnScope N_law_draw P_law_draw (defScope s_law_draw) := ⟨rfl, rfl, rfl, by decide +kernel, rfl, by decide +kernel, by decide +kernel⟩
abbrev Wp02 : Wk → Prop := IsDeck "cells" "digest" "count"
section
variable {P : Program} {w : World} {K : PySem.W.Frag} {mg : Str → Option Value} {base : Heap} {CX : CXT}
theorem fn_law_draw {f : Addr} {fd : FuncData} (F : Fun K "_law_draw" "_law_draw" s_law_draw f fd) : FnG P w K mg base CX 1 f fd P_law_draw (spG Wp02 K mg 2 sp_law_draw) := by
  obtain ⟨oc, od, kV, doc, pm, an, cdv, ct, osl, e, lk, hcd⟩ := F.ex
  have D : Def K f fd "_law_draw" (defBody s_law_draw) (defScope s_law_draw) cdv := ⟨⟨_, _, _, _, _, _, _, _, _, _, _, e, lk⟩, hcd⟩
  refine fnG_of D sc_law_draw (fun {vs H Q E} ⟨W, M, us, P, R, _, _, _, _, _, h, _⟩ => h) fun A outer s H vs Q E hr sp => ?_
  have hu : (A.deeper (envOfC "_law_draw" (defScope s_law_draw) s.heap.objs.size f cdv)).units + 1 < cLine := hu_of hr.rm
  have hu64 : (A.deeper (envOfC "_law_draw" (defScope s_law_draw) s.heap.objs.size f cdv)).units + 64 < cLine := hr.rm.units
  have nd := sc_law_draw.nd
  refine ⟨_, pss_cons (ps_dput hu (pv 0) pe_str (pe_op op_add (pe_dget hu (pv 0) pe_str (by intro _ _; rfl)) pe_int) (by rfl))
    (pss_cons (ps_set (i := 2) nd rfl (.inl rfl) (pe_dget hu (pv 0) pe_str (by intro _ _; rfl)))
    (pss_cons (ps_if (pt_cmpR (op_neD hu64) (pe_dget hu (pv 0) pe_str (by intro _ _; rfl)) (pe_lst pa_nil) rfl)
      (pss_cons (ps_set (i := 2) nd rfl (.inl rfl) (pe_bm0 PySem.F.plainAttrs_list PySem.F.slot_list_pop PySem.F.type_list_pop mt_pop (pe_dget hu (pv 0) pe_str (by intro _ _; rfl))))
        (pss_cons (ps_if (pt_cmpR op_ge (pv 2) (pe_op op_pow pe_int pe_int) rfl)
          (pss_cons (ps_expr (pe_bm PySem.F.plainAttrs_list PySem.F.slot_list_append PySem.F.type_list_append mt_append (pe_dget hu (pv 0) pe_str (by intro _ _; rfl)) (pa_cons (pe_op op_fdivN (pv 2) (pv 1)) pa_nil)))
            (pss_one (ps_ret (pe_op op_modN (pv 2) (pv 1))))) pss_nil)
        (pss_one (ps_set (i := 2) nd rfl (.inl rfl) (pe_op op_add (pv 2) (pe_dget hu (pv 0) pe_str (by intro _ _; rfl))))))) pss_nil)
    (pss_cons (ps_set (i := 3) nd rfl (.inl rfl) (pe_op op_add (pe_op op_modN (pv 2) pe_int) (pe_op op_mulB (pe_op op_mul pe_int (pe_dget hu (pv 0) pe_str (by intro _ _; rfl))) (pe_dget hu (pv 0) pe_str (by intro _ _; rfl)))))
    (pss_cons (ps_set (i := 3) nd rfl (.inl rfl) (pe_op op_modN (pe_op op_mul (pe_op op_add (pv 3) pe_int) pe_int) pe_int))
    (pss_cons (ps_set (i := 3) nd rfl (.inl rfl) (pe_op op_modN (pe_op op_add (pe_op op_add (pe_op op_mul (pv 3) (pv 3)) (pe_op op_mul pe_int (pe_dget hu (pv 0) pe_str (by intro _ _; rfl)))) pe_int) pe_int))
    (pss_one (ps_ret (pe_op op_modN (pe_op op_fdivN (pe_op op_modN (pe_op op_mul (pv 3) (pe_op op_add (pe_op op_fdivN (pv 3) pe_int) pe_int)) pe_int) pe_int) (pv 1))))))))), ?_⟩
  obtain ⟨W, M, us, P', R, wp, wok, wad, wliv, sm, hl, pr, hs, q1, q2⟩ := sp
  obtain ⟨dk, c, n, eW⟩ := wp.2 0
  have eW : W = deckW "cells" "digest" "count" dk c n := eW
  subst eW
  obtain ⟨lim, rfl, l0, l1, hP⟩ := hs
  obtain ⟨cs, dg, ct, h1, h2, h3, h4, h5, h6, h7⟩ := (show DeckAt "cells" "digest" "count" dk c n H from wok).ex
  cases pr with
  | cons p1 pr =>
  cases pr with
  | cons p2 pr =>
  cases pr
  have p1 : _ = V.ref dk := p1
  have p2 := Rep.int_inv p2
  subst p1 p2
  have lim1 : n + 1 ≤ LIM := wp.1
  have cm : IntMulOk (83737 * (ct + 1)) (ct + 1) := count_mul (by omega) (by omega) 83737 (by decide) (by decide)
  have nz1 : (2147483629 : Int) ≠ 0 := by decide
  have nz2 : (2147483647 : Int) ≠ 0 := by decide
  have nz3 : (2147483587 : Int) ≠ 0 := by decide
  have nz4 : (2147483563 : Int) ≠ 0 := by decide
  have nzl : lim ≠ 0 := by omega
  have dc : c ≠ dk := fun e => by rw [e, h1] at h2; cases h2
  have fin : ∀ (d : Int) (H' : Hp), 0 ≤ d → d < lim → Kp [dk, c] H H' → DeckAt "cells" "digest" "count" dk c (n + 1) H' → Q (.int d) H' := fun d H' a b k o => q1 _ _ _ _ (hP d a b) ⟨o, k, Rep.int d⟩
  have g3 : DGet H dk (.str "count") (some (.int ct)) := by
    have := DGet.k (k := .inr "count") h1
    rw [tri3 (by decide) (by decide)] at this
    exact this
  have p3 : DPut H dk (.str "count") (.int (ct + 1)) (upd H dk (.dK (tri "cells" "digest" "count" (.ref c) (.int dg) (.int (ct + 1))))) := by
    have := DPut.k (k := .inr "count") (v := .int (ct + 1)) h1 (by show 3 < sizeLine; rw [sizeLine_eq]; omega)
    rw [tri_put (by decide) (by decide)] at this
    exact this
  refine ⟨.ref dk, rfl, dk, .int ct, rfl, g3, ct, 1, rfl, rfl, .ref dk, rfl, dk, _, rfl, p3, ?_⟩
  have k1 : Kp [dk, c] H (upd H dk (.dK (tri "cells" "digest" "count" (.ref c) (.int dg) (.int (ct + 1))))) := Kp.put (by simp) h1
  have a1 : (upd H dk (.dK (tri "cells" "digest" "count" (.ref c) (.int dg) (.int (ct + 1))))) dk = some (.dK (tri "cells" "digest" "count" (.ref c) (.int dg) (.int (ct + 1)))) := upd_same
  have a2 : (upd H dk (.dK (tri "cells" "digest" "count" (.ref c) (.int dg) (.int (ct + 1))))) c = some (.lst (cs.map V.int)) := by rw [upd_ne dc]; exact h2
  clear g3 p3
  generalize upd H dk (.dK (tri "cells" "digest" "count" (.ref c) (.int dg) (.int (ct + 1)))) = H1 at k1 a1 a2
  have g2 : DGet H1 dk (.str "digest") (some (.int dg)) := by
    have := DGet.k (k := .inr "digest") a1
    rw [tri2 (by decide)] at this
    exact this
  have g1 : DGet H1 dk (.str "cells") (some (.ref c)) := by
    have := DGet.k (k := .inr "cells") a1
    rw [tri1] at this
    exact this
  refine ⟨.ref dk, rfl, dk, .int dg, rfl, g2, ?_⟩
  refine ⟨.ref dk, rfl, dk, .ref c, rfl, g1, by decide, fun p hp => ⟨_, _, dp_ints (SqL.of (by rw [upd_ne (ne_of_none a2 hp)]; exact a2)), .lst (SqL.of upd_same) .nil, shaped_ints cs, by decide, _, rfl, ?_⟩⟩
  rw [eqv_empty]
  have k2 : Kp [dk, c] H (upd H1 p (.lst [])) := k1.trans (Kp.fresh hp)
  have b1 : (upd H1 p (.lst [])) dk = some (.dK (tri "cells" "digest" "count" (.ref c) (.int dg) (.int (ct + 1)))) := by rw [upd_ne (ne_of_none a1 hp)]; exact a1
  have b2 : (upd H1 p (.lst [])) c = some (.lst (cs.map V.int)) := by rw [upd_ne (ne_of_none a2 hp)]; exact a2
  generalize upd H1 p (.lst []) = H2 at k2 b1 b2
  clear g2 g1
  cases hcs : cs with
  | nil =>
    rw [hcs] at b2
    refine iteF ?_
    have g3 : DGet H2 dk (.str "count") (some (.int (ct + 1))) := by
      have := DGet.k (k := .inr "count") b1
      rw [tri3 (by decide) (by decide)] at this
      exact this
    refine ⟨.int dg, rfl, _, 2147483629, rfl, rfl, nz1, .ref dk, rfl, dk, .int (ct + 1), rfl, g3, 83737, _, rfl, rfl, .inl ⟨by decide, by decide⟩, .ref dk, rfl, dk, .int (ct + 1), rfl, g3, _, _, rfl, rfl, cm, _, _, rfl, rfl, ?_⟩
    refine ⟨.int _, rfl, _, 31, rfl, rfl, _, 40692, rfl, rfl, .inr ⟨by decide, by decide⟩, _, 2147483647, rfl, rfl, nz2, ?_⟩
    refine ⟨.int _, rfl, .int _, rfl, _, _, rfl, rfl, cm_fmod (by decide) (by decide), .ref dk, rfl, dk, .int (ct + 1), rfl, g3, 16807, _, rfl, rfl, .inl ⟨by decide, by decide⟩, _, _, rfl, rfl, _, 3, rfl, rfl, _, 2147483587, rfl, rfl, nz3, ?_⟩
    refine ⟨.int _, rfl, .int _, rfl, _, 9, rfl, rfl, ⟨by decide, by decide⟩, _, 48271, rfl, rfl, _, _, rfl, rfl, cm_fmod (by decide) (by decide), _, 2147483563, rfl, rfl, nz4, _, 64, rfl, rfl, ⟨by decide, by decide⟩, .int lim, rfl, _, lim, rfl, rfl, nzl, ?_⟩
    exact fin _ _ (fmod_range l0).1 (fmod_range l0).2 k2 ⟨[], dg, ct + 1, b1, b2, by simp, h4, h5, by omega, by omega⟩
  | cons x0 xr =>
    refine iteT ?_
    have ne : cs ≠ [] := by rw [hcs]; simp
    have g1 : DGet H2 dk (.str "cells") (some (.ref c)) := by
      have := DGet.k (k := .inr "cells") b1
      rw [tri1] at this
      exact this
    have hlast : (cs.map V.int)[(cs.map V.int).length - 1]? = some (.int (cs.getLast ne)) := by
      rw [List.getElem?_map, List.length_map, ← List.getLast?_eq_getElem?, List.getLast?_eq_some_getLast ne]
      rfl
    refine ⟨.ref dk, rfl, dk, .ref c, rfl, g1, .inl ⟨rfl, _, SqL.of b2⟩, c, _, _, rfl, rfl, b2, hlast, ?_⟩
    generalize cs.getLast ne = x
    have k3 : Kp [dk, c] H (upd H2 c (.lst (cs.map V.int).dropLast)) := k2.trans (Kp.store (by simp) b2)
    have c1 : (upd H2 c (.lst (cs.map V.int).dropLast)) dk = some (.dK (tri "cells" "digest" "count" (.ref c) (.int dg) (.int (ct + 1)))) := by rw [upd_ne (Ne.symm dc)]; exact b1
    have c2 : (upd H2 c (.lst (cs.map V.int).dropLast)) c = some (.lst (cs.dropLast.map V.int)) := by rw [upd_same, List.map_dropLast]
    have cl : cs.dropLast.length ≤ 62 := by rw [List.length_dropLast]; omega
    generalize upd H2 c (.lst (cs.map V.int).dropLast) = H3 at k3 c1 c2
    clear g1
    have g1 : DGet H3 dk (.str "cells") (some (.ref c)) := by
      have := DGet.k (k := .inr "cells") c1
      rw [tri1] at this
      exact this
    have g2 : DGet H3 dk (.str "digest") (some (.int dg)) := by
      have := DGet.k (k := .inr "digest") c1
      rw [tri2 (by decide)] at this
      exact this
    refine ⟨.int x, rfl, 10, 18, rfl, rfl, ⟨by decide, by decide, by decide⟩, x, _, rfl, rfl, _, rfl, ?_⟩
    by_cases hx : (10 : Int) ^ (18 : Int).toNat ≤ x
    · show (if decide ((10 : Int) ^ (18 : Int).toNat ≤ x) = true then _ else _)
      rw [if_pos (decide_eq_true hx)]
      refine ⟨.ref dk, rfl, dk, .ref c, rfl, g1, .inl ⟨rfl, _, SqL.of c2⟩, .int x, rfl, .int lim, rfl, x, lim, rfl, rfl, ⟨by omega, by omega⟩, c, _, _, rfl, rfl, c2, ?_, ?_⟩
      · rw [List.length_map, sizeLine_eq]; omega
      · have k4 : Kp [dk, c] H (upd H3 c (.lst (cs.dropLast.map V.int ++ [.int (x.fdiv lim)]))) := k3.trans (Kp.store (by simp) c2)
        have d1 : (upd H3 c (.lst (cs.dropLast.map V.int ++ [.int (x.fdiv lim)]))) dk = some (.dK (tri "cells" "digest" "count" (.ref c) (.int dg) (.int (ct + 1)))) := by rw [upd_ne (Ne.symm dc)]; exact c1
        have d2 : (upd H3 c (.lst (cs.dropLast.map V.int ++ [.int (x.fdiv lim)]))) c = some (.lst ((cs.dropLast ++ [x.fdiv lim]).map V.int)) := by rw [upd_same, List.map_append]; rfl
        refine ⟨.int x, rfl, .int lim, rfl, x, lim, rfl, rfl, nzl, ?_⟩
        obtain ⟨r5, r6⟩ := fmod_range (a := x) l0
        exact fin _ _ r5 r6 k4 ⟨_, dg, ct + 1, d1, d2, by rw [List.length_append, List.length_singleton]; omega, h4, h5, by omega, by omega⟩
    · show (if decide ((10 : Int) ^ (18 : Int).toNat ≤ x) = true then _ else _)
      rw [if_neg (by rw [decide_eq_false hx]; simp)]
      refine ⟨.int x, rfl, .ref dk, rfl, dk, .int dg, rfl, g2, x, dg, rfl, rfl, ?_⟩
      have g3 : DGet H3 dk (.str "count") (some (.int (ct + 1))) := by
        have := DGet.k (k := .inr "count") c1
        rw [tri3 (by decide) (by decide)] at this
        exact this
      refine ⟨.int (x + dg), rfl, _, 2147483629, rfl, rfl, nz1, .ref dk, rfl, dk, .int (ct + 1), rfl, g3, 83737, _, rfl, rfl, .inl ⟨by decide, by decide⟩, .ref dk, rfl, dk, .int (ct + 1), rfl, g3, _, _, rfl, rfl, cm, _, _, rfl, rfl, ?_⟩
      refine ⟨.int _, rfl, _, 31, rfl, rfl, _, 40692, rfl, rfl, .inr ⟨by decide, by decide⟩, _, 2147483647, rfl, rfl, nz2, ?_⟩
      refine ⟨.int _, rfl, .int _, rfl, _, _, rfl, rfl, cm_fmod (by decide) (by decide), .ref dk, rfl, dk, .int (ct + 1), rfl, g3, 16807, _, rfl, rfl, .inl ⟨by decide, by decide⟩, _, _, rfl, rfl, _, 3, rfl, rfl, _, 2147483587, rfl, rfl, nz3, ?_⟩
      refine ⟨.int _, rfl, .int _, rfl, _, 9, rfl, rfl, ⟨by decide, by decide⟩, _, 48271, rfl, rfl, _, _, rfl, rfl, cm_fmod (by decide) (by decide), _, 2147483563, rfl, rfl, nz4, _, 64, rfl, rfl, ⟨by decide, by decide⟩, .int lim, rfl, _, lim, rfl, rfl, nzl, ?_⟩
      exact fin _ _ (fmod_range l0).1 (fmod_range l0).2 k3 ⟨_, dg, ct + 1, c1, c2, by omega, h4, h5, by omega, by omega⟩
end

/-! ### _law_pick -/
abbrev s_law_pick : Stmt := topS 21
theorem sc_law_pick : FnScope N_law_pick P_law_pick (defScope s_law_pick) := ⟨rfl, rfl, rfl, by decide +kernel, rfl, by decide +kernel, by decide +kernel⟩
theorem jb_law_pick {P : Program} {w : World} {K : PySem.W.Frag} {mg : Str → Option Value} {base : Heap} {Wp : Wk → Prop} (m : Mg mg) (c_law_draw : Cal P w K mg base CX0 Wp 1 "_law_draw" s_law_draw P_law_draw sp_law_draw) {f : Addr} {cdv : Value} {A : Around} {outer : List Env} {s : Shared} {H : Hp} {E : XK}
    (hr : RmG 1 (A.deeper (envOfC "_law_pick" (defScope s_law_pick) s.heap.objs.size f cdv))) (g : Gx (cxOf CX0 P w K mg base N_law_pick "_law_pick" (defScope s_law_pick) f cdv A outer s H E)) :
    JB Wp E (cxOf CX0 P w K mg base N_law_pick "_law_pick" (defScope s_law_pick) f cdv A outer s H E) (defBody s_law_pick) d_law_pick :=
  sOne (sRet0 (qIdx (qO 1) (oOf (qCall hr c_law_draw pass0G (fun _ _ _ _ _ _ us hl => match us, hl with | [_, _], _ => rfl) (qaCons (qV 0) (qaCons (qBif .len g m.n_len (qO 1)) (aNil0)))))))
theorem cal_law_pick {P : Program} {w : World} {K : PySem.W.Frag} {mg : Str → Option Value} {base : Heap} {Wp : Wk → Prop} (m : Mg mg) (c_law_draw : Cal P w K mg base CX0 Wp 1 "_law_draw" s_law_draw P_law_draw sp_law_draw) {f : Addr} {fd : FuncData} (F : Fun K "_law_pick" "_law_pick" s_law_pick f fd) (hm : mg "_law_pick" = some (.ref f)) : Cal P w K mg base CX0 Wp 2 "_law_pick" s_law_pick P_law_pick sp_law_pick :=
  cal_of F hm sc_law_pick (fun cdv A outer s H E hr g => jb_law_pick m c_law_draw hr g) (Nat.le_refl _) law_law_pick
/-! ### _law_names -/
abbrev s_law_names : Stmt := topS 22
theorem sc_law_names : FnScope N_law_names P_law_names (defScope s_law_names) := ⟨rfl, rfl, rfl, by decide +kernel, rfl, by decide +kernel, by decide +kernel⟩
theorem jb_law_names {P : Program} {w : World} {K : PySem.W.Frag} {mg : Str → Option Value} {base : Heap} {Wp : Wk → Prop} (m : Mg mg) (c_law_draw : Cal P w K mg base CX0 Wp 1 "_law_draw" s_law_draw P_law_draw sp_law_draw) (c_law_pick : Cal P w K mg base CX0 Wp 2 "_law_pick" s_law_pick P_law_pick sp_law_pick) {f : Addr} {cdv : Value} {A : Around} {outer : List Env} {s : Shared} {H : Hp} {E : XK}
    (hr : RmG 2 (A.deeper (envOfC "_law_names" (defScope s_law_names) s.heap.objs.size f cdv))) (g : Gx (cxOf CX0 P w K mg base N_law_names "_law_names" (defScope s_law_names) f cdv A outer s H E)) :
    JB Wp E (cxOf CX0 P w K mg base N_law_names "_law_names" (defScope s_law_names) f cdv A outer s H E) (defBody s_law_names) d_law_names :=
  sCons (qSetT g (jTup (qaCons (jStr) (qaCons (qCall hr c_law_draw pass0G (fun _ _ _ _ _ _ us hl => match us, hl with | [_, _], _ => rfl) (qaCons (qV 0) (qaCons (jInt) (aNil0)))) (qaCons (qCall hr c_law_draw pass0G (fun _ _ _ _ _ _ us hl => match us, hl with | [_, _], _ => rfl) (qaCons (qV 0) (qaCons (jInt) (aNil0)))) (aNil0))))) (qgT g (qgs (qgN g 5) (qgs (qgN g 6) (qgs (qgN g 7) (gNilN)))))) (sCons (qSet 2 g (qMth .join (oOf (jStr)) (qaCons (qLc [("_law_n", 4)] [4] g (qR1 m.n_range (jInt)) (fun _ _ _ _ _ => qgN (g.blk _ _ _ _ _) 4) (fun _ _ _ _ _ => kIfs0) (fun _ _ _ _ _ => qCall hr c_law_pick pass0G (fun _ _ _ _ _ _ us hl => match us, hl with | [_, _], _ => rfl) (qaCons (qV 0) (qaCons (qV 5) (aNil0)))) (by show blkC N_law_names (defScope s_law_names) _ _ = true; decide +kernel)) (aNil0)))) (sCons (qSet 3 g (jLst (aNil0))) (sCons (qFor g owns_cx (qR1 m.n_range (qV 1)) (qgN g 4) (sCons (qSet 8 g (qIdx (qO 5) (oOf (jMod (oOf (jAdd (qO 7) (oOf (jMul (oOf (jInt)) (qO 4))))) (oOf (jInt)))))) (sOne (qDrop (qMth .append (qO 3) (qaCons (qIdx (oOf (jLst (qaCons (qV 8) (qaCons (jAdd (oOf (jAdd (oOf (jSli (qO 2) (pNone) (pSome (jMod (qO 4) (oOf (jInt)))))) (qO 8))) (oOf (jSli (qO 2) (pSome (jMod (qO 4) (oOf (jInt)))) (pNone)))) (qaCons (jMul (qO 8) (oOf (jAdd (oOf (jInt)) (oOf (jMod (qO 4) (oOf (jInt))))))) (aNil0)))))) (qO 6)) (aNil0))))))) (sOne (sRet0 (qBif .sorted g m.n_sorted (qO 3)))))))
theorem cal_law_names {P : Program} {w : World} {K : PySem.W.Frag} {mg : Str → Option Value} {base : Heap} {Wp : Wk → Prop} (m : Mg mg) (c_law_draw : Cal P w K mg base CX0 Wp 1 "_law_draw" s_law_draw P_law_draw sp_law_draw) (c_law_pick : Cal P w K mg base CX0 Wp 2 "_law_pick" s_law_pick P_law_pick sp_law_pick) {f : Addr} {fd : FuncData} (F : Fun K "_law_names" "_law_names" s_law_names f fd) (hm : mg "_law_names" = some (.ref f)) : Cal P w K mg base CX0 Wp 3 "_law_names" s_law_names P_law_names sp_law_names :=
  cal_of F hm sc_law_names (fun cdv A outer s H E hr g => jb_law_names m c_law_draw c_law_pick hr g) (Nat.le_refl _) law_law_names
/-! ### _law_some -/
abbrev s_law_some : Stmt := topS 23
theorem sc_law_some : FnScope N_law_some P_law_some (defScope s_law_some) := ⟨rfl, rfl, rfl, by decide +kernel, rfl, by decide +kernel, by decide +kernel⟩
theorem jb_law_some {P : Program} {w : World} {K : PySem.W.Frag} {mg : Str → Option Value} {base : Heap} {Wp : Wk → Prop} (m : Mg mg) (c_law_draw : Cal P w K mg base CX0 Wp 1 "_law_draw" s_law_draw P_law_draw sp_law_draw) {f : Addr} {cdv : Value} {A : Around} {outer : List Env} {s : Shared} {H : Hp} {E : XK}
    (hr : RmG 1 (A.deeper (envOfC "_law_some" (defScope s_law_some) s.heap.objs.size f cdv))) (g : Gx (cxOf CX0 P w K mg base N_law_some "_law_some" (defScope s_law_some) f cdv A outer s H E)) :
    JB Wp E (cxOf CX0 P w K mg base N_law_some "_law_some" (defScope s_law_some) f cdv A outer s H E) (defBody s_law_some) d_law_some :=
  sCons (qSet 2 g (qCall hr c_law_draw pass0G (fun _ _ _ _ _ _ us hl => match us, hl with | [_, _], _ => rfl) (qaCons (qV 0) (qaCons (jInt) (aNil0))))) (sOne (sRet0 (qBif .tuple g m.n_tuple (oOf (qLc [("_law_name", 3)] [3] g (wSeq (qV 1)) (fun _ _ _ _ _ => qgN (g.blk _ _ _ _ _) 3) (fun _ _ _ _ _ => kIfs1 (qkCmp .gt (g.blk _ _ _ _ _) (oOf (qCall hr c_law_draw pass0G (fun _ _ _ _ _ _ us hl => match us, hl with | [_, _], _ => rfl) (qaCons (qV 0) (qaCons (jInt) (aNil0))))) (qO 2))) (fun _ _ _ _ _ => qV 3) (by show blkC N_law_some (defScope s_law_some) _ _ = true; decide +kernel))))))
theorem cal_law_some {P : Program} {w : World} {K : PySem.W.Frag} {mg : Str → Option Value} {base : Heap} {Wp : Wk → Prop} (m : Mg mg) (c_law_draw : Cal P w K mg base CX0 Wp 1 "_law_draw" s_law_draw P_law_draw sp_law_draw) {f : Addr} {fd : FuncData} (F : Fun K "_law_some" "_law_some" s_law_some f fd) (hm : mg "_law_some" = some (.ref f)) : Cal P w K mg base CX0 Wp 2 "_law_some" s_law_some P_law_some sp_law_some :=
  cal_of F hm sc_law_some (fun cdv A outer s H E hr g => jb_law_some m c_law_draw hr g) (Nat.le_refl _) law_law_some
/-! ### _law_maximal -/
abbrev s_law_maximal : Stmt := topS 24
theorem sc_law_maximal : FnScope N_law_maximal P_law_maximal (defScope s_law_maximal) := ⟨rfl, rfl, rfl, by decide +kernel, rfl, by decide +kernel, by decide +kernel⟩
theorem jb_law_maximal {P : Program} {w : World} {K : PySem.W.Frag} {mg : Str → Option Value} {base : Heap} {Wp : Wk → Prop} (m : Mg mg) {f : Addr} {cdv : Value} {A : Around} {outer : List Env} {s : Shared} {H : Hp} {E : XK}
    (hr : RmG 0 (A.deeper (envOfC "_law_maximal" (defScope s_law_maximal) s.heap.objs.size f cdv))) (g : Gx (cxOf CX0 P w K mg base N_law_maximal "_law_maximal" (defScope s_law_maximal) f cdv A outer s H E)) :
    JB Wp E (cxOf CX0 P w K mg base N_law_maximal "_law_maximal" (defScope s_law_maximal) f cdv A outer s H E) (defBody s_law_maximal) d_law_maximal :=
  sCons (qSet 1 g (qBif .sorted g m.n_sorted (oOf (qUniq g m.n_list m.n_dict (oOf (qLc [("_law_group", 3)] [3] g (wSeq (qV 0)) (fun _ _ _ _ _ => qgN (g.blk _ _ _ _ _) 3) (fun _ _ _ _ _ => kIfs0) (fun _ _ _ _ _ => jTup (qaCons (qV 3) (qaCons (jBl) (aNil0)))) (by show blkC N_law_maximal (defScope s_law_maximal) _ _ = true; decide +kernel))))))) (sCons (qSet 2 g (jLst (aNil0))) (sCons (qFor g owns_cx (wSeq (qV 1)) (qgN g 3) (sOne (sIf0 (qkCmp .eq g (oOf (qLc [("_law_far", 4)] [4] g (wSeq (qV 1)) (fun _ _ _ _ _ => qgN (g.blk _ _ _ _ _) 4) (fun _ _ _ _ _ => kIfs1 (kW (kAndC (qkCmp .ne (g.blk _ _ _ _ _) (qO 4) (qO 3)) (kAnd1 (qkCmp .eq (g.blk _ _ _ _ _) (oOf (qLc [("_law_name", 5)] [5] (g.blk _ _ _ _ _) (wSeq (qV 3)) (fun _ _ _ _ _ => qgN ((g.blk _ _ _ _ _).blk _ _ _ _ _) 5) (fun _ _ _ _ _ => kIfs1 (qkCmp .notIn ((g.blk _ _ _ _ _).blk _ _ _ _ _) (qO 5) (qO 4))) (fun _ _ _ _ _ => qV 5) (by rfl))) (oOf (jLst (aNil0)))))))) (fun _ _ _ _ _ => qV 4) (by show blkC N_law_maximal (defScope s_law_maximal) _ _ = true; decide +kernel))) (oOf (jLst (aNil0)))) (sOne (qDrop (qMth .append (qO 2) (qaCons (qV 3) (aNil0))))) (sNil)))) (sOne (sRet0 (qBif .tuple g m.n_tuple (qO 2))))))
theorem cal_law_maximal {P : Program} {w : World} {K : PySem.W.Frag} {mg : Str → Option Value} {base : Heap} {Wp : Wk → Prop} (m : Mg mg) {f : Addr} {fd : FuncData} (F : Fun K "_law_maximal" "_law_maximal" s_law_maximal f fd) (hm : mg "_law_maximal" = some (.ref f)) : Cal P w K mg base CX0 Wp 1 "_law_maximal" s_law_maximal P_law_maximal sp_law_maximal :=
  cal_of F hm sc_law_maximal (fun cdv A outer s H E hr g => jb_law_maximal m hr g) (Nat.le_refl _) law_law_maximal
/-! ### _law_scheme -/
abbrev s_law_scheme : Stmt := topS 25
theorem sc_law_scheme : FnScope N_law_scheme P_law_scheme (defScope s_law_scheme) := ⟨rfl, rfl, rfl, by decide +kernel, rfl, by decide +kernel, by decide +kernel⟩
theorem jb_law_scheme {P : Program} {w : World} {K : PySem.W.Frag} {mg : Str → Option Value} {base : Heap} {Wp : Wk → Prop} (m : Mg mg) (c_law_names : Cal P w K mg base CX0 Wp 3 "_law_names" s_law_names P_law_names sp_law_names) (c_law_draw : Cal P w K mg base CX0 Wp 1 "_law_draw" s_law_draw P_law_draw sp_law_draw) (c_law_maximal : Cal P w K mg base CX0 Wp 1 "_law_maximal" s_law_maximal P_law_maximal sp_law_maximal) (c_law_some : Cal P w K mg base CX0 Wp 2 "_law_some" s_law_some P_law_some sp_law_some) (c_law_pick : Cal P w K mg base CX0 Wp 2 "_law_pick" s_law_pick P_law_pick sp_law_pick) {f : Addr} {cdv : Value} {A : Around} {outer : List Env} {s : Shared} {H : Hp} {E : XK}
    (hr : RmG 3 (A.deeper (envOfC "_law_scheme" (defScope s_law_scheme) s.heap.objs.size f cdv))) (g : Gx (cxOf CX0 P w K mg base N_law_scheme "_law_scheme" (defScope s_law_scheme) f cdv A outer s H E)) :
    JB Wp E (cxOf CX0 P w K mg base N_law_scheme "_law_scheme" (defScope s_law_scheme) f cdv A outer s H E) (defBody s_law_scheme) d_law_scheme :=
  sCons (qPar 8 9 g (qCall hr c_law_names pass0G (fun _ _ _ _ _ _ us hl => match us, hl with | [_, _], _ => rfl) (qaCons (qV 0) (qaCons (jInt) (aNil0)))) (jAdd (oOf (jInt)) (oOf (qCall hr c_law_draw pass0G (fun _ _ _ _ _ _ us hl => match us, hl with | [_, _], _ => rfl) (qaCons (qV 0) (qaCons (jSub (qO 1) (oOf (jInt))) (aNil0))))))) (sCons (qSet 2 g (qBif .list g m.n_list (qO 8))) (sCons (qSet 3 g (qBif .tuple g m.n_tuple (oOf (qBif .sorted g m.n_sorted (oOf (qLc [("_law_n", 10)] [10] g (qR1 m.n_range (qV 9)) (fun _ _ _ _ _ => qgN (g.blk _ _ _ _ _) 10) (fun _ _ _ _ _ => kIfs0) (fun _ _ _ _ _ => qMth .popAt (qO 2) (qaCons (qCall hr c_law_draw pass0G (fun _ _ _ _ _ _ us hl => match us, hl with | [_, _], _ => rfl) (qaCons (qV 0) (qaCons (qBif .len (g.blk _ _ _ _ _) m.n_len (qO 2)) (aNil0)))) (aNil0))) (by show blkC N_law_scheme (defScope s_law_scheme) _ _ = true; decide +kernel))))))) (sCons (qSet 4 g (qBif .tuple g m.n_tuple (oOf (qBif .sorted g m.n_sorted (oOf (qLc [("_law_n", 10)] [10] g (qR1 m.n_range (jAdd (oOf (jInt)) (oOf (qCall hr c_law_draw pass0G (fun _ _ _ _ _ _ us hl => match us, hl with | [_, _], _ => rfl) (qaCons (qV 0) (qaCons (jInt) (aNil0))))))) (fun _ _ _ _ _ => qgN (g.blk _ _ _ _ _) 10) (fun _ _ _ _ _ => kIfs0) (fun _ _ _ _ _ => qMth .popAt (qO 2) (qaCons (qCall hr c_law_draw pass0G (fun _ _ _ _ _ _ us hl => match us, hl with | [_, _], _ => rfl) (qaCons (qV 0) (qaCons (qBif .len (g.blk _ _ _ _ _) m.n_len (qO 2)) (aNil0)))) (aNil0))) (by show blkC N_law_scheme (defScope s_law_scheme) _ _ = true; decide +kernel))))))) (sCons (qSet 5 g (qCall hr c_law_maximal pass0G (fun _ _ _ _ _ _ us hl => match us, hl with | [_], _ => rfl) (qaCons (qLc [("_law_n", 10)] [10] g (qR1 m.n_range (jAdd (oOf (jInt)) (oOf (qCall hr c_law_draw pass0G (fun _ _ _ _ _ _ us hl => match us, hl with | [_, _], _ => rfl) (qaCons (qV 0) (qaCons (jInt) (aNil0))))))) (fun _ _ _ _ _ => qgN (g.blk _ _ _ _ _) 10) (fun _ _ _ _ _ => kIfs0) (fun _ _ _ _ _ => qCall hr c_law_some pass0G (fun _ _ _ _ _ _ us hl => match us, hl with | [_, _], _ => rfl) (qaCons (qV 0) (qaCons (qV 3) (aNil0)))) (by show blkC N_law_scheme (defScope s_law_scheme) _ _ = true; decide +kernel)) (aNil0)))) (sCons (qSetLc 6 [("_law_n", 10)] [10] g (qR1 m.n_range (jAdd (oOf (jInt)) (oOf (qCall hr c_law_draw pass0G (fun _ _ _ _ _ _ us hl => match us, hl with | [_, _], _ => rfl) (qaCons (qV 0) (qaCons (jInt) (aNil0))))))) (fun _ _ _ _ _ => qgN (g.blk _ _ _ _ _) 10) (fun _ _ _ _ _ => kIfs0) (fun _ _ _ _ _ => qCall hr c_law_some pass0G (fun _ _ _ _ _ _ us hl => match us, hl with | [_, _], _ => rfl) (qaCons (qV 0) (qaCons (qCall hr c_law_pick pass0G (fun _ _ _ _ _ _ us hl => match us, hl with | [_, _], _ => rfl) (qaCons (qV 0) (qaCons (qV 5) (aNil0)))) (aNil0)))) (by show blkC N_law_scheme (defScope s_law_scheme) _ _ = true; decide +kernel)) (sCons (qSet 7 g (qCall hr c_law_pick pass0G (fun _ _ _ _ _ _ us hl => match us, hl with | [_, _], _ => rfl) (qaCons (qV 0) (qaCons (jLst (qaCons (jInt) (qaCons (jInt) (qaCons (jInt) (qaCons (jInt) (qaCons (jInt) (qaCons (jInt) (qaCons (jInt) (qaCons (jInt) (aNil0)))))))))) (aNil0))))) (sOne (sRet0 (jTup (qaCons (qV 7) (qaCons (qV 3) (qaCons (qV 4) (qaCons (qV 5) (qaCons (qCall hr c_law_maximal pass0G (fun _ _ _ _ _ _ us hl => match us, hl with | [_], _ => rfl) (qaCons (qV 6) (aNil0))) (aNil0)))))))))))))))
theorem cal_law_scheme {P : Program} {w : World} {K : PySem.W.Frag} {mg : Str → Option Value} {base : Heap} {Wp : Wk → Prop} (m : Mg mg) (c_law_names : Cal P w K mg base CX0 Wp 3 "_law_names" s_law_names P_law_names sp_law_names) (c_law_draw : Cal P w K mg base CX0 Wp 1 "_law_draw" s_law_draw P_law_draw sp_law_draw) (c_law_maximal : Cal P w K mg base CX0 Wp 1 "_law_maximal" s_law_maximal P_law_maximal sp_law_maximal) (c_law_some : Cal P w K mg base CX0 Wp 2 "_law_some" s_law_some P_law_some sp_law_some) (c_law_pick : Cal P w K mg base CX0 Wp 2 "_law_pick" s_law_pick P_law_pick sp_law_pick) {f : Addr} {fd : FuncData} (F : Fun K "_law_scheme" "_law_scheme" s_law_scheme f fd) (hm : mg "_law_scheme" = some (.ref f)) : Cal P w K mg base CX0 Wp 4 "_law_scheme" s_law_scheme P_law_scheme sp_law_scheme :=
  cal_of F hm sc_law_scheme (fun cdv A outer s H E hr g => jb_law_scheme m c_law_names c_law_draw c_law_maximal c_law_some c_law_pick hr g) (Nat.le_refl _) law_law_scheme
/-! ### _law_is_name -/
abbrev s_law_is_name : Stmt := topS 26
theorem sc_law_is_name : FnScope N_law_is_name P_law_is_name (defScope s_law_is_name) := ⟨rfl, rfl, rfl, by decide +kernel, rfl, by decide +kernel, by decide +kernel⟩
theorem jb_law_is_name {P : Program} {w : World} {K : PySem.W.Frag} {mg : Str → Option Value} {base : Heap} {Wp : Wk → Prop} (m : Mg mg) {f : Addr} {cdv : Value} {A : Around} {outer : List Env} {s : Shared} {H : Hp} {E : XK}
    (hr : RmG 0 (A.deeper (envOfC "_law_is_name" (defScope s_law_is_name) s.heap.objs.size f cdv))) (g : Gx (cxOf CX0 P w K mg base N_law_is_name "_law_is_name" (defScope s_law_is_name) f cdv A outer s H E)) :
    JB Wp E (cxOf CX0 P w K mg base N_law_is_name "_law_is_name" (defScope s_law_is_name) f cdv A outer s H E) (defBody s_law_is_name) d_law_is_name :=
  sOne (sRet0 (jAnd (qIsi .str m.n_isinstance m.n_str (qO 0)) (jAnd (qCmp2 .lt .lt g (oOf (jInt)) (oOf (qBif .len g m.n_len (qO 0))) (oOf (jInt))) (jAnd1 (qCmp .eq g (oOf (qLc [("_law_sign", 1)] [1] g (wSeq (qV 0)) (fun _ _ _ _ _ => qgN (g.blk _ _ _ _ _) 1) (fun _ _ _ _ _ => kIfs1 (kNotC (qkCmp2 .le .le (g.blk _ _ _ _ _) (oOf (jStr)) (qO 1) (oOf (jStr))))) (fun _ _ _ _ _ => qV 1) (by show blkC N_law_is_name (defScope s_law_is_name) _ _ = true; decide +kernel))) (oOf (jLst (aNil0))))))))
theorem cal_law_is_name {P : Program} {w : World} {K : PySem.W.Frag} {mg : Str → Option Value} {base : Heap} {Wp : Wk → Prop} (m : Mg mg) {f : Addr} {fd : FuncData} (F : Fun K "_law_is_name" "_law_is_name" s_law_is_name f fd) (hm : mg "_law_is_name" = some (.ref f)) : Cal P w K mg base CX0 Wp 1 "_law_is_name" s_law_is_name P_law_is_name sp_law_is_name :=
  cal_of F hm sc_law_is_name (fun cdv A outer s H E hr g => jb_law_is_name m hr g) (Nat.le_refl _) law_law_is_name
/-! ### _law_is_set -/
abbrev s_law_is_set : Stmt := topS 27
theorem sc_law_is_set : FnScope N_law_is_set P_law_is_set (defScope s_law_is_set) := ⟨rfl, rfl, rfl, by decide +kernel, rfl, by decide +kernel, by decide +kernel⟩
theorem jb_law_is_set {P : Program} {w : World} {K : PySem.W.Frag} {mg : Str → Option Value} {base : Heap} {Wp : Wk → Prop} (m : Mg mg) (c_law_is_name : Cal P w K mg base CX0 Wp 1 "_law_is_name" s_law_is_name P_law_is_name sp_law_is_name) {f : Addr} {cdv : Value} {A : Around} {outer : List Env} {s : Shared} {H : Hp} {E : XK}
    (hr : RmG 1 (A.deeper (envOfC "_law_is_set" (defScope s_law_is_set) s.heap.objs.size f cdv))) (g : Gx (cxOf CX0 P w K mg base N_law_is_set "_law_is_set" (defScope s_law_is_set) f cdv A outer s H E)) :
    JB Wp E (cxOf CX0 P w K mg base N_law_is_set "_law_is_set" (defScope s_law_is_set) f cdv A outer s H E) (defBody s_law_is_set) d_law_is_set :=
  sCons (sIf0 (kW (kOrC (kNotC (qkOf (qIsi .tuple m.n_isinstance m.n_tuple (qO 0)))) (kOr1 (qkCmp .ne g (oOf (qLc [("_law_name", 2)] [2] g (wSeq (qV 0)) (fun _ _ _ _ _ => qgN (g.blk _ _ _ _ _) 2) (fun _ _ _ _ _ => kIfs1 (kNotC (qkOf (qCall hr c_law_is_name pass0G (fun _ _ _ _ _ _ us hl => match us, hl with | [_], _ => rfl) (qaCons (qV 2) (aNil0)))))) (fun _ _ _ _ _ => qV 2) (by show blkC N_law_is_set (defScope s_law_is_set) _ _ = true; decide +kernel))) (oOf (jLst (aNil0))))))) (sOne (sRet0 (jBl))) (sNil)) (sOne (sRet0 (qCmp .eq g (oOf (qLc [("_law_n", 1)] [1] g (qR2 m.n_range (jInt) (qBif .len g m.n_len (qO 0))) (fun _ _ _ _ _ => qgN (g.blk _ _ _ _ _) 1) (fun _ _ _ _ _ => kIfs1 (qkCmp .le (g.blk _ _ _ _ _) (oOf (qIdx (qO 0) (qO 1))) (oOf (qIdx (qO 0) (oOf (jSub (qO 1) (oOf (jInt)))))))) (fun _ _ _ _ _ => qV 1) (by show blkC N_law_is_set (defScope s_law_is_set) _ _ = true; decide +kernel))) (oOf (jLst (aNil0))))))
theorem cal_law_is_set {P : Program} {w : World} {K : PySem.W.Frag} {mg : Str → Option Value} {base : Heap} {Wp : Wk → Prop} (m : Mg mg) (c_law_is_name : Cal P w K mg base CX0 Wp 1 "_law_is_name" s_law_is_name P_law_is_name sp_law_is_name) {f : Addr} {fd : FuncData} (F : Fun K "_law_is_set" "_law_is_set" s_law_is_set f fd) (hm : mg "_law_is_set" = some (.ref f)) : Cal P w K mg base CX0 Wp 2 "_law_is_set" s_law_is_set P_law_is_set sp_law_is_set :=
  cal_of F hm sc_law_is_set (fun cdv A outer s H E hr g => jb_law_is_set m c_law_is_name hr g) (Nat.le_refl _) law_law_is_set
/-! ### _law_is_inside -/
abbrev s_law_is_inside : Stmt := topS 28
theorem sc_law_is_inside : FnScope N_law_is_inside P_law_is_inside (defScope s_law_is_inside) := ⟨rfl, rfl, rfl, by decide +kernel, rfl, by decide +kernel, by decide +kernel⟩
theorem jb_law_is_inside {P : Program} {w : World} {K : PySem.W.Frag} {mg : Str → Option Value} {base : Heap} {Wp : Wk → Prop} (m : Mg mg) {f : Addr} {cdv : Value} {A : Around} {outer : List Env} {s : Shared} {H : Hp} {E : XK}
    (hr : RmG 0 (A.deeper (envOfC "_law_is_inside" (defScope s_law_is_inside) s.heap.objs.size f cdv))) (g : Gx (cxOf CX0 P w K mg base N_law_is_inside "_law_is_inside" (defScope s_law_is_inside) f cdv A outer s H E)) :
    JB Wp E (cxOf CX0 P w K mg base N_law_is_inside "_law_is_inside" (defScope s_law_is_inside) f cdv A outer s H E) (defBody s_law_is_inside) d_law_is_inside :=
  sOne (sRet0 (qCmp .eq g (oOf (qLc [("_law_name", 2)] [2] g (wSeq (qV 0)) (fun _ _ _ _ _ => qgN (g.blk _ _ _ _ _) 2) (fun _ _ _ _ _ => kIfs1 (qkCmp .notIn (g.blk _ _ _ _ _) (qO 2) (qO 1))) (fun _ _ _ _ _ => qV 2) (by show blkC N_law_is_inside (defScope s_law_is_inside) _ _ = true; decide +kernel))) (oOf (jLst (aNil0)))))
theorem cal_law_is_inside {P : Program} {w : World} {K : PySem.W.Frag} {mg : Str → Option Value} {base : Heap} {Wp : Wk → Prop} (m : Mg mg) {f : Addr} {fd : FuncData} (F : Fun K "_law_is_inside" "_law_is_inside" s_law_is_inside f fd) (hm : mg "_law_is_inside" = some (.ref f)) : Cal P w K mg base CX0 Wp 1 "_law_is_inside" s_law_is_inside P_law_is_inside sp_law_is_inside :=
  cal_of F hm sc_law_is_inside (fun cdv A outer s H E hr g => jb_law_is_inside m hr g) (Nat.le_refl _) law_law_is_inside
/-! ### _law_are_sets -/
abbrev s_law_are_sets : Stmt := topS 29
theorem sc_law_are_sets : FnScope N_law_are_sets P_law_are_sets (defScope s_law_are_sets) := ⟨rfl, rfl, rfl, by decide +kernel, rfl, by decide +kernel, by decide +kernel⟩
theorem jb_law_are_sets {P : Program} {w : World} {K : PySem.W.Frag} {mg : Str → Option Value} {base : Heap} {Wp : Wk → Prop} (m : Mg mg) (c_law_is_set : Cal P w K mg base CX0 Wp 2 "_law_is_set" s_law_is_set P_law_is_set sp_law_is_set) (c_law_is_inside : Cal P w K mg base CX0 Wp 1 "_law_is_inside" s_law_is_inside P_law_is_inside sp_law_is_inside) {f : Addr} {cdv : Value} {A : Around} {outer : List Env} {s : Shared} {H : Hp} {E : XK}
    (hr : RmG 2 (A.deeper (envOfC "_law_are_sets" (defScope s_law_are_sets) s.heap.objs.size f cdv))) (g : Gx (cxOf CX0 P w K mg base N_law_are_sets "_law_are_sets" (defScope s_law_are_sets) f cdv A outer s H E)) :
    JB Wp E (cxOf CX0 P w K mg base N_law_are_sets "_law_are_sets" (defScope s_law_are_sets) f cdv A outer s H E) (defBody s_law_are_sets) d_law_are_sets :=
  sCons (sIf0 (kW (kOrC (kNotC (qkOf (qIsi .tuple m.n_isinstance m.n_tuple (qO 1)))) (kOrC (qkEq0 g (qO 1)) (kOr1 (qkCmp .ne g (oOf (qLc [("_law_group", 3)] [3] g (wSeq (qV 1)) (fun _ _ _ _ _ => qgN (g.blk _ _ _ _ _) 3) (fun _ _ _ _ _ => kIfs1 (kNotC (qkOf (qCall hr c_law_is_set pass0G (fun _ _ _ _ _ _ us hl => match us, hl with | [_], _ => rfl) (qaCons (qV 3) (aNil0)))))) (fun _ _ _ _ _ => qV 3) (by show blkC N_law_are_sets (defScope s_law_are_sets) _ _ = true; decide +kernel))) (oOf (jLst (aNil0)))))))) (sOne (sRet0 (jBl))) (sNil)) (sCons (sIf0 (qkCmp .ne g (oOf (qLc [("_law_n", 2)] [2] g (qR2 m.n_range (jInt) (qBif .len g m.n_len (qO 1))) (fun _ _ _ _ _ => qgN (g.blk _ _ _ _ _) 2) (fun _ _ _ _ _ => kIfs1 (qkCmp .le (g.blk _ _ _ _ _) (oOf (qIdx (qO 1) (qO 2))) (oOf (qIdx (qO 1) (oOf (jSub (qO 2) (oOf (jInt)))))))) (fun _ _ _ _ _ => qV 2) (by show blkC N_law_are_sets (defScope s_law_are_sets) _ _ = true; decide +kernel))) (oOf (jLst (aNil0)))) (sOne (sRet0 (jBl))) (sNil)) (sCons (sIf0 (qkCmp .ne g (oOf (qLc [("_law_group", 3)] [3] g (wSeq (qV 1)) (fun _ _ _ _ _ => qgN (g.blk _ _ _ _ _) 3) (fun _ _ _ _ _ => kIfs1 (kNotC (qkOf (qCall hr c_law_is_inside pass0G (fun _ _ _ _ _ _ us hl => match us, hl with | [_, _], _ => rfl) (qaCons (qV 3) (qaCons (qV 0) (aNil0))))))) (fun _ _ _ _ _ => qV 3) (by show blkC N_law_are_sets (defScope s_law_are_sets) _ _ = true; decide +kernel))) (oOf (jLst (aNil0)))) (sOne (sRet0 (jBl))) (sNil)) (sCons (qFor g owns_cx (qEnum g m.n_enumerate (qV 1)) (qgT g (qgs (qgN g 2) (qgs (qgN g 3) (gNilN)))) (sOne (sIf0 (qkCmp .ne g (oOf (qLc [("_law_far", 4)] [4] g (wSeq (jAdd (oOf (jSli (qO 1) (pNone) (pSome (qV 2)))) (oOf (jSli (qO 1) (pSome (jAdd (qO 2) (oOf (jInt)))) (pNone))))) (fun _ _ _ _ _ => qgN (g.blk _ _ _ _ _) 4) (fun _ _ _ _ _ => kIfs1 (qkOf (qCall hr c_law_is_inside pass0G (fun _ _ _ _ _ _ us hl => match us, hl with | [_, _], _ => rfl) (qaCons (qV 3) (qaCons (qV 4) (aNil0)))))) (fun _ _ _ _ _ => qV 4) (by show blkC N_law_are_sets (defScope s_law_are_sets) _ _ = true; decide +kernel))) (oOf (jLst (aNil0)))) (sOne (sRet0 (jBl))) (sNil)))) (sOne (sRet0 (jBl))))))
theorem cal_law_are_sets {P : Program} {w : World} {K : PySem.W.Frag} {mg : Str → Option Value} {base : Heap} {Wp : Wk → Prop} (m : Mg mg) (c_law_is_set : Cal P w K mg base CX0 Wp 2 "_law_is_set" s_law_is_set P_law_is_set sp_law_is_set) (c_law_is_inside : Cal P w K mg base CX0 Wp 1 "_law_is_inside" s_law_is_inside P_law_is_inside sp_law_is_inside) {f : Addr} {fd : FuncData} (F : Fun K "_law_are_sets" "_law_are_sets" s_law_are_sets f fd) (hm : mg "_law_are_sets" = some (.ref f)) : Cal P w K mg base CX0 Wp 3 "_law_are_sets" s_law_are_sets P_law_are_sets sp_law_are_sets :=
  cal_of F hm sc_law_are_sets (fun cdv A outer s H E hr g => jb_law_are_sets m c_law_is_set c_law_is_inside hr g) (Nat.le_refl _) law_law_are_sets
/-! ### _law_is_prime -/
abbrev s_law_is_prime : Stmt := topS 30
theorem sc_law_is_prime : FnScope N_law_is_prime P_law_is_prime (defScope s_law_is_prime) := ⟨rfl, rfl, rfl, by decide +kernel, rfl, by decide +kernel, by decide +kernel⟩
theorem jb_law_is_prime {P : Program} {w : World} {K : PySem.W.Frag} {mg : Str → Option Value} {base : Heap} {Wp : Wk → Prop} (m : Mg mg) {f : Addr} {cdv : Value} {A : Around} {outer : List Env} {s : Shared} {H : Hp} {E : XK}
    (hr : RmG 0 (A.deeper (envOfC "_law_is_prime" (defScope s_law_is_prime) s.heap.objs.size f cdv))) (g : Gx (cxOf CX0 P w K mg base N_law_is_prime "_law_is_prime" (defScope s_law_is_prime) f cdv A outer s H E)) :
    JB Wp E (cxOf CX0 P w K mg base N_law_is_prime "_law_is_prime" (defScope s_law_is_prime) f cdv A outer s H E) (defBody s_law_is_prime) d_law_is_prime :=
  sCons (sIf0 (kW (kOrC (kNotC (qkOf (qIsi .int m.n_isinstance m.n_int (qO 0)))) (kOrC (qkOf (qIsi .bool m.n_isinstance m.n_bool (qO 0))) (kOrC (qkCmp .lt g (qO 0) (oOf (jInt))) (kOr1 (qkCmp .gt g (qO 0) (oOf (jInt)))))))) (sOne (sRet0 (jBl))) (sNil)) (sOne (sRet0 (qCmp .eq g (oOf (qLc [("_law_n", 1)] [1] g (qR2 m.n_range (jInt) (jInt)) (fun _ _ _ _ _ => qgN (g.blk _ _ _ _ _) 1) (fun _ _ _ _ _ => kIfs1 (kW (kAndC (qkCmp .eq (g.blk _ _ _ _ _) (oOf (jMod (qO 0) (qO 1))) (oOf (jInt))) (kAnd1 (qkCmp .ne (g.blk _ _ _ _ _) (qO 0) (qO 1)))))) (fun _ _ _ _ _ => qV 1) (by show blkC N_law_is_prime (defScope s_law_is_prime) _ _ = true; decide +kernel))) (oOf (jLst (aNil0))))))
theorem cal_law_is_prime {P : Program} {w : World} {K : PySem.W.Frag} {mg : Str → Option Value} {base : Heap} {Wp : Wk → Prop} (m : Mg mg) {f : Addr} {fd : FuncData} (F : Fun K "_law_is_prime" "_law_is_prime" s_law_is_prime f fd) (hm : mg "_law_is_prime" = some (.ref f)) : Cal P w K mg base CX0 Wp 1 "_law_is_prime" s_law_is_prime P_law_is_prime sp_law_is_prime :=
  cal_of F hm sc_law_is_prime (fun cdv A outer s H E hr g => jb_law_is_prime m hr g) (Nat.le_refl _) law_law_is_prime
/-! ### _law_expected -/
abbrev s_law_expected : Stmt := topS 31
theorem sc_law_expected : FnScope N_law_expected P_law_expected (defScope s_law_expected) := ⟨rfl, rfl, rfl, by decide +kernel, rfl, by decide +kernel, by decide +kernel⟩
theorem jb_law_expected {P : Program} {w : World} {K : PySem.W.Frag} {mg : Str → Option Value} {base : Heap} {Wp : Wk → Prop} (m : Mg mg) (c_law_is_prime : Cal P w K mg base CX0 Wp 1 "_law_is_prime" s_law_is_prime P_law_is_prime sp_law_is_prime) (c_law_is_set : Cal P w K mg base CX0 Wp 2 "_law_is_set" s_law_is_set P_law_is_set sp_law_is_set) (c_law_are_sets : Cal P w K mg base CX0 Wp 3 "_law_are_sets" s_law_are_sets P_law_are_sets sp_law_are_sets) (c_law_is_inside : Cal P w K mg base CX0 Wp 1 "_law_is_inside" s_law_is_inside P_law_is_inside sp_law_is_inside) {f : Addr} {cdv : Value} {A : Around} {outer : List Env} {s : Shared} {H : Hp} {E : XK}
    (hr : RmG 3 (A.deeper (envOfC "_law_expected" (defScope s_law_expected) s.heap.objs.size f cdv))) (g : Gx (cxOf CX0 P w K mg base N_law_expected "_law_expected" (defScope s_law_expected) f cdv A outer s H E)) :
    JB Wp E (cxOf CX0 P w K mg base N_law_expected "_law_expected" (defScope s_law_expected) f cdv A outer s H E) (defBody s_law_expected) d_law_expected :=
  sCons (sIf0 (kW (kOrC (kNotC (qkOf (qIsi .tuple m.n_isinstance m.n_tuple (qO 0)))) (kOrC (qkCmp .ne g (oOf (qBif .len g m.n_len (qO 0))) (oOf (jInt))) (kOr1 (kNotC (qkOf (qCall hr c_law_is_prime pass0G (fun _ _ _ _ _ _ us hl => match us, hl with | [_], _ => rfl) (qaCons (qIdx (qO 0) (oOf (jInt))) (aNil0))))))))) (sOne (sRet0 (jBl))) (sNil)) (sCons (sIf0 (kW (kOrC (kNotC (qkOf (qCall hr c_law_is_set pass0G (fun _ _ _ _ _ _ us hl => match us, hl with | [_], _ => rfl) (qaCons (qIdx (qO 0) (oOf (jInt))) (aNil0))))) (kOrC (kNotC (qkOf (qCall hr c_law_is_set pass0G (fun _ _ _ _ _ _ us hl => match us, hl with | [_], _ => rfl) (qaCons (qIdx (qO 0) (oOf (jInt))) (aNil0))))) (kOrC (qkCmp .lt g (oOf (qBif .len g m.n_len (oOf (qIdx (qO 0) (oOf (jInt)))))) (oOf (jInt))) (kOr1 (qkCmp .lt g (oOf (qBif .len g m.n_len (oOf (qIdx (qO 0) (oOf (jInt)))))) (oOf (jInt)))))))) (sOne (sRet0 (jBl))) (sNil)) (sCons (sIf0 (qkCmp .ne g (oOf (qLc [("_law_name", 1)] [1] g (wSeq (qIdx (qO 0) (oOf (jInt)))) (fun _ _ _ _ _ => qgN (g.blk _ _ _ _ _) 1) (fun _ _ _ _ _ => kIfs1 (qkCmp .isIn (g.blk _ _ _ _ _) (qO 1) (oOf (qIdx (qO 0) (oOf (jInt)))))) (fun _ _ _ _ _ => qV 1) (by show blkC N_law_expected (defScope s_law_expected) _ _ = true; decide +kernel))) (oOf (jLst (aNil0)))) (sOne (sRet0 (jBl))) (sNil)) (sCons (sIf0 (kW (kOrC (kNotC (qkOf (qCall hr c_law_are_sets pass0G (fun _ _ _ _ _ _ us hl => match us, hl with | [_, _], _ => rfl) (qaCons (qIdx (qO 0) (oOf (jInt))) (qaCons (qIdx (qO 0) (oOf (jInt))) (aNil0)))))) (kOr1 (kNotC (qkOf (qCall hr c_law_are_sets pass0G (fun _ _ _ _ _ _ us hl => match us, hl with | [_, _], _ => rfl) (qaCons (qIdx (qO 0) (oOf (jInt))) (qaCons (qIdx (qO 0) (oOf (jInt))) (aNil0))))))))) (sOne (sRet0 (jBl))) (sNil)) (sOne (sRet0 (qCmp .eq g (oOf (qLc [("_law_group", 2)] [2] g (wSeq (qIdx (qO 0) (oOf (jInt)))) (fun _ _ _ _ _ => qgN (g.blk _ _ _ _ _) 2) (fun _ _ _ _ _ => kIfs1 (qkCmp .eq (g.blk _ _ _ _ _) (oOf (qLc [("_law_far", 3)] [3] (g.blk _ _ _ _ _) (wSeq (qIdx (qO 0) (oOf (jInt)))) (fun _ _ _ _ _ => qgN ((g.blk _ _ _ _ _).blk _ _ _ _ _) 3) (fun _ _ _ _ _ => kIfs1 (qkOf (qCall hr c_law_is_inside pass0G (fun _ _ _ _ _ _ us hl => match us, hl with | [_, _], _ => rfl) (qaCons (qV 2) (qaCons (qV 3) (aNil0)))))) (fun _ _ _ _ _ => qV 3) (by rfl))) (oOf (jLst (aNil0))))) (fun _ _ _ _ _ => qV 2) (by show blkC N_law_expected (defScope s_law_expected) _ _ = true; decide +kernel))) (oOf (jLst (aNil0)))))))))
theorem cal_law_expected {P : Program} {w : World} {K : PySem.W.Frag} {mg : Str → Option Value} {base : Heap} {Wp : Wk → Prop} (m : Mg mg) (c_law_is_prime : Cal P w K mg base CX0 Wp 1 "_law_is_prime" s_law_is_prime P_law_is_prime sp_law_is_prime) (c_law_is_set : Cal P w K mg base CX0 Wp 2 "_law_is_set" s_law_is_set P_law_is_set sp_law_is_set) (c_law_are_sets : Cal P w K mg base CX0 Wp 3 "_law_are_sets" s_law_are_sets P_law_are_sets sp_law_are_sets) (c_law_is_inside : Cal P w K mg base CX0 Wp 1 "_law_is_inside" s_law_is_inside P_law_is_inside sp_law_is_inside) {f : Addr} {fd : FuncData} (F : Fun K "_law_expected" "_law_expected" s_law_expected f fd) (hm : mg "_law_expected" = some (.ref f)) : Cal P w K mg base CX0 Wp 4 "_law_expected" s_law_expected P_law_expected sp_law_expected :=
  cal_of F hm sc_law_expected (fun cdv A outer s H E hr g => jb_law_expected m c_law_is_prime c_law_is_set c_law_are_sets c_law_is_inside hr g) (Nat.le_refl _) law_law_expected
/-! ### _law_paths -/
abbrev s_law_paths : Stmt := topS 32
theorem sc_law_paths : FnScope N_law_paths P_law_paths (defScope s_law_paths) := ⟨rfl, rfl, rfl, by decide +kernel, rfl, by decide +kernel, by decide +kernel⟩
theorem jb_law_paths {P : Program} {w : World} {K : PySem.W.Frag} {mg : Str → Option Value} {base : Heap} {Wp : Wk → Prop} (m : Mg mg) {lv : Nat} {sq : FSpec} (c_self : Cal P w K mg base CX0 Wp lv "_law_paths" s_law_paths P_law_paths sq) {f : Addr} {cdv : Value} {A : Around} {outer : List Env} {s : Shared} {H : Hp} {E : XK}
    (hr : RmG lv (A.deeper (envOfC "_law_paths" (defScope s_law_paths) s.heap.objs.size f cdv))) (g : Gx (cxOf CX0 P w K mg base N_law_paths "_law_paths" (defScope s_law_paths) f cdv A outer s H E)) :
    JB Wp E (cxOf CX0 P w K mg base N_law_paths "_law_paths" (defScope s_law_paths) f cdv A outer s H E) (defBody s_law_paths) (d_law_paths sq) :=
  sCons (qSet 1 g (jLst (qaCons (jTup (aNil0)) (aNil0)))) (sCons (sIf0 (qkOf (qIsi2 .tuple .list m.n_isinstance m.n_tuple m.n_list (qO 0))) (sOne (qFor g owns_cx (qEnum g m.n_enumerate (qV 0)) (qgT g (qgs (qgN g 2) (qgs (qgN g 3) (gNilN)))) (sOne (qSet 1 g (jAdd (qO 1) (oOf (qLc [("_law_path", 4)] [4] g (wSeq (qCall hr c_self pass0G (fun _ _ _ _ _ _ us hl => match us, hl with | [_], _ => rfl) (qaCons (qV 3) (aNil0)) (Nat.le_refl _))) (fun _ _ _ _ _ => qgN (g.blk _ _ _ _ _) 4) (fun _ _ _ _ _ => kIfs0) (fun _ _ _ _ _ => jAdd (oOf (jTup (qaCons (qV 2) (aNil0)))) (qO 4)) (by show blkC N_law_paths (defScope s_law_paths) _ _ = true; decide +kernel)))))))) (sNil)) (sOne (qRetV 1 (qO 1))))
theorem cal_law_paths {P : Program} {w : World} {K : PySem.W.Frag} {mg : Str → Option Value} {base : Heap} {Wp : Wk → Prop} (m : Mg mg) {f : Addr} {fd : FuncData} (F : Fun K "_law_paths" "_law_paths" s_law_paths f fd) (hm : mg "_law_paths" = some (.ref f)) : ∀ n, Cal P w K mg base CX0 Wp n "_law_paths" s_law_paths P_law_paths (sq_law_paths n)
  | 0 => cal_no F hm
  | n + 1 => cal_of F hm sc_law_paths (fun cdv A outer s H E hr g => jb_law_paths m (cal_law_paths m F hm n) hr g) (le_law_paths n) (law_law_paths n)
/-! ### _law_at -/
abbrev s_law_at : Stmt := topS 33
theorem sc_law_at : FnScope N_law_at P_law_at (defScope s_law_at) := ⟨rfl, rfl, rfl, by decide +kernel, rfl, by decide +kernel, by decide +kernel⟩
theorem jb_law_at {P : Program} {w : World} {K : PySem.W.Frag} {mg : Str → Option Value} {base : Heap} {Wp : Wk → Prop} (m : Mg mg) {f : Addr} {cdv : Value} {A : Around} {outer : List Env} {s : Shared} {H : Hp} {E : XK}
    (hr : RmG 0 (A.deeper (envOfC "_law_at" (defScope s_law_at) s.heap.objs.size f cdv))) (g : Gx (cxOf CX0 P w K mg base N_law_at "_law_at" (defScope s_law_at) f cdv A outer s H E)) :
    JB Wp E (cxOf CX0 P w K mg base N_law_at "_law_at" (defScope s_law_at) f cdv A outer s H E) (defBody s_law_at) d_law_at :=
  sCons (qFor g owns_cx (wSeq (qV 1)) (qgN g 2) (sOne (qSet 0 g (qIdx (qO 0) (qO 2))))) (sOne (qRetV 0 (qO 0)))
theorem cal_law_at {P : Program} {w : World} {K : PySem.W.Frag} {mg : Str → Option Value} {base : Heap} {Wp : Wk → Prop} (m : Mg mg) {f : Addr} {fd : FuncData} (F : Fun K "_law_at" "_law_at" s_law_at f fd) (hm : mg "_law_at" = some (.ref f)) : Cal P w K mg base CX0 Wp 1 "_law_at" s_law_at P_law_at sp_law_at :=
  cal_of F hm sc_law_at (fun cdv A outer s H E hr g => jb_law_at m hr g) (Nat.le_refl _) law_law_at
/-! ### _law_put -/
abbrev s_law_put : Stmt := topS 34
theorem sc_law_put : FnScope N_law_put P_law_put (defScope s_law_put) := ⟨rfl, rfl, rfl, by decide +kernel, rfl, by decide +kernel, by decide +kernel⟩
theorem jb_law_put {P : Program} {w : World} {K : PySem.W.Frag} {mg : Str → Option Value} {base : Heap} {Wp : Wk → Prop} (m : Mg mg) {lv : Nat} {sq : FSpec} (c_self : Cal P w K mg base CX0 Wp lv "_law_put" s_law_put P_law_put sq) {f : Addr} {cdv : Value} {A : Around} {outer : List Env} {s : Shared} {H : Hp} {E : XK}
    (hr : RmG lv (A.deeper (envOfC "_law_put" (defScope s_law_put) s.heap.objs.size f cdv))) (g : Gx (cxOf CX0 P w K mg base N_law_put "_law_put" (defScope s_law_put) f cdv A outer s H E)) :
    JB Wp E (cxOf CX0 P w K mg base N_law_put "_law_put" (defScope s_law_put) f cdv A outer s H E) (defBody s_law_put) (d_law_put sq) :=
  sCons (sIf0 (qkEq0 g (qO 1)) (sOne (qRetV 2 (qO 2))) (sNil)) (sCons (qSet 3 g (qBif .list g m.n_list (qO 0))) (sCons (qPutO 3 g (qIdx (qO 1) (oOf (jInt))) (qCall hr c_self pass0G (fun _ _ _ _ _ _ us hl => match us, hl with | [_, _, _], _ => rfl) (qaCons (qIdx (qO 0) (oOf (qIdx (qO 1) (oOf (jInt))))) (qaCons (jSli (qO 1) (pSome (jInt)) (pNone)) (qaCons (qV 2) (aNil0)))) (Nat.le_refl _))) (sOne (sRet0 (jIte (qkOf (qIsi .list m.n_isinstance m.n_list (qO 0))) (qV 3) (qBif .tuple g m.n_tuple (qO 3)))))))
theorem cal_law_put {P : Program} {w : World} {K : PySem.W.Frag} {mg : Str → Option Value} {base : Heap} {Wp : Wk → Prop} (m : Mg mg) {f : Addr} {fd : FuncData} (F : Fun K "_law_put" "_law_put" s_law_put f fd) (hm : mg "_law_put" = some (.ref f)) : ∀ n, Cal P w K mg base CX0 Wp n "_law_put" s_law_put P_law_put (sq_law_put n)
  | 0 => cal_no F hm
  | n + 1 => cal_of F hm sc_law_put (fun cdv A outer s H E hr g => jb_law_put m (cal_law_put m F hm n) hr g) (le_law_put n) (law_law_put n)
/-! ### _law_replacement -/
abbrev s_law_replacement : Stmt := topS 35
theorem sc_law_replacement : FnScope N_law_replacement P_law_replacement (defScope s_law_replacement) := ⟨rfl, rfl, rfl, by decide +kernel, rfl, by decide +kernel, by decide +kernel⟩
theorem jb_law_replacement {P : Program} {w : World} {K : PySem.W.Frag} {mg : Str → Option Value} {base : Heap} {Wp : Wk → Prop} (m : Mg mg) (c_law_draw : Cal P w K mg base CX0 Wp 1 "_law_draw" s_law_draw P_law_draw sp_law_draw) (c_law_pick : Cal P w K mg base CX0 Wp 2 "_law_pick" s_law_pick P_law_pick sp_law_pick) {f : Addr} {cdv : Value} {A : Around} {outer : List Env} {s : Shared} {H : Hp} {E : XK}
    (hr : RmG 2 (A.deeper (envOfC "_law_replacement" (defScope s_law_replacement) s.heap.objs.size f cdv))) (g : Gx (cxOf CX0 P w K mg base N_law_replacement "_law_replacement" (defScope s_law_replacement) f cdv A outer s H E)) :
    JB Wp E (cxOf CX0 P w K mg base N_law_replacement "_law_replacement" (defScope s_law_replacement) f cdv A outer s H E) (defBody s_law_replacement) d_law_replacement :=
  sCons (qSet 3 g (qCall hr c_law_draw pass0G (fun _ _ _ _ _ _ us hl => match us, hl with | [_, _], _ => rfl) (qaCons (qV 0) (qaCons (jInt) (aNil0))))) (sCons (sIf0 (qkCmp .eq g (qO 3) (oOf (jInt))) (sOne (sRet0 (qCall hr c_law_pick pass0G (fun _ _ _ _ _ _ us hl => match us, hl with | [_, _], _ => rfl) (qaCons (qV 0) (qaCons (jLst (qaCons (jNon) (qaCons (jBl) (qaCons (jInt) (qaCons (jInt) (qaCons (jInt) (qaCons (jStr) (qaCons (jStr) (qaCons (jTup (aNil0)) (qaCons (jTup (qaCons (jStr) (aNil0))) (qaCons (jLst (aNil0)) (qaCons (qDict0) (qaCons (jTup (qaCons (jTup (aNil0)) (aNil0))) (qaCons (jTup (qaCons (jTup (aNil0)) (qaCons (jTup (qaCons (jStr) (aNil0))) (aNil0)))) (qaCons (jPow (oOf (jInt)) (oOf (jInt))) (aNil0)))))))))))))))) (aNil0)))))) (sNil)) (sCons (sIf0 (qkCmp .eq g (qO 3) (oOf (jInt))) (sOne (qRetV 2 (qO 2))) (sNil)) (sCons (sIf0 (qkOf (qIsi .str m.n_isinstance m.n_str (qO 1))) (sCons (qSet 5 g (jLst (qaCons (jAddB (qO 1) (oOf (jStr))) (qaCons (jSli (qO 1) (pSome (jInt)) (pNone)) (qaCons (qUpper (qV 1)) (qaCons (jAddB (qO 1) (oOf (jStr))) (qaCons (jAddB (oOf (jSli (qO 1) (pNone) (pSome (jNeg (oOf (jInt)))))) (oOf (jStr))) (qaCons (jTup (qaCons (qV 1) (aNil0))) (qaCons (jMulB (qO 1) (oOf (jInt))) (qaCons (qRevX (qO 1)) (aNil0))))))))))) (sOne (sRet0 (qIdx (qO 5) (oOf (jSubB (qO 3) (oOf (jInt)))))))) (sNil)) (sCons (sIf0 (qkOf (qIsi .int m.n_isinstance m.n_int (qO 1))) (sOne (sRet0 (qIdx (oOf (jLst (qaCons (jAddB (qO 1) (oOf (jInt))) (qaCons (jSubB (qO 1) (oOf (jInt))) (qaCons (jSubB (oOf (jInt)) (qO 1)) (qaCons (qCmp .eq g (qO 1) (oOf (jInt))) (qaCons (qStrB g m.n_str (qO 1)) (qaCons (jAddB (qO 1) (oOf (jPow (oOf (jInt)) (oOf (jInt))))) (qaCons (jMulB (qO 1) (oOf (jInt))) (qaCons (jTup (qaCons (qV 1) (aNil0))) (aNil0))))))))))) (oOf (jSubB (qO 3) (oOf (jInt))))))) (sNil)) (sCons (sIf0 (kW (kOrC (kNotC (qkOf (qIsi2 .tuple .list m.n_isinstance m.n_tuple m.n_list (qO 1)))) (kOr1 (qkCmp .eq g (oOf (qBif .len g m.n_len (qO 1))) (oOf (jInt)))))) (sOne (sRet0 (qIdx (oOf (jLst (qaCons (jTup (qaCons (jStr) (aNil0))) (qaCons (jTup (qaCons (jTup (aNil0)) (aNil0))) (qaCons (jNon) (qaCons (jInt) (qaCons (jStr) (qaCons (jLst (qaCons (jTup (aNil0)) (aNil0))) (qaCons (jTup (qaCons (jStr) (qaCons (jStr) (aNil0)))) (qaCons (jTup (qaCons (jStr) (qaCons (jStr) (aNil0)))) (aNil0))))))))))) (oOf (jSubB (qO 3) (oOf (jInt))))))) (sNil)) (sCons (qSet 4 g (qCall hr c_law_draw pass0G (fun _ _ _ _ _ _ us hl => match us, hl with | [_, _], _ => rfl) (qaCons (qV 0) (qaCons (qBif .len g m.n_len (qO 1)) (aNil0))))) (sCons (qPar 6 7 g (jSli (qO 1) (pNone) (pSome (qV 4))) (jSli (qO 1) (pSome (jAddB (qO 4) (oOf (jInt)))) (pNone))) (sCons (qSet 5 g (jLst (qaCons (jAddB (qO 6) (qO 7)) (qaCons (jAddB (oOf (jSli (qO 1) (pNone) (pSome (jAddB (qO 4) (oOf (jInt)))))) (oOf (jSli (qO 1) (pSome (qV 4)) (pNone)))) (qaCons (qRevX (qO 1)) (qaCons (qBif .list g m.n_list (qO 1)) (qaCons (qIdx (qO 1) (qO 4)) (qaCons (jTup (qaCons (qV 1) (aNil0))) (aNil0))))))))) (sCons (qDrop (qMth .append (qO 5) (qaCons (jAddB (oOf (jAddB (qO 6) (oOf (qRevX (oOf (jSli (qO 1) (pSome (qV 4)) (pSome (jAddB (qO 4) (oOf (jInt)))))))))) (oOf (jSli (qO 7) (pSome (jInt)) (pNone)))) (aNil0)))) (sOne (sRet0 (qIdx (oOf (jAddB (qO 5) (oOf (jLst (qaCons (jAddB (oOf (jSli (qO 1) (pSome (qV 4)) (pNone))) (qO 6)) (aNil0)))))) (oOf (jSubB (qO 3) (oOf (jInt))))))))))))))))
theorem cal_law_replacement {P : Program} {w : World} {K : PySem.W.Frag} {mg : Str → Option Value} {base : Heap} {Wp : Wk → Prop} (m : Mg mg) (c_law_draw : Cal P w K mg base CX0 Wp 1 "_law_draw" s_law_draw P_law_draw sp_law_draw) (c_law_pick : Cal P w K mg base CX0 Wp 2 "_law_pick" s_law_pick P_law_pick sp_law_pick) {f : Addr} {fd : FuncData} (F : Fun K "_law_replacement" "_law_replacement" s_law_replacement f fd) (hm : mg "_law_replacement" = some (.ref f)) : Cal P w K mg base CX0 Wp 3 "_law_replacement" s_law_replacement P_law_replacement sp_law_replacement :=
  cal_of F hm sc_law_replacement (fun cdv A outer s H E hr g => jb_law_replacement m c_law_draw c_law_pick hr g) (Nat.le_refl _) law_law_replacement
/-! ### _law_modified -/
abbrev s_law_modified : Stmt := topS 36
theorem sc_law_modified : FnScope N_law_modified P_law_modified (defScope s_law_modified) := ⟨rfl, rfl, rfl, by decide +kernel, rfl, by decide +kernel, by decide +kernel⟩
theorem jb_law_modified {P : Program} {w : World} {K : PySem.W.Frag} {mg : Str → Option Value} {base : Heap} {Wp : Wk → Prop} (m : Mg mg) (c_law_paths : Cal P w K mg base CX0 Wp 24 "_law_paths" s_law_paths P_law_paths sp_law_paths) (c_law_pick : Cal P w K mg base CX0 Wp 2 "_law_pick" s_law_pick P_law_pick sp_law_pick) (c_law_put : Cal P w K mg base CX0 Wp 24 "_law_put" s_law_put P_law_put sp_law_put) (c_law_replacement : Cal P w K mg base CX0 Wp 3 "_law_replacement" s_law_replacement P_law_replacement sp_law_replacement) (c_law_at : Cal P w K mg base CX0 Wp 1 "_law_at" s_law_at P_law_at sp_law_at) {f : Addr} {cdv : Value} {A : Around} {outer : List Env} {s : Shared} {H : Hp} {E : XK}
    (hr : RmG 24 (A.deeper (envOfC "_law_modified" (defScope s_law_modified) s.heap.objs.size f cdv))) (g : Gx (cxOf CX0 P w K mg base N_law_modified "_law_modified" (defScope s_law_modified) f cdv A outer s H E)) :
    JB Wp E (cxOf CX0 P w K mg base N_law_modified "_law_modified" (defScope s_law_modified) f cdv A outer s H E) (defBody s_law_modified) d_law_modified :=
  sCons (qSet 2 g (qCall hr c_law_paths pass0G (fun _ _ _ _ _ _ us hl => match us, hl with | [_], _ => rfl) (qaCons (qV 1) (aNil0)))) (sCons (qPar 3 4 g (qCall hr c_law_pick pass0G (fun _ _ _ _ _ _ us hl => match us, hl with | [_, _], _ => rfl) (qaCons (qV 0) (qaCons (qV 2) (aNil0)))) (qCall hr c_law_pick pass0G (fun _ _ _ _ _ _ us hl => match us, hl with | [_, _], _ => rfl) (qaCons (qV 0) (qaCons (qV 2) (aNil0))))) (sOne (sRet0 (qCall hr c_law_put pass0G (fun _ _ _ _ _ _ us hl => match us, hl with | [_, _, _], _ => rfl) (qaCons (qV 1) (qaCons (qV 3) (qaCons (qCall hr c_law_replacement pass0G (fun _ _ _ _ _ _ us hl => match us, hl with | [_, _, _], _ => rfl) (qaCons (qV 0) (qaCons (qCall hr c_law_at pass0G (fun _ _ _ _ _ _ us hl => match us, hl with | [_, _], _ => rfl) (qaCons (qV 1) (qaCons (qV 3) (aNil0)))) (qaCons (qCall hr c_law_at pass0G (fun _ _ _ _ _ _ us hl => match us, hl with | [_, _], _ => rfl) (qaCons (qV 1) (qaCons (qV 4) (aNil0)))) (aNil0))))) (aNil0))))))))
theorem cal_law_modified {P : Program} {w : World} {K : PySem.W.Frag} {mg : Str → Option Value} {base : Heap} {Wp : Wk → Prop} (m : Mg mg) (c_law_paths : Cal P w K mg base CX0 Wp 24 "_law_paths" s_law_paths P_law_paths sp_law_paths) (c_law_pick : Cal P w K mg base CX0 Wp 2 "_law_pick" s_law_pick P_law_pick sp_law_pick) (c_law_put : Cal P w K mg base CX0 Wp 24 "_law_put" s_law_put P_law_put sp_law_put) (c_law_replacement : Cal P w K mg base CX0 Wp 3 "_law_replacement" s_law_replacement P_law_replacement sp_law_replacement) (c_law_at : Cal P w K mg base CX0 Wp 1 "_law_at" s_law_at P_law_at sp_law_at) {f : Addr} {fd : FuncData} (F : Fun K "_law_modified" "_law_modified" s_law_modified f fd) (hm : mg "_law_modified" = some (.ref f)) : Cal P w K mg base CX0 Wp 25 "_law_modified" s_law_modified P_law_modified sp_law_modified :=
  cal_of F hm sc_law_modified (fun cdv A outer s H E hr g => jb_law_modified m c_law_paths c_law_pick c_law_put c_law_replacement c_law_at hr g) (Nat.le_refl _) law_law_modified
/-! ### _law_right -/
abbrev s_law_right : Stmt := topS 37
theorem sc_law_right : FnScope N_law_right P_law_right (defScope s_law_right) := ⟨rfl, rfl, rfl, by decide +kernel, rfl, by decide +kernel, by decide +kernel⟩
theorem jb_law_right {P : Program} {w : World} {K : PySem.W.Frag} {mg : Str → Option Value} {base : Heap} {Wp : Wk → Prop} (m : Mg mg) (c_law_expected : Cal P w K mg base CX0 Wp 4 "_law_expected" s_law_expected P_law_expected sp_law_expected) (c_is_scheme : Cal P w K mg base CX0 Wp 4 "is_scheme" s_is_scheme P_is_scheme sp_is_scheme) {f : Addr} {cdv : Value} {A : Around} {outer : List Env} {s : Shared} {H : Hp} {E : XK}
    (hr : RmG 4 (A.deeper (envOfC "_law_right" (defScope s_law_right) s.heap.objs.size f cdv))) (g : Gx (cxOf CX0 P w K mg base N_law_right "_law_right" (defScope s_law_right) f cdv A outer s H E)) :
    JB Wp E (cxOf CX0 P w K mg base N_law_right "_law_right" (defScope s_law_right) f cdv A outer s H E) (defBody s_law_right) d_law_right :=
  sCons (qPar 1 2 g (qBif .repr g m.n_repr (qO 0)) (qCall hr c_law_expected pass0G (fun _ _ _ _ _ _ us hl => match us, hl with | [_], _ => rfl) (qaCons (qV 0) (aNil0)))) (sOne (sRet0 (jAnd (qCmp .eq g (oOf (qBif .repr g m.n_repr (oOf (jLst (qaCons (qCall hr c_is_scheme pass0G (fun _ _ _ _ _ _ us hl => match us, hl with | [_], _ => rfl) (qaCons (qV 0) (aNil0))) (qaCons (qCall hr c_is_scheme pass0G (fun _ _ _ _ _ _ us hl => match us, hl with | [_], _ => rfl) (qaCons (qV 0) (aNil0))) (aNil0))))))) (oOf (qBif .repr g m.n_repr (oOf (jMul (oOf (jLst (qaCons (qV 2) (aNil0)))) (oOf (jInt))))))) (jAnd1 (qCmp .eq g (oOf (qBif .repr g m.n_repr (qO 0))) (qO 1))))))
theorem cal_law_right {P : Program} {w : World} {K : PySem.W.Frag} {mg : Str → Option Value} {base : Heap} {Wp : Wk → Prop} (m : Mg mg) (c_law_expected : Cal P w K mg base CX0 Wp 4 "_law_expected" s_law_expected P_law_expected sp_law_expected) (c_is_scheme : Cal P w K mg base CX0 Wp 4 "is_scheme" s_is_scheme P_is_scheme sp_is_scheme) {f : Addr} {fd : FuncData} (F : Fun K "_law_right" "_law_right" s_law_right f fd) (hm : mg "_law_right" = some (.ref f)) : Cal P w K mg base CX0 Wp 5 "_law_right" s_law_right P_law_right sp_law_right :=
  cal_of F hm sc_law_right (fun cdv A outer s H E hr g => jb_law_right m c_law_expected c_is_scheme hr g) (Nat.le_refl _) law_law_right
/-! ### law -/
abbrev s_law : Stmt := topS 38
theorem sc_law : FnScope N_law P_law (defScope s_law) := ⟨rfl, rfl, rfl, by decide +kernel, rfl, by decide +kernel, by decide +kernel⟩
theorem jb_law {P : Program} {w : World} {K : PySem.W.Frag} {mg : Str → Option Value} {base : Heap} {Wp : Wk → Prop} (m : Mg mg) (c_law_draw : Cal P w K mg base CX0 Wp 1 "_law_draw" s_law_draw P_law_draw sp_law_draw) (c_law_scheme : Cal P w K mg base CX0 Wp 4 "_law_scheme" s_law_scheme P_law_scheme sp_law_scheme) (c_law_modified : Cal P w K mg base CX0 Wp 25 "_law_modified" s_law_modified P_law_modified sp_law_modified) (c_law_right : Cal P w K mg base CX0 Wp 5 "_law_right" s_law_right P_law_right sp_law_right) (c_is_scheme : Cal P w K mg base CX0 Wp 4 "is_scheme" s_is_scheme P_is_scheme sp_is_scheme) {f : Addr} {cdv : Value} {A : Around} {outer : List Env} {s : Shared} {H : Hp} {E : XK}
    (hr : RmG 25 (A.deeper (envOfC "law" (defScope s_law) s.heap.objs.size f cdv))) (g : Gx (cxOf CX0 P w K mg base N_law "law" (defScope s_law) f cdv A outer s H E)) :
    JB Wp E (cxOf CX0 P w K mg base N_law "law" (defScope s_law) f cdv A outer s H E) ((defBody s_law).drop 1) d_law :=
  sCons (qSetLc 2 [("_law_n", 7)] [7] g (qR1 m.n_range (jInt)) (fun _ _ _ _ _ => qgN (g.blk _ _ _ _ _) 7) (fun _ _ _ _ _ => kIfs0) (fun _ _ _ _ _ => qCmp .eq (g.blk _ _ _ _ _) (oOf (qCall hr c_law_draw pass0G (fun _ _ _ _ _ _ us hl => match us, hl with | [_, _], _ => rfl) (qaCons (qV 1) (qaCons (jInt) (aNil0))))) (oOf (jInt))) (by show blkC N_law (defScope s_law) _ _ = true; decide +kernel)) (sCons (qFor g owns_cx (qR1 m.n_range (jInt)) (qgN g 3) (sCons (qSet 4 g (qCall hr c_law_scheme pass0G (fun _ _ _ _ _ _ us hl => match us, hl with | [_, _], _ => rfl) (qaCons (qV 1) (qaCons (jInt) (aNil0))))) (sCons (qSet 5 g (jLst (qaCons (qV 4) (aNil0)))) (sCons (qFor g owns_cx (wSeq (qV 2)) (qgN g 6) (sCons (qSet 8 g (qCall hr c_law_modified pass0G (fun _ _ _ _ _ _ us hl => match us, hl with | [_, _], _ => rfl) (qaCons (qV 1) (qaCons (qV 4) (aNil0))))) (sOne (qDrop (qMth .append (qO 5) (qaCons (jIte (qkName 6 (qO 6)) (qCall hr c_law_modified pass0G (fun _ _ _ _ _ _ us hl => match us, hl with | [_, _], _ => rfl) (qaCons (qV 1) (qaCons (qV 8) (aNil0)))) (qV 8)) (aNil0))))))) (sOne (sIf0 (kW (kOrC (qkCmp .ne g (oOf (qLc [("_law_it", 9)] [9] g (wSeq (jAdd (qO 5) (oOf (jLst (qaCons (qV 4) (aNil0)))))) (fun _ _ _ _ _ => qgN (g.blk _ _ _ _ _) 9) (fun _ _ _ _ _ => kIfs1 (kNotC (qkOf (qCall hr c_law_right pass0G (fun _ _ _ _ _ _ us hl => match us, hl with | [_], _ => rfl) (qaCons (qV 9) (aNil0)))))) (fun _ _ _ _ _ => qV 9) (by show blkC N_law (defScope s_law) _ _ = true; decide +kernel))) (oOf (jLst (aNil0)))) (kOr1 (qkCmp .notB g (oOf (qCall hr c_is_scheme pass0G (fun _ _ _ _ _ _ us hl => match us, hl with | [_], _ => rfl) (qaCons (qV 4) (aNil0)))) (oOf (jBl)))))) (sOne (sRet0 (jBl))) (sNil))))))) (sOne (sRet0 (jBl))))

set_option exponentiation.threshold 1000000 in
theorem m_law : d_law.m ≤ LIM := by decide +kernel
theorem fn_law {P : Program} {w : World} {K : PySem.W.Frag} {mg : Str → Option Value} {base : Heap} (m : Mg mg) (c_law_draw : Cal P w K mg base CX0 Wp02 1 "_law_draw" s_law_draw P_law_draw sp_law_draw) (c_law_scheme : Cal P w K mg base CX0 Wp02 4 "_law_scheme" s_law_scheme P_law_scheme sp_law_scheme) (c_law_modified : Cal P w K mg base CX0 Wp02 25 "_law_modified" s_law_modified P_law_modified sp_law_modified) (c_law_right : Cal P w K mg base CX0 Wp02 5 "_law_right" s_law_right P_law_right sp_law_right) (c_is_scheme : Cal P w K mg base CX0 Wp02 4 "is_scheme" s_is_scheme P_is_scheme sp_is_scheme) {f fs : Addr} {fd fds : FuncData} (F : Fun K "law" "law" s_law f fd) (Fs : Fun K "_law_source" "_law_source" s_law_source fs fds) (hs : mg "_law_source" = some (.ref fs)) : FnG P w K mg base CX0 26 f fd ["_law_script"] (spLaw K) := by
  obtain ⟨oc, od, kV, doc, pm, an, cdv, ct, osl, e, lk, hcd⟩ := F.ex
  have D : Def K f fd "law" (defBody s_law) (defScope s_law) cdv := ⟨⟨_, _, _, _, _, _, _, _, _, _, _, e, lk⟩, hcd⟩
  refine fnG_of D sc_law (fun {vs H Q E} ⟨a, ns, h, _⟩ => by rw [h]; rfl) fun A outer s H vs Q E hr sp => ?_
  have g : Gx (cxOf CX0 P w K mg base N_law "law" (defScope s_law) f cdv A outer s H E) := ⟨rfl, hr.gd, by
    show A.units + 3 + 65 < cLine
    have h2 : A.units + 3 + 16 * 25 + 200 < cLine := hr.rm.un
    omega, sc_law.nd⟩
  refine ⟨_, pss_cons (ps_set (i := 1) sc_law.nd rfl (by first | exact .inl rfl | exact .inr rfl) ((pe_callG (E := E) ((fn_law_source Fs m.n_list).mono (by decide)) hr (by rfl) hs Fs.kp (Fs.binds (fun _ _ _ _ _ _ us hl => match us, hl with | [_], _ => rfl)) pass0G (by decide)).2 (pa_cons (pv 0) pa_nil) rfl rfl)) (jb_law (Wp := Wp02) m c_law_draw c_law_scheme c_law_modified c_law_right c_is_scheme hr g), ?_⟩
  obtain ⟨a, ns, rfl, sm, ha, q⟩ := sp
  refine ⟨.ref a, rfl, a, ns, rfl, ha, fun dk c H' k h1 h2 h3 => law_go (W := deckW "cells" "digest" "count" dk c 0) ⟨?_, fun j => ⟨dk, c, 0 + j, rfl⟩⟩ h3 (k.sm sm) law_law q⟩
  show 0 + d_law.m ≤ LIM
  rw [Nat.zero_add]
  exact m_law
theorem all_mk {l : PySem.W.OpenLaw} {w : World} {K : PySem.W.Frag} {h : Heap} {mg : Str → Option Value} {fa fa0 fa1 fa2 fa3 fa4 fa5 fa6 fa7 fa8 fa9 fa10 fa11 fa12 fa13 fa14 fa15 fa16 fa17 fa18 fa19 fa20 fa21 fa22 fa23 fa24 fa25 fa26 fa27 fa28 fa29 : Addr} (X : K.In h) (G : h.Ns mainGlobals mg) (hfa : mg "law" = some (.ref fa))
    {od0 an0 : Option Addr} {sl0 : Array (Option Value)} {oc0 kV0 dc0 pm0 cd0 ct0 : Value}
    {od1 an1 : Option Addr} {sl1 : Array (Option Value)} {oc1 kV1 dc1 pm1 cd1 ct1 : Value}
    {od2 an2 : Option Addr} {sl2 : Array (Option Value)} {oc2 kV2 dc2 pm2 cd2 ct2 : Value}
    {od3 an3 : Option Addr} {sl3 : Array (Option Value)} {oc3 kV3 dc3 pm3 cd3 ct3 : Value}
    {od4 an4 : Option Addr} {sl4 : Array (Option Value)} {oc4 kV4 dc4 pm4 cd4 ct4 : Value}
    {od5 an5 : Option Addr} {sl5 : Array (Option Value)} {oc5 kV5 dc5 pm5 cd5 ct5 : Value}
    {od6 an6 : Option Addr} {sl6 : Array (Option Value)} {oc6 kV6 dc6 pm6 cd6 ct6 : Value}
    {od7 an7 : Option Addr} {sl7 : Array (Option Value)} {oc7 kV7 dc7 pm7 cd7 ct7 : Value}
    {od8 an8 : Option Addr} {sl8 : Array (Option Value)} {oc8 kV8 dc8 pm8 cd8 ct8 : Value}
    {od9 an9 : Option Addr} {sl9 : Array (Option Value)} {oc9 kV9 dc9 pm9 cd9 ct9 : Value}
    {od10 an10 : Option Addr} {sl10 : Array (Option Value)} {oc10 kV10 dc10 pm10 cd10 ct10 : Value}
    {od11 an11 : Option Addr} {sl11 : Array (Option Value)} {oc11 kV11 dc11 pm11 cd11 ct11 : Value}
    {od12 an12 : Option Addr} {sl12 : Array (Option Value)} {oc12 kV12 dc12 pm12 cd12 ct12 : Value}
    {od13 an13 : Option Addr} {sl13 : Array (Option Value)} {oc13 kV13 dc13 pm13 cd13 ct13 : Value}
    {od14 an14 : Option Addr} {sl14 : Array (Option Value)} {oc14 kV14 dc14 pm14 cd14 ct14 : Value}
    {od15 an15 : Option Addr} {sl15 : Array (Option Value)} {oc15 kV15 dc15 pm15 cd15 ct15 : Value}
    {od16 an16 : Option Addr} {sl16 : Array (Option Value)} {oc16 kV16 dc16 pm16 cd16 ct16 : Value}
    {od17 an17 : Option Addr} {sl17 : Array (Option Value)} {oc17 kV17 dc17 pm17 cd17 ct17 : Value}
    {od18 an18 : Option Addr} {sl18 : Array (Option Value)} {oc18 kV18 dc18 pm18 cd18 ct18 : Value}
    {od19 an19 : Option Addr} {sl19 : Array (Option Value)} {oc19 kV19 dc19 pm19 cd19 ct19 : Value}
    {od20 an20 : Option Addr} {sl20 : Array (Option Value)} {oc20 kV20 dc20 pm20 cd20 ct20 : Value}
    {od21 an21 : Option Addr} {sl21 : Array (Option Value)} {oc21 kV21 dc21 pm21 cd21 ct21 : Value}
    {od22 an22 : Option Addr} {sl22 : Array (Option Value)} {oc22 kV22 dc22 pm22 cd22 ct22 : Value}
    {od23 an23 : Option Addr} {sl23 : Array (Option Value)} {oc23 kV23 dc23 pm23 cd23 ct23 : Value}
    {od24 an24 : Option Addr} {sl24 : Array (Option Value)} {oc24 kV24 dc24 pm24 cd24 ct24 : Value}
    {od25 an25 : Option Addr} {sl25 : Array (Option Value)} {oc25 kV25 dc25 pm25 cd25 ct25 : Value}
    {od26 an26 : Option Addr} {sl26 : Array (Option Value)} {oc26 kV26 dc26 pm26 cd26 ct26 : Value}
    {od27 an27 : Option Addr} {sl27 : Array (Option Value)} {oc27 kV27 dc27 pm27 cd27 ct27 : Value}
    {od28 an28 : Option Addr} {sl28 : Array (Option Value)} {oc28 kV28 dc28 pm28 cd28 ct28 : Value}
    {od29 an29 : Option Addr} {sl29 : Array (Option Value)} {oc29 kV29 dc29 pm29 cd29 ct29 : Value}
    (a0 : PySem.W.nsIn K mainGlobals "is_integer" = some (some (.ref fa0))) (l0 : K.lookup fa0 = some ⟨oc0, od0, .func (PySem.W.fnOf "is_integer" "is_integer" (defArgs s_is_integer) (defBody s_is_integer) (defScope s_is_integer) .none kV0 dc0 pm0 an0 cd0 ct0), sl0⟩) (c0 : PySem.W.codeIn K cd0 "is_integer" = true) (k0 : PySem.W.keepIn K (.ref fa0) = true)
    (a1 : PySem.W.nsIn K mainGlobals "is_name" = some (some (.ref fa1))) (l1 : K.lookup fa1 = some ⟨oc1, od1, .func (PySem.W.fnOf "is_name" "is_name" (defArgs s_is_name) (defBody s_is_name) (defScope s_is_name) .none kV1 dc1 pm1 an1 cd1 ct1), sl1⟩) (c1 : PySem.W.codeIn K cd1 "is_name" = true) (k1 : PySem.W.keepIn K (.ref fa1) = true)
    (a2 : PySem.W.nsIn K mainGlobals "is_ascending" = some (some (.ref fa2))) (l2 : K.lookup fa2 = some ⟨oc2, od2, .func (PySem.W.fnOf "is_ascending" "is_ascending" (defArgs s_is_ascending) (defBody s_is_ascending) (defScope s_is_ascending) .none kV2 dc2 pm2 an2 cd2 ct2), sl2⟩) (c2 : PySem.W.codeIn K cd2 "is_ascending" = true) (k2 : PySem.W.keepIn K (.ref fa2) = true)
    (a3 : PySem.W.nsIn K mainGlobals "is_party_set" = some (some (.ref fa3))) (l3 : K.lookup fa3 = some ⟨oc3, od3, .func (PySem.W.fnOf "is_party_set" "is_party_set" (defArgs s_is_party_set) (defBody s_is_party_set) (defScope s_is_party_set) .none kV3 dc3 pm3 an3 cd3 ct3), sl3⟩) (c3 : PySem.W.codeIn K cd3 "is_party_set" = true) (k3 : PySem.W.keepIn K (.ref fa3) = true)
    (a4 : PySem.W.nsIn K mainGlobals "is_subset" = some (some (.ref fa4))) (l4 : K.lookup fa4 = some ⟨oc4, od4, .func (PySem.W.fnOf "is_subset" "is_subset" (defArgs s_is_subset) (defBody s_is_subset) (defScope s_is_subset) .none kV4 dc4 pm4 an4 cd4 ct4), sl4⟩) (c4 : PySem.W.codeIn K cd4 "is_subset" = true) (k4 : PySem.W.keepIn K (.ref fa4) = true)
    (a5 : PySem.W.nsIn K mainGlobals "union" = some (some (.ref fa5))) (l5 : K.lookup fa5 = some ⟨oc5, od5, .func (PySem.W.fnOf "union" "union" (defArgs s_union) (defBody s_union) (defScope s_union) .none kV5 dc5 pm5 an5 cd5 ct5), sl5⟩) (c5 : PySem.W.codeIn K cd5 "union" = true) (k5 : PySem.W.keepIn K (.ref fa5) = true)
    (a6 : PySem.W.nsIn K mainGlobals "is_prime" = some (some (.ref fa6))) (l6 : K.lookup fa6 = some ⟨oc6, od6, .func (PySem.W.fnOf "is_prime" "is_prime" (defArgs s_is_prime) (defBody s_is_prime) (defScope s_is_prime) .none kV6 dc6 pm6 an6 cd6 ct6), sl6⟩) (c6 : PySem.W.codeIn K cd6 "is_prime" = true) (k6 : PySem.W.keepIn K (.ref fa6) = true)
    (a7 : PySem.W.nsIn K mainGlobals "is_antichain" = some (some (.ref fa7))) (l7 : K.lookup fa7 = some ⟨oc7, od7, .func (PySem.W.fnOf "is_antichain" "is_antichain" (defArgs s_is_antichain) (defBody s_is_antichain) (defScope s_is_antichain) .none kV7 dc7 pm7 an7 cd7 ct7), sl7⟩) (c7 : PySem.W.codeIn K cd7 "is_antichain" = true) (k7 : PySem.W.keepIn K (.ref fa7) = true)
    (a8 : PySem.W.nsIn K mainGlobals "are_server_sets" = some (some (.ref fa8))) (l8 : K.lookup fa8 = some ⟨oc8, od8, .func (PySem.W.fnOf "are_server_sets" "are_server_sets" (defArgs s_are_server_sets) (defBody s_are_server_sets) (defScope s_are_server_sets) .none kV8 dc8 pm8 an8 cd8 ct8), sl8⟩) (c8 : PySem.W.codeIn K cd8 "are_server_sets" = true) (k8 : PySem.W.keepIn K (.ref fa8) = true)
    (a9 : PySem.W.nsIn K mainGlobals "is_scheme" = some (some (.ref fa9))) (l9 : K.lookup fa9 = some ⟨oc9, od9, .func (PySem.W.fnOf "is_scheme" "is_scheme" (defArgs s_is_scheme) (defBody s_is_scheme) (defScope s_is_scheme) .none kV9 dc9 pm9 an9 cd9 ct9), sl9⟩) (c9 : PySem.W.codeIn K cd9 "is_scheme" = true) (k9 : PySem.W.keepIn K (.ref fa9) = true)
    (a10 : PySem.W.nsIn K mainGlobals "_law_source" = some (some (.ref fa10))) (l10 : K.lookup fa10 = some ⟨oc10, od10, .func (PySem.W.fnOf "_law_source" "_law_source" (defArgs s_law_source) (defBody s_law_source) (defScope s_law_source) .none kV10 dc10 pm10 an10 cd10 ct10), sl10⟩) (c10 : PySem.W.codeIn K cd10 "_law_source" = true) (k10 : PySem.W.keepIn K (.ref fa10) = true)
    (a11 : PySem.W.nsIn K mainGlobals "_law_draw" = some (some (.ref fa11))) (l11 : K.lookup fa11 = some ⟨oc11, od11, .func (PySem.W.fnOf "_law_draw" "_law_draw" (defArgs s_law_draw) (defBody s_law_draw) (defScope s_law_draw) .none kV11 dc11 pm11 an11 cd11 ct11), sl11⟩) (c11 : PySem.W.codeIn K cd11 "_law_draw" = true) (k11 : PySem.W.keepIn K (.ref fa11) = true)
    (a12 : PySem.W.nsIn K mainGlobals "_law_pick" = some (some (.ref fa12))) (l12 : K.lookup fa12 = some ⟨oc12, od12, .func (PySem.W.fnOf "_law_pick" "_law_pick" (defArgs s_law_pick) (defBody s_law_pick) (defScope s_law_pick) .none kV12 dc12 pm12 an12 cd12 ct12), sl12⟩) (c12 : PySem.W.codeIn K cd12 "_law_pick" = true) (k12 : PySem.W.keepIn K (.ref fa12) = true)
    (a13 : PySem.W.nsIn K mainGlobals "_law_names" = some (some (.ref fa13))) (l13 : K.lookup fa13 = some ⟨oc13, od13, .func (PySem.W.fnOf "_law_names" "_law_names" (defArgs s_law_names) (defBody s_law_names) (defScope s_law_names) .none kV13 dc13 pm13 an13 cd13 ct13), sl13⟩) (c13 : PySem.W.codeIn K cd13 "_law_names" = true) (k13 : PySem.W.keepIn K (.ref fa13) = true)
    (a14 : PySem.W.nsIn K mainGlobals "_law_some" = some (some (.ref fa14))) (l14 : K.lookup fa14 = some ⟨oc14, od14, .func (PySem.W.fnOf "_law_some" "_law_some" (defArgs s_law_some) (defBody s_law_some) (defScope s_law_some) .none kV14 dc14 pm14 an14 cd14 ct14), sl14⟩) (c14 : PySem.W.codeIn K cd14 "_law_some" = true) (k14 : PySem.W.keepIn K (.ref fa14) = true)
    (a15 : PySem.W.nsIn K mainGlobals "_law_maximal" = some (some (.ref fa15))) (l15 : K.lookup fa15 = some ⟨oc15, od15, .func (PySem.W.fnOf "_law_maximal" "_law_maximal" (defArgs s_law_maximal) (defBody s_law_maximal) (defScope s_law_maximal) .none kV15 dc15 pm15 an15 cd15 ct15), sl15⟩) (c15 : PySem.W.codeIn K cd15 "_law_maximal" = true) (k15 : PySem.W.keepIn K (.ref fa15) = true)
    (a16 : PySem.W.nsIn K mainGlobals "_law_scheme" = some (some (.ref fa16))) (l16 : K.lookup fa16 = some ⟨oc16, od16, .func (PySem.W.fnOf "_law_scheme" "_law_scheme" (defArgs s_law_scheme) (defBody s_law_scheme) (defScope s_law_scheme) .none kV16 dc16 pm16 an16 cd16 ct16), sl16⟩) (c16 : PySem.W.codeIn K cd16 "_law_scheme" = true) (k16 : PySem.W.keepIn K (.ref fa16) = true)
    (a17 : PySem.W.nsIn K mainGlobals "_law_is_name" = some (some (.ref fa17))) (l17 : K.lookup fa17 = some ⟨oc17, od17, .func (PySem.W.fnOf "_law_is_name" "_law_is_name" (defArgs s_law_is_name) (defBody s_law_is_name) (defScope s_law_is_name) .none kV17 dc17 pm17 an17 cd17 ct17), sl17⟩) (c17 : PySem.W.codeIn K cd17 "_law_is_name" = true) (k17 : PySem.W.keepIn K (.ref fa17) = true)
    (a18 : PySem.W.nsIn K mainGlobals "_law_is_set" = some (some (.ref fa18))) (l18 : K.lookup fa18 = some ⟨oc18, od18, .func (PySem.W.fnOf "_law_is_set" "_law_is_set" (defArgs s_law_is_set) (defBody s_law_is_set) (defScope s_law_is_set) .none kV18 dc18 pm18 an18 cd18 ct18), sl18⟩) (c18 : PySem.W.codeIn K cd18 "_law_is_set" = true) (k18 : PySem.W.keepIn K (.ref fa18) = true)
    (a19 : PySem.W.nsIn K mainGlobals "_law_is_inside" = some (some (.ref fa19))) (l19 : K.lookup fa19 = some ⟨oc19, od19, .func (PySem.W.fnOf "_law_is_inside" "_law_is_inside" (defArgs s_law_is_inside) (defBody s_law_is_inside) (defScope s_law_is_inside) .none kV19 dc19 pm19 an19 cd19 ct19), sl19⟩) (c19 : PySem.W.codeIn K cd19 "_law_is_inside" = true) (k19 : PySem.W.keepIn K (.ref fa19) = true)
    (a20 : PySem.W.nsIn K mainGlobals "_law_are_sets" = some (some (.ref fa20))) (l20 : K.lookup fa20 = some ⟨oc20, od20, .func (PySem.W.fnOf "_law_are_sets" "_law_are_sets" (defArgs s_law_are_sets) (defBody s_law_are_sets) (defScope s_law_are_sets) .none kV20 dc20 pm20 an20 cd20 ct20), sl20⟩) (c20 : PySem.W.codeIn K cd20 "_law_are_sets" = true) (k20 : PySem.W.keepIn K (.ref fa20) = true)
    (a21 : PySem.W.nsIn K mainGlobals "_law_is_prime" = some (some (.ref fa21))) (l21 : K.lookup fa21 = some ⟨oc21, od21, .func (PySem.W.fnOf "_law_is_prime" "_law_is_prime" (defArgs s_law_is_prime) (defBody s_law_is_prime) (defScope s_law_is_prime) .none kV21 dc21 pm21 an21 cd21 ct21), sl21⟩) (c21 : PySem.W.codeIn K cd21 "_law_is_prime" = true) (k21 : PySem.W.keepIn K (.ref fa21) = true)
    (a22 : PySem.W.nsIn K mainGlobals "_law_expected" = some (some (.ref fa22))) (l22 : K.lookup fa22 = some ⟨oc22, od22, .func (PySem.W.fnOf "_law_expected" "_law_expected" (defArgs s_law_expected) (defBody s_law_expected) (defScope s_law_expected) .none kV22 dc22 pm22 an22 cd22 ct22), sl22⟩) (c22 : PySem.W.codeIn K cd22 "_law_expected" = true) (k22 : PySem.W.keepIn K (.ref fa22) = true)
    (a23 : PySem.W.nsIn K mainGlobals "_law_paths" = some (some (.ref fa23))) (l23 : K.lookup fa23 = some ⟨oc23, od23, .func (PySem.W.fnOf "_law_paths" "_law_paths" (defArgs s_law_paths) (defBody s_law_paths) (defScope s_law_paths) .none kV23 dc23 pm23 an23 cd23 ct23), sl23⟩) (c23 : PySem.W.codeIn K cd23 "_law_paths" = true) (k23 : PySem.W.keepIn K (.ref fa23) = true)
    (a24 : PySem.W.nsIn K mainGlobals "_law_at" = some (some (.ref fa24))) (l24 : K.lookup fa24 = some ⟨oc24, od24, .func (PySem.W.fnOf "_law_at" "_law_at" (defArgs s_law_at) (defBody s_law_at) (defScope s_law_at) .none kV24 dc24 pm24 an24 cd24 ct24), sl24⟩) (c24 : PySem.W.codeIn K cd24 "_law_at" = true) (k24 : PySem.W.keepIn K (.ref fa24) = true)
    (a25 : PySem.W.nsIn K mainGlobals "_law_put" = some (some (.ref fa25))) (l25 : K.lookup fa25 = some ⟨oc25, od25, .func (PySem.W.fnOf "_law_put" "_law_put" (defArgs s_law_put) (defBody s_law_put) (defScope s_law_put) .none kV25 dc25 pm25 an25 cd25 ct25), sl25⟩) (c25 : PySem.W.codeIn K cd25 "_law_put" = true) (k25 : PySem.W.keepIn K (.ref fa25) = true)
    (a26 : PySem.W.nsIn K mainGlobals "_law_replacement" = some (some (.ref fa26))) (l26 : K.lookup fa26 = some ⟨oc26, od26, .func (PySem.W.fnOf "_law_replacement" "_law_replacement" (defArgs s_law_replacement) (defBody s_law_replacement) (defScope s_law_replacement) .none kV26 dc26 pm26 an26 cd26 ct26), sl26⟩) (c26 : PySem.W.codeIn K cd26 "_law_replacement" = true) (k26 : PySem.W.keepIn K (.ref fa26) = true)
    (a27 : PySem.W.nsIn K mainGlobals "_law_modified" = some (some (.ref fa27))) (l27 : K.lookup fa27 = some ⟨oc27, od27, .func (PySem.W.fnOf "_law_modified" "_law_modified" (defArgs s_law_modified) (defBody s_law_modified) (defScope s_law_modified) .none kV27 dc27 pm27 an27 cd27 ct27), sl27⟩) (c27 : PySem.W.codeIn K cd27 "_law_modified" = true) (k27 : PySem.W.keepIn K (.ref fa27) = true)
    (a28 : PySem.W.nsIn K mainGlobals "_law_right" = some (some (.ref fa28))) (l28 : K.lookup fa28 = some ⟨oc28, od28, .func (PySem.W.fnOf "_law_right" "_law_right" (defArgs s_law_right) (defBody s_law_right) (defScope s_law_right) .none kV28 dc28 pm28 an28 cd28 ct28), sl28⟩) (c28 : PySem.W.codeIn K cd28 "_law_right" = true) (k28 : PySem.W.keepIn K (.ref fa28) = true)
    (a29 : PySem.W.nsIn K mainGlobals "law" = some (some (.ref fa29))) (l29 : K.lookup fa29 = some ⟨oc29, od29, .func (PySem.W.fnOf "law" "law" (defArgs s_law) (defBody s_law) (defScope s_law) .none kV29 dc29 pm29 an29 cd29 ct29), sl29⟩) (c29 : PySem.W.codeIn K cd29 "law" = true) (k29 : PySem.W.keepIn K (.ref fa29) = true)
    {t_FIELD_COUNT : Tok} (v_FIELD_COUNT : PySem.W.nsIn K mainGlobals "FIELD_COUNT" = some (some (.int 5 t_FIELD_COUNT)))
    {t_LETTERS : Tok} (v_LETTERS : PySem.W.nsIn K mainGlobals "LETTERS" = some (some (.str "abcdefghijklmnopqrstuvwxyz" t_LETTERS)))
    {t_MAX_NAME_LENGTH : Tok} (v_MAX_NAME_LENGTH : PySem.W.nsIn K mainGlobals "MAX_NAME_LENGTH" = some (some (.int 6 t_MAX_NAME_LENGTH)))
    {t_MAX_PRIME : Tok} (v_MAX_PRIME : PySem.W.nsIn K mainGlobals "MAX_PRIME" = some (some (.int 997 t_MAX_PRIME)))
    {t_MIN_PRIME : Tok} (v_MIN_PRIME : PySem.W.nsIn K mainGlobals "MIN_PRIME" = some (some (.int 2 t_MIN_PRIME)))
    {t_MIN_SERVERS : Tok} (v_MIN_SERVERS : PySem.W.nsIn K mainGlobals "MIN_SERVERS" = some (some (.int 2 t_MIN_SERVERS)))
    (z_all : PySem.W.nsIn K mainGlobals "all" = some none)
    (z_any : PySem.W.nsIn K mainGlobals "any" = some none)
    (z_bool : PySem.W.nsIn K mainGlobals "bool" = some none)
    (z_dict : PySem.W.nsIn K mainGlobals "dict" = some none)
    (z_enumerate : PySem.W.nsIn K mainGlobals "enumerate" = some none)
    (z_int : PySem.W.nsIn K mainGlobals "int" = some none)
    (z_isinstance : PySem.W.nsIn K mainGlobals "isinstance" = some none)
    (z_len : PySem.W.nsIn K mainGlobals "len" = some none)
    (z_list : PySem.W.nsIn K mainGlobals "list" = some none)
    (z_range : PySem.W.nsIn K mainGlobals "range" = some none)
    (z_repr : PySem.W.nsIn K mainGlobals "repr" = some none)
    (z_sorted : PySem.W.nsIn K mainGlobals "sorted" = some none)
    (z_str : PySem.W.nsIn K mainGlobals "str" = some none)
    (z_tuple : PySem.W.nsIn K mainGlobals "tuple" = some none)
    (z_zip : PySem.W.nsIn K mainGlobals "zip" = some none) :
    ∃ fd : FuncData, (∀ (s : Shared) (v : Value), BindsTo s fd ⟨[v], []⟩ [("_law_script", v)]) ∧ ∀ base : Heap, K.In base → base.Ns mainGlobals mg → FnG l.prog w K mg base CX0 26 fa fd ["_law_script"] (spLaw K) := by
  have e := hfa.symm.trans (PySem.W.mg_of X G a29)
  cases e
  have m : Mg mg := ⟨⟨_, PySem.W.mg_of X G v_FIELD_COUNT⟩, ⟨_, PySem.W.mg_of X G v_LETTERS⟩, ⟨_, PySem.W.mg_of X G v_MAX_NAME_LENGTH⟩, ⟨_, PySem.W.mg_of X G v_MAX_PRIME⟩, ⟨_, PySem.W.mg_of X G v_MIN_PRIME⟩, ⟨_, PySem.W.mg_of X G v_MIN_SERVERS⟩, PySem.W.mg_none_of X G z_all, PySem.W.mg_none_of X G z_any, PySem.W.mg_none_of X G z_bool, PySem.W.mg_none_of X G z_dict, PySem.W.mg_none_of X G z_enumerate, PySem.W.mg_none_of X G z_int, PySem.W.mg_none_of X G z_isinstance, PySem.W.mg_none_of X G z_len, PySem.W.mg_none_of X G z_list, PySem.W.mg_none_of X G z_range, PySem.W.mg_none_of X G z_repr, PySem.W.mg_none_of X G z_sorted, PySem.W.mg_none_of X G z_str, PySem.W.mg_none_of X G z_tuple, PySem.W.mg_none_of X G z_zip⟩
  refine ⟨PySem.W.fnOf "law" "law" (defArgs s_law) (defBody s_law) (defScope s_law) .none kV29 dc29 pm29 an29 cd29 ct29, fun s v => .of_eq rfl, fun base _ _ => ?_⟩
  have F0 := fun_mk (st := s_is_integer) l0 c0 k0
  have F1 := fun_mk (st := s_is_name) l1 c1 k1
  have F2 := fun_mk (st := s_is_ascending) l2 c2 k2
  have F3 := fun_mk (st := s_is_party_set) l3 c3 k3
  have F4 := fun_mk (st := s_is_subset) l4 c4 k4
  have F5 := fun_mk (st := s_union) l5 c5 k5
  have F6 := fun_mk (st := s_is_prime) l6 c6 k6
  have F7 := fun_mk (st := s_is_antichain) l7 c7 k7
  have F8 := fun_mk (st := s_are_server_sets) l8 c8 k8
  have F9 := fun_mk (st := s_is_scheme) l9 c9 k9
  have F10 := fun_mk (st := s_law_source) l10 c10 k10
  have F11 := fun_mk (st := s_law_draw) l11 c11 k11
  have F12 := fun_mk (st := s_law_pick) l12 c12 k12
  have F13 := fun_mk (st := s_law_names) l13 c13 k13
  have F14 := fun_mk (st := s_law_some) l14 c14 k14
  have F15 := fun_mk (st := s_law_maximal) l15 c15 k15
  have F16 := fun_mk (st := s_law_scheme) l16 c16 k16
  have F17 := fun_mk (st := s_law_is_name) l17 c17 k17
  have F18 := fun_mk (st := s_law_is_set) l18 c18 k18
  have F19 := fun_mk (st := s_law_is_inside) l19 c19 k19
  have F20 := fun_mk (st := s_law_are_sets) l20 c20 k20
  have F21 := fun_mk (st := s_law_is_prime) l21 c21 k21
  have F22 := fun_mk (st := s_law_expected) l22 c22 k22
  have F23 := fun_mk (st := s_law_paths) l23 c23 k23
  have F24 := fun_mk (st := s_law_at) l24 c24 k24
  have F25 := fun_mk (st := s_law_put) l25 c25 k25
  have F26 := fun_mk (st := s_law_replacement) l26 c26 k26
  have F27 := fun_mk (st := s_law_modified) l27 c27 k27
  have F28 := fun_mk (st := s_law_right) l28 c28 k28
  have F29 := fun_mk (st := s_law) l29 c29 k29
  have c_is_integer : Cal l.prog w K mg base CX0 Wp02 1 "is_integer" s_is_integer P_is_integer sp_is_integer := cal_is_integer m F0 (PySem.W.mg_of X G a0)
  have c_is_name : Cal l.prog w K mg base CX0 Wp02 1 "is_name" s_is_name P_is_name sp_is_name := cal_is_name m F1 (PySem.W.mg_of X G a1)
  have c_is_ascending : Cal l.prog w K mg base CX0 Wp02 1 "is_ascending" s_is_ascending P_is_ascending sp_is_ascending := cal_is_ascending m F2 (PySem.W.mg_of X G a2)
  have c_is_party_set : Cal l.prog w K mg base CX0 Wp02 2 "is_party_set" s_is_party_set P_is_party_set sp_is_party_set := cal_is_party_set m c_is_name c_is_ascending F3 (PySem.W.mg_of X G a3)
  have c_is_subset : Cal l.prog w K mg base CX0 Wp02 1 "is_subset" s_is_subset P_is_subset sp_is_subset := cal_is_subset m F4 (PySem.W.mg_of X G a4)
  have c_union : Cal l.prog w K mg base CX0 Wp02 1 "union" s_union P_union sp_union := cal_union m F5 (PySem.W.mg_of X G a5)
  have c_is_prime : Cal l.prog w K mg base CX0 Wp02 2 "is_prime" s_is_prime P_is_prime sp_is_prime := cal_is_prime m c_is_integer F6 (PySem.W.mg_of X G a6)
  have c_is_antichain : Cal l.prog w K mg base CX0 Wp02 2 "is_antichain" s_is_antichain P_is_antichain sp_is_antichain := cal_is_antichain m c_is_subset F7 (PySem.W.mg_of X G a7)
  have c_are_server_sets : Cal l.prog w K mg base CX0 Wp02 3 "are_server_sets" s_are_server_sets P_are_server_sets sp_are_server_sets := cal_are_server_sets m c_is_party_set c_is_ascending c_is_antichain c_is_subset c_union F8 (PySem.W.mg_of X G a8)
  have c_is_scheme : Cal l.prog w K mg base CX0 Wp02 4 "is_scheme" s_is_scheme P_is_scheme sp_is_scheme := cal_is_scheme m c_is_prime c_is_party_set c_are_server_sets c_is_subset F9 (PySem.W.mg_of X G a9)
  have c_law_draw : Cal l.prog w K mg base CX0 Wp02 1 "_law_draw" s_law_draw P_law_draw sp_law_draw := ⟨_, _, F11, fn_law_draw F11, PySem.W.mg_of X G a11⟩
  have c_law_pick : Cal l.prog w K mg base CX0 Wp02 2 "_law_pick" s_law_pick P_law_pick sp_law_pick := cal_law_pick m c_law_draw F12 (PySem.W.mg_of X G a12)
  have c_law_names : Cal l.prog w K mg base CX0 Wp02 3 "_law_names" s_law_names P_law_names sp_law_names := cal_law_names m c_law_draw c_law_pick F13 (PySem.W.mg_of X G a13)
  have c_law_some : Cal l.prog w K mg base CX0 Wp02 2 "_law_some" s_law_some P_law_some sp_law_some := cal_law_some m c_law_draw F14 (PySem.W.mg_of X G a14)
  have c_law_maximal : Cal l.prog w K mg base CX0 Wp02 1 "_law_maximal" s_law_maximal P_law_maximal sp_law_maximal := cal_law_maximal m F15 (PySem.W.mg_of X G a15)
  have c_law_scheme : Cal l.prog w K mg base CX0 Wp02 4 "_law_scheme" s_law_scheme P_law_scheme sp_law_scheme := cal_law_scheme m c_law_names c_law_draw c_law_maximal c_law_some c_law_pick F16 (PySem.W.mg_of X G a16)
  have c_law_is_name : Cal l.prog w K mg base CX0 Wp02 1 "_law_is_name" s_law_is_name P_law_is_name sp_law_is_name := cal_law_is_name m F17 (PySem.W.mg_of X G a17)
  have c_law_is_set : Cal l.prog w K mg base CX0 Wp02 2 "_law_is_set" s_law_is_set P_law_is_set sp_law_is_set := cal_law_is_set m c_law_is_name F18 (PySem.W.mg_of X G a18)
  have c_law_is_inside : Cal l.prog w K mg base CX0 Wp02 1 "_law_is_inside" s_law_is_inside P_law_is_inside sp_law_is_inside := cal_law_is_inside m F19 (PySem.W.mg_of X G a19)
  have c_law_are_sets : Cal l.prog w K mg base CX0 Wp02 3 "_law_are_sets" s_law_are_sets P_law_are_sets sp_law_are_sets := cal_law_are_sets m c_law_is_set c_law_is_inside F20 (PySem.W.mg_of X G a20)
  have c_law_is_prime : Cal l.prog w K mg base CX0 Wp02 1 "_law_is_prime" s_law_is_prime P_law_is_prime sp_law_is_prime := cal_law_is_prime m F21 (PySem.W.mg_of X G a21)
  have c_law_expected : Cal l.prog w K mg base CX0 Wp02 4 "_law_expected" s_law_expected P_law_expected sp_law_expected := cal_law_expected m c_law_is_prime c_law_is_set c_law_are_sets c_law_is_inside F22 (PySem.W.mg_of X G a22)
  have c_law_paths : Cal l.prog w K mg base CX0 Wp02 24 "_law_paths" s_law_paths P_law_paths sp_law_paths := cal_law_paths m F23 (PySem.W.mg_of X G a23) 24
  have c_law_at : Cal l.prog w K mg base CX0 Wp02 1 "_law_at" s_law_at P_law_at sp_law_at := cal_law_at m F24 (PySem.W.mg_of X G a24)
  have c_law_put : Cal l.prog w K mg base CX0 Wp02 24 "_law_put" s_law_put P_law_put sp_law_put := cal_law_put m F25 (PySem.W.mg_of X G a25) 24
  have c_law_replacement : Cal l.prog w K mg base CX0 Wp02 3 "_law_replacement" s_law_replacement P_law_replacement sp_law_replacement := cal_law_replacement m c_law_draw c_law_pick F26 (PySem.W.mg_of X G a26)
  have c_law_modified : Cal l.prog w K mg base CX0 Wp02 25 "_law_modified" s_law_modified P_law_modified sp_law_modified := cal_law_modified m c_law_paths c_law_pick c_law_put c_law_replacement c_law_at F27 (PySem.W.mg_of X G a27)
  have c_law_right : Cal l.prog w K mg base CX0 Wp02 5 "_law_right" s_law_right P_law_right sp_law_right := cal_law_right m c_law_expected c_is_scheme F28 (PySem.W.mg_of X G a28)
  exact fn_law m c_law_draw c_law_scheme c_law_modified c_law_right c_is_scheme F29 F10 (PySem.W.mg_of X G a10)
end G9
open PySem PySem.W PyProof.Rows
set_option maxHeartbeats 0 in
theorem PySem.Challenge.cw_lotkept_k04_modified_schemes_holds : PySem.Challenge.rw_lotkept_k04_modified_schemes.Holds := by
  w_on; o_law; k_head; (case hw => w_witness2)
  k_fill
  refine G9.walk_ofG (l := PySem.Challenge.rw_lotkept_k04_modified_schemes) (n := 63) (k := 26) (x := "_law_script") (CX := fun _ => L2.CX0) (sp := fun w => G9.spLaw _) rfl (by decide) rfl ⟨rfl, by decide, by decide⟩ ?hi ?hk (fun w h Y => PySem.W.kIn_of Y) ?F (fun w H a ns hl sm hS => ⟨a, ns, rfl, sm, hS, fun _ => rfl⟩) (fun _ _ _ _ _ h => h)
  case hi => rfl
  case hk => intro p; rfl
  case F =>
    intro w mg fa h KX G hmg
    refine' G9.all_mk KX G hmg ?a0 ?l0 ?c0 ?k0 ?a1 ?l1 ?c1 ?k1 ?a2 ?l2 ?c2 ?k2 ?a3 ?l3 ?c3 ?k3 ?a4 ?l4 ?c4 ?k4 ?a5 ?l5 ?c5 ?k5 ?a6 ?l6 ?c6 ?k6 ?a7 ?l7 ?c7 ?k7 ?a8 ?l8 ?c8 ?k8 ?a9 ?l9 ?c9 ?k9 ?a10 ?l10 ?c10 ?k10 ?a11 ?l11 ?c11 ?k11 ?a12 ?l12 ?c12 ?k12 ?a13 ?l13 ?c13 ?k13 ?a14 ?l14 ?c14 ?k14 ?a15 ?l15 ?c15 ?k15 ?a16 ?l16 ?c16 ?k16 ?a17 ?l17 ?c17 ?k17 ?a18 ?l18 ?c18 ?k18 ?a19 ?l19 ?c19 ?k19 ?a20 ?l20 ?c20 ?k20 ?a21 ?l21 ?c21 ?k21 ?a22 ?l22 ?c22 ?k22 ?a23 ?l23 ?c23 ?k23 ?a24 ?l24 ?c24 ?k24 ?a25 ?l25 ?c25 ?k25 ?a26 ?l26 ?c26 ?k26 ?a27 ?l27 ?c27 ?k27 ?a28 ?l28 ?c28 ?k28 ?a29 ?l29 ?c29 ?k29 ?v_FIELD_COUNT ?v_LETTERS ?v_MAX_NAME_LENGTH ?v_MAX_PRIME ?v_MIN_PRIME ?v_MIN_SERVERS ?z_all ?z_any ?z_bool ?z_dict ?z_enumerate ?z_int ?z_isinstance ?z_len ?z_list ?z_range ?z_repr ?z_sorted ?z_str ?z_tuple ?z_zip
    (case a0 => k_is); (case l0 => k_is); (case c0 => k_is); (case k0 => k_is); (case a1 => k_is); (case l1 => k_is); (case c1 => k_is); (case k1 => k_is); (case a2 => k_is); (case l2 => k_is); (case c2 => k_is); (case k2 => k_is); (case a3 => k_is); (case l3 => k_is); (case c3 => k_is); (case k3 => k_is); (case a4 => k_is); (case l4 => k_is); (case c4 => k_is); (case k4 => k_is); (case a5 => k_is); (case l5 => k_is); (case c5 => k_is); (case k5 => k_is); (case a6 => k_is); (case l6 => k_is); (case c6 => k_is); (case k6 => k_is); (case a7 => k_is); (case l7 => k_is); (case c7 => k_is); (case k7 => k_is); (case a8 => k_is); (case l8 => k_is); (case c8 => k_is); (case k8 => k_is); (case a9 => k_is); (case l9 => k_is); (case c9 => k_is); (case k9 => k_is); (case a10 => k_is); (case l10 => k_is); (case c10 => k_is); (case k10 => k_is); (case a11 => k_is); (case l11 => k_is); (case c11 => k_is); (case k11 => k_is); (case a12 => k_is); (case l12 => k_is); (case c12 => k_is); (case k12 => k_is); (case a13 => k_is); (case l13 => k_is); (case c13 => k_is); (case k13 => k_is); (case a14 => k_is); (case l14 => k_is); (case c14 => k_is); (case k14 => k_is); (case a15 => k_is); (case l15 => k_is); (case c15 => k_is); (case k15 => k_is); (case a16 => k_is); (case l16 => k_is); (case c16 => k_is); (case k16 => k_is); (case a17 => k_is); (case l17 => k_is); (case c17 => k_is); (case k17 => k_is); (case a18 => k_is); (case l18 => k_is); (case c18 => k_is); (case k18 => k_is); (case a19 => k_is); (case l19 => k_is); (case c19 => k_is); (case k19 => k_is); (case a20 => k_is); (case l20 => k_is); (case c20 => k_is); (case k20 => k_is); (case a21 => k_is); (case l21 => k_is); (case c21 => k_is); (case k21 => k_is); (case a22 => k_is); (case l22 => k_is); (case c22 => k_is); (case k22 => k_is); (case a23 => k_is); (case l23 => k_is); (case c23 => k_is); (case k23 => k_is); (case a24 => k_is); (case l24 => k_is); (case c24 => k_is); (case k24 => k_is); (case a25 => k_is); (case l25 => k_is); (case c25 => k_is); (case k25 => k_is); (case a26 => k_is); (case l26 => k_is); (case c26 => k_is); (case k26 => k_is); (case a27 => k_is); (case l27 => k_is); (case c27 => k_is); (case k27 => k_is); (case a28 => k_is); (case l28 => k_is); (case c28 => k_is); (case k28 => k_is); (case a29 => k_is); (case l29 => k_is); (case c29 => k_is); (case k29 => k_is); (case v_FIELD_COUNT => k_is); (case v_LETTERS => k_is); (case v_MAX_NAME_LENGTH => k_is); (case v_MAX_PRIME => k_is); (case v_MIN_PRIME => k_is); (case v_MIN_SERVERS => k_is); (case z_all => k_is); (case z_any => k_is); (case z_bool => k_is); (case z_dict => k_is); (case z_enumerate => k_is); (case z_int => k_is); (case z_isinstance => k_is); (case z_len => k_is); (case z_list => k_is); (case z_range => k_is); (case z_repr => k_is); (case z_sorted => k_is); (case z_str => k_is); (case z_tuple => k_is); (case z_zip => k_is)


