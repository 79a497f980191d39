import PyProof.Rows.All
import Wide.All
import OpenK.AllK
import Wide.FinOn
import HandS.ForMost
import HandS.ForExc
import HandS.Wide
import HandS.IsInst
import HandS.ExcInit
import HandS.ExcField
import HandS.TryMany
import HandS.Defaults
import HandS.Gcd
import HandS.AnyAll
import HandS.TupAny
import HandS.TupMul
import HandS.Conv
import HandS.Zip
import HandS.Flow
import HandS.Style
import HandS.NoneIn
import PySem.Challenge.RW_onesize_k85_whole_diversities_fall
set_option Elab.async false
set_option linter.all false
set_option autoImplicit false
set_option maxRecDepth 100000
/-! # The layer of data: what a def does to plain data, over the hand layer -/
namespace DL
open PySem PySem.Spec L2
open PyProof.Rows hiding St

/-- plain data; ptr k is the k-th cell of the store -/
inductive D where
  | non | bl (b : Bool) | int (i : Int) | str (x : Str)
  | tup (ds : List D) | lst (ds : List D) | frl (ds : List D)
  | dct (ks : List Key) (ds : List D)
  | ptr (k : Nat) | obj (a : Addr) | ty (n : String)
  /-- an exception at a, whose own dict at dd holds f = d -/
  | exn (a dd : Addr) (f : Str) (d : D)
/-- what a cell holds -/
inductive MO where
  | lst (ds : List D) | dct (ks : List Key) (ds : List D) | gone
abbrev Rho := List (Option D)
abbrev Ms := List MO

mutual
inductive Rp (K : PySem.W.Frag) (F : Hp) (α : List Addr) : V → D → Prop
  | non : Rp K F α .non .non
  | bl (b : Bool) : Rp K F α (.bl b) (.bl b)
  | int (i : Int) : Rp K F α (.int i) (.int i)
  | str (x : Str) : Rp K F α (.str x) (.str x)
  | tup {a : Addr} {xs : List V} {ds : List D} : SqT K F a xs → RpL K F α xs ds → Rp K F α (.ref a) (.tup ds)
  | lst {a : Addr} {xs : List V} {ds : List D} : F a = some (.lst xs) → RpL K F α xs ds → Rp K F α (.ref a) (.lst ds)
  | frl {a : Addr} {xs : List V} {ds : List D} : SqL K F a xs → RpL K F α xs ds → Rp K F α (.ref a) (.frl ds)
  | dct {a : Addr} {ks : List Key} {kvs : List (Key × V)} {ds : List D} : F a = some (.dK kvs) → kvs.map (·.1) = ks → RpL K F α (kvs.map (·.2)) ds → Rp K F α (.ref a) (.dct ks ds)
  | ptr {a : Addr} {k : Nat} : α[k]? = some a → Rp K F α (.ref a) (.ptr k)
  | obj (a : Addr) : Rp K F α (.ref a) (.obj a)
  | ty (n : String) : Rp K F α (.ty n) (.ty n)
  | exn {a dd : Addr} {f : Str} {v : V} {d : D} : F dd = some (.xd [(f, v)]) → Rp K F α v d → Rp K F α (.ref a) (.exn a dd f d)
inductive RpL (K : PySem.W.Frag) (F : Hp) (α : List Addr) : List V → List D → Prop
  | nil : RpL K F α [] []
  | cons {v : V} {vs : List V} {d : D} {ds : List D} : Rp K F α v d → RpL K F α vs ds → RpL K F α (v :: vs) (d :: ds)
end
/-- the cell at a -/
def RpM (K : PySem.W.Frag) (F : Hp) (α : List Addr) (H : Hp) (a : Addr) : MO → Prop
  | .lst ds => ∃ xs, H a = some (.lst xs) ∧ RpL K F α xs ds
  | .dct ks ds => ∃ kvs : List (Key × V), H a = some (.dK kvs) ∧ kvs.map (·.1) = ks ∧ RpL K F α (kvs.map (·.2)) ds
  | .gone => True
structure Ext (F : Hp) (α : List Addr) (F' : Hp) (α' : List Addr) : Prop where
  same : Same F F'
  pre : ∃ β, α' = α ++ β
/-- Z: what stands by and is neither seen nor touched -/
abbrev Zs := List (Addr × HO)
structure Ok (K : PySem.W.Frag) (Z : Zs) (F : Hp) (α : List Addr) (M : Ms) (H : Hp) : Prop where
  priv : ∀ p ∈ Z, H p.1 = some p.2 ∧ F p.1 = none ∧ p.1 ∉ α
  le : Same F H
  len : α.length = M.length
  nd : α.Nodup
  dom : ∀ a ∈ α, H a ≠ none
  out : ∀ (k : Nat) (a : Addr) (m : MO), α[k]? = some a → M[k]? = some m → m ≠ MO.gone → F a = none
  mem : ∀ (k : Nat) (a : Addr) (m : MO), α[k]? = some a → M[k]? = some m → RpM K F α H a m
/-- the slots -/
structure RpE (K : PySem.W.Frag) (F : Hp) (α : List Addr) (ρ : Rho) (σ : St) : Prop where
  len : ρ.length = σ.length
  get : ∀ (i : Nat) (d : D), ρ[i]? = some (some d) → ∃ v, σ[i]? = some (some v) ∧ Rp K F α v d
/-- an exception: its class, its one field -/
structure Ex where
  cls : Value
  fld : Option (Str × D)
def RpX (K : PySem.W.Frag) (F : Hp) (α : List Addr) (x : Ex) (cls : Value) (d : Option Addr) : Prop :=
  cls = x.cls ∧ match x.fld with
    | none => True
    | some (f, y) => ∃ a v, d = some a ∧ F a = some (.xd [(f, v)]) ∧ Rp K F α v y

section
variable {K : PySem.W.Frag} {Z : Zs} {F F' F'' : Hp} {α α' α'' : List Addr} {M M' : Ms} {H H' : Hp} {a p : Addr} {o : HO} {v : V} {d : D} {ρ : Rho} {σ : St}
theorem Ext.refl : Ext F α F α := ⟨Same.refl _, [], (List.append_nil _).symm⟩
theorem Ext.trans (h : Ext F α F' α') (h' : Ext F' α' F'' α'') : Ext F α F'' α'' := by
  obtain ⟨β, rfl⟩ := h.pre
  obtain ⟨γ, rfl⟩ := h'.pre
  exact ⟨h.same.trans h'.same, β ++ γ, by rw [List.append_assoc]⟩
theorem Ext.get (h : Ext F α F' α') {k : Nat} (e : α[k]? = some a) : α'[k]? = some a := by
  obtain ⟨β, rfl⟩ := h.pre
  have hk : k < α.length := (List.getElem?_eq_some_iff.mp e).1
  rw [List.getElem?_append_left hk]
  exact e
theorem Same.sqT {F F' : Hp} {a : Addr} {xs : List V} (e : Same F F') (h : SqT K F a xs) : SqT K F' a xs := by
  rcases h with (h | ⟨o, h⟩) | h
  · exact .inl (.inl (e _ _ h))
  · exact .inl (.inr ⟨o, e _ _ h⟩)
  · exact .inr h
mutual
theorem Rp.mono (h : Ext F α F' α') : ∀ {v : V} {d : D}, Rp K F α v d → Rp K F' α' v d
  | _, _, .non => .non
  | _, _, .bl b => .bl b
  | _, _, .int i => .int i
  | _, _, .str x => .str x
  | _, _, .tup q r => .tup (DL.Same.sqT h.same q) (RpL.mono h r)
  | _, _, .lst q r => .lst (h.same _ _ q) (RpL.mono h r)
  | _, _, .frl q r => .frl (h.same.seq q) (RpL.mono h r)
  | _, _, .dct q e r => .dct (h.same _ _ q) e (RpL.mono h r)
  | _, _, .ptr e => .ptr (h.get e)
  | _, _, .obj a => .obj a
  | _, _, .ty n => .ty n
  | _, _, .exn q r => .exn (h.same _ _ q) (Rp.mono h r)
theorem RpL.mono (h : Ext F α F' α') : ∀ {vs : List V} {ds : List D}, RpL K F α vs ds → RpL K F' α' vs ds
  | _, _, .nil => .nil
  | _, _, .cons r t => .cons (Rp.mono h r) (RpL.mono h t)
end
theorem RpL.length : ∀ {vs : List V} {ds : List D}, RpL K F α vs ds → vs.length = ds.length
  | _, _, .nil => rfl
  | _, _, .cons _ t => congrArg (· + 1) (RpL.length t)
theorem RpL.get : ∀ {vs : List V} {ds : List D} {i : Nat} {d : D}, RpL K F α vs ds → ds[i]? = some d → ∃ v, vs[i]? = some v ∧ Rp K F α v d
  | _, _, _, _, .nil, e => by simp at e
  | _, _, 0, _, .cons r _, e => by simp at e; subst e; exact ⟨_, rfl, r⟩
  | _, _, i + 1, d, .cons _ t, e => by
    obtain ⟨v, h1, h2⟩ := RpL.get (i := i) (d := d) t (by simpa using e)
    exact ⟨v, by simpa using h1, h2⟩
theorem RpL.getV : ∀ {vs : List V} {ds : List D} {i : Nat} {v : V}, RpL K F α vs ds → vs[i]? = some v → ∃ d, ds[i]? = some d ∧ Rp K F α v d
  | _, _, _, _, .nil, e => by simp at e
  | _, _, 0, _, .cons r _, e => by simp at e; subst e; exact ⟨_, rfl, r⟩
  | _, _, i + 1, v, .cons _ t, e => by
    obtain ⟨d, h1, h2⟩ := RpL.getV (i := i) (v := v) t (by simpa using e)
    exact ⟨d, by simpa using h1, h2⟩
theorem RpL.append : ∀ {vs ws : List V} {ds es : List D}, RpL K F α vs ds → RpL K F α ws es → RpL K F α (vs ++ ws) (ds ++ es)
  | _, _, _, _, .nil, s => s
  | _, _, _, _, .cons r t, s => .cons r (RpL.append t s)
theorem RpL.take : ∀ {vs : List V} {ds : List D} (n : Nat), RpL K F α vs ds → RpL K F α (vs.take n) (ds.take n)
  | _, _, 0, _ => .nil
  | _, _, _ + 1, .nil => .nil
  | _, _, n + 1, .cons r t => .cons r (RpL.take n t)
theorem RpL.drop : ∀ {vs : List V} {ds : List D} (n : Nat), RpL K F α vs ds → RpL K F α (vs.drop n) (ds.drop n)
  | _, _, 0, r => r
  | _, _, _ + 1, .nil => .nil
  | _, _, n + 1, .cons _ t => RpL.drop n t
theorem RpL.set {v : V} {d : D} (r : Rp K F α v d) : ∀ {vs : List V} {ds : List D} (i : Nat), RpL K F α vs ds → RpL K F α (vs.set i v) (ds.set i d)
  | _, _, _, .nil => .nil
  | _, _, 0, .cons _ t => .cons r t
  | _, _, i + 1, .cons q t => .cons q (RpL.set r i t)
theorem RpL.eraseIdx : ∀ {vs : List V} {ds : List D} (i : Nat), RpL K F α vs ds → RpL K F α (vs.eraseIdx i) (ds.eraseIdx i)
  | _, _, _, .nil => by simpa using RpL.nil
  | _, _, 0, .cons _ t => by simpa using t
  | _, _, i + 1, .cons q t => by simpa using RpL.cons q (RpL.eraseIdx i t)
theorem RpL.reverse : ∀ {vs : List V} {ds : List D}, RpL K F α vs ds → RpL K F α vs.reverse ds.reverse
  | _, _, .nil => by simpa using RpL.nil
  | _, _, .cons q t => by
    rw [List.reverse_cons, List.reverse_cons]
    exact (RpL.reverse t).append (.cons q .nil)
theorem RpL.ints : ∀ {vs : List V} {ns : List Int}, RpL K F α vs (ns.map D.int) → vs = ns.map V.int
  | _, [], h => by cases h; rfl
  | _, n :: ns, h => by
    cases h with
    | cons r t =>
      cases r
      rw [RpL.ints t]
      rfl
theorem RpL.bls : ∀ {vs : List V} {ns : List Bool}, RpL K F α vs (ns.map D.bl) → vs = ns.map V.bl
  | _, [], h => by cases h; rfl
  | _, n :: ns, h => by
    cases h with
    | cons r t =>
      cases r
      rw [RpL.bls t]
      rfl
theorem RpL.strs : ∀ {vs : List V} {ns : List Str}, RpL K F α vs (ns.map D.str) → vs = ns.map V.str
  | _, [], h => by cases h; rfl
  | _, n :: ns, h => by
    cases h with
    | cons r t =>
      cases r
      rw [RpL.strs t]
      rfl
theorem RpL.of_ints : ∀ {ns : List Int}, RpL K F α (ns.map V.int) (ns.map D.int)
  | [] => .nil
  | _ :: _ => .cons (.int _) RpL.of_ints
theorem RpL.of_strs : ∀ {ns : List Str}, RpL K F α (ns.map V.str) (ns.map D.str)
  | [] => .nil
  | _ :: _ => .cons (.str _) RpL.of_strs
theorem RpM.mono (h : Ext F α F' α') {H' : Hp} {m : MO} (e : H' a = H a) (r : RpM K F α H a m) : RpM K F' α' H' a m := by
  cases m with
  | lst ds => obtain ⟨xs, q, r⟩ := r; exact ⟨xs, e.trans q, r.mono h⟩
  | dct ks ds => obtain ⟨xs, q, k, r⟩ := r; exact ⟨xs, e.trans q, k, r.mono h⟩
  | gone => trivial
theorem RpE.mono (h : Ext F α F' α') (r : RpE K F α ρ σ) : RpE K F' α' ρ σ := ⟨r.len, fun i d e => let ⟨v, e1, e2⟩ := r.get i d e; ⟨v, e1, e2.mono h⟩⟩
theorem RpE.set {i : Nat} (r : RpE K F α ρ σ) (q : Rp K F α v d) : RpE K F α (ρ.set i (some d)) (σ.set i (some v)) := by
  refine ⟨by rw [List.length_set, List.length_set]; exact r.len, fun j e h => ?_⟩
  by_cases hj : i = j
  · subst hj
    by_cases hl : i < ρ.length
    · rw [List.getElem?_set_self hl] at h
      cases h
      exact ⟨v, by rw [List.getElem?_set_self (by rw [← r.len]; exact hl)], q⟩
    · rw [List.getElem?_eq_none (by rw [List.length_set]; omega)] at h
      cases h
  · rw [List.getElem?_set_ne hj] at h
    obtain ⟨u, e1, e2⟩ := r.get j e h
    exact ⟨u, by rw [List.getElem?_set_ne hj]; exact e1, e2⟩
theorem RpE.clear {i : Nat} (r : RpE K F α ρ σ) : RpE K F α (ρ.set i none) (σ.set i none) := by
  refine ⟨by rw [List.length_set, List.length_set]; exact r.len, fun j e h => ?_⟩
  by_cases hj : i = j
  · subst hj
    by_cases hl : i < ρ.length
    · rw [List.getElem?_set_self hl] at h
      cases h
    · rw [List.getElem?_eq_none (by rw [List.length_set]; omega)] at h
      cases h
  · rw [List.getElem?_set_ne hj] at h
    obtain ⟨u, e1, e2⟩ := r.get j e h
    exact ⟨u, by rw [List.getElem?_set_ne hj]; exact e1, e2⟩
/-- the slots of a block's own names forgotten -/
def wipeR (ρ : Rho) : List Nat → Rho
  | [] => ρ
  | v :: vs => (wipeR ρ vs).set v none
theorem RpE.wipe (r : RpE K F α ρ σ) : ∀ vs : List Nat, RpE K F α (wipeR ρ vs) (L2.wipe σ vs)
  | [] => r
  | v :: vs => (RpE.wipe r vs).clear
/-! ### the state's steps -/
theorem Ext.upd (hp : F p = none) : Ext F α (upd F p o) α := ⟨fun b u e => by rw [upd_ne (ne_of_none e hp)]; exact e, [], (List.append_nil _).symm⟩
theorem Ok.free (ok : Ok K Z F α M H) (hp : H p = none) : F p = none := ok.le.free hp
theorem Ok.ne (ok : Ok K Z F α M H) (hp : H p = none) {k : Nat} (e : α[k]? = some a) : a ≠ p := fun z => ok.dom a (List.mem_of_getElem? e) (z ▸ hp)
/-- a new object that is never written -/
theorem Ok.new (ok : Ok K Z F α M H) (hp : H p = none) : Ok K Z (upd F p o) α M (upd H p o) where
  priv := fun q hq => by
    obtain ⟨h1, h2, h3⟩ := ok.priv q hq
    have ne : q.1 ≠ p := ne_of_none h1 hp
    exact ⟨by rw [upd_ne ne]; exact h1, by rw [upd_ne ne]; exact h2, h3⟩
  le := fun b u e => by
    by_cases hb : b = p
    · subst hb; rw [upd_same] at e ⊢; exact e
    · rw [upd_ne hb] at e ⊢; exact ok.le _ _ e
  len := ok.len
  nd := ok.nd
  dom := fun a ha => by
    by_cases hb : a = p
    · subst hb; rw [upd_same]; simp
    · rw [upd_ne hb]; exact ok.dom a ha
  out := fun k a m e1 e2 hm => by
    rw [upd_ne (ok.ne hp e1)]
    exact ok.out k a m e1 e2 hm
  mem := fun k a m e1 e2 => (ok.mem k a m e1 e2).mono (Ext.upd (ok.free hp)) (upd_ne (ok.ne hp e1))
theorem ext_snoc (a : Addr) : Ext F α F (α ++ [a]) := ⟨Same.refl _, [a], rfl⟩
theorem get_snoc {α : Type} {l : List α} {a x : α} {k : Nat} (h : (l ++ [a])[k]? = some x) : (k < l.length ∧ l[k]? = some x) ∨ (k = l.length ∧ a = x) := by
  by_cases hk : k < l.length
  · rw [List.getElem?_append_left hk] at h; exact .inl ⟨hk, h⟩
  · rw [List.getElem?_append_right (by omega)] at h
    by_cases h0 : k - l.length = 0
    · rw [h0] at h
      simp at h
      exact .inr ⟨by omega, h⟩
    · rw [List.getElem?_eq_none (by simp; omega)] at h
      cases h
theorem Ok.newM {m : MO} (ok : Ok K Z F α M H) (hp : H p = none) (r : RpM K F (α ++ [p]) (upd H p o) p m) : Ok K Z F (α ++ [p]) (M ++ [m]) (upd H p o) where
  priv := fun q hq => by
    obtain ⟨h1, h2, h3⟩ := ok.priv q hq
    have ne : q.1 ≠ p := ne_of_none h1 hp
    exact ⟨by rw [upd_ne ne]; exact h1, h2, fun z => (List.mem_append.mp z).elim h3 fun z => ne (by simpa using z)⟩
  le := fun b u e => by rw [upd_ne (ne_of_none e (ok.free hp))]; exact ok.le _ _ e
  len := by rw [List.length_append, List.length_append, ok.len]; rfl
  nd := List.nodup_append.mpr ⟨ok.nd, by simp, fun a ha b hb => by
    have e : b = p := by simpa using hb
    subst e
    exact fun z => ok.dom a ha (z ▸ hp)⟩
  dom := fun a ha => by
    by_cases hb : a = p
    · subst hb; rw [upd_same]; simp
    · rw [upd_ne hb]
      rcases List.mem_append.mp ha with ha | ha
      · exact ok.dom a ha
      · exact absurd (by simpa using ha) hb
  out := fun k a m' e1 e2 hm => by
    rcases get_snoc e1 with ⟨h1, e1⟩ | ⟨h1, rfl⟩
    · rcases get_snoc e2 with ⟨h2, e2⟩ | ⟨h2, _⟩
      · exact ok.out k a m' e1 e2 hm
      · have := ok.len; omega
    · exact ok.free hp
  mem := fun k a m' e1 e2 => by
    rcases get_snoc e1 with ⟨h1, e1⟩ | ⟨h1, rfl⟩
    · rcases get_snoc e2 with ⟨h2, e2⟩ | ⟨h2, _⟩
      · exact (ok.mem k a m' e1 e2).mono (ext_snoc p) (upd_ne (ok.ne hp e1))
      · have := ok.len; omega
    · rcases get_snoc e2 with ⟨h2, e2⟩ | ⟨h2, rfl⟩
      · have := ok.len; omega
      · exact r
/-- a cell is written -/
theorem Ok.setM {m m' : MO} {k : Nat} (ok : Ok K Z F α M H) (e1 : α[k]? = some a) (e2 : M[k]? = some m) (hm : m ≠ MO.gone) (r : RpM K F α (upd H a o) a m') : Ok K Z F α (M.set k m') (upd H a o) where
  priv := fun q hq => by
    obtain ⟨h1, h2, h3⟩ := ok.priv q hq
    have ne : q.1 ≠ a := fun z => h3 (z ▸ List.mem_of_getElem? e1)
    exact ⟨by rw [upd_ne ne]; exact h1, h2, h3⟩
  le := fun b u e => by rw [upd_ne (ne_of_none e (ok.out k a m e1 e2 hm))]; exact ok.le _ _ e
  len := by rw [List.length_set]; exact ok.len
  nd := ok.nd
  dom := fun b hb => by
    by_cases z : b = a
    · subst z; rw [upd_same]; simp
    · rw [upd_ne z]; exact ok.dom b hb
  out := fun j b m2 h1 h2 hm2 => by
    by_cases hj : k = j
    · subst hj
      rw [e1] at h1; cases h1
      exact ok.out k a m e1 e2 hm
    · rw [List.getElem?_set_ne hj] at h2
      exact ok.out j b m2 h1 h2 hm2
  mem := fun j b m2 h1 h2 => by
    by_cases hj : k = j
    · subst hj
      rw [e1] at h1; cases h1
      rw [List.getElem?_set_self (List.getElem?_eq_some_iff.mp e2).1] at h2
      cases h2
      exact r
    · rw [List.getElem?_set_ne hj] at h2
      have ne : b ≠ a := fun z => hj (by subst z; exact nd_ix ok.nd e1 h1)
      exact (ok.mem j b m2 h1 h2).mono Ext.refl (upd_ne ne)
/-- a cell is frozen -/
theorem Ok.freeze {k : Nat} {ds : List D} (ok : Ok K Z F α M H) (e2 : M[k]? = some (.lst ds)) (e1 : α[k]? = some a) :
    ∃ xs, H a = some (.lst xs) ∧ Ext F α (upd F a (.lst xs)) α ∧ Ok K Z (upd F a (.lst xs)) α (M.set k .gone) H ∧ Rp K (upd F a (.lst xs)) α (.ref a) (.lst ds) := by
  obtain ⟨xs, hx, r⟩ := ok.mem k a _ e1 e2
  have fn : F a = none := ok.out k a _ e1 e2 (fun z => by cases z)
  have ex : Ext F α (upd F a (.lst xs)) α := Ext.upd fn
  refine ⟨xs, hx, ex, ⟨fun q hq => ?_, fun b u e => ?_, by rw [List.length_set]; exact ok.len, ok.nd, ok.dom, fun j b m h1 h2 hm => ?_, fun j b m h1 h2 => ?_⟩, .lst upd_same (r.mono ex)⟩
  · obtain ⟨h1, h2, h3⟩ := ok.priv q hq
    have ne : q.1 ≠ a := fun z => h3 (z ▸ List.mem_of_getElem? e1)
    exact ⟨h1, by rw [upd_ne ne]; exact h2, h3⟩
  · by_cases hb : b = a
    · subst hb; rw [upd_same] at e; rw [hx]; exact e
    · rw [upd_ne hb] at e; exact ok.le _ _ e
  · by_cases hj : k = j
    · subst hj
      rw [List.getElem?_set_self (List.getElem?_eq_some_iff.mp e2).1] at h2
      cases h2
      exact absurd rfl hm
    · rw [List.getElem?_set_ne hj] at h2
      have ne : b ≠ a := fun z => hj (by subst z; exact nd_ix ok.nd e1 h1)
      rw [upd_ne ne]
      exact ok.out j b m h1 h2 hm
  · by_cases hj : k = j
    · subst hj
      rw [List.getElem?_set_self (List.getElem?_eq_some_iff.mp e2).1] at h2
      cases h2
      trivial
    · rw [List.getElem?_set_ne hj] at h2
      exact (ok.mem j b m h1 h2).mono ex rfl
/-- a new object is hidden -/
theorem Ok.hide (ok : Ok K Z F α M H) (hp : H p = none) : Ok K ((p, o) :: Z) F α M (upd H p o) where
  priv := fun q hq => by
    rcases List.mem_cons.mp hq with rfl | hq
    · exact ⟨upd_same, ok.free hp, fun z => ok.dom _ z hp⟩
    · obtain ⟨h1, h2, h3⟩ := ok.priv q hq
      have ne : q.1 ≠ p := ne_of_none h1 hp
      exact ⟨by rw [upd_ne ne]; exact h1, h2, h3⟩
  le := fun b u e => by rw [upd_ne (ne_of_none e (ok.free hp))]; exact ok.le _ _ e
  len := ok.len
  nd := ok.nd
  dom := fun a ha => by
    by_cases hb : a = p
    · subst hb; rw [upd_same]; simp
    · rw [upd_ne hb]; exact ok.dom a ha
  out := ok.out
  mem := fun k a m e1 e2 => (ok.mem k a m e1 e2).mono Ext.refl (upd_ne (ok.ne hp e1))
/-- the hidden object is written; Z holds no other thing at p -/
theorem Ok.rehide {o' : HO} (ok : Ok K ((p, o) :: Z) F α M H) (nz : ∀ q ∈ Z, q.1 ≠ p) : Ok K ((p, o') :: Z) F α M (upd H p o') := by
  obtain ⟨h1, h2, h3⟩ := ok.priv (p, o) List.mem_cons_self
  refine ⟨fun q hq => ?_, fun b u e => by rw [upd_ne (ne_of_none e h2)]; exact ok.le _ _ e, ok.len, ok.nd, fun a ha => ?_, ok.out, fun k a m e1 e2 => ?_⟩
  · rcases List.mem_cons.mp hq with rfl | hq
    · exact ⟨upd_same, h2, h3⟩
    · obtain ⟨g1, g2, g3⟩ := ok.priv q (List.mem_cons_of_mem _ hq)
      exact ⟨by rw [upd_ne (nz q hq)]; exact g1, g2, g3⟩
  · by_cases hb : a = p
    · subst hb; rw [upd_same]; simp
    · rw [upd_ne hb]; exact ok.dom a ha
  · have ne : a ≠ p := fun z => h3 (by subst z; exact List.mem_of_getElem? e1)
    exact (ok.mem k a m e1 e2).mono Ext.refl (upd_ne ne)
/-- the hidden object is shown, never to be written -/
theorem Ok.show (ok : Ok K ((p, o) :: Z) F α M H) (nz : ∀ q ∈ Z, q.1 ≠ p) : Ext F α (upd F p o) α ∧ Ok K Z (upd F p o) α M H := by
  obtain ⟨h1, h2, h3⟩ := ok.priv (p, o) List.mem_cons_self
  refine ⟨Ext.upd h2, fun q hq => ?_, fun b u e => ?_, ok.len, ok.nd, ok.dom, fun k a m e1 e2 hm => ?_, fun k a m e1 e2 => (ok.mem k a m e1 e2).mono (Ext.upd h2) rfl⟩
  · obtain ⟨g1, g2, g3⟩ := ok.priv q (List.mem_cons_of_mem _ hq)
    exact ⟨g1, by rw [upd_ne (nz q hq)]; exact g2, g3⟩
  · by_cases hb : b = p
    · subst hb; rw [upd_same] at e; rw [h1]; exact e
    · rw [upd_ne hb] at e; exact ok.le _ _ e
  · have ne : a ≠ p := fun z => h3 (by subst z; exact List.mem_of_getElem? e1)
    rw [upd_ne ne]
    exact ok.out k a m e1 e2 hm
/-- the hidden object is shown as a cell -/
theorem Ok.showM {m : MO} (ok : Ok K ((p, o) :: Z) F α M H) (nz : ∀ q ∈ Z, q.1 ≠ p) (r : RpM K F (α ++ [p]) H p m) : Ok K Z F (α ++ [p]) (M ++ [m]) H := by
  obtain ⟨h1, h2, h3⟩ := ok.priv (p, o) List.mem_cons_self
  refine ⟨fun q hq => ?_, ok.le, by rw [List.length_append, List.length_append, ok.len]; rfl, List.nodup_append.mpr ⟨ok.nd, by simp, fun a ha b hb => ?_⟩, fun a ha => ?_, fun k a m' e1 e2 hm => ?_, fun k a m' e1 e2 => ?_⟩
  · obtain ⟨g1, g2, g3⟩ := ok.priv q (List.mem_cons_of_mem _ hq)
    exact ⟨g1, g2, fun z => (List.mem_append.mp z).elim g3 fun z => nz q hq (by simpa using z)⟩
  · have e : b = p := by simpa using hb
    subst e
    exact fun z => h3 (z ▸ ha)
  · rcases List.mem_append.mp ha with ha | ha
    · exact ok.dom a ha
    · have e : a = p := by simpa using ha
      subst e
      rw [h1]; simp
  · rcases get_snoc e1 with ⟨g1, e1⟩ | ⟨g1, rfl⟩
    · rcases get_snoc e2 with ⟨g2, e2⟩ | ⟨g2, _⟩
      · exact ok.out k a m' e1 e2 hm
      · have := ok.len; omega
    · exact h2
  · rcases get_snoc e1 with ⟨g1, e1⟩ | ⟨g1, rfl⟩
    · rcases get_snoc e2 with ⟨g2, e2⟩ | ⟨g2, _⟩
      · exact (ok.mem k a m' e1 e2).mono (ext_snoc p) rfl
      · have := ok.len; omega
    · rcases get_snoc e2 with ⟨g2, e2⟩ | ⟨g2, rfl⟩
      · have := ok.len; omega
      · exact r
/-! ### cells let go -/
mutual
/-- all cells that it names are below n -/
def D.cl (n : Nat) : D → Bool
  | .tup ds => D.clL n ds
  | .lst ds => D.clL n ds
  | .frl ds => D.clL n ds
  | .dct _ ds => D.clL n ds
  | .ptr k => decide (k < n)
  | .exn _ _ _ d => D.cl n d
  | _ => true
def D.clL (n : Nat) : List D → Bool
  | [] => true
  | d :: ds => D.cl n d && D.clL n ds
end
def MO.cl (n : Nat) : MO → Bool
  | .lst ds => D.clL n ds
  | .dct _ ds => D.clL n ds
  | .gone => true
mutual
theorem Rp.cut {β : List Addr} : ∀ {v : V} {d : D}, Rp K F (α ++ β) v d → D.cl α.length d = true → Rp K F α v d
  | _, _, .non, _ => .non
  | _, _, .bl b, _ => .bl b
  | _, _, .int i, _ => .int i
  | _, _, .str x, _ => .str x
  | _, _, .tup q r, c => .tup q (RpL.cut r (by simpa [D.cl] using c))
  | _, _, .lst q r, c => .lst q (RpL.cut r (by simpa [D.cl] using c))
  | _, _, .frl q r, c => .frl q (RpL.cut r (by simpa [D.cl] using c))
  | _, _, .dct q e r, c => .dct q e (RpL.cut r (by simpa [D.cl] using c))
  | _, _, .ptr e, c => .ptr (by
      have hk := of_decide_eq_true (by simpa [D.cl] using c)
      rw [List.getElem?_append_left hk] at e
      exact e)
  | _, _, .obj a, _ => .obj a
  | _, _, .ty n, _ => .ty n
  | _, _, .exn q r, c => .exn q (Rp.cut r (by simpa [D.cl] using c))
theorem RpL.cut {β : List Addr} : ∀ {vs : List V} {ds : List D}, RpL K F (α ++ β) vs ds → D.clL α.length ds = true → RpL K F α vs ds
  | _, _, .nil, _ => .nil
  | _, _, .cons r t, c => by
    rw [D.clL, Bool.and_eq_true] at c
    exact .cons (Rp.cut r c.1) (RpL.cut t c.2)
end
theorem Ok.cut {β : List Addr} {N : Ms} (ok : Ok K Z F (α ++ β) (M ++ N) H) (hl : α.length = M.length) (c : M.all (MO.cl M.length) = true) : Ok K Z F α M H where
  priv := fun q hq => let ⟨h1, h2, h3⟩ := ok.priv q hq; ⟨h1, h2, fun z => h3 (List.mem_append_left _ z)⟩
  le := ok.le
  len := hl
  nd := (List.nodup_append.mp ok.nd).1
  dom := fun a ha => ok.dom a (List.mem_append_left _ ha)
  out := fun k a m e1 e2 hm => ok.out k a m (by rw [List.getElem?_append_left (List.getElem?_eq_some_iff.mp e1).1]; exact e1) (by rw [List.getElem?_append_left (List.getElem?_eq_some_iff.mp e2).1]; exact e2) hm
  mem := fun k a m e1 e2 => by
    have r := ok.mem k a m (by rw [List.getElem?_append_left (List.getElem?_eq_some_iff.mp e1).1]; exact e1) (by rw [List.getElem?_append_left (List.getElem?_eq_some_iff.mp e2).1]; exact e2)
    have cm : MO.cl α.length m = true := by rw [hl]; exact List.all_eq_true.mp c m (List.mem_of_getElem? e2)
    cases m with
    | lst ds => obtain ⟨xs, q, r⟩ := r; exact ⟨xs, q, r.cut cm⟩
    | dct ks ds => obtain ⟨xs, q, k, r⟩ := r; exact ⟨xs, q, k, r.cut cm⟩
    | gone => trivial
end
end DL

set_option Elab.async false
set_option linter.all false
set_option autoImplicit false
set_option maxRecDepth 100000
/-! # Judgements over data: an expression, a test, arguments, a statement as transformers of data -/
namespace DL
open PySem PySem.Spec L2
open PyProof.Rows hiding St

abbrev DK := D → Ms → Prop
abbrev DX := Ex → Ms → Prop
abbrev DTE := Rho → Ms → DK → DX → Prop
abbrev DTT := Rho → Ms → (Bool → Ms → Prop) → DX → Prop
abbrev DTA := Rho → Ms → (List D → Ms → Prop) → DX → Prop
structure DEnds where
  nx : Rho → Ms → Prop
  rt : DK
  bk : Rho → Ms → Prop
  ct : Rho → Ms → Prop
  ex : Ex → Rho → Ms → Prop
abbrev DTS := DEnds → Rho → Ms → Prop

/-- what is wanted behind, told of data -/
def KE (K : PySem.W.Frag) (Z : Zs) (F : Hp) (α : List Addr) (Φ : DK) (Q : VK) : Prop := ∀ v H' F' α' d M', Ext F α F' α' → Ok K Z F' α' M' H' → Rp K F' α' v d → Φ d M' → Q v H'
def KT (K : PySem.W.Frag) (Z : Zs) (F : Hp) (α : List Addr) (Φ : Bool → Ms → Prop) (Q : Bool → Hp → Prop) : Prop := ∀ b H' F' α' M', Ext F α F' α' → Ok K Z F' α' M' H' → Φ b M' → Q b H'
def KA (K : PySem.W.Frag) (Z : Zs) (F : Hp) (α : List Addr) (Φ : List D → Ms → Prop) (Q : List V → Hp → Prop) : Prop := ∀ vs H' F' α' ds M', Ext F α F' α' → Ok K Z F' α' M' H' → RpL K F' α' vs ds → Φ ds M' → Q vs H'
def KX (K : PySem.W.Frag) (Z : Zs) (F : Hp) (α : List Addr) (W : WX) (σ : L2.St) (Ψ : DX) : Prop := ∀ cls d H' F' α' x M', Ext F α F' α' → Ok K Z F' α' M' H' → RpX K F' α' x cls d → Ψ x M' → W cls d σ H'
structure KS (K : PySem.W.Frag) (Z : Zs) (F : Hp) (α : List Addr) (W : WX) (E : DEnds) (D : Ends) : Prop where
  nx : ∀ σ' H' F' α' ρ' M', Ext F α F' α' → Ok K Z F' α' M' H' → RpE K F' α' ρ' σ' → E.nx ρ' M' → D.nx σ' H'
  rt : KE K Z F α E.rt D.rt
  bk : ∀ σ' H' F' α' ρ' M', Ext F α F' α' → Ok K Z F' α' M' H' → RpE K F' α' ρ' σ' → E.bk ρ' M' → D.bk σ' H'
  ct : ∀ σ' H' F' α' ρ' M', Ext F α F' α' → Ok K Z F' α' M' H' → RpE K F' α' ρ' σ' → E.ct ρ' M' → D.ct σ' H'
  ex : ∀ cls d σ' H' F' α' x ρ' M', Ext F α F' α' → Ok K Z F' α' M' H' → RpE K F' α' ρ' σ' → RpX K F' α' x cls d → E.ex x ρ' M' → W cls d σ' H'
section
variable {K : PySem.W.Frag} {Z : Zs} {F F1 : Hp} {α α1 : List Addr} {Φ : DK} {Q : VK} {W : WX} {σ : L2.St}
theorem KE.mono (k : KE K Z F α Φ Q) (x : Ext F α F1 α1) : KE K Z F1 α1 Φ Q := fun v H' F' α' d M' e => k v H' F' α' d M' (x.trans e)
theorem KT.mono {Φ : Bool → Ms → Prop} {Q : Bool → Hp → Prop} (k : KT K Z F α Φ Q) (x : Ext F α F1 α1) : KT K Z F1 α1 Φ Q := fun v H' F' α' M' e => k v H' F' α' M' (x.trans e)
theorem KA.mono {Φ : List D → Ms → Prop} {Q : List V → Hp → Prop} (k : KA K Z F α Φ Q) (x : Ext F α F1 α1) : KA K Z F1 α1 Φ Q := fun v H' F' α' d M' e => k v H' F' α' d M' (x.trans e)
theorem KX.mono {Ψ : DX} (k : KX K Z F α W σ Ψ) (x : Ext F α F1 α1) : KX K Z F1 α1 W σ Ψ := fun cls d H' F' α' y M' e => k cls d H' F' α' y M' (x.trans e)
theorem KS.mono {E : DEnds} {D : Ends} (k : KS K Z F α W E D) (x : Ext F α F1 α1) : KS K Z F1 α1 W E D where
  nx := fun σ' H' F' α' ρ' M' e => k.nx σ' H' F' α' ρ' M' (x.trans e)
  rt := k.rt.mono x
  bk := fun σ' H' F' α' ρ' M' e => k.bk σ' H' F' α' ρ' M' (x.trans e)
  ct := fun σ' H' F' α' ρ' M' e => k.ct σ' H' F' α' ρ' M' (x.trans e)
  ex := fun cls d σ' H' F' α' y ρ' M' e => k.ex cls d σ' H' F' α' y ρ' M' (x.trans e)
theorem KS.kx {E : DEnds} {D : Ends} {ρ : Rho} (k : KS K Z F α W E D) (re : RpE K F α ρ σ) : KX K Z F α W σ (fun x M => E.ex x ρ M) := fun cls d H' F' α' y M' e ok rx h => k.ex cls d σ H' F' α' y ρ M' e ok (re.mono e) rx h
end

def SndE (K : PySem.W.Frag) (W : WX) (t : TE) (T : DTE) : Prop := ∀ Z σ H F α ρ M Φ Ψ Q, Ok K Z F α M H → RpE K F α ρ σ → T ρ M Φ Ψ → KE K Z F α Φ Q → KX K Z F α W σ Ψ → t σ H Q
def SndT (K : PySem.W.Frag) (W : WX) (t : TT) (T : DTT) : Prop := ∀ Z σ H F α ρ M Φ Ψ Q, Ok K Z F α M H → RpE K F α ρ σ → T ρ M Φ Ψ → KT K Z F α Φ Q → KX K Z F α W σ Ψ → t σ H Q
def SndA (K : PySem.W.Frag) (W : WX) (t : TA) (T : DTA) : Prop := ∀ Z σ H F α ρ M Φ Ψ Q, Ok K Z F α M H → RpE K F α ρ σ → T ρ M Φ Ψ → KA K Z F α Φ Q → KX K Z F α W σ Ψ → t σ H Q
def SndS (K : PySem.W.Frag) (W : WX) (t : TS) (T : DTS) : Prop := ∀ Z σ H F α ρ M E D, Ok K Z F α M H → RpE K F α ρ σ → T E ρ M → KS K Z F α W E D → t D σ H
structure DE (X : Cx) (W : WX) (e : Expr) (t : TE) (T : DTE) : Prop where
  pe : PE X e t
  snd : SndE X.K W t T
structure DT (X : Cx) (W : WX) (e : Expr) (t : TT) (T : DTT) : Prop where
  pt : PT X e t
  snd : SndT X.K W t T
structure DW (X : Cx) (W : WX) (e : Expr) (t : TT) (T : DTT) : Prop where
  pw : PW X e t
  snd : SndT X.K W t T
structure DA (X : Cx) (W : WX) (es : List Expr) (t : TA) (T : DTA) : Prop where
  pa : PA X es t
  snd : SndA X.K W t T
structure DKw (X : Cx) (W : WX) (es : List Keyword) (t : TA) (T : DTA) : Prop where
  pk : PK X es t
  snd : SndA X.K W t T
structure DS (X : Cx) (W : WX) (st : Stmt) (t : TS) (T : DTS) : Prop where
  ps : PS X st t
  snd : SndS X.K W t T
structure DSs (X : Cx) (W : WX) (st : List Stmt) (t : TS) (T : DTS) : Prop where
  ps : PSs X st t
  snd : SndS X.K W t T

/-! ## names and constants -/
def dVar (i : Nat) : DTE := fun ρ M Φ _ => match ρ[i]? with
  | some (some d) => Φ d M
  | _ => False
def dC (d : D) : DTE := fun _ M Φ _ => Φ d M
/-- v is d whatever the heap -/
def KD (K : PySem.W.Frag) (v : V) (d : D) : Prop := ∀ F α, Rp K F α v d
section
variable {X : Cx} {W : WX}
theorem snd_var (i : Nat) : SndE X.K W (tVar i) (dVar i) := fun Z σ H F α ρ M Φ Ψ Q ok re h k _ => by
  unfold dVar at h
  cases e : ρ[i]? with
  | none => rw [e] at h; exact h.elim
  | some o =>
    rw [e] at h
    cases o with
    | none => exact h.elim
    | some d =>
      obtain ⟨v, e1, r⟩ := re.get i d e
      exact ⟨v, e1, k v H F α d M Ext.refl ok r h⟩
theorem dv (i : Nat) {x : Str} {pos : Pos} (hN : X.N[i]? = some x := by rfl) (hv : Vis X.env.scope x := by first | exact Or.inl rfl | exact Or.inr (Or.inl rfl) | exact Or.inr (Or.inr rfl)) (hd : (x == ("__debug__" : Str)) = false := by decide)
    (hcd : (x == ("__classdict__" : Str)) = false := by decide) : DE X W (.Name x pos) (tVar i) (dVar i) := ⟨pe_var hN hv hd hcd, snd_var i⟩
theorem snd_c {v : V} {d : D} (r : KD X.K v d) : SndE X.K W (tC v) (dC d) := fun Z σ H F α ρ M Φ Ψ Q ok re h k _ => k v H F α d M Ext.refl ok (r F α) h
theorem de_int {i : Int} {j : Nat} {pos : Pos} : DE X W (.Constant (.int i) j pos) (tC (.int i)) (dC (.int i)) := ⟨pe_int, snd_c fun _ _ => .int i⟩
theorem de_bl {b : Bool} {j : Nat} {pos : Pos} : DE X W (.Constant (.bool b) j pos) (tC (.bl b)) (dC (.bl b)) := ⟨pe_bl, snd_c fun _ _ => .bl b⟩
theorem de_non {j : Nat} {pos : Pos} : DE X W (.Constant .none j pos) (tC .non) (dC .non) := ⟨pe_non, snd_c fun _ _ => .non⟩
theorem de_str {x : Str} {j : Nat} {pos : Pos} : DE X W (.Constant (.str x) j pos) (tC (.str x)) (dC (.str x)) := ⟨pe_str, snd_c fun _ _ => .str x⟩
/-- a module's constant -/
structure Gc (K : PySem.W.Frag) (mg : Str → Option Value) (x : Str) (d : D) : Prop where
  ex : ∃ u v, mg x = some u ∧ RelV v u ∧ KD K v d
/-- choice: a constant's value -/
noncomputable def Gc.v {K : PySem.W.Frag} {mg : Str → Option Value} {x : Str} {d : D} (g : Gc K mg x d) : V := g.ex.choose_spec.choose
theorem de_glob {x : Str} {d : D} {pos : Pos} (g : Gc X.K X.mg x d) (hg : Gl X x := by rfl) (hd : (x == ("__debug__" : Str)) = false := by decide) : DE X W (.Name x pos) (tC g.v) (dC d) := by
  obtain ⟨h1, h2, h3⟩ := g.ex.choose_spec.choose_spec
  exact ⟨pe_glob hg h1 h2 hd, snd_c h3⟩
/-- a built-in class as a value -/
theorem de_ty {x : Str} {n : String} {pos : Pos} (hm : X.mg x = none) (hv : bootBuiltins x = some (.type n)) (hg : Gl X x := by rfl) (hn : x ≠ "__name__" := by decide) (hd : (x == ("__debug__" : Str)) = false := by decide) :
    DE X W (.Name x pos) (tC (.ty n)) (dC (.ty n)) := ⟨pe_bltn hg hm hv rfl hn hd, snd_c fun _ _ => .ty n⟩
end

/-! ## operators, calls of built-ins -/
abbrev DR1 := D → Ms → DK → Prop
abbrev DR2 := D → D → Ms → DK → Prop
abbrev DRL := List D → Ms → DK → Prop
def SndOp (K : PySem.W.Frag) (r : R2) (R : DR2) : Prop := ∀ Z H F α M Φ Q x y d e, Ok K Z F α M H → Rp K F α x d → Rp K F α y e → R d e M Φ → KE K Z F α Φ Q → r x y H Q
def SndUn (K : PySem.W.Frag) (r : V → Hp → VK → Prop) (R : DR1) : Prop := ∀ Z H F α M Φ Q x d, Ok K Z F α M H → Rp K F α x d → R d M Φ → KE K Z F α Φ Q → r x H Q
def SndC (K : PySem.W.Frag) (r : List V → Hp → VK → Prop) (R : DRL) : Prop := ∀ Z H F α M Φ Q vs ds, Ok K Z F α M H → RpL K F α vs ds → R ds M Φ → KE K Z F α Φ Q → r vs H Q
def dOp (R : DR2) (Ta Tb : DTE) : DTE := fun ρ M Φ Ψ => Ta ρ M (fun d M1 => Tb ρ M1 (fun e M2 => R d e M2 Φ) Ψ) Ψ
def dUn (R : DR1) (Ta : DTE) : DTE := fun ρ M Φ Ψ => Ta ρ M (fun d M1 => R d M1 Φ) Ψ
def dCB (R : DRL) (T : DTA) : DTE := fun ρ M Φ Ψ => T ρ M (fun ds M1 => R ds M1 Φ) Ψ
section
variable {X : Cx} {W : WX} {a b c : Expr} {pos : Pos} {ta tb tc : TE} {Ta Tb Tc : DTE}
theorem snd_op {r : R2} {R : DR2} (hs : SndOp X.K r R) (ha : SndE X.K W ta Ta) (hb : SndE X.K W tb Tb) : SndE X.K W (tOp r ta tb) (dOp R Ta Tb) := fun Z σ H F α ρ M Φ Ψ Q ok re h k kx =>
  ha Z σ H F α ρ M _ Ψ _ ok re h (fun x H1 F1 α1 d M1 x1 ok1 r1 h1 => hb Z σ H1 F1 α1 ρ M1 _ Ψ _ ok1 (re.mono x1) h1 (fun y H2 F2 α2 e M2 x2 ok2 r2 h2 =>
    hs Z H2 F2 α2 M2 Φ Q x y d e ok2 (r1.mono x2) r2 h2 (k.mono (x1.trans x2))) (kx.mono x1)) kx
theorem de_op {op : Operator} {r : R2} {R : DR2} (ho : OpR X (binaryOp op) r) (hs : SndOp X.K r R) (ha : DE X W a ta Ta) (hb : DE X W b tb Tb) : DE X W (.BinOp a op b pos) (tOp r ta tb) (dOp R Ta Tb) :=
  ⟨pe_op ho ha.pe hb.pe, snd_op hs ha.snd hb.snd⟩
theorem de_cmp {op : CmpOp} {r : R2} {R : DR2} (ho : OpR X (compareOp op) r) (hs : SndOp X.K r R) (ha : DE X W a ta Ta) (hb : DE X W b tb Tb) (hm : behindInMarks op b = false := by first | exact nomark _ | rfl) : DE X W (.Compare a [op] [b] pos) (tOp r ta tb) (dOp R Ta Tb) :=
  ⟨pe_cmpR ho ha.pe hb.pe hm, snd_op hs ha.snd hb.snd⟩
theorem de_un {op : UnaryOp} {r : V → Hp → VK → Prop} {R : DR1} (ho : UnR X (unaryOp op) r) (hs : SndUn X.K r R) (ha : DE X W a ta Ta) : DE X W (.UnaryOp op a pos) (tUn r ta) (dUn R Ta) :=
  ⟨pe_un ho ha.pe, fun Z σ H F α ρ M Φ Ψ Q ok re h k kx => ha.snd Z σ H F α ρ M _ Ψ _ ok re h (fun x H1 F1 α1 d M1 x1 ok1 r1 h1 => hs Z H1 F1 α1 M1 Φ Q x d ok1 r1 h1 (k.mono x1)) kx⟩
theorem snd_cb {r : List V → Hp → VK → Prop} {R : DRL} {t : TA} {T : DTA} (hs : SndC X.K r R) (ha : SndA X.K W t T) : SndE X.K W (tCB r t) (dCB R T) := fun Z σ H F α ρ M Φ Ψ Q ok re h k kx =>
  ha Z σ H F α ρ M _ Ψ _ ok re h (fun vs H1 F1 α1 ds M1 x1 ok1 r1 h1 => hs Z H1 F1 α1 M1 Φ Q vs ds ok1 r1 h1 (k.mono x1)) kx
theorem de_callB {id : String} {x : Str} {p : Pos} {e : Expr} {es : List Expr} {r : List V → Hp → VK → Prop} {R : DRL} {t : TA} {T : DTA} (hc : CallR X (.builtin id) r) (hs : SndC X.K r R) (hm : X.mg x = none) (hv : bootBuiltins x = some (.builtin id)) (ha : DA X W (e :: es) t T)
    (hg : Gl X x := by rfl) (hn : x ≠ "__name__" := by decide) (hdb : (x == ("__debug__" : Str)) = false := by decide)
    (he : starEach (e :: es) X.env = (false, eval e X.env) :: starEach es X.env := by rfl) (hpl : (backTo pos (starEach es X.env)).any (·.1) = false := by rfl) :
    DE X W (.Call (.Name x p) (e :: es) [] pos) (tCB r t) (dCB R T) := ⟨pe_callB hc hg hm hv ha.pa hn hdb he hpl, snd_cb hs ha.snd⟩
theorem de_callTy {ty : String} {x : Str} {p : Pos} {e : Expr} {es : List Expr} {r : List V → Hp → VK → Prop} {R : DRL} {t : TA} {T : DTA} (hc : CallR X (.type ty) r) (hs : SndC X.K r R) (hm : X.mg x = none) (hv : bootBuiltins x = some (.type ty)) (ha : DA X W (e :: es) t T)
    (hg : Gl X x := by rfl) (hn : x ≠ "__name__" := by decide) (hdb : (x == ("__debug__" : Str)) = false := by decide)
    (he : starEach (e :: es) X.env = (false, eval e X.env) :: starEach es X.env := by rfl) (hpl : (backTo pos (starEach es X.env)).any (·.1) = false := by rfl) :
    DE X W (.Call (.Name x p) (e :: es) [] pos) (tCB r t) (dCB R T) := ⟨pe_callTy hc hg hm hv ha.pa hn hdb he hpl, snd_cb hs ha.snd⟩
theorem de_callF {id : String} {x : Str} {p : Pos} {e : Expr} {es : List Expr} {r : List V → Hp → VK → Prop} {R : DRL} {t : TA} {T : DTA} (hc : CallR X (.builtin id) r) (hs : SndC X.K r R) (hm : X.mg x = some (.builtin id)) (ha : DA X W (e :: es) t T)
    (hg : Gl X x := by rfl) (hdb : (x == ("__debug__" : Str)) = false := by decide)
    (he : starEach (e :: es) X.env = (false, eval e X.env) :: starEach es X.env := by rfl) (hpl : (backTo pos (starEach es X.env)).any (·.1) = false := by rfl) :
    DE X W (.Call (.Name x p) (e :: es) [] pos) (tCB r t) (dCB R T) := ⟨pe_callBfun hc hg hm ha.pa hdb he hpl, snd_cb hs ha.snd⟩

/-! ## arguments -/
def dNil : DTA := fun _ M Φ _ => Φ [] M
def dCons (Ta : DTE) (Tr : DTA) : DTA := fun ρ M Φ Ψ => Ta ρ M (fun d M1 => Tr ρ M1 (fun ds M2 => Φ (d :: ds) M2) Ψ) Ψ
theorem snd_nil : SndA X.K W tNil dNil := fun Z σ H F α ρ M Φ Ψ Q ok re h k _ => k [] H F α [] M Ext.refl ok .nil h
theorem snd_cons {t : TA} {T : DTA} (ha : SndE X.K W ta Ta) (hr : SndA X.K W t T) : SndA X.K W (tCons ta t) (dCons Ta T) := fun Z σ H F α ρ M Φ Ψ Q ok re h k kx =>
  ha Z σ H F α ρ M _ Ψ _ ok re h (fun x H1 F1 α1 d M1 x1 ok1 r1 h1 => hr Z σ H1 F1 α1 ρ M1 _ Ψ _ ok1 (re.mono x1) h1 (fun vs H2 F2 α2 ds M2 x2 ok2 r2 h2 =>
    k (x :: vs) H2 F2 α2 (d :: ds) M2 (x1.trans x2) ok2 (.cons (r1.mono x2) r2) h2) (kx.mono x1)) kx
theorem da_nil : DA X W [] tNil dNil := ⟨pa_nil, snd_nil⟩
theorem da_cons {es : List Expr} {t : TA} {T : DTA} (ha : DE X W a ta Ta) (hr : DA X W es t T) (hs : starEach (a :: es) X.env = (false, eval a X.env) :: starEach es X.env := by rfl) : DA X W (a :: es) (tCons ta t) (dCons Ta T) :=
  ⟨pa_cons ha.pe hr.pa hs, snd_cons ha.snd hr.snd⟩
/-- *e among the arguments (a list or a tuple) -/
def sq (M : Ms) : D → Option (List D)
  | .tup ds => some ds
  | .lst ds => some ds
  | .frl ds => some ds
  | .ptr k => match M[k]? with
    | some (.lst ds) => some ds
    | _ => none
  | _ => none
def lv (M : Ms) : D → Option (List D)
  | .lst ds => some ds
  | .ptr k => match M[k]? with
    | some (.lst ds) => some ds
    | _ => none
  | _ => none
/-- lists, also those that stand by themselves -/
def lvf (M : Ms) : D → Option (List D)
  | .lst ds => some ds
  | .frl ds => some ds
  | .ptr k => match M[k]? with
    | some (.lst ds) => some ds
    | _ => none
  | _ => none
end
section
variable {K : PySem.W.Frag} {Z : Zs} {F : Hp} {α : List Addr} {M : Ms} {H : Hp} {v : V} {d : D} {ds : List D}
theorem Same.sqL' {F F' : Hp} {a : Addr} {xs : List V} (e : Same F F') (h : SqL K F a xs) : SqL K F' a xs := e.seq h
theorem Rp.lst? (r : Rp K F α v d) (ok : Ok K Z F α M H) (h : lv M d = some ds) : ∃ a xs, v = .ref a ∧ H a = some (.lst xs) ∧ RpL K F α xs ds := by
  cases r with
  | lst q r => cases h; exact ⟨_, _, rfl, ok.le _ _ q, r⟩
  | @ptr a k e =>
    unfold lv at h
    dsimp only at h
    cases q : M[k]? with
    | none => rw [q] at h; cases h
    | some m =>
      rw [q] at h
      cases m with
      | lst es =>
        cases h
        obtain ⟨xs, hx, r⟩ := ok.mem k a _ e q
        exact ⟨a, xs, rfl, hx, r⟩
      | dct ks es => cases h
      | gone => cases h
  | _ => cases h
theorem Rp.lstf? (r : Rp K F α v d) (ok : Ok K Z F α M H) (h : lvf M d = some ds) : ∃ a xs, v = .ref a ∧ SqL K H a xs ∧ RpL K F α xs ds := by
  cases r with
  | lst q r => cases h; exact ⟨_, _, rfl, .of (ok.le _ _ q), r⟩
  | frl q r => cases h; exact ⟨_, _, rfl, ok.le.seq q, r⟩
  | @ptr a k e =>
    obtain ⟨a, xs, e1, e2, r⟩ := Rp.lst? (M := M) (ds := ds) (Rp.ptr e) ok h
    exact ⟨a, xs, e1, .of e2, r⟩
  | _ => cases h
theorem Rp.tup? (r : Rp K F α v (.tup ds)) (ok : Ok K Z F α M H) : ∃ a xs, v = .ref a ∧ SqT K H a xs ∧ RpL K F α xs ds := by
  cases r with
  | tup q r => exact ⟨_, _, rfl, DL.Same.sqT ok.le q, r⟩
theorem Rp.sq? (r : Rp K F α v d) (ok : Ok K Z F α M H) (h : sq M d = some ds) : ∃ a xs, v = .ref a ∧ (SqL K H a xs ∨ SqT K H a xs) ∧ RpL K F α xs ds := by
  cases r with
  | tup q r => cases h; exact ⟨_, _, rfl, .inr (DL.Same.sqT ok.le q), r⟩
  | lst q r => cases h; exact ⟨_, _, rfl, .inl (.of (ok.le _ _ q)), r⟩
  | frl q r => cases h; exact ⟨_, _, rfl, .inl (ok.le.seq q), r⟩
  | @ptr a k e =>
    obtain ⟨a, xs, e1, e2, r⟩ := Rp.lst? (M := M) (ds := ds) (Rp.ptr e) ok h
    exact ⟨a, xs, e1, .inl (.of e2), r⟩
  | _ => cases h
end
section
variable {X : Cx} {W : WX} {a b c : Expr} {pos : Pos} {ta tb tc : TE} {Ta Tb Tc : DTE}
def dStar (Ta : DTE) (Tr : DTA) : DTA := fun ρ M Φ Ψ => Ta ρ M (fun d M1 => match sq M1 d with
  | some xs => Tr ρ M1 (fun ds M2 => Φ (xs ++ ds) M2) Ψ
  | none => False) Ψ

/-! ## displays -/
def dTup (T : DTA) : DTE := fun ρ M Φ Ψ => T ρ M (fun ds M1 => ds.length ≤ sizeLine ∧ Φ (.tup ds) M1) Ψ
def dLst (T : DTA) : DTE := fun ρ M Φ Ψ => T ρ M (fun ds M1 => ds.length ≤ sizeLine ∧ Φ (.lst ds) M1) Ψ
/-- the new list is a cell -/
def dLstM (T : DTA) : DTE := fun ρ M Φ Ψ => T ρ M (fun ds M1 => ds.length ≤ sizeLine ∧ Φ (.ptr M1.length) (M1 ++ [.lst ds])) Ψ
theorem new_tup {K : PySem.W.Frag} {Z : Zs} {F H : Hp} {α : List Addr} {M : Ms} {Φ : DK} {Q : VK} {xs : List V} {ds : List D} {p : Addr} (ok : Ok K Z F α M H) (r : RpL K F α xs ds) (k : KE K Z F α Φ Q) (h : Φ (.tup ds) M) (hp : H p = none) : Q (.ref p) (upd H p (.tup xs)) :=
  k _ _ _ α _ M (Ext.upd (ok.free hp)) (ok.new hp) (.tup (.of upd_same) (r.mono (Ext.upd (ok.free hp)))) h
theorem new_lst {K : PySem.W.Frag} {Z : Zs} {F H : Hp} {α : List Addr} {M : Ms} {Φ : DK} {Q : VK} {xs : List V} {ds : List D} {p : Addr} (ok : Ok K Z F α M H) (r : RpL K F α xs ds) (k : KE K Z F α Φ Q) (h : Φ (.lst ds) M) (hp : H p = none) : Q (.ref p) (upd H p (.lst xs)) :=
  k _ _ _ α _ M (Ext.upd (ok.free hp)) (ok.new hp) (.lst upd_same (r.mono (Ext.upd (ok.free hp)))) h
theorem new_lstM {K : PySem.W.Frag} {Z : Zs} {F H : Hp} {α : List Addr} {M : Ms} {Φ : DK} {Q : VK} {xs : List V} {ds : List D} {p : Addr} (ok : Ok K Z F α M H) (r : RpL K F α xs ds) (k : KE K Z F α Φ Q) (h : Φ (.ptr M.length) (M ++ [.lst ds])) (hp : H p = none) : Q (.ref p) (upd H p (.lst xs)) :=
  k _ _ F (α ++ [p]) _ _ (ext_snoc p) (ok.newM (m := .lst ds) hp ⟨xs, upd_same, r.mono (ext_snoc p)⟩) (.ptr (by rw [← ok.len]; simp)) h
theorem de_tup {es : List Expr} {x1 : Nat} {t : TA} {T : DTA} (ha : DA X W es t T) : DE X W (.Tuple es x1 pos) (tTup t) (dTup T) :=
  ⟨pe_tup ha.pa, fun Z σ H F α ρ M Φ Ψ Q ok re h k kx => ha.snd Z σ H F α ρ M _ Ψ _ ok re h (fun vs H1 F1 α1 ds M1 x1 ok1 r1 h1 => ⟨by rw [r1.length]; exact h1.1, fun p hp => new_tup ok1 r1 (k.mono x1) h1.2 hp⟩) kx⟩
theorem de_lst {es : List Expr} {t : TA} {T : DTA} (ha : DA X W es t T) : DE X W (.List es pos) (tLst t) (dLst T) :=
  ⟨pe_lst ha.pa, fun Z σ H F α ρ M Φ Ψ Q ok re h k kx => ha.snd Z σ H F α ρ M _ Ψ _ ok re h (fun vs H1 F1 α1 ds M1 x1 ok1 r1 h1 => ⟨by rw [r1.length]; exact h1.1, fun p hp => new_lst ok1 r1 (k.mono x1) h1.2 hp⟩) kx⟩
theorem de_lstM {es : List Expr} {t : TA} {T : DTA} (ha : DA X W es t T) : DE X W (.List es pos) (tLst t) (dLstM T) :=
  ⟨pe_lst ha.pa, fun Z σ H F α ρ M Φ Ψ Q ok re h k kx => ha.snd Z σ H F α ρ M _ Ψ _ ok re h (fun vs H1 F1 α1 ds M1 x1 ok1 r1 h1 => ⟨by rw [r1.length]; exact h1.1, fun p hp => new_lstM ok1 r1 (k.mono x1) h1.2 hp⟩) kx⟩

/-! ## tests -/
def dB (T : DTE) : DTT := fun ρ M Φ Ψ => T ρ M (fun d M1 => match d with
  | .bl b => Φ b M1
  | _ => False) Ψ
theorem snd_b {t : TE} {T : DTE} (h : SndE X.K W t T) : SndT X.K W (tB t) (dB T) := fun Z σ H F α ρ M Φ Ψ Q ok re hh k kx =>
  h Z σ H F α ρ M _ Ψ _ ok re hh (fun v H1 F1 α1 d M1 x1 ok1 r1 h1 => by
    cases d with
    | bl b => cases r1; exact ⟨b, rfl, k b H1 F1 α1 M1 x1 ok1 h1⟩
    | _ => exact h1.elim) kx
theorem dt_val {t : TE} {T : DTE} (h : DE X W a t T) (he : ∀ whole, isTrue a X.env whole = (do let v ← whole; standAt a.pos; holding [v] (truthy v)) := by intro _; rfl) : DT X W a (tB t) (dB T) := ⟨pt_val h.pe he, snd_b h.snd⟩
theorem dt_cmp {op : CmpOp} {r : R2} {R : DR2} (ho : OpR X (compareOp op) r) (hs : SndOp X.K r R) (ha : DE X W a ta Ta) (hb : DE X W b tb Tb) (hm : behindInMarks op b = false := by first | exact nomark _ | rfl) : DT X W (.Compare a [op] [b] pos) (tTest (tOp r ta tb)) (dB (dOp R Ta Tb)) :=
  ⟨pt_cmpR ho ha.pe hb.pe hm, snd_b (snd_op hs ha.snd hb.snd)⟩
def dChain (R R' : DR2) (Ta Tb Tc : DTE) : DTE := fun ρ M Φ Ψ => Ta ρ M (fun d M1 => Tb ρ M1 (fun e M2 => R d e M2 (fun z M3 => match z with
  | .bl b => if b = true then Tc ρ M3 (fun f M4 => R' e f M4 Φ) Ψ else Φ (.bl false) M3
  | _ => False)) Ψ) Ψ
theorem snd_chain {r r' : R2} {R R' : DR2} (hs : SndOp X.K r R) (hs' : SndOp X.K r' R') (ha : SndE X.K W ta Ta) (hb : SndE X.K W tb Tb) (hc : SndE X.K W tc Tc) : SndE X.K W (tChain r r' ta tb tc) (dChain R R' Ta Tb Tc) := fun Z σ H F α ρ M Φ Ψ Q ok re h k kx =>
  ha Z σ H F α ρ M _ Ψ _ ok re h (fun x H1 F1 α1 d M1 x1 ok1 r1 h1 => hb Z σ H1 F1 α1 ρ M1 _ Ψ _ ok1 (re.mono x1) h1 (fun y H2 F2 α2 e M2 x2 ok2 r2 h2 =>
    hs Z H2 F2 α2 M2 _ _ x y d e ok2 (r1.mono x2) r2 h2 (fun z H3 F3 α3 g M3 x3 ok3 r3 h3 => by
      cases g with
      | bl b =>
        cases r3
        dsimp only at h3
        refine ⟨b, rfl, ?_⟩
        cases b with
        | true =>
          rw [if_pos rfl] at h3 ⊢
          exact hc Z σ H3 F3 α3 ρ M3 _ Ψ _ ok3 (re.mono (x1.trans (x2.trans x3))) h3 (fun u H4 F4 α4 f M4 x4 ok4 r4 h4 => hs' Z H4 F4 α4 M4 Φ Q y u e f ok4 (r2.mono (x3.trans x4)) r4 h4 (k.mono (x1.trans (x2.trans (x3.trans x4))))) (kx.mono (x1.trans (x2.trans x3)))
        | false =>
          rw [if_neg Bool.false_ne_true] at h3 ⊢
          exact k _ H3 F3 α3 _ M3 (x1.trans (x2.trans x3)) ok3 (.bl false) h3
      | _ => exact h3.elim)) (kx.mono x1)) kx
theorem de_chain {op op' : CmpOp} {r r' : R2} {R R' : DR2} (ho : OpR X (compareOp op) r) (hs : SndOp X.K r R) (ho' : OpR X (compareOp op') r') (hs' : SndOp X.K r' R') (ha : DE X W a ta Ta) (hb : DE X W b tb Tb) (hc : DE X W c tc Tc)
    (hm : lastMarks [op, op'] [b, c] = false := by with_unfolding_all rfl) : DE X W (.Compare a [op, op'] [b, c] pos) (tChain r r' ta tb tc) (dChain R R' Ta Tb Tc) :=
  ⟨pe_chain ho ho' ha.pe hb.pe hc.pe hm, snd_chain hs hs' ha.snd hb.snd hc.snd⟩
theorem dt_chain {op op' : CmpOp} {r r' : R2} {R R' : DR2} (ho : OpR X (compareOp op) r) (hs : SndOp X.K r R) (ho' : OpR X (compareOp op') r') (hs' : SndOp X.K r' R') (ha : DE X W a ta Ta) (hb : DE X W b tb Tb) (hc : DE X W c tc Tc)
    (hm : lastMarks [op, op'] [b, c] = false := by with_unfolding_all rfl) : DT X W (.Compare a [op, op'] [b, c] pos) (tTest (tChain r r' ta tb tc)) (dB (dChain R R' Ta Tb Tc)) :=
  ⟨pt_chain ho ho' ha.pe hb.pe hc.pe hm, snd_b (snd_chain hs hs' ha.snd hb.snd hc.snd)⟩
end
section
variable {X : Cx} {W : WX} {a b c : Expr} {rest : List Expr} {pos : Pos} {tA tB' : TT} {TA TB : DTT} {ta tb : TE} {Ta Tb : DTE}
def dAnd (t u : DTT) : DTT := fun ρ M Φ Ψ => t ρ M (fun b M1 => if b = true then u ρ M1 Φ Ψ else Φ false M1) Ψ
def dOr (t u : DTT) : DTT := fun ρ M Φ Ψ => t ρ M (fun b M1 => if b = true then Φ true M1 else u ρ M1 Φ Ψ) Ψ
def dNot (t : DTT) : DTT := fun ρ M Φ Ψ => t ρ M (fun b M1 => Φ (!b) M1) Ψ
theorem dw_and1 (ha : DT X W a tA TA) : DW X W (.BoolOp .And [a] pos) tA TA := ⟨pw_and1 ha.pt, ha.snd⟩
theorem dw_or1 (ha : DT X W a tA TA) : DW X W (.BoolOp .Or [a] pos) tA TA := ⟨pw_or1 ha.pt, ha.snd⟩
theorem dw_and (ha : DT X W a tA TA) (hb : DW X W (.BoolOp .And (b :: rest) pos) tB' TB) : DW X W (.BoolOp .And (a :: b :: rest) pos) (tAnd tA tB') (dAnd TA TB) :=
  ⟨pw_and ha.pt hb.pw, fun Z σ H F α ρ M Φ Ψ Q ok re h k kx => ha.snd Z σ H F α ρ M _ Ψ _ ok re h (fun b H1 F1 α1 M1 x1 ok1 h1 => by
    cases b with
    | true =>
      rw [if_pos rfl] at h1 ⊢
      exact hb.snd Z σ H1 F1 α1 ρ M1 Φ Ψ Q ok1 (re.mono x1) h1 (k.mono x1) (kx.mono x1)
    | false =>
      rw [if_neg Bool.false_ne_true] at h1 ⊢
      exact k false H1 F1 α1 M1 x1 ok1 h1) kx⟩
theorem dw_or (ha : DT X W a tA TA) (hb : DW X W (.BoolOp .Or (b :: rest) pos) tB' TB) : DW X W (.BoolOp .Or (a :: b :: rest) pos) (tOr tA tB') (dOr TA TB) :=
  ⟨pw_or ha.pt hb.pw, fun Z σ H F α ρ M Φ Ψ Q ok re h k kx => ha.snd Z σ H F α ρ M _ Ψ _ ok re h (fun b H1 F1 α1 M1 x1 ok1 h1 => by
    cases b with
    | true =>
      rw [if_pos rfl] at h1 ⊢
      exact k true H1 F1 α1 M1 x1 ok1 h1
    | false =>
      rw [if_neg Bool.false_ne_true] at h1 ⊢
      exact hb.snd Z σ H1 F1 α1 ρ M1 Φ Ψ Q ok1 (re.mono x1) h1 (k.mono x1) (kx.mono x1)) kx⟩
theorem DW.dt (h : DW X W a tA TA) : DT X W a tA TA := ⟨h.pw.pt, h.snd⟩
theorem dt_not (ha : DT X W a tA TA) : DT X W (.UnaryOp .Not a pos) (tNot tA) (dNot TA) :=
  ⟨pt_not ha.pt, fun Z σ H F α ρ M Φ Ψ Q ok re h k kx => ha.snd Z σ H F α ρ M _ Ψ _ ok re h (fun b H1 F1 α1 M1 x1 ok1 h1 => k (!b) H1 F1 α1 M1 x1 ok1 h1) kx⟩
/-- and, or, not as values -/
def dAndV (Ta Tb : DTE) : DTE := fun ρ M Φ Ψ => Ta ρ M (fun d M1 => match d with
  | .bl b => if b = true then Tb ρ M1 Φ Ψ else Φ (.bl false) M1
  | _ => False) Ψ
def dOrV (Ta Tb : DTE) : DTE := fun ρ M Φ Ψ => Ta ρ M (fun d M1 => match d with
  | .bl b => if b = true then Φ (.bl true) M1 else Tb ρ M1 Φ Ψ
  | _ => False) Ψ
def dNotV (Ta : DTE) : DTE := fun ρ M Φ Ψ => Ta ρ M (fun d M1 => match d with
  | .bl b => Φ (.bl (!b)) M1
  | _ => False) Ψ
theorem de_one {op : BoolOp} (h : DE X W a ta Ta) : DE X W (.BoolOp op [a] pos) ta Ta := ⟨pe_one h.pe, h.snd⟩
theorem de_and (ha : DE X W a ta Ta) (hb : DE X W (.BoolOp .And (b :: rest) pos) tb Tb) : DE X W (.BoolOp .And (a :: b :: rest) pos) (tAndV ta tb) (dAndV Ta Tb) :=
  ⟨pe_and ha.pe hb.pe, fun Z σ H F α ρ M Φ Ψ Q ok re h k kx => ha.snd Z σ H F α ρ M _ Ψ _ ok re h (fun v H1 F1 α1 d M1 x1 ok1 r1 h1 => by
    cases d with
    | bl b =>
      cases r1
      dsimp only at h1
      refine ⟨b, rfl, ?_⟩
      cases b with
      | true =>
        rw [if_pos rfl] at h1 ⊢
        exact hb.snd Z σ H1 F1 α1 ρ M1 Φ Ψ Q ok1 (re.mono x1) h1 (k.mono x1) (kx.mono x1)
      | false =>
        rw [if_neg Bool.false_ne_true] at h1 ⊢
        exact k _ H1 F1 α1 _ M1 x1 ok1 (.bl false) h1
    | _ => exact h1.elim) kx⟩
theorem de_or (ha : DE X W a ta Ta) (hb : DE X W (.BoolOp .Or (b :: rest) pos) tb Tb) : DE X W (.BoolOp .Or (a :: b :: rest) pos) (tOrV ta tb) (dOrV Ta Tb) :=
  ⟨pe_or ha.pe hb.pe, fun Z σ H F α ρ M Φ Ψ Q ok re h k kx => ha.snd Z σ H F α ρ M _ Ψ _ ok re h (fun v H1 F1 α1 d M1 x1 ok1 r1 h1 => by
    cases d with
    | bl b =>
      cases r1
      dsimp only at h1
      refine ⟨b, rfl, ?_⟩
      cases b with
      | true =>
        rw [if_pos rfl] at h1 ⊢
        exact k _ H1 F1 α1 _ M1 x1 ok1 (.bl true) h1
      | false =>
        rw [if_neg Bool.false_ne_true] at h1 ⊢
        exact hb.snd Z σ H1 F1 α1 ρ M1 Φ Ψ Q ok1 (re.mono x1) h1 (k.mono x1) (kx.mono x1)
    | _ => exact h1.elim) kx⟩
theorem de_not (ha : DE X W a ta Ta) : DE X W (.UnaryOp .Not a pos) (tNotV ta) (dNotV Ta) :=
  ⟨pe_not ha.pe, fun Z σ H F α ρ M Φ Ψ Q ok re h k kx => ha.snd Z σ H F α ρ M _ Ψ _ ok re h (fun v H1 F1 α1 d M1 x1 ok1 r1 h1 => by
    cases d with
    | bl b => cases r1; exact ⟨b, rfl, k _ H1 F1 α1 _ M1 x1 ok1 (.bl _) h1⟩
    | _ => exact h1.elim) kx⟩
def dIf (t : DTT) (Ta Tb : DTE) : DTE := fun ρ M Φ Ψ => t ρ M (fun b M1 => if b = true then Ta ρ M1 Φ Ψ else Tb ρ M1 Φ Ψ) Ψ
theorem de_if (hc : DT X W c tA TA) (ha : DE X W a ta Ta) (hb : DE X W b tb Tb) : DE X W (.IfExp c a b pos) (tIf tA ta tb) (dIf TA Ta Tb) :=
  ⟨pe_ifExp hc.pt ha.pe hb.pe, fun Z σ H F α ρ M Φ Ψ Q ok re h k kx => hc.snd Z σ H F α ρ M _ Ψ _ ok re h (fun b H1 F1 α1 M1 x1 ok1 h1 => by
    cases b with
    | true =>
      rw [if_pos rfl] at h1 ⊢
      exact ha.snd Z σ H1 F1 α1 ρ M1 Φ Ψ Q ok1 (re.mono x1) h1 (k.mono x1) (kx.mono x1)
    | false =>
      rw [if_neg Bool.false_ne_true] at h1 ⊢
      exact hb.snd Z σ H1 F1 α1 ρ M1 Φ Ψ Q ok1 (re.mono x1) h1 (k.mono x1) (kx.mono x1)) kx⟩
end
end DL

set_option Elab.async false
set_option linter.all false
set_option autoImplicit false
set_option maxRecDepth 100000
set_option maxHeartbeats 2000000
/-! # Operators, subscripts, built-in functions over data -/
namespace DL
open PySem PySem.Spec L2
open PyProof.Rows hiding St

/-! ## tuple * int, any int -/
theorem tuple_mulSame (l : Addr) (items : Array Value) (n : Nat) (dd : Option Addr) (sl : Array (Option Value)) (x : Int) (u : Tok) (c0 : (decide (x < -(2 ^ 63)) || decide (x ≥ 2 ^ 63)) = false) (c1 : (items.isEmpty || x == 1) = true) :
    Meets (Builtin.«tuple.__mul__» ⟨[.ref l, .int x u], []⟩) (fun _ R s => s.heap.get? l = some { cls := .type "tuple", dict := dd, data := .seq items n, slots := sl } ∧
      R (.ok (.ret (Value.ref l))) s) :=
  .of_wp fun prog w A R s h => by
    obtain ⟨hp, g, d, tk, os⟩ := s
    obtain ⟨hl, h⟩ := h
    have f1 := AutoSeq1.idx_int
    wp_walk using wpAny_loadPart' hl
    repeat (first
      | (refine wpAny_ite_false (decide_eq_false (by rw [c0]; exact Bool.false_ne_true)) ?_; wp_walk using wpAny_loadPart' hl)
      | (refine wpAny_ite_true (decide_eq_true c1) ?_; wp_walk using wpAny_loadPart' hl))
    exact ⟨_, rfl, h⟩
theorem tuple_mulNil (l : Addr) (items : Array Value) (n : Nat) (dd : Option Addr) (sl : Array (Option Value)) (x : Int) (u : Tok) (c0 : (decide (x < -(2 ^ 63)) || decide (x ≥ 2 ^ 63)) = false) (c1 : (items.isEmpty || x == 1) = false) (c2 : (decide (x ≤ 0) || items.isEmpty) = true) :
    Meets (Builtin.«tuple.__mul__» ⟨[.ref l, .int x u], []⟩) (fun _ R s => s.heap.get? l = some { cls := .type "tuple", dict := dd, data := .seq items n, slots := sl } ∧
      R (.ok (.ret (Value.ref s.heap.objs.size))) { s with heap := s.heap.push { cls := Value.type "tuple", data := Data.seq #[] }, toks := s.toks }) :=
  .of_wp fun prog w A R s h => by
    obtain ⟨hp, g, d, tk, os⟩ := s
    obtain ⟨hl, h⟩ := h
    have f1 := AutoSeq1.idx_int
    wp_walk using wpAny_loadPart' hl
    repeat (first
      | (refine wpAny_ite_false (decide_eq_false (by rw [c0]; exact Bool.false_ne_true)) ?_; wp_walk using wpAny_loadPart' hl)
      | (refine wpAny_ite_false (decide_eq_false (by rw [c1]; exact Bool.false_ne_true)) ?_; wp_walk using wpAny_loadPart' hl)
      | (refine wpAny_ite_true (decide_eq_true c2) ?_; wp_walk using wpAny_loadPart' hl))
    exact ⟨_, rfl, h⟩
def rRepA (K : PySem.W.Frag) : R2 := fun x y H Q => ∃ l k xs, x = .ref l ∧ y = .int k ∧ SqT K H l xs ∧ -1000 ≤ k ∧ k ≤ 1000 ∧ xs.length ≤ 1000 ∧
  (xs = [] ∨ k = 1 → Q (.ref l) H) ∧ (xs ≠ [] → k ≠ 1 → ∀ p, H p = none → Q (.ref p) (upd H p (.tup (List.replicate k.toNat xs).flatten)))
theorem op_repA {X : Cx} : OpR X (binaryOp .Mult) (rRepA X.K) := by
  intro pins s σ H x y v u Q I rx ry h
  obtain ⟨l, k, xs, rfl, rfl, hT, h1, h2, hz, q1, q2⟩ := h
  by_cases hbig : xs ≠ [] ∧ 2 ≤ k
  · exact op_repT pins s σ H _ _ v u Q I rx ry ⟨l, k, xs, rfl, rfl, hT, hbig.1, hbig.2, h2, hz, q2 hbig.1 (by omega)⟩
  · cases rx
    obtain ⟨t, rfl⟩ := ry
    obtain ⟨its, r, ⟨⟨cls, dd, data, sl⟩, ho, hc, n, hd⟩, hs⟩ := I.tuple hT
    simp only at hc hd
    subst hc hd
    have hle : its.length = xs.length := r.length.symm
    have c0 : (decide (k < -(2 ^ 63)) || decide (k ≥ 2 ^ 63)) = false := by
      rw [decide_eq_false (by omega), decide_eq_false (by omega)] <;> rfl
    have emp : its.toArray.isEmpty = its.isEmpty := by cases its <;> rfl
    by_cases hsame : xs = [] ∨ k = 1
    · have c1 : (its.toArray.isEmpty || k == 1) = true := by
        rcases hsame with e | e
        · rw [e] at hle
          rw [emp, List.eq_nil_of_length_eq_zero hle] <;> rfl
        · rw [e]; simp
      refine wpAny_binaryOp_repeat_ref (T := "tuple") (U := "int") (by decide) ⟨_, ho, rfl⟩ (fun s' => typeIs_int s' k t) noFill_tuple_mul F.fills_int_mul F.slot_int_rmul repeat_tuple F.slot_int_index.lookup
        (call_meets F.slot_int_rmul (typeIs_int s k t) F.entry_int_rmul (F.args_int_rmul_2 _ _) (int_rmul_tuple k t l its.toArray n dd sl)
          ⟨ho, rfl, ⟨_, ho, rfl⟩, call_meets F.slot_tuple_mul ⟨_, ho, rfl⟩ F.entry_tuple_mul (F.args_tuple_mul_2 _ _) (tuple_mulSame l its.toArray n dd sl k t c0 c1) ⟨ho, ?_⟩⟩)
      exact ⟨.ref l, H, I, rfl, q1 hsame⟩
    · have hne : xs ≠ [] := fun e => hsame (.inl e)
      have hk : k ≠ 1 := fun e => hsame (.inr e)
      have k0 : k ≤ 0 := by
        have : ¬ 2 ≤ k := fun z => hbig ⟨hne, z⟩
        omega
      have i0 : its.isEmpty = false := by
        cases its with
        | nil => exact absurd (List.eq_nil_of_length_eq_zero hle.symm) hne
        | cons _ _ => rfl
      have c1 : (its.toArray.isEmpty || k == 1) = false := by
        rw [emp, i0, Bool.false_or]
        exact beq_eq_false_iff_ne.mpr hk
      have c2 : (decide (k ≤ 0) || its.toArray.isEmpty) = true := by rw [decide_eq_true k0] <;> rfl
      refine wpAny_binaryOp_repeat_ref (T := "tuple") (U := "int") (by decide) ⟨_, ho, rfl⟩ (fun s' => typeIs_int s' k t) noFill_tuple_mul F.fills_int_mul F.slot_int_rmul repeat_tuple F.slot_int_index.lookup
        (call_meets F.slot_int_rmul (typeIs_int s k t) F.entry_int_rmul (F.args_int_rmul_2 _ _) (int_rmul_tuple k t l its.toArray n dd sl)
          ⟨ho, rfl, ⟨_, ho, rfl⟩, call_meets F.slot_tuple_mul ⟨_, ho, rfl⟩ F.entry_tuple_mul (F.args_tuple_mul_2 _ _) (tuple_mulNil l its.toArray n dd sl k t c0 c1 c2) ⟨ho, ?_⟩⟩)
      have e0 : (List.replicate k.toNat xs).flatten = [] := by
        rw [show k.toNat = 0 by omega]
        rfl
      have q := q2 hne hk s.heap.objs.size (I.hok.fresh (Nat.le_refl _))
      rw [e0] at q
      refine ⟨.ref s.heap.objs.size, _, I.laid (t' := s.toks) (o := .tup []) (fun b ob q => Heap.get?_push_of_some _ q) (Nat.le_refl _) ?_, rfl, q⟩
      exact ⟨by decide, [], .nil, IsTup.new _ _⟩

/-! ## // by any divisor below 2 ^ 9000 -/
def CDivG (_ j : Int) : Prop := j ≠ 0 ∧ j.natAbs.log2 < 9000
theorem op_fdivG {X : Cx} : OpR X (binaryOp .FloorDiv) (rI CDivG fun i j => .int (i.fdiv j)) := opI fun _ _ _ _ _ _ _ hc q => floordiv_int hc.1 q (.inl (PyProof.noPylong_of_log2 hc.2))
/-! ## is True, is False, is None -/
theorem op_isB {X : Cx} : OpR X (compareOp .Is) (fun x y H Q => ∃ a b, x = .bl a ∧ y = .bl b ∧ Q (.bl (a == b)) H) := by
  intro pins s σ H x y v u Q I rx ry h
  obtain ⟨a, b, rfl, rfl, q⟩ := h
  cases rx
  cases ry
  exact is_bool (fin_bl I q rfl)

/-! ## equality of data -/
mutual
def D.py : D → Option PyData
  | .non => some .none
  | .bl b => some (.bool b)
  | .int i => some (.int i)
  | .str x => some (.str x)
  | .tup ds => (D.pyL ds).map .tuple
  | .lst ds => (D.pyL ds).map .list
  | .frl ds => (D.pyL ds).map .list
  | _ => none
def D.pyL : List D → Option (List PyData)
  | [] => some []
  | d :: ds => match D.py d, D.pyL ds with
    | some p, some ps => some (p :: ps)
    | _, _ => none
end
mutual
/-- plain, of at most so many levels, its texts in order -/
def D.fl : Nat → D → Bool
  | _, .non => true
  | _, .bl _ => true
  | _, .int _ => true
  | _, .str x => PyData.strOk x
  | n + 1, .tup ds => D.flL n ds
  | n + 1, .lst ds => D.flL n ds
  | n + 1, .frl ds => D.flL n ds
  | _, _ => false
def D.flL : Nat → List D → Bool
  | _, [] => true
  | n, d :: ds => D.fl n d && D.flL n ds
end
mutual
/-- == of data -/
def D.eqv : D → D → Bool
  | .non, .non => true
  | .bl a, .bl b => a == b
  | .bl a, .int j => (if a then 1 else 0) == j
  | .int i, .bl b => i == (if b then 1 else 0)
  | .int i, .int j => i == j
  | .str x, .str y => x == y
  | .tup xs, .tup ys => D.eqvL xs ys
  | .lst xs, .lst ys => D.eqvL xs ys
  | .frl xs, .lst ys => D.eqvL xs ys
  | .lst xs, .frl ys => D.eqvL xs ys
  | .frl xs, .frl ys => D.eqvL xs ys
  | _, _ => false
def D.eqvL : List D → List D → Bool
  | [], [] => true
  | x :: xs, y :: ys => D.eqv x y && D.eqvL xs ys
  | _, _ => false
end
/-- a cell's list in its place -/
def D.res (M : Ms) : D → D
  | .ptr k => match M[k]? with
    | some (.lst ds) => .lst ds
    | _ => .ptr k
  | d => d
mutual
theorem D.fl_py : ∀ (n : Nat) (d : D), D.fl n d = true → ∃ p, D.py d = some p ∧ p.canLay0 = true ∧ p.depth ≤ n
  | _, .non, _ => ⟨_, rfl, rfl, by simp [PyData.depth]⟩
  | _, .bl b, _ => ⟨_, rfl, rfl, by simp [PyData.depth]⟩
  | _, .int i, _ => ⟨_, rfl, rfl, by simp [PyData.depth]⟩
  | _, .str x, h => ⟨_, rfl, by simpa [PyData.canLay0, D.fl] using h, by simp [PyData.depth]⟩
  | 0, .tup ds, h => by simp [D.fl] at h
  | 0, .lst ds, h => by simp [D.fl] at h
  | 0, .frl ds, h => by simp [D.fl] at h
  | n + 1, .tup ds, h => by
    obtain ⟨ps, e, c, l⟩ := D.flL_py n ds (by simpa [D.fl] using h)
    exact ⟨.tuple ps, by rw [D.py, e]; rfl, by simpa [PyData.canLay0] using c, by simp only [PyData.depth]; omega⟩
  | n + 1, .lst ds, h => by
    obtain ⟨ps, e, c, l⟩ := D.flL_py n ds (by simpa [D.fl] using h)
    exact ⟨.list ps, by rw [D.py, e]; rfl, by simpa [PyData.canLay0] using c, by simp only [PyData.depth]; omega⟩
  | n + 1, .frl ds, h => by
    obtain ⟨ps, e, c, l⟩ := D.flL_py n ds (by simpa [D.fl] using h)
    exact ⟨.list ps, by rw [D.py, e]; rfl, by simpa [PyData.canLay0] using c, by simp only [PyData.depth]; omega⟩
  | _, .dct _ _, h => by simp [D.fl] at h
  | _, .ptr _, h => by simp [D.fl] at h
  | _, .obj _, h => by simp [D.fl] at h
  | _, .ty _, h => by simp [D.fl] at h
  | _, .exn _ _ _ _, h => by simp [D.fl] at h
theorem D.flL_py : ∀ (n : Nat) (ds : List D), D.flL n ds = true → ∃ ps, D.pyL ds = some ps ∧ PyData.canLayAll0 ps = true ∧ PyData.depthAll ps ≤ n
  | _, [], _ => ⟨[], rfl, rfl, by simp [PyData.depthAll]⟩
  | n, d :: ds, h => by
    rw [D.flL, Bool.and_eq_true] at h
    obtain ⟨p, e1, c1, l1⟩ := D.fl_py n d h.1
    obtain ⟨ps, e2, c2, l2⟩ := D.flL_py n ds h.2
    exact ⟨p :: ps, by rw [D.pyL, e1, e2], by rw [PyData.canLayAll0, c1, c2]; rfl, by simp only [PyData.depthAll]; omega⟩
end
mutual
theorem D.eqv_py : ∀ (d e : D) (p q : PyData), D.py d = some p → D.py e = some q → PyData.eqv p q = D.eqv d e
  | d, e, p, q, h, h' => by
    cases d <;> simp only [D.py, Option.some.injEq, Option.map_eq_some_iff, reduceCtorEq] at h <;> cases e <;> simp only [D.py, Option.some.injEq, Option.map_eq_some_iff, reduceCtorEq] at h' <;>
      (try (obtain ⟨ps, h, rfl⟩ := h)) <;> (try (obtain ⟨qs, h', rfl⟩ := h')) <;> (try subst h) <;> (try subst h') <;> simp only [PyData.eqv, D.eqv] <;> (first | rfl | exact D.eqvL_py _ _ _ _ h h')
theorem D.eqvL_py : ∀ (ds es : List D) (ps qs : List PyData), D.pyL ds = some ps → D.pyL es = some qs → PyData.eqvAll ps qs = D.eqvL ds es
  | [], [], ps, qs, h, h' => by cases h; cases h'; simp [PyData.eqvAll, D.eqvL]
  | [], e :: es, ps, qs, h, h' => by
    cases h
    rw [D.pyL] at h'
    split at h' <;> cases h'
    simp [PyData.eqvAll, D.eqvL]
  | d :: ds, [], ps, qs, h, h' => by
    cases h'
    rw [D.pyL] at h
    split at h <;> cases h
    simp [PyData.eqvAll, D.eqvL]
  | d :: ds, e :: es, ps, qs, h, h' => by
    rw [D.pyL] at h h'
    split at h <;> cases h
    split at h' <;> cases h'
    rename_i e1 e2 _ _ _ _ e3 e4
    rw [PyData.eqvAll, D.eqvL, D.eqv_py d e _ _ e1 e3, D.eqvL_py ds es _ _ e2 e4]
end
section
variable {K : PySem.W.Frag} {Z : Zs} {F : Hp} {α : List Addr} {M : Ms} {H : Hp} {v : V} {d : D} {ds : List D}
mutual
theorem Rp.dp (ok : Ok K Z F α M H) : ∀ {v : V} {d : D} {p : PyData}, Rp K F α v d → D.py d = some p → Dp K H v p
  | _, .non, _, r, h => by cases r; cases h; exact .non
  | _, .bl b, _, r, h => by cases r; cases h; exact .bl b
  | _, .int i, _, r, h => by cases r; cases h; exact .int i
  | _, .str x, _, r, h => by cases r; cases h; exact .str x
  | _, .tup ds, _, r, h => by
    cases r with
    | tup q r =>
      simp only [D.py, Option.map_eq_some_iff] at h
      obtain ⟨ps, e, rfl⟩ := h
      exact .tup (DL.Same.sqT ok.le q) (RpL.dp ok r e)
  | _, .lst ds, _, r, h => by
    cases r with
    | lst q r =>
      simp only [D.py, Option.map_eq_some_iff] at h
      obtain ⟨ps, e, rfl⟩ := h
      exact .lst (.of (ok.le _ _ q)) (RpL.dp ok r e)
  | _, .frl ds, _, r, h => by
    cases r with
    | frl q r =>
      simp only [D.py, Option.map_eq_some_iff] at h
      obtain ⟨ps, e, rfl⟩ := h
      exact .lst (ok.le.seq q) (RpL.dp ok r e)
  | _, .dct _ _, _, _, h => by simp [D.py] at h
  | _, .ptr _, _, _, h => by simp [D.py] at h
  | _, .obj _, _, _, h => by simp [D.py] at h
  | _, .ty _, _, _, h => by simp [D.py] at h
  | _, .exn _ _ _ _, _, _, h => by simp [D.py] at h
theorem RpL.dp (ok : Ok K Z F α M H) : ∀ {vs : List V} {ds : List D} {ps : List PyData}, RpL K F α vs ds → D.pyL ds = some ps → DpAll K H vs ps
  | _, [], _, r, h => by cases r; cases h; exact .nil
  | _, d :: ds, _, r, h => by
    cases r with
    | cons r t =>
      rw [D.pyL] at h
      split at h <;> cases h
      rename_i p ps e1 e2
      exact .cons (Rp.dp ok r e1) (RpL.dp ok t e2)
end
theorem Rp.dpr (ok : Ok K Z F α M H) {n : Nat} (r : Rp K F α v d) (h : D.fl n (D.res M d) = true) (hn : n ≤ 64) : ∃ p, D.py (D.res M d) = some p ∧ SeqAt.shaped p = true ∧ Dp K H v p := by
  obtain ⟨p, e, c, l⟩ := D.fl_py n _ h
  refine ⟨p, e, by unfold SeqAt.shaped; rw [c, decide_eq_true (by omega)] <;> rfl, ?_⟩
  cases d with
  | ptr k =>
    unfold D.res at e h
    dsimp only at e h
    cases q : M[k]? with
    | none => rw [q] at h; simp [D.fl] at h
    | some m =>
      rw [q] at h e
      cases m with
      | lst ds =>
        obtain ⟨a, xs, rfl, hx, rl⟩ := Rp.lst? (ds := ds) r ok (by unfold lv; dsimp only; rw [q])
        simp only [D.py, Option.map_eq_some_iff] at e
        obtain ⟨ps, e, rfl⟩ := e
        exact .lst (.of hx) (RpL.dp ok rl e)
      | dct ks ds => simp [D.fl] at h
      | gone => simp [D.fl] at h
  | _ => exact Rp.dp ok r e
end

/-! ## the operators -/
def dAdd : DR2 := fun d e M Φ => match d, e with
  | .int i, .int j => Φ (.int (i + j)) M
  | .str x, .str y => x.length + y.length ≤ sizeLine ∧ Φ (.str (x ++ y)) M
  | .tup xs, .tup ys => xs.length + ys.length ≤ sizeLine ∧ Φ (.tup (xs ++ ys)) M
  | d, e => match lv M d, lv M e with
    | some xs, some ys => xs.length + ys.length ≤ sizeLine ∧ Φ (.lst (xs ++ ys)) M
    | _, _ => False
def rAddA (K : PySem.W.Frag) : R2 := fun x y H Q => (∃ i j, x = .int i ∧ y = .int j ∧ Q (.int (i + j)) H) ∨ (∃ i j, x = .str i ∧ y = .str j ∧ i.length + j.length ≤ sizeLine ∧ Q (.str (i ++ j)) H) ∨ rCatA K x y H Q ∨ rCat x y H Q
theorem op_addA {X : Cx} : OpR X (binaryOp .Add) (rAddA X.K) := OpR.or op_add (OpR.or op_add_str (OpR.or op_catA op_cat))
theorem snd_add {K : PySem.W.Frag} : SndOp K (rAddA K) dAdd := by
  intro Z H F α M Φ Q x y d e ok rx ry h k
  have lists : ∀ {d e : D}, Rp K F α x d → Rp K F α y e → (match lv M d, lv M e with | some xs, some ys => xs.length + ys.length ≤ sizeLine ∧ Φ (.lst (xs ++ ys)) M | _, _ => False) → rCat x y H Q := by
    intro d e rx ry h
    cases e1 : lv M d with
    | none => rw [e1] at h; exact False.elim h
    | some xs =>
      cases e2 : lv M e with
      | none => rw [e1, e2] at h; exact False.elim h
      | some ys =>
        rw [e1, e2] at h
        obtain ⟨a, vs, rfl, ha, ra⟩ := rx.lst? ok e1
        obtain ⟨b, ws, rfl, hb, rb⟩ := ry.lst? ok e2
        exact ⟨a, b, vs, ws, rfl, rfl, ha, hb, by rw [ra.length, rb.length]; exact h.1, fun p hp => new_lst ok (ra.append rb) k h.2 hp⟩
  cases d with
  | int i =>
    cases e with
    | int j =>
      cases rx
      cases ry
      exact .inl ⟨i, j, rfl, rfl, k _ _ _ _ _ _ Ext.refl ok (.int _) h⟩
    | _ => exact False.elim h
  | str i =>
    cases e with
    | str j =>
      cases rx
      cases ry
      exact .inr (.inl ⟨i, j, rfl, rfl, h.1, k _ _ _ _ _ _ Ext.refl ok (.str _) h.2⟩)
    | _ => exact False.elim h
  | tup xs =>
    cases e with
    | tup ys =>
      obtain ⟨a, vs, rfl, ha, ra⟩ := rx.tup? ok
      obtain ⟨b, ws, rfl, hb, rb⟩ := ry.tup? ok
      refine .inr (.inr (.inl ⟨a, b, vs, ws, rfl, rfl, ha, hb, by rw [ra.length, rb.length]; exact h.1, fun e => ?_, fun _ e => ?_, fun _ _ p hp => new_tup ok (ra.append rb) k h.2 hp⟩))
      · have l := ra.length
        rw [e] at l
        have e0 := List.eq_nil_of_length_eq_zero l.symm
        subst e0
        exact k _ _ _ _ _ _ Ext.refl ok ry h.2
      · have l := rb.length
        rw [e] at l
        have e0 := List.eq_nil_of_length_eq_zero l.symm
        subst e0
        have h' : xs.length + ([] : List D).length ≤ sizeLine ∧ Φ (.tup (xs ++ [])) M := h
        rw [List.append_nil] at h'
        exact k _ _ _ _ _ _ Ext.refl ok rx h'.2
    | _ => exact False.elim h
  | lst xs => exact .inr (.inr (.inr (lists rx ry h)))
  | ptr n => exact .inr (.inr (.inr (lists rx ry h)))
  | _ => exact False.elim h
def dInt2 (C : Int → Int → Prop) (g : Int → Int → D) : DR2 := fun d e M Φ => match d, e with
  | .int i, .int j => C i j ∧ Φ (g i j) M
  | _, _ => False
theorem snd_int2 {K : PySem.W.Frag} {C : Int → Int → Prop} {g : Int → Int → Int} : SndOp K (rI C fun i j => .int (g i j)) (dInt2 C fun i j => .int (g i j)) := by
  intro Z H F α M Φ Q x y d e ok rx ry h k
  cases d with
  | int i =>
    cases e with
    | int j =>
      cases rx
      cases ry
      exact ⟨i, j, rfl, rfl, h.1, k _ _ _ _ _ _ Ext.refl ok (.int _) h.2⟩
    | _ => exact False.elim h
  | _ => exact False.elim h
def dSub : DR2 := fun d e M Φ => match d, e with
  | .int i, .int j => Φ (.int (i - j)) M
  | _, _ => False
theorem snd_sub {K : PySem.W.Frag} : SndOp K (rI0 fun i j => .int (i - j)) dSub := by
  intro Z H F α M Φ Q x y d e ok rx ry h k
  cases d with
  | int i =>
    cases e with
    | int j =>
      cases rx
      cases ry
      exact ⟨i, j, rfl, rfl, k _ _ _ _ _ _ Ext.refl ok (.int _) h⟩
    | _ => exact False.elim h
  | _ => exact False.elim h
def dMul : DR2 := fun d e M Φ => match d, e with
  | .int i, .int j => CMulW i j ∧ Φ (.int (i * j)) M
  | .tup xs, .int k => -1000 ≤ k ∧ k ≤ 1000 ∧ xs.length ≤ 1000 ∧ Φ (.tup (List.replicate k.toNat xs).flatten) M
  | d, .int k => match lv M d with
    | some xs => -(2 ^ 63) ≤ k ∧ k < 2 ^ 63 ∧ xs.length * k.toNat ≤ sizeLine ∧ Φ (.lst (List.replicate k.toNat xs).flatten) M
    | none => False
  | _, _ => False
def rMulA (K : PySem.W.Frag) : R2 := fun x y H Q => rI CMulW (fun i j => .int (i * j)) x y H Q ∨ rRepA K x y H Q ∨ rRep x y H Q
theorem op_mulA {X : Cx} : OpR X (binaryOp .Mult) (rMulA X.K) := OpR.or op_mulW (OpR.or op_repA op_rep)
theorem RpL.rep {K : PySem.W.Frag} {F : Hp} {α : List Addr} {vs : List V} {ds : List D} (r : RpL K F α vs ds) : ∀ n : Nat, RpL K F α (List.replicate n vs).flatten (List.replicate n ds).flatten
  | 0 => .nil
  | n + 1 => by
    rw [List.replicate_succ, List.replicate_succ, List.flatten_cons, List.flatten_cons]
    exact r.append (RpL.rep r n)
theorem snd_mul {K : PySem.W.Frag} : SndOp K (rMulA K) dMul := by
  intro Z H F α M Φ Q x y d e ok rx ry h k
  cases e with
  | int j =>
    cases ry
    have lists : ∀ {d : D}, Rp K F α x d → (match lv M d with | some xs => -(2 ^ 63) ≤ j ∧ j < 2 ^ 63 ∧ xs.length * j.toNat ≤ sizeLine ∧ Φ (.lst (List.replicate j.toNat xs).flatten) M | none => False) → rRep x (.int j) H Q := by
      intro d rx h
      cases e1 : lv M d with
      | none => rw [e1] at h; exact False.elim h
      | some xs =>
        rw [e1] at h
        obtain ⟨a, vs, rfl, ha, ra⟩ := rx.lst? ok e1
        exact ⟨a, j, vs, rfl, rfl, ha, h.1, h.2.1, by rw [ra.length]; exact h.2.2.1, fun p hp => new_lst ok (ra.rep _) k h.2.2.2 hp⟩
    cases d with
    | int i =>
      cases rx
      exact .inl ⟨i, j, rfl, rfl, h.1, k _ _ _ _ _ _ Ext.refl ok (.int _) h.2⟩
    | tup xs =>
      obtain ⟨a, vs, rfl, ha, ra⟩ := rx.tup? ok
      obtain ⟨h1, h2, h3, h4⟩ := h
      refine .inr (.inl ⟨a, j, vs, rfl, rfl, ha, h1, h2, by rw [ra.length]; exact h3, fun e => ?_, fun _ _ p hp => new_tup ok (ra.rep _) k h4 hp⟩)
      have es : (List.replicate j.toNat xs).flatten = xs := by
        rcases e with e | e
        · have l := ra.length
          rw [e] at l
          rw [List.eq_nil_of_length_eq_zero l.symm]
          simp
        · rw [e]
          show (List.replicate 1 xs).flatten = xs
          simp
      rw [es] at h4
      exact k _ _ _ _ _ _ Ext.refl ok rx h4
    | lst xs => exact .inr (.inr (lists rx h))
    | ptr n => exact .inr (.inr (lists rx h))
    | _ => exact False.elim h
  | _ => cases d <;> exact False.elim h
def dFdiv : DR2 := dInt2 CDivG fun i j => .int (i.fdiv j)
def dMod : DR2 := dInt2 (fun _ j => j ≠ 0) fun i j => .int (i.fmod j)
def dPow : DR2 := dInt2 CPow fun i j => .int (i ^ j.toNat)
theorem snd_fdiv {K : PySem.W.Frag} : SndOp K (rI CDivG fun i j => .int (i.fdiv j)) dFdiv := snd_int2
theorem snd_mod {K : PySem.W.Frag} : SndOp K (rI (fun _ j => j ≠ 0) fun i j => .int (i.fmod j)) dMod := snd_int2
theorem snd_pow {K : PySem.W.Frag} : SndOp K (rI CPow fun i j => .int (i ^ j.toNat)) dPow := snd_int2
def dNeg : DR1 := fun d M Φ => match d with
  | .int i => Φ (.int (-i)) M
  | _ => False
theorem snd_neg {K : PySem.W.Frag} : SndUn K (rU fun i => .int (-i)) dNeg := by
  intro Z H F α M Φ Q x d ok rx h k
  cases d with
  | int i => cases rx; exact ⟨i, rfl, k _ _ _ _ _ _ Ext.refl ok (.int _) h⟩
  | _ => exact False.elim h
/-- <, <=, >, >= of whole numbers -/
def dCmpI (p : Int → Int → Bool) : DR2 := fun d e M Φ => match d, e with
  | .int i, .int j => Φ (.bl (p i j)) M
  | _, _ => False
theorem snd_cmpI {K : PySem.W.Frag} {p : Int → Int → Bool} : SndOp K (rI0 fun i j => .bl (p i j)) (dCmpI p) := by
  intro Z H F α M Φ Q x y d e ok rx ry h k
  cases d with
  | int i =>
    cases e with
    | int j =>
      cases rx
      cases ry
      exact ⟨i, j, rfl, rfl, k _ _ _ _ _ _ Ext.refl ok (.bl _) h⟩
    | _ => exact False.elim h
  | _ => exact False.elim h
def dLt : DR2 := dCmpI fun i j => decide (i < j)
def dLe : DR2 := dCmpI fun i j => decide (i ≤ j)
def dGt : DR2 := dCmpI fun i j => decide (j < i)
def dGe : DR2 := dCmpI fun i j => decide (j ≤ i)
theorem snd_lt {K : PySem.W.Frag} : SndOp K (rI0 fun i j => .bl (decide (i < j))) dLt := snd_cmpI
theorem snd_le {K : PySem.W.Frag} : SndOp K (rI0 fun i j => .bl (decide (i ≤ j))) dLe := snd_cmpI
theorem snd_gt {K : PySem.W.Frag} : SndOp K (rI0 fun i j => .bl (decide (j < i))) dGt := snd_cmpI
theorem snd_ge {K : PySem.W.Frag} : SndOp K (rI0 fun i j => .bl (decide (j ≤ i))) dGe := snd_cmpI
/-- == and != -/
def dEq : DR2 := fun d e M Φ => D.fl 60 (D.res M d) = true ∧ D.fl 60 (D.res M e) = true ∧ Φ (.bl (D.eqv (D.res M d) (D.res M e))) M
def dNe : DR2 := fun d e M Φ => D.fl 60 (D.res M d) = true ∧ D.fl 60 (D.res M e) = true ∧ Φ (.bl (!D.eqv (D.res M d) (D.res M e))) M
theorem snd_eq {K : PySem.W.Frag} : SndOp K (rEqD K) dEq := by
  intro Z H F α M Φ Q x y d e ok rx ry ⟨h1, h2, h3⟩ k
  obtain ⟨p, ep, sp, rp⟩ := rx.dpr ok h1 (by decide)
  obtain ⟨q, eq, sq, rq⟩ := ry.dpr ok h2 (by decide)
  exact ⟨p, q, rp, rq, sp, sq, by rw [D.eqv_py _ _ _ _ ep eq]; exact k _ _ _ _ _ _ Ext.refl ok (.bl _) h3⟩
theorem snd_ne {K : PySem.W.Frag} : SndOp K (rNeD K) dNe := by
  intro Z H F α M Φ Q x y d e ok rx ry ⟨h1, h2, h3⟩ k
  obtain ⟨p, ep, sp, rp⟩ := rx.dpr ok h1 (by decide)
  obtain ⟨q, eq, sq, rq⟩ := ry.dpr ok h2 (by decide)
  exact ⟨p, q, rp, rq, sp, sq, by rw [D.eqv_py _ _ _ _ ep eq]; exact k _ _ _ _ _ _ Ext.refl ok (.bl _) h3⟩
/-- is None -/
def D.isN : D → Bool
  | .non => true
  | _ => false
theorem Rp.isN {K : PySem.W.Frag} {F : Hp} {α : List Addr} {v : V} {d : D} (r : Rp K F α v d) : decide (v = .non) = D.isN d := by
  cases r <;> first | rfl | exact decide_eq_false (fun z => by cases z)
def dIsN : DR2 := fun d e M Φ => match e with
  | .non => Φ (.bl (D.isN d)) M
  | _ => False
def dIsNot : DR2 := fun d e M Φ => match e with
  | .non => Φ (.bl (!D.isN d)) M
  | _ => False
theorem snd_isN {K : PySem.W.Frag} : SndOp K (fun x y H Q => y = .non ∧ Q (.bl (decide (x = .non))) H) dIsN := by
  intro Z H F α M Φ Q x y d e ok rx ry h k
  cases e with
  | non => cases ry; exact ⟨rfl, by rw [rx.isN]; exact k _ _ _ _ _ _ Ext.refl ok (.bl _) h⟩
  | _ => exact False.elim h
theorem snd_isNot {K : PySem.W.Frag} : SndOp K (fun x y H Q => y = .non ∧ Q (.bl (!decide (x = .non))) H) dIsNot := by
  intro Z H F α M Φ Q x y d e ok rx ry h k
  cases e with
  | non => cases ry; exact ⟨rfl, by rw [rx.isN]; exact k _ _ _ _ _ _ Ext.refl ok (.bl _) h⟩
  | _ => exact False.elim h
/-- is True, is False, of a bool -/
def dIsB : DR2 := fun d e M Φ => match d, e with
  | .bl a, .bl b => Φ (.bl (a == b)) M
  | _, _ => False
theorem snd_isB {K : PySem.W.Frag} : SndOp K (fun x y H Q => ∃ a b, x = .bl a ∧ y = .bl b ∧ Q (.bl (a == b)) H) dIsB := by
  intro Z H F α M Φ Q x y d e ok rx ry h k
  cases d with
  | bl a =>
    cases e with
    | bl b => cases rx; cases ry; exact ⟨a, b, rfl, rfl, k _ _ _ _ _ _ Ext.refl ok (.bl _) h⟩
    | _ => exact False.elim h
  | _ => exact False.elim h
/-- x in t, for whole numbers -/
def dInI (neg : Bool) : DR2 := fun d e M Φ => match d, sq M e with
  | .int i, some xs => ∃ ns : List Int, xs = ns.map D.int ∧ Φ (.bl (if neg then !ns.contains i else ns.contains i)) M
  | _, _ => False
theorem inV_ints (i : Int) : ∀ ns : List Int, inV (.int i) (ns.map V.int) = ns.contains i
  | [] => rfl
  | n :: ns => by
    show (eqV (.int n) (.int i) || inV (.int i) (ns.map V.int)) = _
    rw [inV_ints i ns, List.contains_cons]
    congr 1
    show (n == i) = (i == n)
    rw [Bool.eq_iff_iff]
    simp only [beq_iff_eq]
    exact eq_comm
theorem snd_inI {K : PySem.W.Frag} {neg : Bool} : SndOp K (rIn K neg) (dInI neg) := by
  intro Z H F α M Φ Q x y d e ok rx ry h k
  unfold dInI at h
  cases d with
  | int i =>
    cases rx
    cases q : sq M e with
    | none => rw [q] at h; exact False.elim h
    | some xs =>
      rw [q] at h
      obtain ⟨ns, rfl, h⟩ := h
      obtain ⟨a, vs, rfl, ha, ra⟩ := ry.sq? ok q
      have e := ra.ints
      subst e
      refine ⟨a, _, rfl, ha, rfl, ?_, ?_⟩
      · rw [List.all_map]
        exact List.all_eq_true.mpr fun _ _ => rfl
      · rw [inV_ints]
        exact k _ _ _ _ _ _ Ext.refl ok (.bl _) h
  | _ => exact False.elim h

/-! ## subscripts, slices -/
def dIx : DR2 := fun d e M Φ => match d, e with
  | .str z, .int i => z.length ≤ sizeLine ∧ match atI z.cps.toList i with
    | some c => Φ (.str ⟨#[c]⟩) M
    | none => False
  | d, .int i => match sq M d with
    | some xs => match atI xs i with
      | some y => Φ y M
      | none => False
    | none => False
  | _, _ => False
theorem RpL.atI {K : PySem.W.Frag} {F : Hp} {α : List Addr} {vs : List V} {ds : List D} {i : Int} {d : D} (r : RpL K F α vs ds) (e : L2.atI ds i = some d) : ∃ v, L2.atI vs i = some v ∧ Rp K F α v d := by
  unfold L2.atI at e ⊢
  rw [← r.length] at e
  cases q : ixN vs.length i with
  | none => rw [q] at e; cases e
  | some j =>
    rw [q] at e
    exact r.get e
theorem snd_ix {K : PySem.W.Frag} : SndOp K (rIx K) dIx := by
  intro Z H F α M Φ Q x y d e ok rx ry h k
  cases e with
  | int i =>
    cases ry
    have seqs : ∀ {d : D}, Rp K F α x d → (match sq M d with | some xs => (match L2.atI xs i with | some y => Φ y M | none => False) | none => False) → rIx K x (.int i) H Q := by
      intro d rx h
      cases e1 : sq M d with
      | none => rw [e1] at h; exact False.elim h
      | some xs =>
        rw [e1] at h
        dsimp only at h
        cases e2 : L2.atI xs i with
        | none => rw [e2] at h; exact False.elim h
        | some z =>
          rw [e2] at h
          obtain ⟨a, vs, rfl, ha, ra⟩ := rx.sq? ok e1
          obtain ⟨v, ev, rv⟩ := ra.atI e2
          have fin := k _ _ _ _ _ _ Ext.refl ok rv h
          rcases ha with ha | ha
          · exact .inl ⟨a, vs, i, v, rfl, rfl, ha, ev, fin⟩
          · exact .inr (.inl ⟨a, vs, i, v, rfl, rfl, ha, ev, fin⟩)
    cases d with
    | str z =>
      cases rx
      obtain ⟨h1, h2⟩ := h
      cases e2 : L2.atI z.cps.toList i with
      | none => rw [e2] at h2; exact False.elim h2
      | some c =>
        rw [e2] at h2
        exact .inr (.inr ⟨z, i, c, rfl, rfl, h1, e2, k _ _ _ _ _ _ Ext.refl ok (.str _) h2⟩)
    | tup _ => exact seqs rx h
    | lst _ => exact seqs rx h
    | frl _ => exact seqs rx h
    | ptr _ => exact seqs rx h
    | _ => exact False.elim h
  | _ => cases d <;> exact False.elim h
section
variable {X : Cx} {W : WX} {a b : Expr} {pos : Pos} {ta tb : TE} {Ta Tb : DTE}
theorem de_ix (ha : DE X W a ta Ta) (hb : DE X W b tb Tb) (hs : PlainIx b := by exact fun _ _ => rfl) : DE X W (.Subscript a b pos) (tOp (rIx X.K) ta tb) (dOp dIx Ta Tb) :=
  ⟨pe_ix ix_seq ha.pe hb.pe hs, snd_op snd_ix ha.snd hb.snd⟩
/-- a slice's parts -/
abbrev DTO := Rho → Ms → (Option Int → Ms → Prop) → DX → Prop
def SndO (K : PySem.W.Frag) (W : WX) (t : TO) (T : DTO) : Prop := ∀ Z σ H F α ρ M Φ Ψ Q, Ok K Z F α M H → RpE K F α ρ σ → T ρ M Φ Ψ → (∀ o H' F' α' M', Ext F α F' α' → Ok K Z F' α' M' H' → Φ o M' → Q o H') → KX K Z F α W σ Ψ → t σ H Q
structure DO (X : Cx) (W : WX) (e : Option Expr) (t : TO) (T : DTO) : Prop where
  po : PO X e t
  snd : SndO X.K W t T
def dNoPart : DTO := fun _ M Φ _ => Φ none M
def dPart (T : DTE) : DTO := fun ρ M Φ Ψ => T ρ M (fun d M1 => match d with
  | .int i => Φ (some i) M1
  | _ => False) Ψ
theorem do_none : DO X W none tNoPart dNoPart := ⟨po_none, fun Z σ H F α ρ M Φ Ψ Q ok re h k _ => k none H F α M Ext.refl ok h⟩
theorem do_some (ha : DE X W a ta Ta) : DO X W (some a) (tPart ta) (dPart Ta) := ⟨po_some ha.pe, fun Z σ H F α ρ M Φ Ψ Q ok re h k kx =>
  ha.snd Z σ H F α ρ M _ Ψ _ ok re h (fun v H1 F1 α1 d M1 x1 ok1 r1 h1 => by
    cases d with
    | int i => cases r1; exact ⟨i, rfl, k (some i) H1 F1 α1 M1 x1 ok1 h1⟩
    | _ => exact False.elim h1) kx⟩
def cutD (xs : List D) (lo hi : Option Int) : List D := (xs.drop (HT.sIx xs.length 0 lo)).take (HT.sIx xs.length xs.length hi - HT.sIx xs.length 0 lo)
theorem RpL.cutD {K : PySem.W.Frag} {F : Hp} {α : List Addr} {vs : List V} {ds : List D} (r : RpL K F α vs ds) (lo hi : Option Int) : RpL K F α (cutV vs lo hi) (DL.cutD ds lo hi) := by
  unfold cutV DL.cutD
  rw [r.length]
  exact (r.drop _).take _
def dSlR : D → Option Int → Option Int → Ms → DK → Prop := fun d lo hi M Φ => match d with
  | .str z => z.length ≤ sizeLine ∧ Φ (.str (cutS z lo hi)) M
  | .tup xs => Φ (.tup (cutD xs lo hi)) M
  | d => match lvf M d with
    | some xs => Φ (.lst (cutD xs lo hi)) M
    | none => False
def rSlX' (K : PySem.W.Frag) : V → Option Int → Option Int → Hp → VK → Prop := fun x lo hi H Q => rSlS x lo hi H Q ∨ rSlA K x lo hi H Q ∨ rSlL K x lo hi H Q
theorem sl_all : SlR X (rSlX' X.K) := SlR.or sl_str (SlR.or sl_tupA sl_list)
def dSl (Te : DTE) (Tl Th : DTO) : DTE := fun ρ M Φ Ψ => Te ρ M (fun d M1 => Tl ρ M1 (fun lo M2 => Th ρ M2 (fun hi M3 => dSlR d lo hi M3 Φ) Ψ) Ψ) Ψ
theorem cutD_whole {xs : List D} {lo hi : Option Int} {n : Nat} (hn : n = xs.length) (h : HT.sIx n 0 lo = 0 ∧ HT.sIx n n hi = n) : cutD xs lo hi = xs := by
  subst hn
  unfold cutD
  rw [h.1, h.2]
  simp
theorem snd_sl {K : PySem.W.Frag} {Z : Zs} {F : Hp} {α : List Addr} {M : Ms} {H : Hp} {Φ : DK} {Q : VK} {v : V} {d : D} {lo hi : Option Int} (ok : Ok K Z F α M H) (r : Rp K F α v d) (h : dSlR d lo hi M Φ) (k : KE K Z F α Φ Q) : rSlX' K v lo hi H Q := by
  have lists : ∀ {d : D}, Rp K F α v d → (match lvf M d with | some xs => Φ (.lst (cutD xs lo hi)) M | none => False) → rSlX' K v lo hi H Q := by
    intro d r h
    cases e : lvf M d with
    | none => rw [e] at h; exact False.elim h
    | some xs =>
      rw [e] at h
      obtain ⟨a, vs, rfl, ha, ra⟩ := r.lstf? ok e
      exact .inr (.inr ⟨a, vs, rfl, ha, fun p hp => new_lst ok (ra.cutD lo hi) k h hp⟩)
  cases d with
  | str z => cases r; exact .inl ⟨z, rfl, h.1, k _ _ _ _ _ _ Ext.refl ok (.str _) h.2⟩
  | tup xs =>
    obtain ⟨a, vs, rfl, ha, ra⟩ := r.tup? ok
    refine .inr (.inl ⟨a, vs, rfl, ha, fun e => ?_, fun _ p hp => new_tup ok (ra.cutD lo hi) k h hp⟩)
    have h' : Φ (.tup (cutD xs lo hi)) M := h
    rw [cutD_whole ra.length e] at h'
    exact k _ _ _ _ _ _ Ext.refl ok r h'
  | lst _ => exact lists r h
  | frl _ => exact lists r h
  | ptr _ => exact lists r h
  | _ => exact False.elim h
theorem de_slice {lo hi : Option Expr} {tl th : TO} {Tl Th : DTO} {p2 : Pos} (ha : DE X W a ta Ta) (hl : DO X W lo tl Tl) (hu : DO X W hi th Th) : DE X W (.Subscript a (.Slice lo hi none p2) pos) (tSl (rSlX' X.K) ta tl th) (dSl Ta Tl Th) :=
  ⟨pe_slice sl_all ha.pe hl.po hu.po, fun Z σ H F α ρ M Φ Ψ Q ok re h k kx =>
    ha.snd Z σ H F α ρ M _ Ψ _ ok re h (fun v H1 F1 α1 d M1 x1 ok1 r1 h1 => hl.snd Z σ H1 F1 α1 ρ M1 _ Ψ _ ok1 (re.mono x1) h1 (fun lo H2 F2 α2 M2 x2 ok2 h2 =>
      hu.snd Z σ H2 F2 α2 ρ M2 _ Ψ _ ok2 (re.mono (x1.trans x2)) h2 (fun hi H3 F3 α3 M3 x3 ok3 h3 => snd_sl ok3 (r1.mono (x2.trans x3)) h3 (k.mono (x1.trans (x2.trans x3)))) (kx.mono (x1.trans x2))) (kx.mono x1)) kx⟩
end

/-! ## built-in functions -/
def dLen : DRL := fun ds M Φ => match ds with
  | [.str x] => x.length ≤ sizeLine ∧ Φ (.int x.length) M
  | [d] => match sq M d with
    | some xs => Φ (.int xs.length) M
    | none => False
  | _ => False
def rLenA (K : PySem.W.Frag) : List V → Hp → VK → Prop := fun xs H Q => (∃ z, xs = [.str z] ∧ z.length ≤ sizeLine ∧ Q (.int z.length) H) ∨ (∃ p ys, xs = [.ref p] ∧ (SqL K H p ys ∨ SqT K H p ys) ∧ Q (.int ys.length) H)
theorem call_lenA {X : Cx} : CallR X (.builtin "len") (rLenA X.K) := CallR.or call_len_str call_len_seq
theorem snd_len {K : PySem.W.Frag} : SndC K (rLenA K) dLen := by
  intro Z H F α M Φ Q vs ds ok r h k
  cases r with
  | nil => exact False.elim h
  | cons r t =>
    rename_i v vs d ds
    cases t with
    | nil =>
      have seqs : ∀ {d : D}, Rp K F α v d → (match sq M d with | some xs => Φ (.int xs.length) M | none => False) → rLenA K [v] H Q := by
        intro d r h
        cases e : sq M d with
        | none => rw [e] at h; exact False.elim h
        | some xs =>
          rw [e] at h
          obtain ⟨a, vs, rfl, ha, ra⟩ := r.sq? ok e
          exact .inr ⟨a, vs, rfl, ha, by rw [ra.length]; exact k _ _ _ _ _ _ Ext.refl ok (.int _) h⟩
      cases d with
      | str x => cases r; exact .inl ⟨x, rfl, h.1, k _ _ _ _ _ _ Ext.refl ok (.int _) h.2⟩
      | tup _ => exact seqs r h
      | lst _ => exact seqs r h
      | frl _ => exact seqs r h
      | ptr _ => exact seqs r h
      | _ => exact False.elim h
    | cons _ _ => cases d <;> exact False.elim h
def dAbs : DRL := fun ds M Φ => match ds with
  | [.int i] => Φ (.int (if i < 0 then -i else i)) M
  | _ => False
theorem snd_abs {K : PySem.W.Frag} : SndC K (fun xs H Q => ∃ i, xs = [.int i] ∧ Q (.int (if i < 0 then -i else i)) H) dAbs := by
  intro Z H F α M Φ Q vs ds ok r h k
  unfold dAbs at h
  split at h
  · cases r with
    | cons r t => cases r; cases t; exact ⟨_, rfl, k _ _ _ _ _ _ Ext.refl ok (.int _) h⟩
  · exact False.elim h
def dInts2 (g : Int → Int → Int) : DRL := fun ds M Φ => match ds with
  | [.int i, .int j] => Φ (.int (g i j)) M
  | _ => False
theorem snd_ints2 {K : PySem.W.Frag} {g : Int → Int → Int} : SndC K (fun xs H Q => ∃ i j, xs = [.int i, .int j] ∧ Q (.int (g i j)) H) (dInts2 g) := by
  intro Z H F α M Φ Q vs ds ok r h k
  unfold dInts2 at h
  split at h
  · cases r with
    | cons r t => cases r; cases t with
      | cons r t => cases r; cases t; exact ⟨_, _, rfl, k _ _ _ _ _ _ Ext.refl ok (.int _) h⟩
  · exact False.elim h
def dMax2 : DRL := dInts2 fun i j => if j > i then j else i
def dMin2 : DRL := dInts2 fun i j => if j < i then j else i
def dGcd : DRL := dInts2 fun i j => ((Nat.gcd i.natAbs j.natAbs : Nat) : Int)
theorem snd_max2 {K : PySem.W.Frag} : SndC K (fun xs H Q => ∃ i j, xs = [.int i, .int j] ∧ Q (.int (if j > i then j else i)) H) dMax2 := snd_ints2
theorem snd_min2 {K : PySem.W.Frag} : SndC K (fun xs H Q => ∃ i j, xs = [.int i, .int j] ∧ Q (.int (if j < i then j else i)) H) dMin2 := snd_ints2
theorem snd_gcd {K : PySem.W.Frag} : SndC K rGcd dGcd := snd_ints2
def dInt : DRL := fun ds M Φ => match ds with
  | [.int i] => Φ (.int i) M
  | [.bl b] => Φ (.int (if b then 1 else 0)) M
  | _ => False
theorem snd_toInt {K : PySem.W.Frag} : SndC K (fun xs H Q => (∃ i, xs = [.int i] ∧ Q (.int i) H) ∨ ∃ k, xs = [.bl k] ∧ Q (.int (if k then 1 else 0)) H) dInt := by
  intro Z H F α M Φ Q vs ds ok r h k
  unfold dInt at h
  split at h
  · cases r with
    | cons r t => cases r; cases t; exact .inl ⟨_, rfl, k _ _ _ _ _ _ Ext.refl ok (.int _) h⟩
  · cases r with
    | cons r t => cases r; cases t; exact .inr ⟨_, rfl, k _ _ _ _ _ _ Ext.refl ok (.int _) h⟩
  · exact False.elim h
def dSum : DRL := fun ds M Φ => match ds with
  | [d] => ∃ ns : List Int, lvf M d = some (ns.map D.int) ∧ Φ (.int ns.sum) M
  | _ => False
theorem snd_sum {K : PySem.W.Frag} : SndC K (rSum K) dSum := by
  intro Z H F α M Φ Q vs ds ok r h k
  unfold dSum at h
  split at h
  · cases r with
    | cons r t =>
      cases t
      obtain ⟨ns, e, h⟩ := h
      obtain ⟨a, xs, rfl, ha, ra⟩ := r.lstf? ok e
      have e := ra.ints
      subst e
      exact ⟨a, ns, rfl, ha, k _ _ _ _ _ _ Ext.refl ok (.int _) h⟩
  · exact False.elim h
def dAll : DRL := fun ds M Φ => match ds with
  | [d] => ∃ bs : List Bool, lvf M d = some (bs.map D.bl) ∧ Φ (.bl (bs.all id)) M
  | _ => False
def dAny : DRL := fun ds M Φ => match ds with
  | [d] => ∃ bs : List Bool, lvf M d = some (bs.map D.bl) ∧ Φ (.bl (bs.any id)) M
  | _ => False
theorem snd_all {K : PySem.W.Frag} : SndC K (rAll K) dAll := by
  intro Z H F α M Φ Q vs ds ok r h k
  unfold dAll at h
  split at h
  · cases r with
    | cons r t =>
      cases t
      obtain ⟨ns, e, h⟩ := h
      obtain ⟨a, xs, rfl, ha, ra⟩ := r.lstf? ok e
      have e := ra.bls
      subst e
      exact ⟨a, ns, rfl, ha, k _ _ _ _ _ _ Ext.refl ok (.bl _) h⟩
  · exact False.elim h
theorem snd_any {K : PySem.W.Frag} : SndC K (rAny K) dAny := by
  intro Z H F α M Φ Q vs ds ok r h k
  unfold dAny at h
  split at h
  · cases r with
    | cons r t =>
      cases t
      obtain ⟨ns, e, h⟩ := h
      obtain ⟨a, xs, rfl, ha, ra⟩ := r.lstf? ok e
      have e := ra.bls
      subst e
      exact ⟨a, ns, rfl, ha, k _ _ _ _ _ _ Ext.refl ok (.bl _) h⟩
  · exact False.elim h
/-- tuple(x), list(x) of a list or a tuple -/
def dTupOf : DRL := fun ds M Φ => match ds with
  | [d] => match sq M d with
    | some xs => Φ (.tup xs) M
    | none => False
  | _ => False
def dLstOf : DRL := fun ds M Φ => match ds with
  | [d] => match sq M d with
    | some xs => Φ (.lst xs) M
    | none => False
  | _ => False
def dLstOfM : DRL := fun ds M Φ => match ds with
  | [d] => match sq M d with
    | some xs => Φ (.ptr M.length) (M ++ [.lst xs])
    | none => False
  | _ => False
theorem sq_tup {M : Ms} {d : D} {xs : List D} (h : sq M d = some xs) : d = .tup xs ∨ lvf M d = some xs := by
  cases d with
  | tup _ => cases h; exact .inl rfl
  | lst _ => cases h; exact .inr rfl
  | frl _ => cases h; exact .inr rfl
  | ptr n => exact .inr h
  | _ => cases h
theorem snd_tupOf {K : PySem.W.Frag} : SndC K (fun xs H Q => ∃ p ys, xs = [.ref p] ∧ ((SqL K H p ys ∧ ∀ l, H l = none → Q (.ref l) (upd H l (.tup ys))) ∨ (SqT K H p ys ∧ Q (.ref p) H))) dTupOf := by
  intro Z H F α M Φ Q vs ds ok r h k
  unfold dTupOf at h
  split at h
  · cases r with
    | cons r t =>
      rename_i d _ _
      cases t
      cases e : sq M d with
      | none => rw [e] at h; exact False.elim h
      | some xs =>
        rw [e] at h
        rcases sq_tup e with rfl | e
        · obtain ⟨a, vs, rfl, ha, ra⟩ := r.tup? ok
          exact ⟨a, vs, rfl, .inr ⟨ha, k _ _ _ _ _ _ Ext.refl ok r h⟩⟩
        · obtain ⟨a, vs, rfl, ha, ra⟩ := r.lstf? ok e
          exact ⟨a, vs, rfl, .inl ⟨ha, fun p hp => new_tup ok ra k h hp⟩⟩
  · exact False.elim h
theorem snd_lstOf {K : PySem.W.Frag} : SndC K (fun xs H Q => ∃ p ys, xs = [.ref p] ∧ (SqL K H p ys ∨ SqT K H p ys) ∧ ∀ l, H l = none → Q (.ref l) (upd H l (.lst ys))) dLstOf := by
  intro Z H F α M Φ Q vs ds ok r h k
  unfold dLstOf at h
  split at h
  · cases r with
    | cons r t =>
      rename_i d _ _
      cases t
      cases e : sq M d with
      | none => rw [e] at h; exact False.elim h
      | some xs =>
        rw [e] at h
        obtain ⟨a, vs, rfl, ha, ra⟩ := r.sq? ok e
        exact ⟨a, vs, rfl, ha, fun p hp => new_lst ok ra k h hp⟩
  · exact False.elim h
theorem snd_lstOfM {K : PySem.W.Frag} : SndC K (fun xs H Q => ∃ p ys, xs = [.ref p] ∧ (SqL K H p ys ∨ SqT K H p ys) ∧ ∀ l, H l = none → Q (.ref l) (upd H l (.lst ys))) dLstOfM := by
  intro Z H F α M Φ Q vs ds ok r h k
  unfold dLstOfM at h
  split at h
  · cases r with
    | cons r t =>
      rename_i d _ _
      cases t
      cases e : sq M d with
      | none => rw [e] at h; exact False.elim h
      | some xs =>
        rw [e] at h
        obtain ⟨a, vs, rfl, ha, ra⟩ := r.sq? ok e
        exact ⟨a, vs, rfl, ha, fun p hp => new_lstM ok ra k h hp⟩
  · exact False.elim h
/-! ### isinstance -/
def D.tyn (M : Ms) : D → Option String
  | .non => some "NoneType"
  | .bl _ => some "bool"
  | .int _ => some "int"
  | .str _ => some "str"
  | .tup _ => some "tuple"
  | .lst _ => some "list"
  | .frl _ => some "list"
  | .dct _ _ => some "dict"
  | .ptr k => match M[k]? with
    | some (.lst _) => some "list"
    | some (.dct _ _) => some "dict"
    | _ => none
  | _ => none
/-- the built-in types that are asked of -/
def isKnown (n : String) : Bool := ["int", "bool", "str", "tuple", "list", "dict"].contains n
def isA (t n : String) : Bool := t == n || (t == "bool" && n == "int")
def dIsi : DRL := fun ds M Φ => match ds with
  | [d, .ty n] => isKnown n = true ∧ match D.tyn M d with
    | some t => Φ (.bl (isA t n)) M
    | none => False
  | [d, .tup [.ty n, .ty m]] => isKnown n = true ∧ isKnown m = true ∧ match D.tyn M d with
    | some t => Φ (.bl (isA t n || isA t m)) M
    | none => False
  | _ => False
theorem kitB_ok : ∀ t ∈ ["NoneType", "bool", "int", "str", "tuple", "list", "dict"], ∀ n ∈ ["int", "bool", "str", "tuple", "list", "dict"], kitB t n = some (isA t n) := by decide +kernel
theorem Rp.tyX {K : PySem.W.Frag} {Z : Zs} {F : Hp} {α : List Addr} {M : Ms} {H : Hp} {v : V} {d : D} {t : String} (r : Rp K F α v d) (ok : Ok K Z F α M H) (h : D.tyn M d = some t) : TyX K H v (.type t) ∧ t ∈ ["NoneType", "bool", "int", "str", "tuple", "list", "dict"] := by
  cases r with
  | non => cases h; exact ⟨.base .non, by decide⟩
  | bl b => cases h; exact ⟨.base (.bl b), by decide⟩
  | int i => cases h; exact ⟨.base (.int i), by decide⟩
  | str x => cases h; exact ⟨.base (.str x), by decide⟩
  | tup q r =>
    cases h
    refine ⟨?_, by decide⟩
    rcases DL.Same.sqT ok.le q with (q | ⟨o, q⟩) | ⟨o, its, n, e, c, _⟩
    · exact .base (.tup q)
    · exact .fTuple q
    · exact .kTuple e c
  | lst q r => cases h; exact ⟨.base (.lst (ok.le _ _ q)), by decide⟩
  | frl q r =>
    cases h
    refine ⟨?_, by decide⟩
    rcases ok.le.seq q with (q | ⟨o, q⟩) | ⟨o, its, n, e, c, _⟩
    · exact .base (.lst q)
    · exact .base (.frz q)
    · exact .kList e c
  | dct q e r => cases h; exact ⟨.base (.dK (ok.le _ _ q)), by decide⟩
  | @ptr a k e =>
    unfold D.tyn at h
    dsimp only at h
    cases q : M[k]? with
    | none => rw [q] at h; cases h
    | some m =>
      rw [q] at h
      have rm := ok.mem k a m e q
      cases m with
      | lst ds => cases h; obtain ⟨xs, hx, _⟩ := rm; exact ⟨.base (.lst hx), by decide⟩
      | dct ks ds => cases h; obtain ⟨xs, hx, _⟩ := rm; exact ⟨.base (.dK hx), by decide⟩
      | gone => cases h
  | _ => cases h
def rIsiA (K : PySem.W.Frag) : List V → Hp → VK → Prop := fun xs H Q => rIsi K xs H Q ∨ rIsiT K xs H Q ∨ rIsiK K xs H Q
theorem call_isiA {X : Cx} : CallR X (.builtin "isinstance") (rIsiA X.K) := CallR.or call_isi (CallR.or call_isiT call_isiK)
theorem clsV_ty {n : String} : ClsV (.ty n) (.type n) := by constructor
theorem snd_isi {K : PySem.W.Frag} : SndC K (rIsi K) (fun ds M Φ => match ds with
  | [d, .ty n] => isKnown n = true ∧ match D.tyn M d with
    | some t => Φ (.bl (isA t n)) M
    | none => False
  | _ => False) := by
  intro Z H F α M Φ Q vs ds ok r h k
  split at h
  · rename_i d n
    cases r with
    | cons r t =>
      cases t with
      | cons r2 t2 =>
        cases t2
        cases r2
        obtain ⟨hn, h⟩ := h
        cases e : D.tyn M d with
        | none => rw [e] at h; exact False.elim h
        | some t =>
          rw [e] at h
          obtain ⟨ty, mem⟩ := r.tyX ok e
          exact ⟨_, _, .type t, .type n, isA t n, rfl, clsV_ty, ty, kit_ty (kitB_ok t mem n (List.contains_iff_mem.mp hn)), k _ _ _ _ _ _ Ext.refl ok (.bl _) h⟩
  · exact False.elim h
end DL

set_option Elab.async false
set_option linter.all false
set_option autoImplicit false
set_option maxRecDepth 100000
set_option maxHeartbeats 2000000
/-! # Statements, targets, loops, comprehensions over data -/
namespace DL
open PySem PySem.Spec L2
open PyProof.Rows hiding St

/-! ## targets -/
abbrev DTG := D → Rho → Ms → (Rho → Ms → Prop) → Prop
abbrev DTGs := List D → Rho → Ms → (Rho → Ms → Prop) → Prop
def Ag (ts : List Nat) (σ σ' : L2.St) : Prop := σ'.length = σ.length ∧ ∀ j, j ∉ ts → σ'[j]? = σ[j]?
theorem Ag.refl {ts : List Nat} {σ : L2.St} : Ag ts σ σ := ⟨rfl, fun _ _ => rfl⟩
theorem Ag.trans {ts us : List Nat} {σ σ' σ'' : L2.St} (a : Ag ts σ σ') (b : Ag us σ' σ'') : Ag (ts ++ us) σ σ'' :=
  ⟨b.1.trans a.1, fun j hj => (b.2 j fun z => hj (List.mem_append_right _ z)).trans (a.2 j fun z => hj (List.mem_append_left _ z))⟩
theorem wipe_get {σ : L2.St} {j : Nat} : ∀ {vs : List Nat}, (L2.wipe σ vs)[j]? = if j ∈ vs ∧ j < σ.length then some none else σ[j]?
  | [] => by simp [L2.wipe]
  | v :: vs => by
    have ih := wipe_get (σ := σ) (j := j) (vs := vs)
    show ((L2.wipe σ vs).set v none)[j]? = _
    by_cases hv : v = j
    · subst hv
      by_cases hl : v < σ.length
      · rw [List.getElem?_set_self (by rw [L2.wipe_length]; exact hl), if_pos ⟨List.mem_cons_self, hl⟩]
      · rw [List.getElem?_eq_none (by rw [List.length_set, L2.wipe_length]; omega), if_neg (by omega), List.getElem?_eq_none (by omega)]
    · rw [List.getElem?_set_ne hv, ih]
      have : (j ∈ v :: vs ∧ j < σ.length) ↔ (j ∈ vs ∧ j < σ.length) := by
        rw [List.mem_cons]
        exact ⟨fun ⟨a, b⟩ => ⟨a.resolve_left (fun z => hv z.symm), b⟩, fun ⟨a, b⟩ => ⟨.inr a, b⟩⟩
      simp only [this]
theorem Ag.wipe {ts vs : List Nat} {σ σ' : L2.St} (a : Ag ts σ σ') (h : ∀ i ∈ ts, i ∈ vs) : L2.wipe σ' vs = L2.wipe σ vs := by
  apply List.ext_getElem?
  intro j
  rw [wipe_get, wipe_get, a.1]
  by_cases hj : j ∈ vs ∧ j < σ.length
  · rw [if_pos hj, if_pos hj]
  · rw [if_neg hj, if_neg hj]
    by_cases ht : j ∈ ts
    · have : ¬ j < σ.length := fun z => hj ⟨h j ht, z⟩
      have e1 := a.1
      rw [List.getElem?_eq_none (l := σ') (by omega), List.getElem?_eq_none (l := σ) (by omega)]
    · exact a.2 j ht
def SndG (K : PySem.W.Frag) (ts : List Nat) (g : TG) (G : DTG) : Prop := ∀ Z σ H F α ρ M v d Ξ R, Ok K Z F α M H → RpE K F α ρ σ → Rp K F α v d → G d ρ M Ξ →
  (∀ σ' H' F' α' ρ' M', Ext F α F' α' → Ok K Z F' α' M' H' → RpE K F' α' ρ' σ' → Ag ts σ σ' → Ξ ρ' M' → R σ' H') → g v σ H R
def SndGs (K : PySem.W.Frag) (ts : List Nat) (g : TGs) (G : DTGs) : Prop := ∀ Z σ H F α ρ M vs ds Ξ R, Ok K Z F α M H → RpE K F α ρ σ → RpL K F α vs ds → G ds ρ M Ξ →
  (∀ σ' H' F' α' ρ' M', Ext F α F' α' → Ok K Z F' α' M' H' → RpE K F' α' ρ' σ' → Ag ts σ σ' → Ξ ρ' M' → R σ' H') → g vs σ H R
structure DG (X : Cx) (tg : Expr) (ts : List Nat) (g : TG) (G : DTG) : Prop where
  pg : PG X tg g
  snd : SndG X.K ts g G
structure DGs (X : Cx) (tg : List Expr) (ts : List Nat) (g : TGs) (G : DTGs) : Prop where
  pg : PGs X tg g
  snd : SndGs X.K ts g G
def dgName (i : Nat) : DTG := fun d ρ M Ξ => Ξ (ρ.set i (some d)) M
theorem snd_gName {K : PySem.W.Frag} (i : Nat) : SndG K [i] (gName i) (dgName i) := fun Z σ H F α ρ M v d Ξ R ok re r h k =>
  k _ _ _ _ _ _ Ext.refl ok (re.set r) ⟨List.length_set, fun j hj => List.getElem?_set_ne (fun z => hj (by simp [z]))⟩ h
section
variable {X : Cx} {W : WX} {pos : Pos}
theorem dg_name {i : Nat} {x : Str} (hN : X.N.Nodup) (hi : X.N[i]? = some x := by rfl) (hx : Loc X.env.scope x := by first | exact Or.inl rfl | exact Or.inr rfl) (hf : X.fn x = true ∨ X.env.scope.names.lookup x = some .local := by first | exact .inl rfl | exact .inr rfl | assumption) : DG X (.Name x pos) [i] (gName i) (dgName i) :=
  ⟨pg_name hN hi hx hf, snd_gName i⟩
def dgNil : DTGs := fun ds ρ M Ξ => match ds with
  | [] => Ξ ρ M
  | _ => False
def dgCons (G : DTG) (Gs : DTGs) : DTGs := fun ds ρ M Ξ => match ds with
  | d :: r => G d ρ M (fun ρ' M' => Gs r ρ' M' Ξ)
  | _ => False
theorem dgs_nil : DGs X [] [] gNil dgNil := ⟨pgs_nil, fun Z σ H F α ρ M vs ds Ξ R ok re r h k => by
  cases r with
  | nil => exact ⟨rfl, k _ _ _ _ _ _ Ext.refl ok re Ag.refl h⟩
  | cons _ _ => exact False.elim h⟩
theorem dgs_cons {e : Expr} {es : List Expr} {ts us : List Nat} {g : TG} {G : DTG} {gs : TGs} {Gs : DTGs} (h1 : DG X e ts g G) (h2 : DGs X es us gs Gs)
    (hs : (assignEach (e :: es) X.env).map (·.2) = assign e X.env :: (assignEach es X.env).map (·.2) := by rfl) : DGs X (e :: es) (ts ++ us) (gCons g gs) (dgCons G Gs) :=
  ⟨pgs_cons h1.pg h2.pg hs, fun Z σ H F α ρ M vs ds Ξ R ok re r h k => by
    cases r with
    | nil => exact False.elim h
    | cons r t =>
      refine ⟨_, _, rfl, h1.snd Z σ H F α ρ M _ _ _ _ ok re r h fun σ' H' F' α' ρ' M' x ok' re' ag h' => ?_⟩
      exact h2.snd Z σ' H' F' α' ρ' M' _ _ _ _ ok' re' (t.mono x) h' fun σ2 H2 F2 α2 ρ2 M2 x2 ok2 re2 ag2 h2 => k _ _ _ _ _ _ (x.trans x2) ok2 re2 (ag.trans ag2) h2⟩
/-- a, b, .. = a tuple -/
def dgTup (Gs : DTGs) : DTG := fun d ρ M Ξ => match d with
  | .tup ds => Gs ds ρ M Ξ
  | _ => False
theorem dgTup_len {Gs : DTGs} {n : Nat} (h : ∀ ds ρ M Ξ, Gs ds ρ M Ξ → ds.length = n) {ds : List D} {ρ : Rho} {M : Ms} {Ξ : Rho → Ms → Prop} (q : Gs ds ρ M Ξ) : ds.length = n := h ds ρ M Ξ q
theorem dg_tup {es : List Expr} {k n : Nat} {ts : List Nat} {gs : TGs} {Gs : DTGs} (hc : X.calm = true) (h : DGs X es ts gs Gs) (hl : ∀ ds ρ M Ξ, Gs ds ρ M Ξ → ds.length = n)
    (hn : (assignEach es X.env).length = n := by rfl) (hst : (assignEach es X.env).findIdx? (·.1) = none := by rfl) : DG X (.Tuple es k pos) ts (gTup X.K n gs) (dgTup Gs) :=
  ⟨pg_tup hc h.pg hn hst, fun Z σ H F α ρ M v d Ξ R ok re r hh k => by
    cases d with
    | tup ds =>
      obtain ⟨a, xs, rfl, ha, ra⟩ := r.tup? ok
      exact ⟨a, xs, rfl, ha, by rw [ra.length]; exact hl ds ρ M Ξ hh, h.snd Z σ H F α ρ M _ _ _ _ ok re ra hh k⟩
    | _ => exact False.elim hh⟩
theorem len_nil {ds : List D} {ρ : Rho} {M : Ms} {Ξ : Rho → Ms → Prop} (h : dgNil ds ρ M Ξ) : ds.length = 0 := by
  cases ds with
  | nil => rfl
  | cons _ _ => exact False.elim h
theorem len_cons {G : DTG} {Gs : DTGs} {n : Nat} (hs : ∀ ds ρ M Ξ, Gs ds ρ M Ξ → ds.length = n) {ds : List D} {ρ : Rho} {M : Ms} {Ξ : Rho → Ms → Prop} (i : Nat) (e : G = dgName i) (h : dgCons G Gs ds ρ M Ξ) : ds.length = n + 1 := by
  cases ds with
  | nil => exact False.elim h
  | cons d r =>
    subst e
    have h' : Gs r (ρ.set i (some d)) M Ξ := h
    rw [List.length_cons, hs _ _ _ _ h']
/-- the tuple of two, of three names -/
theorem dg_two {a b : Expr} {k i j : Nat} {g g' : TG} (hc : X.calm = true) (h1 : DG X a [i] g (dgName i)) (h2 : DG X b [j] g' (dgName j))
    (hs1 : (assignEach [a, b] X.env).map (·.2) = assign a X.env :: (assignEach [b] X.env).map (·.2) := by rfl) (hs2 : (assignEach [b] X.env).map (·.2) = assign b X.env :: (assignEach [] X.env).map (·.2) := by rfl)
    (hn : (assignEach [a, b] X.env).length = 2 := by rfl) (hst : (assignEach [a, b] X.env).findIdx? (·.1) = none := by rfl) :
    DG X (.Tuple [a, b] k pos) [i, j] (gTup X.K 2 (gCons g (gCons g' gNil))) (dgTup (dgCons (dgName i) (dgCons (dgName j) dgNil))) :=
  dg_tup hc (dgs_cons h1 (dgs_cons h2 dgs_nil hs2) hs1) (fun ds ρ M Ξ h => len_cons (fun ds ρ M Ξ h => len_cons (fun _ _ _ _ => len_nil) j rfl h) i rfl h) hn hst
theorem dg_three {a b c : Expr} {k i j l : Nat} {g g' g'' : TG} (hc : X.calm = true) (h1 : DG X a [i] g (dgName i)) (h2 : DG X b [j] g' (dgName j)) (h3 : DG X c [l] g'' (dgName l))
    (hs1 : (assignEach [a, b, c] X.env).map (·.2) = assign a X.env :: (assignEach [b, c] X.env).map (·.2) := by rfl) (hs2 : (assignEach [b, c] X.env).map (·.2) = assign b X.env :: (assignEach [c] X.env).map (·.2) := by rfl)
    (hs3 : (assignEach [c] X.env).map (·.2) = assign c X.env :: (assignEach [] X.env).map (·.2) := by rfl)
    (hn : (assignEach [a, b, c] X.env).length = 3 := by rfl) (hst : (assignEach [a, b, c] X.env).findIdx? (·.1) = none := by rfl) :
    DG X (.Tuple [a, b, c] k pos) [i, j, l] (gTup X.K 3 (gCons g (gCons g' (gCons g'' gNil)))) (dgTup (dgCons (dgName i) (dgCons (dgName j) (dgCons (dgName l) dgNil)))) :=
  dg_tup hc (dgs_cons h1 (dgs_cons h2 (dgs_cons h3 dgs_nil hs3) hs2) hs1) (fun ds ρ M Ξ h => len_cons (fun ds ρ M Ξ h => len_cons (fun ds ρ M Ξ h => len_cons (fun _ _ _ _ => len_nil) l rfl h) j rfl h) i rfl h) hn hst
/-- o[i] = .., o a cell's list -/
def dgSub (To Ti : DTE) : DTG := fun d ρ M Ξ => To ρ M (fun o M1 => Ti ρ M1 (fun i M2 => match o, i with
  | .ptr k, .int z => match M2[k]? with
    | some (.lst ds) => match ixN ds.length z with
      | some j => Ξ ρ (M2.set k (.lst (ds.set j d)))
      | none => False
    | _ => False
  | _, _ => False) (fun _ _ => False)) (fun _ _ => False)
abbrev W0 : WX := fun _ _ _ _ => False
theorem KX.none {K : PySem.W.Frag} {Z : Zs} {F : Hp} {α : List Addr} {W : WX} {σ : L2.St} : KX K Z F α W σ (fun _ _ => False) := fun _ _ _ _ _ _ _ _ _ _ h => h.elim
theorem cell_set {K : PySem.W.Frag} {Z : Zs} {F H : Hp} {α : List Addr} {M : Ms} {k : Nat} {a : Addr} {ds ds' : List D} {xs' : List V} (ok : Ok K Z F α M H) (e1 : α[k]? = some a) (e2 : M[k]? = some (.lst ds)) (r : RpL K F α xs' ds') :
    Ok K Z F α (M.set k (.lst ds')) (upd H a (.lst xs')) := ok.setM e1 e2 (fun z => by cases z) ⟨xs', upd_same, r⟩
theorem dg_sub {o i : Expr} {to ti : TE} {To Ti : DTE} (ho : DE X W0 o to To) (hi : DE X W0 i ti Ti) (ha : ∀ v, assign (.Subscript o i pos) X.env v = (do
      let ov ← holding [v] (eval o X.env)
      let iv ← holding [v, ov] (eval i X.env)
      standAt pos
      holding [v, ov, iv] (setItem ov iv v)
      release [v, ov, iv] []) := by intro _; rfl) : DG X (.Subscript o i pos) [] (gSub to ti rSetL) (dgSub To Ti) :=
  ⟨pg_sub ho.pe hi.pe set_list ha, fun Z σ H F α ρ M v d Ξ R ok re r h k =>
    ho.snd Z σ H F α ρ M _ (fun _ _ => False) _ ok re h (fun ov H1 F1 α1 od M1 x1 ok1 r1 h1 => hi.snd Z σ H1 F1 α1 ρ M1 _ (fun _ _ => False) _ ok1 (re.mono x1) h1 (fun iv H2 F2 α2 id M2 x2 ok2 r2 h2 => by
      cases od with
      | ptr n =>
        cases id with
        | int z =>
          dsimp only at h2
          cases r1 with
          | ptr e1 =>
            cases r2
            rename_i a
            have e1 := x2.get e1
            cases q : M2[n]? with
            | none => rw [q] at h2; exact False.elim h2
            | some m =>
              rw [q] at h2
              cases m with
              | lst ds =>
                dsimp only at h2
                obtain ⟨xs, hx, rx⟩ := ok2.mem n a _ e1 q
                cases qi : ixN ds.length z with
                | none => rw [qi] at h2; exact False.elim h2
                | some j =>
                  rw [qi] at h2
                  refine ⟨a, xs, z, j, rfl, rfl, hx, by rw [rx.length]; exact qi, ?_⟩
                  exact k _ _ _ _ _ _ (x1.trans x2) (cell_set ok2 e1 q (rx.set (r.mono (x1.trans x2)) j)) (re.mono (x1.trans x2)) Ag.refl h2
              | _ => exact False.elim h2
        | _ => exact False.elim h2
      | _ => exact False.elim h2) KX.none) KX.none⟩
end

/-! ## statements -/
section
variable {X : Cx} {W : WX} {pos : Pos} {e a b c : Expr} {te : TE} {Te : DTE}
def dDrop (T : DTE) : DTS := fun E ρ M => T ρ M (fun _ M1 => E.nx ρ M1) (fun x M1 => E.ex x ρ M1)
theorem ds_expr (he : DE X W e te Te) (hs : swapsWith e none pos.line X.env = pure false := by rfl) : DS X W (.Expr e pos) (tDrop te) (dDrop Te) :=
  ⟨ps_expr he.pe hs, fun Z σ H F α ρ M E D ok re h k => he.snd Z σ H F α ρ M _ _ _ ok re h (fun v H1 F1 α1 d M1 x1 ok1 r1 h1 => k.nx _ _ _ _ _ _ x1 ok1 (re.mono x1) h1) (k.kx re)⟩
def dRet (T : DTE) : DTS := fun E ρ M => T ρ M E.rt (fun x M1 => E.ex x ρ M1)
theorem ds_ret (he : DE X W e te Te) : DS X W (.Return (some e) pos) (tRet te) (dRet Te) :=
  ⟨ps_ret he.pe, fun Z σ H F α ρ M E D ok re h k => he.snd Z σ H F α ρ M _ _ _ ok re h k.rt (k.kx re)⟩
def dRetN : DTS := fun E _ M => E.rt .non M
theorem ds_retN : DS X W (.Return none pos) tRetN dRetN := ⟨ps_retN, fun Z σ H F α ρ M E D ok re h k => k.rt _ _ _ _ _ _ Ext.refl ok .non h⟩
def dAsg (T : DTE) (G : DTG) : DTS := fun E ρ M => T ρ M (fun d M1 => G d ρ M1 E.nx) (fun x M1 => E.ex x ρ M1)
theorem snd_asg {K : PySem.W.Frag} {ts : List Nat} {g : TG} {G : DTG} (he : SndE K W te Te) (hg : SndG K ts g G) : SndS K W (tAsg te g) (dAsg Te G) := fun Z σ H F α ρ M E D ok re h k =>
  he Z σ H F α ρ M _ _ _ ok re h (fun v H1 F1 α1 d M1 x1 ok1 r1 h1 => hg Z σ H1 F1 α1 ρ M1 v d _ _ ok1 (re.mono x1) r1 h1 (fun σ' H' F' α' ρ' M' x ok' re' _ h' => k.nx _ _ _ _ _ _ (x1.trans x) ok' re' h')) (k.kx re)
theorem ds_asg {tg : Expr} {ts : List Nat} {g : TG} {G : DTG} (he : DE X W e te Te) (hg : DG X tg ts g G) (hs : swapsWithSole [tg] e pos.line X.env = pure false := by rfl) (hw : swappedStores [tg] e X.env = pure none := by rfl)
    (h1 : (assignEach [tg] X.env).map (·.2) = [assign tg X.env] := by rfl) : DS X W (.Assign [tg] e pos) (tAsg te g) (dAsg Te G) := ⟨ps_asg he.pe hg.pg hs hw h1, snd_asg he.snd hg.snd⟩
theorem ds_set {i : Nat} {x : Str} {pos' : Pos} (hN : X.N.Nodup) (he : DE X W e te Te) (hi : X.N[i]? = some x := by rfl) (hx : Loc X.env.scope x := by first | exact Or.inl rfl | exact Or.inr rfl) (hs : swapsWith e (some (.Name x pos')) pos.line X.env = pure false := by rfl)
    (hf : X.fn x = true ∨ X.env.scope.names.lookup x = some .local := by first | exact .inl rfl | exact .inr rfl | assumption) : DS X W (.Assign [.Name x pos'] e pos) (tAsg te (gName i)) (dAsg Te (dgName i)) :=
  ⟨ps_set hN hi hx he.pe hs hf, snd_asg he.snd (snd_gName i)⟩
def dPar (i j : Nat) (T : DTA) : DTS := fun E ρ M => T ρ M (fun ds M1 => match ds with
  | [d, e] => E.nx ((ρ.set i (some d)).set j (some e)) M1
  | _ => False) (fun x M1 => E.ex x ρ M1)
theorem ds_par {i j : Nat} {x y : Str} {ta : TA} {Ta : DTA} {px py pt : Pos} {kt k2 : Nat} {pt2 : Pos} (hc : X.calm = true) (hN : X.N.Nodup) (ha : DA X W [a, b] ta Ta) (hij : i ≠ j := by decide) (hi : X.N[i]? = some x := by rfl) (hj : X.N[j]? = some y := by rfl)
    (hx : X.env.scope.names.lookup x = some .local := by rfl) (hy : X.env.scope.names.lookup y = some .local := by rfl)
    (hw : swappedStores [.Tuple [.Name x px, .Name y py] kt pt] (.Tuple [a, b] k2 pt2) X.env = pure (some [x, y]) := by rfl)
    (hs : swapsWithSole [.Tuple [.Name x px, .Name y py] kt pt] (.Tuple [a, b] k2 pt2) pos.line X.env = pure false := by rfl) :
    DS X W (.Assign [.Tuple [.Name x px, .Name y py] kt pt] (.Tuple [a, b] k2 pt2) pos) (tPar i j ta) (dPar i j Ta) :=
  ⟨ps_par hc hN hi hj hij hx hy ha.pa hw hs, fun Z σ H F α ρ M E D ok re h k => ha.snd Z σ H F α ρ M _ _ _ ok re h (fun vs H1 F1 α1 ds M1 x1 ok1 r1 h1 => by
    cases r1 with
    | nil => exact False.elim h1
    | cons r t => cases t with
      | nil => exact False.elim h1
      | cons r' t => cases t with
        | nil => exact ⟨_, _, rfl, k.nx _ _ _ _ _ _ x1 ok1 (((re.mono x1).set r).set r') h1⟩
        | cons _ _ => exact False.elim h1) (k.kx re)⟩
def dNext : DTS := fun E ρ M => E.nx ρ M
def dSeq (T U : DTS) : DTS := fun E ρ M => T { E with nx := U E } ρ M
theorem snd_next {K : PySem.W.Frag} : SndS K W tNext dNext := fun Z σ H F α ρ M E D ok re h k => k.nx _ _ _ _ _ _ Ext.refl ok re h
theorem dss_nil : DSs X W [] tNext dNext := ⟨pss_nil, snd_next⟩
theorem dss_cons {st : Stmt} {rest : List Stmt} {t u : TS} {T U : DTS} (h1 : DS X W st t T) (h2 : DSs X W rest u U) : DSs X W (st :: rest) (tSeq t u) (dSeq T U) :=
  ⟨pss_cons h1.ps h2.ps, fun Z σ H F α ρ M E D ok re h k => h1.snd Z σ H F α ρ M _ _ ok re h ⟨fun σ' H' F' α' ρ' M' x ok' re' h' => h2.snd Z σ' H' F' α' ρ' M' E D ok' re' h' (k.mono x), k.rt, k.bk, k.ct, k.ex⟩⟩
theorem dss_one {st : Stmt} {t : TS} {T : DTS} (h1 : DS X W st t T) : DSs X W [st] t T := ⟨pss_one h1.ps, h1.snd⟩
theorem ds_pass : DS X W (.Pass pos) tNext dNext := ⟨ps_pass, snd_next⟩
def dBreak : DTS := fun E ρ M => E.bk ρ M
def dCont : DTS := fun E ρ M => E.ct ρ M
theorem ds_break : DS X W (.Break pos) tBreak dBreak := ⟨ps_break, fun Z σ H F α ρ M E D ok re h k => k.bk _ _ _ _ _ _ Ext.refl ok re h⟩
theorem ds_continue : DS X W (.Continue pos) tCont dCont := ⟨ps_continue, fun Z σ H F α ρ M E D ok re h k => k.ct _ _ _ _ _ _ Ext.refl ok re h⟩
def dIfS (c : DTT) (T U : DTS) : DTS := fun E ρ M => c ρ M (fun b M1 => if b = true then T E ρ M1 else U E ρ M1) (fun x M1 => E.ex x ρ M1)
theorem ds_if {p q : List Stmt} {tc : TT} {Tc : DTT} {t u : TS} {T U : DTS} (hc : DT X W c tc Tc) (h1 : DSs X W p t T) (h2 : DSs X W q u U) : DS X W (.If c p q pos) (tIfS tc t u) (dIfS Tc T U) :=
  ⟨ps_if hc.pt h1.ps h2.ps, fun Z σ H F α ρ M E D ok re h k => hc.snd Z σ H F α ρ M _ _ _ ok re h (fun b H1 F1 α1 M1 x1 ok1 h1' => by
    cases b with
    | true =>
      rw [if_pos rfl] at h1' ⊢
      exact h1.snd Z σ H1 F1 α1 ρ M1 E D ok1 (re.mono x1) h1' (k.mono x1)
    | false =>
      rw [if_neg Bool.false_ne_true] at h1' ⊢
      exact h2.snd Z σ H1 F1 α1 ρ M1 E D ok1 (re.mono x1) h1' (k.mono x1)) (k.kx re)⟩
/-- a list of a cell is frozen: ghost -/
def D.frz (k : Nat) (ds : List D) : D → D
  | .ptr j => if j = k then .lst ds else .ptr j
  | d => d
def dFrz (k : Nat) (T : DTS) : DTS := fun E ρ M => match M[k]? with
  | some (.lst ds) => T E (ρ.map fun o => o.map (D.frz k ds)) (M.set k .gone)
  | _ => False
theorem dss_frz {sts : List Stmt} {t : TS} {T : DTS} (k : Nat) (h : DSs X W sts t T) : DSs X W sts t (dFrz k T) := ⟨h.ps, fun Z σ H F α ρ M E DD ok re hh kk => by
  unfold dFrz at hh
  cases q : M[k]? with
  | none => rw [q] at hh; exact False.elim hh
  | some m =>
    rw [q] at hh
    cases m with
    | lst ds =>
      have hk : k < α.length := by rw [ok.len]; exact (List.getElem?_eq_some_iff.mp q).1
      have e1 : α[k]? = some α[k] := List.getElem?_eq_getElem hk
      obtain ⟨xs, hx, ex, ok', r⟩ := ok.freeze q e1
      refine h.snd Z σ H _ α _ _ E DD ok' ⟨by rw [List.length_map]; exact re.len, fun i d e => ?_⟩ hh (kk.mono ex)
      rw [List.getElem?_map] at e
      cases eo : ρ[i]? with
      | none => rw [eo] at e; cases e
      | some o =>
        rw [eo] at e
        cases o with
        | none => cases e
        | some d0 =>
          obtain ⟨v, ev, rv⟩ := re.get i d0 eo
          refine ⟨v, ev, ?_⟩
          have ed : D.frz k ds d0 = d := Option.some.inj (Option.some.inj e)
          subst ed
          cases d0 with
          | ptr j =>
            unfold D.frz
            dsimp only
            by_cases hj : j = k
            · rw [if_pos hj]
              subst hj
              cases rv with
              | ptr e' =>
                rw [e1] at e'
                cases e'
                exact r
            · rw [if_neg hj]
              exact rv.mono ex
          | _ => exact rv.mono ex
    | _ => exact False.elim hh⟩
/-- .. in an expression, where the name is not asked any more -/
def dFrzE (T : DTE) : DTE := fun ρ M Φ Ψ => T ρ M (fun d M1 => match d with
  | .ptr k => match M1[k]? with
    | some (.lst ds) => Φ (.lst ds) (M1.set k .gone)
    | _ => False
  | d => Φ d M1) Ψ
theorem de_frz (he : DE X W e te Te) : DE X W e te (dFrzE Te) := ⟨he.pe, fun Z σ H F α ρ M Φ Ψ Q ok re h k kx => he.snd Z σ H F α ρ M _ _ _ ok re h (fun v H1 F1 α1 d M1 x1 ok1 r1 h1 => by
  cases d with
  | ptr n =>
    dsimp only at h1
    cases q : M1[n]? with
    | none => rw [q] at h1; exact False.elim h1
    | some m =>
      rw [q] at h1
      cases m with
      | lst ds =>
        cases r1 with
        | ptr e1 =>
          obtain ⟨xs, hx, ex, ok', r⟩ := ok1.freeze q e1
          exact k _ _ _ _ _ _ (x1.trans ex) ok' r h1
      | _ => exact False.elim h1
  | _ => exact k _ _ _ _ _ _ x1 ok1 r1 h1) kx⟩
/-! ### while -/
def dWhile (c : DTT) (B : DTS) : DTS := fun E ρ M => ∃ I : Nat → Rho → Ms → Prop, (∃ n, I n ρ M) ∧ ∀ n ρ M, I n ρ M →
  c ρ M (fun b M1 => if b = true then B { E with nx := fun ρ' M' => ∃ m, m < n ∧ I m ρ' M', ct := fun ρ' M' => ∃ m, m < n ∧ I m ρ' M', bk := E.nx } ρ M1 else E.nx ρ M1) (fun x M1 => E.ex x ρ M1)
theorem ds_while {body : List Stmt} {tc : TT} {Tc : DTT} {t : TS} {T : DTS} (hp : PassesOwn (model X.prog X.w) X.A X.env X.xe) (hc : DT X W c tc Tc) (hb : DSs X W body t T) : DS X W (.While c body [] pos) (tWhile tc t) (dWhile Tc T) :=
  ⟨ps_while hp hc.pt hb.ps, fun Z σ H F α ρ M E D ok re h k => by
    obtain ⟨I, ⟨n0, h0⟩, step⟩ := h
    refine ⟨fun n σ' H' => ∃ F' α' ρ' M', Ext F α F' α' ∧ Ok X.K Z F' α' M' H' ∧ RpE X.K F' α' ρ' σ' ∧ I n ρ' M', ⟨n0, F, α, ρ, M, Ext.refl, ok, re, h0⟩, ?_⟩
    rintro n σ1 H1 ⟨F1, α1, ρ1, M1, x1, ok1, re1, i1⟩
    refine hc.snd Z σ1 H1 F1 α1 ρ1 M1 _ _ _ ok1 re1 (step n ρ1 M1 i1) (fun b H2 F2 α2 M2 x2 ok2 h2 => ?_) ((k.mono x1).kx re1)
    cases b with
    | true =>
      rw [if_pos rfl] at h2 ⊢
      refine ⟨fun σ' H' => ∃ m, m < n ∧ ∃ F' α' ρ' M', Ext F α F' α' ∧ Ok X.K Z F' α' M' H' ∧ RpE X.K F' α' ρ' σ' ∧ I m ρ' M', fun σ' H' ⟨m, hm, z⟩ => ⟨m, hm, z⟩, ?_⟩
      refine hb.snd Z σ1 H2 F2 α2 ρ1 M2 _ _ ok2 (re1.mono x2) h2 ⟨?_, (k.mono (x1.trans x2)).rt, (k.mono (x1.trans x2)).nx, ?_, (k.mono (x1.trans x2)).ex⟩
      · exact fun σ' H' F' α' ρ' M' x ok' re' ⟨m, hm, i⟩ => ⟨m, hm, F', α', ρ', M', (x1.trans x2).trans x, ok', re', i⟩
      · exact fun σ' H' F' α' ρ' M' x ok' re' ⟨m, hm, i⟩ => ⟨m, hm, F', α', ρ', M', (x1.trans x2).trans x, ok', re', i⟩
    | false =>
      rw [if_neg Bool.false_ne_true] at h2 ⊢
      exact k.nx _ _ _ _ _ _ (x1.trans x2) ok2 (re1.mono x2) h2⟩
end

/-! ## what is walked -/
abbrev DTI := Rho → Ms → (List D → (Ms → Prop) → Ms → Prop) → DX → Prop
def ItOk (K : PySem.W.Frag) (F : Hp) (α : List Addr) (J : It) (its : List D) (keep : Ms → Prop) : Prop := ∀ i Z H F' α' M', Ext F α F' α' → Ok K Z F' α' M' H → keep M' →
  (its.length ≤ i → J.stop i H) ∧ ∀ d, its[i]? = some d → J.go i H ∧ ∀ x H1, J.yld i H x H1 → ∃ F'', Ext F' α' F'' α' ∧ Ok K Z F'' α' M' H1 ∧ Rp K F'' α' x d
def KI (K : PySem.W.Frag) (Z : Zs) (F : Hp) (α : List Addr) (Φ : List D → (Ms → Prop) → Ms → Prop) (R : It → Hp → Prop) : Prop := ∀ J H' F' α' its keep M', Ext F α F' α' → Ok K Z F' α' M' H' → ItOk K F' α' J its keep → Φ its keep M' → R J H'
def SndI (K : PySem.W.Frag) (W : WX) (wi : TI) (T : DTI) : Prop := ∀ Z σ H F α ρ M Φ Ψ R, Ok K Z F α M H → RpE K F α ρ σ → T ρ M Φ Ψ → KI K Z F α Φ R → KX K Z F α W σ Ψ → wi σ H R
structure DI (X : Cx) (W : WX) (tg iter : Expr) (wi : TI) (T : DTI) : Prop where
  pi : PI X tg iter wi
  snd : SndI X.K W wi T
theorem KI.mono {K : PySem.W.Frag} {Z : Zs} {F F1 : Hp} {α α1 : List Addr} {Φ : List D → (Ms → Prop) → Ms → Prop} {R : It → Hp → Prop} (k : KI K Z F α Φ R) (x : Ext F α F1 α1) : KI K Z F1 α1 Φ R := fun J H' F' α' its keep M' e => k J H' F' α' its keep M' (x.trans e)
section
variable {X : Cx} {W : WX} {pos : Pos} {tg l e a b : Expr} {te : TE} {Te : DTE} {ta : TA} {Ta : DTA}
/-- the list behind a pointer stays as it is -/
def keepOf (d : D) (ds : List D) : Ms → Prop := match d with
  | .ptr k => fun M => M[k]? = some (.lst ds)
  | _ => fun _ => True
def iSeq (K : PySem.W.Frag) (tl : TE) : TI := fun σ H R => tl σ H fun x H1 => ∃ a, x = .ref a ∧ (((∃ xs, SqL K H1 a xs) ∧ R (Itl K a) H1) ∨ ((∃ xs, SqT K H1 a xs) ∧ R (Itt K a) H1))
theorem fresh_it {pins : List (Addr × Obj)} {σ : L2.St} {H : Hp} {s : Shared} (I : Inv X pins σ H s) : ∀ c ∈ [s.heap.objs.size], FpOk X pins H c := fun c hc => by
  cases List.mem_singleton.mp hc
  exact I.fpOk (Nat.le_refl _) (I.hok.fresh (Nat.le_refl _))
theorem pi_seq {tl : TE} (hl : PE X l tl) : PI X tg l (iSeq X.K tl) := by
  refine ⟨fun pins s σ H R I h => thn (hl.run pins s σ H _ I h) ?_⟩
  rintro v s1 ⟨x, H1, I1, r1, a, rfl, q⟩
  cases r1
  rcases q with ⟨⟨xs, hx⟩, q⟩ | ⟨⟨xs, hx⟩, q⟩
  · obtain ⟨its, _, pl, _⟩ := I1.list hx
    exact wpAny_pyIter_list pl.isList ⟨_, _, _, _, H1, rfl, I1.kept (t' := s1.toks) (fun _ _ z => Heap.get?_push_of_some _ z), turn_list a _, ⟨_, Heap.get?_push_size _ rfl, rfl, rfl⟩, fresh_it I1, q⟩
  · obtain ⟨its, _, tp, _⟩ := I1.tuple hx
    exact wpAny_pyIter_tuple (items := its.toArray) tp ⟨_, _, _, _, H1, rfl, I1.kept (t' := s1.toks) (fun _ _ z => Heap.get?_push_of_some _ z), turn_tuple a _, ⟨_, Heap.get?_push_size _ rfl, rfl, rfl⟩, fresh_it I1, q⟩
def diSeq (T : DTE) : DTI := fun ρ M Φ Ψ => T ρ M (fun d M1 => match sq M1 d with
  | some ds => Φ ds (keepOf d ds) M1
  | none => False) Ψ
theorem itOk_list {K : PySem.W.Frag} {F : Hp} {α : List Addr} {v : V} {d : D} {a : Addr} {ds : List D} {Z0 : Zs} {M0 : Ms} {H0 : Hp} (r : Rp K F α (.ref a) d) (ok0 : Ok K Z0 F α M0 H0) (e : lvf M0 d = some ds) : ItOk K F α (Itl K a) ds (keepOf d ds) := by
  intro i Z H F' α' M' x ok kp
  have e' : lvf M' d = some ds := by
    cases d with
    | ptr k =>
      have kp' : M'[k]? = some (.lst ds) := kp
      show (match M'[k]? with | some (.lst ds) => some ds | _ => none) = some ds
      rw [kp']
    | _ => exact e
  obtain ⟨a', xs, ea, hx, rx⟩ := (r.mono x).lstf? ok e'
  cases ea
  refine ⟨fun hl => ⟨xs, hx, by rw [rx.length]; exact hl⟩, fun y hy => ?_⟩
  obtain ⟨w, hw, rw'⟩ := rx.get hy
  refine ⟨⟨xs, w, hx, hw⟩, fun z H1 hz => ?_⟩
  obtain ⟨rfl, hz⟩ := hz
  rw [hz xs hx] at hw
  cases hw
  exact ⟨F', Ext.refl, ok, rw'⟩
theorem itOk_tup {K : PySem.W.Frag} {F : Hp} {α : List Addr} {a : Addr} {ds : List D} (r : Rp K F α (.ref a) (.tup ds)) : ItOk K F α (Itt K a) ds (fun _ => True) := by
  intro i Z H F' α' M' x ok _
  obtain ⟨a', xs, ea, hx, rx⟩ := (r.mono x).tup? ok
  cases ea
  refine ⟨fun hl => ⟨xs, hx, by rw [rx.length]; exact hl⟩, fun y hy => ?_⟩
  obtain ⟨w, hw, rw'⟩ := rx.get hy
  refine ⟨⟨xs, w, hx, hw⟩, fun z H1 hz => ?_⟩
  obtain ⟨rfl, hz⟩ := hz
  rw [hz xs hx] at hw
  cases hw
  exact ⟨F', Ext.refl, ok, rw'⟩
theorem di_seq (hl : DE X W l te Te) : DI X W tg l (iSeq X.K te) (diSeq Te) := ⟨pi_seq hl.pe, fun Z σ H F α ρ M Φ Ψ R ok re h k kx => hl.snd Z σ H F α ρ M _ _ _ ok re h (fun v H1 F1 α1 d M1 x1 ok1 r1 h1 => by
  cases q : sq M1 d with
  | none => rw [q] at h1; exact False.elim h1
  | some ds =>
    rw [q] at h1
    rcases sq_tup q with rfl | q
    · obtain ⟨a, xs, rfl, hx, _⟩ := r1.tup? ok1
      exact ⟨a, rfl, .inr ⟨⟨xs, hx⟩, k _ _ _ _ _ _ _ x1 ok1 (itOk_tup r1) h1⟩⟩
    · obtain ⟨a, xs, rfl, hx, _⟩ := r1.lstf? ok1 q
      exact ⟨a, rfl, .inl ⟨⟨xs, hx⟩, k _ _ _ _ _ _ _ x1 ok1 (itOk_list (v := .ref a) r1 ok1 q) h1⟩⟩) kx⟩
def rngD (lo : Int) (n : Nat) : List D := (List.range n).map fun (i : Nat) => D.int (lo + i)
theorem itOk_rng {K : PySem.W.Frag} {F : Hp} {α : List Addr} (lo : Int) (n : Nat) : ItOk K F α (Itr lo n) (rngD lo n) (fun _ => True) := by
  intro i Z H F' α' M' x ok _
  unfold rngD
  refine ⟨fun hl => (show n ≤ i by simpa using hl), fun y hy => ?_⟩
  rw [List.getElem?_map] at hy
  by_cases hi : i < n
  · rw [List.getElem?_range hi] at hy
    cases hy
    refine ⟨hi, fun z H1 hz => ?_⟩
    obtain ⟨rfl, rfl⟩ := hz
    exact ⟨F', Ext.refl, ok, .int _⟩
  · rw [List.getElem?_eq_none (by simpa using hi)] at hy
    cases hy
def diRng1 (T : DTA) : DTI := fun ρ M Φ Ψ => T ρ M (fun ds M1 => match ds with
  | [.int j] => -(2 ^ 62) ≤ j ∧ j < 2 ^ 62 ∧ Φ (rngD 0 j.toNat) (fun _ => True) M1
  | _ => False) Ψ
theorem di_rng1 {p : Pos} (hm : X.mg "range" = none) (ha : DA X W [a] ta Ta) (hg : Gl X "range" := by rfl) (hs : starEach [a] X.env = [(false, eval a X.env)] := by rfl) : DI X W tg (.Call (.Name "range" p) [a] [] pos) (iRng1 ta) (diRng1 Ta) :=
  ⟨pi_range1 hg hm ha.pa hs, fun Z σ H F α ρ M Φ Ψ R ok re h k kx => ha.snd Z σ H F α ρ M _ _ _ ok re h (fun vs H1 F1 α1 ds M1 x1 ok1 r1 h1 => by
    split at h1
    · cases r1 with
      | cons r t => cases r; cases t; exact ⟨_, rfl, h1.1, h1.2.1, k _ _ _ _ _ _ _ x1 ok1 (itOk_rng _ _) h1.2.2⟩
    · exact False.elim h1) kx⟩
def diRng2 (T : DTA) : DTI := fun ρ M Φ Ψ => T ρ M (fun ds M1 => match ds with
  | [.int i, .int j] => (-(2 ^ 62) ≤ i ∧ i < 2 ^ 62 ∧ -(2 ^ 62) ≤ j ∧ j < 2 ^ 62) ∧ Φ (rngD i (j - i).toNat) (fun _ => True) M1
  | _ => False) Ψ
theorem di_rng2 {p : Pos} (hm : X.mg "range" = none) (ha : DA X W [a, b] ta Ta) (hg : Gl X "range" := by rfl) (hs : starEach [a, b] X.env = [(false, eval a X.env), (false, eval b X.env)] := by rfl) (hs2 : starEach [b] X.env = [(false, eval b X.env)] := by rfl) :
    DI X W tg (.Call (.Name "range" p) [a, b] [] pos) (iRng2 ta) (diRng2 Ta) :=
  ⟨pi_range2 hg hm ha.pa hs hs2, fun Z σ H F α ρ M Φ Ψ R ok re h k kx => ha.snd Z σ H F α ρ M _ _ _ ok re h (fun vs H1 F1 α1 ds M1 x1 ok1 r1 h1 => by
    split at h1
    · cases r1 with
      | cons r t => cases r; cases t with
        | cons r t => cases r; cases t; exact ⟨_, _, rfl, h1.1, k _ _ _ _ _ _ _ x1 ok1 (itOk_rng _ _) h1.2⟩
    · exact False.elim h1) kx⟩
/-- zip of two lists, of two tuples -/
def zipD (xs ys : List D) : List D := List.zipWith (fun x y => D.tup [x, y]) xs ys
def diZip (T : DTA) : DTI := fun ρ M Φ Ψ => T ρ M (fun ds M1 => match ds with
  | [.tup xs, .tup ys] => Φ (zipD xs ys) (fun _ => True) M1
  | [.lst xs, .lst ys] => Φ (zipD xs ys) (fun _ => True) M1
  | [.ptr i, .lst ys] => match M1[i]? with
    | some (.lst xs) => Φ (zipD xs ys) (fun M => M[i]? = some (.lst xs)) M1
    | _ => False
  | _ => False) Ψ
theorem zipD_get {xs ys : List D} {i : Nat} {d : D} (h : (zipD xs ys)[i]? = some d) : ∃ x y, xs[i]? = some x ∧ ys[i]? = some y ∧ d = .tup [x, y] := by
  unfold zipD at h
  rw [List.getElem?_zipWith] at h
  cases e1 : xs[i]? with
  | none => rw [e1] at h; cases h
  | some x =>
    cases e2 : ys[i]? with
    | none => rw [e1, e2] at h; cases h
    | some y => rw [e1, e2] at h; cases h; exact ⟨x, y, rfl, rfl, rfl⟩
theorem zipD_len {xs ys : List D} {i : Nat} (h : (zipD xs ys).length ≤ i) : xs.length ≤ i ∨ ys.length ≤ i := by
  unfold zipD at h
  rw [List.length_zipWith] at h
  omega
theorem pair_new {K : PySem.W.Frag} {Z : Zs} {F H : Hp} {α : List Addr} {M : Ms} {T : Addr} {v w : V} {x y : D} (ok : Ok K Z F α M H) (hT : H T = none) (r1 : Rp K F α v x) (r2 : Rp K F α w y) :
    ∃ F'', Ext F α F'' α ∧ Ok K Z F'' α M (upd H T (.tup [v, w])) ∧ Rp K F'' α (.ref T) (.tup [x, y]) := by
  have ex : Ext F α (upd F T (.tup [v, w])) α := Ext.upd (ok.free hT)
  exact ⟨_, ex, ok.new hT, .tup (.of upd_same) (.cons (r1.mono ex) (.cons (r2.mono ex) .nil))⟩
theorem itOk_zipT {K : PySem.W.Frag} {F : Hp} {α : List Addr} {a b : Addr} {ds es : List D} (ra : Rp K F α (.ref a) (.tup ds)) (rb : Rp K F α (.ref b) (.tup es)) : ItOk K F α (RZ.ItzT K a b) (zipD ds es) (fun _ => True) := by
  intro i Z H F' α' M' x ok _
  obtain ⟨_, xs, e1, hx, rx⟩ := (ra.mono x).tup? ok
  obtain ⟨_, ys, e2, hy, ry⟩ := (rb.mono x).tup? ok
  cases e1
  cases e2
  refine ⟨fun hl => ⟨xs, ys, hx, hy, by rw [rx.length, ry.length]; exact zipD_len hl⟩, fun d hd => ?_⟩
  obtain ⟨p, q, hp, hq, rfl⟩ := zipD_get hd
  obtain ⟨v, hv, rv⟩ := rx.get hp
  obtain ⟨w, hw, rw'⟩ := ry.get hq
  refine ⟨⟨xs, ys, v, w, hx, hy, hv, hw⟩, fun z H1 hz => ?_⟩
  obtain ⟨T, v', w', rfl, hT, rfl, h1, h2⟩ := hz
  rw [h1 xs hx] at hv
  rw [h2 ys hy] at hw
  cases hv
  cases hw
  exact pair_new ok hT rv rw'
theorem itOk_zipL {K : PySem.W.Frag} {F : Hp} {α : List Addr} {a b : Addr} {d e : D} {ds es : List D} {keep : Ms → Prop} (ra : Rp K F α (.ref a) d) (rb : Rp K F α (.ref b) e) (ka : ∀ M, keep M → lvf M d = some ds) (kb : ∀ M, keep M → lvf M e = some es) : ItOk K F α (Itz K a b) (zipD ds es) keep := by
  intro i Z H F' α' M' x ok kp
  obtain ⟨_, xs, e1, hx, rx⟩ := (ra.mono x).lstf? ok (ka M' kp)
  obtain ⟨_, ys, e2, hy, ry⟩ := (rb.mono x).lstf? ok (kb M' kp)
  cases e1
  cases e2
  refine ⟨fun hl => ⟨xs, ys, hx, hy, by rw [rx.length, ry.length]; exact zipD_len hl⟩, fun d hd => ?_⟩
  obtain ⟨p, q, hp, hq, rfl⟩ := zipD_get hd
  obtain ⟨v, hv, rv⟩ := rx.get hp
  obtain ⟨w, hw, rw'⟩ := ry.get hq
  refine ⟨⟨xs, ys, v, w, hx, hy, hv, hw⟩, fun z H1 hz => ?_⟩
  obtain ⟨T, v', w', rfl, hT, rfl, h1, h2⟩ := hz
  rw [h1 xs hx] at hv
  rw [h2 ys hy] at hw
  cases hv
  cases hw
  exact pair_new ok hT rv rw'
theorem di_zip {p tpos : Pos} {elts : List Expr} {kk : Nat} (hm : X.mg "zip" = none) (ha : DA X W [a, b] ta Ta) (hg : Gl X "zip" := by rfl)
    (hs : starEach [a, b] X.env = (false, eval a X.env) :: starEach [b] X.env := by rfl) (hpl : (backTo pos (starEach [b] X.env)).any (·.1) = false := by rfl) : DI X W (.Tuple elts kk tpos) (.Call (.Name "zip" p) [a, b] [] pos) (RZ.iZipA X.K ta) (diZip Ta) :=
  ⟨RZ.pi_zipA hg hm ha.pa hs hpl, fun Z σ H F α ρ M Φ Ψ R ok re h k kx => ha.snd Z σ H F α ρ M _ _ _ ok re h (fun vs H1 F1 α1 ds M1 x1 ok1 r1 h1 => by
    split at h1
    · cases r1 with
      | cons r t => cases t with
        | cons r' t =>
          cases t
          obtain ⟨a, xs, rfl, hx, _⟩ := r.tup? ok1
          obtain ⟨b, ys, rfl, hy, _⟩ := r'.tup? ok1
          exact ⟨a, b, xs, ys, rfl, .inr ⟨hx, hy, k _ _ _ _ _ _ _ x1 ok1 (itOk_zipT r r') h1⟩⟩
    · cases r1 with
      | cons r t => cases t with
        | cons r' t =>
          cases t
          obtain ⟨a, xs, rfl, hx, _⟩ := r.lstf? (M := M1) ok1 rfl
          obtain ⟨b, ys, rfl, hy, _⟩ := r'.lstf? (M := M1) ok1 rfl
          exact ⟨a, b, xs, ys, rfl, .inl ⟨hx, hy, k _ _ _ _ _ _ _ x1 ok1 (itOk_zipL r r' (fun _ _ => rfl) (fun _ _ => rfl)) h1⟩⟩
    · rename_i n es
      split at h1
      · rename_i xs0 q
        cases r1 with
        | cons r t => cases t with
          | cons r' t =>
            cases t
            have e0 : ∀ M : Ms, M[n]? = some (.lst xs0) → lvf M (.ptr n) = some xs0 := fun M z => by
              show (match M[n]? with | some (.lst ds) => some ds | _ => none) = some xs0
              rw [z]
            obtain ⟨a, xs, rfl, hx, _⟩ := r.lstf? (M := M1) ok1 (e0 M1 q)
            obtain ⟨b, ys, rfl, hy, _⟩ := r'.lstf? (M := M1) ok1 rfl
            exact ⟨a, b, xs, ys, rfl, .inl ⟨hx, hy, k _ _ _ _ _ _ _ x1 ok1 (itOk_zipL r r' e0 (fun _ _ => rfl)) h1⟩⟩
      · exact False.elim h1
    · exact False.elim h1) kx⟩
/-! ### for -/
def dForGo (G : DTG) (B : DTS) (keep : Ms → Prop) (E : DEnds) : List D → Rho → Ms → Prop
  | [], ρ, M => keep M ∧ E.nx ρ M
  | d :: r, ρ, M => keep M ∧ G d ρ M (fun ρ' M' => B { E with nx := dForGo G B keep E r, ct := dForGo G B keep E r, bk := E.nx } ρ' M')
def dFor (Wi : DTI) (G : DTG) (B : DTS) : DTS := fun E ρ M => Wi ρ M (fun its keep M1 => dForGo G B keep E its ρ M1) (fun x M1 => E.ex x ρ M1)
theorem drop_cons {α : Type} {l : List α} {i : Nat} (h : i < l.length) : l.drop i = l[i] :: l.drop (i + 1) := List.drop_eq_getElem_cons h
theorem ds_for {iter : Expr} {body : List Stmt} {wi : TI} {Wi : DTI} {ts : List Nat} {g : TG} {G : DTG} {tb : TS} {B : DTS} (hp : PassesOwn (model X.prog X.w) X.A X.env X.xe) (hc : X.calm = true) (hi : DI X W tg iter wi Wi) (hg : DG X tg ts g G) (hb : DSs X W body tb B)
    (hs : ∀ x, foldedSetIterable iter X.env x = pure x := by intro _; rfl) : DS X W (.For tg iter body [] pos) (tFor wi g tb) (dFor Wi G B) :=
  ⟨ps_for hp hc hi.pi hg.pg hb.ps hs, fun Z σ H F α ρ M E D ok re h k => hi.snd Z σ H F α ρ M _ _ _ ok re h (fun J H1 F1 α1 its keep M1 x1 ok1 it h1 => by
    refine ⟨fun i m σ' H' => m = its.length - i ∧ i ≤ its.length ∧ ∃ F' α' ρ' M', Ext F1 α1 F' α' ∧ Ok X.K Z F' α' M' H' ∧ RpE X.K F' α' ρ' σ' ∧ dForGo G B keep E (its.drop i) ρ' M', ⟨its.length, rfl, Nat.zero_le _, F1, α1, ρ, M1, Ext.refl, ok1, re.mono x1, h1⟩, ?_⟩
    rintro i m σ2 H2 ⟨rfl, hle, F2, α2, ρ2, M2, x2, ok2, re2, h2⟩
    by_cases hlt : i < its.length
    · rw [drop_cons hlt] at h2
      obtain ⟨kp, h2⟩ := h2
      obtain ⟨go, yl⟩ := (it i Z H2 F2 α2 M2 x2 ok2 kp).2 its[i] (List.getElem?_eq_getElem hlt)
      refine .inr ⟨go, fun σ' H' => ∃ F' α' ρ' M', Ext F1 α1 F' α' ∧ Ok X.K Z F' α' M' H' ∧ RpE X.K F' α' ρ' σ' ∧ dForGo G B keep E (its.drop (i + 1)) ρ' M', fun σ' H' z => ⟨its.length - (i + 1), by omega, rfl, hlt, z⟩, fun x H3 y3 => ?_⟩
      obtain ⟨F3, x3, ok3, r3⟩ := yl x H3 y3
      refine hg.snd Z σ2 H3 F3 α2 ρ2 M2 x _ _ _ ok3 (re2.mono x3) r3 h2 fun σ4 H4 F4 α4 ρ4 M4 x4 ok4 re4 _ h4 => ?_
      have xx : Ext F α F4 α4 := x1.trans (x2.trans (x3.trans x4))
      have xy : Ext F1 α1 F4 α4 := x2.trans (x3.trans x4)
      refine hb.snd Z σ4 H4 F4 α4 ρ4 M4 _ _ ok4 re4 h4 ⟨?_, (k.mono xx).rt, (k.mono xx).nx, ?_, (k.mono xx).ex⟩
      · exact fun σ' H' F' α' ρ' M' x ok' re' z => ⟨F', α', ρ', M', xy.trans x, ok', re', z⟩
      · exact fun σ' H' F' α' ρ' M' x ok' re' z => ⟨F', α', ρ', M', xy.trans x, ok', re', z⟩
    · have e : i = its.length := by omega
      rw [e, List.drop_length] at h2
      exact .inl ⟨(it i Z H2 F2 α2 M2 x2 ok2 h2.1).1 (by omega), k.nx _ _ _ _ _ _ (x1.trans x2) ok2 re2 h2.2⟩) (k.kx re)⟩

/-! ## comprehensions -/
/-- a clause's tests -/
structure DTs (X : Cx) (ifs : List Expr) (t : TT) (T : DTT) : Prop where
  pt : PTs X ifs t
  snd : SndT X.K W0 t T
def dYes : DTT := fun _ M Φ _ => Φ true M
theorem dts_nil : DTs X [] tYes dYes := ⟨pts_nil, fun Z σ H F α ρ M Φ Ψ Q ok re h k _ => k true H F α M Ext.refl ok h⟩
theorem dts_one {c : Expr} {t : TT} {T : DTT} (h : DT X W0 c t T) : DTs X [c] t T := ⟨pts_one h.pt, h.snd⟩
/-- items are taken one by one: st gives some item, or none -/
def dGo (st : D → List D → Ms → (List D → Ms → Prop) → Prop) (keep : Ms → Prop) (Φ : List D → Ms → Prop) : List D → List D → Ms → Prop
  | [], acc, M => keep M ∧ Φ acc M
  | d :: r, acc, M => keep M ∧ st d acc M (fun acc' M' => dGo st keep Φ r acc' M')
def dElt (T : DTT) (Te : DTE) (ρ : Rho) (acc : List D) (M : Ms) (k : List D → Ms → Prop) : Prop :=
  T ρ M (fun b M1 => if b = true then Te ρ M1 (fun y M2 => acc.length < sizeLine ∧ k (acc ++ [y]) M2) (fun _ _ => False) else k acc M1) (fun _ _ => False)
def dLc (Wi : DTI) (G : DTG) (T : DTT) (Te : DTE) (vs : List Nat) : DTE := fun ρ M Φ Ψ => Wi ρ M (fun its keep M1 =>
  dGo (fun d acc M2 k => G d (wipeR ρ vs) M2 (fun ρ2 M3 => dElt T Te ρ2 acc M3 k)) keep (fun acc M2 => Φ (.lst acc) M2) its [] M1) Ψ
/-- the new list is a cell -/
def dLcM (Wi : DTI) (G : DTG) (T : DTT) (Te : DTE) (vs : List Nat) : DTE := fun ρ M Φ Ψ => Wi ρ M (fun its keep M1 =>
  dGo (fun d acc M2 k => G d (wipeR ρ vs) M2 (fun ρ2 M3 => dElt T Te ρ2 acc M3 k)) keep (fun acc M2 => Φ (.ptr M2.length) (M2 ++ [.lst acc])) its [] M1) Ψ
theorem nz_new {K : PySem.W.Frag} {Z : Zs} {F H : Hp} {α : List Addr} {M : Ms} {p : Addr} (ok : Ok K Z F α M H) (hp : H p = none) : ∀ q ∈ Z, q.1 ≠ p := fun q hq => ne_of_none (ok.priv q hq).1 hp
/-- the end of a comprehension: the list is shown -/
def Fin (K : PySem.W.Frag) (Z : Zs) (F : Hp) (α : List Addr) (L : Addr) (Θ : List D → Ms → Prop) (Q : VK) : Prop := ∀ H' F' α' acc vs M', Ext F α F' α' → Ok K ((L, .lst vs) :: Z) F' α' M' H' → RpL K F' α' vs acc → Θ acc M' → Q (.ref L) H'
theorem snd_elt {K : PySem.W.Frag} {Z : Zs} {F H : Hp} {α : List Addr} {σ : L2.St} {ρ : Rho} {M : Ms} {L : Addr} {tt : TT} {T : DTT} {te : TE} {Te : DTE} {acc : List D} {vs : List V} {k : List D → Ms → Prop} {N : Hp → Prop} (ht : SndT K W0 tt T) (he : SndE K W0 te Te)
    (ok : Ok K ((L, .lst vs) :: Z) F α M H) (nz : ∀ q ∈ Z, q.1 ≠ L) (re : RpE K F α ρ σ) (ra : RpL K F α vs acc) (h : dElt T Te ρ acc M k)
    (hN : ∀ H' F' α' acc' vs' M', Ext F α F' α' → Ok K ((L, .lst vs') :: Z) F' α' M' H' → RpL K F' α' vs' acc' → k acc' M' → N H') :
    tt σ H fun b H3 => if b = true then te σ H3 fun y H4 => ∃ acc, H4 L = some (.lst acc) ∧ acc.length < sizeLine ∧ N (upd H4 L (.lst (acc ++ [y]))) else N H3 :=
  ht _ σ H F α ρ M _ (fun _ _ => False) _ ok re h (fun b H3 F3 α3 M3 x3 ok3 h3 => by
    cases b with
    | true =>
      rw [if_pos rfl] at h3 ⊢
      refine he _ σ H3 F3 α3 ρ M3 _ (fun _ _ => False) _ ok3 (re.mono x3) h3 (fun y H4 F4 α4 d M4 x4 ok4 r4 h4 => ?_) KX.none
      have p := ok4.priv (L, .lst vs) List.mem_cons_self
      refine ⟨vs, p.1, by rw [(ra.mono (x3.trans x4)).length]; exact h4.1, ?_⟩
      exact hN _ _ _ _ _ _ (x3.trans x4) (ok4.rehide nz) ((ra.mono (x3.trans x4)).append (.cons r4 .nil)) h4.2
    | false =>
      rw [if_neg Bool.false_ne_true] at h3 ⊢
      exact hN _ _ _ _ _ _ x3 ok3 (ra.mono x3) h3) KX.none
theorem snd_lc {K : PySem.W.Frag} {wi : TI} {Wi : DTI} {ts vs : List Nat} {g : TG} {G : DTG} {tt : TT} {T : DTT} {te : TE} {Te : DTE} (hts : ∀ i ∈ ts, i ∈ vs) (hi : SndI K W wi Wi) (hg : SndG K ts g G) (ht : SndT K W0 tt T) (he : SndE K W0 te Te)
    {Z : Zs} {σ : L2.St} {H F : Hp} {α : List Addr} {ρ : Rho} {M : Ms} {Ψ : DX} {Θ : List D → Ms → Prop} {Q : VK} (ok : Ok K Z F α M H) (re : RpE K F α ρ σ)
    (h : Wi ρ M (fun its keep M1 => dGo (fun d acc M2 k => G d (wipeR ρ vs) M2 (fun ρ2 M3 => dElt T Te ρ2 acc M3 k)) keep Θ its [] M1) Ψ) (kx : KX K Z F α W σ Ψ) (fin : ∀ L, (∀ q ∈ Z, q.1 ≠ L) → Fin K Z F α L Θ Q) :
    tLc wi g tt te vs σ H Q :=
  hi Z σ H F α ρ M _ Ψ _ ok re h (fun J H1 F1 α1 its keep M1 x1 ok1 it h1 => by
    intro L hL
    have nz : ∀ q ∈ Z, q.1 ≠ L := nz_new ok1 hL
    refine ⟨fun i m H' => m = its.length - i ∧ i ≤ its.length ∧ ∃ F' α' M' acc ws, Ext F1 α1 F' α' ∧ Ok K ((L, .lst ws) :: Z) F' α' M' H' ∧ RpL K F' α' ws acc ∧ dGo (fun d acc M2 k => G d (wipeR ρ vs) M2 (fun ρ2 M3 => dElt T Te ρ2 acc M3 k)) keep Θ (its.drop i) acc M',
      ⟨its.length, rfl, Nat.zero_le _, F1, α1, M1, [], [], Ext.refl, ok1.hide hL, .nil, h1⟩, ?_⟩
    rintro i m H2 ⟨rfl, hle, F2, α2, M2, acc, ws, x2, ok2, ra, h2⟩
    by_cases hlt : i < its.length
    · rw [drop_cons hlt] at h2
      obtain ⟨kp, h2⟩ := h2
      obtain ⟨go, yl⟩ := (it i _ H2 F2 α2 M2 x2 ok2 kp).2 its[i] (List.getElem?_eq_getElem hlt)
      refine .inr ⟨go, fun H' => ∃ F' α' M' acc ws, Ext F1 α1 F' α' ∧ Ok K ((L, .lst ws) :: Z) F' α' M' H' ∧ RpL K F' α' ws acc ∧ dGo (fun d acc M2 k => G d (wipeR ρ vs) M2 (fun ρ2 M3 => dElt T Te ρ2 acc M3 k)) keep Θ (its.drop (i + 1)) acc M', fun H' z => ⟨its.length - (i + 1), by omega, rfl, hlt, z⟩, fun x H3 y3 => ?_⟩
      obtain ⟨F3, x3, ok3, r3⟩ := yl x H3 y3
      refine hg _ (L2.wipe σ vs) H3 F3 α2 _ M2 x _ _ _ ok3 ((re.mono (x1.trans (x2.trans x3))).wipe vs) r3 h2 fun σ4 H4 F4 α4 ρ4 M4 x4 ok4 re4 ag h4 => ⟨?_, ?_⟩
      · have e1 := ag.wipe hts
        rw [e1]
        exact Ag.wipe (ts := vs) ⟨L2.wipe_length _ _, fun j hj => by rw [wipe_get, if_neg (fun z => hj z.1)]⟩ fun _ z => z
      · exact snd_elt ht he ok4 nz re4 (ra.mono (x3.trans x4)) h4 fun H' F' α' acc' vs' M' x5 ok5 r5 h5 => ⟨F', α', M', acc', vs', x2.trans (x3.trans (x4.trans x5)), ok5, r5, h5⟩
    · have e : i = its.length := by omega
      rw [e, List.drop_length] at h2
      exact .inl ⟨(it i _ H2 F2 α2 M2 x2 ok2 h2.1).1 (by omega), fin L nz H2 F2 α2 acc ws M2 (x1.trans x2) ok2 ra h2.2⟩) kx
theorem fin_lst {K : PySem.W.Frag} {Z : Zs} {F : Hp} {α : List Addr} {Φ : DK} {Q : VK} (k : KE K Z F α Φ Q) : ∀ L, (∀ q ∈ Z, q.1 ≠ L) → Fin K Z F α L (fun acc M => Φ (.lst acc) M) Q := fun L nz H' F' α' acc vs M' x ok r h => by
  obtain ⟨x', ok'⟩ := ok.show nz
  exact k _ _ _ _ _ _ (x.trans x') ok' (.lst upd_same (r.mono x')) h
theorem fin_lstM {K : PySem.W.Frag} {Z : Zs} {F : Hp} {α : List Addr} {Φ : DK} {Q : VK} (k : KE K Z F α Φ Q) : ∀ L, (∀ q ∈ Z, q.1 ≠ L) → Fin K Z F α L (fun acc M => Φ (.ptr M.length) (M ++ [.lst acc])) Q := fun L nz H' F' α' acc vs M' x ok r h => by
  have p := ok.priv (L, .lst vs) List.mem_cons_self
  have ok' := ok.showM (m := .lst acc) nz ⟨vs, p.1, r.mono (ext_snoc L)⟩
  exact k _ _ _ _ _ _ (x.trans (ext_snoc L)) ok' (.ptr (by rw [← ok.len]; simp)) h
section
variable {X : Cx} {elt : Expr} {ifs : List Expr} {tg iter : Expr} {scope : Scope} {te : Shared → Hp → Addr → List (Str × Addr) → List Addr → TE} {Te : DTE} {tt : Shared → Hp → Addr → List (Str × Addr) → List Addr → TT} {T : DTT}
  {g : Shared → Hp → Addr → List (Str × Addr) → List Addr → TG} {G : DTG} {ts : List Nat} {wi : Shared → Hp → Addr → List (Str × Addr) → List Addr → TI} {Wi : DTI}
/-- .. whatever the block's own places are -/
def uniE (te : Shared → Hp → Addr → List (Str × Addr) → List Addr → TE) : TE := fun σ H Q => ∀ s h C cl fp, te s h C cl fp σ H Q
def uniT (tt : Shared → Hp → Addr → List (Str × Addr) → List Addr → TT) : TT := fun σ H Q => ∀ s h C cl fp, tt s h C cl fp σ H Q
def uniG (g : Shared → Hp → Addr → List (Str × Addr) → List Addr → TG) : TG := fun v σ H Q => ∀ s h C cl fp, g s h C cl fp v σ H Q
def uniI (wi : Shared → Hp → Addr → List (Str × Addr) → List Addr → TI) : TI := fun σ H Q => ∀ s h C cl fp, wi s h C cl fp σ H Q
theorem uni_e (he : ∀ (s : Shared) (H : Hp) (C : Addr) (cl : List (Str × Addr)) (fp : List Addr), DE (X.blk s H scope (compEnvC scope cl C X.env) fp) W0 elt (te s H C cl fp) Te) (s : Shared) (H : Hp) (C : Addr) (cl : List (Str × Addr)) (fp : List Addr) : DE (X.blk s H scope (compEnvC scope cl C X.env) fp) W0 elt (uniE te) Te :=
  ⟨⟨fun pins s1 σ H1 Q I h => (he s H C cl fp).pe.run pins s1 σ H1 Q I (h s H C cl fp)⟩, fun Z σ H F α ρ M Φ Ψ Q ok re h k kx s' H' C' cl' fp' => (he s' H' C' cl' fp').snd Z σ H F α ρ M Φ Ψ Q ok re h k kx⟩
theorem uni_t (he : ∀ (s : Shared) (H : Hp) (C : Addr) (cl : List (Str × Addr)) (fp : List Addr), DTs (X.blk s H scope (compEnvC scope cl C X.env) fp) ifs (tt s H C cl fp) T) (s : Shared) (H : Hp) (C : Addr) (cl : List (Str × Addr)) (fp : List Addr) : DTs (X.blk s H scope (compEnvC scope cl C X.env) fp) ifs (uniT tt) T :=
  ⟨⟨fun pins s1 σ H1 Q I h => (he s H C cl fp).pt.run pins s1 σ H1 Q I (h s H C cl fp)⟩, fun Z σ H F α ρ M Φ Ψ Q ok re h k kx s' H' C' cl' fp' => (he s' H' C' cl' fp').snd Z σ H F α ρ M Φ Ψ Q ok re h k kx⟩
theorem uni_g (he : ∀ (s : Shared) (H : Hp) (C : Addr) (cl : List (Str × Addr)) (fp : List Addr), DG (X.blk s H scope (compEnvC scope cl C X.env) fp) tg ts (g s H C cl fp) G) (s : Shared) (H : Hp) (C : Addr) (cl : List (Str × Addr)) (fp : List Addr) : DG (X.blk s H scope (compEnvC scope cl C X.env) fp) tg ts (uniG g) G :=
  ⟨⟨fun pins s1 σ H1 v u Q I r h => (he s H C cl fp).pg.run pins s1 σ H1 v u Q I r (h s H C cl fp)⟩, fun Z σ H F α ρ M v d Ξ R ok re r h k s' H' C' cl' fp' => (he s' H' C' cl' fp').snd Z σ H F α ρ M v d Ξ R ok re r h k⟩
theorem uni_i (he : ∀ (s : Shared) (H : Hp) (C : Addr) (cl : List (Str × Addr)) (fp : List Addr), DI (X.blk s H scope (compEnvC scope cl C X.env) fp) W0 tg iter (wi s H C cl fp) Wi) (s : Shared) (H : Hp) (C : Addr) (cl : List (Str × Addr)) (fp : List Addr) : DI (X.blk s H scope (compEnvC scope cl C X.env) fp) W0 tg iter (uniI wi) Wi :=
  ⟨⟨fun pins s1 σ H1 R I h => (he s H C cl fp).pi.run pins s1 σ H1 R I (h s H C cl fp)⟩, fun Z σ H F α ρ M Φ Ψ R ok re h k kx s' H' C' cl' fp' => (he s' H' C' cl' fp').snd Z σ H F α ρ M Φ Ψ R ok re h k kx⟩
end
section
variable {elt iter : Expr} {ifs : List Expr} {scope : Scope} {own : List (Str × Nat)} {wi : TI} {Wi : DTI} {ts : List Nat} {G : DTG} {T : DTT} {te : Shared → Hp → Addr → List (Str × Addr) → List Addr → TE} {Te : DTE} {tt : Shared → Hp → Addr → List (Str × Addr) → List Addr → TT} {g : Shared → Hp → Addr → List (Str × Addr) → List Addr → TG}
theorem de_lc (hc : X.calm = true) (hN : X.N.Nodup) (hi : DI X W tg iter wi Wi) (ok : BlkOk X.N X.env.scope scope own)
    (hg : ∀ (s : Shared) (H : Hp) (C : Addr) (cl : List (Str × Addr)) (fp : List Addr), DG (X.blk s H scope (compEnvC scope cl C X.env) fp) tg ts (g s H C cl fp) G)
    (ht : ∀ (s : Shared) (H : Hp) (C : Addr) (cl : List (Str × Addr)) (fp : List Addr), DTs (X.blk s H scope (compEnvC scope cl C X.env) fp) ifs (tt s H C cl fp) T)
    (he : ∀ (s : Shared) (H : Hp) (C : Addr) (cl : List (Str × Addr)) (fp : List Addr), DE (X.blk s H scope (compEnvC scope cl C X.env) fp) W0 elt (te s H C cl fp) Te) (hts : ∀ i ∈ ts, i ∈ own.map (·.2) := by decide) (hs : ∀ x, foldedSetIterable iter X.env x = pure x := by intro _; rfl) :
    DE X W (.ListComp elt [⟨tg, iter, ifs, 0⟩] scope pos) (tLc wi (uniG g) (uniT tt) (uniE te) (own.map (·.2))) (dLc Wi G T Te (own.map (·.2))) :=
  ⟨pe_lc hc hN hi.pi ok (fun s H C cl fp => (uni_g hg s H C cl fp).pg) (fun s H C cl fp => (uni_t ht s H C cl fp).pt) (fun s H C cl fp => (uni_e he s H C cl fp).pe) hs, fun Z σ H F α ρ M Φ Ψ Q ok' re h k kx =>
    snd_lc hts hi.snd (uni_g hg {} (fun _ => none) 0 [] []).snd (uni_t ht {} (fun _ => none) 0 [] []).snd (uni_e he {} (fun _ => none) 0 [] []).snd ok' re h kx (fin_lst k)⟩
end
end
end DL

set_option Elab.async false
set_option linter.all false
set_option autoImplicit false
set_option maxRecDepth 100000
set_option maxHeartbeats 2000000
/-! # Defs called, exceptions, cells' methods, two clauses, enumerate -/
namespace DL
open PySem PySem.Spec L2
open PyProof.Rows hiding St

/-! ## what a def promises over data -/
abbrev DSp := List D → Ms → DK → DX → Prop
def lift (K : PySem.W.Frag) (sp : DSp) : Sp := fun vs H Q E => ∃ Z F α M ds Φ Ψ, Ok K Z F α M H ∧ RpL K F α vs ds ∧ sp ds M Φ Ψ ∧ KE K Z F α Φ Q ∧
  ∀ cls d H' F' α' x M', Ext F α F' α' → Ok K Z F' α' M' H' → RpX K F' α' x cls d → Ψ x M' → E cls d H'
/-- the def x of the text, at level k -/
structure Has (P : Program) (w : World) (K : PySem.W.Frag) (mg : Str → Option Value) (base : Heap) (k : Nat) (x : Str) (st : Stmt) (ps : List Str) (sp : DSp) : Prop where
  ex : ∃ f fd, mg x = some (.ref f) ∧ PySem.W.keepIn K (.ref f) = true ∧ Fun K x x st f fd ∧ Binds K fd ps [] ∧ FnOk P w K mg base (L2.CX P w) k f fd ps (lift K sp)
/-- the def as the top has left it -/
structure Def (K : PySem.W.Frag) (mg : Str → Option Value) (x : Str) (st : Stmt) (ps : List Str) : Prop where
  ex : ∃ f fd, mg x = some (.ref f) ∧ PySem.W.keepIn K (.ref f) = true ∧ Fun K x x st f fd ∧ Binds K fd ps []
/-- in a row: what is wanted, the cells behind let go -/
def Drop (Φ : DK) : DK := fun d M => Φ d M ∨ ∃ M0 N, M = M0 ++ N ∧ M0.all (MO.cl M0.length) = true ∧ D.cl M0.length d = true ∧ Φ d M0
theorem Drop.of {Φ : DK} {d : D} {M : Ms} (h : Φ d M) : Drop Φ d M := .inl h
theorem Drop.cut {Φ : DK} {d : D} {M0 N : Ms} (c : M0.all (MO.cl M0.length) = true) (cd : D.cl M0.length d = true) (h : Φ d M0) : Drop Φ d (M0 ++ N) := .inr ⟨M0, N, rfl, c, cd, h⟩
theorem KE.drop {K : PySem.W.Frag} {Z : Zs} {F : Hp} {α : List Addr} {Φ : DK} {Q : VK} (k : KE K Z F α Φ Q) (n : Nat) (hn : α.length = n) : ∀ v H' F' α' d M', Ext F α F' α' → Ok K Z F' α' M' H' → Rp K F' α' v d → (Φ d M' ∨ ∃ M0 N, M' = M0 ++ N ∧ n ≤ M0.length ∧ M0.all (MO.cl M0.length) = true ∧ D.cl M0.length d = true ∧ Φ d M0) → Q v H' := by
  intro v H' F' α' d M' x ok r h
  rcases h with h | ⟨M0, N, rfl, hle, c, cd, h⟩
  · exact k v H' F' α' d M' x ok r h
  · have hl : α'.length = M0.length + N.length := by rw [ok.len, List.length_append]
    have e1 : α' = α'.take M0.length ++ α'.drop M0.length := (List.take_append_drop _ _).symm
    have l1 : (α'.take M0.length).length = M0.length := by rw [List.length_take]; omega
    rw [e1] at ok r
    have ok0 := ok.cut l1 c
    have r0 : Rp K F' (α'.take M0.length) v d := r.cut (by rw [l1]; exact cd)
    refine k v H' F' _ d M0 ⟨x.same, ?_⟩ ok0 r0 h
    obtain ⟨β, rfl⟩ := x.pre
    exact ⟨β.take (M0.length - α.length), by rw [List.take_append, List.take_of_length_le (by omega)]⟩
/-- in a def's rt: the cells of its own go -/
def DropN (n : Nat) (Φ : DK) : DK := fun d M' => Φ d M' ∨ ∃ M0 N, M' = M0 ++ N ∧ n ≤ M0.length ∧ M0.all (MO.cl M0.length) = true ∧ D.cl M0.length d = true ∧ Φ d M0
theorem DropN.of {n : Nat} {Φ : DK} {d : D} {M : Ms} (h : Φ d M) : DropN n Φ d M := .inl h
theorem DropN.cut {n : Nat} {Φ : DK} {d : D} {M M0 : Ms} (N : Ms) (e : M = M0 ++ N) (hn : n ≤ M0.length) (c : M0.all (MO.cl M0.length) = true) (cd : D.cl M0.length d = true) (h : Φ d M0) : DropN n Φ d M := .inr ⟨M0, N, e, hn, c, cd, h⟩
def startR (N : List Str) (ds : List D) : Rho := ds.map some ++ List.replicate (N.length - ds.length) none
theorem start_ok {K : PySem.W.Frag} {F : Hp} {α : List Addr} {N : List Str} {vs : List V} {ds : List D} (r : RpL K F α vs ds) : RpE K F α (startR N ds) (L2.start N vs) := by
  have hl := r.length
  refine ⟨by unfold startR L2.start; simp [hl], fun i d e => ?_⟩
  unfold startR at e
  unfold L2.start
  by_cases hi : i < ds.length
  · rw [List.getElem?_append_left (by simpa using hi), List.getElem?_map] at e
    cases q : ds[i]? with
    | none => rw [q] at e; cases e
    | some d0 =>
      rw [q] at e
      cases e
      obtain ⟨v, hv, rv⟩ := r.get q
      exact ⟨v, by rw [List.getElem?_append_left (by simpa [hl] using hi), List.getElem?_map, hv]; rfl, rv⟩
  · rw [List.getElem?_append_right (by simpa using hi), List.getElem?_replicate] at e
    split at e <;> cases e
/-- the ends of a def's body -/
def fnEnds (n : Nat) (Φ : DK) (Ψ : DX) : DEnds := ⟨fun _ M' => DropN n Φ .non M', DropN n Φ, fun _ _ => False, fun _ _ => False, fun x _ M' => Ψ x M'⟩
section
variable {P : Program} {w : World} {K : PySem.W.Frag} {mg : Str → Option Value} {base : Heap}
/-- THE RULE for a def -/
theorem Def.has {x : Str} {st : Stmt} {N ps : List Str} {k : Nat} {sp : DSp} (Df : Def K mg x st ps) (S : FnScope N ps (defScope st)) (len : ∀ ds M Φ Ψ, sp ds M Φ Ψ → ds.length = ps.length)
    (body : ∀ (f : Addr) (cdv : Value) (A : Around) (outer : List Env) (s : Shared) (H : Hp) (E : XK), Room k (A.deeper (envOfC x (defScope st) s.heap.objs.size f cdv)) →
      ∃ t T, DSs (cxOf (L2.CX P w) P w K mg base N x (defScope st) f cdv A outer s H E) (fun cls d _ H' => E cls d H') (defBody st) t T ∧ ∀ ds M Φ Ψ, sp ds M Φ Ψ → T (fnEnds M.length Φ Ψ) (startR N ds) M) :
    Has P w K mg base (k + 1) x st ps sp := by
  obtain ⟨f, fd, hm, hk, F, B⟩ := Df.ex
  refine ⟨f, fd, hm, hk, F, B, ?_⟩
  refine F.okX S (fun vs H Q E ⟨Z, F', α, M, ds, Φ, Ψ, ok, r, h, _, _⟩ => by rw [r.length]; exact len ds M Φ Ψ h) (fun cdv A outer s H vs Q E hr h => ?_)
  obtain ⟨Z, F', α, M, ds, Φ, Ψ, ok, r, h, ke, kx⟩ := h
  obtain ⟨t, T, d, run⟩ := body f cdv A outer s H E hr
  refine ⟨t, d.ps, d.snd Z (L2.start N vs) H F' α _ M _ _ ok (start_ok r) (run ds M Φ Ψ h) ⟨?_, ?_, ?_, ?_, ?_⟩⟩
  · exact fun σ' H' F1 α1 ρ' M' x ok' _ h' => ke.drop M.length ok.len _ _ _ _ _ _ x ok' .non h'
  · exact ke.drop M.length ok.len
  · exact fun _ _ _ _ _ _ _ _ _ h' => False.elim h'
  · exact fun _ _ _ _ _ _ _ _ _ h' => False.elim h'
  · exact fun cls d σ' H' F1 α1 x ρ' M' e ok' _ rx h' => kx cls d H' F1 α1 x M' e ok' rx h'
theorem Has.mono {x : Str} {st : Stmt} {ps : List Str} {j k : Nat} {sp : DSp} (h : Has P w K mg base j x st ps sp) (hk : j ≤ k) : Has P w K mg base k x st ps sp := by
  obtain ⟨f, fd, a, b, c, d, e⟩ := h.ex
  exact ⟨f, fd, a, b, c, d, e.mono hk⟩
/-- .. a weaker promise -/
theorem Has.imp {x : Str} {st : Stmt} {ps : List Str} {k : Nat} {sp sp' : DSp} (h : Has P w K mg base k x st ps sp) (hi : ∀ ds M Φ Ψ, sp' ds M Φ Ψ → sp ds M Φ Ψ) : Has P w K mg base k x st ps sp' := by
  obtain ⟨f, fd, a, b, c, d, e⟩ := h.ex
  exact ⟨f, fd, a, b, c, d, e.imp fun vs H Q E ⟨Z, F', α, M, ds, Φ, Ψ, ok, r, h, ke, kx⟩ => ⟨Z, F', α, M, ds, Φ, Ψ, ok, r, hi _ _ _ _ h, ke, kx⟩⟩
end
section
variable {X : Cx} {W : WX} {pos p : Pos} {e : Expr} {es : List Expr} {ta : TA} {Ta : DTA} {k j : Nat} {x : Str} {st : Stmt} {ps : List Str} {sp : DSp}
def dCall (sp : DSp) (T : DTA) : DTE := fun ρ M Φ Ψ => T ρ M (fun ds M1 => sp ds M1 Φ Ψ) Ψ
theorem snd_call {K : PySem.W.Frag} (ha : SndA K W ta Ta) : SndE K W (tCallS (lift K sp) (WE W) ta) (dCall sp Ta) := fun Z σ H F α ρ M Φ Ψ Q ok re h k kx =>
  ha Z σ H F α ρ M _ Ψ _ ok re h (fun vs H1 F1 α1 ds M1 x1 ok1 r1 h1 => ⟨Z, F1, α1, M1, ds, Φ, Ψ, ok1, r1, h1, k.mono x1, fun cls d H' F' α' y M' x' ok' rx h' => kx.mono x1 cls d H' F' α' y M' x' ok' rx h'⟩) kx
theorem de_call (h : Has X.prog X.w X.K X.mg X.base k x st ps sp) (hr : Room j X.A) (tk : Takes X W) (ha : DA X W (e :: es) ta Ta) (hk : k ≤ j := by decide) (hg : Gl X x := by rfl)
    (hdb : (x == ("__debug__" : Str)) = false := by decide) (he : starEach (e :: es) X.env = (false, eval e X.env) :: starEach es X.env := by rfl) (hpl : (backTo pos (starEach es X.env)).any (·.1) = false := by rfl) :
    DE X W (.Call (.Name x p) (e :: es) [] pos) (tCallS (lift X.K sp) (WE W) ta) (dCall sp Ta) := by
  obtain ⟨f, fd, hm, kp, _, hb, F⟩ := h.ex
  exact ⟨pe_callS F (hr.mono hk) hg hm kp hb (fun σ => passAt tk σ) ha.pa hdb he hpl, snd_call ha.snd⟩
/-! ### all arguments by name, the last parameter first -/
def tCallR (sp : Sp) (E : L2.St → XK) (n : Nat) (tk : TA) : TE := fun σ H Q => tk σ H fun zs H2 => zs.length = n ∧ sp zs.reverse H2 Q (E σ)
theorem vals_rev : ∀ {vs : List V} {us : List Value}, Vals vs us → Vals vs.reverse us.reverse
  | _, _, .nil => by simpa using (Paired.nil : Vals [] [])
  | _, _, .cons r t => by
    rw [List.reverse_cons, List.reverse_cons]
    exact (vals_rev t).append (.cons r .nil)
theorem pe_callR {f : Addr} {fd : FuncData} {ps ks : List Str} {sp : Sp} {kws : List Keyword} {tkw : TA} {CX : CXT} {E : L2.St → XK} (F : FnOk X.prog X.w X.K X.mg X.base CX k f fd ps sp) (hr : Room k X.A) (hg : Gl X x) (hm : X.mg x = some (.ref f)) (hk : PySem.W.keepIn X.K (.ref f) = true)
    (hb : ∀ (s : Shared) (ws : List Value), ws.length = ks.length → BindsTo s fd ⟨[], ks.zip ws⟩ (ps.zip ws.reverse)) (hx : ∀ σ, PassesAt CX X σ (E σ)) (hkw : PK X kws tkw)
    (hall : (backToKw pos (keywordEach kws X.env)).all (·.1.isSome) = true) (hks : (backToKw pos (keywordEach kws X.env)).filterMap (·.1) = ks) (hdb : (x == ("__debug__" : Str)) = false)
    (hpl : ((backTo pos (starEach [] X.env)).any (·.1) || (backToKw pos (keywordEach kws X.env)).any (·.1.isNone)) = false) : PE X (.Call (.Name x p) [] kws pos) (tCallR sp E ks.length tkw) := by
  refine ⟨fun pins s σ H Q I h => wpAny_Call_Name_kw (ld_glob I hg hm ?_ hdb)⟩
  refine PySem.W.callWith_KW0 (h₀ := X.base) I.ok.mod.kin hk hall ?_ hpl
  refine thn (hkw.run pos pins s σ H _ I h) ?_
  rintro ws s2 ⟨zs, H2, J, rz, l2, q2⟩
  refine ⟨J.kIn, ?_⟩
  rw [hks]
  have lw : ws.length = ks.length := rz.length.symm.trans l2
  refine wpAny_call (codeAny_mono (F.run X.A X.stack s2 H2 ⟨[], ks.zip ws⟩ ws.reverse zs.reverse Q (E σ) hr J.env0 (hb s2 ws lw) (vals_rev rz) q2) ?_)
  intro r s' q
  cases r with
  | error er => exact hx σ pins H2 s2 er s' J q
  | ok fl =>
    cases fl with
    | ret u => exact J.after q
    | _ => exact False.elim q
def dCallR (sp : DSp) (n : Nat) (T : DTA) : DTE := fun ρ M Φ Ψ => T ρ M (fun ds M1 => ds.length = n ∧ sp ds.reverse M1 Φ Ψ) Ψ
theorem dk_nil : DKw X W [] tNil dNil := ⟨pk_nil, snd_nil⟩
theorem dk_cons {nm : Option Str} {kpos : Pos} {kws : List Keyword} {te : TE} {Te : DTE} (ha : DE X W e te Te) (hr : DKw X W kws ta Ta) : DKw X W (⟨nm, e, kpos⟩ :: kws) (tCons te ta) (dCons Te Ta) := ⟨pk_cons ha.pe hr.pk, snd_cons ha.snd hr.snd⟩
theorem de_callR {kws : List Keyword} {ks : List Str} (h : Has X.prog X.w X.K X.mg X.base k x st ps sp) (hr : Room j X.A) (tk : Takes X W) (ha : DKw X W kws ta Ta)
    (hb : ∀ (kV doc pm : Value) (an : Option Addr) (cdv ct : Value) (ws : List Value), ws.length = ks.length → bindArgs (PySem.W.fnOf x x (defArgs st) (defBody st) (defScope st) .none kV doc pm an cdv ct) ⟨[], ks.zip ws⟩ = pure (ps.zip ws.reverse))
    (hk : k ≤ j := by decide) (hg : Gl X x := by rfl)
    (hall : (backToKw pos (keywordEach kws X.env)).all (·.1.isSome) = true := by rfl) (hks : (backToKw pos (keywordEach kws X.env)).filterMap (·.1) = ks := by rfl) (hdb : (x == ("__debug__" : Str)) = false := by decide)
    (hpl : ((backTo pos (starEach [] X.env)).any (·.1) || (backToKw pos (keywordEach kws X.env)).any (·.1.isNone)) = false := by rfl) :
    DE X W (.Call (.Name x p) [] kws pos) (tCallR (lift X.K sp) (WE W) ks.length ta) (dCallR sp ks.length Ta) := by
  obtain ⟨f, fd, hm, kp, Fu, _, F⟩ := h.ex
  obtain ⟨oc, od, kV, doc, pm, an, cdv, ct, osl, rfl, _, _⟩ := Fu.ex
  refine ⟨pe_callR F (hr.mono hk) hg hm kp (fun s ws hl => .of_eq (hb kV doc pm an cdv ct ws hl)) (fun σ => passAt tk σ) ha.pk hall hks hdb hpl, fun Z σ H F α ρ M Φ Ψ Q ok re h k kx => ?_⟩
  exact ha.snd Z σ H F α ρ M _ Ψ _ ok re h (fun vs H1 F1 α1 ds M1 x1 ok1 r1 h1 => ⟨by rw [r1.length]; exact h1.1, Z, F1, α1, M1, ds.reverse, Φ, Ψ, ok1, r1.reverse, h1.2, k.mono x1, fun cls d H' F' α' y M' x' ok' rx h' => kx.mono x1 cls d H' F' α' y M' x' ok' rx h'⟩) kx
end

/-! ## raise C(e), C with one field -/
def spInit (K : PySem.W.Frag) (C : Addr) (f : Str) : Sp := fun vs H Q _ => ∃ a v, vs = [.ref a, v] ∧ H a = some (exo a C none) ∧ ∀ dx, H dx = none → dx ≠ a → Q .non (upd (upd H dx (exd dx [(f, v)])) a (exo a C (some dx)))
structure Xc (P : Program) (w : World) (K : PySem.W.Frag) (mg : Str → Option Value) (base : Heap) (x f : Str) (C : Addr) : Prop where
  gC : mg x = some (.ref C)
  ox : OexC K C
  no : PySem.W.findIn K (.ref C) f = some none
  xf : XfC K C
  ini : ∃ fI fd, PySem.W.findIn K (.ref C) "__init__" = some (some (.ref fI)) ∧ PySem.W.typeIn K (.ref fI) = some (.type "function") ∧ Binds K fd ["self", f] [] ∧ FnOk P w K mg base CX0 1 fI fd ["self", f] (spInit K C f)
/-- __init__: self.f = f -/
theorem init_ok {P : Program} {w : World} {K : PySem.W.Frag} {mg : Str → Option Value} {base : Heap} {q f : Str} {sI : Stmt} {fI C : Addr} {fd : FuncData} {p1 p2 p3 p4 : Pos} (F : Fun K "__init__" q sI fI fd) (S : FnScope ["self", f] ["self", f] (defScope sI)) (T : OexC K C) (no : PySem.W.findIn K (.ref C) f = some none)
    (hb : defBody sI = [.Assign [.Attribute (.Name "self" p1) f p2] (.Name f p3) p4]) (v0 : (defScope sI).names.lookup ("self" : Str) = some NameKind.local) (v1 : (defScope sI).names.lookup f = some NameKind.local)
    (hd : (f == ("__debug__" : Str)) = false) (hcd : (f == ("__classdict__" : Str)) = false) : FnOk P w K mg base CX0 1 fI fd ["self", f] (spInit K C f) := by
  refine F.ok S (fun vs H Q E ⟨a, v, e, _⟩ => by rw [e]; rfl) (fun cdv A outer s H vs Q E hr h => ?_)
  obtain ⟨a, v, rfl, ha, k⟩ := h
  refine ⟨tOst K f (tVar 0) (tVar 1), ?_, ?_⟩
  · rw [hb]
    exact pss_one (ps_ost (pe_var (i := 0) rfl (.inl v0)) (pe_var (i := 1) rfl (.inl v1) hd hcd))
  · exact ⟨v, rfl, .ref a, rfl, a, C, rfl, T, no, .inl ⟨ha, fun dx n ne => k dx n ne⟩⟩
section
variable {X : Cx} {W : WX} {pos p pos2 : Pos} {e : Expr} {te : TE} {Te : DTE} {j : Nat} {x f : Str} {C : Addr}
def dRaise (C : Addr) (f : Str) (T : DTE) : DTS := fun E ρ M => T ρ M (fun d M1 => E.ex ⟨.ref C, some (f, d)⟩ ρ M1) (fun x M1 => E.ex x ρ M1)
theorem ds_raise (hx : Xc X.prog X.w X.K X.mg X.base x f C) (hr : Room j X.A) (tk : Takes X W) (ha : DE X W e te Te) (hc : X.calm = true) (hj : 2 ≤ j := by decide) (hg : Gl X x := by rfl) (hdb : (x == ("__debug__" : Str)) = false := by decide)
    (he : starEach [e] X.env = (false, eval e X.env) :: starEach [] X.env := by rfl) (hpl : (backTo pos (starEach [] X.env)).any (·.1) = false := by rfl) :
    DS X W (.Raise (some (.Call (.Name x p) [e] [] pos)) none pos2) (fun _ σ H => tMkO C (spInit X.K C f) [] (tCons te tNil) σ H fun cls d H' => W cls d σ H') (dRaise C f Te) := by
  obtain ⟨fI, fd, iC, tI, bI, FI⟩ := hx.ini
  refine ⟨ps_raise hc tk (pmk_oex hx.ox iC tI FI (hr.mono hj) bI .nil pass0 hg hx.gC (pa_cons ha.pe pa_nil he) hdb he hpl), fun Z σ H F α ρ M E D ok re h k => ?_⟩
  refine ha.snd Z σ H F α ρ M _ _ _ ok re h (fun v H1 F1 α1 d M1 x1 ok1 r1 h1 => ?_) (k.kx re)
  refine ⟨(by decide : 1 ≤ 1000), fun a na => ⟨a, v, rfl, upd_same, fun dx ndx ne => ⟨rfl, dx, [(f, v)], upd_same, ?_, ?_, ?_⟩⟩⟩
  · rw [upd_ne ne, upd_same]
  · rwa [upd_ne ne] at ndx
  · have nd1 : H1 dx = none := by rwa [upd_ne ne] at ndx
    have eq : upd (L2.del (upd (upd (upd H1 a (exo a C none)) dx (exd dx [(f, v)])) a (exo a C (some dx))) a) dx (.xd [(f, v)]) = upd H1 dx (.xd [(f, v)]) := by
      funext b
      by_cases hb : b = dx
      · rw [hb, upd_same, upd_same]
      · rw [upd_ne hb, upd_ne hb]
        by_cases hba : b = a
        · rw [hba, L2.del_same, na]
        · rw [L2.del_ne hba, upd_ne hba, upd_ne hb, upd_ne hba]
    rw [eq]
    have ex : Ext F1 α1 (upd F1 dx (.xd [(f, v)])) α1 := Ext.upd (ok1.free nd1)
    exact k.ex _ _ _ _ _ _ ⟨.ref C, some (f, d)⟩ _ _ (x1.trans ex) (ok1.new nd1) (re.mono (x1.trans ex)) ⟨rfl, dx, v, rfl, upd_same, r1.mono ex⟩ h1
end

/-! ## try: .. except X as n: .. except Y as n: .. -/
section
variable {X : Cx} {pos : Pos}
/-- what the clauses wish of an exception, one after another; a named one's slot is cleared behind its suite -/
def wCl (K : PySem.W.Frag) (i : Nat) (Wout : WX) (D : Ends) : List (Value × (Addr → Value → Option Addr → TS)) → WX
  | [] => Wout
  | (c, ts) :: r => fun cls d σ H => ∃ b, PySem.W.exmOne K cls c = some b ∧
      (b = true → ∀ a, H a = none → ts a cls d { nx := fun σ' H' => D.nx (σ'.set i none) H', rt := D.rt, bk := fun σ' H' => D.bk (σ'.set i none) H', ct := fun σ' H' => D.ct (σ'.set i none) H' } (σ.set i (some (.ref a))) H) ∧ (b = false → wCl K i Wout D r cls d σ H)
inductive ClsOk (X : Cx) (n : Str) : List ExceptHandler → List (Value × (Addr → Value → Option Addr → TS)) → Prop
  | nil : ClsOk X n [] []
  | cons {x : Str} {c : Value} {ts : Addr → Value → Option Addr → TS} {b₀ : Stmt} {suite : List Stmt} {np pos' : Pos} {hds : List ExceptHandler} {l : List (Value × (Addr → Value → Option Addr → TS))} (hc : Names X x c)
      (hsu : ∀ (a : Addr) (oe : Obj) (cls : Value) (d : Option Addr) (pn : List (Addr × Obj)), Zc cls d oe → (∃ vs, oe.data = .fields vs) → PSs (X.suite a ((a, oe) :: pn)) (b₀ :: suite) (ts a cls d)) (r : ClsOk X n hds l) :
      ClsOk X n (.ExceptHandler (some (.Name x np)) (some n) (b₀ :: suite) pos' :: hds) ((c, ts) :: l)
variable {n : Str} {i : Nat} {body : List Stmt} {h₀ : ExceptHandler} {hds : List ExceptHandler} {l : List (Value × (Addr → Value → Option Addr → TS))} {tb : WX → TS} {Wout : WX}
theorem ps_try_cl (hs : X.stack = X.env :: X.outer) (hf : X.env.frame = some X.env.locals) (hN : X.N.Nodup) (hi : X.N[i]? = some n) (hln : X.env.kindOf n = some .local) (tk : Takes X Wout)
    (hb : ∀ (W : WX) (pn : List (Addr × Obj)) (xe : Value → Shared → Prop), Takes (X.tr pn xe) W → PassesOwn (model X.prog X.w) X.A X.env xe → PSs (X.tr pn xe) body (tb W))
    (hh : ClsOk X n (h₀ :: hds) l) : PS X (.Try body (h₀ :: hds) [] [] pos) (fun D σ H => tb (wCl X.K i Wout D l) D σ H) := by
  constructor
  intro pins s σ H D I0 start
  have okX := I0.ok
  have frs0 : X.A.frames = some (X.env :: X.outer) := by rw [okX.frames, hs]
  have locN : Loc X.env.scope n := Or.inl hln
  apply wpAny_Try_except
  have run := (hb (wCl X.K i Wout D l) (X.pn ++ pins) (fun ev t₁ => wpAny (model X.prog X.w) X.A (noteFrame ev X.env)
      (fun _ t₂ => wpAny (model X.prog X.w) X.A (setFlight ev none) (fun _ t₃ => wpAny (model X.prog X.w) X.A (handleBy ev X.env (h₀ :: hds)) (SP X pins D) X.xe t₃) X.xe t₂) X.xe t₁) ?_ PassesOwn.looking).run [] s σ H D (I0.toTry _) start
  · refine wpAny_mono run ?_ (fun _ _ z => z)
    intro fl s1 q
    cases fl with
    | next => obtain ⟨σ1, H1, J, z⟩ := q; exact wpAny_execs_nil ⟨σ1, H1, J.ofTry okX, z⟩
    | brk => obtain ⟨σ1, H1, J, z⟩ := q; exact ⟨σ1, H1, J.ofTry okX, z⟩
    | cont => obtain ⟨σ1, H1, J, z⟩ := q; exact ⟨σ1, H1, J.ofTry okX, z⟩
    | ret u => obtain ⟨v, σ1, H1, J, rv, z⟩ := q; exact ⟨v, σ1, H1, J.ofTry okX, rv, z⟩
  · -- an exception of the body lands
    intro u s1 air
    obtain ⟨a, B, sI, pins1, σ1, H1, cls, d, rfl, J0, ground, up, sky, na, eos, bare, wish⟩ := air
    have J : Inv X pins σ1 H1 sI := J0.ofTry okX
    have sky1 : Sky B (X.env :: X.outer) a (Zc cls d) X.env.locals s1.heap := by rw [← hs]; exact sky
    show wpAny (model X.prog X.w) X.A (noteFrame (.ref a) X.env) _ _ _
    refine Sky.land Zc.steady frs0 hf sky1 ?_
    intro h3 fl3 up3
    have J3 : Inv X pins σ1 H1 { s1 with heap := h3 } := J.landed ground fl3.1 (up.trans up3) eos bare
    obtain ⟨oe3, vs3, at3, zc3, dat3⟩ := fl3.there
    have away : a ∉ frs (X.env :: X.outer) := fun hm => by
      obtain ⟨_, o', e', hnf⟩ := fl3.2.2.1.mem hm
      rw [at3] at e'
      cases e'
      exact hnf _ dat3
    have notL : a ≠ X.env.locals := fun z => away (List.mem_filterMap.mpr ⟨X.env, List.mem_cons_self, by rw [hf, z]⟩)
    have notF : a ∉ X.fs := fun hm => by
      obtain ⟨ev, hev, q⟩ := List.mem_filterMap.mp hm
      exact away (List.mem_filterMap.mpr ⟨ev, List.mem_cons_of_mem _ hev, q⟩)
    have S3 := J3.suite at3 dat3 na notL notF
    have each : ∀ {hs' : List ExceptHandler} {l' : List (Value × (Addr → Value → Option Addr → TS))}, ClsOk X n hs' l' → wCl X.K i Wout D l' cls d σ1 H1 → wpAny (model X.prog X.w) X.A (handleBy (.ref a) X.env hs') (SP X pins D) X.xe { s1 with heap := h3 } := by
      intro hs' l' hk
      induction hk with
      | nil =>
        intro out
        refine wpAny_handleBy_nil ?_
        obtain ⟨_, _, _, oe, vs, T, oT, ts', he, hz, hd, h1, hr⟩ := id fl3
        unfold PySem.passOn
        refine wpAny_bind (wpAny_field he hd h1 ?_)
        rw [if_neg (by simp : ¬ ((Value.ref T == Value.none) = true))]
        have last : wpAny (model X.prog X.w) X.A (setFlight (.ref a) X.env.frame) (fun _ t => wpAny (model X.prog X.w) X.A (throw (.ref a) : Sem Flow) (SP X pins D) X.xe t) X.xe { s1 with heap := h3 } := by
          rw [hf]
          refine HandSPX.setFlight_upZ fl3 fun h4 held up4 => wpAny_throw (tk _ _ ⟨a, B, sI, pins, σ1, H1, cls, d, rfl, J, ground, (up.trans up3).trans up4, .inr (.inr (by rw [hs]; exact held)), na, eos, bare, out⟩)
        first
          | exact wpAny_bind (wpAny_pure (wpAny_bind last))
          | exact wpAny_bind last
      | @cons x c ts b₀ suite np pos' hds2 l2 hc hsu r ih =>
        intro ⟨b, hexm, yes, no⟩
        refine wpAny_handleBy_cons (codeAny_handlers_test ?_) (by intro q; cases q)
        have LT : PySem.W.Looks (model X.prog X.w) h3 (typeOf (.ref a)) cls := fun A Q E s k q => wpAny_typeOf_ref (k _ _ at3) (by rw [zc3.1]; exact q)
        have LM := PySem.W.exm_one (M := model X.prog X.w) J3.kIn LT hexm
        have name : ∀ {Q : Value → Shared → Prop} {E : Value → Shared → Prop}, Q c { s1 with heap := h3 } → wpAny (model X.prog X.w) (X.A.mark (some (.ref a))) (eval (.Name x np) X.env) Q E { s1 with heap := h3 } := fun {Q E} q => by
          obtain ⟨hg, hdbg, hm | ⟨hm, hv, hnn⟩⟩ := hc
          · exact ld_glob (X := X.suite a ((a, oe3) :: (X.pn ++ pins))) S3 hg hm q hdbg
          · exact ld_blt (X := X.suite a ((a, oe3) :: (X.pn ++ pins))) S3 hg hm hv q hnn hdbg
        refine name (LM.here ?_)
        cases b with
        | true =>
          refine codeAny_handlers_suite_as (HandSPX.lands_againZ fl3 ?_)
          intro h4 fl4 up4
          have J4 : Inv X pins σ1 H1 { s1 with heap := h4 } := J.landed ground fl4.1 ((up.trans up3).trans up4) eos bare
          obtain ⟨oe4, vs4, at4, zc4, dat4⟩ := fl4.there
          refine store_ok (X := X.suite a ((a, oe4) :: (X.pn ++ pins))) (v := .ref a) (J4.suite at4 dat4 na notL notF) hN hi locN rfl ?_ (.inr hln)
          intro s5 S5
          refine wpAny_mono ((hsu a oe4 cls d (X.pn ++ pins) zc4 ⟨_, dat4⟩).run [] s5 _ H1 _ S5 (yes rfl a na)) ?_ (fun _ _ z => False.elim z)
          intro fl s6 q
          have leave : ∀ {σ6 : L2.St} {H6 : Hp} {Q : Shared → Prop}, Inv (X.suite a ((a, oe4) :: (X.pn ++ pins))) [] σ6 H6 s6 → (∀ s7, Inv X pins (σ6.set i none) H6 s7 → Q s7) →
              wpAny (model X.prog X.w) X.A (do bindName X.env n .none; unbindBehindTheSuite X.env n pos') (fun _ s7 => Q s7) X.xe s6 := fun S6 hq => gone_ok (S6.unsuite okX) hN hi hln hq
          cases fl with
          | next => obtain ⟨_, _, S6, z⟩ := q; exact leave S6 fun _ J7 => ⟨_, _, J7, z⟩
          | brk => obtain ⟨_, _, S6, z⟩ := q; exact leave S6 fun _ J7 => ⟨_, _, J7, z⟩
          | cont => obtain ⟨_, _, S6, z⟩ := q; exact leave S6 fun _ J7 => ⟨_, _, J7, z⟩
          | ret u => obtain ⟨_, _, _, S6, rv, z⟩ := q; exact leave S6 fun _ J7 => ⟨_, _, _, J7, rv, z⟩
        | false =>
          show wpAny _ X.A (handleBy (.ref a) X.env hds2) _ _ _
          exact ih (no rfl)
    exact each hh wish
end
/-! ### over data -/
/-- the caught exception as a value -/
def Ex.val (x : Ex) (a dd : Addr) : D := match x.fld with
  | none => .obj a
  | some (f, y) => .exn a dd f y
/-- a suite over data: ts as t, Ts as T, for every caught exception -/
abbrev DTCl := Addr → Value → Option Addr → DTS
def dCl (K : PySem.W.Frag) (i : Nat) (Ψ : Ex → Rho → Ms → Prop) (E : DEnds) : List (Value × DTCl) → Ex → Rho → Ms → Prop
  | [], x, ρ, M => Ψ x ρ M
  | (c, T) :: r, x, ρ, M => ∃ b, PySem.W.exmOne K x.cls c = some b ∧
      (b = true → ∀ a dd, T a x.cls (some dd) { nx := fun ρ' M' => E.nx (ρ'.set i none) M', rt := E.rt, bk := fun ρ' M' => E.bk (ρ'.set i none) M', ct := fun ρ' M' => E.ct (ρ'.set i none) M', ex := fun _ _ _ => False } (ρ.set i (some (x.val a dd))) M) ∧ (b = false → dCl K i Ψ E r x ρ M)
/-- .. whatever the thrown thing's object and the pinned ones are -/
def uniS (ts : Addr → Obj → Value → Option Addr → List (Addr × Obj) → TS) : Addr → Value → Option Addr → TS := fun a cls d D σ H => ∀ (oe : Obj) (pn : List (Addr × Obj)), Zc cls d oe → (∃ vs, oe.data = .fields vs) → ts a oe cls d pn D σ H
theorem uni_s {X : Cx} {sts : List Stmt} {ts : Addr → Obj → Value → Option Addr → List (Addr × Obj) → TS} {Ts : DTCl} (h : ∀ (a : Addr) (oe : Obj) (cls : Value) (d : Option Addr) (pn : List (Addr × Obj)), Zc cls d oe → (∃ vs, oe.data = .fields vs) → DSs (X.suite a ((a, oe) :: pn)) W0 sts (ts a oe cls d pn) (Ts a cls d))
    (a : Addr) (oe : Obj) (cls : Value) (d : Option Addr) (pn : List (Addr × Obj)) (hz : Zc cls d oe) (hf : ∃ vs, oe.data = .fields vs) : DSs (X.suite a ((a, oe) :: pn)) W0 sts (uniS ts a cls d) (Ts a cls d) :=
  ⟨⟨fun pins s σ H D I h' => (h a oe cls d pn hz hf).ps.run pins s σ H D I (h' oe pn hz hf)⟩, fun Z σ H F α ρ M E D ok re hh k oe' pn' hz' hf' => (h a oe' cls d pn' hz' hf').snd Z σ H F α ρ M E D ok re hh k⟩
inductive DClsOk (X : Cx) (n : Str) : List ExceptHandler → List (Value × (Addr → Value → Option Addr → TS)) → List (Value × DTCl) → Prop
  | nil : DClsOk X n [] [] []
  | cons {x : Str} {c : Value} {ts : Addr → Obj → Value → Option Addr → List (Addr × Obj) → TS} {Ts : DTCl} {b₀ : Stmt} {suite : List Stmt} {np pos' : Pos} {hds : List ExceptHandler} {l : List (Value × (Addr → Value → Option Addr → TS))} {L : List (Value × DTCl)} (hc : Names X x c)
      (hsu : ∀ (a : Addr) (oe : Obj) (cls : Value) (d : Option Addr) (pn : List (Addr × Obj)), Zc cls d oe → (∃ vs, oe.data = .fields vs) → DSs (X.suite a ((a, oe) :: pn)) W0 (b₀ :: suite) (ts a oe cls d pn) (Ts a cls d)) (r : DClsOk X n hds l L) :
      DClsOk X n (.ExceptHandler (some (.Name x np)) (some n) (b₀ :: suite) pos' :: hds) ((c, uniS ts) :: l) ((c, Ts) :: L)
theorem DClsOk.ok {X : Cx} {n : Str} {hds : List ExceptHandler} {l : List (Value × (Addr → Value → Option Addr → TS))} {L : List (Value × DTCl)} (h : DClsOk X n hds l L) : ClsOk X n hds l := by
  induction h with
  | nil => exact .nil
  | cons hc hsu _ ih => exact .cons hc (fun a oe cls d pn z f => (uni_s hsu a oe cls d pn z f).ps) ih
theorem DClsOk.snd {X : Cx} {n : Str} {hds : List ExceptHandler} {l : List (Value × (Addr → Value → Option Addr → TS))} {L : List (Value × DTCl)} (h : DClsOk X n hds l L) {i : Nat} {Wout : WX} {D : Ends} {E : DEnds} {Z : Zs} {F H : Hp} {α : List Addr} {σ : L2.St} {ρ : Rho} {M : Ms} {x : Ex} {cls : Value} {d : Option Addr}
    (ok : Ok X.K Z F α M H) (re : RpE X.K F α ρ σ) (rx : RpX X.K F α x cls d) (k : KS X.K Z F α Wout E D) (hd : x.fld = none → ∃ dd, d = some dd) (hh : dCl X.K i E.ex E L x ρ M) : wCl X.K i Wout D l cls d σ H := by
  induction h with
  | nil => exact k.ex _ _ _ _ _ _ _ _ _ Ext.refl ok re rx hh
  | @cons y c ts Ts b₀ suite np pos' hds l L hc hsu r ih =>
    obtain ⟨b, e, yes, no⟩ := hh
    obtain ⟨ec, rf⟩ := rx
    subst ec
    refine ⟨b, e, fun hb a na => ?_, fun hb => ih (no hb)⟩
    have go : ∀ dd, d = some dd → Rp X.K F α (.ref a) (x.val a dd) → uniS ts a x.cls d { nx := fun σ' H' => D.nx (σ'.set i none) H', rt := D.rt, bk := fun σ' H' => D.bk (σ'.set i none) H', ct := fun σ' H' => D.ct (σ'.set i none) H' } (σ.set i (some (.ref a))) H := fun dd ed r => by
      subst ed
      have sn := (uni_s hsu a { cls := x.cls, dict := some dd, data := .fields #[] } x.cls (some dd) [] ⟨rfl, rfl⟩ ⟨_, rfl⟩).snd
      refine sn Z _ H F α _ M _ _ ok (re.set r) (yes hb a dd) ⟨?_, k.rt, ?_, ?_, fun _ _ _ _ _ _ _ _ _ _ _ _ _ z => z⟩
      · exact fun σ' H' F' α' ρ' M' x' ok' re' z => k.nx _ _ _ _ _ _ x' ok' re'.clear z
      · exact fun σ' H' F' α' ρ' M' x' ok' re' z => k.bk _ _ _ _ _ _ x' ok' re'.clear z
      · exact fun σ' H' F' α' ρ' M' x' ok' re' z => k.ct _ _ _ _ _ _ x' ok' re'.clear z
    cases ef : x.fld with
    | none =>
      obtain ⟨dd, ed⟩ := hd ef
      exact go dd ed (by unfold Ex.val; rw [ef]; exact .obj a)
    | some fy =>
      obtain ⟨f, y⟩ := fy
      rw [ef] at rf
      obtain ⟨dd, v, ed, hx, rv⟩ := rf
      exact go dd ed (by unfold Ex.val; rw [ef]; exact .exn hx rv)
section
variable {X : Cx} {W : WX} {pos : Pos}
/-- the body's exceptions all bear a field -/
def dTry (K : PySem.W.Frag) (i : Nat) (B : DTS) (L : List (Value × DTCl)) : DTS := fun E ρ M => B { E with ex := fun x ρ' M' => x.fld ≠ none ∧ dCl K i E.ex E L x ρ' M' } ρ M
/-- .. whatever the pinned ones and the way out are -/
def uniB (X : Cx) (tb : WX → List (Addr × Obj) → (Value → Shared → Prop) → TS) : WX → TS := fun W' D σ H => ∀ (pn : List (Addr × Obj)) (xe : Value → Shared → Prop), Takes (X.tr pn xe) W' → PassesOwn (model X.prog X.w) X.A X.env xe → tb W' pn xe D σ H
theorem uni_b {body : List Stmt} {tb : WX → List (Addr × Obj) → (Value → Shared → Prop) → TS} {B : DTS} (hb : ∀ (W' : WX) (pn : List (Addr × Obj)) (xe : Value → Shared → Prop), Takes (X.tr pn xe) W' → PassesOwn (model X.prog X.w) X.A X.env xe → DSs (X.tr pn xe) W' body (tb W' pn xe) B)
    (W' : WX) (pn : List (Addr × Obj)) (xe : Value → Shared → Prop) (t : Takes (X.tr pn xe) W') (p : PassesOwn (model X.prog X.w) X.A X.env xe) : DSs (X.tr pn xe) W' body (uniB X tb W') B :=
  ⟨⟨fun pins s σ H D I h => (hb W' pn xe t p).ps.run pins s σ H D I (h pn xe t p)⟩, fun Z σ H F α ρ M E D ok re hh k pn' xe' t' p' => (hb W' pn' xe' t' p').snd Z σ H F α ρ M E D ok re hh k⟩
theorem ds_try {n : Str} {i : Nat} {body : List Stmt} {h₀ : ExceptHandler} {hds : List ExceptHandler} {l : List (Value × (Addr → Value → Option Addr → TS))} {L : List (Value × DTCl)} {tb : WX → List (Addr × Obj) → (Value → Shared → Prop) → TS} {B : DTS} (hN : X.N.Nodup) (tk : Takes X W)
    (hb : ∀ (W' : WX) (pn : List (Addr × Obj)) (xe : Value → Shared → Prop), Takes (X.tr pn xe) W' → PassesOwn (model X.prog X.w) X.A X.env xe → DSs (X.tr pn xe) W' body (tb W' pn xe) B) (hh : DClsOk X n (h₀ :: hds) l L)
    (hi : X.N[i]? = some n := by rfl) (hln : X.env.kindOf n = some .local := by rfl) (hs : X.stack = X.env :: X.outer := by rfl) (hf : X.env.frame = some X.env.locals := by rfl) :
    DS X W (.Try body (h₀ :: hds) [] [] pos) (fun D σ H => uniB X tb (wCl X.K i W D l) D σ H) (dTry X.K i B L) :=
  ⟨ps_try_cl hs hf hN hi hln tk (fun W' pn xe t p => (uni_b hb W' pn xe t p).ps) hh.ok, fun Z σ H F α ρ M E D ok re h k => by
    have sn : SndS X.K (wCl X.K i W D l) (uniB X tb (wCl X.K i W D l)) B := (uni_b hb (wCl X.K i W D l) [] (fun ev t => wpAny (model X.prog X.w) X.A (noteFrame ev X.env) (fun _ _ => True) (fun _ _ => True) t) (fun u s' z => ?_) PassesOwn.looking).snd
    · exact sn Z σ H F α ρ M _ D ok re h ⟨k.nx, k.rt, k.bk, k.ct, fun cls d σ' H' F' α' x ρ' M' ex ok' re' rx z => hh.snd ok' re' rx (k.mono ex) (fun e => absurd e z.1) z.2⟩
    · obtain ⟨a, B', sI, pins, σ', H', cls, d, rfl, I, _, _, sky, _⟩ := z
      have fr : X.A.frames = some (X.env :: X.outer) := by
        have := I.ok.frames
        exact this.trans (congrArg some hs)
      have sky' : Sky B' (X.env :: X.outer) a (Zc cls d) X.env.locals s'.heap := by rw [← hs]; exact sky
      exact wpAny_mono (Sky.land (E₁ := fun _ _ => True) (Q := fun _ _ => True) Zc.steady fr hf sky' fun _ _ _ => trivial) (fun _ _ _ => trivial) (fun _ _ z => z)⟩
end
end DL

set_option Elab.async false
set_option linter.all false
set_option autoImplicit false
set_option maxRecDepth 100000
set_option maxHeartbeats 4000000
/-! # enumerate over a tuple -/
namespace PySem
namespace EnT
open PySem.AutoSeq1 (wpAny_loadPart')
section
variable {prog : Program} {w : World} {A : Around} {E : Value → Shared → Prop} {s : Shared}
abbrev tIter (l : Addr) : Obj := { cls := .type "tuple_iterator", data := .fields #[.ref l, .int 0 0] }
abbrev eObj (a : Addr) : Obj := { cls := .type "enumerate", data := .fields #[.none, .bool false, .ref a, rawInt 0, .none, .none] }
theorem meets_new (l : Addr) (items : Array Value) :
    Meets (Builtin.«enumerate.__new__» ⟨[.type "enumerate", .ref l], []⟩) (fun _ R s => s.heap.IsTuple l items ∧
      R (.ok (.ret (.ref (s.heap.push (tIter l)).objs.size))) { s with heap := (s.heap.push (tIter l)).push (eObj s.heap.objs.size) }) :=
  .of_wp fun prog w A R s h => by
    obtain ⟨hp, g, d, tk, os⟩ := s
    obtain ⟨hT, h⟩ := h
    have hsub := sub_enumerate
    have tup : Heap.IsTuple (Shared.heap ⟨hp, g, d, tk, os⟩) l items := hT
    wp_walk
    refine wpAny_stack_any fun st => wpAny_pure ?_
    split
    · rename_i c _ _ _ _ _
      cases (c == Value.type "enumerate") <;> (wp_walk using wpAny_pyIter_tuple tup; exact ⟨_, rfl, h⟩)
    · wp_walk using wpAny_pyIter_tuple tup
      exact ⟨_, rfl, h⟩
theorem call_new {l : Addr} {items : Array Value} {Q : Value → Shared → Prop} (hT : s.heap.IsTuple l items)
    (h : ∀ h', IsEnum h' (s.heap.objs.size + 1) s.heap.objs.size 0 .none → h'.IsTupleIter s.heap.objs.size l 0 → (∀ b o, s.heap.get? b = some o → h'.get? b = some o) → Q (.ref (s.heap.objs.size + 1)) { s with heap := h' }) :
    wpAny (model prog w) A (call (.type "enumerate") [.ref l]) Q E s := by
  refine callType_new F.called_enumerate (by decide) (F.typeCall_enumerate_1 _) (F.newCall_enumerate_1 _) (fun ob => F.args_object_init_2 ob _) F.entry_enumerate_new (meets_new l items) ⟨hT, ?_⟩
  have one : (s.heap.push (tIter l)).objs.size = s.heap.objs.size + 1 := Heap.size_push ..
  show _ ∧ _
  rw [one]
  have en : IsEnum ((s.heap.push (tIter l)).push (eObj s.heap.objs.size)) (s.heap.objs.size + 1) s.heap.objs.size 0 .none := by
    have z := Heap.get?_push_size (s.heap.push (tIter l)) (o := eObj s.heap.objs.size) rfl
    rw [one] at z
    exact z
  exact ⟨⟨_, en, rfl⟩, h _ en ⟨_, Heap.get?_push_of_some _ (Heap.get?_push_size _ rfl), rfl, rfl⟩ fun b o x => Heap.get?_push_of_some _ (Heap.get?_push_of_some _ x)⟩
abbrev pairO (i : Nat) (t : Tok) (x : Value) : Obj := { cls := .type "tuple", data := .seq #[.int i t, x] }
theorem next_item {e it l : Addr} {i : Nat} {items : Array Value} {x old : Value} {Q : Value → Shared → Prop} (he : IsEnum s.heap e it i old) (hit : s.heap.IsTupleIter it l i) (hl : s.heap.IsTuple l items) (hx : items[i]? = some x) (hne : e ≠ it)
    (hQ : ∀ h', IsEnumOut h' e it ((i : Int) + 1) x s.heap.objs.size → h'.IsTupleIter it l (i + 1) → h'.get? s.heap.objs.size = some (pairO i s.toks x) →
      (∀ b o, b ≠ e → b ≠ it → s.heap.get? b = some o → h'.get? b = some o) → Q (.ref s.heap.objs.size) { s with heap := h', toks := s.toks + 1 }) :
    wpAny (model prog w) A (Builtin.«enumerate.__next__» ⟨[.ref e], []⟩) (fun fin s' => ∃ v, fin = .done (.ret v) ∧ Q v s') E s := by
  obtain ⟨hp, g, d, tk, os⟩ := s
  have elt : e < hp.objs.size := Heap.lt_size he
  show wpAny _ _ (field (.ref e) 2 >>= _) _ _ _
  refine wpAny_bind (wpAny_field he rfl (x := .ref it) rfl (wpAny_bind (RZ.nextOf_tuple_item hit hl hx ?_)))
  intro g1 it1 (s1 : Heap.SameBut it hp g1)
  have e1 : IsEnum g1 e it i old := (s1.2 e hne).trans he
  show wpAny _ _ (field (.ref e) 3 >>= _) _ _ ⟨g1, g, d, tk, os⟩
  refine wpAny_bind (wpAny_field e1 rfl (x := rawInt i) rfl ?_)
  show wpAny _ _ (field (.ref e) 4 >>= _) _ _ ⟨g1, g, d, tk, os⟩
  refine wpAny_bind (wpAny_field e1 rfl (x := .none) rfl ?_)
  show wpAny _ _ (mkInt i >>= _) _ _ ⟨g1, g, d, tk, os⟩
  refine wpAny_bind (wpAny_mkInt ?_)
  show wpAny _ _ (setField (.ref e) 3 (rawInt ((i : Int) + 1)) >>= _) _ _ ⟨g1, g, d, tk + 1, os⟩
  refine wpAny_bind (wpAny_setField_rec e1 (by simp) ?_)
  intro g2 (e2 : IsEnum g2 e it ((i : Int) + 1) old) (s2 : Heap.SameBut e g1 g2)
  show wpAny _ _ (setField (.ref e) 4 .none >>= _) _ _ ⟨g2, g, d, tk + 1, os⟩
  refine wpAny_bind (wpAny_setField_rec e2 (by simp) ?_)
  intro g3 (e3 : IsEnum g3 e it ((i : Int) + 1) old) (s3 : Heap.SameBut e g2 g3)
  show wpAny _ _ (newTuple [.int i tk, x] >>= _) _ _ ⟨g3, g, d, tk + 1, os⟩
  refine wpAny_bind (wpAny_newTuple ?_)
  have sz : g3.objs.size = hp.objs.size := by rw [s3.1, s2.1, s1.1]
  have e4 : IsEnum (g3.push (pairO i tk x)) e it ((i : Int) + 1) old := Heap.get?_push_of_some _ e3
  have t4 : (g3.push (pairO i tk x)).get? hp.objs.size = some (pairO i tk x) := by rw [← sz]; exact Heap.get?_push_size _ rfl
  have k4 : ∀ b o, b ≠ e → b ≠ it → hp.get? b = some o → (g3.push (pairO i tk x)).get? b = some o := fun b o b1 b2 q =>
    Heap.get?_push_of_some _ (s3.extBut b o b1 (s2.extBut b o b1 (s1.extBut b o b2 q)))
  have i4 : (g3.push (pairO i tk x)).IsTupleIter it l (i + 1) := by
    obtain ⟨o, ho, r⟩ := (it1.extBut s2.extBut (Ne.symm hne)).extBut s3.extBut (Ne.symm hne)
    exact ⟨o, Heap.get?_push_of_some _ ho, r⟩
  show wpAny _ _ (Builtin.SmallTypes.ownedTupleIsFree (.ref e) >>= _) _ _ ⟨g3.push (pairO i tk x), g, d, tk + 1, os⟩
  rw [sz]
  generalize g3.push (pairO i tk x) = g4 at e4 t4 k4 i4 ⊢
  clear e3 s3 e2 s2 e1 s1 it1 sz
  refine wpAny_bind ?_
  unfold Builtin.SmallTypes.ownedTupleIsFree
  refine wpAny_bind (wpAny_field e4 rfl (x := .none) rfl (wpAny_pure ?_))
  simp only [if_true]
  refine wpAny_bind (wpAny_rule (wpAny_bind (wpAny_field e4 rfl (x := old) rfl (wpAny_bind (wpAny_setField_rec e4 (by simp) ?_)))))
  intro g5 (e5 : IsEnum g5 e it ((i : Int) + 1) x) (s5 : Heap.SameBut e g4 g5)
  show wpAny _ _ (Builtin.SmallTypes.ownedTupleHandOut (.ref e) (.ref hp.objs.size) >>= _) _ _ ⟨g5, g, d, tk + 1, os⟩
  refine wpAny_bind ?_
  unfold Builtin.SmallTypes.ownedTupleHandOut
  refine wpAny_bind (wpAny_setField_rec e5 (by simp) ?_)
  intro g6 (e6 : IsEnumOut g6 e it ((i : Int) + 1) x hp.objs.size) (s6 : Heap.SameBut e g5 g6)
  refine wpAny_setField_rec e6 (by simp) ?_
  intro g7 (e7 : IsEnumOut g7 e it ((i : Int) + 1) x hp.objs.size) (s7 : Heap.SameBut e g6 g7)
  have up : ∀ b o, b ≠ e → g4.get? b = some o → g7.get? b = some o := fun b o hb q => s7.extBut b o hb (s6.extBut b o hb (s5.extBut b o hb q))
  refine wpAny_bind (wpAny_letGo (wpAny_pure ⟨_, rfl, hQ g7 e7 ?_ (up _ _ (Nat.ne_of_gt elt) t4) fun b o b1 b2 q => up b o b1 (k4 b o b1 b2 q)⟩))
  obtain ⟨o, ho, r⟩ := i4
  exact ⟨o, up _ _ (Ne.symm hne) ho, r⟩
theorem pyNext_item {e it l : Addr} {i : Nat} {items : Array Value} {x old : Value} {Q : Option Value → Shared → Prop} (he : IsEnum s.heap e it i old) (hit : s.heap.IsTupleIter it l i) (hl : s.heap.IsTuple l items) (hx : items[i]? = some x) (hne : e ≠ it)
    (hQ : ∀ h', IsEnumOut h' e it ((i : Int) + 1) x s.heap.objs.size → h'.IsTupleIter it l (i + 1) → h'.get? s.heap.objs.size = some (pairO i s.toks x) →
      (∀ b o, b ≠ e → b ≠ it → s.heap.get? b = some o → h'.get? b = some o) → Q (some (.ref s.heap.objs.size)) { s with heap := h', toks := s.toks + 1 }) : wpAny (model prog w) A (pyNext (.ref e)) Q E s := by
  have ty : s.TypeIs (.ref e) "enumerate" := ⟨_, he, rfl⟩
  unfold pyNext
  exact wpAny_bind (wpAny_attempt (wpAny_callSpecial?_slot (name := Str.ofString "__next__") ty F.slot_enumerate_next
    (wpAny_call_entry F.slot_enumerate_next ty F.entry_enumerate_next (next_item he hit hl hx hne fun h' a b c k => wpAny_pure (hQ h' a b c k)) (F.args_enumerate_next_1 _))))
theorem pyNext_end {e it l : Addr} {i : Nat} {items : Array Value} {old : Value} {Q : Option Value → Shared → Prop} (hh : A.handled = none) (he : IsEnum s.heap e it i old) (hit : s.heap.IsTupleIter it l i) (hl : s.heap.IsTuple l items) (hx : items[i]? = none)
    (hQ : ∀ h', Heap.ExtBut it s.heap h' → Q none { s with heap := h' }) : wpAny (model prog w) A (pyNext (.ref e)) Q E s := by
  have ty : s.TypeIs (.ref e) "enumerate" := ⟨_, he, rfl⟩
  unfold pyNext
  refine wpAny_bind (wpAny_attempt (wpAny_callSpecial?_slot (name := Str.ofString "__next__") ty F.slot_enumerate_next
    (wpAny_call_entry F.slot_enumerate_next ty F.entry_enumerate_next ?_ (F.args_enumerate_next_1 _))))
  show wpAny _ _ (field (.ref e) 2 >>= _) _ _ _
  refine wpAny_bind (wpAny_field he rfl (x := .ref it) rfl (wpAny_bind (RZ.nextOf_tuple_end hh hit hl hx ?_)))
  rintro h' u ext ⟨o, ho, hc⟩
  exact wpAny_bind (wpAny_isInstance (T := "StopIteration") (b := true) ⟨o, ho, hc⟩ isSubtype_stop (wpAny_pure (hQ _ ext)))
end
end EnT
end PySem
namespace DL
open PySem PySem.Spec L2
open PyProof.Rows hiding St
/-- the tuple at a, each item in a new pair with its number -/
def IteT (K : PySem.W.Frag) (a : Addr) : It where
  go := fun i H => ∃ xs x, SqT K H a xs ∧ xs[i]? = some x
  yld := fun i H v H' => ∃ T x, v = .ref T ∧ H T = none ∧ H' = upd H T (.tup [.int (i : Nat), x]) ∧ ∀ xs, SqT K H a xs → xs[i]? = some x
  stop := fun i H => ∃ xs, SqT K H a xs ∧ xs.length ≤ i
theorem turn_enumT {P : Program} {w : World} {K : PySem.W.Frag} {elts : List Expr} {kk : Nat} {tpos : Pos} (a e it : Addr) :
    Turn P w K (.Tuple elts kk tpos) (IteT K a) [e, it] e (fun i h => (∃ old, IsEnum h e it ((i : Nat) : Int) old) ∧ h.IsTupleIter it a i ∧ e ≠ it) where
  mem := List.mem_cons_self
  obj := by
    rintro i h ⟨⟨old, he⟩, ⟨o, ho, hc, hd⟩, _⟩ b hb
    rcases List.mem_cons.mp hb with z | hb
    · subst z
      exact ⟨_, he, fun v q => nomatch q⟩
    · exact ⟨o, by rw [List.mem_singleton.mp hb]; exact ho, fun v q => by rw [hd] at q; cases q⟩
  keep := by
    rintro i h h' ⟨⟨old, he⟩, ⟨o, ho, r⟩, hne⟩ k
    exact ⟨⟨old, k e List.mem_cons_self _ he⟩, ⟨o, k it (by simp) _ ho, r⟩, hne⟩
  item := by
    intro X hP hw hK hc i pins s σ H E I hf st hg
    subst hP hw hK
    obtain ⟨⟨old, he⟩, hit, hne⟩ := st
    obtain ⟨xs, x, hq, hx⟩ := hg
    obtain ⟨its, rv, tp, _⟩ := I.tuple hq
    obtain ⟨u, hu, ru⟩ := rv.get hx
    have le1 : e < s.heap.objs.size := Heap.lt_size he
    have le2 : it < s.heap.objs.size := by obtain ⟨_, q, _⟩ := hit; exact Heap.lt_size q
    refine PySem.EnT.pyNext_item he hit tp (x := u) (by simpa using hu) hne ?_
    intro g1 out it1 pr k1
    refine ⟨_, rfl, wpAny_letOwnedTupleGo_enum (s := { s with heap := g1, toks := s.toks + 1 }) out ?_⟩
    intro g2 en2 sb
    have pr2 : g2.get? s.heap.objs.size = some (PySem.EnT.pairO i s.toks u) := (sb.2 _ (Nat.ne_of_gt le1)).trans pr
    have made : ObjOk X.prog X.w (upd H s.heap.objs.size (.tup [.int (i : Nat), x])) g2 s.heap.objs.size (.tup [.int (i : Nat), x]) := ⟨(by decide : 2 ≤ sizeLine), [.int i s.toks, u], .cons ⟨_, rfl⟩ (.cons ru .nil), ⟨_, pr2, rfl, _, rfl⟩⟩
    have J : Inv X pins σ (upd H s.heap.objs.size (.tup [.int (i : Nat), x])) { s with heap := g2, toks := s.toks + 1 } :=
      I.turnedNew (ch := [e, it]) (fun b ob hb q => (sb.2 b fun z => hb (by simp [z])).trans (k1 b ob (fun z => hb (by simp [z])) (fun z => hb (by simp [z])) q)) hf (Nat.le_refl _) made
    refine ⟨.ref s.heap.objs.size, _, J, rfl, ⟨_, x, rfl, I.hok.fresh (Nat.le_refl _), rfl, fun ys hy => by rw [I.tuple_inj hy hq]; exact hx⟩, ⟨⟨u, ?_⟩, ?_, hne⟩, ?_⟩
    · rw [Int.natCast_succ]
      exact en2
    · obtain ⟨o, ho, r⟩ := it1
      exact ⟨o, (sb.2 it (Ne.symm hne)).trans ho, r⟩
    · intro b hb
      have lt : b < s.heap.objs.size := by
        rcases List.mem_cons.mp hb with z | hb
        · rw [z]; exact le1
        · rw [List.mem_singleton.mp hb]; exact le2
      rw [upd_ne (Nat.ne_of_lt lt)]
      exact (hf b hb).1
  done := by
    intro X hP hw hK hc i pins s σ H E I hf st hg
    subst hP hw hK
    obtain ⟨⟨old, he⟩, hit, hne⟩ := st
    obtain ⟨xs, hq, hx⟩ := hg
    obtain ⟨its, rv, tp, _⟩ := I.tuple hq
    obtain ⟨f0, f1, f2, f3, f4, f5⟩ := hf it (by simp)
    have len := rv.length
    exact PySem.EnT.pyNext_end (I.ok.hd hc) he hit tp (by simp; omega) fun g1 ext => ⟨rfl, I.turned (t' := s.toks) (fun b o hb q => ext b o hb q) f0 f1 f3 f4 f5⟩
  self := fun A i s Q E st h => let ⟨⟨_, he⟩, _⟩ := st; wpAny_pyIter_enum he h
section
variable {X : Cx} {W : WX} {e : Expr} {ta : TA} {Ta : DTA} {p pos tpos : Pos} {elts : List Expr} {kk : Nat}
def iEnumA (K : PySem.W.Frag) (ta : TA) : TI := fun σ H R => ta σ H fun vs H1 => ∃ a xs, vs = [.ref a] ∧ ((SqL K H1 a xs ∧ R (Ite K a) H1) ∨ (SqT K H1 a xs ∧ R (IteT K a) H1))
theorem pi_enumA (hg : Gl X "enumerate") (hm : X.mg "enumerate" = none) (ha : PA X [e] ta) (hs : starEach [e] X.env = [(false, eval e X.env)]) : PI X (.Tuple elts kk tpos) (.Call (.Name "enumerate" p) [e] [] pos) (iEnumA X.K ta) := by
  refine ⟨fun pins s σ H R I h => Call_ (ld_blt I hg hm boot_enumerate (PyProof.Rows.callWith_type1 (thn (ha.run pos pins s σ H _ I h) ?_) hs rfl))⟩
  rintro us s1 ⟨vs, H1, J, rv, a, xs, rfl, q⟩
  cases rv with
  | cons r rr =>
    cases rr
    cases r
    have late : ∀ b, b = s1.heap.objs.size + 1 ∨ b = s1.heap.objs.size → s1.heap.objs.size ≤ b := fun b z => by omega
    have fp : ∀ b ∈ [s1.heap.objs.size + 1, s1.heap.objs.size], FpOk X pins H1 b := fun b hb => by
      have le := late b (by simpa using hb)
      exact J.fpOk le (J.hok.fresh le)
    rcases q with ⟨hq, q⟩ | ⟨hq, q⟩
    · obtain ⟨its, _, pl, _⟩ := J.list hq
      refine call_enumerate_list pl.isList fun g1 en it _ kp => wpAny_pyIter_enum en ⟨_, _, _, _, H1, rfl, J.kept (t' := s1.toks) kp, turn_enum a _ _, ⟨⟨.none, en⟩, it, Nat.succ_ne_self _⟩, fp, q⟩
    · obtain ⟨its, _, tp, _⟩ := J.tuple hq
      exact PySem.EnT.call_new (items := its.toArray) tp fun g1 en it kp => wpAny_pyIter_enum en ⟨_, _, _, _, H1, rfl, J.kept (t' := s1.toks) kp, turn_enumT a _ _, ⟨⟨.none, en⟩, it, Nat.succ_ne_self _⟩, fp, q⟩
def enumD (xs : List D) : List D := xs.mapIdx fun i x => D.tup [.int i, x]
def diEnum (T : DTA) : DTI := fun ρ M Φ Ψ => T ρ M (fun ds M1 => match ds with
  | [d] => match sq M1 d with
    | some xs => Φ (enumD xs) (keepOf d xs) M1
    | none => False
  | _ => False) Ψ
theorem enumD_get {xs : List D} {i : Nat} {d : D} (h : (enumD xs)[i]? = some d) : ∃ x, xs[i]? = some x ∧ d = .tup [.int i, x] := by
  unfold enumD at h
  rw [List.getElem?_mapIdx] at h
  cases e : xs[i]? with
  | none => rw [e] at h; cases h
  | some x => rw [e] at h; cases h; exact ⟨x, rfl, rfl⟩
theorem itOk_enumT {K : PySem.W.Frag} {F : Hp} {α : List Addr} {a : Addr} {ds : List D} (r : Rp K F α (.ref a) (.tup ds)) : ItOk K F α (IteT K a) (enumD ds) (fun _ => True) := by
  intro i Z H F' α' M' x ok _
  obtain ⟨_, xs, e1, hx, rx⟩ := (r.mono x).tup? ok
  cases e1
  refine ⟨fun hl => ⟨xs, hx, by rw [rx.length]; simpa [enumD] using hl⟩, fun d hd => ?_⟩
  obtain ⟨y, hy, rfl⟩ := enumD_get hd
  obtain ⟨v, hv, rv⟩ := rx.get hy
  refine ⟨⟨xs, v, hx, hv⟩, fun z H1 hz => ?_⟩
  obtain ⟨T, v', rfl, hT, rfl, h1⟩ := hz
  rw [h1 xs hx] at hv
  cases hv
  exact pair_new ok hT (.int _) rv
theorem itOk_enumL {K : PySem.W.Frag} {F : Hp} {α : List Addr} {a : Addr} {d : D} {ds : List D} {keep : Ms → Prop} (r : Rp K F α (.ref a) d) (ka : ∀ M, keep M → lvf M d = some ds) : ItOk K F α (Ite K a) (enumD ds) keep := by
  intro i Z H F' α' M' x ok kp
  obtain ⟨_, xs, e1, hx, rx⟩ := (r.mono x).lstf? ok (ka M' kp)
  cases e1
  refine ⟨fun hl => ⟨xs, hx, by rw [rx.length]; simpa [enumD] using hl⟩, fun d hd => ?_⟩
  obtain ⟨y, hy, rfl⟩ := enumD_get hd
  obtain ⟨v, hv, rv⟩ := rx.get hy
  refine ⟨⟨xs, v, hx, hv⟩, fun z H1 hz => ?_⟩
  obtain ⟨T, v', rfl, hT, rfl, h1⟩ := hz
  rw [h1 xs hx] at hv
  cases hv
  exact pair_new ok hT (.int _) rv
theorem keepOf_lvf {M : Ms} {d : D} {ds : List D} (h : lvf M d = some ds) : ∀ M', keepOf d ds M' → lvf M' d = some ds := fun M' k => by
  cases d with
  | ptr n =>
    have k' : M'[n]? = some (.lst ds) := k
    show (match M'[n]? with | some (.lst ds) => some ds | _ => none) = some ds
    rw [k']
  | _ => exact h
theorem di_enum (hm : X.mg "enumerate" = none) (ha : DA X W [e] ta Ta) (hg : Gl X "enumerate" := by rfl) (hs : starEach [e] X.env = [(false, eval e X.env)] := by rfl) : DI X W (.Tuple elts kk tpos) (.Call (.Name "enumerate" p) [e] [] pos) (iEnumA X.K ta) (diEnum Ta) :=
  ⟨pi_enumA hg hm ha.pa hs, fun Z σ H F α ρ M Φ Ψ R ok re h k kx => ha.snd Z σ H F α ρ M _ _ _ ok re h (fun vs H1 F1 α1 ds M1 x1 ok1 r1 h1 => by
    split at h1
    · cases r1 with
      | cons r t =>
        rename_i d _ _
        cases t
        cases q : sq M1 d with
        | none => rw [q] at h1; exact False.elim h1
        | some xs =>
          rw [q] at h1
          rcases sq_tup q with rfl | q
          · obtain ⟨a, ys, rfl, hx, _⟩ := r.tup? ok1
            exact ⟨a, ys, rfl, .inr ⟨hx, k _ _ _ _ _ _ _ x1 ok1 (itOk_enumT r) h1⟩⟩
          · obtain ⟨a, ys, rfl, hx, _⟩ := r.lstf? ok1 q
            exact ⟨a, ys, rfl, .inl ⟨hx, k _ _ _ _ _ _ _ x1 ok1 (itOk_enumL r (keepOf_lvf q)) h1⟩⟩
    · exact False.elim h1) kx⟩
end
end DL

set_option Elab.async false
set_option linter.all false
set_option autoImplicit false
set_option maxRecDepth 100000
set_option maxHeartbeats 4000000
/-! # Methods of cells, two types asked, two clauses, an error's field, lists of ranges -/
namespace DL
open PySem PySem.Spec L2
open PyProof.Rows hiding St
abbrev DRM := D → List D → Ms → DK → Prop
def SndM (K : PySem.W.Frag) (r : V → List V → Hp → VK → Prop) (R : DRM) : Prop := ∀ Z H F α M Φ Q x d vs ds, Ok K Z F α M H → Rp K F α x d → RpL K F α vs ds → R d ds M Φ → KE K Z F α Φ Q → r x vs H Q
def dBM (R : DRM) (To : DTE) (Ta : DTA) : DTE := fun ρ M Φ Ψ => To ρ M (fun d M1 => (lvf M1 d).isSome = true ∧ Ta ρ M1 (fun ds M2 => R d ds M2 Φ) Ψ) Ψ
section
variable {X : Cx} {W : WX} {o e a b c : Expr} {es : List Expr} {to ta tb : TE} {To Ta Tb : DTE} {t : TA} {T : DTA} {apos pos cpos : Pos} {r : V → List V → Hp → VK → Prop} {R : DRM}
theorem lvf_ty {K : PySem.W.Frag} {Z : Zs} {F H : Hp} {α : List Addr} {M : Ms} {v : V} {d : D} (r : Rp K F α v d) (ok : Ok K Z F α M H) (h : (lvf M d).isSome = true) : tyV K "list" v H := by
  cases q : lvf M d with
  | none => rw [q] at h; cases h
  | some ds =>
    obtain ⟨a, xs, rfl, hx, _⟩ := r.lstf? ok q
    exact .inl ⟨rfl, xs, hx⟩
theorem snd_bm {K : PySem.W.Frag} (hs : SndM K r R) (ho : SndE K W to To) (ha : SndA K W t T) : SndE K W (tBM K "list" r to t) (dBM R To T) := fun Z σ H F α ρ M Φ Ψ Q ok re h k kx =>
  ho Z σ H F α ρ M _ _ _ ok re h (fun v H1 F1 α1 d M1 x1 ok1 r1 h1 => ⟨lvf_ty r1 ok1 h1.1, ha Z σ H1 F1 α1 ρ M1 _ _ _ ok1 (re.mono x1) h1.2 (fun vs H2 F2 α2 ds M2 x2 ok2 r2 h2 =>
    hs Z H2 F2 α2 M2 Φ Q v d vs ds ok2 (r1.mono x2) r2 h2 (k.mono (x1.trans x2))) (kx.mono x1)⟩) kx
theorem snd_bm0 {K : PySem.W.Frag} (hs : SndM K r R) (ho : SndE K W to To) : SndE K W (tBM0 K "list" r to) (dBM R To dNil) := fun Z σ H F α ρ M Φ Ψ Q ok re h k kx =>
  ho Z σ H F α ρ M _ _ _ ok re h (fun v H1 F1 α1 d M1 x1 ok1 r1 h1 => ⟨lvf_ty r1 ok1 h1.1, hs Z H1 F1 α1 M1 Φ Q v d [] [] ok1 r1 .nil h1.2 (k.mono x1)⟩) kx
def dAppend : DRM := fun d ds M Φ => match d, ds with
  | .ptr k, [y] => match M[k]? with
    | some (.lst xs) => xs.length < sizeLine ∧ Φ .non (M.set k (.lst (xs ++ [y])))
    | _ => False
  | _, _ => False
def dPop : DRM := fun d ds M Φ => match d, ds with
  | .ptr k, [] => match M[k]? with
    | some (.lst xs) => match xs[xs.length - 1]? with
      | some y => Φ y (M.set k (.lst xs.dropLast))
      | none => False
    | _ => False
  | _, _ => False
def dPopAt : DRM := fun d ds M Φ => match d, ds with
  | .ptr k, [.int i] => match M[k]? with
    | some (.lst xs) => -(2 ^ 63) ≤ i ∧ i < 2 ^ 63 ∧ match ixN xs.length i with
      | some j => match xs[j]? with
        | some y => Φ y (M.set k (.lst (xs.eraseIdx j)))
        | none => False
      | none => False
    | _ => False
  | _, _ => False
def dReverse : DRM := fun d ds M Φ => match d, ds with
  | .ptr k, [] => match M[k]? with
    | some (.lst xs) => Φ .non (M.set k (.lst xs.reverse))
    | _ => False
  | _, _ => False
theorem RpL.dropLast {K : PySem.W.Frag} {F : Hp} {α : List Addr} {vs : List V} {ds : List D} (r : RpL K F α vs ds) : RpL K F α vs.dropLast ds.dropLast := by
  rw [List.dropLast_eq_take, List.dropLast_eq_take, r.length]
  exact r.take _
theorem snd_append {K : PySem.W.Frag} : SndM K rAppend dAppend := by
  intro Z H F α M Φ Q x d vs ds ok rx rs h k
  unfold dAppend at h
  split at h
  · rename_i n y
    cases q : M[n]? with
    | none => rw [q] at h; exact False.elim h
    | some m =>
      rw [q] at h
      cases m with
      | lst xs =>
        cases rx with
        | ptr e1 =>
          cases rs with
          | cons ry t =>
            cases t
            obtain ⟨ws, hw, rw'⟩ := ok.mem n _ _ e1 q
            exact ⟨_, ws, _, rfl, rfl, hw, by rw [rw'.length]; exact h.1, k _ _ _ _ _ _ Ext.refl (cell_set ok e1 q (rw'.append (.cons ry .nil))) .non h.2⟩
      | _ => exact False.elim h
  · exact False.elim h
theorem snd_pop {K : PySem.W.Frag} : SndM K rPop dPop := by
  intro Z H F α M Φ Q x d vs ds ok rx rs h k
  unfold dPop at h
  split at h
  · rename_i n
    cases q : M[n]? with
    | none => rw [q] at h; exact False.elim h
    | some m =>
      rw [q] at h
      cases m with
      | lst xs =>
        dsimp only at h
        cases rx with
        | ptr e1 =>
          cases rs
          obtain ⟨ws, hw, rw'⟩ := ok.mem n _ _ e1 q
          cases q2 : xs[xs.length - 1]? with
          | none => rw [q2] at h; exact False.elim h
          | some y =>
            rw [q2] at h
            obtain ⟨v, hv, rv⟩ := rw'.get q2
            exact ⟨_, ws, v, rfl, rfl, hw, by rw [rw'.length]; exact hv, k _ _ _ _ _ _ Ext.refl (cell_set ok e1 q rw'.dropLast) rv h⟩
      | _ => exact False.elim h
  · exact False.elim h
theorem snd_popAt {K : PySem.W.Frag} : SndM K rPopAt dPopAt := by
  intro Z H F α M Φ Q x d vs ds ok rx rs h k
  unfold dPopAt at h
  split at h
  · rename_i n i
    cases q : M[n]? with
    | none => rw [q] at h; exact False.elim h
    | some m =>
      rw [q] at h
      cases m with
      | lst xs =>
        obtain ⟨h1, h2, h3⟩ := h
        cases rx with
        | ptr e1 =>
          cases rs with
          | cons ri t =>
            cases ri
            cases t
            obtain ⟨ws, hw, rw'⟩ := ok.mem n _ _ e1 q
            cases q2 : ixN xs.length i with
            | none => rw [q2] at h3; exact False.elim h3
            | some j =>
              rw [q2] at h3
              dsimp only at h3
              cases q3 : xs[j]? with
              | none => rw [q3] at h3; exact False.elim h3
              | some y =>
                rw [q3] at h3
                obtain ⟨v, hv, rv⟩ := rw'.get q3
                exact ⟨_, ws, i, j, v, rfl, rfl, hw, h1, h2, by rw [rw'.length]; exact (ixN_seq q2).1, hv, k _ _ _ _ _ _ Ext.refl (cell_set ok e1 q (rw'.eraseIdx j)) rv h3⟩
      | _ => exact False.elim h
  · exact False.elim h
theorem snd_reverse {K : PySem.W.Frag} : SndM K rReverse dReverse := by
  intro Z H F α M Φ Q x d vs ds ok rx rs h k
  unfold dReverse at h
  split at h
  · rename_i n
    cases q : M[n]? with
    | none => rw [q] at h; exact False.elim h
    | some m =>
      rw [q] at h
      cases m with
      | lst xs =>
        cases rx with
        | ptr e1 =>
          cases rs
          obtain ⟨ws, hw, rw'⟩ := ok.mem n _ _ e1 q
          exact ⟨_, ws, rfl, rfl, hw, k _ _ _ _ _ _ Ext.refl (cell_set ok e1 q rw'.reverse) .non h⟩
      | _ => exact False.elim h
  · exact False.elim h
theorem de_append (ho : DE X W o to To) (ha : DA X W (e :: es) t T) (hbase : attributeBase o "append" X.env (eval o X.env) = eval o X.env := by rfl)
    (hfew : ((backTo cpos (starEach (e :: es) X.env)).all (fun x => !x.1) && (backToKw cpos (keywordEach [] X.env)).all (fun x => x.1.isSome)
      && decide ((e :: es).length + ([] : List Keyword).length + (if ([] : List Keyword).isEmpty then 0 else 1) < 30)) = true := by rfl)
    (hline : (apos.endLine == cpos.line) = true := by rfl) (hs : starEach (e :: es) X.env = (false, eval e X.env) :: starEach es X.env := by rfl) (hplain : (backTo cpos (starEach es X.env)).any (·.1) = false := by rfl) :
    DE X W (.Call (.Attribute o "append" apos) (e :: es) [] cpos) (tBM X.K "list" rAppend to t) (dBM dAppend To T) :=
  ⟨pe_bm PySem.F.plainAttrs_list PySem.F.slot_list_append PySem.F.type_list_append mt_append ho.pe ha.pa hbase hfew hline hs hplain, snd_bm snd_append ho.snd ha.snd⟩
theorem de_popAt (ho : DE X W o to To) (ha : DA X W (e :: es) t T) (hbase : attributeBase o "pop" X.env (eval o X.env) = eval o X.env := by rfl)
    (hfew : ((backTo cpos (starEach (e :: es) X.env)).all (fun x => !x.1) && (backToKw cpos (keywordEach [] X.env)).all (fun x => x.1.isSome)
      && decide ((e :: es).length + ([] : List Keyword).length + (if ([] : List Keyword).isEmpty then 0 else 1) < 30)) = true := by rfl)
    (hline : (apos.endLine == cpos.line) = true := by rfl) (hs : starEach (e :: es) X.env = (false, eval e X.env) :: starEach es X.env := by rfl) (hplain : (backTo cpos (starEach es X.env)).any (·.1) = false := by rfl) :
    DE X W (.Call (.Attribute o "pop" apos) (e :: es) [] cpos) (tBM X.K "list" rPopAt to t) (dBM dPopAt To T) :=
  ⟨pe_bm PySem.F.plainAttrs_list PySem.F.slot_list_pop PySem.F.type_list_pop mt_popAt ho.pe ha.pa hbase hfew hline hs hplain, snd_bm snd_popAt ho.snd ha.snd⟩
theorem de_pop (ho : DE X W o to To) (hbase : attributeBase o "pop" X.env (eval o X.env) = eval o X.env := by rfl) (hline : (apos.endLine == cpos.line) = true := by rfl) :
    DE X W (.Call (.Attribute o "pop" apos) [] [] cpos) (tBM0 X.K "list" rPop to) (dBM dPop To dNil) := ⟨pe_bm0 PySem.F.plainAttrs_list PySem.F.slot_list_pop PySem.F.type_list_pop mt_pop ho.pe hbase hline, snd_bm0 snd_pop ho.snd⟩
theorem de_reverse (ho : DE X W o to To) (hbase : attributeBase o "reverse" X.env (eval o X.env) = eval o X.env := by rfl) (hline : (apos.endLine == cpos.line) = true := by rfl) :
    DE X W (.Call (.Attribute o "reverse" apos) [] [] cpos) (tBM0 X.K "list" rReverse to) (dBM dReverse To dNil) := ⟨pe_bm0 PySem.F.plainAttrs_list PySem.F.slot_list_reverse PySem.F.type_list_reverse mt_reverse ho.pe hbase hline, snd_bm0 snd_reverse ho.snd⟩
/-! ### isinstance(x, T), isinstance(x, (T1, T2)) -/
def dIs1 (n : String) (Ta : DTE) : DTE := fun ρ M Φ Ψ => Ta ρ M (fun d M1 => match D.tyn M1 d with
  | some t => Φ (.bl (isA t n)) M1
  | none => False) Ψ
def dIs2 (n m : String) (Ta : DTE) : DTE := fun ρ M Φ Ψ => Ta ρ M (fun d M1 => match D.tyn M1 d with
  | some t => Φ (.bl (isA t n || isA t m)) M1
  | none => False) Ψ
theorem de_is1 {n : String} {x y : Str} {p p' : Pos} (hm : X.mg x = none) (hv : bootBuiltins x = some (.builtin "isinstance")) (ha : DE X W a ta Ta) (hmy : X.mg y = none) (hvy : bootBuiltins y = some (.type n)) (hk : isKnown n = true := by decide) (hg : Gl X x := by rfl) (hgy : Gl X y := by rfl)
    (hn : x ≠ "__name__" := by decide) (hdb : (x == ("__debug__" : Str)) = false := by decide) (hny : y ≠ "__name__" := by decide) (hdy : (y == ("__debug__" : Str)) = false := by decide)
    (he : starEach [a, .Name y p'] X.env = (false, eval a X.env) :: starEach [.Name y p'] X.env := by rfl) (he2 : starEach [.Name y p'] X.env = (false, eval (.Name y p') X.env) :: starEach [] X.env := by rfl) (hpl : (backTo pos (starEach [.Name y p'] X.env)).any (·.1) = false := by rfl) :
    DE X W (.Call (.Name x p) [a, .Name y p'] [] pos) (tCB (rIsi X.K) (tCons ta (tCons (tC (.ty n)) tNil))) (dIs1 n Ta) :=
  ⟨pe_callB call_isi hg hm hv (pa_cons ha.pe (pa_cons (pe_bltn hgy hmy hvy rfl hny hdy) pa_nil he2) he) hn hdb he hpl, fun Z σ H F α ρ M Φ Ψ Q ok re h k kx => ha.snd Z σ H F α ρ M _ _ _ ok re h (fun v H1 F1 α1 d M1 x1 ok1 r1 h1 => by
    cases e : D.tyn M1 d with
    | none => rw [e] at h1; exact False.elim h1
    | some t =>
      rw [e] at h1
      obtain ⟨ty, mem⟩ := r1.tyX ok1 e
      exact ⟨v, .ty n, .type t, .type n, isA t n, rfl, clsV_ty, ty, kit_ty (kitB_ok t mem n (List.contains_iff_mem.mp hk)), k _ _ _ _ _ _ x1 ok1 (.bl _) h1⟩) kx⟩
theorem kitAny2 {K : PySem.W.Frag} {t n m : String} (ht : t ∈ ["NoneType", "bool", "int", "str", "tuple", "list", "dict"]) (hn : isKnown n = true) (hm : isKnown m = true) : PySem.W.kitAny K (.type t) [.type n, .type m] = some (isA t n || isA t m) := by
  have e1 := kit_ty (K := K) (kitB_ok t ht n (List.contains_iff_mem.mp hn))
  have e2 := kit_ty (K := K) (kitB_ok t ht m (List.contains_iff_mem.mp hm))
  refine kitAny_cons e1 (fun h => ?_) (fun h => by rw [h]; rfl)
  rw [h, Bool.false_or]
  exact kitAny_cons e2 (fun h => by rw [h]; rfl) (fun h => h)
theorem de_is2 {n m : String} {x y z : Str} {p p' p'' pt : Pos} {kt : Nat} (hm : X.mg x = none) (hv : bootBuiltins x = some (.builtin "isinstance")) (ha : DE X W a ta Ta) (hmy : X.mg y = none) (hvy : bootBuiltins y = some (.type n)) (hmz : X.mg z = none) (hvz : bootBuiltins z = some (.type m))
    (hk : isKnown n = true := by decide) (hk2 : isKnown m = true := by decide) (hg : Gl X x := by rfl) (hgy : Gl X y := by rfl) (hgz : Gl X z := by rfl)
    (hn : x ≠ "__name__" := by decide) (hdb : (x == ("__debug__" : Str)) = false := by decide) (hny : y ≠ "__name__" := by decide) (hdy : (y == ("__debug__" : Str)) = false := by decide) (hnz : z ≠ "__name__" := by decide) (hdz : (z == ("__debug__" : Str)) = false := by decide)
    (he : starEach [a, .Tuple [.Name y p', .Name z p''] kt pt] X.env = (false, eval a X.env) :: starEach [.Tuple [.Name y p', .Name z p''] kt pt] X.env := by rfl)
    (he2 : starEach [.Tuple [.Name y p', .Name z p''] kt pt] X.env = (false, eval (.Tuple [.Name y p', .Name z p''] kt pt) X.env) :: starEach [] X.env := by rfl)
    (he3 : starEach [.Name y p', .Name z p''] X.env = (false, eval (.Name y p') X.env) :: starEach [.Name z p''] X.env := by rfl) (he4 : starEach [.Name z p''] X.env = (false, eval (.Name z p'') X.env) :: starEach [] X.env := by rfl)
    (hpl : (backTo pos (starEach [.Tuple [.Name y p', .Name z p''] kt pt] X.env)).any (·.1) = false := by rfl) :
    DE X W (.Call (.Name x p) [a, .Tuple [.Name y p', .Name z p''] kt pt] [] pos) (tCB (rIsiT X.K) (tCons ta (tCons (tTup (tCons (tC (.ty n)) (tCons (tC (.ty m)) tNil))) tNil))) (dIs2 n m Ta) :=
  ⟨pe_callB call_isiT hg hm hv (pa_cons ha.pe (pa_cons (pe_tup (pa_cons (pe_bltn hgy hmy hvy rfl hny hdy) (pa_cons (pe_bltn hgz hmz hvz rfl hnz hdz) pa_nil he4) he3)) pa_nil he2) he) hn hdb he hpl, fun Z σ H F α ρ M Φ Ψ Q ok re h k kx => ha.snd Z σ H F α ρ M _ _ _ ok re h (fun v H1 F1 α1 d M1 x1 ok1 r1 h1 => by
    refine ⟨(by decide : 2 ≤ sizeLine), fun tp ntp => ?_⟩
    cases e : D.tyn M1 d with
    | none => rw [e] at h1; exact False.elim h1
    | some t =>
      rw [e] at h1
      have ex : Ext F1 α1 (upd F1 tp (.tup [.ty n, .ty m])) α1 := Ext.upd (ok1.free ntp)
      have ok2 : Ok X.K Z (upd F1 tp (.tup [.ty n, .ty m])) α1 M1 (upd H1 tp (.tup [.ty n, .ty m])) := ok1.new ntp
      obtain ⟨ty, mem⟩ := (r1.mono ex).tyX ok2 e
      exact ⟨v, tp, [.ty n, .ty m], .type t, [.type n, .type m], _, rfl, upd_same, .cons clsV_ty (.cons clsV_ty .nil), ty, kitAny2 mem hk hk2, k _ _ _ _ _ _ (x1.trans ex) ok2 (.bl _) h1⟩) kx⟩
/-! ### list(range(..)) -/
def dLstRg1 (Ta : DTE) : DTE := fun ρ M Φ Ψ => Ta ρ M (fun d M1 => match d with
  | .int n => (-(2 : Int) ^ 62 ≤ n ∧ n ≤ 1000) ∧ Φ (.lst (rngD 0 n.toNat)) M1
  | _ => False) Ψ
end
end DL

set_option Elab.async false
set_option linter.all false
set_option autoImplicit false
set_option maxRecDepth 100000
set_option maxHeartbeats 4000000
/-! # list(range(n)), a name = a comprehension, two clauses of for, an error's field -/
namespace DL
open PySem PySem.Spec L2
open PyProof.Rows hiding St
section
variable {X : Cx} {W : WX} {pos : Pos} {a e elt iter iter1 tg tg1 : Expr} {ifs ifs1 : List Expr} {ta te : TE} {Ta Te : DTE}
theorem RpL.rng {K : PySem.W.Frag} {F : Hp} {α : List Addr} (lo : Int) : ∀ l : List Nat, RpL K F α (l.map fun (i : Nat) => V.int (lo + (i : Int))) (l.map fun (i : Nat) => D.int (lo + i))
  | [] => .nil
  | i :: l => .cons (.int _) (RpL.rng lo l)
theorem de_lstRg1 {p p2 pos2 : Pos} (hc : X.calm = true) (hl : X.mg "list" = none) (hr : X.mg "range" = none) (ha : DE X W a ta Ta) (hgl : Gl X "list" := by rfl) (hgr : Gl X "range" := by rfl)
    (na : starEach [a] X.env = (false, eval a X.env) :: starEach [] X.env := by rfl) (nb : starEach [.Call (.Name "range" p2) [a] [] pos2] X.env = (false, eval (.Call (.Name "range" p2) [a] [] pos2) X.env) :: starEach [] X.env := by rfl) :
    DE X W (.Call (.Name "list" p) [.Call (.Name "range" p2) [a] [] pos2] [] pos) (tLstRg (tRg1 ta)) (dLstRg1 Ta) :=
  ⟨pe_listRg hc hgl hl (prg_1 hgr hr ha.pe na) nb, fun Z σ H F α ρ M Φ Ψ Q ok re h k kx => ha.snd Z σ H F α ρ M _ _ _ ok re h (fun v H1 F1 α1 d M1 x1 ok1 r1 h1 => by
    cases d with
    | int n =>
      cases r1
      obtain ⟨b1, h1⟩ := h1
      refine ⟨n, rfl, ?_, fun q hq => ?_⟩
      · exact ⟨by omega, by omega, b1.1, by omega, by omega⟩
      · refine new_lst ok1 ?_ (k.mono x1) h1 hq
        have e : (n - 0).toNat = n.toNat := by rw [Int.sub_zero]
        show RpL X.K F1 α1 ((List.range (n - 0).toNat).map fun (i : Nat) => V.int (0 + (i : Int))) (rngD 0 n.toNat)
        rw [e]
        exact RpL.rng 0 _
    | _ => exact False.elim h1) kx⟩
/-! ### x, y, z = .., .., .. -/
section
variable {b c : Expr} {tA : TA} {TA' : DTA}
def dPar3 (i j l : Nat) (T : DTA) : DTS := fun E ρ M => T ρ M (fun ds M1 => match ds with
  | [d, e, f] => E.nx (((ρ.set i (some d)).set j (some e)).set l (some f)) M1
  | _ => False) (fun x M1 => E.ex x ρ M1)
theorem ds_par3 {i j l : Nat} {x y z : Str} {px py pz pt : Pos} {kt k2 : Nat} {pt2 : Pos} (hc : X.calm = true) (hN : X.N.Nodup) (ha : DA X W [a, b, c] tA TA') (hij : i ≠ j := by decide) (hil : i ≠ l := by decide) (hjl : j ≠ l := by decide) (hi : X.N[i]? = some x := by rfl) (hj : X.N[j]? = some y := by rfl) (hl : X.N[l]? = some z := by rfl)
    (hx : X.env.scope.names.lookup x = some .local := by rfl) (hy : X.env.scope.names.lookup y = some .local := by rfl) (hz : X.env.scope.names.lookup z = some .local := by rfl)
    (hw : swappedStores [.Tuple [.Name x px, .Name y py, .Name z pz] kt pt] (.Tuple [a, b, c] k2 pt2) X.env = pure (some [x, y, z]) := by rfl)
    (hs : swapsWithSole [.Tuple [.Name x px, .Name y py, .Name z pz] kt pt] (.Tuple [a, b, c] k2 pt2) pos.line X.env = pure false := by rfl) :
    DS X W (.Assign [.Tuple [.Name x px, .Name y py, .Name z pz] kt pt] (.Tuple [a, b, c] k2 pt2) pos) (tPar3 i j l tA) (dPar3 i j l TA') :=
  ⟨ps_par3 hc hN hi hj hl hij hil hjl hx hy hz ha.pa hw hs, fun Z σ H F α ρ M E D ok re h k => ha.snd Z σ H F α ρ M _ _ _ ok re h (fun vs H1 F1 α1 ds M1 x1 ok1 r1 h1 => by
    cases r1 with
    | nil => exact False.elim h1
    | cons r t => cases t with
      | nil => exact False.elim h1
      | cons r' t => cases t with
        | nil => exact False.elim h1
        | cons r'' t => cases t with
          | nil => exact ⟨_, _, _, rfl, k.nx _ _ _ _ _ _ x1 ok1 ((((re.mono x1).set r).set r').set r'') h1⟩
          | cons _ _ => exact False.elim h1) (k.kx re)⟩
end
/-! ### y = [..] -/
section
variable {scope : Scope} {own : List (Str × Nat)} {wi : TI} {wi1 : Shared → Hp → Addr → List (Str × Addr) → List Addr → TI} {Wi Wi1 : DTI} {ts ts1 vs1 : List Nat} {g g1 : Shared → Hp → Addr → List (Str × Addr) → List Addr → TG} {G G1 : DTG} {tt tt1 : Shared → Hp → Addr → List (Str × Addr) → List Addr → TT} {T T1 : DTT} {te : Shared → Hp → Addr → List (Str × Addr) → List Addr → TE}
theorem ds_setLc {i : Nat} {y : Str} {py spos : Pos} (hc : X.calm = true) (hN : X.N.Nodup) (hi : DI X W tg iter wi Wi) (ok : BlkOk X.N X.env.scope scope own)
    (hg : ∀ (s : Shared) (H : Hp) (C : Addr) (cl : List (Str × Addr)) (fp : List Addr), DG (X.blk s H scope (compEnvC scope cl C X.env) fp) tg ts (g s H C cl fp) G)
    (ht : ∀ (s : Shared) (H : Hp) (C : Addr) (cl : List (Str × Addr)) (fp : List Addr), DTs (X.blk s H scope (compEnvC scope cl C X.env) fp) ifs (tt s H C cl fp) T)
    (he : ∀ (s : Shared) (H : Hp) (C : Addr) (cl : List (Str × Addr)) (fp : List Addr), DE (X.blk s H scope (compEnvC scope cl C X.env) fp) W0 elt (te s H C cl fp) Te) (hts : ∀ i ∈ ts, i ∈ own.map (·.2) := by decide)
    (hy : X.N[i]? = some y := by rfl) (hyl : X.env.scope.names.lookup y = some .local := by rfl) (hk : X.env.scope.kind = .function := by rfl) (hl : (py.line == pos.line) = true := by rfl) (han : (scope.names.any fun (n, k) => n == y && (k == .local || k == .cell)) = false := by rfl)
    (hs : ∀ x, foldedSetIterable iter X.env x = pure x := by intro _; rfl) :
    DS X W (.Assign [.Name y py] (.ListComp elt [⟨tg, iter, ifs, 0⟩] scope pos) spos) (tAsg (tLc wi (uniG g) (uniT tt) (uniE te) (own.map (·.2))) (gName i)) (dAsg (dLc Wi G T Te (own.map (·.2))) (dgName i)) :=
  ⟨ps_setLc hc hN hy hyl (sw_true hk hyl hl han) hi.pi ok (fun s H C cl fp => (uni_g hg s H C cl fp).pg) (fun s H C cl fp => (uni_t ht s H C cl fp).pt) (fun s H C cl fp => (uni_e he s H C cl fp).pe) hs,
    snd_asg (fun Z σ H F α ρ M Φ Ψ Q ok' re h k kx => snd_lc hts hi.snd (uni_g hg {} (fun _ => none) 0 [] []).snd (uni_t ht {} (fun _ => none) 0 [] []).snd (uni_e he {} (fun _ => none) 0 [] []).snd ok' re h kx (fin_lst k)) (snd_gName i)⟩
/-! ### two clauses -/
def dStep2 (G : DTG) (T : DTT) (Wi1 : DTI) (G1 : DTG) (T1 : DTT) (Te : DTE) (vs vs1 : List Nat) (ρ : Rho) : D → List D → Ms → (List D → Ms → Prop) → Prop := fun d acc M2 k => G d (wipeR ρ vs) M2 (fun ρ2 M3 => T ρ2 M3 (fun b M4 => if b = true then
    Wi1 ρ2 M4 (fun its1 keep1 M5 => dGo (fun d1 acc1 M6 k1 => G1 d1 (wipeR ρ2 vs1) M6 (fun ρ3 M7 => dElt T1 Te ρ3 acc1 M7 k1)) keep1 k its1 acc M5) (fun _ _ => False)
    else k acc M4) (fun _ _ => False))
def dLc2 (Wi : DTI) (G : DTG) (T : DTT) (Wi1 : DTI) (G1 : DTG) (T1 : DTT) (Te : DTE) (vs vs1 : List Nat) : DTE := fun ρ M Φ Ψ => Wi ρ M (fun its keep M1 =>
  dGo (dStep2 G T Wi1 G1 T1 Te vs vs1 ρ) keep (fun acc M2 => Φ (.lst acc) M2) its [] M1) Ψ
theorem de_lc2 (hc : X.calm = true) (hN : X.N.Nodup) (hi : DI X W tg iter wi Wi) (ok : BlkOk X.N X.env.scope scope own) (hv1 : ∀ i ∈ vs1, i ∈ own.map (·.2))
    (hg : ∀ (s : Shared) (H : Hp) (C : Addr) (cl : List (Str × Addr)) (fp : List Addr), DG (X.blk s H scope (compEnvC scope cl C X.env) fp) tg ts (g s H C cl fp) G)
    (ht : ∀ (s : Shared) (H : Hp) (C : Addr) (cl : List (Str × Addr)) (fp : List Addr), DTs (X.blk s H scope (compEnvC scope cl C X.env) fp) ifs (tt s H C cl fp) T)
    (hi1 : ∀ (s : Shared) (H : Hp) (C : Addr) (cl : List (Str × Addr)) (fp : List Addr), DI (X.blk s H scope (compEnvC scope cl C X.env) fp) W0 tg1 iter1 (wi1 s H C cl fp) Wi1)
    (hg1 : ∀ (s : Shared) (H : Hp) (C : Addr) (cl : List (Str × Addr)) (fp : List Addr), DG (X.blk s H scope (compEnvC scope cl C X.env) fp) tg1 ts1 (g1 s H C cl fp) G1)
    (ht1 : ∀ (s : Shared) (H : Hp) (C : Addr) (cl : List (Str × Addr)) (fp : List Addr), DTs (X.blk s H scope (compEnvC scope cl C X.env) fp) ifs1 (tt1 s H C cl fp) T1)
    (he : ∀ (s : Shared) (H : Hp) (C : Addr) (cl : List (Str × Addr)) (fp : List Addr), DE (X.blk s H scope (compEnvC scope cl C X.env) fp) W0 elt (te s H C cl fp) Te) (hts : ∀ i ∈ ts, i ∈ own.map (·.2) := by decide) (hts1 : ∀ i ∈ ts1, i ∈ vs1 := by decide)
    (hs : ∀ x, foldedSetIterable iter X.env x = pure x := by intro _; rfl) (hs1 : ∀ (env : Env) (x : Value), foldedSetIterable iter1 env x = pure x := by intro _ _; rfl) :
    DE X W (.ListComp elt [⟨tg, iter, ifs, 0⟩, ⟨tg1, iter1, ifs1, 0⟩] scope pos) (tLc2 wi (uniG g) (uniT tt) (uniI wi1) (uniG g1) (uniT tt1) (uniE te) (own.map (·.2)) vs1) (dLc2 Wi G T Wi1 G1 T1 Te (own.map (·.2)) vs1) := by
  refine ⟨pe_lc2 hc hN hi.pi ok hv1 (fun s H C cl fp => (uni_g hg s H C cl fp).pg) (fun s H C cl fp => (uni_t ht s H C cl fp).pt) (fun s H C cl fp => (uni_i hi1 s H C cl fp).pi) (fun s H C cl fp => (uni_g hg1 s H C cl fp).pg) (fun s H C cl fp => (uni_t ht1 s H C cl fp).pt) (fun s H C cl fp => (uni_e he s H C cl fp).pe) hs hs1, ?_⟩
  have Sg := (uni_g hg {} (fun _ => none) 0 [] []).snd
  have St := (uni_t ht {} (fun _ => none) 0 [] []).snd
  have Si1 := (uni_i hi1 {} (fun _ => none) 0 [] []).snd
  have Sg1 := (uni_g hg1 {} (fun _ => none) 0 [] []).snd
  have St1 := (uni_t ht1 {} (fun _ => none) 0 [] []).snd
  have Se := (uni_e he {} (fun _ => none) 0 [] []).snd
  intro Z σ H F α ρ M Φ Ψ Q ok re h k kx
  refine hi.snd Z σ H F α ρ M _ Ψ _ ok re h (fun J H1 F1 α1 its keep M1 x1 ok1 it h1 => ?_) kx
  intro L hL
  have nz : ∀ q ∈ Z, q.1 ≠ L := nz_new ok1 hL
  refine ⟨fun i m H' => m = its.length - i ∧ i ≤ its.length ∧ ∃ F' α' M' acc ws, Ext F1 α1 F' α' ∧ Ok X.K ((L, .lst ws) :: Z) F' α' M' H' ∧ RpL X.K F' α' ws acc ∧ dGo (dStep2 G T Wi1 G1 T1 Te (own.map (·.2)) vs1 ρ) keep (fun acc M2 => Φ (.lst acc) M2) (its.drop i) acc M',
    ⟨its.length, rfl, Nat.zero_le _, F1, α1, M1, [], [], Ext.refl, ok1.hide hL, .nil, h1⟩, ?_⟩
  rintro i m H2 ⟨rfl, hle, F2, α2, M2, acc, ws, x2, ok2, ra, h2⟩
  by_cases hlt : i < its.length
  · rw [drop_cons hlt] at h2
    obtain ⟨kp, h2⟩ := h2
    unfold dStep2 at h2
    obtain ⟨go, yl⟩ := (it i _ H2 F2 α2 M2 x2 ok2 kp).2 its[i] (List.getElem?_eq_getElem hlt)
    refine .inr ⟨go, fun H' => ∃ F' α' M' acc ws, Ext F1 α1 F' α' ∧ Ok X.K ((L, .lst ws) :: Z) F' α' M' H' ∧ RpL X.K F' α' ws acc ∧ dGo (dStep2 G T Wi1 G1 T1 Te (own.map (·.2)) vs1 ρ) keep (fun acc M2 => Φ (.lst acc) M2) (its.drop (i + 1)) acc M', fun H' z => ⟨its.length - (i + 1), by omega, rfl, hlt, z⟩, fun x H3 y3 => ?_⟩
    obtain ⟨F3, x3, ok3, r3⟩ := yl x H3 y3
    refine Sg _ (L2.wipe σ (own.map (·.2))) H3 F3 α2 (wipeR ρ (own.map (·.2))) M2 x its[i] _ _ ok3 ((re.mono (x1.trans (x2.trans x3))).wipe (own.map (·.2))) r3 h2 ?_
    intro σ4 H4 F4 α4 ρ4 M4 x4 ok4 re4 ag h4
    refine ⟨?_, ?_⟩
    · have e1 := ag.wipe hts
      rw [e1]
      exact Ag.wipe (ts := own.map (·.2)) ⟨L2.wipe_length _ _, fun j hj => by rw [wipe_get, if_neg (fun z => hj z.1)]⟩ fun _ z => z
    · refine St _ σ4 H4 F4 α4 ρ4 M4 _ (fun _ _ => False) _ ok4 re4 h4 ?_ KX.none
      intro b H5 F5 α5 M5 x5 ok5 h5
      have X5 := x2.trans (x3.trans (x4.trans x5))
      cases b with
      | false =>
        rw [if_neg Bool.false_ne_true] at h5 ⊢
        exact ⟨F5, α5, M5, acc, ws, X5, ok5, ra.mono (x3.trans (x4.trans x5)), h5⟩
      | true =>
        rw [if_pos rfl] at h5 ⊢
        refine Si1 _ σ4 H5 F5 α5 ρ4 M5 _ (fun _ _ => False) _ ok5 (re4.mono x5) h5 ?_ KX.none
        intro J1 H6 F6 α6 its1 keep1 M6 x6 ok6 it1 h6
        refine ⟨fun j m H' => m = its1.length - j ∧ j ≤ its1.length ∧ ∃ F' α' M' acc ws, Ext F6 α6 F' α' ∧ Ok X.K ((L, .lst ws) :: Z) F' α' M' H' ∧ RpL X.K F' α' ws acc ∧ dGo (fun d1 acc1 M6 k1 => G1 d1 (wipeR ρ4 vs1) M6 (fun ρ3 M7 => dElt T1 Te ρ3 acc1 M7 k1)) keep1 (fun acc' M' => dGo (dStep2 G T Wi1 G1 T1 Te (own.map (·.2)) vs1 ρ) keep (fun acc M2 => Φ (.lst acc) M2) (its.drop (i + 1)) acc' M') (its1.drop j) acc M',
          ⟨its1.length, rfl, Nat.zero_le _, F6, α6, M6, acc, ws, Ext.refl, ok6, ra.mono (x3.trans (x4.trans (x5.trans x6))), h6⟩, ?_⟩
        rintro j m H7 ⟨rfl, hle1, F7, α7, M7, acc7, ws7, x7, ok7, ra7, h7⟩
        by_cases hlt1 : j < its1.length
        · rw [drop_cons hlt1] at h7
          obtain ⟨kp1, h7⟩ := h7
          obtain ⟨go1, yl1⟩ := (it1 j _ H7 F7 α7 M7 x7 ok7 kp1).2 its1[j] (List.getElem?_eq_getElem hlt1)
          refine .inr ⟨go1, fun H' => ∃ F' α' M' acc ws, Ext F6 α6 F' α' ∧ Ok X.K ((L, .lst ws) :: Z) F' α' M' H' ∧ RpL X.K F' α' ws acc ∧ dGo (fun d1 acc1 M6 k1 => G1 d1 (wipeR ρ4 vs1) M6 (fun ρ3 M7 => dElt T1 Te ρ3 acc1 M7 k1)) keep1 (fun acc' M' => dGo (dStep2 G T Wi1 G1 T1 Te (own.map (·.2)) vs1 ρ) keep (fun acc M2 => Φ (.lst acc) M2) (its.drop (i + 1)) acc' M') (its1.drop (j + 1)) acc M', fun H' z => ⟨its1.length - (j + 1), by omega, rfl, hlt1, z⟩, fun y H8 y8 => ?_⟩
          obtain ⟨F8, x8, ok8, r8⟩ := yl1 y H8 y8
          refine Sg1 _ (L2.wipe σ4 vs1) H8 F8 α7 _ M7 y _ _ _ ok8 ((re4.mono (x5.trans (x6.trans (x7.trans x8)))).wipe vs1) r8 h7 ?_
          intro σ9 H9 F9 α9 ρ9 M9 x9 ok9 re9 ag9 h9
          refine ⟨?_, ?_⟩
          · have e1 := ag9.wipe hts1
            rw [e1]
            exact Ag.wipe (ts := vs1) ⟨L2.wipe_length _ _, fun j hj => by rw [wipe_get, if_neg (fun z => hj z.1)]⟩ fun _ z => z
          · exact snd_elt St1 Se ok9 nz re9 (ra7.mono (x8.trans x9)) h9 fun H' F' α' acc' vs' M' x10 ok10 r10 h10 => ⟨F', α', M', acc', vs', x7.trans (x8.trans (x9.trans x10)), ok10, r10, h10⟩
        · have e : j = its1.length := by omega
          rw [e, List.drop_length] at h7
          exact .inl ⟨(it1 j _ H7 F7 α7 M7 x7 ok7 h7.1).1 (by omega), F7, α7, M7, acc7, ws7, X5.trans (x6.trans x7), ok7, ra7, h7.2⟩
  · have e : i = its.length := by omega
    rw [e, List.drop_length] at h2
    exact .inl ⟨(it i _ H2 F2 α2 M2 x2 ok2 h2.1).1 (by omega), fin_lst k L nz H2 F2 α2 acc ws M2 (x1.trans x2) ok2 ra h2.2⟩
end
end
/-! ### a, b = a list -/
section
variable {X : Cx} {pos : Pos}
def dgLst (Gs : DTGs) : DTG := fun d ρ M Ξ => match d with
  | .lst ds => Gs ds ρ M Ξ
  | _ => False
theorem dg_twoL {a b : Expr} {k i j : Nat} {g g' : TG} (hc : X.calm = true) (h1 : DG X a [i] g (dgName i)) (h2 : DG X b [j] g' (dgName j))
    (hs1 : (assignEach [a, b] X.env).map (·.2) = assign a X.env :: (assignEach [b] X.env).map (·.2) := by rfl) (hs2 : (assignEach [b] X.env).map (·.2) = assign b X.env :: (assignEach [] X.env).map (·.2) := by rfl)
    (hn : (assignEach [a, b] X.env).length = 2 := by rfl) (hst : (assignEach [a, b] X.env).findIdx? (·.1) = none := by rfl) :
    DG X (.Tuple [a, b] k pos) [i, j] (gUnl X.K 2 (gCons g (gCons g' gNil))) (dgLst (dgCons (dgName i) (dgCons (dgName j) dgNil))) :=
  ⟨pg_unl hc (dgs_cons h1 (dgs_cons h2 dgs_nil hs2) hs1).pg hn hst, fun Z σ H F α ρ M v d Ξ R ok re r hh kk => by
    cases d with
    | lst ds =>
      obtain ⟨c, xs, rfl, ha, ra⟩ := r.lstf? (M := M) ok rfl
      have hl : ∀ ds ρ M Ξ, dgCons (dgName i) (dgCons (dgName j) dgNil) ds ρ M Ξ → ds.length = 2 := fun ds ρ M Ξ h => len_cons (fun ds ρ M Ξ h => len_cons (fun _ _ _ _ => len_nil) j rfl h) i rfl h
      exact ⟨c, xs, rfl, ha, by rw [ra.length]; exact hl ds ρ M Ξ hh, (dgs_cons h1 (dgs_cons h2 dgs_nil hs2) hs1).snd Z σ H F α ρ M _ _ _ _ ok re ra hh kk⟩
    | _ => exact False.elim hh⟩
end
/-! ### error.f in a suite -/
section
variable {X : Cx} {pos : Pos} {e : Expr} {te : TE} {Te : DTE}
/-- e is the caught exception, its field f -/
def dXf (a : Addr) (cls : Value) (d : Option Addr) (C : Addr) (f : Str) (Te : DTE) : DTE := fun ρ M Φ Ψ => Te ρ M (fun o M1 => match o with
  | .exn a' dd f' y => a' = a ∧ cls = .ref C ∧ d = some dd ∧ f' = f ∧ Φ y M1
  | _ => False) Ψ
theorem de_xf {a C : Addr} {oe : Obj} {cls : Value} {d : Option Addr} {pn : List (Addr × Obj)} {n : Str} (hx : XfC X.K C) (hno : PySem.W.findIn X.K (.ref C) n = some none) (hz : Zc cls d oe) (hf : ∃ vs, oe.data = .fields vs)
    (he : DE (X.suite a ((a, oe) :: pn)) W0 e te Te) (hb : attributeBase e n X.env (eval e X.env) = eval e X.env := by rfl) : DE (X.suite a ((a, oe) :: pn)) W0 (.Attribute e n pos) (tXf a cls d C n te) (dXf a cls d C n Te) :=
  ⟨pe_xf hx hno hz hf he.pe hb, fun Z σ H F α ρ M Φ Ψ Q ok re h k kx => he.snd Z σ H F α ρ M _ _ _ ok re h (fun v H1 F1 α1 o M1 x1 ok1 r1 h1 => by
    cases o with
    | exn a' dd f' y =>
      obtain ⟨e1, hcls, hdd, e2, h1⟩ := h1
      subst e1 e2
      cases r1 with
      | exn q r => exact ⟨rfl, hcls, dd, _, _, hdd, ok1.le _ _ q, (by simp [List.lookup]), k _ _ _ _ _ _ x1 ok1 r h1⟩
    | _ => exact False.elim h1) kx⟩
end
end DL

set_option Elab.async false
set_option linter.all false
set_option autoImplicit false
set_option maxRecDepth 100000
set_option maxHeartbeats 2000000
/-! # Reading transformers: loops by induction, indices -/
namespace DL
open PySem PySem.Spec L2
open PyProof.Rows hiding St
theorem for_ind {G : DTG} {B : DTS} {keep : Ms → Prop} {E : DEnds} (I : List D → Rho → Ms → Prop) (h0 : ∀ ρ M, I [] ρ M → keep M ∧ E.nx ρ M)
    (hs : ∀ d r ρ M (nx : Rho → Ms → Prop), (∀ ρ' M', I r ρ' M' → nx ρ' M') → I (d :: r) ρ M → keep M ∧ G d ρ M (fun ρ' M' => B { E with nx := nx, ct := nx, bk := E.nx } ρ' M')) : ∀ its ρ M, I its ρ M → dForGo G B keep E its ρ M
  | [], ρ, M, h => h0 ρ M h
  | d :: r, ρ, M, h => hs d r ρ M _ (fun ρ' M' z => for_ind I h0 hs r ρ' M' z) h
/-- .. the items made from a list -/
theorem for_map {A : Type} {e : A → D} {G : DTG} {B : DTS} {keep : Ms → Prop} {E : DEnds} (I : List A → Rho → Ms → Prop) (h0 : ∀ ρ M, I [] ρ M → keep M ∧ E.nx ρ M)
    (hs : ∀ d r ρ M (nx : Rho → Ms → Prop), (∀ ρ' M', I r ρ' M' → nx ρ' M') → I (d :: r) ρ M → keep M ∧ G (e d) ρ M (fun ρ' M' => B { E with nx := nx, ct := nx, bk := E.nx } ρ' M')) : ∀ xs ρ M, I xs ρ M → dForGo G B keep E (xs.map e) ρ M
  | [], ρ, M, h => h0 ρ M h
  | d :: r, ρ, M, h => hs d r ρ M _ (fun ρ' M' z => for_map I h0 hs r ρ' M' z) h
theorem go_ind {A : Type} {e : A → D} {st : D → List D → Ms → (List D → Ms → Prop) → Prop} {keep : Ms → Prop} {Φ : List D → Ms → Prop} (I : List A → List D → Ms → Prop) (h0 : ∀ acc M, I [] acc M → keep M ∧ Φ acc M)
    (hs : ∀ d r acc M (k : List D → Ms → Prop), (∀ acc' M', I r acc' M' → k acc' M') → I (d :: r) acc M → keep M ∧ st (e d) acc M k) : ∀ xs acc M, I xs acc M → dGo st keep Φ (xs.map e) acc M
  | [], acc, M, h => h0 acc M h
  | d :: r, acc, M, h => hs d r acc M _ (fun ρ' M' z => go_ind I h0 hs r ρ' M' z) h
/-- a pure comprehension: some items, or none, of each -/
theorem go_pure {A : Type} {e : A → D} {f : A → List D} {st : D → List D → Ms → (List D → Ms → Prop) → Prop} {keep : Ms → Prop} {Φ : List D → Ms → Prop} {M : Ms} : ∀ (xs : List A) (acc : List D),
    (∀ a ∈ xs, ∀ acc k, k (acc ++ f a) M → acc.length < sizeLine → st (e a) acc M k) → keep M → (∀ a ∈ xs, (f a).length ≤ 1) → acc.length + xs.length ≤ sizeLine → Φ (acc ++ xs.flatMap f) M → dGo st keep Φ (xs.map e) acc M
  | [], acc, _, hk, _, _, h => ⟨hk, by simpa using h⟩
  | a :: r, acc, hs, hk, hl, hn, h => by
    have hl1 := hl a List.mem_cons_self
    refine ⟨hk, hs a List.mem_cons_self acc _ ?_ (by simp at hn; omega)⟩
    refine go_pure r (acc ++ f a) (fun b hb => hs b (List.mem_cons_of_mem _ hb)) hk (fun b hb => hl b (List.mem_cons_of_mem _ hb)) (by simp at hn ⊢; omega) ?_
    rw [List.append_assoc]
    simpa using h
theorem flat_one {A B : Type} (f : A → B) : ∀ xs : List A, xs.flatMap (fun a => [f a]) = xs.map f
  | [] => rfl
  | a :: r => by rw [List.flatMap_cons, List.map_cons, flat_one f r]; rfl
theorem flat_if {A B : Type} (p : A → Bool) (f : A → B) : ∀ xs : List A, xs.flatMap (fun a => if p a = true then [f a] else []) = (xs.filter p).map f
  | [] => rfl
  | a :: r => by
    rw [List.flatMap_cons, List.filter_cons, flat_if p f r]
    cases q : p a with
    | true => rw [if_pos rfl, if_pos rfl, List.map_cons]; rfl
    | false => rw [if_neg Bool.false_ne_true, if_neg Bool.false_ne_true]; rfl
/-- .. one of each -/
theorem go_map {A : Type} {e : A → D} {f : A → D} {st : D → List D → Ms → (List D → Ms → Prop) → Prop} {keep : Ms → Prop} {Φ : List D → Ms → Prop} {M : Ms} (xs : List A)
    (hs : ∀ a ∈ xs, ∀ acc k, k (acc ++ [f a]) M → acc.length < sizeLine → st (e a) acc M k) (hk : keep M) (hn : xs.length ≤ sizeLine) (h : Φ (xs.map f) M) : dGo st keep Φ (xs.map e) [] M :=
  go_pure (f := fun a => [f a]) xs [] hs hk (fun _ _ => Nat.le_refl _) (by simpa using hn) (by rw [flat_one]; exact h)
/-- .. those with p -/
theorem go_filter {A : Type} {e : A → D} {f : A → D} (p : A → Bool) {st : D → List D → Ms → (List D → Ms → Prop) → Prop} {keep : Ms → Prop} {Φ : List D → Ms → Prop} {M : Ms} (xs : List A)
    (hs : ∀ a ∈ xs, ∀ acc k, (p a = true → k (acc ++ [f a]) M) → (p a = false → k acc M) → acc.length < sizeLine → st (e a) acc M k) (hk : keep M) (hn : xs.length ≤ sizeLine) (h : Φ ((xs.filter p).map f) M) : dGo st keep Φ (xs.map e) [] M :=
  go_pure (f := fun a => if p a = true then [f a] else []) xs [] (fun a ha acc k hk hl => hs a ha acc k (fun z => by rw [if_pos z] at hk; exact hk) (fun z => by rw [z, if_neg Bool.false_ne_true, List.append_nil] at hk; exact hk) hl) hk
    (fun a _ => by split <;> simp) (by simpa using hn) (by rw [flat_if]; exact h)
theorem atI_nat {α : Type} {l : List α} {i : Nat} : L2.atI l (i : Int) = l[i]? := by
  unfold L2.atI L2.ixN
  by_cases h : i < l.length
  · simp [h]
  · simp [h]
    try omega
end DL

set_option Elab.async false
set_option linter.all false
set_option autoImplicit false
set_option maxRecDepth 100000
set_option maxHeartbeats 4000000
/-! # The walk: each def's body as a transformer of data (printed by gen.py) -/
namespace K85
open PySem PySem.Spec L2 DL
open PyProof.Rows hiding St
/-- the i-th statement of the text -/
def top (i : Nat) : Stmt := PySem.Challenge.pw_onesize_k85_whole_diversities_fall.main.body.getD i (.Pass ⟨0, 0, 0, 0⟩)
theorem room64 {k : Nat} {A : Around} (h : Room k A) : A.units + 64 < cLine := by
  have := h.un
  omega
/-- what the top has written -/
structure Txt (P : Program) (w : World) (K : PySem.W.Frag) (mg : Str → Option Value) (base : Heap) (c_InvalidNumber : Addr) (c_InvalidLikeness : Addr) (c_InvalidCommunity : Addr) (c_TooMany : Addr) : Prop where
  d_is_integer : Def K mg "is_integer" (top 8) ["value"]
  d_is_between : Def K mg "is_between" (top 9) ["value", "least", "most"]
  d_is_tuple_of : Def K mg "is_tuple_of" (top 10) ["value", "length"]
  d_lowest : Def K mg "lowest" (top 11) ["top", "bottom"]
  d_is_fraction : Def K mg "is_fraction" (top 15) ["value"]
  d_plus : Def K mg "plus" (top 16) ["one", "other"]
  d_times : Def K mg "times" (top 17) ["one", "other"]
  d_over : Def K mg "over" (top 18) ["one", "other"]
  d_raised : Def K mg "raised" (top 19) ["one", "count"]
  d_is_less : Def K mg "is_less" (top 20) ["one", "other"]
  d_total : Def K mg "total" (top 21) ["items"]
  d_dot : Def K mg "dot" (top 22) ["one", "other"]
  d_is_row_of : Def K mg "is_row_of" (top 25) ["value", "length"]
  d_is_any_table : Def K mg "is_any_table" (top 26) ["value"]
  d_is_table : Def K mg "is_table" (top 27) ["value"]
  d_turned_of : Def K mg "turned_of" (top 28) ["table"]
  d_applied_to : Def K mg "applied_to" (top 29) ["table", "row"]
  d_is_share : Def K mg "is_share" (top 31) ["item"]
  d_is_likeness : Def K mg "is_likeness" (top 32) ["value"]
  d_check_likeness : Def K mg "check_likeness" (top 33) ["likeness"]
  d_is_community_of : Def K mg "is_community_of" (top 34) ["size", "value"]
  d_check_community : Def K mg "check_community" (top 35) ["likeness", "community"]
  d_support_of : Def K mg "support_of" (top 36) ["community"]
  d_check_both : Def K mg "check_both" (top 37) ["likeness", "community"]
  d_shares_of : Def K mg "shares_of" (top 41) ["likeness", "community"]
  d_power_sum_of : Def K mg "power_sum_of" (top 42) ["likeness", "community", "q"]
  d_common_multiple : Def K mg "common_multiple" (top 43) ["community"]
  d_first_order : Def K mg "first_order" (top 44) ["likeness", "community"]
  d_greatest_presence : Def K mg "greatest_presence" (top 45) ["likeness", "community"]
  d_diversity_of : Def K mg "diversity_of" (top 46) ["likeness", "community", "q"]
  d_sign_of : Def K mg "sign_of" (top 47) ["one", "other"]
  d_check_order : Def K mg "check_order" (top 48) ["q"]
  d_check_power : Def K mg "check_power" (top 49) ["community"]
  d_is_first : Def K mg "is_first" (top 50) ["q"]
  d_power_sum : Def K mg "power_sum" (top 51) ["likeness", "community", "q"]
  d_diversity : Def K mg "diversity" (top 52) ["likeness", "community", "q"]
  d_order_sign : Def K mg "order_sign" (top 53) ["likeness", "one", "other", "q"]
  d_falls : Def K mg "falls" (top 54) ["likeness", "community"]
  d_least_diversity : Def K mg "least_diversity" (top 55) ["likeness", "community"]
  d_greatest_order : Def K mg "greatest_order" (top 56) ["likeness", "community"]
  d__law_cell : Def K mg "_law_cell" (top 58) ["script", "k"]
  d__law_box : Def K mg "_law_box" (top 59) ["great"]
  d__law_take : Def K mg "_law_take" (top 60) ["box", "many"]
  d__law_pick : Def K mg "_law_pick" (top 61) ["box", "items"]
  d__law_same : Def K mg "_law_same" (top 62) ["given", "due"]
  d__law_lowest : Def K mg "_law_lowest" (top 63) ["n", "d"]
  d__law_plus : Def K mg "_law_plus" (top 64) ["x", "y"]
  d__law_times : Def K mg "_law_times" (top 65) ["x", "y"]
  d__law_over : Def K mg "_law_over" (top 66) ["x", "y"]
  d__law_below : Def K mg "_law_below" (top 67) ["x", "y"]
  d__law_total : Def K mg "_law_total" (top 68) ["items"]
  d__law_dot : Def K mg "_law_dot" (top 69) ["one", "other"]
  d__law_apply : Def K mg "_law_apply" (top 70) ["table", "row"]
  d__law_gcd : Def K mg "_law_gcd" (top 71) ["items"]
  d__law_likeness : Def K mg "_law_likeness" (top 72) ["box", "n"]
  d__law_community : Def K mg "_law_community" (top 73) ["box", "n"]
  d__law_raised : Def K mg "_law_raised" (top 74) ["x", "many"]
  d__law_multiple : Def K mg "_law_multiple" (top 75) ["community"]
  d__law_diversity : Def K mg "_law_diversity" (top 76) ["likeness", "community", "q"]
  d__law_sign : Def K mg "_law_sign" (top 77) ["one", "other"]
  d__law_told : Def K mg "_law_told" (top 78) ["f", "a", "named"]
  d__law_orders_right : Def K mg "_law_orders_right" (top 79) ["likeness", "community", "named"]
  d__law_bounds_right : Def K mg "_law_bounds_right" (top 80) ["likeness", "community", "rows"]
  d__law_signs_right : Def K mg "_law_signs_right" (top 81) ["box", "likeness", "one", "other", "named"]
  d__law_planted : Def K mg "_law_planted" (top 82) ["box", "n"]
  d_law : Def K mg "law" (top 83) ["script"]
  b_abs : mg "abs" = none
  b_all : mg "all" = none
  b_bool : mg "bool" = none
  b_dict : mg "dict" = none
  b_enumerate : mg "enumerate" = none
  b_int : mg "int" = none
  b_isinstance : mg "isinstance" = none
  b_len : mg "len" = none
  b_list : mg "list" = none
  b_max : mg "max" = none
  b_min : mg "min" = none
  b_range : mg "range" = none
  b_str : mg "str" = none
  b_sum : mg "sum" = none
  b_tuple : mg "tuple" = none
  b_zip : mg "zip" = none
  m_gcd : mg "gcd" = some (.builtin "math.gcd")
  c_ZERO : Gc K mg "ZERO" (.tup [.int 0, .int 1])
  c_ONE : Gc K mg "ONE" (.tup [.int 1, .int 1])
  c_MOST : Gc K mg "MOST" (.int 8)
  c_MOST_ORDER : Gc K mg "MOST_ORDER" (.int 12)
  c_MOST_POWER : Gc K mg "MOST_POWER" (.int 40)
  x_InvalidNumber : Xc P w K mg base "InvalidNumber" "given" c_InvalidNumber
  x_InvalidLikeness : Xc P w K mg base "InvalidLikeness" "given" c_InvalidLikeness
  x_InvalidCommunity : Xc P w K mg base "InvalidCommunity" "given" c_InvalidCommunity
  x_TooMany : Xc P w K mg base "TooMany" "count" c_TooMany
section
variable {P : Program} {w : World} {K : PySem.W.Frag} {mg : Str → Option Value} {base : Heap} {c_InvalidNumber : Addr} {c_InvalidLikeness : Addr} {c_InvalidCommunity : Addr} {c_TooMany : Addr}
/-! ## is_integer -/
def N_is_integer : List Str := ["value"]
theorem sc_is_integer : FnScope N_is_integer ["value"] (defScope (top 8)) := ⟨rfl, rfl, rfl, by decide +kernel, rfl, by decide +kernel, by decide +kernel⟩
def T_is_integer : DTS :=
  (dRet (dAndV (dIs1 "int" (dVar 0)) (dNotV (dIs1 "bool" (dVar 0)))))
theorem h_is_integer (T : Txt P w K mg base c_InvalidNumber c_InvalidLikeness c_InvalidCommunity c_TooMany) {sp : DSp}
    (run : ∀ ds M Φ Ψ, sp ds M Φ Ψ → ds.length = 1 ∧ T_is_integer (fnEnds M.length Φ Ψ) (startR N_is_integer ds) M) : Has P w K mg base (0 + 1) "is_integer" (top 8) ["value"] sp := by
  refine Def.has T.d_is_integer sc_is_integer (fun ds M Φ Ψ h => (run ds M Φ Ψ h).1) (fun f cdv A outer s H E hr => ?_)
  have hu := room64 hr
  have nd := sc_is_integer.nd
  have tk : Takes (cxOf (L2.CX P w) P w K mg base N_is_integer "is_integer" (defScope (top 8)) f cdv A outer s H E) (fun cls d _ H' => E cls d H') := takes_of rfl rfl rfl rfl
  exact ⟨_, T_is_integer, (dss_one (ds_ret (de_and (de_is1 T.b_isinstance rfl (dv 0) T.b_int rfl) (de_one (de_not (de_is1 T.b_isinstance rfl (dv 0) T.b_bool rfl)))))), fun ds M Φ Ψ h => (run ds M Φ Ψ h).2⟩
/-! ## is_between -/
def N_is_between : List Str := ["value", "least", "most"]
theorem sc_is_between : FnScope N_is_between ["value", "least", "most"] (defScope (top 9)) := ⟨rfl, rfl, rfl, by decide +kernel, rfl, by decide +kernel, by decide +kernel⟩
def T_is_between (p_is_integer : DSp) : DTS :=
  (dRet (dAndV (dCall p_is_integer (dCons (dVar 0) dNil)) (dChain dLe dLe (dVar 1) (dVar 0) (dVar 2))))
theorem h_is_between (T : Txt P w K mg base c_InvalidNumber c_InvalidLikeness c_InvalidCommunity c_TooMany) {sp : DSp} {p_is_integer : DSp} (g_is_integer : Has P w K mg base 1 "is_integer" (top 8) ["value"] p_is_integer)
    (run : ∀ ds M Φ Ψ, sp ds M Φ Ψ → ds.length = 3 ∧ T_is_between p_is_integer (fnEnds M.length Φ Ψ) (startR N_is_between ds) M) : Has P w K mg base (1 + 1) "is_between" (top 9) ["value", "least", "most"] sp := by
  refine Def.has T.d_is_between sc_is_between (fun ds M Φ Ψ h => (run ds M Φ Ψ h).1) (fun f cdv A outer s H E hr => ?_)
  have hu := room64 hr
  have nd := sc_is_between.nd
  have tk : Takes (cxOf (L2.CX P w) P w K mg base N_is_between "is_between" (defScope (top 9)) f cdv A outer s H E) (fun cls d _ H' => E cls d H') := takes_of rfl rfl rfl rfl
  exact ⟨_, T_is_between p_is_integer, (dss_one (ds_ret (de_and (de_call g_is_integer hr tk (da_cons (dv 0) da_nil) (hk := by decide)) (de_one (de_chain op_le snd_le op_le snd_le (dv 1) (dv 0) (dv 2)))))), fun ds M Φ Ψ h => (run ds M Φ Ψ h).2⟩
/-! ## is_tuple_of -/
def N_is_tuple_of : List Str := ["value", "length"]
theorem sc_is_tuple_of : FnScope N_is_tuple_of ["value", "length"] (defScope (top 10)) := ⟨rfl, rfl, rfl, by decide +kernel, rfl, by decide +kernel, by decide +kernel⟩
def T_is_tuple_of : DTS :=
  (dRet (dAndV (dIs1 "tuple" (dVar 0)) (dOp dEq (dCB dLen (dCons (dVar 0) dNil)) (dVar 1))))
theorem h_is_tuple_of (T : Txt P w K mg base c_InvalidNumber c_InvalidLikeness c_InvalidCommunity c_TooMany) {sp : DSp}
    (run : ∀ ds M Φ Ψ, sp ds M Φ Ψ → ds.length = 2 ∧ T_is_tuple_of (fnEnds M.length Φ Ψ) (startR N_is_tuple_of ds) M) : Has P w K mg base (0 + 1) "is_tuple_of" (top 10) ["value", "length"] sp := by
  refine Def.has T.d_is_tuple_of sc_is_tuple_of (fun ds M Φ Ψ h => (run ds M Φ Ψ h).1) (fun f cdv A outer s H E hr => ?_)
  have hu := room64 hr
  have nd := sc_is_tuple_of.nd
  have tk : Takes (cxOf (L2.CX P w) P w K mg base N_is_tuple_of "is_tuple_of" (defScope (top 10)) f cdv A outer s H E) (fun cls d _ H' => E cls d H') := takes_of rfl rfl rfl rfl
  exact ⟨_, T_is_tuple_of, (dss_one (ds_ret (de_and (de_is1 T.b_isinstance rfl (dv 0) T.b_tuple rfl) (de_one (de_cmp (op_eqD hu) snd_eq (de_callB call_lenA snd_len T.b_len rfl (da_cons (dv 0) da_nil)) (dv 1)))))), fun ds M Φ Ψ h => (run ds M Φ Ψ h).2⟩
/-! ## lowest -/
def N_lowest : List Str := ["top", "bottom", "shared"]
theorem sc_lowest : FnScope N_lowest ["top", "bottom"] (defScope (top 11)) := ⟨rfl, rfl, rfl, by decide +kernel, rfl, by decide +kernel, by decide +kernel⟩
def T_lowest : DTS :=
  (dSeq (dAsg (dIf (dB (dOp dGt (dVar 1) (dC (.int 0)))) (dCB dGcd (dCons (dVar 0) (dCons (dVar 1) dNil))) (dUn dNeg (dCB dGcd (dCons (dVar 0) (dCons (dVar 1) dNil))))) (dgName 2))
  (dRet (dTup (dCons (dOp dFdiv (dVar 0) (dVar 2)) (dCons (dOp dFdiv (dVar 1) (dVar 2)) dNil)))))
theorem h_lowest (T : Txt P w K mg base c_InvalidNumber c_InvalidLikeness c_InvalidCommunity c_TooMany) {sp : DSp}
    (run : ∀ ds M Φ Ψ, sp ds M Φ Ψ → ds.length = 2 ∧ T_lowest (fnEnds M.length Φ Ψ) (startR N_lowest ds) M) : Has P w K mg base (0 + 1) "lowest" (top 11) ["top", "bottom"] sp := by
  refine Def.has T.d_lowest sc_lowest (fun ds M Φ Ψ h => (run ds M Φ Ψ h).1) (fun f cdv A outer s H E hr => ?_)
  have hu := room64 hr
  have nd := sc_lowest.nd
  have tk : Takes (cxOf (L2.CX P w) P w K mg base N_lowest "lowest" (defScope (top 11)) f cdv A outer s H E) (fun cls d _ H' => E cls d H') := takes_of rfl rfl rfl rfl
  exact ⟨_, T_lowest, (dss_cons (ds_set (i := 2) nd (de_if (dt_cmp op_gt snd_gt (dv 1) de_int) (de_callF cr_gcd snd_gcd T.m_gcd (da_cons (dv 0) (da_cons (dv 1) da_nil))) (de_un un_neg snd_neg (de_callF cr_gcd snd_gcd T.m_gcd (da_cons (dv 0) (da_cons (dv 1) da_nil))))))
    (dss_one (ds_ret (de_tup (da_cons (de_op op_fdivG snd_fdiv (dv 0) (dv 2)) (da_cons (de_op op_fdivG snd_fdiv (dv 1) (dv 2)) da_nil)))))), fun ds M Φ Ψ h => (run ds M Φ Ψ h).2⟩
/-! ## is_fraction -/
def N_is_fraction : List Str := ["value", "item"]
theorem sc_is_fraction : FnScope N_is_fraction ["value"] (defScope (top 15)) := ⟨rfl, rfl, rfl, by decide +kernel, rfl, by decide +kernel, by decide +kernel⟩
def T_is_fraction (p_is_tuple_of : DSp) (p_is_integer : DSp) : DTS :=
  (dSeq (dIfS (dOr (dNot (dB (dCall p_is_tuple_of (dCons (dVar 0) (dCons (dC (.int 2)) dNil))))) (dNot (dB (dCB dAll (dCons (dLc (diSeq (dVar 0)) (dgName 1) dYes (dCall p_is_integer (dCons (dVar 1) dNil)) [1]) dNil))))) (dRet (dC (.bl false))) dNext)
  (dRet (dAndV (dOp dGt (dOp dIx (dVar 0) (dC (.int 1))) (dC (.int 0))) (dOp dEq (dCB dGcd (dCons (dOp dIx (dVar 0) (dC (.int 0))) (dCons (dOp dIx (dVar 0) (dC (.int 1))) dNil))) (dC (.int 1))))))
theorem h_is_fraction (T : Txt P w K mg base c_InvalidNumber c_InvalidLikeness c_InvalidCommunity c_TooMany) {sp : DSp} {p_is_tuple_of : DSp} {p_is_integer : DSp} (g_is_tuple_of : Has P w K mg base 1 "is_tuple_of" (top 10) ["value", "length"] p_is_tuple_of) (g_is_integer : Has P w K mg base 1 "is_integer" (top 8) ["value"] p_is_integer)
    (run : ∀ ds M Φ Ψ, sp ds M Φ Ψ → ds.length = 1 ∧ T_is_fraction p_is_tuple_of p_is_integer (fnEnds M.length Φ Ψ) (startR N_is_fraction ds) M) : Has P w K mg base (1 + 1) "is_fraction" (top 15) ["value"] sp := by
  refine Def.has T.d_is_fraction sc_is_fraction (fun ds M Φ Ψ h => (run ds M Φ Ψ h).1) (fun f cdv A outer s H E hr => ?_)
  have hu := room64 hr
  have nd := sc_is_fraction.nd
  have tk : Takes (cxOf (L2.CX P w) P w K mg base N_is_fraction "is_fraction" (defScope (top 15)) f cdv A outer s H E) (fun cls d _ H' => E cls d H') := takes_of rfl rfl rfl rfl
  exact ⟨_, T_is_fraction p_is_tuple_of p_is_integer, (dss_cons (ds_if (DW.dt (dw_or (dt_not (dt_val (de_call g_is_tuple_of hr tk (da_cons (dv 0) (da_cons de_int da_nil)) (hk := by decide)))) (dw_or1 (dt_not (dt_val (de_callB (cr_all (by rfl)) snd_all T.b_all rfl (da_cons (de_lc (own := [("item", 1)]) (by rfl) nd (di_seq (dv 0)) (blkOk_by (N := N_is_fraction) (sc := (defScope (top 15))) (own := [("item", 1)]) (by decide +kernel)) (fun _ _ _ _ _ => (dg_name (i := 1) nd)) (fun _ _ _ _ _ => dts_nil) (fun _ _ _ _ _ => (de_call g_is_integer hr takes0 (da_cons (dv 1) da_nil) (hk := by decide)))) da_nil))))))) (dss_one (ds_ret de_bl)) dss_nil)
    (dss_one (ds_ret (de_and (de_cmp op_gt snd_gt (de_ix (dv 0) de_int) de_int) (de_one (de_cmp (op_eqD hu) snd_eq (de_callF cr_gcd snd_gcd T.m_gcd (da_cons (de_ix (dv 0) de_int) (da_cons (de_ix (dv 0) de_int) da_nil))) de_int)))))), fun ds M Φ Ψ h => (run ds M Φ Ψ h).2⟩
/-! ## plus -/
def N_plus : List Str := ["one", "other"]
theorem sc_plus : FnScope N_plus ["one", "other"] (defScope (top 16)) := ⟨rfl, rfl, rfl, by decide +kernel, rfl, by decide +kernel, by decide +kernel⟩
def T_plus (p_lowest : DSp) : DTS :=
  (dRet (dCall p_lowest (dCons (dOp dAdd (dOp dMul (dOp dIx (dVar 0) (dC (.int 0))) (dOp dIx (dVar 1) (dC (.int 1)))) (dOp dMul (dOp dIx (dVar 1) (dC (.int 0))) (dOp dIx (dVar 0) (dC (.int 1))))) (dCons (dOp dMul (dOp dIx (dVar 0) (dC (.int 1))) (dOp dIx (dVar 1) (dC (.int 1)))) dNil))))
theorem h_plus (T : Txt P w K mg base c_InvalidNumber c_InvalidLikeness c_InvalidCommunity c_TooMany) {sp : DSp} {p_lowest : DSp} (g_lowest : Has P w K mg base 1 "lowest" (top 11) ["top", "bottom"] p_lowest)
    (run : ∀ ds M Φ Ψ, sp ds M Φ Ψ → ds.length = 2 ∧ T_plus p_lowest (fnEnds M.length Φ Ψ) (startR N_plus ds) M) : Has P w K mg base (1 + 1) "plus" (top 16) ["one", "other"] sp := by
  refine Def.has T.d_plus sc_plus (fun ds M Φ Ψ h => (run ds M Φ Ψ h).1) (fun f cdv A outer s H E hr => ?_)
  have hu := room64 hr
  have nd := sc_plus.nd
  have tk : Takes (cxOf (L2.CX P w) P w K mg base N_plus "plus" (defScope (top 16)) f cdv A outer s H E) (fun cls d _ H' => E cls d H') := takes_of rfl rfl rfl rfl
  exact ⟨_, T_plus p_lowest, (dss_one (ds_ret (de_call g_lowest hr tk (da_cons (de_op op_addA snd_add (de_op op_mulA snd_mul (de_ix (dv 0) de_int) (de_ix (dv 1) de_int)) (de_op op_mulA snd_mul (de_ix (dv 1) de_int) (de_ix (dv 0) de_int))) (da_cons (de_op op_mulA snd_mul (de_ix (dv 0) de_int) (de_ix (dv 1) de_int)) da_nil)) (hk := by decide)))), fun ds M Φ Ψ h => (run ds M Φ Ψ h).2⟩
/-! ## times -/
def N_times : List Str := ["one", "other"]
theorem sc_times : FnScope N_times ["one", "other"] (defScope (top 17)) := ⟨rfl, rfl, rfl, by decide +kernel, rfl, by decide +kernel, by decide +kernel⟩
def T_times (p_lowest : DSp) : DTS :=
  (dRet (dCall p_lowest (dCons (dOp dMul (dOp dIx (dVar 0) (dC (.int 0))) (dOp dIx (dVar 1) (dC (.int 0)))) (dCons (dOp dMul (dOp dIx (dVar 0) (dC (.int 1))) (dOp dIx (dVar 1) (dC (.int 1)))) dNil))))
theorem h_times (T : Txt P w K mg base c_InvalidNumber c_InvalidLikeness c_InvalidCommunity c_TooMany) {sp : DSp} {p_lowest : DSp} (g_lowest : Has P w K mg base 1 "lowest" (top 11) ["top", "bottom"] p_lowest)
    (run : ∀ ds M Φ Ψ, sp ds M Φ Ψ → ds.length = 2 ∧ T_times p_lowest (fnEnds M.length Φ Ψ) (startR N_times ds) M) : Has P w K mg base (1 + 1) "times" (top 17) ["one", "other"] sp := by
  refine Def.has T.d_times sc_times (fun ds M Φ Ψ h => (run ds M Φ Ψ h).1) (fun f cdv A outer s H E hr => ?_)
  have hu := room64 hr
  have nd := sc_times.nd
  have tk : Takes (cxOf (L2.CX P w) P w K mg base N_times "times" (defScope (top 17)) f cdv A outer s H E) (fun cls d _ H' => E cls d H') := takes_of rfl rfl rfl rfl
  exact ⟨_, T_times p_lowest, (dss_one (ds_ret (de_call g_lowest hr tk (da_cons (de_op op_mulA snd_mul (de_ix (dv 0) de_int) (de_ix (dv 1) de_int)) (da_cons (de_op op_mulA snd_mul (de_ix (dv 0) de_int) (de_ix (dv 1) de_int)) da_nil)) (hk := by decide)))), fun ds M Φ Ψ h => (run ds M Φ Ψ h).2⟩
/-! ## over -/
def N_over : List Str := ["one", "other"]
theorem sc_over : FnScope N_over ["one", "other"] (defScope (top 18)) := ⟨rfl, rfl, rfl, by decide +kernel, rfl, by decide +kernel, by decide +kernel⟩
def T_over (p_lowest : DSp) : DTS :=
  (dRet (dCall p_lowest (dCons (dOp dMul (dOp dIx (dVar 0) (dC (.int 0))) (dOp dIx (dVar 1) (dC (.int 1)))) (dCons (dOp dMul (dOp dIx (dVar 0) (dC (.int 1))) (dOp dIx (dVar 1) (dC (.int 0)))) dNil))))
theorem h_over (T : Txt P w K mg base c_InvalidNumber c_InvalidLikeness c_InvalidCommunity c_TooMany) {sp : DSp} {p_lowest : DSp} (g_lowest : Has P w K mg base 1 "lowest" (top 11) ["top", "bottom"] p_lowest)
    (run : ∀ ds M Φ Ψ, sp ds M Φ Ψ → ds.length = 2 ∧ T_over p_lowest (fnEnds M.length Φ Ψ) (startR N_over ds) M) : Has P w K mg base (1 + 1) "over" (top 18) ["one", "other"] sp := by
  refine Def.has T.d_over sc_over (fun ds M Φ Ψ h => (run ds M Φ Ψ h).1) (fun f cdv A outer s H E hr => ?_)
  have hu := room64 hr
  have nd := sc_over.nd
  have tk : Takes (cxOf (L2.CX P w) P w K mg base N_over "over" (defScope (top 18)) f cdv A outer s H E) (fun cls d _ H' => E cls d H') := takes_of rfl rfl rfl rfl
  exact ⟨_, T_over p_lowest, (dss_one (ds_ret (de_call g_lowest hr tk (da_cons (de_op op_mulA snd_mul (de_ix (dv 0) de_int) (de_ix (dv 1) de_int)) (da_cons (de_op op_mulA snd_mul (de_ix (dv 0) de_int) (de_ix (dv 1) de_int)) da_nil)) (hk := by decide)))), fun ds M Φ Ψ h => (run ds M Φ Ψ h).2⟩
/-! ## raised -/
def N_raised : List Str := ["one", "count", "turn", "top", "bottom", "above", "below"]
theorem sc_raised : FnScope N_raised ["one", "count"] (defScope (top 19)) := ⟨rfl, rfl, rfl, by decide +kernel, rfl, by decide +kernel, by decide +kernel⟩
def T_raised (p_lowest : DSp) : DTS :=
  (dSeq (dAsg (dIf (dB (dOp dGe (dVar 1) (dC (.int 0)))) (dVar 0) (dCall p_lowest (dCons (dOp dIx (dVar 0) (dC (.int 1))) (dCons (dOp dIx (dVar 0) (dC (.int 0))) dNil)))) (dgTup (dgCons (dgName 3) (dgCons (dgName 4) dgNil))))
  (dSeq (dAsg (dTup (dCons (dC (.int 1)) (dCons (dC (.int 1)) dNil))) (dgTup (dgCons (dgName 5) (dgCons (dgName 6) dgNil))))
  (dSeq (dFor (diRng1 (dCons (dCB dAbs (dCons (dVar 1) dNil)) dNil)) (dgName 2) (dPar 5 6 (dCons (dOp dMul (dVar 5) (dVar 3)) (dCons (dOp dMul (dVar 6) (dVar 4)) dNil))))
  (dRet (dTup (dCons (dVar 5) (dCons (dVar 6) dNil)))))))
theorem h_raised (T : Txt P w K mg base c_InvalidNumber c_InvalidLikeness c_InvalidCommunity c_TooMany) {sp : DSp} {p_lowest : DSp} (g_lowest : Has P w K mg base 1 "lowest" (top 11) ["top", "bottom"] p_lowest)
    (run : ∀ ds M Φ Ψ, sp ds M Φ Ψ → ds.length = 2 ∧ T_raised p_lowest (fnEnds M.length Φ Ψ) (startR N_raised ds) M) : Has P w K mg base (1 + 1) "raised" (top 19) ["one", "count"] sp := by
  refine Def.has T.d_raised sc_raised (fun ds M Φ Ψ h => (run ds M Φ Ψ h).1) (fun f cdv A outer s H E hr => ?_)
  have hu := room64 hr
  have nd := sc_raised.nd
  have tk : Takes (cxOf (L2.CX P w) P w K mg base N_raised "raised" (defScope (top 19)) f cdv A outer s H E) (fun cls d _ H' => E cls d H') := takes_of rfl rfl rfl rfl
  exact ⟨_, T_raised p_lowest, (dss_cons (ds_asg (de_if (dt_cmp op_ge snd_ge (dv 1) de_int) (dv 0) (de_call g_lowest hr tk (da_cons (de_ix (dv 0) de_int) (da_cons (de_ix (dv 0) de_int) da_nil)) (hk := by decide))) (dg_two (by rfl) (dg_name (i := 3) nd) (dg_name (i := 4) nd)))
    (dss_cons (ds_asg (de_tup (da_cons de_int (da_cons de_int da_nil))) (dg_two (by rfl) (dg_name (i := 5) nd) (dg_name (i := 6) nd)))
    (dss_cons (ds_for PassesOwn.leaving (by rfl) (di_rng1 T.b_range (da_cons (de_callB call_abs snd_abs T.b_abs rfl (da_cons (dv 1) da_nil)) da_nil)) (dg_name (i := 2) nd) (dss_one (ds_par (i := 5) (j := 6) (by rfl) nd (da_cons (de_op op_mulA snd_mul (dv 5) (dv 3)) (da_cons (de_op op_mulA snd_mul (dv 6) (dv 4)) da_nil)))))
    (dss_one (ds_ret (de_tup (da_cons (dv 5) (da_cons (dv 6) da_nil)))))))), fun ds M Φ Ψ h => (run ds M Φ Ψ h).2⟩
/-! ## is_less -/
def N_is_less : List Str := ["one", "other"]
theorem sc_is_less : FnScope N_is_less ["one", "other"] (defScope (top 20)) := ⟨rfl, rfl, rfl, by decide +kernel, rfl, by decide +kernel, by decide +kernel⟩
def T_is_less : DTS :=
  (dRet (dOp dLt (dOp dMul (dOp dIx (dVar 0) (dC (.int 0))) (dOp dIx (dVar 1) (dC (.int 1)))) (dOp dMul (dOp dIx (dVar 1) (dC (.int 0))) (dOp dIx (dVar 0) (dC (.int 1))))))
theorem h_is_less (T : Txt P w K mg base c_InvalidNumber c_InvalidLikeness c_InvalidCommunity c_TooMany) {sp : DSp}
    (run : ∀ ds M Φ Ψ, sp ds M Φ Ψ → ds.length = 2 ∧ T_is_less (fnEnds M.length Φ Ψ) (startR N_is_less ds) M) : Has P w K mg base (0 + 1) "is_less" (top 20) ["one", "other"] sp := by
  refine Def.has T.d_is_less sc_is_less (fun ds M Φ Ψ h => (run ds M Φ Ψ h).1) (fun f cdv A outer s H E hr => ?_)
  have hu := room64 hr
  have nd := sc_is_less.nd
  have tk : Takes (cxOf (L2.CX P w) P w K mg base N_is_less "is_less" (defScope (top 20)) f cdv A outer s H E) (fun cls d _ H' => E cls d H') := takes_of rfl rfl rfl rfl
  exact ⟨_, T_is_less, (dss_one (ds_ret (de_cmp op_lt snd_lt (de_op op_mulA snd_mul (de_ix (dv 0) de_int) (de_ix (dv 1) de_int)) (de_op op_mulA snd_mul (de_ix (dv 1) de_int) (de_ix (dv 0) de_int))))), fun ds M Φ Ψ h => (run ds M Φ Ψ h).2⟩
/-! ## total -/
def N_total : List Str := ["items", "found", "item"]
theorem sc_total : FnScope N_total ["items"] (defScope (top 21)) := ⟨rfl, rfl, rfl, by decide +kernel, rfl, by decide +kernel, by decide +kernel⟩
def T_total (p_plus : DSp) : DTS :=
  (dSeq (dAsg (dC (.tup [.int 0, .int 1])) (dgName 1))
  (dSeq (dFor (diSeq (dVar 0)) (dgName 2) (dAsg (dCall p_plus (dCons (dVar 1) (dCons (dVar 2) dNil))) (dgName 1)))
  (dRet (dVar 1))))
theorem h_total (T : Txt P w K mg base c_InvalidNumber c_InvalidLikeness c_InvalidCommunity c_TooMany) {sp : DSp} {p_plus : DSp} (g_plus : Has P w K mg base 2 "plus" (top 16) ["one", "other"] p_plus)
    (run : ∀ ds M Φ Ψ, sp ds M Φ Ψ → ds.length = 1 ∧ T_total p_plus (fnEnds M.length Φ Ψ) (startR N_total ds) M) : Has P w K mg base (2 + 1) "total" (top 21) ["items"] sp := by
  refine Def.has T.d_total sc_total (fun ds M Φ Ψ h => (run ds M Φ Ψ h).1) (fun f cdv A outer s H E hr => ?_)
  have hu := room64 hr
  have nd := sc_total.nd
  have tk : Takes (cxOf (L2.CX P w) P w K mg base N_total "total" (defScope (top 21)) f cdv A outer s H E) (fun cls d _ H' => E cls d H') := takes_of rfl rfl rfl rfl
  exact ⟨_, T_total p_plus, (dss_cons (ds_set (i := 1) nd (de_glob T.c_ZERO))
    (dss_cons (ds_for PassesOwn.leaving (by rfl) (di_seq (dv 0)) (dg_name (i := 2) nd) (dss_one (ds_set (i := 1) nd (de_call g_plus hr tk (da_cons (dv 1) (da_cons (dv 2) da_nil)) (hk := by decide)))))
    (dss_one (ds_ret (dv 1))))), fun ds M Φ Ψ h => (run ds M Φ Ψ h).2⟩
/-! ## dot -/
def N_dot : List Str := ["one", "other", "here", "there"]
theorem sc_dot : FnScope N_dot ["one", "other"] (defScope (top 22)) := ⟨rfl, rfl, rfl, by decide +kernel, rfl, by decide +kernel, by decide +kernel⟩
def T_dot (p_total : DSp) (p_times : DSp) : DTS :=
  (dRet (dCall p_total (dCons (dLc (diZip (dCons (dVar 0) (dCons (dVar 1) dNil))) (dgTup (dgCons (dgName 2) (dgCons (dgName 3) dgNil))) dYes (dCall p_times (dCons (dVar 2) (dCons (dVar 3) dNil))) [2, 3]) dNil)))
theorem h_dot (T : Txt P w K mg base c_InvalidNumber c_InvalidLikeness c_InvalidCommunity c_TooMany) {sp : DSp} {p_total : DSp} {p_times : DSp} (g_total : Has P w K mg base 3 "total" (top 21) ["items"] p_total) (g_times : Has P w K mg base 2 "times" (top 17) ["one", "other"] p_times)
    (run : ∀ ds M Φ Ψ, sp ds M Φ Ψ → ds.length = 2 ∧ T_dot p_total p_times (fnEnds M.length Φ Ψ) (startR N_dot ds) M) : Has P w K mg base (3 + 1) "dot" (top 22) ["one", "other"] sp := by
  refine Def.has T.d_dot sc_dot (fun ds M Φ Ψ h => (run ds M Φ Ψ h).1) (fun f cdv A outer s H E hr => ?_)
  have hu := room64 hr
  have nd := sc_dot.nd
  have tk : Takes (cxOf (L2.CX P w) P w K mg base N_dot "dot" (defScope (top 22)) f cdv A outer s H E) (fun cls d _ H' => E cls d H') := takes_of rfl rfl rfl rfl
  exact ⟨_, T_dot p_total p_times, (dss_one (ds_ret (de_call g_total hr tk (da_cons (de_lc (own := [("here", 2), ("there", 3)]) (by rfl) nd (di_zip T.b_zip (da_cons (dv 0) (da_cons (dv 1) da_nil))) (blkOk_by (N := N_dot) (sc := (defScope (top 22))) (own := [("here", 2), ("there", 3)]) (by decide +kernel)) (fun _ _ _ _ _ => (dg_two (by rfl) (dg_name (i := 2) nd) (dg_name (i := 3) nd))) (fun _ _ _ _ _ => dts_nil) (fun _ _ _ _ _ => (de_call g_times hr takes0 (da_cons (dv 2) (da_cons (dv 3) da_nil)) (hk := by decide)))) da_nil) (hk := by decide)))), fun ds M Φ Ψ h => (run ds M Φ Ψ h).2⟩
/-! ## is_row_of -/
def N_is_row_of : List Str := ["value", "length", "item"]
theorem sc_is_row_of : FnScope N_is_row_of ["value", "length"] (defScope (top 25)) := ⟨rfl, rfl, rfl, by decide +kernel, rfl, by decide +kernel, by decide +kernel⟩
def T_is_row_of (p_is_tuple_of : DSp) (p_is_fraction : DSp) : DTS :=
  (dRet (dAndV (dCall p_is_tuple_of (dCons (dVar 0) (dCons (dVar 1) dNil))) (dCB dAll (dCons (dLc (diSeq (dVar 0)) (dgName 2) dYes (dCall p_is_fraction (dCons (dVar 2) dNil)) [2]) dNil))))
theorem h_is_row_of (T : Txt P w K mg base c_InvalidNumber c_InvalidLikeness c_InvalidCommunity c_TooMany) {sp : DSp} {p_is_tuple_of : DSp} {p_is_fraction : DSp} (g_is_tuple_of : Has P w K mg base 1 "is_tuple_of" (top 10) ["value", "length"] p_is_tuple_of) (g_is_fraction : Has P w K mg base 2 "is_fraction" (top 15) ["value"] p_is_fraction)
    (run : ∀ ds M Φ Ψ, sp ds M Φ Ψ → ds.length = 2 ∧ T_is_row_of p_is_tuple_of p_is_fraction (fnEnds M.length Φ Ψ) (startR N_is_row_of ds) M) : Has P w K mg base (2 + 1) "is_row_of" (top 25) ["value", "length"] sp := by
  refine Def.has T.d_is_row_of sc_is_row_of (fun ds M Φ Ψ h => (run ds M Φ Ψ h).1) (fun f cdv A outer s H E hr => ?_)
  have hu := room64 hr
  have nd := sc_is_row_of.nd
  have tk : Takes (cxOf (L2.CX P w) P w K mg base N_is_row_of "is_row_of" (defScope (top 25)) f cdv A outer s H E) (fun cls d _ H' => E cls d H') := takes_of rfl rfl rfl rfl
  exact ⟨_, T_is_row_of p_is_tuple_of p_is_fraction, (dss_one (ds_ret (de_and (de_call g_is_tuple_of hr tk (da_cons (dv 0) (da_cons (dv 1) da_nil)) (hk := by decide)) (de_one (de_callB (cr_all (by rfl)) snd_all T.b_all rfl (da_cons (de_lc (own := [("item", 2)]) (by rfl) nd (di_seq (dv 0)) (blkOk_by (N := N_is_row_of) (sc := (defScope (top 25))) (own := [("item", 2)]) (by decide +kernel)) (fun _ _ _ _ _ => (dg_name (i := 2) nd)) (fun _ _ _ _ _ => dts_nil) (fun _ _ _ _ _ => (de_call g_is_fraction hr takes0 (da_cons (dv 2) da_nil) (hk := by decide)))) da_nil)))))), fun ds M Φ Ψ h => (run ds M Φ Ψ h).2⟩
/-! ## is_any_table -/
def N_is_any_table : List Str := ["value", "width", "row"]
theorem sc_is_any_table : FnScope N_is_any_table ["value"] (defScope (top 26)) := ⟨rfl, rfl, rfl, by decide +kernel, rfl, by decide +kernel, by decide +kernel⟩
def T_is_any_table (p_is_row_of : DSp) : DTS :=
  (dSeq (dIfS (dOr (dNot (dB (dIs1 "tuple" (dVar 0)))) (dOr (dNot (dB (dChain dLe dLe (dC (.int 1)) (dCB dLen (dCons (dVar 0) dNil)) (dC (.int 8))))) (dNot (dB (dIs1 "tuple" (dOp dIx (dVar 0) (dC (.int 0)))))))) (dRet (dC (.bl false))) dNext)
  (dSeq (dAsg (dCB dLen (dCons (dOp dIx (dVar 0) (dC (.int 0))) dNil)) (dgName 1))
  (dRet (dAndV (dChain dLe dLe (dC (.int 1)) (dVar 1) (dC (.int 8))) (dCB dAll (dCons (dLc (diSeq (dVar 0)) (dgName 2) dYes (dCall p_is_row_of (dCons (dVar 2) (dCons (dVar 1) dNil))) [2]) dNil))))))
theorem h_is_any_table (T : Txt P w K mg base c_InvalidNumber c_InvalidLikeness c_InvalidCommunity c_TooMany) {sp : DSp} {p_is_row_of : DSp} (g_is_row_of : Has P w K mg base 3 "is_row_of" (top 25) ["value", "length"] p_is_row_of)
    (run : ∀ ds M Φ Ψ, sp ds M Φ Ψ → ds.length = 1 ∧ T_is_any_table p_is_row_of (fnEnds M.length Φ Ψ) (startR N_is_any_table ds) M) : Has P w K mg base (3 + 1) "is_any_table" (top 26) ["value"] sp := by
  refine Def.has T.d_is_any_table sc_is_any_table (fun ds M Φ Ψ h => (run ds M Φ Ψ h).1) (fun f cdv A outer s H E hr => ?_)
  have hu := room64 hr
  have nd := sc_is_any_table.nd
  have tk : Takes (cxOf (L2.CX P w) P w K mg base N_is_any_table "is_any_table" (defScope (top 26)) f cdv A outer s H E) (fun cls d _ H' => E cls d H') := takes_of rfl rfl rfl rfl
  exact ⟨_, T_is_any_table p_is_row_of, (dss_cons (ds_if (DW.dt (dw_or (dt_not (dt_val (de_is1 T.b_isinstance rfl (dv 0) T.b_tuple rfl))) (dw_or (dt_not (dt_chain op_le snd_le op_le snd_le de_int (de_callB call_lenA snd_len T.b_len rfl (da_cons (dv 0) da_nil)) (de_glob T.c_MOST))) (dw_or1 (dt_not (dt_val (de_is1 T.b_isinstance rfl (de_ix (dv 0) de_int) T.b_tuple rfl))))))) (dss_one (ds_ret de_bl)) dss_nil)
    (dss_cons (ds_set (i := 1) nd (de_callB call_lenA snd_len T.b_len rfl (da_cons (de_ix (dv 0) de_int) da_nil)))
    (dss_one (ds_ret (de_and (de_chain op_le snd_le op_le snd_le de_int (dv 1) (de_glob T.c_MOST)) (de_one (de_callB (cr_all (by rfl)) snd_all T.b_all rfl (da_cons (de_lc (own := [("row", 2)]) (by rfl) nd (di_seq (dv 0)) (blkOk_by (N := N_is_any_table) (sc := (defScope (top 26))) (own := [("row", 2)]) (by decide +kernel)) (fun _ _ _ _ _ => (dg_name (i := 2) nd)) (fun _ _ _ _ _ => dts_nil) (fun _ _ _ _ _ => (de_call g_is_row_of hr takes0 (da_cons (dv 2) (da_cons (dv 1) da_nil)) (hk := by decide)))) da_nil)))))))), fun ds M Φ Ψ h => (run ds M Φ Ψ h).2⟩
/-! ## is_table -/
def N_is_table : List Str := ["value"]
theorem sc_is_table : FnScope N_is_table ["value"] (defScope (top 27)) := ⟨rfl, rfl, rfl, by decide +kernel, rfl, by decide +kernel, by decide +kernel⟩
def T_is_table (p_is_any_table : DSp) : DTS :=
  (dRet (dAndV (dCall p_is_any_table (dCons (dVar 0) dNil)) (dOp dEq (dCB dLen (dCons (dVar 0) dNil)) (dCB dLen (dCons (dOp dIx (dVar 0) (dC (.int 0))) dNil)))))
theorem h_is_table (T : Txt P w K mg base c_InvalidNumber c_InvalidLikeness c_InvalidCommunity c_TooMany) {sp : DSp} {p_is_any_table : DSp} (g_is_any_table : Has P w K mg base 4 "is_any_table" (top 26) ["value"] p_is_any_table)
    (run : ∀ ds M Φ Ψ, sp ds M Φ Ψ → ds.length = 1 ∧ T_is_table p_is_any_table (fnEnds M.length Φ Ψ) (startR N_is_table ds) M) : Has P w K mg base (4 + 1) "is_table" (top 27) ["value"] sp := by
  refine Def.has T.d_is_table sc_is_table (fun ds M Φ Ψ h => (run ds M Φ Ψ h).1) (fun f cdv A outer s H E hr => ?_)
  have hu := room64 hr
  have nd := sc_is_table.nd
  have tk : Takes (cxOf (L2.CX P w) P w K mg base N_is_table "is_table" (defScope (top 27)) f cdv A outer s H E) (fun cls d _ H' => E cls d H') := takes_of rfl rfl rfl rfl
  exact ⟨_, T_is_table p_is_any_table, (dss_one (ds_ret (de_and (de_call g_is_any_table hr tk (da_cons (dv 0) da_nil) (hk := by decide)) (de_one (de_cmp (op_eqD hu) snd_eq (de_callB call_lenA snd_len T.b_len rfl (da_cons (dv 0) da_nil)) (de_callB call_lenA snd_len T.b_len rfl (da_cons (de_ix (dv 0) de_int) da_nil))))))), fun ds M Φ Ψ h => (run ds M Φ Ψ h).2⟩
/-! ## turned_of -/
def N_turned_of : List Str := ["table", "j", "row"]
theorem sc_turned_of : FnScope N_turned_of ["table"] (defScope (top 28)) := ⟨rfl, rfl, rfl, by decide +kernel, rfl, by decide +kernel, by decide +kernel⟩
def T_turned_of : DTS :=
  (dRet (dCB dTupOf (dCons (dLc (diRng1 (dCons (dCB dLen (dCons (dOp dIx (dVar 0) (dC (.int 0))) dNil)) dNil)) (dgName 1) dYes (dCB dTupOf (dCons (dLc (diSeq (dVar 0)) (dgName 2) dYes (dOp dIx (dVar 2) (dVar 1)) [2]) dNil)) [1]) dNil)))
theorem h_turned_of (T : Txt P w K mg base c_InvalidNumber c_InvalidLikeness c_InvalidCommunity c_TooMany) {sp : DSp}
    (run : ∀ ds M Φ Ψ, sp ds M Φ Ψ → ds.length = 1 ∧ T_turned_of (fnEnds M.length Φ Ψ) (startR N_turned_of ds) M) : Has P w K mg base (0 + 1) "turned_of" (top 28) ["table"] sp := by
  refine Def.has T.d_turned_of sc_turned_of (fun ds M Φ Ψ h => (run ds M Φ Ψ h).1) (fun f cdv A outer s H E hr => ?_)
  have hu := room64 hr
  have nd := sc_turned_of.nd
  have tk : Takes (cxOf (L2.CX P w) P w K mg base N_turned_of "turned_of" (defScope (top 28)) f cdv A outer s H E) (fun cls d _ H' => E cls d H') := takes_of rfl rfl rfl rfl
  exact ⟨_, T_turned_of, (dss_one (ds_ret (de_callTy call_tuple_of snd_tupOf T.b_tuple rfl (da_cons (de_lc (own := [("j", 1)]) (by rfl) nd (di_rng1 T.b_range (da_cons (de_callB call_lenA snd_len T.b_len rfl (da_cons (de_ix (dv 0) de_int) da_nil)) da_nil)) (blkOk_by (N := N_turned_of) (sc := (defScope (top 28))) (own := [("j", 1)]) (by decide +kernel)) (fun _ _ _ _ _ => (dg_name (i := 1) nd)) (fun _ _ _ _ _ => dts_nil) (fun _ _ _ _ _ => (de_callTy call_tuple_of snd_tupOf T.b_tuple rfl (da_cons (de_lc (own := [("row", 2)]) (by rfl) nd (di_seq (dv 0)) (blkOk_by (N := N_turned_of) (sc := (relS _ (defScope (top 28)))) (own := [("row", 2)]) (by decide +kernel)) (fun _ _ _ _ _ => (dg_name (i := 2) nd)) (fun _ _ _ _ _ => dts_nil) (fun _ _ _ _ _ => (de_ix (dv 2) (dv 1)))) da_nil)))) da_nil)))), fun ds M Φ Ψ h => (run ds M Φ Ψ h).2⟩
/-! ## applied_to -/
def N_applied_to : List Str := ["table", "row", "own"]
theorem sc_applied_to : FnScope N_applied_to ["table", "row"] (defScope (top 29)) := ⟨rfl, rfl, rfl, by decide +kernel, rfl, by decide +kernel, by decide +kernel⟩
def T_applied_to (p_dot : DSp) : DTS :=
  (dRet (dCB dTupOf (dCons (dLc (diSeq (dVar 0)) (dgName 2) dYes (dCall p_dot (dCons (dVar 2) (dCons (dVar 1) dNil))) [2]) dNil)))
theorem h_applied_to (T : Txt P w K mg base c_InvalidNumber c_InvalidLikeness c_InvalidCommunity c_TooMany) {sp : DSp} {p_dot : DSp} (g_dot : Has P w K mg base 4 "dot" (top 22) ["one", "other"] p_dot)
    (run : ∀ ds M Φ Ψ, sp ds M Φ Ψ → ds.length = 2 ∧ T_applied_to p_dot (fnEnds M.length Φ Ψ) (startR N_applied_to ds) M) : Has P w K mg base (4 + 1) "applied_to" (top 29) ["table", "row"] sp := by
  refine Def.has T.d_applied_to sc_applied_to (fun ds M Φ Ψ h => (run ds M Φ Ψ h).1) (fun f cdv A outer s H E hr => ?_)
  have hu := room64 hr
  have nd := sc_applied_to.nd
  have tk : Takes (cxOf (L2.CX P w) P w K mg base N_applied_to "applied_to" (defScope (top 29)) f cdv A outer s H E) (fun cls d _ H' => E cls d H') := takes_of rfl rfl rfl rfl
  exact ⟨_, T_applied_to p_dot, (dss_one (ds_ret (de_callTy call_tuple_of snd_tupOf T.b_tuple rfl (da_cons (de_lc (own := [("own", 2)]) (by rfl) nd (di_seq (dv 0)) (blkOk_by (N := N_applied_to) (sc := (defScope (top 29))) (own := [("own", 2)]) (by decide +kernel)) (fun _ _ _ _ _ => (dg_name (i := 2) nd)) (fun _ _ _ _ _ => dts_nil) (fun _ _ _ _ _ => (de_call g_dot hr takes0 (da_cons (dv 2) (da_cons (dv 1) da_nil)) (hk := by decide)))) da_nil)))), fun ds M Φ Ψ h => (run ds M Φ Ψ h).2⟩
/-! ## is_share -/
def N_is_share : List Str := ["item"]
theorem sc_is_share : FnScope N_is_share ["item"] (defScope (top 31)) := ⟨rfl, rfl, rfl, by decide +kernel, rfl, by decide +kernel, by decide +kernel⟩
def T_is_share (p_is_less : DSp) : DTS :=
  (dRet (dAndV (dNotV (dCall p_is_less (dCons (dVar 0) (dCons (dC (.tup [.int 0, .int 1])) dNil)))) (dNotV (dCall p_is_less (dCons (dC (.tup [.int 1, .int 1])) (dCons (dVar 0) dNil))))))
theorem h_is_share (T : Txt P w K mg base c_InvalidNumber c_InvalidLikeness c_InvalidCommunity c_TooMany) {sp : DSp} {p_is_less : DSp} (g_is_less : Has P w K mg base 1 "is_less" (top 20) ["one", "other"] p_is_less)
    (run : ∀ ds M Φ Ψ, sp ds M Φ Ψ → ds.length = 1 ∧ T_is_share p_is_less (fnEnds M.length Φ Ψ) (startR N_is_share ds) M) : Has P w K mg base (1 + 1) "is_share" (top 31) ["item"] sp := by
  refine Def.has T.d_is_share sc_is_share (fun ds M Φ Ψ h => (run ds M Φ Ψ h).1) (fun f cdv A outer s H E hr => ?_)
  have hu := room64 hr
  have nd := sc_is_share.nd
  have tk : Takes (cxOf (L2.CX P w) P w K mg base N_is_share "is_share" (defScope (top 31)) f cdv A outer s H E) (fun cls d _ H' => E cls d H') := takes_of rfl rfl rfl rfl
  exact ⟨_, T_is_share p_is_less, (dss_one (ds_ret (de_and (de_not (de_call g_is_less hr tk (da_cons (dv 0) (da_cons (de_glob T.c_ZERO) da_nil)) (hk := by decide))) (de_one (de_not (de_call g_is_less hr tk (da_cons (de_glob T.c_ONE) (da_cons (dv 0) da_nil)) (hk := by decide))))))), fun ds M Φ Ψ h => (run ds M Φ Ψ h).2⟩
/-! ## is_likeness -/
def N_is_likeness : List Str := ["value", "i", "row", "item"]
theorem sc_is_likeness : FnScope N_is_likeness ["value"] (defScope (top 32)) := ⟨rfl, rfl, rfl, by decide +kernel, rfl, by decide +kernel, by decide +kernel⟩
def T_is_likeness (p_is_table : DSp) (p_turned_of : DSp) (p_is_share : DSp) : DTS :=
  (dSeq (dIfS (dOr (dNot (dB (dCall p_is_table (dCons (dVar 0) dNil)))) (dOr (dB (dOp dNe (dCall p_turned_of (dCons (dVar 0) dNil)) (dVar 0))) (dNot (dB (dCB dAll (dCons (dLc2 (diSeq (dVar 0)) (dgName 2) dYes (diSeq (dVar 2)) (dgName 3) dYes (dCall p_is_share (dCons (dVar 3) dNil)) [2, 3] [3]) dNil)))))) (dRet (dC (.bl false))) dNext)
  (dRet (dCB dAll (dCons (dLc (diRng1 (dCons (dCB dLen (dCons (dVar 0) dNil)) dNil)) (dgName 1) dYes (dOp dEq (dOp dIx (dOp dIx (dVar 0) (dVar 1)) (dVar 1)) (dC (.tup [.int 1, .int 1]))) [1]) dNil))))
theorem h_is_likeness (T : Txt P w K mg base c_InvalidNumber c_InvalidLikeness c_InvalidCommunity c_TooMany) {sp : DSp} {p_is_table : DSp} {p_turned_of : DSp} {p_is_share : DSp} (g_is_table : Has P w K mg base 5 "is_table" (top 27) ["value"] p_is_table) (g_turned_of : Has P w K mg base 1 "turned_of" (top 28) ["table"] p_turned_of) (g_is_share : Has P w K mg base 2 "is_share" (top 31) ["item"] p_is_share)
    (run : ∀ ds M Φ Ψ, sp ds M Φ Ψ → ds.length = 1 ∧ T_is_likeness p_is_table p_turned_of p_is_share (fnEnds M.length Φ Ψ) (startR N_is_likeness ds) M) : Has P w K mg base (5 + 1) "is_likeness" (top 32) ["value"] sp := by
  refine Def.has T.d_is_likeness sc_is_likeness (fun ds M Φ Ψ h => (run ds M Φ Ψ h).1) (fun f cdv A outer s H E hr => ?_)
  have hu := room64 hr
  have nd := sc_is_likeness.nd
  have tk : Takes (cxOf (L2.CX P w) P w K mg base N_is_likeness "is_likeness" (defScope (top 32)) f cdv A outer s H E) (fun cls d _ H' => E cls d H') := takes_of rfl rfl rfl rfl
  exact ⟨_, T_is_likeness p_is_table p_turned_of p_is_share, (dss_cons (ds_if (DW.dt (dw_or (dt_not (dt_val (de_call g_is_table hr tk (da_cons (dv 0) da_nil) (hk := by decide)))) (dw_or (dt_cmp (op_neD hu) snd_ne (de_call g_turned_of hr tk (da_cons (dv 0) da_nil) (hk := by decide)) (dv 0)) (dw_or1 (dt_not (dt_val (de_callB (cr_all (by rfl)) snd_all T.b_all rfl (da_cons (de_lc2 (own := [("row", 2), ("item", 3)]) (vs1 := [3]) (by rfl) nd (di_seq (dv 0)) (blkOk_by (N := N_is_likeness) (sc := (defScope (top 32))) (own := [("row", 2), ("item", 3)]) (by decide +kernel)) (by decide) (fun _ _ _ _ _ => (dg_name (i := 2) nd)) (fun _ _ _ _ _ => dts_nil) (fun _ _ _ _ _ => (di_seq (dv 2))) (fun _ _ _ _ _ => (dg_name (i := 3) nd)) (fun _ _ _ _ _ => dts_nil) (fun _ _ _ _ _ => (de_call g_is_share hr takes0 (da_cons (dv 3) da_nil) (hk := by decide)))) da_nil)))))))) (dss_one (ds_ret de_bl)) dss_nil)
    (dss_one (ds_ret (de_callB (cr_all (by rfl)) snd_all T.b_all rfl (da_cons (de_lc (own := [("i", 1)]) (by rfl) nd (di_rng1 T.b_range (da_cons (de_callB call_lenA snd_len T.b_len rfl (da_cons (dv 0) da_nil)) da_nil)) (blkOk_by (N := N_is_likeness) (sc := (defScope (top 32))) (own := [("i", 1)]) (by decide +kernel)) (fun _ _ _ _ _ => (dg_name (i := 1) nd)) (fun _ _ _ _ _ => dts_nil) (fun _ _ _ _ _ => (de_cmp (op_eqD hu) snd_eq (de_ix (de_ix (dv 0) (dv 1)) (dv 1)) (de_glob T.c_ONE)))) da_nil))))), fun ds M Φ Ψ h => (run ds M Φ Ψ h).2⟩
/-! ## check_likeness -/
def N_check_likeness : List Str := ["likeness"]
theorem sc_check_likeness : FnScope N_check_likeness ["likeness"] (defScope (top 33)) := ⟨rfl, rfl, rfl, by decide +kernel, rfl, by decide +kernel, by decide +kernel⟩
def T_check_likeness (c_InvalidLikeness : Addr) (p_is_likeness : DSp) : DTS :=
  (dIfS (dNot (dB (dCall p_is_likeness (dCons (dVar 0) dNil)))) (dRaise c_InvalidLikeness "given" (dVar 0)) dNext)
theorem h_check_likeness (T : Txt P w K mg base c_InvalidNumber c_InvalidLikeness c_InvalidCommunity c_TooMany) {sp : DSp} {p_is_likeness : DSp} (g_is_likeness : Has P w K mg base 6 "is_likeness" (top 32) ["value"] p_is_likeness)
    (run : ∀ ds M Φ Ψ, sp ds M Φ Ψ → ds.length = 1 ∧ T_check_likeness c_InvalidLikeness p_is_likeness (fnEnds M.length Φ Ψ) (startR N_check_likeness ds) M) : Has P w K mg base (6 + 1) "check_likeness" (top 33) ["likeness"] sp := by
  refine Def.has T.d_check_likeness sc_check_likeness (fun ds M Φ Ψ h => (run ds M Φ Ψ h).1) (fun f cdv A outer s H E hr => ?_)
  have hu := room64 hr
  have nd := sc_check_likeness.nd
  have tk : Takes (cxOf (L2.CX P w) P w K mg base N_check_likeness "check_likeness" (defScope (top 33)) f cdv A outer s H E) (fun cls d _ H' => E cls d H') := takes_of rfl rfl rfl rfl
  exact ⟨_, T_check_likeness c_InvalidLikeness p_is_likeness, (dss_one (ds_if (dt_not (dt_val (de_call g_is_likeness hr tk (da_cons (dv 0) da_nil) (hk := by decide)))) (dss_one (ds_raise T.x_InvalidLikeness hr tk (dv 0) (by rfl) (hj := by decide))) dss_nil)), fun ds M Φ Ψ h => (run ds M Φ Ψ h).2⟩
/-! ## is_community_of -/
def N_is_community_of : List Str := ["size", "value", "item"]
theorem sc_is_community_of : FnScope N_is_community_of ["size", "value"] (defScope (top 34)) := ⟨rfl, rfl, rfl, by decide +kernel, rfl, by decide +kernel, by decide +kernel⟩
def T_is_community_of (p_is_row_of : DSp) (p_is_less : DSp) (p_total : DSp) : DTS :=
  (dRet (dAndV (dCall p_is_row_of (dCons (dVar 1) (dCons (dVar 0) dNil))) (dAndV (dCB dAll (dCons (dLc (diSeq (dVar 1)) (dgName 2) dYes (dNotV (dCall p_is_less (dCons (dVar 2) (dCons (dC (.tup [.int 0, .int 1])) dNil)))) [2]) dNil)) (dOp dEq (dCall p_total (dCons (dVar 1) dNil)) (dC (.tup [.int 1, .int 1]))))))
theorem h_is_community_of (T : Txt P w K mg base c_InvalidNumber c_InvalidLikeness c_InvalidCommunity c_TooMany) {sp : DSp} {p_is_row_of : DSp} {p_is_less : DSp} {p_total : DSp} (g_is_row_of : Has P w K mg base 3 "is_row_of" (top 25) ["value", "length"] p_is_row_of) (g_is_less : Has P w K mg base 1 "is_less" (top 20) ["one", "other"] p_is_less) (g_total : Has P w K mg base 3 "total" (top 21) ["items"] p_total)
    (run : ∀ ds M Φ Ψ, sp ds M Φ Ψ → ds.length = 2 ∧ T_is_community_of p_is_row_of p_is_less p_total (fnEnds M.length Φ Ψ) (startR N_is_community_of ds) M) : Has P w K mg base (3 + 1) "is_community_of" (top 34) ["size", "value"] sp := by
  refine Def.has T.d_is_community_of sc_is_community_of (fun ds M Φ Ψ h => (run ds M Φ Ψ h).1) (fun f cdv A outer s H E hr => ?_)
  have hu := room64 hr
  have nd := sc_is_community_of.nd
  have tk : Takes (cxOf (L2.CX P w) P w K mg base N_is_community_of "is_community_of" (defScope (top 34)) f cdv A outer s H E) (fun cls d _ H' => E cls d H') := takes_of rfl rfl rfl rfl
  exact ⟨_, T_is_community_of p_is_row_of p_is_less p_total, (dss_one (ds_ret (de_and (de_call g_is_row_of hr tk (da_cons (dv 1) (da_cons (dv 0) da_nil)) (hk := by decide)) (de_and (de_callB (cr_all (by rfl)) snd_all T.b_all rfl (da_cons (de_lc (own := [("item", 2)]) (by rfl) nd (di_seq (dv 1)) (blkOk_by (N := N_is_community_of) (sc := (defScope (top 34))) (own := [("item", 2)]) (by decide +kernel)) (fun _ _ _ _ _ => (dg_name (i := 2) nd)) (fun _ _ _ _ _ => dts_nil) (fun _ _ _ _ _ => (de_not (de_call g_is_less hr takes0 (da_cons (dv 2) (da_cons (de_glob T.c_ZERO) da_nil)) (hk := by decide))))) da_nil)) (de_one (de_cmp (op_eqD hu) snd_eq (de_call g_total hr tk (da_cons (dv 1) da_nil) (hk := by decide)) (de_glob T.c_ONE))))))), fun ds M Φ Ψ h => (run ds M Φ Ψ h).2⟩
/-! ## check_community -/
def N_check_community : List Str := ["likeness", "community"]
theorem sc_check_community : FnScope N_check_community ["likeness", "community"] (defScope (top 35)) := ⟨rfl, rfl, rfl, by decide +kernel, rfl, by decide +kernel, by decide +kernel⟩
def T_check_community (c_InvalidCommunity : Addr) (p_is_community_of : DSp) : DTS :=
  (dIfS (dNot (dB (dCall p_is_community_of (dCons (dCB dLen (dCons (dVar 0) dNil)) (dCons (dVar 1) dNil))))) (dRaise c_InvalidCommunity "given" (dVar 1)) dNext)
theorem h_check_community (T : Txt P w K mg base c_InvalidNumber c_InvalidLikeness c_InvalidCommunity c_TooMany) {sp : DSp} {p_is_community_of : DSp} (g_is_community_of : Has P w K mg base 4 "is_community_of" (top 34) ["size", "value"] p_is_community_of)
    (run : ∀ ds M Φ Ψ, sp ds M Φ Ψ → ds.length = 2 ∧ T_check_community c_InvalidCommunity p_is_community_of (fnEnds M.length Φ Ψ) (startR N_check_community ds) M) : Has P w K mg base (4 + 1) "check_community" (top 35) ["likeness", "community"] sp := by
  refine Def.has T.d_check_community sc_check_community (fun ds M Φ Ψ h => (run ds M Φ Ψ h).1) (fun f cdv A outer s H E hr => ?_)
  have hu := room64 hr
  have nd := sc_check_community.nd
  have tk : Takes (cxOf (L2.CX P w) P w K mg base N_check_community "check_community" (defScope (top 35)) f cdv A outer s H E) (fun cls d _ H' => E cls d H') := takes_of rfl rfl rfl rfl
  exact ⟨_, T_check_community c_InvalidCommunity p_is_community_of, (dss_one (ds_if (dt_not (dt_val (de_call g_is_community_of hr tk (da_cons (de_callB call_lenA snd_len T.b_len rfl (da_cons (dv 0) da_nil)) (da_cons (dv 1) da_nil)) (hk := by decide)))) (dss_one (ds_raise T.x_InvalidCommunity hr tk (dv 1) (by rfl) (hj := by decide))) dss_nil)), fun ds M Φ Ψ h => (run ds M Φ Ψ h).2⟩
/-! ## support_of -/
def N_support_of : List Str := ["community", "kind", "item"]
theorem sc_support_of : FnScope N_support_of ["community"] (defScope (top 36)) := ⟨rfl, rfl, rfl, by decide +kernel, rfl, by decide +kernel, by decide +kernel⟩
def T_support_of : DTS :=
  (dRet (dCB dTupOf (dCons (dLc (diEnum (dCons (dVar 0) dNil)) (dgTup (dgCons (dgName 1) (dgCons (dgName 2) dgNil))) (dB (dOp dNe (dVar 2) (dC (.tup [.int 0, .int 1])))) (dVar 1) [1, 2]) dNil)))
theorem h_support_of (T : Txt P w K mg base c_InvalidNumber c_InvalidLikeness c_InvalidCommunity c_TooMany) {sp : DSp}
    (run : ∀ ds M Φ Ψ, sp ds M Φ Ψ → ds.length = 1 ∧ T_support_of (fnEnds M.length Φ Ψ) (startR N_support_of ds) M) : Has P w K mg base (0 + 1) "support_of" (top 36) ["community"] sp := by
  refine Def.has T.d_support_of sc_support_of (fun ds M Φ Ψ h => (run ds M Φ Ψ h).1) (fun f cdv A outer s H E hr => ?_)
  have hu := room64 hr
  have nd := sc_support_of.nd
  have tk : Takes (cxOf (L2.CX P w) P w K mg base N_support_of "support_of" (defScope (top 36)) f cdv A outer s H E) (fun cls d _ H' => E cls d H') := takes_of rfl rfl rfl rfl
  exact ⟨_, T_support_of, (dss_one (ds_ret (de_callTy call_tuple_of snd_tupOf T.b_tuple rfl (da_cons (de_lc (own := [("kind", 1), ("item", 2)]) (by rfl) nd (di_enum T.b_enumerate (da_cons (dv 0) da_nil)) (blkOk_by (N := N_support_of) (sc := (defScope (top 36))) (own := [("kind", 1), ("item", 2)]) (by decide +kernel)) (fun _ _ _ _ _ => (dg_two (by rfl) (dg_name (i := 1) nd) (dg_name (i := 2) nd))) (fun _ _ _ _ _ => (dts_one (dt_cmp (op_neD hu) snd_ne (dv 2) (de_glob T.c_ZERO)))) (fun _ _ _ _ _ => (dv 1))) da_nil)))), fun ds M Φ Ψ h => (run ds M Φ Ψ h).2⟩
/-! ## check_both -/
def N_check_both : List Str := ["likeness", "community"]
theorem sc_check_both : FnScope N_check_both ["likeness", "community"] (defScope (top 37)) := ⟨rfl, rfl, rfl, by decide +kernel, rfl, by decide +kernel, by decide +kernel⟩
def T_check_both (p_check_likeness : DSp) (p_check_community : DSp) : DTS :=
  (dSeq (dDrop (dCall p_check_likeness (dCons (dVar 0) dNil)))
  (dDrop (dCall p_check_community (dCons (dVar 0) (dCons (dVar 1) dNil)))))
theorem h_check_both (T : Txt P w K mg base c_InvalidNumber c_InvalidLikeness c_InvalidCommunity c_TooMany) {sp : DSp} {p_check_likeness : DSp} {p_check_community : DSp} (g_check_likeness : Has P w K mg base 7 "check_likeness" (top 33) ["likeness"] p_check_likeness) (g_check_community : Has P w K mg base 5 "check_community" (top 35) ["likeness", "community"] p_check_community)
    (run : ∀ ds M Φ Ψ, sp ds M Φ Ψ → ds.length = 2 ∧ T_check_both p_check_likeness p_check_community (fnEnds M.length Φ Ψ) (startR N_check_both ds) M) : Has P w K mg base (7 + 1) "check_both" (top 37) ["likeness", "community"] sp := by
  refine Def.has T.d_check_both sc_check_both (fun ds M Φ Ψ h => (run ds M Φ Ψ h).1) (fun f cdv A outer s H E hr => ?_)
  have hu := room64 hr
  have nd := sc_check_both.nd
  have tk : Takes (cxOf (L2.CX P w) P w K mg base N_check_both "check_both" (defScope (top 37)) f cdv A outer s H E) (fun cls d _ H' => E cls d H') := takes_of rfl rfl rfl rfl
  exact ⟨_, T_check_both p_check_likeness p_check_community, (dss_cons (ds_expr (de_call g_check_likeness hr tk (da_cons (dv 0) da_nil) (hk := by decide)))
    (dss_one (ds_expr (de_call g_check_community hr tk (da_cons (dv 0) (da_cons (dv 1) da_nil)) (hk := by decide))))), fun ds M Φ Ψ h => (run ds M Φ Ψ h).2⟩
/-! ## shares_of -/
def N_shares_of : List Str := ["likeness", "community", "found", "kind"]
theorem sc_shares_of : FnScope N_shares_of ["likeness", "community"] (defScope (top 41)) := ⟨rfl, rfl, rfl, by decide +kernel, rfl, by decide +kernel, by decide +kernel⟩
def T_shares_of (p_applied_to : DSp) (p_support_of : DSp) : DTS :=
  (dSeq (dAsg (dCall p_applied_to (dCons (dVar 0) (dCons (dVar 1) dNil))) (dgName 2))
  (dRet (dLc (diSeq (dCall p_support_of (dCons (dVar 1) dNil))) (dgName 3) dYes (dTup (dCons (dOp dIx (dVar 1) (dVar 3)) (dCons (dOp dIx (dVar 2) (dVar 3)) dNil))) [3])))
theorem h_shares_of (T : Txt P w K mg base c_InvalidNumber c_InvalidLikeness c_InvalidCommunity c_TooMany) {sp : DSp} {p_applied_to : DSp} {p_support_of : DSp} (g_applied_to : Has P w K mg base 5 "applied_to" (top 29) ["table", "row"] p_applied_to) (g_support_of : Has P w K mg base 1 "support_of" (top 36) ["community"] p_support_of)
    (run : ∀ ds M Φ Ψ, sp ds M Φ Ψ → ds.length = 2 ∧ T_shares_of p_applied_to p_support_of (fnEnds M.length Φ Ψ) (startR N_shares_of ds) M) : Has P w K mg base (5 + 1) "shares_of" (top 41) ["likeness", "community"] sp := by
  refine Def.has T.d_shares_of sc_shares_of (fun ds M Φ Ψ h => (run ds M Φ Ψ h).1) (fun f cdv A outer s H E hr => ?_)
  have hu := room64 hr
  have nd := sc_shares_of.nd
  have tk : Takes (cxOf (L2.CX P w) P w K mg base N_shares_of "shares_of" (defScope (top 41)) f cdv A outer s H E) (fun cls d _ H' => E cls d H') := takes_of rfl rfl rfl rfl
  exact ⟨_, T_shares_of p_applied_to p_support_of, (dss_cons (ds_set (i := 2) nd (de_call g_applied_to hr tk (da_cons (dv 0) (da_cons (dv 1) da_nil)) (hk := by decide)))
    (dss_one (ds_ret (de_lc (own := [("kind", 3)]) (by rfl) nd (di_seq (de_call g_support_of hr tk (da_cons (dv 1) da_nil) (hk := by decide))) (blkOk_by (N := N_shares_of) (sc := (defScope (top 41))) (own := [("kind", 3)]) (by decide +kernel)) (fun _ _ _ _ _ => (dg_name (i := 3) nd)) (fun _ _ _ _ _ => dts_nil) (fun _ _ _ _ _ => (de_tup (da_cons (de_ix (dv 1) (dv 3)) (da_cons (de_ix (dv 2) (dv 3)) da_nil)))))))), fun ds M Φ Ψ h => (run ds M Φ Ψ h).2⟩
/-! ## power_sum_of -/
def N_power_sum_of : List Str := ["likeness", "community", "q", "share", "presence"]
theorem sc_power_sum_of : FnScope N_power_sum_of ["likeness", "community", "q"] (defScope (top 42)) := ⟨rfl, rfl, rfl, by decide +kernel, rfl, by decide +kernel, by decide +kernel⟩
def T_power_sum_of (p_total : DSp) (p_shares_of : DSp) (p_times : DSp) (p_raised : DSp) : DTS :=
  (dRet (dCall p_total (dCons (dLc (diSeq (dCall p_shares_of (dCons (dVar 0) (dCons (dVar 1) dNil)))) (dgTup (dgCons (dgName 3) (dgCons (dgName 4) dgNil))) dYes (dCall p_times (dCons (dVar 3) (dCons (dCall p_raised (dCons (dVar 4) (dCons (dOp dSub (dVar 2) (dC (.int 1))) dNil))) dNil))) [3, 4]) dNil)))
theorem h_power_sum_of (T : Txt P w K mg base c_InvalidNumber c_InvalidLikeness c_InvalidCommunity c_TooMany) {sp : DSp} {p_total : DSp} {p_shares_of : DSp} {p_times : DSp} {p_raised : DSp} (g_total : Has P w K mg base 3 "total" (top 21) ["items"] p_total) (g_shares_of : Has P w K mg base 6 "shares_of" (top 41) ["likeness", "community"] p_shares_of) (g_times : Has P w K mg base 2 "times" (top 17) ["one", "other"] p_times) (g_raised : Has P w K mg base 2 "raised" (top 19) ["one", "count"] p_raised)
    (run : ∀ ds M Φ Ψ, sp ds M Φ Ψ → ds.length = 3 ∧ T_power_sum_of p_total p_shares_of p_times p_raised (fnEnds M.length Φ Ψ) (startR N_power_sum_of ds) M) : Has P w K mg base (6 + 1) "power_sum_of" (top 42) ["likeness", "community", "q"] sp := by
  refine Def.has T.d_power_sum_of sc_power_sum_of (fun ds M Φ Ψ h => (run ds M Φ Ψ h).1) (fun f cdv A outer s H E hr => ?_)
  have hu := room64 hr
  have nd := sc_power_sum_of.nd
  have tk : Takes (cxOf (L2.CX P w) P w K mg base N_power_sum_of "power_sum_of" (defScope (top 42)) f cdv A outer s H E) (fun cls d _ H' => E cls d H') := takes_of rfl rfl rfl rfl
  exact ⟨_, T_power_sum_of p_total p_shares_of p_times p_raised, (dss_one (ds_ret (de_call g_total hr tk (da_cons (de_lc (own := [("share", 3), ("presence", 4)]) (by rfl) nd (di_seq (de_call g_shares_of hr tk (da_cons (dv 0) (da_cons (dv 1) da_nil)) (hk := by decide))) (blkOk_by (N := N_power_sum_of) (sc := (defScope (top 42))) (own := [("share", 3), ("presence", 4)]) (by decide +kernel)) (fun _ _ _ _ _ => (dg_two (by rfl) (dg_name (i := 3) nd) (dg_name (i := 4) nd))) (fun _ _ _ _ _ => dts_nil) (fun _ _ _ _ _ => (de_call g_times hr takes0 (da_cons (dv 3) (da_cons (de_call g_raised hr takes0 (da_cons (dv 4) (da_cons (de_op op_sub snd_sub (dv 2) de_int) da_nil)) (hk := by decide)) da_nil)) (hk := by decide)))) da_nil) (hk := by decide)))), fun ds M Φ Ψ h => (run ds M Φ Ψ h).2⟩
/-! ## common_multiple -/
def N_common_multiple : List Str := ["community", "found", "item"]
theorem sc_common_multiple : FnScope N_common_multiple ["community"] (defScope (top 43)) := ⟨rfl, rfl, rfl, by decide +kernel, rfl, by decide +kernel, by decide +kernel⟩
def T_common_multiple : DTS :=
  (dSeq (dAsg (dC (.int 1)) (dgName 1))
  (dSeq (dFor (diSeq (dVar 0)) (dgName 2) (dAsg (dOp dFdiv (dOp dMul (dVar 1) (dOp dIx (dVar 2) (dC (.int 1)))) (dCB dGcd (dCons (dVar 1) (dCons (dOp dIx (dVar 2) (dC (.int 1))) dNil)))) (dgName 1)))
  (dRet (dVar 1))))
theorem h_common_multiple (T : Txt P w K mg base c_InvalidNumber c_InvalidLikeness c_InvalidCommunity c_TooMany) {sp : DSp}
    (run : ∀ ds M Φ Ψ, sp ds M Φ Ψ → ds.length = 1 ∧ T_common_multiple (fnEnds M.length Φ Ψ) (startR N_common_multiple ds) M) : Has P w K mg base (0 + 1) "common_multiple" (top 43) ["community"] sp := by
  refine Def.has T.d_common_multiple sc_common_multiple (fun ds M Φ Ψ h => (run ds M Φ Ψ h).1) (fun f cdv A outer s H E hr => ?_)
  have hu := room64 hr
  have nd := sc_common_multiple.nd
  have tk : Takes (cxOf (L2.CX P w) P w K mg base N_common_multiple "common_multiple" (defScope (top 43)) f cdv A outer s H E) (fun cls d _ H' => E cls d H') := takes_of rfl rfl rfl rfl
  exact ⟨_, T_common_multiple, (dss_cons (ds_set (i := 1) nd de_int)
    (dss_cons (ds_for PassesOwn.leaving (by rfl) (di_seq (dv 0)) (dg_name (i := 2) nd) (dss_one (ds_set (i := 1) nd (de_op op_fdivG snd_fdiv (de_op op_mulA snd_mul (dv 1) (de_ix (dv 2) de_int)) (de_callF cr_gcd snd_gcd T.m_gcd (da_cons (dv 1) (da_cons (de_ix (dv 2) de_int) da_nil)))))))
    (dss_one (ds_ret (dv 1))))), fun ds M Φ Ψ h => (run ds M Φ Ψ h).2⟩
/-! ## first_order -/
def N_first_order : List Str := ["likeness", "community", "power", "worth", "share", "presence"]
theorem sc_first_order : FnScope N_first_order ["likeness", "community"] (defScope (top 44)) := ⟨rfl, rfl, rfl, by decide +kernel, rfl, by decide +kernel, by decide +kernel⟩
def T_first_order (p_common_multiple : DSp) (p_shares_of : DSp) (p_times : DSp) (p_raised : DSp) : DTS :=
  (dSeq (dPar 2 3 (dCons (dCall p_common_multiple (dCons (dVar 1) dNil)) (dCons (dC (.tup [.int 1, .int 1])) dNil)))
  (dSeq (dFor (diSeq (dCall p_shares_of (dCons (dVar 0) (dCons (dVar 1) dNil)))) (dgTup (dgCons (dgName 4) (dgCons (dgName 5) dgNil))) (dAsg (dCall p_times (dCons (dVar 3) (dCons (dCall p_raised (dCons (dVar 5) (dCons (dUn dNeg (dOp dFdiv (dOp dMul (dVar 2) (dOp dIx (dVar 4) (dC (.int 0)))) (dOp dIx (dVar 4) (dC (.int 1))))) dNil))) dNil))) (dgName 3)))
  (dRet (dTup (dCons (dVar 2) (dCons (dVar 3) dNil))))))
theorem h_first_order (T : Txt P w K mg base c_InvalidNumber c_InvalidLikeness c_InvalidCommunity c_TooMany) {sp : DSp} {p_common_multiple : DSp} {p_shares_of : DSp} {p_times : DSp} {p_raised : DSp} (g_common_multiple : Has P w K mg base 1 "common_multiple" (top 43) ["community"] p_common_multiple) (g_shares_of : Has P w K mg base 6 "shares_of" (top 41) ["likeness", "community"] p_shares_of) (g_times : Has P w K mg base 2 "times" (top 17) ["one", "other"] p_times) (g_raised : Has P w K mg base 2 "raised" (top 19) ["one", "count"] p_raised)
    (run : ∀ ds M Φ Ψ, sp ds M Φ Ψ → ds.length = 2 ∧ T_first_order p_common_multiple p_shares_of p_times p_raised (fnEnds M.length Φ Ψ) (startR N_first_order ds) M) : Has P w K mg base (6 + 1) "first_order" (top 44) ["likeness", "community"] sp := by
  refine Def.has T.d_first_order sc_first_order (fun ds M Φ Ψ h => (run ds M Φ Ψ h).1) (fun f cdv A outer s H E hr => ?_)
  have hu := room64 hr
  have nd := sc_first_order.nd
  have tk : Takes (cxOf (L2.CX P w) P w K mg base N_first_order "first_order" (defScope (top 44)) f cdv A outer s H E) (fun cls d _ H' => E cls d H') := takes_of rfl rfl rfl rfl
  exact ⟨_, T_first_order p_common_multiple p_shares_of p_times p_raised, (dss_cons (ds_par (i := 2) (j := 3) (by rfl) nd (da_cons (de_call g_common_multiple hr tk (da_cons (dv 1) da_nil) (hk := by decide)) (da_cons (de_glob T.c_ONE) da_nil)))
    (dss_cons (ds_for PassesOwn.leaving (by rfl) (di_seq (de_call g_shares_of hr tk (da_cons (dv 0) (da_cons (dv 1) da_nil)) (hk := by decide))) (dg_two (by rfl) (dg_name (i := 4) nd) (dg_name (i := 5) nd)) (dss_one (ds_set (i := 3) nd (de_call g_times hr tk (da_cons (dv 3) (da_cons (de_call g_raised hr tk (da_cons (dv 5) (da_cons (de_un un_neg snd_neg (de_op op_fdivG snd_fdiv (de_op op_mulA snd_mul (dv 2) (de_ix (dv 4) de_int)) (de_ix (dv 4) de_int))) da_nil)) (hk := by decide)) da_nil)) (hk := by decide)))))
    (dss_one (ds_ret (de_tup (da_cons (dv 2) (da_cons (dv 3) da_nil))))))), fun ds M Φ Ψ h => (run ds M Φ Ψ h).2⟩
/-! ## greatest_presence -/
def N_greatest_presence : List Str := ["likeness", "community", "found", "share", "presence"]
theorem sc_greatest_presence : FnScope N_greatest_presence ["likeness", "community"] (defScope (top 45)) := ⟨rfl, rfl, rfl, by decide +kernel, rfl, by decide +kernel, by decide +kernel⟩
def T_greatest_presence (p_shares_of : DSp) (p_is_less : DSp) : DTS :=
  (dSeq (dAsg (dC (.tup [.int 0, .int 1])) (dgName 2))
  (dSeq (dFor (diSeq (dCall p_shares_of (dCons (dVar 0) (dCons (dVar 1) dNil)))) (dgTup (dgCons (dgName 3) (dgCons (dgName 4) dgNil))) (dAsg (dIf (dB (dCall p_is_less (dCons (dVar 2) (dCons (dVar 4) dNil)))) (dVar 4) (dVar 2)) (dgName 2)))
  (dRet (dVar 2))))
theorem h_greatest_presence (T : Txt P w K mg base c_InvalidNumber c_InvalidLikeness c_InvalidCommunity c_TooMany) {sp : DSp} {p_shares_of : DSp} {p_is_less : DSp} (g_shares_of : Has P w K mg base 6 "shares_of" (top 41) ["likeness", "community"] p_shares_of) (g_is_less : Has P w K mg base 1 "is_less" (top 20) ["one", "other"] p_is_less)
    (run : ∀ ds M Φ Ψ, sp ds M Φ Ψ → ds.length = 2 ∧ T_greatest_presence p_shares_of p_is_less (fnEnds M.length Φ Ψ) (startR N_greatest_presence ds) M) : Has P w K mg base (6 + 1) "greatest_presence" (top 45) ["likeness", "community"] sp := by
  refine Def.has T.d_greatest_presence sc_greatest_presence (fun ds M Φ Ψ h => (run ds M Φ Ψ h).1) (fun f cdv A outer s H E hr => ?_)
  have hu := room64 hr
  have nd := sc_greatest_presence.nd
  have tk : Takes (cxOf (L2.CX P w) P w K mg base N_greatest_presence "greatest_presence" (defScope (top 45)) f cdv A outer s H E) (fun cls d _ H' => E cls d H') := takes_of rfl rfl rfl rfl
  exact ⟨_, T_greatest_presence p_shares_of p_is_less, (dss_cons (ds_set (i := 2) nd (de_glob T.c_ZERO))
    (dss_cons (ds_for PassesOwn.leaving (by rfl) (di_seq (de_call g_shares_of hr tk (da_cons (dv 0) (da_cons (dv 1) da_nil)) (hk := by decide))) (dg_two (by rfl) (dg_name (i := 3) nd) (dg_name (i := 4) nd)) (dss_one (ds_set (i := 2) nd (de_if (dt_val (de_call g_is_less hr tk (da_cons (dv 2) (da_cons (dv 4) da_nil)) (hk := by decide))) (dv 4) (dv 2)))))
    (dss_one (ds_ret (dv 2))))), fun ds M Φ Ψ h => (run ds M Φ Ψ h).2⟩
/-! ## diversity_of -/
def N_diversity_of : List Str := ["likeness", "community", "q", "share", "presence"]
theorem sc_diversity_of : FnScope N_diversity_of ["likeness", "community", "q"] (defScope (top 46)) := ⟨rfl, rfl, rfl, by decide +kernel, rfl, by decide +kernel, by decide +kernel⟩
def T_diversity_of (p_over : DSp) (p_greatest_presence : DSp) (p_total : DSp) (p_shares_of : DSp) (p_first_order : DSp) (p_power_sum_of : DSp) : DTS :=
  (dSeq (dIfS (dB (dOp dEq (dVar 2) (dC (.str "all")))) (dRet (dTup (dCons (dC (.int 1)) (dCons (dCall p_over (dCons (dC (.tup [.int 1, .int 1])) (dCons (dCall p_greatest_presence (dCons (dVar 0) (dCons (dVar 1) dNil))) dNil))) dNil)))) dNext)
  (dSeq (dIfS (dB (dOp dEq (dVar 2) (dC (.int 0)))) (dRet (dTup (dCons (dC (.int 1)) (dCons (dCall p_total (dCons (dLc (diSeq (dCall p_shares_of (dCons (dVar 0) (dCons (dVar 1) dNil)))) (dgTup (dgCons (dgName 3) (dgCons (dgName 4) dgNil))) dYes (dCall p_over (dCons (dVar 3) (dCons (dVar 4) dNil))) [3, 4]) dNil)) dNil)))) dNext)
  (dSeq (dIfS (dB (dOp dEq (dVar 2) (dC (.int 1)))) (dRet (dCall p_first_order (dCons (dVar 0) (dCons (dVar 1) dNil)))) dNext)
  (dRet (dTup (dCons (dOp dSub (dVar 2) (dC (.int 1))) (dCons (dCall p_over (dCons (dC (.tup [.int 1, .int 1])) (dCons (dCall p_power_sum_of (dCons (dVar 0) (dCons (dVar 1) (dCons (dVar 2) dNil)))) dNil))) dNil)))))))
theorem h_diversity_of (T : Txt P w K mg base c_InvalidNumber c_InvalidLikeness c_InvalidCommunity c_TooMany) {sp : DSp} {p_over : DSp} {p_greatest_presence : DSp} {p_total : DSp} {p_shares_of : DSp} {p_first_order : DSp} {p_power_sum_of : DSp} (g_over : Has P w K mg base 2 "over" (top 18) ["one", "other"] p_over) (g_greatest_presence : Has P w K mg base 7 "greatest_presence" (top 45) ["likeness", "community"] p_greatest_presence) (g_total : Has P w K mg base 3 "total" (top 21) ["items"] p_total) (g_shares_of : Has P w K mg base 6 "shares_of" (top 41) ["likeness", "community"] p_shares_of) (g_first_order : Has P w K mg base 7 "first_order" (top 44) ["likeness", "community"] p_first_order) (g_power_sum_of : Has P w K mg base 7 "power_sum_of" (top 42) ["likeness", "community", "q"] p_power_sum_of)
    (run : ∀ ds M Φ Ψ, sp ds M Φ Ψ → ds.length = 3 ∧ T_diversity_of p_over p_greatest_presence p_total p_shares_of p_first_order p_power_sum_of (fnEnds M.length Φ Ψ) (startR N_diversity_of ds) M) : Has P w K mg base (7 + 1) "diversity_of" (top 46) ["likeness", "community", "q"] sp := by
  refine Def.has T.d_diversity_of sc_diversity_of (fun ds M Φ Ψ h => (run ds M Φ Ψ h).1) (fun f cdv A outer s H E hr => ?_)
  have hu := room64 hr
  have nd := sc_diversity_of.nd
  have tk : Takes (cxOf (L2.CX P w) P w K mg base N_diversity_of "diversity_of" (defScope (top 46)) f cdv A outer s H E) (fun cls d _ H' => E cls d H') := takes_of rfl rfl rfl rfl
  exact ⟨_, T_diversity_of p_over p_greatest_presence p_total p_shares_of p_first_order p_power_sum_of, (dss_cons (ds_if (dt_cmp (op_eqD hu) snd_eq (dv 2) de_str) (dss_one (ds_ret (de_tup (da_cons de_int (da_cons (de_call g_over hr tk (da_cons (de_glob T.c_ONE) (da_cons (de_call g_greatest_presence hr tk (da_cons (dv 0) (da_cons (dv 1) da_nil)) (hk := by decide)) da_nil)) (hk := by decide)) da_nil))))) dss_nil)
    (dss_cons (ds_if (dt_cmp (op_eqD hu) snd_eq (dv 2) de_int) (dss_one (ds_ret (de_tup (da_cons de_int (da_cons (de_call g_total hr tk (da_cons (de_lc (own := [("share", 3), ("presence", 4)]) (by rfl) nd (di_seq (de_call g_shares_of hr tk (da_cons (dv 0) (da_cons (dv 1) da_nil)) (hk := by decide))) (blkOk_by (N := N_diversity_of) (sc := (defScope (top 46))) (own := [("share", 3), ("presence", 4)]) (by decide +kernel)) (fun _ _ _ _ _ => (dg_two (by rfl) (dg_name (i := 3) nd) (dg_name (i := 4) nd))) (fun _ _ _ _ _ => dts_nil) (fun _ _ _ _ _ => (de_call g_over hr takes0 (da_cons (dv 3) (da_cons (dv 4) da_nil)) (hk := by decide)))) da_nil) (hk := by decide)) da_nil))))) dss_nil)
    (dss_cons (ds_if (dt_cmp (op_eqD hu) snd_eq (dv 2) de_int) (dss_one (ds_ret (de_call g_first_order hr tk (da_cons (dv 0) (da_cons (dv 1) da_nil)) (hk := by decide)))) dss_nil)
    (dss_one (ds_ret (de_tup (da_cons (de_op op_sub snd_sub (dv 2) de_int) (da_cons (de_call g_over hr tk (da_cons (de_glob T.c_ONE) (da_cons (de_call g_power_sum_of hr tk (da_cons (dv 0) (da_cons (dv 1) (da_cons (dv 2) da_nil))) (hk := by decide)) da_nil)) (hk := by decide)) da_nil)))))))), fun ds M Φ Ψ h => (run ds M Φ Ψ h).2⟩
/-! ## sign_of -/
def N_sign_of : List Str := ["one", "other", "here", "there"]
theorem sc_sign_of : FnScope N_sign_of ["one", "other"] (defScope (top 47)) := ⟨rfl, rfl, rfl, by decide +kernel, rfl, by decide +kernel, by decide +kernel⟩
def T_sign_of (p_raised : DSp) (p_is_less : DSp) : DTS :=
  (dSeq (dPar 2 3 (dCons (dCall p_raised (dCons (dOp dIx (dVar 0) (dC (.int 1))) (dCons (dOp dIx (dVar 1) (dC (.int 0))) dNil))) (dCons (dCall p_raised (dCons (dOp dIx (dVar 1) (dC (.int 1))) (dCons (dOp dIx (dVar 0) (dC (.int 0))) dNil))) dNil)))
  (dSeq (dIfS (dB (dOp dEq (dVar 2) (dVar 3))) (dRet (dC (.int 0))) dNext)
  (dRet (dIf (dB (dCall p_is_less (dCons (dVar 3) (dCons (dVar 2) dNil)))) (dC (.int 1)) (dUn dNeg (dC (.int 1)))))))
theorem h_sign_of (T : Txt P w K mg base c_InvalidNumber c_InvalidLikeness c_InvalidCommunity c_TooMany) {sp : DSp} {p_raised : DSp} {p_is_less : DSp} (g_raised : Has P w K mg base 2 "raised" (top 19) ["one", "count"] p_raised) (g_is_less : Has P w K mg base 1 "is_less" (top 20) ["one", "other"] p_is_less)
    (run : ∀ ds M Φ Ψ, sp ds M Φ Ψ → ds.length = 2 ∧ T_sign_of p_raised p_is_less (fnEnds M.length Φ Ψ) (startR N_sign_of ds) M) : Has P w K mg base (2 + 1) "sign_of" (top 47) ["one", "other"] sp := by
  refine Def.has T.d_sign_of sc_sign_of (fun ds M Φ Ψ h => (run ds M Φ Ψ h).1) (fun f cdv A outer s H E hr => ?_)
  have hu := room64 hr
  have nd := sc_sign_of.nd
  have tk : Takes (cxOf (L2.CX P w) P w K mg base N_sign_of "sign_of" (defScope (top 47)) f cdv A outer s H E) (fun cls d _ H' => E cls d H') := takes_of rfl rfl rfl rfl
  exact ⟨_, T_sign_of p_raised p_is_less, (dss_cons (ds_par (i := 2) (j := 3) (by rfl) nd (da_cons (de_call g_raised hr tk (da_cons (de_ix (dv 0) de_int) (da_cons (de_ix (dv 1) de_int) da_nil)) (hk := by decide)) (da_cons (de_call g_raised hr tk (da_cons (de_ix (dv 1) de_int) (da_cons (de_ix (dv 0) de_int) da_nil)) (hk := by decide)) da_nil)))
    (dss_cons (ds_if (dt_cmp (op_eqD hu) snd_eq (dv 2) (dv 3)) (dss_one (ds_ret de_int)) dss_nil)
    (dss_one (ds_ret (de_if (dt_val (de_call g_is_less hr tk (da_cons (dv 3) (da_cons (dv 2) da_nil)) (hk := by decide))) de_int (de_un un_neg snd_neg de_int)))))), fun ds M Φ Ψ h => (run ds M Φ Ψ h).2⟩
/-! ## check_order -/
def N_check_order : List Str := ["q"]
theorem sc_check_order : FnScope N_check_order ["q"] (defScope (top 48)) := ⟨rfl, rfl, rfl, by decide +kernel, rfl, by decide +kernel, by decide +kernel⟩
def T_check_order (c_InvalidNumber : Addr) (p_is_between : DSp) : DTS :=
  (dIfS (dAnd (dNot (dB (dCall p_is_between (dCons (dVar 0) (dCons (dC (.int 0)) (dCons (dC (.int 12)) dNil)))))) (dNot (dAnd (dB (dIs1 "str" (dVar 0))) (dB (dOp dEq (dVar 0) (dC (.str "all"))))))) (dRaise c_InvalidNumber "given" (dVar 0)) dNext)
theorem h_check_order (T : Txt P w K mg base c_InvalidNumber c_InvalidLikeness c_InvalidCommunity c_TooMany) {sp : DSp} {p_is_between : DSp} (g_is_between : Has P w K mg base 2 "is_between" (top 9) ["value", "least", "most"] p_is_between)
    (run : ∀ ds M Φ Ψ, sp ds M Φ Ψ → ds.length = 1 ∧ T_check_order c_InvalidNumber p_is_between (fnEnds M.length Φ Ψ) (startR N_check_order ds) M) : Has P w K mg base (2 + 1) "check_order" (top 48) ["q"] sp := by
  refine Def.has T.d_check_order sc_check_order (fun ds M Φ Ψ h => (run ds M Φ Ψ h).1) (fun f cdv A outer s H E hr => ?_)
  have hu := room64 hr
  have nd := sc_check_order.nd
  have tk : Takes (cxOf (L2.CX P w) P w K mg base N_check_order "check_order" (defScope (top 48)) f cdv A outer s H E) (fun cls d _ H' => E cls d H') := takes_of rfl rfl rfl rfl
  exact ⟨_, T_check_order c_InvalidNumber p_is_between, (dss_one (ds_if (DW.dt (dw_and (dt_not (dt_val (de_call g_is_between hr tk (da_cons (dv 0) (da_cons de_int (da_cons (de_glob T.c_MOST_ORDER) da_nil))) (hk := by decide)))) (dw_and1 (dt_not (DW.dt (dw_and (dt_val (de_is1 T.b_isinstance rfl (dv 0) T.b_str rfl)) (dw_and1 (dt_cmp (op_eqD hu) snd_eq (dv 0) de_str)))))))) (dss_one (ds_raise T.x_InvalidNumber hr tk (dv 0) (by rfl) (hj := by decide))) dss_nil)), fun ds M Φ Ψ h => (run ds M Φ Ψ h).2⟩
/-! ## check_power -/
def N_check_power : List Str := ["community", "power"]
theorem sc_check_power : FnScope N_check_power ["community"] (defScope (top 49)) := ⟨rfl, rfl, rfl, by decide +kernel, rfl, by decide +kernel, by decide +kernel⟩
def T_check_power (c_TooMany : Addr) (p_common_multiple : DSp) : DTS :=
  (dSeq (dAsg (dCall p_common_multiple (dCons (dVar 0) dNil)) (dgName 1))
  (dIfS (dB (dOp dGt (dVar 1) (dC (.int 40)))) (dRaise c_TooMany "count" (dVar 1)) dNext))
theorem h_check_power (T : Txt P w K mg base c_InvalidNumber c_InvalidLikeness c_InvalidCommunity c_TooMany) {sp : DSp} {p_common_multiple : DSp} (g_common_multiple : Has P w K mg base 1 "common_multiple" (top 43) ["community"] p_common_multiple)
    (run : ∀ ds M Φ Ψ, sp ds M Φ Ψ → ds.length = 1 ∧ T_check_power c_TooMany p_common_multiple (fnEnds M.length Φ Ψ) (startR N_check_power ds) M) : Has P w K mg base (2 + 1) "check_power" (top 49) ["community"] sp := by
  refine Def.has T.d_check_power sc_check_power (fun ds M Φ Ψ h => (run ds M Φ Ψ h).1) (fun f cdv A outer s H E hr => ?_)
  have hu := room64 hr
  have nd := sc_check_power.nd
  have tk : Takes (cxOf (L2.CX P w) P w K mg base N_check_power "check_power" (defScope (top 49)) f cdv A outer s H E) (fun cls d _ H' => E cls d H') := takes_of rfl rfl rfl rfl
  exact ⟨_, T_check_power c_TooMany p_common_multiple, (dss_cons (ds_set (i := 1) nd (de_call g_common_multiple hr tk (da_cons (dv 0) da_nil) (hk := by decide)))
    (dss_one (ds_if (dt_cmp op_gt snd_gt (dv 1) (de_glob T.c_MOST_POWER)) (dss_one (ds_raise T.x_TooMany hr tk (dv 1) (by rfl) (hj := by decide))) dss_nil))), fun ds M Φ Ψ h => (run ds M Φ Ψ h).2⟩
/-! ## is_first -/
def N_is_first : List Str := ["q"]
theorem sc_is_first : FnScope N_is_first ["q"] (defScope (top 50)) := ⟨rfl, rfl, rfl, by decide +kernel, rfl, by decide +kernel, by decide +kernel⟩
def T_is_first : DTS :=
  (dRet (dAndV (dOp dNe (dVar 0) (dC (.str "all"))) (dOp dEq (dVar 0) (dC (.int 1)))))
theorem h_is_first (T : Txt P w K mg base c_InvalidNumber c_InvalidLikeness c_InvalidCommunity c_TooMany) {sp : DSp}
    (run : ∀ ds M Φ Ψ, sp ds M Φ Ψ → ds.length = 1 ∧ T_is_first (fnEnds M.length Φ Ψ) (startR N_is_first ds) M) : Has P w K mg base (0 + 1) "is_first" (top 50) ["q"] sp := by
  refine Def.has T.d_is_first sc_is_first (fun ds M Φ Ψ h => (run ds M Φ Ψ h).1) (fun f cdv A outer s H E hr => ?_)
  have hu := room64 hr
  have nd := sc_is_first.nd
  have tk : Takes (cxOf (L2.CX P w) P w K mg base N_is_first "is_first" (defScope (top 50)) f cdv A outer s H E) (fun cls d _ H' => E cls d H') := takes_of rfl rfl rfl rfl
  exact ⟨_, T_is_first, (dss_one (ds_ret (de_and (de_cmp (op_neD hu) snd_ne (dv 0) de_str) (de_one (de_cmp (op_eqD hu) snd_eq (dv 0) de_int))))), fun ds M Φ Ψ h => (run ds M Φ Ψ h).2⟩
/-! ## power_sum -/
def N_power_sum : List Str := ["likeness", "community", "q"]
theorem sc_power_sum : FnScope N_power_sum ["likeness", "community", "q"] (defScope (top 51)) := ⟨rfl, rfl, rfl, by decide +kernel, rfl, by decide +kernel, by decide +kernel⟩
def T_power_sum (c_InvalidNumber : Addr) (p_check_both : DSp) (p_is_between : DSp) (p_power_sum_of : DSp) : DTS :=
  (dSeq (dDrop (dCall p_check_both (dCons (dVar 0) (dCons (dVar 1) dNil))))
  (dSeq (dIfS (dNot (dB (dCall p_is_between (dCons (dVar 2) (dCons (dC (.int 2)) (dCons (dC (.int 12)) dNil)))))) (dRaise c_InvalidNumber "given" (dVar 2)) dNext)
  (dRet (dCall p_power_sum_of (dCons (dVar 0) (dCons (dVar 1) (dCons (dVar 2) dNil)))))))
theorem h_power_sum (T : Txt P w K mg base c_InvalidNumber c_InvalidLikeness c_InvalidCommunity c_TooMany) {sp : DSp} {p_check_both : DSp} {p_is_between : DSp} {p_power_sum_of : DSp} (g_check_both : Has P w K mg base 8 "check_both" (top 37) ["likeness", "community"] p_check_both) (g_is_between : Has P w K mg base 2 "is_between" (top 9) ["value", "least", "most"] p_is_between) (g_power_sum_of : Has P w K mg base 7 "power_sum_of" (top 42) ["likeness", "community", "q"] p_power_sum_of)
    (run : ∀ ds M Φ Ψ, sp ds M Φ Ψ → ds.length = 3 ∧ T_power_sum c_InvalidNumber p_check_both p_is_between p_power_sum_of (fnEnds M.length Φ Ψ) (startR N_power_sum ds) M) : Has P w K mg base (8 + 1) "power_sum" (top 51) ["likeness", "community", "q"] sp := by
  refine Def.has T.d_power_sum sc_power_sum (fun ds M Φ Ψ h => (run ds M Φ Ψ h).1) (fun f cdv A outer s H E hr => ?_)
  have hu := room64 hr
  have nd := sc_power_sum.nd
  have tk : Takes (cxOf (L2.CX P w) P w K mg base N_power_sum "power_sum" (defScope (top 51)) f cdv A outer s H E) (fun cls d _ H' => E cls d H') := takes_of rfl rfl rfl rfl
  exact ⟨_, T_power_sum c_InvalidNumber p_check_both p_is_between p_power_sum_of, (dss_cons (ds_expr (de_call g_check_both hr tk (da_cons (dv 0) (da_cons (dv 1) da_nil)) (hk := by decide)))
    (dss_cons (ds_if (dt_not (dt_val (de_call g_is_between hr tk (da_cons (dv 2) (da_cons de_int (da_cons (de_glob T.c_MOST_ORDER) da_nil))) (hk := by decide)))) (dss_one (ds_raise T.x_InvalidNumber hr tk (dv 2) (by rfl) (hj := by decide))) dss_nil)
    (dss_one (ds_ret (de_call g_power_sum_of hr tk (da_cons (dv 0) (da_cons (dv 1) (da_cons (dv 2) da_nil))) (hk := by decide)))))), fun ds M Φ Ψ h => (run ds M Φ Ψ h).2⟩
/-! ## diversity -/
def N_diversity : List Str := ["likeness", "community", "q"]
theorem sc_diversity : FnScope N_diversity ["likeness", "community", "q"] (defScope (top 52)) := ⟨rfl, rfl, rfl, by decide +kernel, rfl, by decide +kernel, by decide +kernel⟩
def T_diversity (p_check_both : DSp) (p_check_order : DSp) (p_is_first : DSp) (p_check_power : DSp) (p_diversity_of : DSp) : DTS :=
  (dSeq (dDrop (dCall p_check_both (dCons (dVar 0) (dCons (dVar 1) dNil))))
  (dSeq (dDrop (dCall p_check_order (dCons (dVar 2) dNil)))
  (dSeq (dIfS (dB (dCall p_is_first (dCons (dVar 2) dNil))) (dDrop (dCall p_check_power (dCons (dVar 1) dNil))) dNext)
  (dRet (dCall p_diversity_of (dCons (dVar 0) (dCons (dVar 1) (dCons (dVar 2) dNil))))))))
theorem h_diversity (T : Txt P w K mg base c_InvalidNumber c_InvalidLikeness c_InvalidCommunity c_TooMany) {sp : DSp} {p_check_both : DSp} {p_check_order : DSp} {p_is_first : DSp} {p_check_power : DSp} {p_diversity_of : DSp} (g_check_both : Has P w K mg base 8 "check_both" (top 37) ["likeness", "community"] p_check_both) (g_check_order : Has P w K mg base 3 "check_order" (top 48) ["q"] p_check_order) (g_is_first : Has P w K mg base 1 "is_first" (top 50) ["q"] p_is_first) (g_check_power : Has P w K mg base 3 "check_power" (top 49) ["community"] p_check_power) (g_diversity_of : Has P w K mg base 8 "diversity_of" (top 46) ["likeness", "community", "q"] p_diversity_of)
    (run : ∀ ds M Φ Ψ, sp ds M Φ Ψ → ds.length = 3 ∧ T_diversity p_check_both p_check_order p_is_first p_check_power p_diversity_of (fnEnds M.length Φ Ψ) (startR N_diversity ds) M) : Has P w K mg base (8 + 1) "diversity" (top 52) ["likeness", "community", "q"] sp := by
  refine Def.has T.d_diversity sc_diversity (fun ds M Φ Ψ h => (run ds M Φ Ψ h).1) (fun f cdv A outer s H E hr => ?_)
  have hu := room64 hr
  have nd := sc_diversity.nd
  have tk : Takes (cxOf (L2.CX P w) P w K mg base N_diversity "diversity" (defScope (top 52)) f cdv A outer s H E) (fun cls d _ H' => E cls d H') := takes_of rfl rfl rfl rfl
  exact ⟨_, T_diversity p_check_both p_check_order p_is_first p_check_power p_diversity_of, (dss_cons (ds_expr (de_call g_check_both hr tk (da_cons (dv 0) (da_cons (dv 1) da_nil)) (hk := by decide)))
    (dss_cons (ds_expr (de_call g_check_order hr tk (da_cons (dv 2) da_nil) (hk := by decide)))
    (dss_cons (ds_if (dt_val (de_call g_is_first hr tk (da_cons (dv 2) da_nil) (hk := by decide))) (dss_one (ds_expr (de_call g_check_power hr tk (da_cons (dv 1) da_nil) (hk := by decide)))) dss_nil)
    (dss_one (ds_ret (de_call g_diversity_of hr tk (da_cons (dv 0) (da_cons (dv 1) (da_cons (dv 2) da_nil))) (hk := by decide))))))), fun ds M Φ Ψ h => (run ds M Φ Ψ h).2⟩
/-! ## order_sign -/
def N_order_sign : List Str := ["likeness", "one", "other", "q"]
theorem sc_order_sign : FnScope N_order_sign ["likeness", "one", "other", "q"] (defScope (top 53)) := ⟨rfl, rfl, rfl, by decide +kernel, rfl, by decide +kernel, by decide +kernel⟩
def T_order_sign (c_InvalidCommunity : Addr) (p_check_likeness : DSp) (p_check_community : DSp) (p_is_community_of : DSp) (p_check_order : DSp) (p_is_first : DSp) (p_check_power : DSp) (p_sign_of : DSp) (p_diversity_of : DSp) : DTS :=
  (dSeq (dDrop (dCall p_check_likeness (dCons (dVar 0) dNil)))
  (dSeq (dDrop (dCall p_check_community (dCons (dVar 0) (dCons (dVar 1) dNil))))
  (dSeq (dIfS (dNot (dB (dCall p_is_community_of (dCons (dCB dLen (dCons (dVar 0) dNil)) (dCons (dVar 2) dNil))))) (dRaise c_InvalidCommunity "given" (dVar 2)) dNext)
  (dSeq (dDrop (dCall p_check_order (dCons (dVar 3) dNil)))
  (dSeq (dIfS (dB (dCall p_is_first (dCons (dVar 3) dNil))) (dSeq (dDrop (dCall p_check_power (dCons (dVar 1) dNil)))
  (dDrop (dCall p_check_power (dCons (dVar 2) dNil)))) dNext)
  (dRet (dCall p_sign_of (dCons (dCall p_diversity_of (dCons (dVar 0) (dCons (dVar 1) (dCons (dVar 3) dNil)))) (dCons (dCall p_diversity_of (dCons (dVar 0) (dCons (dVar 2) (dCons (dVar 3) dNil)))) dNil)))))))))
theorem h_order_sign (T : Txt P w K mg base c_InvalidNumber c_InvalidLikeness c_InvalidCommunity c_TooMany) {sp : DSp} {p_check_likeness : DSp} {p_check_community : DSp} {p_is_community_of : DSp} {p_check_order : DSp} {p_is_first : DSp} {p_check_power : DSp} {p_sign_of : DSp} {p_diversity_of : DSp} (g_check_likeness : Has P w K mg base 7 "check_likeness" (top 33) ["likeness"] p_check_likeness) (g_check_community : Has P w K mg base 5 "check_community" (top 35) ["likeness", "community"] p_check_community) (g_is_community_of : Has P w K mg base 4 "is_community_of" (top 34) ["size", "value"] p_is_community_of) (g_check_order : Has P w K mg base 3 "check_order" (top 48) ["q"] p_check_order) (g_is_first : Has P w K mg base 1 "is_first" (top 50) ["q"] p_is_first) (g_check_power : Has P w K mg base 3 "check_power" (top 49) ["community"] p_check_power) (g_sign_of : Has P w K mg base 3 "sign_of" (top 47) ["one", "other"] p_sign_of) (g_diversity_of : Has P w K mg base 8 "diversity_of" (top 46) ["likeness", "community", "q"] p_diversity_of)
    (run : ∀ ds M Φ Ψ, sp ds M Φ Ψ → ds.length = 4 ∧ T_order_sign c_InvalidCommunity p_check_likeness p_check_community p_is_community_of p_check_order p_is_first p_check_power p_sign_of p_diversity_of (fnEnds M.length Φ Ψ) (startR N_order_sign ds) M) : Has P w K mg base (8 + 1) "order_sign" (top 53) ["likeness", "one", "other", "q"] sp := by
  refine Def.has T.d_order_sign sc_order_sign (fun ds M Φ Ψ h => (run ds M Φ Ψ h).1) (fun f cdv A outer s H E hr => ?_)
  have hu := room64 hr
  have nd := sc_order_sign.nd
  have tk : Takes (cxOf (L2.CX P w) P w K mg base N_order_sign "order_sign" (defScope (top 53)) f cdv A outer s H E) (fun cls d _ H' => E cls d H') := takes_of rfl rfl rfl rfl
  exact ⟨_, T_order_sign c_InvalidCommunity p_check_likeness p_check_community p_is_community_of p_check_order p_is_first p_check_power p_sign_of p_diversity_of, (dss_cons (ds_expr (de_call g_check_likeness hr tk (da_cons (dv 0) da_nil) (hk := by decide)))
    (dss_cons (ds_expr (de_call g_check_community hr tk (da_cons (dv 0) (da_cons (dv 1) da_nil)) (hk := by decide)))
    (dss_cons (ds_if (dt_not (dt_val (de_call g_is_community_of hr tk (da_cons (de_callB call_lenA snd_len T.b_len rfl (da_cons (dv 0) da_nil)) (da_cons (dv 2) da_nil)) (hk := by decide)))) (dss_one (ds_raise T.x_InvalidCommunity hr tk (dv 2) (by rfl) (hj := by decide))) dss_nil)
    (dss_cons (ds_expr (de_call g_check_order hr tk (da_cons (dv 3) da_nil) (hk := by decide)))
    (dss_cons (ds_if (dt_val (de_call g_is_first hr tk (da_cons (dv 3) da_nil) (hk := by decide))) (dss_cons (ds_expr (de_call g_check_power hr tk (da_cons (dv 1) da_nil) (hk := by decide)))
    (dss_one (ds_expr (de_call g_check_power hr tk (da_cons (dv 2) da_nil) (hk := by decide))))) dss_nil)
    (dss_one (ds_ret (de_call g_sign_of hr tk (da_cons (de_call g_diversity_of hr tk (da_cons (dv 0) (da_cons (dv 1) (da_cons (dv 3) da_nil))) (hk := by decide)) (da_cons (de_call g_diversity_of hr tk (da_cons (dv 0) (da_cons (dv 2) (da_cons (dv 3) da_nil))) (hk := by decide)) da_nil)) (hk := by decide))))))))), fun ds M Φ Ψ h => (run ds M Φ Ψ h).2⟩
/-! ## falls -/
def N_falls : List Str := ["likeness", "community", "found", "q", "one", "other"]
theorem sc_falls : FnScope N_falls ["likeness", "community"] (defScope (top 54)) := ⟨rfl, rfl, rfl, by decide +kernel, rfl, by decide +kernel, by decide +kernel⟩
def T_falls (p_check_both : DSp) (p_check_power : DSp) (p_diversity_of : DSp) (p_sign_of : DSp) : DTS :=
  (dSeq (dDrop (dCall p_check_both (dCons (dVar 0) (dCons (dVar 1) dNil))))
  (dSeq (dDrop (dCall p_check_power (dCons (dVar 1) dNil)))
  (dSeq (dAsg (dLc (diRng1 (dCons (dOp dAdd (dC (.int 12)) (dC (.int 1))) dNil)) (dgName 3) dYes (dCall p_diversity_of (dCons (dVar 0) (dCons (dVar 1) (dCons (dVar 3) dNil)))) [3]) (dgName 2))
  (dRet (dCB dTupOf (dCons (dLc (diZip (dCons (dVar 2) (dCons (dSl (dVar 2) (dPart (dC (.int 1))) dNoPart) dNil))) (dgTup (dgCons (dgName 4) (dgCons (dgName 5) dgNil))) dYes (dCall p_sign_of (dCons (dVar 4) (dCons (dVar 5) dNil))) [4, 5]) dNil))))))
theorem h_falls (T : Txt P w K mg base c_InvalidNumber c_InvalidLikeness c_InvalidCommunity c_TooMany) {sp : DSp} {p_check_both : DSp} {p_check_power : DSp} {p_diversity_of : DSp} {p_sign_of : DSp} (g_check_both : Has P w K mg base 8 "check_both" (top 37) ["likeness", "community"] p_check_both) (g_check_power : Has P w K mg base 3 "check_power" (top 49) ["community"] p_check_power) (g_diversity_of : Has P w K mg base 8 "diversity_of" (top 46) ["likeness", "community", "q"] p_diversity_of) (g_sign_of : Has P w K mg base 3 "sign_of" (top 47) ["one", "other"] p_sign_of)
    (run : ∀ ds M Φ Ψ, sp ds M Φ Ψ → ds.length = 2 ∧ T_falls p_check_both p_check_power p_diversity_of p_sign_of (fnEnds M.length Φ Ψ) (startR N_falls ds) M) : Has P w K mg base (8 + 1) "falls" (top 54) ["likeness", "community"] sp := by
  refine Def.has T.d_falls sc_falls (fun ds M Φ Ψ h => (run ds M Φ Ψ h).1) (fun f cdv A outer s H E hr => ?_)
  have hu := room64 hr
  have nd := sc_falls.nd
  have tk : Takes (cxOf (L2.CX P w) P w K mg base N_falls "falls" (defScope (top 54)) f cdv A outer s H E) (fun cls d _ H' => E cls d H') := takes_of rfl rfl rfl rfl
  exact ⟨_, T_falls p_check_both p_check_power p_diversity_of p_sign_of, (dss_cons (ds_expr (de_call g_check_both hr tk (da_cons (dv 0) (da_cons (dv 1) da_nil)) (hk := by decide)))
    (dss_cons (ds_expr (de_call g_check_power hr tk (da_cons (dv 1) da_nil) (hk := by decide)))
    (dss_cons (ds_setLc (i := 2) (own := [("q", 3)]) (by rfl) nd (di_rng1 T.b_range (da_cons (de_op op_addA snd_add (de_glob T.c_MOST_ORDER) de_int) da_nil)) (blkOk_by (N := N_falls) (sc := (defScope (top 54))) (own := [("q", 3)]) (by decide +kernel)) (fun _ _ _ _ _ => (dg_name (i := 3) nd)) (fun _ _ _ _ _ => dts_nil) (fun _ _ _ _ _ => (de_call g_diversity_of hr takes0 (da_cons (dv 0) (da_cons (dv 1) (da_cons (dv 3) da_nil))) (hk := by decide))))
    (dss_one (ds_ret (de_callTy call_tuple_of snd_tupOf T.b_tuple rfl (da_cons (de_lc (own := [("one", 4), ("other", 5)]) (by rfl) nd (di_zip T.b_zip (da_cons (dv 2) (da_cons (de_slice (dv 2) (do_some de_int) do_none) da_nil))) (blkOk_by (N := N_falls) (sc := (defScope (top 54))) (own := [("one", 4), ("other", 5)]) (by decide +kernel)) (fun _ _ _ _ _ => (dg_two (by rfl) (dg_name (i := 4) nd) (dg_name (i := 5) nd))) (fun _ _ _ _ _ => dts_nil) (fun _ _ _ _ _ => (de_call g_sign_of hr takes0 (da_cons (dv 4) (da_cons (dv 5) da_nil)) (hk := by decide)))) da_nil))))))), fun ds M Φ Ψ h => (run ds M Φ Ψ h).2⟩
/-! ## least_diversity -/
def N_least_diversity : List Str := ["likeness", "community"]
theorem sc_least_diversity : FnScope N_least_diversity ["likeness", "community"] (defScope (top 55)) := ⟨rfl, rfl, rfl, by decide +kernel, rfl, by decide +kernel, by decide +kernel⟩
def T_least_diversity (p_check_both : DSp) (p_diversity_of : DSp) : DTS :=
  (dSeq (dDrop (dCall p_check_both (dCons (dVar 0) (dCons (dVar 1) dNil))))
  (dRet (dOp dIx (dCall p_diversity_of (dCons (dVar 0) (dCons (dVar 1) (dCons (dC (.str "all")) dNil)))) (dC (.int 1)))))
theorem h_least_diversity (T : Txt P w K mg base c_InvalidNumber c_InvalidLikeness c_InvalidCommunity c_TooMany) {sp : DSp} {p_check_both : DSp} {p_diversity_of : DSp} (g_check_both : Has P w K mg base 8 "check_both" (top 37) ["likeness", "community"] p_check_both) (g_diversity_of : Has P w K mg base 8 "diversity_of" (top 46) ["likeness", "community", "q"] p_diversity_of)
    (run : ∀ ds M Φ Ψ, sp ds M Φ Ψ → ds.length = 2 ∧ T_least_diversity p_check_both p_diversity_of (fnEnds M.length Φ Ψ) (startR N_least_diversity ds) M) : Has P w K mg base (8 + 1) "least_diversity" (top 55) ["likeness", "community"] sp := by
  refine Def.has T.d_least_diversity sc_least_diversity (fun ds M Φ Ψ h => (run ds M Φ Ψ h).1) (fun f cdv A outer s H E hr => ?_)
  have hu := room64 hr
  have nd := sc_least_diversity.nd
  have tk : Takes (cxOf (L2.CX P w) P w K mg base N_least_diversity "least_diversity" (defScope (top 55)) f cdv A outer s H E) (fun cls d _ H' => E cls d H') := takes_of rfl rfl rfl rfl
  exact ⟨_, T_least_diversity p_check_both p_diversity_of, (dss_cons (ds_expr (de_call g_check_both hr tk (da_cons (dv 0) (da_cons (dv 1) da_nil)) (hk := by decide)))
    (dss_one (ds_ret (de_ix (de_call g_diversity_of hr tk (da_cons (dv 0) (da_cons (dv 1) (da_cons de_str da_nil))) (hk := by decide)) de_int)))), fun ds M Φ Ψ h => (run ds M Φ Ψ h).2⟩
/-! ## greatest_order -/
def N_greatest_order : List Str := ["likeness", "community"]
theorem sc_greatest_order : FnScope N_greatest_order ["likeness", "community"] (defScope (top 56)) := ⟨rfl, rfl, rfl, by decide +kernel, rfl, by decide +kernel, by decide +kernel⟩
def T_greatest_order (p_check_both : DSp) (p_diversity_of : DSp) : DTS :=
  (dSeq (dDrop (dCall p_check_both (dCons (dVar 0) (dCons (dVar 1) dNil))))
  (dRet (dOp dIx (dCall p_diversity_of (dCons (dVar 0) (dCons (dVar 1) (dCons (dC (.int 0)) dNil)))) (dC (.int 1)))))
theorem h_greatest_order (T : Txt P w K mg base c_InvalidNumber c_InvalidLikeness c_InvalidCommunity c_TooMany) {sp : DSp} {p_check_both : DSp} {p_diversity_of : DSp} (g_check_both : Has P w K mg base 8 "check_both" (top 37) ["likeness", "community"] p_check_both) (g_diversity_of : Has P w K mg base 8 "diversity_of" (top 46) ["likeness", "community", "q"] p_diversity_of)
    (run : ∀ ds M Φ Ψ, sp ds M Φ Ψ → ds.length = 2 ∧ T_greatest_order p_check_both p_diversity_of (fnEnds M.length Φ Ψ) (startR N_greatest_order ds) M) : Has P w K mg base (8 + 1) "greatest_order" (top 56) ["likeness", "community"] sp := by
  refine Def.has T.d_greatest_order sc_greatest_order (fun ds M Φ Ψ h => (run ds M Φ Ψ h).1) (fun f cdv A outer s H E hr => ?_)
  have hu := room64 hr
  have nd := sc_greatest_order.nd
  have tk : Takes (cxOf (L2.CX P w) P w K mg base N_greatest_order "greatest_order" (defScope (top 56)) f cdv A outer s H E) (fun cls d _ H' => E cls d H') := takes_of rfl rfl rfl rfl
  exact ⟨_, T_greatest_order p_check_both p_diversity_of, (dss_cons (ds_expr (de_call g_check_both hr tk (da_cons (dv 0) (da_cons (dv 1) da_nil)) (hk := by decide)))
    (dss_one (ds_ret (de_ix (de_call g_diversity_of hr tk (da_cons (dv 0) (da_cons (dv 1) (da_cons de_int da_nil))) (hk := by decide)) de_int)))), fun ds M Φ Ψ h => (run ds M Φ Ψ h).2⟩
/-! ## _law_cell -/
def N__law_cell : List Str := ["script", "k"]
theorem sc__law_cell : FnScope N__law_cell ["script", "k"] (defScope (top 58)) := ⟨rfl, rfl, rfl, by decide +kernel, rfl, by decide +kernel, by decide +kernel⟩
def T__law_cell : DTS :=
  (dRet (dIf (dB (dOp dLt (dVar 1) (dCB dLen (dCons (dVar 0) dNil)))) (dOp dIx (dVar 0) (dVar 1)) (dOp dAdd (dOp dMul (dC (.int 9157)) (dVar 1)) (dOp dMod (dCB dInt (dCons (dCB dSum (dCons (dSl (dVar 0) dNoPart (dPart (dC (.int 1)))) dNil)) dNil)) (dC (.int 1000199))))))
theorem h__law_cell (T : Txt P w K mg base c_InvalidNumber c_InvalidLikeness c_InvalidCommunity c_TooMany) {sp : DSp}
    (run : ∀ ds M Φ Ψ, sp ds M Φ Ψ → ds.length = 2 ∧ T__law_cell (fnEnds M.length Φ Ψ) (startR N__law_cell ds) M) : Has P w K mg base (0 + 1) "_law_cell" (top 58) ["script", "k"] sp := by
  refine Def.has T.d__law_cell sc__law_cell (fun ds M Φ Ψ h => (run ds M Φ Ψ h).1) (fun f cdv A outer s H E hr => ?_)
  have hu := room64 hr
  have nd := sc__law_cell.nd
  have tk : Takes (cxOf (L2.CX P w) P w K mg base N__law_cell "_law_cell" (defScope (top 58)) f cdv A outer s H E) (fun cls d _ H' => E cls d H') := takes_of rfl rfl rfl rfl
  exact ⟨_, T__law_cell, (dss_one (ds_ret (de_if (dt_cmp op_lt snd_lt (dv 1) (de_callB call_lenA snd_len T.b_len rfl (da_cons (dv 0) da_nil))) (de_ix (dv 0) (dv 1)) (de_op op_addA snd_add (de_op op_mulA snd_mul de_int (dv 1)) (de_op op_modN snd_mod (de_callTy call_int1 snd_toInt T.b_int rfl (da_cons (de_callB (cr_sum (by rfl)) snd_sum T.b_sum rfl (da_cons (de_slice (dv 0) do_none (do_some de_int)) da_nil)) da_nil)) de_int))))), fun ds M Φ Ψ h => (run ds M Φ Ψ h).2⟩
/-! ## _law_box -/
def N__law_box : List Str := ["great"]
theorem sc__law_box : FnScope N__law_box ["great"] (defScope (top 59)) := ⟨rfl, rfl, rfl, by decide +kernel, rfl, by decide +kernel, by decide +kernel⟩
def T__law_box : DTS :=
  (dRet (dLstM (dCons (dCB dAbs (dCons (dVar 0) dNil)) (dCons (dOp dGe (dCB dAbs (dCons (dVar 0) dNil)) (dOp dPow (dC (.int 10)) (dC (.int 18)))) (dCons (dOp dMod (dCB dInt (dCons (dCB dAbs (dCons (dVar 0) dNil)) dNil)) (dC (.int 2147483629))) (dCons (dC (.int 0)) dNil))))))
theorem h__law_box (T : Txt P w K mg base c_InvalidNumber c_InvalidLikeness c_InvalidCommunity c_TooMany) {sp : DSp}
    (run : ∀ ds M Φ Ψ, sp ds M Φ Ψ → ds.length = 1 ∧ T__law_box (fnEnds M.length Φ Ψ) (startR N__law_box ds) M) : Has P w K mg base (0 + 1) "_law_box" (top 59) ["great"] sp := by
  refine Def.has T.d__law_box sc__law_box (fun ds M Φ Ψ h => (run ds M Φ Ψ h).1) (fun f cdv A outer s H E hr => ?_)
  have hu := room64 hr
  have nd := sc__law_box.nd
  have tk : Takes (cxOf (L2.CX P w) P w K mg base N__law_box "_law_box" (defScope (top 59)) f cdv A outer s H E) (fun cls d _ H' => E cls d H') := takes_of rfl rfl rfl rfl
  exact ⟨_, T__law_box, (dss_one (ds_ret (de_lstM (da_cons (de_callB call_abs snd_abs T.b_abs rfl (da_cons (dv 0) da_nil)) (da_cons (de_cmp op_ge snd_ge (de_callB call_abs snd_abs T.b_abs rfl (da_cons (dv 0) da_nil)) (de_op op_pow snd_pow de_int de_int)) (da_cons (de_op op_modN snd_mod (de_callTy call_int1 snd_toInt T.b_int rfl (da_cons (de_callB call_abs snd_abs T.b_abs rfl (da_cons (dv 0) da_nil)) da_nil)) de_int) (da_cons de_int da_nil))))))), fun ds M Φ Ψ h => (run ds M Φ Ψ h).2⟩
/-! ## _law_take -/
def N__law_take : List Str := ["box", "many", "mixed", "digit"]
theorem sc__law_take : FnScope N__law_take ["box", "many"] (defScope (top 60)) := ⟨rfl, rfl, rfl, by decide +kernel, rfl, by decide +kernel, by decide +kernel⟩
def T__law_take : DTS :=
  (dSeq (dIfS (dAnd (dB (dOp dIx (dVar 0) (dC (.int 1)))) (dB (dOp dGt (dOp dIx (dVar 0) (dC (.int 0))) (dC (.int 0))))) (dSeq (dAsg (dOp dMod (dCB dInt (dCons (dOp dIx (dVar 0) (dC (.int 0))) dNil)) (dVar 1)) (dgName 3))
  (dSeq (dAsg (dOp dFdiv (dOp dIx (dVar 0) (dC (.int 0))) (dVar 1)) (dgSub (dVar 0) (dC (.int 0))))
  (dRet (dVar 3)))) dNext)
  (dSeq (dAsg (dOp dAdd (dOp dIx (dVar 0) (dC (.int 3))) (dC (.int 1))) (dgSub (dVar 0) (dC (.int 3))))
  (dSeq (dAsg (dOp dMod (dCB dInt (dCons (dOp dPow (dOp dAdd (dOp dAdd (dOp dIx (dVar 0) (dC (.int 2))) (dOp dMul (dC (.int 15487223)) (dOp dIx (dVar 0) (dC (.int 3))))) (dC (.int 179426281))) (dC (.int 5))) dNil)) (dC (.int 2147483647))) (dgName 2))
  (dRet (dOp dMod (dCB dInt (dCons (dOp dFdiv (dOp dMod (dCB dInt (dCons (dOp dPow (dOp dAdd (dOp dMul (dVar 2) (dC (.int 48271))) (dOp dMul (dC (.int 9181)) (dOp dIx (dVar 0) (dC (.int 3))))) (dC (.int 3))) dNil)) (dC (.int 2147483587))) (dC (.int 64))) dNil)) (dVar 1))))))
theorem h__law_take (T : Txt P w K mg base c_InvalidNumber c_InvalidLikeness c_InvalidCommunity c_TooMany) {sp : DSp}
    (run : ∀ ds M Φ Ψ, sp ds M Φ Ψ → ds.length = 2 ∧ T__law_take (fnEnds M.length Φ Ψ) (startR N__law_take ds) M) : Has P w K mg base (0 + 1) "_law_take" (top 60) ["box", "many"] sp := by
  refine Def.has T.d__law_take sc__law_take (fun ds M Φ Ψ h => (run ds M Φ Ψ h).1) (fun f cdv A outer s H E hr => ?_)
  have hu := room64 hr
  have nd := sc__law_take.nd
  have tk : Takes (cxOf (L2.CX P w) P w K mg base N__law_take "_law_take" (defScope (top 60)) f cdv A outer s H E) (fun cls d _ H' => E cls d H') := takes_of rfl rfl rfl rfl
  exact ⟨_, T__law_take, (dss_cons (ds_if (DW.dt (dw_and (dt_val (de_ix (dv 0) de_int)) (dw_and1 (dt_cmp op_gt snd_gt (de_ix (dv 0) de_int) de_int)))) (dss_cons (ds_set (i := 3) nd (de_op op_modN snd_mod (de_callTy call_int1 snd_toInt T.b_int rfl (da_cons (de_ix (dv 0) de_int) da_nil)) (dv 1)))
    (dss_cons (ds_asg (de_op op_fdivG snd_fdiv (de_ix (dv 0) de_int) (dv 1)) (dg_sub (dv 0) de_int))
    (dss_one (ds_ret (dv 3))))) dss_nil)
    (dss_cons (ds_asg (de_op op_addA snd_add (de_ix (dv 0) de_int) de_int) (dg_sub (dv 0) de_int))
    (dss_cons (ds_set (i := 2) nd (de_op op_modN snd_mod (de_callTy call_int1 snd_toInt T.b_int rfl (da_cons (de_op op_pow snd_pow (de_op op_addA snd_add (de_op op_addA snd_add (de_ix (dv 0) de_int) (de_op op_mulA snd_mul de_int (de_ix (dv 0) de_int))) de_int) de_int) da_nil)) de_int))
    (dss_one (ds_ret (de_op op_modN snd_mod (de_callTy call_int1 snd_toInt T.b_int rfl (da_cons (de_op op_fdivG snd_fdiv (de_op op_modN snd_mod (de_callTy call_int1 snd_toInt T.b_int rfl (da_cons (de_op op_pow snd_pow (de_op op_addA snd_add (de_op op_mulA snd_mul (dv 2) de_int) (de_op op_mulA snd_mul de_int (de_ix (dv 0) de_int))) de_int) da_nil)) de_int) de_int) da_nil)) (dv 1))))))), fun ds M Φ Ψ h => (run ds M Φ Ψ h).2⟩
/-! ## _law_pick -/
def N__law_pick : List Str := ["box", "items"]
theorem sc__law_pick : FnScope N__law_pick ["box", "items"] (defScope (top 61)) := ⟨rfl, rfl, rfl, by decide +kernel, rfl, by decide +kernel, by decide +kernel⟩
def T__law_pick (p__law_take : DSp) : DTS :=
  (dRet (dOp dIx (dVar 1) (dCall p__law_take (dCons (dVar 0) (dCons (dCB dLen (dCons (dVar 1) dNil)) dNil)))))
theorem h__law_pick (T : Txt P w K mg base c_InvalidNumber c_InvalidLikeness c_InvalidCommunity c_TooMany) {sp : DSp} {p__law_take : DSp} (g__law_take : Has P w K mg base 1 "_law_take" (top 60) ["box", "many"] p__law_take)
    (run : ∀ ds M Φ Ψ, sp ds M Φ Ψ → ds.length = 2 ∧ T__law_pick p__law_take (fnEnds M.length Φ Ψ) (startR N__law_pick ds) M) : Has P w K mg base (1 + 1) "_law_pick" (top 61) ["box", "items"] sp := by
  refine Def.has T.d__law_pick sc__law_pick (fun ds M Φ Ψ h => (run ds M Φ Ψ h).1) (fun f cdv A outer s H E hr => ?_)
  have hu := room64 hr
  have nd := sc__law_pick.nd
  have tk : Takes (cxOf (L2.CX P w) P w K mg base N__law_pick "_law_pick" (defScope (top 61)) f cdv A outer s H E) (fun cls d _ H' => E cls d H') := takes_of rfl rfl rfl rfl
  exact ⟨_, T__law_pick p__law_take, (dss_one (ds_ret (de_ix (dv 1) (de_call g__law_take hr tk (da_cons (dv 0) (da_cons (de_callB call_lenA snd_len T.b_len rfl (da_cons (dv 1) da_nil)) da_nil)) (hk := by decide))))), fun ds M Φ Ψ h => (run ds M Φ Ψ h).2⟩
/-! ## _law_same -/
def N__law_same : List Str := ["given", "due", "key", "k"]
theorem sc__law_same : FnScope N__law_same ["given", "due"] (defScope (top 62)) := ⟨rfl, rfl, rfl, by decide +kernel, rfl, by decide +kernel, by decide +kernel⟩
def T__law_same (p__law_same : DSp) : DTS :=
  (dSeq (dIfS (dOr (dB (dOp dIsN (dVar 1) (dC .non))) (dB (dIs1 "bool" (dVar 1)))) (dRet (dIf (dB (dOp dIsN (dVar 1) (dC .non))) (dOp dIsN (dVar 0) (dC .non)) (dAndV (dIs1 "bool" (dVar 0)) (dOp dEq (dOp dIsB (dVar 0) (dC (.bl true))) (dOp dIsB (dVar 1) (dC (.bl true))))))) dNext)
  (dSeq (dIfS (dB (dIs1 "int" (dVar 1))) (dRet (dAndV (dIs1 "int" (dVar 0)) (dAndV (dNotV (dIs1 "bool" (dVar 0))) (dOp dEq (dOp dSub (dCB dInt (dCons (dVar 0) dNil)) (dVar 1)) (dC (.int 0)))))) dNext)
  (dSeq (dIfS (dB (dIs1 "str" (dVar 1))) (dRet (dAndV (dIs1 "str" (dVar 0)) (dAndV (dOp dEq (dCB dLen (dCons (dVar 0) dNil)) (dCB dLen (dCons (dVar 1) dNil))) (dOp dEq (dLc (diRng1 (dCons (dCB dLen (dCons (dVar 1) dNil)) dNil)) (dgName 3) (dB (dOp dNe (dSl (dVar 0) (dPart (dVar 3)) (dPart (dOp dAdd (dVar 3) (dC (.int 1))))) (dOp dIx (dVar 1) (dVar 3)))) (dVar 3) [3]) (dLst dNil))))) dNext)
  (dSeq (dIfS (dB (dIs1 "dict" (dVar 1))) (dSeq (dIfS (dOr (dNot (dB (dIs1 "dict" (dVar 0)))) (dB (dOp dNe (dCB dLen (dCons (dVar 0) dNil)) (dCB dLen (dCons (dVar 1) dNil))))) (dRet (dC (.bl false))) dNext)
  (dRet (dOp dEq (dLc (diSeq (dVar 1)) (dgName 2) (dOr (dB (dOp (dInI true) (dVar 2) (dVar 0))) (dNot (dB (dCall p__law_same (dCons (dOp dIx (dVar 0) (dVar 2)) (dCons (dOp dIx (dVar 1) (dVar 2)) dNil)))))) (dVar 2) [2]) (dLst dNil)))) dNext)
  (dSeq (dIfS (dOr (dNot (dB (dIs2 "list" "tuple" (dVar 1)))) (dOr (dB (dOp dNe (dIs1 "list" (dVar 0)) (dIs1 "list" (dVar 1)))) (dB (dOp dNe (dIs1 "tuple" (dVar 0)) (dIs1 "tuple" (dVar 1)))))) (dRet (dC (.bl false))) dNext)
  (dRet (dAndV (dOp dEq (dCB dLen (dCons (dVar 0) dNil)) (dCB dLen (dCons (dVar 1) dNil))) (dOp dEq (dLc (diRng1 (dCons (dCB dLen (dCons (dVar 1) dNil)) dNil)) (dgName 3) (dNot (dB (dCall p__law_same (dCons (dOp dIx (dVar 0) (dVar 3)) (dCons (dOp dIx (dVar 1) (dVar 3)) dNil))))) (dVar 3) [3]) (dLst dNil)))))))))
theorem h__law_same {k : Nat} (T : Txt P w K mg base c_InvalidNumber c_InvalidLikeness c_InvalidCommunity c_TooMany) {sp : DSp} {p__law_same : DSp} (g__law_same : Has P w K mg base k "_law_same" (top 62) ["given", "due"] p__law_same)
    (run : ∀ ds M Φ Ψ, sp ds M Φ Ψ → ds.length = 2 ∧ T__law_same p__law_same (fnEnds M.length Φ Ψ) (startR N__law_same ds) M) : Has P w K mg base (k + 1) "_law_same" (top 62) ["given", "due"] sp := by
  refine Def.has T.d__law_same sc__law_same (fun ds M Φ Ψ h => (run ds M Φ Ψ h).1) (fun f cdv A outer s H E hr => ?_)
  have hu := room64 hr
  have nd := sc__law_same.nd
  have tk : Takes (cxOf (L2.CX P w) P w K mg base N__law_same "_law_same" (defScope (top 62)) f cdv A outer s H E) (fun cls d _ H' => E cls d H') := takes_of rfl rfl rfl rfl
  exact ⟨_, T__law_same p__law_same, (dss_cons (ds_if (DW.dt (dw_or (dt_cmp op_isN snd_isN (dv 1) de_non) (dw_or1 (dt_val (de_is1 T.b_isinstance rfl (dv 1) T.b_bool rfl))))) (dss_one (ds_ret (de_if (dt_cmp op_isN snd_isN (dv 1) de_non) (de_cmp op_isN snd_isN (dv 0) de_non) (de_and (de_is1 T.b_isinstance rfl (dv 0) T.b_bool rfl) (de_one (de_cmp (op_eqD hu) snd_eq (de_cmp op_isB snd_isB (dv 0) de_bl) (de_cmp op_isB snd_isB (dv 1) de_bl))))))) dss_nil)
    (dss_cons (ds_if (dt_val (de_is1 T.b_isinstance rfl (dv 1) T.b_int rfl)) (dss_one (ds_ret (de_and (de_is1 T.b_isinstance rfl (dv 0) T.b_int rfl) (de_and (de_not (de_is1 T.b_isinstance rfl (dv 0) T.b_bool rfl)) (de_one (de_cmp (op_eqD hu) snd_eq (de_op op_sub snd_sub (de_callTy call_int1 snd_toInt T.b_int rfl (da_cons (dv 0) da_nil)) (dv 1)) de_int)))))) dss_nil)
    (dss_cons (ds_if (dt_val (de_is1 T.b_isinstance rfl (dv 1) T.b_str rfl)) (dss_one (ds_ret (de_and (de_is1 T.b_isinstance rfl (dv 0) T.b_str rfl) (de_and (de_cmp (op_eqD hu) snd_eq (de_callB call_lenA snd_len T.b_len rfl (da_cons (dv 0) da_nil)) (de_callB call_lenA snd_len T.b_len rfl (da_cons (dv 1) da_nil))) (de_one (de_cmp (op_eqD hu) snd_eq (de_lc (own := [("k", 3)]) (by rfl) nd (di_rng1 T.b_range (da_cons (de_callB call_lenA snd_len T.b_len rfl (da_cons (dv 1) da_nil)) da_nil)) (blkOk_by (N := N__law_same) (sc := (defScope (top 62))) (own := [("k", 3)]) (by decide +kernel)) (fun _ _ _ _ _ => (dg_name (i := 3) nd)) (fun _ _ _ _ _ => (dts_one (dt_cmp (op_neD hu) snd_ne (de_slice (dv 0) (do_some (dv 3)) (do_some (de_op op_addA snd_add (dv 3) de_int))) (de_ix (dv 1) (dv 3))))) (fun _ _ _ _ _ => (dv 3))) (de_lst da_nil))))))) dss_nil)
    (dss_cons (ds_if (dt_val (de_is1 T.b_isinstance rfl (dv 1) T.b_dict rfl)) (dss_cons (ds_if (DW.dt (dw_or (dt_not (dt_val (de_is1 T.b_isinstance rfl (dv 0) T.b_dict rfl))) (dw_or1 (dt_cmp (op_neD hu) snd_ne (de_callB call_lenA snd_len T.b_len rfl (da_cons (dv 0) da_nil)) (de_callB call_lenA snd_len T.b_len rfl (da_cons (dv 1) da_nil)))))) (dss_one (ds_ret de_bl)) dss_nil)
    (dss_one (ds_ret (de_cmp (op_eqD hu) snd_eq (de_lc (own := [("key", 2)]) (by rfl) nd (di_seq (dv 1)) (blkOk_by (N := N__law_same) (sc := (defScope (top 62))) (own := [("key", 2)]) (by decide +kernel)) (fun _ _ _ _ _ => (dg_name (i := 2) nd)) (fun _ _ _ _ _ => (dts_one (DW.dt (dw_or (dt_cmp op_notIn_seq snd_inI (dv 2) (dv 0)) (dw_or1 (dt_not (dt_val (de_call g__law_same hr takes0 (da_cons (de_ix (dv 0) (dv 2)) (da_cons (de_ix (dv 1) (dv 2)) da_nil)) (hk := Nat.le_refl _))))))))) (fun _ _ _ _ _ => (dv 2))) (de_lst da_nil))))) dss_nil)
    (dss_cons (ds_if (DW.dt (dw_or (dt_not (dt_val (de_is2 T.b_isinstance rfl (dv 1) T.b_list rfl T.b_tuple rfl))) (dw_or (dt_cmp (op_neD hu) snd_ne (de_is1 T.b_isinstance rfl (dv 0) T.b_list rfl) (de_is1 T.b_isinstance rfl (dv 1) T.b_list rfl)) (dw_or1 (dt_cmp (op_neD hu) snd_ne (de_is1 T.b_isinstance rfl (dv 0) T.b_tuple rfl) (de_is1 T.b_isinstance rfl (dv 1) T.b_tuple rfl)))))) (dss_one (ds_ret de_bl)) dss_nil)
    (dss_one (ds_ret (de_and (de_cmp (op_eqD hu) snd_eq (de_callB call_lenA snd_len T.b_len rfl (da_cons (dv 0) da_nil)) (de_callB call_lenA snd_len T.b_len rfl (da_cons (dv 1) da_nil))) (de_one (de_cmp (op_eqD hu) snd_eq (de_lc (own := [("k", 3)]) (by rfl) nd (di_rng1 T.b_range (da_cons (de_callB call_lenA snd_len T.b_len rfl (da_cons (dv 1) da_nil)) da_nil)) (blkOk_by (N := N__law_same) (sc := (defScope (top 62))) (own := [("k", 3)]) (by decide +kernel)) (fun _ _ _ _ _ => (dg_name (i := 3) nd)) (fun _ _ _ _ _ => (dts_one (dt_not (dt_val (de_call g__law_same hr takes0 (da_cons (de_ix (dv 0) (dv 3)) (da_cons (de_ix (dv 1) (dv 3)) da_nil)) (hk := Nat.le_refl _)))))) (fun _ _ _ _ _ => (dv 3))) (de_lst da_nil))))))))))), fun ds M Φ Ψ h => (run ds M Φ Ψ h).2⟩
/-! ## _law_lowest -/
def N__law_lowest : List Str := ["n", "d", "a", "b"]
theorem sc__law_lowest : FnScope N__law_lowest ["n", "d"] (defScope (top 63)) := ⟨rfl, rfl, rfl, by decide +kernel, rfl, by decide +kernel, by decide +kernel⟩
def T__law_lowest : DTS :=
  (dSeq (dPar 2 3 (dCons (dCB dAbs (dCons (dVar 0) dNil)) (dCons (dCB dAbs (dCons (dVar 1) dNil)) dNil)))
  (dSeq (dWhile (dB (dOp dNe (dVar 3) (dC (.int 0)))) (dPar 2 3 (dCons (dVar 3) (dCons (dOp dMod (dVar 2) (dVar 3)) dNil))))
  (dRet (dIf (dB (dOp dGt (dVar 1) (dC (.int 0)))) (dTup (dCons (dOp dFdiv (dVar 0) (dVar 2)) (dCons (dOp dFdiv (dVar 1) (dVar 2)) dNil))) (dTup (dCons (dOp dFdiv (dUn dNeg (dVar 0)) (dVar 2)) (dCons (dOp dFdiv (dUn dNeg (dVar 1)) (dVar 2)) dNil)))))))
theorem h__law_lowest (T : Txt P w K mg base c_InvalidNumber c_InvalidLikeness c_InvalidCommunity c_TooMany) {sp : DSp}
    (run : ∀ ds M Φ Ψ, sp ds M Φ Ψ → ds.length = 2 ∧ T__law_lowest (fnEnds M.length Φ Ψ) (startR N__law_lowest ds) M) : Has P w K mg base (0 + 1) "_law_lowest" (top 63) ["n", "d"] sp := by
  refine Def.has T.d__law_lowest sc__law_lowest (fun ds M Φ Ψ h => (run ds M Φ Ψ h).1) (fun f cdv A outer s H E hr => ?_)
  have hu := room64 hr
  have nd := sc__law_lowest.nd
  have tk : Takes (cxOf (L2.CX P w) P w K mg base N__law_lowest "_law_lowest" (defScope (top 63)) f cdv A outer s H E) (fun cls d _ H' => E cls d H') := takes_of rfl rfl rfl rfl
  exact ⟨_, T__law_lowest, (dss_cons (ds_par (i := 2) (j := 3) (by rfl) nd (da_cons (de_callB call_abs snd_abs T.b_abs rfl (da_cons (dv 0) da_nil)) (da_cons (de_callB call_abs snd_abs T.b_abs rfl (da_cons (dv 1) da_nil)) da_nil)))
    (dss_cons (ds_while PassesOwn.leaving (dt_cmp (op_neD hu) snd_ne (dv 3) de_int) (dss_one (ds_par (i := 2) (j := 3) (by rfl) nd (da_cons (dv 3) (da_cons (de_op op_modN snd_mod (dv 2) (dv 3)) da_nil)))))
    (dss_one (ds_ret (de_if (dt_cmp op_gt snd_gt (dv 1) de_int) (de_tup (da_cons (de_op op_fdivG snd_fdiv (dv 0) (dv 2)) (da_cons (de_op op_fdivG snd_fdiv (dv 1) (dv 2)) da_nil))) (de_tup (da_cons (de_op op_fdivG snd_fdiv (de_un un_neg snd_neg (dv 0)) (dv 2)) (da_cons (de_op op_fdivG snd_fdiv (de_un un_neg snd_neg (dv 1)) (dv 2)) da_nil)))))))), fun ds M Φ Ψ h => (run ds M Φ Ψ h).2⟩
/-! ## _law_plus -/
def N__law_plus : List Str := ["x", "y"]
theorem sc__law_plus : FnScope N__law_plus ["x", "y"] (defScope (top 64)) := ⟨rfl, rfl, rfl, by decide +kernel, rfl, by decide +kernel, by decide +kernel⟩
def T__law_plus (p__law_lowest : DSp) : DTS :=
  (dRet (dCall p__law_lowest (dCons (dOp dAdd (dOp dMul (dOp dIx (dVar 0) (dC (.int 0))) (dOp dIx (dVar 1) (dC (.int 1)))) (dOp dMul (dOp dIx (dVar 1) (dC (.int 0))) (dOp dIx (dVar 0) (dC (.int 1))))) (dCons (dOp dMul (dOp dIx (dVar 0) (dC (.int 1))) (dOp dIx (dVar 1) (dC (.int 1)))) dNil))))
theorem h__law_plus (T : Txt P w K mg base c_InvalidNumber c_InvalidLikeness c_InvalidCommunity c_TooMany) {sp : DSp} {p__law_lowest : DSp} (g__law_lowest : Has P w K mg base 1 "_law_lowest" (top 63) ["n", "d"] p__law_lowest)
    (run : ∀ ds M Φ Ψ, sp ds M Φ Ψ → ds.length = 2 ∧ T__law_plus p__law_lowest (fnEnds M.length Φ Ψ) (startR N__law_plus ds) M) : Has P w K mg base (1 + 1) "_law_plus" (top 64) ["x", "y"] sp := by
  refine Def.has T.d__law_plus sc__law_plus (fun ds M Φ Ψ h => (run ds M Φ Ψ h).1) (fun f cdv A outer s H E hr => ?_)
  have hu := room64 hr
  have nd := sc__law_plus.nd
  have tk : Takes (cxOf (L2.CX P w) P w K mg base N__law_plus "_law_plus" (defScope (top 64)) f cdv A outer s H E) (fun cls d _ H' => E cls d H') := takes_of rfl rfl rfl rfl
  exact ⟨_, T__law_plus p__law_lowest, (dss_one (ds_ret (de_call g__law_lowest hr tk (da_cons (de_op op_addA snd_add (de_op op_mulA snd_mul (de_ix (dv 0) de_int) (de_ix (dv 1) de_int)) (de_op op_mulA snd_mul (de_ix (dv 1) de_int) (de_ix (dv 0) de_int))) (da_cons (de_op op_mulA snd_mul (de_ix (dv 0) de_int) (de_ix (dv 1) de_int)) da_nil)) (hk := by decide)))), fun ds M Φ Ψ h => (run ds M Φ Ψ h).2⟩
/-! ## _law_times -/
def N__law_times : List Str := ["x", "y"]
theorem sc__law_times : FnScope N__law_times ["x", "y"] (defScope (top 65)) := ⟨rfl, rfl, rfl, by decide +kernel, rfl, by decide +kernel, by decide +kernel⟩
def T__law_times (p__law_lowest : DSp) : DTS :=
  (dRet (dCall p__law_lowest (dCons (dOp dMul (dOp dIx (dVar 0) (dC (.int 0))) (dOp dIx (dVar 1) (dC (.int 0)))) (dCons (dOp dMul (dOp dIx (dVar 0) (dC (.int 1))) (dOp dIx (dVar 1) (dC (.int 1)))) dNil))))
theorem h__law_times (T : Txt P w K mg base c_InvalidNumber c_InvalidLikeness c_InvalidCommunity c_TooMany) {sp : DSp} {p__law_lowest : DSp} (g__law_lowest : Has P w K mg base 1 "_law_lowest" (top 63) ["n", "d"] p__law_lowest)
    (run : ∀ ds M Φ Ψ, sp ds M Φ Ψ → ds.length = 2 ∧ T__law_times p__law_lowest (fnEnds M.length Φ Ψ) (startR N__law_times ds) M) : Has P w K mg base (1 + 1) "_law_times" (top 65) ["x", "y"] sp := by
  refine Def.has T.d__law_times sc__law_times (fun ds M Φ Ψ h => (run ds M Φ Ψ h).1) (fun f cdv A outer s H E hr => ?_)
  have hu := room64 hr
  have nd := sc__law_times.nd
  have tk : Takes (cxOf (L2.CX P w) P w K mg base N__law_times "_law_times" (defScope (top 65)) f cdv A outer s H E) (fun cls d _ H' => E cls d H') := takes_of rfl rfl rfl rfl
  exact ⟨_, T__law_times p__law_lowest, (dss_one (ds_ret (de_call g__law_lowest hr tk (da_cons (de_op op_mulA snd_mul (de_ix (dv 0) de_int) (de_ix (dv 1) de_int)) (da_cons (de_op op_mulA snd_mul (de_ix (dv 0) de_int) (de_ix (dv 1) de_int)) da_nil)) (hk := by decide)))), fun ds M Φ Ψ h => (run ds M Φ Ψ h).2⟩
/-! ## _law_over -/
def N__law_over : List Str := ["x", "y"]
theorem sc__law_over : FnScope N__law_over ["x", "y"] (defScope (top 66)) := ⟨rfl, rfl, rfl, by decide +kernel, rfl, by decide +kernel, by decide +kernel⟩
def T__law_over (p__law_lowest : DSp) : DTS :=
  (dRet (dCall p__law_lowest (dCons (dOp dMul (dOp dIx (dVar 0) (dC (.int 0))) (dOp dIx (dVar 1) (dC (.int 1)))) (dCons (dOp dMul (dOp dIx (dVar 0) (dC (.int 1))) (dOp dIx (dVar 1) (dC (.int 0)))) dNil))))
theorem h__law_over (T : Txt P w K mg base c_InvalidNumber c_InvalidLikeness c_InvalidCommunity c_TooMany) {sp : DSp} {p__law_lowest : DSp} (g__law_lowest : Has P w K mg base 1 "_law_lowest" (top 63) ["n", "d"] p__law_lowest)
    (run : ∀ ds M Φ Ψ, sp ds M Φ Ψ → ds.length = 2 ∧ T__law_over p__law_lowest (fnEnds M.length Φ Ψ) (startR N__law_over ds) M) : Has P w K mg base (1 + 1) "_law_over" (top 66) ["x", "y"] sp := by
  refine Def.has T.d__law_over sc__law_over (fun ds M Φ Ψ h => (run ds M Φ Ψ h).1) (fun f cdv A outer s H E hr => ?_)
  have hu := room64 hr
  have nd := sc__law_over.nd
  have tk : Takes (cxOf (L2.CX P w) P w K mg base N__law_over "_law_over" (defScope (top 66)) f cdv A outer s H E) (fun cls d _ H' => E cls d H') := takes_of rfl rfl rfl rfl
  exact ⟨_, T__law_over p__law_lowest, (dss_one (ds_ret (de_call g__law_lowest hr tk (da_cons (de_op op_mulA snd_mul (de_ix (dv 0) de_int) (de_ix (dv 1) de_int)) (da_cons (de_op op_mulA snd_mul (de_ix (dv 0) de_int) (de_ix (dv 1) de_int)) da_nil)) (hk := by decide)))), fun ds M Φ Ψ h => (run ds M Φ Ψ h).2⟩
/-! ## _law_below -/
def N__law_below : List Str := ["x", "y"]
theorem sc__law_below : FnScope N__law_below ["x", "y"] (defScope (top 67)) := ⟨rfl, rfl, rfl, by decide +kernel, rfl, by decide +kernel, by decide +kernel⟩
def T__law_below : DTS :=
  (dRet (dOp dLt (dOp dMul (dOp dIx (dVar 0) (dC (.int 0))) (dOp dIx (dVar 1) (dC (.int 1)))) (dOp dMul (dOp dIx (dVar 1) (dC (.int 0))) (dOp dIx (dVar 0) (dC (.int 1))))))
theorem h__law_below (T : Txt P w K mg base c_InvalidNumber c_InvalidLikeness c_InvalidCommunity c_TooMany) {sp : DSp}
    (run : ∀ ds M Φ Ψ, sp ds M Φ Ψ → ds.length = 2 ∧ T__law_below (fnEnds M.length Φ Ψ) (startR N__law_below ds) M) : Has P w K mg base (0 + 1) "_law_below" (top 67) ["x", "y"] sp := by
  refine Def.has T.d__law_below sc__law_below (fun ds M Φ Ψ h => (run ds M Φ Ψ h).1) (fun f cdv A outer s H E hr => ?_)
  have hu := room64 hr
  have nd := sc__law_below.nd
  have tk : Takes (cxOf (L2.CX P w) P w K mg base N__law_below "_law_below" (defScope (top 67)) f cdv A outer s H E) (fun cls d _ H' => E cls d H') := takes_of rfl rfl rfl rfl
  exact ⟨_, T__law_below, (dss_one (ds_ret (de_cmp op_lt snd_lt (de_op op_mulA snd_mul (de_ix (dv 0) de_int) (de_ix (dv 1) de_int)) (de_op op_mulA snd_mul (de_ix (dv 1) de_int) (de_ix (dv 0) de_int))))), fun ds M Φ Ψ h => (run ds M Φ Ψ h).2⟩
/-! ## _law_total -/
def N__law_total : List Str := ["items", "found", "item"]
theorem sc__law_total : FnScope N__law_total ["items"] (defScope (top 68)) := ⟨rfl, rfl, rfl, by decide +kernel, rfl, by decide +kernel, by decide +kernel⟩
def T__law_total (p__law_plus : DSp) : DTS :=
  (dSeq (dAsg (dTup (dCons (dC (.int 0)) (dCons (dC (.int 1)) dNil))) (dgName 1))
  (dSeq (dFor (diSeq (dVar 0)) (dgName 2) (dAsg (dCall p__law_plus (dCons (dVar 1) (dCons (dVar 2) dNil))) (dgName 1)))
  (dRet (dVar 1))))
theorem h__law_total (T : Txt P w K mg base c_InvalidNumber c_InvalidLikeness c_InvalidCommunity c_TooMany) {sp : DSp} {p__law_plus : DSp} (g__law_plus : Has P w K mg base 2 "_law_plus" (top 64) ["x", "y"] p__law_plus)
    (run : ∀ ds M Φ Ψ, sp ds M Φ Ψ → ds.length = 1 ∧ T__law_total p__law_plus (fnEnds M.length Φ Ψ) (startR N__law_total ds) M) : Has P w K mg base (2 + 1) "_law_total" (top 68) ["items"] sp := by
  refine Def.has T.d__law_total sc__law_total (fun ds M Φ Ψ h => (run ds M Φ Ψ h).1) (fun f cdv A outer s H E hr => ?_)
  have hu := room64 hr
  have nd := sc__law_total.nd
  have tk : Takes (cxOf (L2.CX P w) P w K mg base N__law_total "_law_total" (defScope (top 68)) f cdv A outer s H E) (fun cls d _ H' => E cls d H') := takes_of rfl rfl rfl rfl
  exact ⟨_, T__law_total p__law_plus, (dss_cons (ds_set (i := 1) nd (de_tup (da_cons de_int (da_cons de_int da_nil))))
    (dss_cons (ds_for PassesOwn.leaving (by rfl) (di_seq (dv 0)) (dg_name (i := 2) nd) (dss_one (ds_set (i := 1) nd (de_call g__law_plus hr tk (da_cons (dv 1) (da_cons (dv 2) da_nil)) (hk := by decide)))))
    (dss_one (ds_ret (dv 1))))), fun ds M Φ Ψ h => (run ds M Φ Ψ h).2⟩
/-! ## _law_dot -/
def N__law_dot : List Str := ["one", "other", "k"]
theorem sc__law_dot : FnScope N__law_dot ["one", "other"] (defScope (top 69)) := ⟨rfl, rfl, rfl, by decide +kernel, rfl, by decide +kernel, by decide +kernel⟩
def T__law_dot (p__law_total : DSp) (p__law_times : DSp) : DTS :=
  (dRet (dCall p__law_total (dCons (dLc (diRng1 (dCons (dCB dLen (dCons (dVar 0) dNil)) dNil)) (dgName 2) dYes (dCall p__law_times (dCons (dOp dIx (dVar 0) (dVar 2)) (dCons (dOp dIx (dVar 1) (dVar 2)) dNil))) [2]) dNil)))
theorem h__law_dot (T : Txt P w K mg base c_InvalidNumber c_InvalidLikeness c_InvalidCommunity c_TooMany) {sp : DSp} {p__law_total : DSp} {p__law_times : DSp} (g__law_total : Has P w K mg base 3 "_law_total" (top 68) ["items"] p__law_total) (g__law_times : Has P w K mg base 2 "_law_times" (top 65) ["x", "y"] p__law_times)
    (run : ∀ ds M Φ Ψ, sp ds M Φ Ψ → ds.length = 2 ∧ T__law_dot p__law_total p__law_times (fnEnds M.length Φ Ψ) (startR N__law_dot ds) M) : Has P w K mg base (3 + 1) "_law_dot" (top 69) ["one", "other"] sp := by
  refine Def.has T.d__law_dot sc__law_dot (fun ds M Φ Ψ h => (run ds M Φ Ψ h).1) (fun f cdv A outer s H E hr => ?_)
  have hu := room64 hr
  have nd := sc__law_dot.nd
  have tk : Takes (cxOf (L2.CX P w) P w K mg base N__law_dot "_law_dot" (defScope (top 69)) f cdv A outer s H E) (fun cls d _ H' => E cls d H') := takes_of rfl rfl rfl rfl
  exact ⟨_, T__law_dot p__law_total p__law_times, (dss_one (ds_ret (de_call g__law_total hr tk (da_cons (de_lc (own := [("k", 2)]) (by rfl) nd (di_rng1 T.b_range (da_cons (de_callB call_lenA snd_len T.b_len rfl (da_cons (dv 0) da_nil)) da_nil)) (blkOk_by (N := N__law_dot) (sc := (defScope (top 69))) (own := [("k", 2)]) (by decide +kernel)) (fun _ _ _ _ _ => (dg_name (i := 2) nd)) (fun _ _ _ _ _ => dts_nil) (fun _ _ _ _ _ => (de_call g__law_times hr takes0 (da_cons (de_ix (dv 0) (dv 2)) (da_cons (de_ix (dv 1) (dv 2)) da_nil)) (hk := by decide)))) da_nil) (hk := by decide)))), fun ds M Φ Ψ h => (run ds M Φ Ψ h).2⟩
/-! ## _law_apply -/
def N__law_apply : List Str := ["table", "row", "own"]
theorem sc__law_apply : FnScope N__law_apply ["table", "row"] (defScope (top 70)) := ⟨rfl, rfl, rfl, by decide +kernel, rfl, by decide +kernel, by decide +kernel⟩
def T__law_apply (p__law_dot : DSp) : DTS :=
  (dRet (dCB dTupOf (dCons (dLc (diSeq (dVar 0)) (dgName 2) dYes (dCall p__law_dot (dCons (dVar 2) (dCons (dVar 1) dNil))) [2]) dNil)))
theorem h__law_apply (T : Txt P w K mg base c_InvalidNumber c_InvalidLikeness c_InvalidCommunity c_TooMany) {sp : DSp} {p__law_dot : DSp} (g__law_dot : Has P w K mg base 4 "_law_dot" (top 69) ["one", "other"] p__law_dot)
    (run : ∀ ds M Φ Ψ, sp ds M Φ Ψ → ds.length = 2 ∧ T__law_apply p__law_dot (fnEnds M.length Φ Ψ) (startR N__law_apply ds) M) : Has P w K mg base (4 + 1) "_law_apply" (top 70) ["table", "row"] sp := by
  refine Def.has T.d__law_apply sc__law_apply (fun ds M Φ Ψ h => (run ds M Φ Ψ h).1) (fun f cdv A outer s H E hr => ?_)
  have hu := room64 hr
  have nd := sc__law_apply.nd
  have tk : Takes (cxOf (L2.CX P w) P w K mg base N__law_apply "_law_apply" (defScope (top 70)) f cdv A outer s H E) (fun cls d _ H' => E cls d H') := takes_of rfl rfl rfl rfl
  exact ⟨_, T__law_apply p__law_dot, (dss_one (ds_ret (de_callTy call_tuple_of snd_tupOf T.b_tuple rfl (da_cons (de_lc (own := [("own", 2)]) (by rfl) nd (di_seq (dv 0)) (blkOk_by (N := N__law_apply) (sc := (defScope (top 70))) (own := [("own", 2)]) (by decide +kernel)) (fun _ _ _ _ _ => (dg_name (i := 2) nd)) (fun _ _ _ _ _ => dts_nil) (fun _ _ _ _ _ => (de_call g__law_dot hr takes0 (da_cons (dv 2) (da_cons (dv 1) da_nil)) (hk := by decide)))) da_nil)))), fun ds M Φ Ψ h => (run ds M Φ Ψ h).2⟩
/-! ## _law_gcd -/
def N__law_gcd : List Str := ["items", "found", "item", "a", "b"]
theorem sc__law_gcd : FnScope N__law_gcd ["items"] (defScope (top 71)) := ⟨rfl, rfl, rfl, by decide +kernel, rfl, by decide +kernel, by decide +kernel⟩
def T__law_gcd : DTS :=
  (dSeq (dAsg (dC (.int 0)) (dgName 1))
  (dSeq (dFor (diSeq (dVar 0)) (dgName 2) (dSeq (dPar 3 4 (dCons (dCB dAbs (dCons (dVar 2) dNil)) (dCons (dVar 1) dNil)))
  (dSeq (dWhile (dB (dOp dNe (dVar 4) (dC (.int 0)))) (dPar 3 4 (dCons (dVar 4) (dCons (dOp dMod (dVar 3) (dVar 4)) dNil))))
  (dAsg (dVar 3) (dgName 1)))))
  (dRet (dVar 1))))
theorem h__law_gcd (T : Txt P w K mg base c_InvalidNumber c_InvalidLikeness c_InvalidCommunity c_TooMany) {sp : DSp}
    (run : ∀ ds M Φ Ψ, sp ds M Φ Ψ → ds.length = 1 ∧ T__law_gcd (fnEnds M.length Φ Ψ) (startR N__law_gcd ds) M) : Has P w K mg base (0 + 1) "_law_gcd" (top 71) ["items"] sp := by
  refine Def.has T.d__law_gcd sc__law_gcd (fun ds M Φ Ψ h => (run ds M Φ Ψ h).1) (fun f cdv A outer s H E hr => ?_)
  have hu := room64 hr
  have nd := sc__law_gcd.nd
  have tk : Takes (cxOf (L2.CX P w) P w K mg base N__law_gcd "_law_gcd" (defScope (top 71)) f cdv A outer s H E) (fun cls d _ H' => E cls d H') := takes_of rfl rfl rfl rfl
  exact ⟨_, T__law_gcd, (dss_cons (ds_set (i := 1) nd de_int)
    (dss_cons (ds_for PassesOwn.leaving (by rfl) (di_seq (dv 0)) (dg_name (i := 2) nd) (dss_cons (ds_par (i := 3) (j := 4) (by rfl) nd (da_cons (de_callB call_abs snd_abs T.b_abs rfl (da_cons (dv 2) da_nil)) (da_cons (dv 1) da_nil)))
    (dss_cons (ds_while PassesOwn.leaving (dt_cmp (op_neD hu) snd_ne (dv 4) de_int) (dss_one (ds_par (i := 3) (j := 4) (by rfl) nd (da_cons (dv 4) (da_cons (de_op op_modN snd_mod (dv 3) (dv 4)) da_nil)))))
    (dss_one (ds_set (i := 1) nd (dv 3))))))
    (dss_one (ds_ret (dv 1))))), fun ds M Φ Ψ h => (run ds M Φ Ψ h).2⟩
/-! ## _law_likeness -/
def N__law_likeness : List Str := ["box", "n", "rows", "same", "table", "order", "i", "j", "a", "k", "b"]
theorem sc__law_likeness : FnScope N__law_likeness ["box", "n"] (defScope (top 72)) := ⟨rfl, rfl, rfl, by decide +kernel, rfl, by decide +kernel, by decide +kernel⟩
def T__law_likeness (p__law_pick : DSp) (p__law_take : DSp) : DTS :=
  (dSeq (dAsg (dLc (diRng1 (dCons (dVar 1) dNil)) (dgName 6) dYes (dLc (diRng1 (dCons (dVar 1) dNil)) (dgName 7) dYes (dIf (dB (dOp dEq (dVar 6) (dVar 7))) (dTup (dCons (dC (.int 1)) (dCons (dC (.int 1)) dNil))) (dCall p__law_pick (dCons (dVar 0) (dCons (dLst (dCons (dTup (dCons (dC (.int 0)) (dCons (dC (.int 1)) dNil))) (dCons (dTup (dCons (dC (.int 1)) (dCons (dC (.int 2)) dNil))) (dCons (dTup (dCons (dC (.int 1)) (dCons (dC (.int 3)) dNil))) (dCons (dTup (dCons (dC (.int 2)) (dCons (dC (.int 3)) dNil))) (dCons (dTup (dCons (dC (.int 0)) (dCons (dC (.int 1)) dNil))) (dCons (dTup (dCons (dC (.int 1)) (dCons (dC (.int 4)) dNil))) (dCons (dTup (dCons (dC (.int 1)) (dCons (dC (.int 1)) dNil))) dNil)))))))) dNil)))) [7]) [6]) (dgName 2))
  (dSeq (dAsg (dTup (dCons (dCall p__law_take (dCons (dVar 0) (dCons (dVar 1) dNil))) (dCons (dCall p__law_take (dCons (dVar 0) (dCons (dVar 1) dNil))) dNil))) (dgTup (dgCons (dgName 6) (dgCons (dgName 7) dgNil))))
  (dSeq (dAsg (dOp dEq (dCall p__law_take (dCons (dVar 0) (dCons (dC (.int 4)) dNil))) (dC (.int 0))) (dgName 3))
  (dSeq (dAsg (dLc (diRng1 (dCons (dVar 1) dNil)) (dgName 8) dYes (dLc (diRng1 (dCons (dVar 1) dNil)) (dgName 10) dYes (dOp dIx (dOp dIx (dVar 2) (dCB dMin2 (dCons (dVar 8) (dCons (dVar 10) dNil)))) (dCB dMax2 (dCons (dVar 8) (dCons (dVar 10) dNil)))) [10]) [8]) (dgName 4))
  (dSeq (dAsg (dLc (diRng1 (dCons (dVar 1) dNil)) (dgName 9) dYes (dIf (dAnd (dB (dVar 3)) (dB (dOp dEq (dVar 9) (dVar 7)))) (dVar 6) (dVar 9)) [9]) (dgName 5))
  (dRet (dCB dTupOf (dCons (dLc (diRng1 (dCons (dVar 1) dNil)) (dgName 8) dYes (dCB dTupOf (dCons (dLc (diRng1 (dCons (dVar 1) dNil)) (dgName 10) dYes (dIf (dOr (dB (dOp dEq (dVar 8) (dVar 10))) (dB (dOp dEq (dOp dIx (dVar 5) (dVar 8)) (dOp dIx (dVar 5) (dVar 10))))) (dTup (dCons (dC (.int 1)) (dCons (dC (.int 1)) dNil))) (dOp dIx (dOp dIx (dVar 4) (dOp dIx (dVar 5) (dVar 8))) (dOp dIx (dVar 5) (dVar 10)))) [10]) dNil)) [8]) dNil))))))))
theorem h__law_likeness (T : Txt P w K mg base c_InvalidNumber c_InvalidLikeness c_InvalidCommunity c_TooMany) {sp : DSp} {p__law_pick : DSp} {p__law_take : DSp} (g__law_pick : Has P w K mg base 2 "_law_pick" (top 61) ["box", "items"] p__law_pick) (g__law_take : Has P w K mg base 1 "_law_take" (top 60) ["box", "many"] p__law_take)
    (run : ∀ ds M Φ Ψ, sp ds M Φ Ψ → ds.length = 2 ∧ T__law_likeness p__law_pick p__law_take (fnEnds M.length Φ Ψ) (startR N__law_likeness ds) M) : Has P w K mg base (2 + 1) "_law_likeness" (top 72) ["box", "n"] sp := by
  refine Def.has T.d__law_likeness sc__law_likeness (fun ds M Φ Ψ h => (run ds M Φ Ψ h).1) (fun f cdv A outer s H E hr => ?_)
  have hu := room64 hr
  have nd := sc__law_likeness.nd
  have tk : Takes (cxOf (L2.CX P w) P w K mg base N__law_likeness "_law_likeness" (defScope (top 72)) f cdv A outer s H E) (fun cls d _ H' => E cls d H') := takes_of rfl rfl rfl rfl
  exact ⟨_, T__law_likeness p__law_pick p__law_take, (dss_cons (ds_set (i := 2) nd (de_lc (own := [("i", 6)]) (by rfl) nd (di_rng1 T.b_range (da_cons (dv 1) da_nil)) (blkOk_by (N := N__law_likeness) (sc := (defScope (top 72))) (own := [("i", 6)]) (by decide +kernel)) (fun _ _ _ _ _ => (dg_name (i := 6) nd)) (fun _ _ _ _ _ => dts_nil) (fun _ _ _ _ _ => (de_lc (own := [("j", 7)]) (by rfl) nd (di_rng1 T.b_range (da_cons (dv 1) da_nil)) (blkOk_by (N := N__law_likeness) (sc := (relS _ (defScope (top 72)))) (own := [("j", 7)]) (by decide +kernel)) (fun _ _ _ _ _ => (dg_name (i := 7) nd)) (fun _ _ _ _ _ => dts_nil) (fun _ _ _ _ _ => (de_if (dt_cmp (op_eqD hu) snd_eq (dv 6) (dv 7)) (de_tup (da_cons de_int (da_cons de_int da_nil))) (de_call g__law_pick hr takes0 (da_cons (dv 0) (da_cons (de_lst (da_cons (de_tup (da_cons de_int (da_cons de_int da_nil))) (da_cons (de_tup (da_cons de_int (da_cons de_int da_nil))) (da_cons (de_tup (da_cons de_int (da_cons de_int da_nil))) (da_cons (de_tup (da_cons de_int (da_cons de_int da_nil))) (da_cons (de_tup (da_cons de_int (da_cons de_int da_nil))) (da_cons (de_tup (da_cons de_int (da_cons de_int da_nil))) (da_cons (de_tup (da_cons de_int (da_cons de_int da_nil))) da_nil)))))))) da_nil)) (hk := by decide))))))))
    (dss_cons (ds_asg (de_tup (da_cons (de_call g__law_take hr tk (da_cons (dv 0) (da_cons (dv 1) da_nil)) (hk := by decide)) (da_cons (de_call g__law_take hr tk (da_cons (dv 0) (da_cons (dv 1) da_nil)) (hk := by decide)) da_nil))) (dg_two (by rfl) (dg_name (i := 6) nd) (dg_name (i := 7) nd)))
    (dss_cons (ds_set (i := 3) nd (de_cmp (op_eqD hu) snd_eq (de_call g__law_take hr tk (da_cons (dv 0) (da_cons de_int da_nil)) (hk := by decide)) de_int))
    (dss_cons (ds_set (i := 4) nd (de_lc (own := [("a", 8)]) (by rfl) nd (di_rng1 T.b_range (da_cons (dv 1) da_nil)) (blkOk_by (N := N__law_likeness) (sc := (defScope (top 72))) (own := [("a", 8)]) (by decide +kernel)) (fun _ _ _ _ _ => (dg_name (i := 8) nd)) (fun _ _ _ _ _ => dts_nil) (fun _ _ _ _ _ => (de_lc (own := [("b", 10)]) (by rfl) nd (di_rng1 T.b_range (da_cons (dv 1) da_nil)) (blkOk_by (N := N__law_likeness) (sc := (relS _ (defScope (top 72)))) (own := [("b", 10)]) (by decide +kernel)) (fun _ _ _ _ _ => (dg_name (i := 10) nd)) (fun _ _ _ _ _ => dts_nil) (fun _ _ _ _ _ => (de_ix (de_ix (dv 2) (de_callB (call_min2 (by rfl)) snd_min2 T.b_min rfl (da_cons (dv 8) (da_cons (dv 10) da_nil)))) (de_callB (call_max2 (by rfl)) snd_max2 T.b_max rfl (da_cons (dv 8) (da_cons (dv 10) da_nil)))))))))
    (dss_cons (ds_set (i := 5) nd (de_lc (own := [("k", 9)]) (by rfl) nd (di_rng1 T.b_range (da_cons (dv 1) da_nil)) (blkOk_by (N := N__law_likeness) (sc := (defScope (top 72))) (own := [("k", 9)]) (by decide +kernel)) (fun _ _ _ _ _ => (dg_name (i := 9) nd)) (fun _ _ _ _ _ => dts_nil) (fun _ _ _ _ _ => (de_if (DW.dt (dw_and (dt_val (dv 3)) (dw_and1 (dt_cmp (op_eqD hu) snd_eq (dv 9) (dv 7))))) (dv 6) (dv 9)))))
    (dss_one (ds_ret (de_callTy call_tuple_of snd_tupOf T.b_tuple rfl (da_cons (de_lc (own := [("a", 8)]) (by rfl) nd (di_rng1 T.b_range (da_cons (dv 1) da_nil)) (blkOk_by (N := N__law_likeness) (sc := (defScope (top 72))) (own := [("a", 8)]) (by decide +kernel)) (fun _ _ _ _ _ => (dg_name (i := 8) nd)) (fun _ _ _ _ _ => dts_nil) (fun _ _ _ _ _ => (de_callTy call_tuple_of snd_tupOf T.b_tuple rfl (da_cons (de_lc (own := [("b", 10)]) (by rfl) nd (di_rng1 T.b_range (da_cons (dv 1) da_nil)) (blkOk_by (N := N__law_likeness) (sc := (relS _ (defScope (top 72)))) (own := [("b", 10)]) (by decide +kernel)) (fun _ _ _ _ _ => (dg_name (i := 10) nd)) (fun _ _ _ _ _ => dts_nil) (fun _ _ _ _ _ => (de_if (DW.dt (dw_or (dt_cmp (op_eqD hu) snd_eq (dv 8) (dv 10)) (dw_or1 (dt_cmp (op_eqD hu) snd_eq (de_ix (dv 5) (dv 8)) (de_ix (dv 5) (dv 10)))))) (de_tup (da_cons de_int (da_cons de_int da_nil))) (de_ix (de_ix (dv 4) (de_ix (dv 5) (dv 8))) (de_ix (dv 5) (dv 10)))))) da_nil)))) da_nil))))))))), fun ds M Φ Ψ h => (run ds M Φ Ψ h).2⟩
/-! ## _law_community -/
def N__law_community : List Str := ["box", "n", "counts", "k", "count"]
theorem sc__law_community : FnScope N__law_community ["box", "n"] (defScope (top 73)) := ⟨rfl, rfl, rfl, by decide +kernel, rfl, by decide +kernel, by decide +kernel⟩
def T__law_community (p__law_pick : DSp) (p__law_lowest : DSp) : DTS :=
  (dSeq (dAsg (dLc (diRng1 (dCons (dVar 1) dNil)) (dgName 3) dYes (dCall p__law_pick (dCons (dVar 0) (dCons (dLst (dCons (dC (.int 0)) (dCons (dC (.int 1)) (dCons (dC (.int 1)) (dCons (dC (.int 2)) (dCons (dC (.int 3)) dNil)))))) dNil))) [3]) (dgName 2))
  (dSeq (dAsg (dIf (dB (dOp dGt (dCB dSum (dCons (dVar 2) dNil)) (dC (.int 0)))) (dVar 2) (dOp dMul (dLst (dCons (dC (.int 1)) dNil)) (dVar 1))) (dgName 2))
  (dRet (dCB dTupOf (dCons (dLc (diSeq (dVar 2)) (dgName 4) dYes (dCall p__law_lowest (dCons (dVar 4) (dCons (dCB dSum (dCons (dVar 2) dNil)) dNil))) [4]) dNil)))))
theorem h__law_community (T : Txt P w K mg base c_InvalidNumber c_InvalidLikeness c_InvalidCommunity c_TooMany) {sp : DSp} {p__law_pick : DSp} {p__law_lowest : DSp} (g__law_pick : Has P w K mg base 2 "_law_pick" (top 61) ["box", "items"] p__law_pick) (g__law_lowest : Has P w K mg base 1 "_law_lowest" (top 63) ["n", "d"] p__law_lowest)
    (run : ∀ ds M Φ Ψ, sp ds M Φ Ψ → ds.length = 2 ∧ T__law_community p__law_pick p__law_lowest (fnEnds M.length Φ Ψ) (startR N__law_community ds) M) : Has P w K mg base (2 + 1) "_law_community" (top 73) ["box", "n"] sp := by
  refine Def.has T.d__law_community sc__law_community (fun ds M Φ Ψ h => (run ds M Φ Ψ h).1) (fun f cdv A outer s H E hr => ?_)
  have hu := room64 hr
  have nd := sc__law_community.nd
  have tk : Takes (cxOf (L2.CX P w) P w K mg base N__law_community "_law_community" (defScope (top 73)) f cdv A outer s H E) (fun cls d _ H' => E cls d H') := takes_of rfl rfl rfl rfl
  exact ⟨_, T__law_community p__law_pick p__law_lowest, (dss_cons (ds_set (i := 2) nd (de_lc (own := [("k", 3)]) (by rfl) nd (di_rng1 T.b_range (da_cons (dv 1) da_nil)) (blkOk_by (N := N__law_community) (sc := (defScope (top 73))) (own := [("k", 3)]) (by decide +kernel)) (fun _ _ _ _ _ => (dg_name (i := 3) nd)) (fun _ _ _ _ _ => dts_nil) (fun _ _ _ _ _ => (de_call g__law_pick hr takes0 (da_cons (dv 0) (da_cons (de_lst (da_cons de_int (da_cons de_int (da_cons de_int (da_cons de_int (da_cons de_int da_nil)))))) da_nil)) (hk := by decide)))))
    (dss_cons (ds_set (i := 2) nd (de_if (dt_cmp op_gt snd_gt (de_callB (cr_sum (by rfl)) snd_sum T.b_sum rfl (da_cons (dv 2) da_nil)) de_int) (dv 2) (de_op op_mulA snd_mul (de_lst (da_cons de_int da_nil)) (dv 1))))
    (dss_one (ds_ret (de_callTy call_tuple_of snd_tupOf T.b_tuple rfl (da_cons (de_lc (own := [("count", 4)]) (by rfl) nd (di_seq (dv 2)) (blkOk_by (N := N__law_community) (sc := (defScope (top 73))) (own := [("count", 4)]) (by decide +kernel)) (fun _ _ _ _ _ => (dg_name (i := 4) nd)) (fun _ _ _ _ _ => dts_nil) (fun _ _ _ _ _ => (de_call g__law_lowest hr takes0 (da_cons (dv 4) (da_cons (de_callB (cr_sum (by rfl)) snd_sum T.b_sum rfl (da_cons (dv 2) da_nil)) da_nil)) (hk := by decide)))) da_nil)))))), fun ds M Φ Ψ h => (run ds M Φ Ψ h).2⟩
/-! ## _law_raised -/
def N__law_raised : List Str := ["x", "many", "turn", "top", "bottom"]
theorem sc__law_raised : FnScope N__law_raised ["x", "many"] (defScope (top 74)) := ⟨rfl, rfl, rfl, by decide +kernel, rfl, by decide +kernel, by decide +kernel⟩
def T__law_raised : DTS :=
  (dSeq (dAsg (dTup (dCons (dC (.int 1)) (dCons (dC (.int 1)) dNil))) (dgTup (dgCons (dgName 3) (dgCons (dgName 4) dgNil))))
  (dSeq (dFor (diRng1 (dCons (dVar 1) dNil)) (dgName 2) (dPar 3 4 (dCons (dOp dMul (dVar 3) (dOp dIx (dVar 0) (dC (.int 0)))) (dCons (dOp dMul (dVar 4) (dOp dIx (dVar 0) (dC (.int 1)))) dNil))))
  (dRet (dTup (dCons (dVar 3) (dCons (dVar 4) dNil))))))
theorem h__law_raised (T : Txt P w K mg base c_InvalidNumber c_InvalidLikeness c_InvalidCommunity c_TooMany) {sp : DSp}
    (run : ∀ ds M Φ Ψ, sp ds M Φ Ψ → ds.length = 2 ∧ T__law_raised (fnEnds M.length Φ Ψ) (startR N__law_raised ds) M) : Has P w K mg base (0 + 1) "_law_raised" (top 74) ["x", "many"] sp := by
  refine Def.has T.d__law_raised sc__law_raised (fun ds M Φ Ψ h => (run ds M Φ Ψ h).1) (fun f cdv A outer s H E hr => ?_)
  have hu := room64 hr
  have nd := sc__law_raised.nd
  have tk : Takes (cxOf (L2.CX P w) P w K mg base N__law_raised "_law_raised" (defScope (top 74)) f cdv A outer s H E) (fun cls d _ H' => E cls d H') := takes_of rfl rfl rfl rfl
  exact ⟨_, T__law_raised, (dss_cons (ds_asg (de_tup (da_cons de_int (da_cons de_int da_nil))) (dg_two (by rfl) (dg_name (i := 3) nd) (dg_name (i := 4) nd)))
    (dss_cons (ds_for PassesOwn.leaving (by rfl) (di_rng1 T.b_range (da_cons (dv 1) da_nil)) (dg_name (i := 2) nd) (dss_one (ds_par (i := 3) (j := 4) (by rfl) nd (da_cons (de_op op_mulA snd_mul (dv 3) (de_ix (dv 0) de_int)) (da_cons (de_op op_mulA snd_mul (dv 4) (de_ix (dv 0) de_int)) da_nil)))))
    (dss_one (ds_ret (de_tup (da_cons (dv 3) (da_cons (dv 4) da_nil))))))), fun ds M Φ Ψ h => (run ds M Φ Ψ h).2⟩
/-! ## _law_multiple -/
def N__law_multiple : List Str := ["community", "found", "item"]
theorem sc__law_multiple : FnScope N__law_multiple ["community"] (defScope (top 75)) := ⟨rfl, rfl, rfl, by decide +kernel, rfl, by decide +kernel, by decide +kernel⟩
def T__law_multiple (p__law_gcd : DSp) : DTS :=
  (dSeq (dAsg (dC (.int 1)) (dgName 1))
  (dSeq (dFor (diSeq (dVar 0)) (dgName 2) (dAsg (dOp dFdiv (dOp dMul (dVar 1) (dOp dIx (dVar 2) (dC (.int 1)))) (dCall p__law_gcd (dCons (dLst (dCons (dVar 1) (dCons (dOp dIx (dVar 2) (dC (.int 1))) dNil))) dNil))) (dgName 1)))
  (dRet (dVar 1))))
theorem h__law_multiple (T : Txt P w K mg base c_InvalidNumber c_InvalidLikeness c_InvalidCommunity c_TooMany) {sp : DSp} {p__law_gcd : DSp} (g__law_gcd : Has P w K mg base 1 "_law_gcd" (top 71) ["items"] p__law_gcd)
    (run : ∀ ds M Φ Ψ, sp ds M Φ Ψ → ds.length = 1 ∧ T__law_multiple p__law_gcd (fnEnds M.length Φ Ψ) (startR N__law_multiple ds) M) : Has P w K mg base (1 + 1) "_law_multiple" (top 75) ["community"] sp := by
  refine Def.has T.d__law_multiple sc__law_multiple (fun ds M Φ Ψ h => (run ds M Φ Ψ h).1) (fun f cdv A outer s H E hr => ?_)
  have hu := room64 hr
  have nd := sc__law_multiple.nd
  have tk : Takes (cxOf (L2.CX P w) P w K mg base N__law_multiple "_law_multiple" (defScope (top 75)) f cdv A outer s H E) (fun cls d _ H' => E cls d H') := takes_of rfl rfl rfl rfl
  exact ⟨_, T__law_multiple p__law_gcd, (dss_cons (ds_set (i := 1) nd de_int)
    (dss_cons (ds_for PassesOwn.leaving (by rfl) (di_seq (dv 0)) (dg_name (i := 2) nd) (dss_one (ds_set (i := 1) nd (de_op op_fdivG snd_fdiv (de_op op_mulA snd_mul (dv 1) (de_ix (dv 2) de_int)) (de_call g__law_gcd hr tk (da_cons (de_lst (da_cons (dv 1) (da_cons (de_ix (dv 2) de_int) da_nil))) da_nil) (hk := by decide))))))
    (dss_one (ds_ret (dv 1))))), fun ds M Φ Ψ h => (run ds M Φ Ψ h).2⟩
/-! ## _law_diversity -/
def N__law_diversity : List Str := ["likeness", "community", "q", "seen", "some", "most", "k", "share", "presence", "many", "top", "bottom", "own"]
theorem sc__law_diversity : FnScope N__law_diversity ["likeness", "community", "q"] (defScope (top 76)) := ⟨rfl, rfl, rfl, by decide +kernel, rfl, by decide +kernel, by decide +kernel⟩
def T__law_diversity (p__law_apply : DSp) (p__law_below : DSp) (p__law_over : DSp) (p__law_total : DSp) (p__law_multiple : DSp) (p__law_raised : DSp) (p__law_lowest : DSp) (p__law_times : DSp) : DTS :=
  (dSeq (dAsg (dCall p__law_apply (dCons (dVar 0) (dCons (dVar 1) dNil))) (dgName 3))
  (dSeq (dAsg (dLc (diRng1 (dCons (dCB dLen (dCons (dVar 1) dNil)) dNil)) (dgName 6) (dB (dOp dNe (dOp dIx (dVar 1) (dVar 6)) (dTup (dCons (dC (.int 0)) (dCons (dC (.int 1)) dNil))))) (dTup (dCons (dOp dIx (dVar 1) (dVar 6)) (dCons (dOp dIx (dVar 3) (dVar 6)) dNil))) [6]) (dgName 4))
  (dSeq (dIfS (dB (dOp dEq (dVar 2) (dC (.str "all")))) (dSeq (dAsg (dOp dIx (dOp dIx (dVar 4) (dC (.int 0))) (dC (.int 1))) (dgName 5))
  (dSeq (dFor (diSeq (dVar 4)) (dgTup (dgCons (dgName 7) (dgCons (dgName 8) dgNil))) (dAsg (dIf (dB (dCall p__law_below (dCons (dVar 5) (dCons (dVar 8) dNil)))) (dVar 8) (dVar 5)) (dgName 5)))
  (dRet (dTup (dCons (dC (.int 1)) (dCons (dCall p__law_over (dCons (dTup (dCons (dC (.int 1)) (dCons (dC (.int 1)) dNil))) (dCons (dVar 5) dNil))) dNil)))))) dNext)
  (dSeq (dIfS (dB (dOp dEq (dVar 2) (dC (.int 0)))) (dRet (dTup (dCons (dC (.int 1)) (dCons (dCall p__law_total (dCons (dLc (diSeq (dVar 4)) (dgTup (dgCons (dgName 7) (dgCons (dgName 8) dgNil))) dYes (dCall p__law_over (dCons (dVar 7) (dCons (dVar 8) dNil))) [7, 8]) dNil)) dNil)))) dNext)
  (dSeq (dIfS (dB (dOp dEq (dVar 2) (dC (.int 1)))) (dSeq (dPar3 9 10 11 (dCons (dCall p__law_multiple (dCons (dVar 1) dNil)) (dCons (dC (.int 1)) (dCons (dC (.int 1)) dNil))))
  (dSeq (dFor (diSeq (dVar 4)) (dgTup (dgCons (dgName 7) (dgCons (dgName 8) dgNil))) (dSeq (dAsg (dCall p__law_raised (dCons (dVar 8) (dCons (dOp dFdiv (dOp dMul (dVar 9) (dOp dIx (dVar 7) (dC (.int 0)))) (dOp dIx (dVar 7) (dC (.int 1)))) dNil))) (dgName 12))
  (dPar 10 11 (dCons (dOp dMul (dVar 10) (dOp dIx (dVar 12) (dC (.int 1)))) (dCons (dOp dMul (dVar 11) (dOp dIx (dVar 12) (dC (.int 0)))) dNil)))))
  (dRet (dTup (dCons (dVar 9) (dCons (dCall p__law_lowest (dCons (dVar 10) (dCons (dVar 11) dNil))) dNil)))))) dNext)
  (dRet (dTup (dCons (dOp dSub (dVar 2) (dC (.int 1))) (dCons (dCall p__law_over (dCons (dTup (dCons (dC (.int 1)) (dCons (dC (.int 1)) dNil))) (dCons (dCall p__law_total (dCons (dLc (diSeq (dVar 4)) (dgTup (dgCons (dgName 7) (dgCons (dgName 8) dgNil))) dYes (dCall p__law_times (dCons (dVar 7) (dCons (dCall p__law_raised (dCons (dVar 8) (dCons (dOp dSub (dVar 2) (dC (.int 1))) dNil))) dNil))) [7, 8]) dNil)) dNil))) dNil)))))))))
theorem h__law_diversity (T : Txt P w K mg base c_InvalidNumber c_InvalidLikeness c_InvalidCommunity c_TooMany) {sp : DSp} {p__law_apply : DSp} {p__law_below : DSp} {p__law_over : DSp} {p__law_total : DSp} {p__law_multiple : DSp} {p__law_raised : DSp} {p__law_lowest : DSp} {p__law_times : DSp} (g__law_apply : Has P w K mg base 5 "_law_apply" (top 70) ["table", "row"] p__law_apply) (g__law_below : Has P w K mg base 1 "_law_below" (top 67) ["x", "y"] p__law_below) (g__law_over : Has P w K mg base 2 "_law_over" (top 66) ["x", "y"] p__law_over) (g__law_total : Has P w K mg base 3 "_law_total" (top 68) ["items"] p__law_total) (g__law_multiple : Has P w K mg base 2 "_law_multiple" (top 75) ["community"] p__law_multiple) (g__law_raised : Has P w K mg base 1 "_law_raised" (top 74) ["x", "many"] p__law_raised) (g__law_lowest : Has P w K mg base 1 "_law_lowest" (top 63) ["n", "d"] p__law_lowest) (g__law_times : Has P w K mg base 2 "_law_times" (top 65) ["x", "y"] p__law_times)
    (run : ∀ ds M Φ Ψ, sp ds M Φ Ψ → ds.length = 3 ∧ T__law_diversity p__law_apply p__law_below p__law_over p__law_total p__law_multiple p__law_raised p__law_lowest p__law_times (fnEnds M.length Φ Ψ) (startR N__law_diversity ds) M) : Has P w K mg base (5 + 1) "_law_diversity" (top 76) ["likeness", "community", "q"] sp := by
  refine Def.has T.d__law_diversity sc__law_diversity (fun ds M Φ Ψ h => (run ds M Φ Ψ h).1) (fun f cdv A outer s H E hr => ?_)
  have hu := room64 hr
  have nd := sc__law_diversity.nd
  have tk : Takes (cxOf (L2.CX P w) P w K mg base N__law_diversity "_law_diversity" (defScope (top 76)) f cdv A outer s H E) (fun cls d _ H' => E cls d H') := takes_of rfl rfl rfl rfl
  exact ⟨_, T__law_diversity p__law_apply p__law_below p__law_over p__law_total p__law_multiple p__law_raised p__law_lowest p__law_times, (dss_cons (ds_set (i := 3) nd (de_call g__law_apply hr tk (da_cons (dv 0) (da_cons (dv 1) da_nil)) (hk := by decide)))
    (dss_cons (ds_setLc (i := 4) (own := [("k", 6)]) (by rfl) nd (di_rng1 T.b_range (da_cons (de_callB call_lenA snd_len T.b_len rfl (da_cons (dv 1) da_nil)) da_nil)) (blkOk_by (N := N__law_diversity) (sc := (defScope (top 76))) (own := [("k", 6)]) (by decide +kernel)) (fun _ _ _ _ _ => (dg_name (i := 6) nd)) (fun _ _ _ _ _ => (dts_one (dt_cmp (op_neD hu) snd_ne (de_ix (dv 1) (dv 6)) (de_tup (da_cons de_int (da_cons de_int da_nil)))))) (fun _ _ _ _ _ => (de_tup (da_cons (de_ix (dv 1) (dv 6)) (da_cons (de_ix (dv 3) (dv 6)) da_nil)))))
    (dss_cons (ds_if (dt_cmp (op_eqD hu) snd_eq (dv 2) de_str) (dss_cons (ds_set (i := 5) nd (de_ix (de_ix (dv 4) de_int) de_int))
    (dss_cons (ds_for PassesOwn.leaving (by rfl) (di_seq (dv 4)) (dg_two (by rfl) (dg_name (i := 7) nd) (dg_name (i := 8) nd)) (dss_one (ds_set (i := 5) nd (de_if (dt_val (de_call g__law_below hr tk (da_cons (dv 5) (da_cons (dv 8) da_nil)) (hk := by decide))) (dv 8) (dv 5)))))
    (dss_one (ds_ret (de_tup (da_cons de_int (da_cons (de_call g__law_over hr tk (da_cons (de_tup (da_cons de_int (da_cons de_int da_nil))) (da_cons (dv 5) da_nil)) (hk := by decide)) da_nil))))))) dss_nil)
    (dss_cons (ds_if (dt_cmp (op_eqD hu) snd_eq (dv 2) de_int) (dss_one (ds_ret (de_tup (da_cons de_int (da_cons (de_call g__law_total hr tk (da_cons (de_lc (own := [("share", 7), ("presence", 8)]) (by rfl) nd (di_seq (dv 4)) (blkOk_by (N := N__law_diversity) (sc := (defScope (top 76))) (own := [("share", 7), ("presence", 8)]) (by decide +kernel)) (fun _ _ _ _ _ => (dg_two (by rfl) (dg_name (i := 7) nd) (dg_name (i := 8) nd))) (fun _ _ _ _ _ => dts_nil) (fun _ _ _ _ _ => (de_call g__law_over hr takes0 (da_cons (dv 7) (da_cons (dv 8) da_nil)) (hk := by decide)))) da_nil) (hk := by decide)) da_nil))))) dss_nil)
    (dss_cons (ds_if (dt_cmp (op_eqD hu) snd_eq (dv 2) de_int) (dss_cons (ds_par3 (i := 9) (j := 10) (l := 11) (by rfl) nd (da_cons (de_call g__law_multiple hr tk (da_cons (dv 1) da_nil) (hk := by decide)) (da_cons de_int (da_cons de_int da_nil))))
    (dss_cons (ds_for PassesOwn.leaving (by rfl) (di_seq (dv 4)) (dg_two (by rfl) (dg_name (i := 7) nd) (dg_name (i := 8) nd)) (dss_cons (ds_set (i := 12) nd (de_call g__law_raised hr tk (da_cons (dv 8) (da_cons (de_op op_fdivG snd_fdiv (de_op op_mulA snd_mul (dv 9) (de_ix (dv 7) de_int)) (de_ix (dv 7) de_int)) da_nil)) (hk := by decide)))
    (dss_one (ds_par (i := 10) (j := 11) (by rfl) nd (da_cons (de_op op_mulA snd_mul (dv 10) (de_ix (dv 12) de_int)) (da_cons (de_op op_mulA snd_mul (dv 11) (de_ix (dv 12) de_int)) da_nil))))))
    (dss_one (ds_ret (de_tup (da_cons (dv 9) (da_cons (de_call g__law_lowest hr tk (da_cons (dv 10) (da_cons (dv 11) da_nil)) (hk := by decide)) da_nil))))))) dss_nil)
    (dss_one (ds_ret (de_tup (da_cons (de_op op_sub snd_sub (dv 2) de_int) (da_cons (de_call g__law_over hr tk (da_cons (de_tup (da_cons de_int (da_cons de_int da_nil))) (da_cons (de_call g__law_total hr tk (da_cons (de_lc (own := [("share", 7), ("presence", 8)]) (by rfl) nd (di_seq (dv 4)) (blkOk_by (N := N__law_diversity) (sc := (defScope (top 76))) (own := [("share", 7), ("presence", 8)]) (by decide +kernel)) (fun _ _ _ _ _ => (dg_two (by rfl) (dg_name (i := 7) nd) (dg_name (i := 8) nd))) (fun _ _ _ _ _ => dts_nil) (fun _ _ _ _ _ => (de_call g__law_times hr takes0 (da_cons (dv 7) (da_cons (de_call g__law_raised hr takes0 (da_cons (dv 8) (da_cons (de_op op_sub snd_sub (dv 2) de_int) da_nil)) (hk := by decide)) da_nil)) (hk := by decide)))) da_nil) (hk := by decide)) da_nil)) (hk := by decide)) da_nil)))))))))), fun ds M Φ Ψ h => (run ds M Φ Ψ h).2⟩
/-! ## _law_sign -/
def N__law_sign : List Str := ["one", "other", "gap", "here", "there"]
theorem sc__law_sign : FnScope N__law_sign ["one", "other"] (defScope (top 77)) := ⟨rfl, rfl, rfl, by decide +kernel, rfl, by decide +kernel, by decide +kernel⟩
def T__law_sign (p__law_raised : DSp) : DTS :=
  (dSeq (dPar 3 4 (dCons (dCall p__law_raised (dCons (dOp dIx (dVar 0) (dC (.int 1))) (dCons (dOp dIx (dVar 1) (dC (.int 0))) dNil))) (dCons (dCall p__law_raised (dCons (dOp dIx (dVar 1) (dC (.int 1))) (dCons (dOp dIx (dVar 0) (dC (.int 0))) dNil))) dNil)))
  (dSeq (dAsg (dOp dSub (dOp dMul (dOp dIx (dVar 3) (dC (.int 0))) (dOp dIx (dVar 4) (dC (.int 1)))) (dOp dMul (dOp dIx (dVar 4) (dC (.int 0))) (dOp dIx (dVar 3) (dC (.int 1))))) (dgName 2))
  (dRet (dIf (dB (dOp dGt (dVar 2) (dC (.int 0)))) (dC (.int 1)) (dIf (dB (dOp dEq (dVar 2) (dC (.int 0)))) (dC (.int 0)) (dUn dNeg (dC (.int 1))))))))
theorem h__law_sign (T : Txt P w K mg base c_InvalidNumber c_InvalidLikeness c_InvalidCommunity c_TooMany) {sp : DSp} {p__law_raised : DSp} (g__law_raised : Has P w K mg base 1 "_law_raised" (top 74) ["x", "many"] p__law_raised)
    (run : ∀ ds M Φ Ψ, sp ds M Φ Ψ → ds.length = 2 ∧ T__law_sign p__law_raised (fnEnds M.length Φ Ψ) (startR N__law_sign ds) M) : Has P w K mg base (1 + 1) "_law_sign" (top 77) ["one", "other"] sp := by
  refine Def.has T.d__law_sign sc__law_sign (fun ds M Φ Ψ h => (run ds M Φ Ψ h).1) (fun f cdv A outer s H E hr => ?_)
  have hu := room64 hr
  have nd := sc__law_sign.nd
  have tk : Takes (cxOf (L2.CX P w) P w K mg base N__law_sign "_law_sign" (defScope (top 77)) f cdv A outer s H E) (fun cls d _ H' => E cls d H') := takes_of rfl rfl rfl rfl
  exact ⟨_, T__law_sign p__law_raised, (dss_cons (ds_par (i := 3) (j := 4) (by rfl) nd (da_cons (de_call g__law_raised hr tk (da_cons (de_ix (dv 0) de_int) (da_cons (de_ix (dv 1) de_int) da_nil)) (hk := by decide)) (da_cons (de_call g__law_raised hr tk (da_cons (de_ix (dv 1) de_int) (da_cons (de_ix (dv 0) de_int) da_nil)) (hk := by decide)) da_nil)))
    (dss_cons (ds_set (i := 2) nd (de_op op_sub snd_sub (de_op op_mulA snd_mul (de_ix (dv 3) de_int) (de_ix (dv 4) de_int)) (de_op op_mulA snd_mul (de_ix (dv 4) de_int) (de_ix (dv 3) de_int))))
    (dss_one (ds_ret (de_if (dt_cmp op_gt snd_gt (dv 2) de_int) de_int (de_if (dt_cmp (op_eqD hu) snd_eq (dv 2) de_int) de_int (de_un un_neg snd_neg de_int))))))), fun ds M Φ Ψ h => (run ds M Φ Ψ h).2⟩
/-! ## _law_told -/
def N__law_told : List Str := ["f", "a", "named", "error"]
theorem sc__law_told : FnScope N__law_told ["f", "a", "named"] (defScope (top 78)) := ⟨rfl, rfl, rfl, by decide +kernel, rfl, by decide +kernel, by decide +kernel⟩
def T__law_told (K : PySem.W.Frag) (c_InvalidNumber : Addr) (c_TooMany : Addr) (p_diversity : DSp) (p_falls : DSp) (p_order_sign : DSp) (p_power_sum : DSp) : DTS :=
  (dTry K 3 (dSeq (dIfS (dB (dOp dEq (dVar 0) (dC (.str "diversity")))) (dRet (dLst (dCons (dC (.str "told")) (dCons (dIf (dB (dVar 2)) (dCall p_diversity (dCons (dOp dIx (dVar 1) (dC (.int 0))) (dCons (dOp dIx (dVar 1) (dC (.int 1))) (dCons (dOp dIx (dVar 1) (dC (.int 2))) dNil)))) (dCallR p_diversity 3 (dCons (dOp dIx (dVar 1) (dC (.int 2))) (dCons (dOp dIx (dVar 1) (dC (.int 1))) (dCons (dOp dIx (dVar 1) (dC (.int 0))) dNil))))) dNil)))) dNext)
  (dSeq (dIfS (dB (dOp dEq (dVar 0) (dC (.str "falls")))) (dRet (dLst (dCons (dC (.str "told")) (dCons (dIf (dB (dVar 2)) (dCall p_falls (dCons (dOp dIx (dVar 1) (dC (.int 0))) (dCons (dOp dIx (dVar 1) (dC (.int 1))) dNil))) (dCallR p_falls 2 (dCons (dOp dIx (dVar 1) (dC (.int 1))) (dCons (dOp dIx (dVar 1) (dC (.int 0))) dNil)))) dNil)))) dNext)
  (dSeq (dIfS (dB (dOp dEq (dVar 0) (dC (.str "sign")))) (dRet (dLst (dCons (dC (.str "told")) (dCons (dIf (dB (dVar 2)) (dCall p_order_sign (dCons (dOp dIx (dVar 1) (dC (.int 0))) (dCons (dOp dIx (dVar 1) (dC (.int 1))) (dCons (dOp dIx (dVar 1) (dC (.int 2))) (dCons (dOp dIx (dVar 1) (dC (.int 3))) dNil))))) (dCallR p_order_sign 4 (dCons (dOp dIx (dVar 1) (dC (.int 3))) (dCons (dOp dIx (dVar 1) (dC (.int 2))) (dCons (dOp dIx (dVar 1) (dC (.int 1))) (dCons (dOp dIx (dVar 1) (dC (.int 0))) dNil)))))) dNil)))) dNext)
  (dRet (dLst (dCons (dC (.str "told")) (dCons (dIf (dB (dVar 2)) (dCall p_power_sum (dCons (dOp dIx (dVar 1) (dC (.int 0))) (dCons (dOp dIx (dVar 1) (dC (.int 1))) (dCons (dOp dIx (dVar 1) (dC (.int 2))) dNil)))) (dCallR p_power_sum 3 (dCons (dOp dIx (dVar 1) (dC (.int 2))) (dCons (dOp dIx (dVar 1) (dC (.int 1))) (dCons (dOp dIx (dVar 1) (dC (.int 0))) dNil))))) dNil))))))) ((.ref c_InvalidNumber, fun a cls d => (dRet (dLst (dCons (dC (.str "number")) (dCons (dXf a cls d (c_InvalidNumber) "given" (dVar 3)) dNil))))) :: ((.ref c_TooMany, fun a cls d => (dRet (dLst (dCons (dC (.str "many")) (dCons (dXf a cls d (c_TooMany) "count" (dVar 3)) dNil))))) :: [])))
theorem h__law_told (T : Txt P w K mg base c_InvalidNumber c_InvalidLikeness c_InvalidCommunity c_TooMany) {sp : DSp} {p_diversity : DSp} {p_falls : DSp} {p_order_sign : DSp} {p_power_sum : DSp} (g_diversity : Has P w K mg base 9 "diversity" (top 52) ["likeness", "community", "q"] p_diversity) (g_falls : Has P w K mg base 9 "falls" (top 54) ["likeness", "community"] p_falls) (g_order_sign : Has P w K mg base 9 "order_sign" (top 53) ["likeness", "one", "other", "q"] p_order_sign) (g_power_sum : Has P w K mg base 9 "power_sum" (top 51) ["likeness", "community", "q"] p_power_sum)
    (run : ∀ ds M Φ Ψ, sp ds M Φ Ψ → ds.length = 3 ∧ T__law_told K c_InvalidNumber c_TooMany p_diversity p_falls p_order_sign p_power_sum (fnEnds M.length Φ Ψ) (startR N__law_told ds) M) : Has P w K mg base (9 + 1) "_law_told" (top 78) ["f", "a", "named"] sp := by
  refine Def.has T.d__law_told sc__law_told (fun ds M Φ Ψ h => (run ds M Φ Ψ h).1) (fun f cdv A outer s H E hr => ?_)
  have hu := room64 hr
  have nd := sc__law_told.nd
  have tk : Takes (cxOf (L2.CX P w) P w K mg base N__law_told "_law_told" (defScope (top 78)) f cdv A outer s H E) (fun cls d _ H' => E cls d H') := takes_of rfl rfl rfl rfl
  exact ⟨_, T__law_told K c_InvalidNumber c_TooMany p_diversity p_falls p_order_sign p_power_sum, (dss_one (ds_try (i := 3) nd tk (fun W2 pn2 xe2 tk2 po2 => (dss_cons (ds_if (dt_cmp (op_eqD hu) snd_eq (dv 0) de_str) (dss_one (ds_ret (de_lst (da_cons de_str (da_cons (de_if (dt_val (dv 2)) (de_call g_diversity hr tk2 (da_cons (de_ix (dv 1) de_int) (da_cons (de_ix (dv 1) de_int) (da_cons (de_ix (dv 1) de_int) da_nil))) (hk := by decide)) (de_callR (ks := ["q", "community", "likeness"]) g_diversity hr tk2 (dk_cons (de_ix (dv 1) de_int) (dk_cons (de_ix (dv 1) de_int) (dk_cons (de_ix (dv 1) de_int) dk_nil))) (fun _ _ _ _ _ _ ws hl => match ws, hl with | [_, _, _], _ => rfl) (hk := by decide))) da_nil))))) dss_nil)
    (dss_cons (ds_if (dt_cmp (op_eqD hu) snd_eq (dv 0) de_str) (dss_one (ds_ret (de_lst (da_cons de_str (da_cons (de_if (dt_val (dv 2)) (de_call g_falls hr tk2 (da_cons (de_ix (dv 1) de_int) (da_cons (de_ix (dv 1) de_int) da_nil)) (hk := by decide)) (de_callR (ks := ["community", "likeness"]) g_falls hr tk2 (dk_cons (de_ix (dv 1) de_int) (dk_cons (de_ix (dv 1) de_int) dk_nil)) (fun _ _ _ _ _ _ ws hl => match ws, hl with | [_, _], _ => rfl) (hk := by decide))) da_nil))))) dss_nil)
    (dss_cons (ds_if (dt_cmp (op_eqD hu) snd_eq (dv 0) de_str) (dss_one (ds_ret (de_lst (da_cons de_str (da_cons (de_if (dt_val (dv 2)) (de_call g_order_sign hr tk2 (da_cons (de_ix (dv 1) de_int) (da_cons (de_ix (dv 1) de_int) (da_cons (de_ix (dv 1) de_int) (da_cons (de_ix (dv 1) de_int) da_nil)))) (hk := by decide)) (de_callR (ks := ["q", "other", "one", "likeness"]) g_order_sign hr tk2 (dk_cons (de_ix (dv 1) de_int) (dk_cons (de_ix (dv 1) de_int) (dk_cons (de_ix (dv 1) de_int) (dk_cons (de_ix (dv 1) de_int) dk_nil)))) (fun _ _ _ _ _ _ ws hl => match ws, hl with | [_, _, _, _], _ => rfl) (hk := by decide))) da_nil))))) dss_nil)
    (dss_one (ds_ret (de_lst (da_cons de_str (da_cons (de_if (dt_val (dv 2)) (de_call g_power_sum hr tk2 (da_cons (de_ix (dv 1) de_int) (da_cons (de_ix (dv 1) de_int) (da_cons (de_ix (dv 1) de_int) da_nil))) (hk := by decide)) (de_callR (ks := ["q", "community", "likeness"]) g_power_sum hr tk2 (dk_cons (de_ix (dv 1) de_int) (dk_cons (de_ix (dv 1) de_int) (dk_cons (de_ix (dv 1) de_int) dk_nil))) (fun _ _ _ _ _ _ ws hl => match ws, hl with | [_, _, _], _ => rfl) (hk := by decide))) da_nil))))))))) (DClsOk.cons ⟨by rfl, by decide, .inl T.x_InvalidNumber.gC⟩ (fun a oe cls d pn hz hf => (dss_one (ds_ret (de_lst (da_cons de_str (da_cons (de_xf T.x_InvalidNumber.xf T.x_InvalidNumber.no hz hf (dv 3)) da_nil)))))) (DClsOk.cons ⟨by rfl, by decide, .inl T.x_TooMany.gC⟩ (fun a oe cls d pn hz hf => (dss_one (ds_ret (de_lst (da_cons de_str (da_cons (de_xf T.x_TooMany.xf T.x_TooMany.no hz hf (dv 3)) da_nil)))))) DClsOk.nil)))), fun ds M Φ Ψ h => (run ds M Φ Ψ h).2⟩
/-! ## _law_orders_right -/
def N__law_orders_right : List Str := ["likeness", "community", "named", "q", "signs", "due", "seen", "some", "equal", "known", "told", "many", "rows", "own", "k", "sign", "presence"]
theorem sc__law_orders_right : FnScope N__law_orders_right ["likeness", "community", "named"] (defScope (top 79)) := ⟨rfl, rfl, rfl, by decide +kernel, rfl, by decide +kernel, by decide +kernel⟩
def T__law_orders_right (p__law_multiple : DSp) (p__law_diversity : DSp) (p__law_same : DSp) (p__law_told : DSp) (p__law_over : DSp) (p__law_sign : DSp) (p__law_apply : DSp) (p_least_diversity : DSp) (p_greatest_order : DSp) (p__law_bounds_right : DSp) : DTS :=
  (dSeq (dAsg (dTup (dCons (dCall p__law_multiple (dCons (dVar 1) dNil)) (dCons (dLstM dNil) dNil))) (dgTup (dgCons (dgName 11) (dgCons (dgName 12) dgNil))))
  (dSeq (dFor (diSeq (dOp dAdd (dLstRg1 (dC (.int 13))) (dLst (dCons (dC (.str "all")) dNil)))) (dgName 3) (dSeq (dAsg (dIf (dOr (dB (dOp dNe (dVar 3) (dC (.int 1)))) (dB (dOp dLe (dVar 11) (dC (.int 40))))) (dCall p__law_diversity (dCons (dVar 0) (dCons (dVar 1) (dCons (dVar 3) dNil)))) (dC .non)) (dgName 13))
  (dSeq (dAsg (dIf (dB (dOp dIsN (dVar 13) (dC .non))) (dLst (dCons (dC (.str "many")) (dCons (dVar 11) dNil))) (dLst (dCons (dC (.str "told")) (dCons (dVar 13) dNil)))) (dgName 5))
  (dSeq (dIfS (dNot (dB (dCall p__law_same (dCons (dCall p__law_told (dCons (dC (.str "diversity")) (dCons (dLst (dCons (dVar 0) (dCons (dVar 1) (dCons (dVar 3) dNil)))) (dCons (dVar 2) dNil)))) (dCons (dVar 5) dNil))))) (dRet (dC (.bl false))) dNext)
  (dSeq (dIfS (dAnd (dB (dOp dNe (dVar 3) (dC (.str "all")))) (dAnd (dB (dOp dGt (dVar 3) (dC (.int 1)))) (dNot (dB (dCall p__law_same (dCons (dCall p__law_told (dCons (dC (.str "sum")) (dCons (dLst (dCons (dVar 0) (dCons (dVar 1) (dCons (dVar 3) dNil)))) (dCons (dNotV (dVar 2)) dNil)))) (dCons (dLst (dCons (dC (.str "told")) (dCons (dCall p__law_over (dCons (dTup (dCons (dC (.int 1)) (dCons (dC (.int 1)) dNil))) (dCons (dOp dIx (dVar 13) (dC (.int 1))) dNil))) dNil))) dNil))))))) (dRet (dC (.bl false))) dNext)
  (dSeq (dDrop (dBM dAppend (dVar 12) (dCons (dVar 13) dNil)))
  (dAsg (dNotV (dVar 2)) (dgName 2))))))))
  (dSeq (dAsg (dLc (diRng1 (dCons (dC (.int 13)) dNil)) (dgName 14) dYes (dIf (dOr (dB (dOp dIsN (dOp dIx (dVar 12) (dVar 14)) (dC .non))) (dB (dOp dIsN (dOp dIx (dVar 12) (dOp dAdd (dVar 14) (dC (.int 1)))) (dC .non)))) (dC .non) (dCall p__law_sign (dCons (dOp dIx (dVar 12) (dVar 14)) (dCons (dOp dIx (dVar 12) (dOp dAdd (dVar 14) (dC (.int 1)))) dNil)))) [14]) (dgName 4))
  (dSeq (dAsg (dIf (dB (dOp dGt (dVar 11) (dC (.int 40)))) (dLst (dCons (dC (.str "many")) (dCons (dVar 11) dNil))) (dLst (dCons (dC (.str "told")) (dCons (dCB dTupOf (dCons (dSl (dVar 4) dNoPart (dPart (dC (.int 12)))) dNil)) dNil)))) (dgName 5))
  (dSeq (dIfS (dNot (dB (dCall p__law_same (dCons (dCall p__law_told (dCons (dC (.str "falls")) (dCons (dLst (dCons (dVar 0) (dCons (dVar 1) dNil))) (dCons (dVar 2) dNil)))) (dCons (dVar 5) dNil))))) (dRet (dC (.bl false))) dNext)
  (dSeq (dIfS (dB (dOp dNe (dLc (diSeq (dVar 4)) (dgName 15) (dAnd (dB (dOp dIsNot (dVar 15) (dC .non))) (dB (dOp dLt (dVar 15) (dC (.int 0))))) (dVar 15) [15]) (dLst dNil))) (dRet (dC (.bl false))) dNext)
  (dSeq (dAsg (dCall p__law_apply (dCons (dVar 0) (dCons (dVar 1) dNil))) (dgName 6))
  (dSeq (dAsg (dLc (diRng1 (dCons (dCB dLen (dCons (dVar 6) dNil)) dNil)) (dgName 14) (dB (dOp dNe (dOp dIx (dVar 1) (dVar 14)) (dTup (dCons (dC (.int 0)) (dCons (dC (.int 1)) dNil))))) (dOp dIx (dVar 6) (dVar 14)) [14]) (dgName 7))
  (dSeq (dAsg (dOp dEq (dLc (diSeq (dVar 7)) (dgName 16) (dB (dOp dNe (dVar 16) (dOp dIx (dVar 7) (dC (.int 0))))) (dVar 16) [16]) (dLst dNil)) (dgName 8))
  (dSeq (dAsg (dLc (diSeq (dVar 4)) (dgName 15) (dB (dOp dIsNot (dVar 15) (dC .non))) (dVar 15) [15]) (dgName 9))
  (dSeq (dIfS (dB (dOp dNe (dVar 8) (dOp dEq (dLc (diSeq (dVar 9)) (dgName 15) (dB (dOp dNe (dVar 15) (dC (.int 0)))) (dVar 15) [15]) (dLst dNil)))) (dRet (dC (.bl false))) dNext)
  (dSeq (dAsg (dLst (dCons (dIf (dB (dVar 2)) (dCall p_least_diversity (dCons (dVar 0) (dCons (dVar 1) dNil))) (dCallR p_least_diversity 2 (dCons (dVar 1) (dCons (dVar 0) dNil)))) (dCons (dCall p_greatest_order (dCons (dVar 0) (dCons (dVar 1) dNil))) dNil))) (dgName 10))
  (dRet (dAndV (dCall p__law_same (dCons (dVar 10) (dCons (dLst (dCons (dOp dIx (dOp dIx (dVar 12) (dC (.int 13))) (dC (.int 1))) (dCons (dOp dIx (dOp dIx (dVar 12) (dC (.int 0))) (dC (.int 1))) dNil))) dNil))) (dCall p__law_bounds_right (dCons (dVar 0) (dCons (dVar 1) (dCons (dVar 12) dNil))))))))))))))))))
theorem h__law_orders_right (T : Txt P w K mg base c_InvalidNumber c_InvalidLikeness c_InvalidCommunity c_TooMany) {sp : DSp} {p__law_multiple : DSp} {p__law_diversity : DSp} {p__law_same : DSp} {p__law_told : DSp} {p__law_over : DSp} {p__law_sign : DSp} {p__law_apply : DSp} {p_least_diversity : DSp} {p_greatest_order : DSp} {p__law_bounds_right : DSp} (g__law_multiple : Has P w K mg base 2 "_law_multiple" (top 75) ["community"] p__law_multiple) (g__law_diversity : Has P w K mg base 6 "_law_diversity" (top 76) ["likeness", "community", "q"] p__law_diversity) (g__law_same : Has P w K mg base 9 "_law_same" (top 62) ["given", "due"] p__law_same) (g__law_told : Has P w K mg base 10 "_law_told" (top 78) ["f", "a", "named"] p__law_told) (g__law_over : Has P w K mg base 2 "_law_over" (top 66) ["x", "y"] p__law_over) (g__law_sign : Has P w K mg base 2 "_law_sign" (top 77) ["one", "other"] p__law_sign) (g__law_apply : Has P w K mg base 5 "_law_apply" (top 70) ["table", "row"] p__law_apply) (g_least_diversity : Has P w K mg base 9 "least_diversity" (top 55) ["likeness", "community"] p_least_diversity) (g_greatest_order : Has P w K mg base 9 "greatest_order" (top 56) ["likeness", "community"] p_greatest_order) (g__law_bounds_right : Has P w K mg base 3 "_law_bounds_right" (top 80) ["likeness", "community", "rows"] p__law_bounds_right)
    (run : ∀ ds M Φ Ψ, sp ds M Φ Ψ → ds.length = 3 ∧ T__law_orders_right p__law_multiple p__law_diversity p__law_same p__law_told p__law_over p__law_sign p__law_apply p_least_diversity p_greatest_order p__law_bounds_right (fnEnds M.length Φ Ψ) (startR N__law_orders_right ds) M) : Has P w K mg base (10 + 1) "_law_orders_right" (top 79) ["likeness", "community", "named"] sp := by
  refine Def.has T.d__law_orders_right sc__law_orders_right (fun ds M Φ Ψ h => (run ds M Φ Ψ h).1) (fun f cdv A outer s H E hr => ?_)
  have hu := room64 hr
  have nd := sc__law_orders_right.nd
  have tk : Takes (cxOf (L2.CX P w) P w K mg base N__law_orders_right "_law_orders_right" (defScope (top 79)) f cdv A outer s H E) (fun cls d _ H' => E cls d H') := takes_of rfl rfl rfl rfl
  exact ⟨_, T__law_orders_right p__law_multiple p__law_diversity p__law_same p__law_told p__law_over p__law_sign p__law_apply p_least_diversity p_greatest_order p__law_bounds_right, (dss_cons (ds_asg (de_tup (da_cons (de_call g__law_multiple hr tk (da_cons (dv 1) da_nil) (hk := by decide)) (da_cons (de_lstM da_nil) da_nil))) (dg_two (by rfl) (dg_name (i := 11) nd) (dg_name (i := 12) nd)))
    (dss_cons (ds_for PassesOwn.leaving (by rfl) (di_seq (de_op op_addA snd_add (de_lstRg1 (by rfl) T.b_list T.b_range de_int) (de_lst (da_cons de_str da_nil)))) (dg_name (i := 3) nd) (dss_cons (ds_set (i := 13) nd (de_if (DW.dt (dw_or (dt_cmp (op_neD hu) snd_ne (dv 3) de_int) (dw_or1 (dt_cmp op_le snd_le (dv 11) de_int)))) (de_call g__law_diversity hr tk (da_cons (dv 0) (da_cons (dv 1) (da_cons (dv 3) da_nil))) (hk := by decide)) de_non))
    (dss_cons (ds_set (i := 5) nd (de_if (dt_cmp op_isN snd_isN (dv 13) de_non) (de_lst (da_cons de_str (da_cons (dv 11) da_nil))) (de_lst (da_cons de_str (da_cons (dv 13) da_nil)))))
    (dss_cons (ds_if (dt_not (dt_val (de_call g__law_same hr tk (da_cons (de_call g__law_told hr tk (da_cons de_str (da_cons (de_lst (da_cons (dv 0) (da_cons (dv 1) (da_cons (dv 3) da_nil)))) (da_cons (dv 2) da_nil))) (hk := by decide)) (da_cons (dv 5) da_nil)) (hk := by decide)))) (dss_one (ds_ret de_bl)) dss_nil)
    (dss_cons (ds_if (DW.dt (dw_and (dt_cmp (op_neD hu) snd_ne (dv 3) de_str) (dw_and (dt_cmp op_gt snd_gt (dv 3) de_int) (dw_and1 (dt_not (dt_val (de_call g__law_same hr tk (da_cons (de_call g__law_told hr tk (da_cons de_str (da_cons (de_lst (da_cons (dv 0) (da_cons (dv 1) (da_cons (dv 3) da_nil)))) (da_cons (de_not (dv 2)) da_nil))) (hk := by decide)) (da_cons (de_lst (da_cons de_str (da_cons (de_call g__law_over hr tk (da_cons (de_tup (da_cons de_int (da_cons de_int da_nil))) (da_cons (de_ix (dv 13) de_int) da_nil)) (hk := by decide)) da_nil))) da_nil)) (hk := by decide)))))))) (dss_one (ds_ret de_bl)) dss_nil)
    (dss_cons (ds_expr (de_append (dv 12) (da_cons (dv 13) da_nil)))
    (dss_one (ds_set (i := 2) nd (de_not (dv 2))))))))))
    (dss_cons (ds_setLc (i := 4) (own := [("k", 14)]) (by rfl) nd (di_rng1 T.b_range (da_cons de_int da_nil)) (blkOk_by (N := N__law_orders_right) (sc := (defScope (top 79))) (own := [("k", 14)]) (by decide +kernel)) (fun _ _ _ _ _ => (dg_name (i := 14) nd)) (fun _ _ _ _ _ => dts_nil) (fun _ _ _ _ _ => (de_if (DW.dt (dw_or (dt_cmp op_isN snd_isN (de_ix (dv 12) (dv 14)) de_non) (dw_or1 (dt_cmp op_isN snd_isN (de_ix (dv 12) (de_op op_addA snd_add (dv 14) de_int)) de_non)))) de_non (de_call g__law_sign hr takes0 (da_cons (de_ix (dv 12) (dv 14)) (da_cons (de_ix (dv 12) (de_op op_addA snd_add (dv 14) de_int)) da_nil)) (hk := by decide)))))
    (dss_cons (ds_set (i := 5) nd (de_if (dt_cmp op_gt snd_gt (dv 11) de_int) (de_lst (da_cons de_str (da_cons (dv 11) da_nil))) (de_lst (da_cons de_str (da_cons (de_callTy call_tuple_of snd_tupOf T.b_tuple rfl (da_cons (de_slice (dv 4) do_none (do_some de_int)) da_nil)) da_nil)))))
    (dss_cons (ds_if (dt_not (dt_val (de_call g__law_same hr tk (da_cons (de_call g__law_told hr tk (da_cons de_str (da_cons (de_lst (da_cons (dv 0) (da_cons (dv 1) da_nil))) (da_cons (dv 2) da_nil))) (hk := by decide)) (da_cons (dv 5) da_nil)) (hk := by decide)))) (dss_one (ds_ret de_bl)) dss_nil)
    (dss_cons (ds_if (dt_cmp (op_neD hu) snd_ne (de_lc (own := [("sign", 15)]) (by rfl) nd (di_seq (dv 4)) (blkOk_by (N := N__law_orders_right) (sc := (defScope (top 79))) (own := [("sign", 15)]) (by decide +kernel)) (fun _ _ _ _ _ => (dg_name (i := 15) nd)) (fun _ _ _ _ _ => (dts_one (DW.dt (dw_and (dt_cmp op_notN snd_isNot (dv 15) de_non) (dw_and1 (dt_cmp op_lt snd_lt (dv 15) de_int)))))) (fun _ _ _ _ _ => (dv 15))) (de_lst da_nil)) (dss_one (ds_ret de_bl)) dss_nil)
    (dss_cons (ds_set (i := 6) nd (de_call g__law_apply hr tk (da_cons (dv 0) (da_cons (dv 1) da_nil)) (hk := by decide)))
    (dss_cons (ds_set (i := 7) nd (de_lc (own := [("k", 14)]) (by rfl) nd (di_rng1 T.b_range (da_cons (de_callB call_lenA snd_len T.b_len rfl (da_cons (dv 6) da_nil)) da_nil)) (blkOk_by (N := N__law_orders_right) (sc := (defScope (top 79))) (own := [("k", 14)]) (by decide +kernel)) (fun _ _ _ _ _ => (dg_name (i := 14) nd)) (fun _ _ _ _ _ => (dts_one (dt_cmp (op_neD hu) snd_ne (de_ix (dv 1) (dv 14)) (de_tup (da_cons de_int (da_cons de_int da_nil)))))) (fun _ _ _ _ _ => (de_ix (dv 6) (dv 14)))))
    (dss_cons (ds_set (i := 8) nd (de_cmp (op_eqD hu) snd_eq (de_lc (own := [("presence", 16)]) (by rfl) nd (di_seq (dv 7)) (blkOk_by (N := N__law_orders_right) (sc := (defScope (top 79))) (own := [("presence", 16)]) (by decide +kernel)) (fun _ _ _ _ _ => (dg_name (i := 16) nd)) (fun _ _ _ _ _ => (dts_one (dt_cmp (op_neD hu) snd_ne (dv 16) (de_ix (dv 7) de_int)))) (fun _ _ _ _ _ => (dv 16))) (de_lst da_nil)))
    (dss_cons (ds_setLc (i := 9) (own := [("sign", 15)]) (by rfl) nd (di_seq (dv 4)) (blkOk_by (N := N__law_orders_right) (sc := (defScope (top 79))) (own := [("sign", 15)]) (by decide +kernel)) (fun _ _ _ _ _ => (dg_name (i := 15) nd)) (fun _ _ _ _ _ => (dts_one (dt_cmp op_notN snd_isNot (dv 15) de_non))) (fun _ _ _ _ _ => (dv 15)))
    (dss_cons (ds_if (dt_cmp (op_neD hu) snd_ne (dv 8) (de_cmp (op_eqD hu) snd_eq (de_lc (own := [("sign", 15)]) (by rfl) nd (di_seq (dv 9)) (blkOk_by (N := N__law_orders_right) (sc := (defScope (top 79))) (own := [("sign", 15)]) (by decide +kernel)) (fun _ _ _ _ _ => (dg_name (i := 15) nd)) (fun _ _ _ _ _ => (dts_one (dt_cmp (op_neD hu) snd_ne (dv 15) de_int))) (fun _ _ _ _ _ => (dv 15))) (de_lst da_nil))) (dss_one (ds_ret de_bl)) dss_nil)
    (dss_cons (ds_set (i := 10) nd (de_lst (da_cons (de_if (dt_val (dv 2)) (de_call g_least_diversity hr tk (da_cons (dv 0) (da_cons (dv 1) da_nil)) (hk := by decide)) (de_callR (ks := ["community", "likeness"]) g_least_diversity hr tk (dk_cons (dv 1) (dk_cons (dv 0) dk_nil)) (fun _ _ _ _ _ _ ws hl => match ws, hl with | [_, _], _ => rfl) (hk := by decide))) (da_cons (de_call g_greatest_order hr tk (da_cons (dv 0) (da_cons (dv 1) da_nil)) (hk := by decide)) da_nil))))
    (dss_one (ds_ret (de_and (de_call g__law_same hr tk (da_cons (dv 10) (da_cons (de_lst (da_cons (de_ix (de_ix (dv 12) de_int) de_int) (da_cons (de_ix (de_ix (dv 12) de_int) de_int) da_nil))) da_nil)) (hk := by decide)) (de_one (de_call g__law_bounds_right hr tk (da_cons (dv 0) (da_cons (dv 1) (da_cons (dv 12) da_nil))) (hk := by decide)))))))))))))))))), fun ds M Φ Ψ h => (run ds M Φ Ψ h).2⟩
/-! ## _law_bounds_right -/
def N__law_bounds_right : List Str := ["likeness", "community", "rows", "kinds", "plainly", "most", "known", "k", "row", "i", "j"]
theorem sc__law_bounds_right : FnScope N__law_bounds_right ["likeness", "community", "rows"] (defScope (top 80)) := ⟨rfl, rfl, rfl, by decide +kernel, rfl, by decide +kernel, by decide +kernel⟩
def T__law_bounds_right (p__law_sign : DSp) : DTS :=
  (dSeq (dAsg (dLc (diRng1 (dCons (dCB dLen (dCons (dVar 1) dNil)) dNil)) (dgName 7) (dB (dOp dNe (dOp dIx (dVar 1) (dVar 7)) (dTup (dCons (dC (.int 0)) (dCons (dC (.int 1)) dNil))))) (dVar 7) [7]) (dgName 3))
  (dSeq (dAsg (dTup (dCons (dTup (dCons (dCB dLen (dCons (dVar 3) dNil)) (dCons (dC (.int 1)) dNil))) (dCons (dLc (diSeq (dVar 2)) (dgName 8) (dB (dOp dIsNot (dVar 8) (dC .non))) (dVar 8) [8]) dNil))) (dgTup (dgCons (dgName 5) (dgCons (dgName 6) dgNil))))
  (dSeq (dIfS (dB (dOp dNe (dLc (diSeq (dVar 6)) (dgName 8) (dOr (dB (dOp dLt (dCall p__law_sign (dCons (dVar 8) (dCons (dTup (dCons (dC (.int 1)) (dCons (dTup (dCons (dC (.int 1)) (dCons (dC (.int 1)) dNil))) dNil))) dNil))) (dC (.int 0)))) (dB (dOp dGt (dCall p__law_sign (dCons (dVar 8) (dCons (dTup (dCons (dC (.int 1)) (dCons (dVar 5) dNil))) dNil))) (dC (.int 0))))) (dVar 8) [8]) (dLst dNil))) (dRet (dC (.bl false))) dNext)
  (dSeq (dAsg (dOp dEq (dLc (diSeq (dVar 3)) (dgName 9) (dOr (dB (dOp dNe (dOp dIx (dVar 1) (dVar 9)) (dOp dIx (dVar 1) (dOp dIx (dVar 3) (dC (.int 0)))))) (dB (dOp dNe (dLc (diSeq (dVar 3)) (dgName 10) (dAnd (dB (dOp dNe (dVar 10) (dVar 9))) (dB (dOp dNe (dOp dIx (dOp dIx (dVar 0) (dVar 9)) (dVar 10)) (dTup (dCons (dC (.int 0)) (dCons (dC (.int 1)) dNil)))))) (dVar 10) [10]) (dLst dNil)))) (dVar 9) [9]) (dLst dNil)) (dgName 4))
  (dRet (dOp dEq (dVar 4) (dOp dEq (dLc (diSeq (dVar 6)) (dgName 8) (dB (dOp dNe (dCall p__law_sign (dCons (dVar 8) (dCons (dTup (dCons (dC (.int 1)) (dCons (dVar 5) dNil))) dNil))) (dC (.int 0)))) (dVar 8) [8]) (dLst dNil))))))))
theorem h__law_bounds_right (T : Txt P w K mg base c_InvalidNumber c_InvalidLikeness c_InvalidCommunity c_TooMany) {sp : DSp} {p__law_sign : DSp} (g__law_sign : Has P w K mg base 2 "_law_sign" (top 77) ["one", "other"] p__law_sign)
    (run : ∀ ds M Φ Ψ, sp ds M Φ Ψ → ds.length = 3 ∧ T__law_bounds_right p__law_sign (fnEnds M.length Φ Ψ) (startR N__law_bounds_right ds) M) : Has P w K mg base (2 + 1) "_law_bounds_right" (top 80) ["likeness", "community", "rows"] sp := by
  refine Def.has T.d__law_bounds_right sc__law_bounds_right (fun ds M Φ Ψ h => (run ds M Φ Ψ h).1) (fun f cdv A outer s H E hr => ?_)
  have hu := room64 hr
  have nd := sc__law_bounds_right.nd
  have tk : Takes (cxOf (L2.CX P w) P w K mg base N__law_bounds_right "_law_bounds_right" (defScope (top 80)) f cdv A outer s H E) (fun cls d _ H' => E cls d H') := takes_of rfl rfl rfl rfl
  exact ⟨_, T__law_bounds_right p__law_sign, (dss_cons (ds_set (i := 3) nd (de_lc (own := [("k", 7)]) (by rfl) nd (di_rng1 T.b_range (da_cons (de_callB call_lenA snd_len T.b_len rfl (da_cons (dv 1) da_nil)) da_nil)) (blkOk_by (N := N__law_bounds_right) (sc := (defScope (top 80))) (own := [("k", 7)]) (by decide +kernel)) (fun _ _ _ _ _ => (dg_name (i := 7) nd)) (fun _ _ _ _ _ => (dts_one (dt_cmp (op_neD hu) snd_ne (de_ix (dv 1) (dv 7)) (de_tup (da_cons de_int (da_cons de_int da_nil)))))) (fun _ _ _ _ _ => (dv 7))))
    (dss_cons (ds_asg (de_tup (da_cons (de_tup (da_cons (de_callB call_lenA snd_len T.b_len rfl (da_cons (dv 3) da_nil)) (da_cons de_int da_nil))) (da_cons (de_lc (own := [("row", 8)]) (by rfl) nd (di_seq (dv 2)) (blkOk_by (N := N__law_bounds_right) (sc := (defScope (top 80))) (own := [("row", 8)]) (by decide +kernel)) (fun _ _ _ _ _ => (dg_name (i := 8) nd)) (fun _ _ _ _ _ => (dts_one (dt_cmp op_notN snd_isNot (dv 8) de_non))) (fun _ _ _ _ _ => (dv 8))) da_nil))) (dg_two (by rfl) (dg_name (i := 5) nd) (dg_name (i := 6) nd)))
    (dss_cons (ds_if (dt_cmp (op_neD hu) snd_ne (de_lc (own := [("row", 8)]) (by rfl) nd (di_seq (dv 6)) (blkOk_by (N := N__law_bounds_right) (sc := (defScope (top 80))) (own := [("row", 8)]) (by decide +kernel)) (fun _ _ _ _ _ => (dg_name (i := 8) nd)) (fun _ _ _ _ _ => (dts_one (DW.dt (dw_or (dt_cmp op_lt snd_lt (de_call g__law_sign hr takes0 (da_cons (dv 8) (da_cons (de_tup (da_cons de_int (da_cons (de_tup (da_cons de_int (da_cons de_int da_nil))) da_nil))) da_nil)) (hk := by decide)) de_int) (dw_or1 (dt_cmp op_gt snd_gt (de_call g__law_sign hr takes0 (da_cons (dv 8) (da_cons (de_tup (da_cons de_int (da_cons (dv 5) da_nil))) da_nil)) (hk := by decide)) de_int)))))) (fun _ _ _ _ _ => (dv 8))) (de_lst da_nil)) (dss_one (ds_ret de_bl)) dss_nil)
    (dss_cons (ds_set (i := 4) nd (de_cmp (op_eqD hu) snd_eq (de_lc (own := [("i", 9)]) (by rfl) nd (di_seq (dv 3)) (blkOk_by (N := N__law_bounds_right) (sc := (defScope (top 80))) (own := [("i", 9)]) (by decide +kernel)) (fun _ _ _ _ _ => (dg_name (i := 9) nd)) (fun _ _ _ _ _ => (dts_one (DW.dt (dw_or (dt_cmp (op_neD hu) snd_ne (de_ix (dv 1) (dv 9)) (de_ix (dv 1) (de_ix (dv 3) de_int))) (dw_or1 (dt_cmp (op_neD hu) snd_ne (de_lc (own := [("j", 10)]) (by rfl) nd (di_seq (dv 3)) (blkOk_by (N := N__law_bounds_right) (sc := (relS _ (defScope (top 80)))) (own := [("j", 10)]) (by decide +kernel)) (fun _ _ _ _ _ => (dg_name (i := 10) nd)) (fun _ _ _ _ _ => (dts_one (DW.dt (dw_and (dt_cmp (op_neD hu) snd_ne (dv 10) (dv 9)) (dw_and1 (dt_cmp (op_neD hu) snd_ne (de_ix (de_ix (dv 0) (dv 9)) (dv 10)) (de_tup (da_cons de_int (da_cons de_int da_nil))))))))) (fun _ _ _ _ _ => (dv 10))) (de_lst da_nil))))))) (fun _ _ _ _ _ => (dv 9))) (de_lst da_nil)))
    (dss_one (ds_ret (de_cmp (op_eqD hu) snd_eq (dv 4) (de_cmp (op_eqD hu) snd_eq (de_lc (own := [("row", 8)]) (by rfl) nd (di_seq (dv 6)) (blkOk_by (N := N__law_bounds_right) (sc := (defScope (top 80))) (own := [("row", 8)]) (by decide +kernel)) (fun _ _ _ _ _ => (dg_name (i := 8) nd)) (fun _ _ _ _ _ => (dts_one (dt_cmp (op_neD hu) snd_ne (de_call g__law_sign hr takes0 (da_cons (dv 8) (da_cons (de_tup (da_cons de_int (da_cons (dv 5) da_nil))) da_nil)) (hk := by decide)) de_int))) (fun _ _ _ _ _ => (dv 8))) (de_lst da_nil))))))))), fun ds M Φ Ψ h => (run ds M Φ Ψ h).2⟩
/-! ## _law_signs_right -/
def N__law_signs_right : List Str := ["box", "likeness", "one", "other", "named", "q", "great", "told", "due", "many"]
theorem sc__law_signs_right : FnScope N__law_signs_right ["box", "likeness", "one", "other", "named"] (defScope (top 81)) := ⟨rfl, rfl, rfl, by decide +kernel, rfl, by decide +kernel, by decide +kernel⟩
def T__law_signs_right (p__law_take : DSp) (p__law_multiple : DSp) (p__law_sign : DSp) (p__law_diversity : DSp) (p__law_same : DSp) (p__law_told : DSp) : DTS :=
  (dSeq (dFor (diSeq (dLst (dCons (dC (.int 0)) (dCons (dC (.int 1)) (dCons (dC (.int 2)) (dCons (dC (.int 3)) (dCons (dCall p__law_take (dCons (dVar 0) (dCons (dC (.int 13)) dNil))) (dCons (dC (.str "all")) dNil)))))))) (dgName 5) (dSeq (dAsg (dLc (diSeq (dLst (dCons (dCall p__law_multiple (dCons (dVar 2) dNil)) (dCons (dCall p__law_multiple (dCons (dVar 3) dNil)) dNil)))) (dgName 9) (dB (dOp dGt (dVar 9) (dC (.int 40)))) (dVar 9) [9]) (dgName 6))
  (dSeq (dIfS (dAnd (dB (dOp dEq (dVar 5) (dC (.int 1)))) (dB (dOp dNe (dVar 6) (dLst dNil)))) (dAsg (dLst (dCons (dC (.str "many")) (dCons (dOp dIx (dVar 6) (dC (.int 0))) dNil))) (dgName 8)) (dAsg (dLst (dCons (dC (.str "told")) (dCons (dCall p__law_sign (dCons (dCall p__law_diversity (dCons (dVar 1) (dCons (dVar 2) (dCons (dVar 5) dNil)))) (dCons (dCall p__law_diversity (dCons (dVar 1) (dCons (dVar 3) (dCons (dVar 5) dNil)))) dNil))) dNil))) (dgName 8)))
  (dSeq (dIfS (dNot (dB (dCall p__law_same (dCons (dCall p__law_told (dCons (dC (.str "sign")) (dCons (dLst (dCons (dVar 1) (dCons (dVar 2) (dCons (dVar 3) (dCons (dVar 5) dNil))))) (dCons (dVar 4) dNil)))) (dCons (dVar 8) dNil))))) (dRet (dC (.bl false))) dNext)
  (dAsg (dNotV (dVar 4)) (dgName 4))))))
  (dSeq (dFor (diSeq (dLst (dCons (dUn dNeg (dC (.int 1))) (dCons (dC (.int 13)) (dCons (dC (.bl true)) (dCons (dC (.bl false)) (dCons (dC .non) (dCons (dC (.str "All")) (dCons (dC (.str "1")) (dCons (dTup (dCons (dC (.int 2)) dNil)) (dCons (dC (.str "")) (dCons (dLst (dCons (dC (.int 2)) dNil)) dNil)))))))))))) (dgName 5) (dSeq (dAsg (dLst (dCons (dCall p__law_told (dCons (dC (.str "diversity")) (dCons (dLst (dCons (dVar 1) (dCons (dVar 2) (dCons (dVar 5) dNil)))) (dCons (dVar 4) dNil)))) (dCons (dCall p__law_told (dCons (dC (.str "sign")) (dCons (dLst (dCons (dVar 1) (dCons (dVar 2) (dCons (dVar 3) (dCons (dVar 5) dNil))))) (dCons (dVar 4) dNil)))) (dCons (dCall p__law_told (dCons (dC (.str "sum")) (dCons (dLst (dCons (dVar 1) (dCons (dVar 2) (dCons (dVar 5) dNil)))) (dCons (dVar 4) dNil)))) dNil)))) (dgName 7))
  (dIfS (dNot (dB (dCall p__law_same (dCons (dVar 7) (dCons (dOp dMul (dLst (dCons (dLst (dCons (dC (.str "number")) (dCons (dVar 5) dNil))) dNil)) (dC (.int 3))) dNil))))) (dRet (dC (.bl false))) dNext)))
  (dRet (dCall p__law_same (dCons (dLc (diSeq (dTup (dCons (dC (.int 0)) (dCons (dC (.int 1)) (dCons (dC (.str "all")) dNil))))) (dgName 5) dYes (dCall p__law_told (dCons (dC (.str "sum")) (dCons (dLst (dCons (dVar 1) (dCons (dVar 2) (dCons (dVar 5) dNil)))) (dCons (dVar 4) dNil)))) [5]) (dCons (dLc (diSeq (dTup (dCons (dC (.int 0)) (dCons (dC (.int 1)) (dCons (dC (.str "all")) dNil))))) (dgName 5) dYes (dLst (dCons (dC (.str "number")) (dCons (dVar 5) dNil))) [5]) dNil))))))
theorem h__law_signs_right (T : Txt P w K mg base c_InvalidNumber c_InvalidLikeness c_InvalidCommunity c_TooMany) {sp : DSp} {p__law_take : DSp} {p__law_multiple : DSp} {p__law_sign : DSp} {p__law_diversity : DSp} {p__law_same : DSp} {p__law_told : DSp} (g__law_take : Has P w K mg base 1 "_law_take" (top 60) ["box", "many"] p__law_take) (g__law_multiple : Has P w K mg base 2 "_law_multiple" (top 75) ["community"] p__law_multiple) (g__law_sign : Has P w K mg base 2 "_law_sign" (top 77) ["one", "other"] p__law_sign) (g__law_diversity : Has P w K mg base 6 "_law_diversity" (top 76) ["likeness", "community", "q"] p__law_diversity) (g__law_same : Has P w K mg base 9 "_law_same" (top 62) ["given", "due"] p__law_same) (g__law_told : Has P w K mg base 10 "_law_told" (top 78) ["f", "a", "named"] p__law_told)
    (run : ∀ ds M Φ Ψ, sp ds M Φ Ψ → ds.length = 5 ∧ T__law_signs_right p__law_take p__law_multiple p__law_sign p__law_diversity p__law_same p__law_told (fnEnds M.length Φ Ψ) (startR N__law_signs_right ds) M) : Has P w K mg base (10 + 1) "_law_signs_right" (top 81) ["box", "likeness", "one", "other", "named"] sp := by
  refine Def.has T.d__law_signs_right sc__law_signs_right (fun ds M Φ Ψ h => (run ds M Φ Ψ h).1) (fun f cdv A outer s H E hr => ?_)
  have hu := room64 hr
  have nd := sc__law_signs_right.nd
  have tk : Takes (cxOf (L2.CX P w) P w K mg base N__law_signs_right "_law_signs_right" (defScope (top 81)) f cdv A outer s H E) (fun cls d _ H' => E cls d H') := takes_of rfl rfl rfl rfl
  exact ⟨_, T__law_signs_right p__law_take p__law_multiple p__law_sign p__law_diversity p__law_same p__law_told, (dss_cons (ds_for PassesOwn.leaving (by rfl) (di_seq (de_lst (da_cons de_int (da_cons de_int (da_cons de_int (da_cons de_int (da_cons (de_call g__law_take hr tk (da_cons (dv 0) (da_cons de_int da_nil)) (hk := by decide)) (da_cons de_str da_nil)))))))) (dg_name (i := 5) nd) (dss_cons (ds_setLc (i := 6) (own := [("many", 9)]) (by rfl) nd (di_seq (de_lst (da_cons (de_call g__law_multiple hr tk (da_cons (dv 2) da_nil) (hk := by decide)) (da_cons (de_call g__law_multiple hr tk (da_cons (dv 3) da_nil) (hk := by decide)) da_nil)))) (blkOk_by (N := N__law_signs_right) (sc := (defScope (top 81))) (own := [("many", 9)]) (by decide +kernel)) (fun _ _ _ _ _ => (dg_name (i := 9) nd)) (fun _ _ _ _ _ => (dts_one (dt_cmp op_gt snd_gt (dv 9) de_int))) (fun _ _ _ _ _ => (dv 9)))
    (dss_cons (ds_if (DW.dt (dw_and (dt_cmp (op_eqD hu) snd_eq (dv 5) de_int) (dw_and1 (dt_cmp (op_neD hu) snd_ne (dv 6) (de_lst da_nil))))) (dss_one (ds_set (i := 8) nd (de_lst (da_cons de_str (da_cons (de_ix (dv 6) de_int) da_nil))))) (dss_one (ds_set (i := 8) nd (de_lst (da_cons de_str (da_cons (de_call g__law_sign hr tk (da_cons (de_call g__law_diversity hr tk (da_cons (dv 1) (da_cons (dv 2) (da_cons (dv 5) da_nil))) (hk := by decide)) (da_cons (de_call g__law_diversity hr tk (da_cons (dv 1) (da_cons (dv 3) (da_cons (dv 5) da_nil))) (hk := by decide)) da_nil)) (hk := by decide)) da_nil))))))
    (dss_cons (ds_if (dt_not (dt_val (de_call g__law_same hr tk (da_cons (de_call g__law_told hr tk (da_cons de_str (da_cons (de_lst (da_cons (dv 1) (da_cons (dv 2) (da_cons (dv 3) (da_cons (dv 5) da_nil))))) (da_cons (dv 4) da_nil))) (hk := by decide)) (da_cons (dv 8) da_nil)) (hk := by decide)))) (dss_one (ds_ret de_bl)) dss_nil)
    (dss_one (ds_set (i := 4) nd (de_not (dv 4))))))))
    (dss_cons (ds_for PassesOwn.leaving (by rfl) (di_seq (de_lst (da_cons (de_un un_neg snd_neg de_int) (da_cons de_int (da_cons de_bl (da_cons de_bl (da_cons de_non (da_cons de_str (da_cons de_str (da_cons (de_tup (da_cons de_int da_nil)) (da_cons de_str (da_cons (de_lst (da_cons de_int da_nil)) da_nil)))))))))))) (dg_name (i := 5) nd) (dss_cons (ds_set (i := 7) nd (de_lst (da_cons (de_call g__law_told hr tk (da_cons de_str (da_cons (de_lst (da_cons (dv 1) (da_cons (dv 2) (da_cons (dv 5) da_nil)))) (da_cons (dv 4) da_nil))) (hk := by decide)) (da_cons (de_call g__law_told hr tk (da_cons de_str (da_cons (de_lst (da_cons (dv 1) (da_cons (dv 2) (da_cons (dv 3) (da_cons (dv 5) da_nil))))) (da_cons (dv 4) da_nil))) (hk := by decide)) (da_cons (de_call g__law_told hr tk (da_cons de_str (da_cons (de_lst (da_cons (dv 1) (da_cons (dv 2) (da_cons (dv 5) da_nil)))) (da_cons (dv 4) da_nil))) (hk := by decide)) da_nil)))))
    (dss_one (ds_if (dt_not (dt_val (de_call g__law_same hr tk (da_cons (dv 7) (da_cons (de_op op_mulA snd_mul (de_lst (da_cons (de_lst (da_cons de_str (da_cons (dv 5) da_nil))) da_nil)) de_int) da_nil)) (hk := by decide)))) (dss_one (ds_ret de_bl)) dss_nil))))
    (dss_one (ds_ret (de_call g__law_same hr tk (da_cons (de_lc (own := [("q", 5)]) (by rfl) nd (di_seq (de_tup (da_cons de_int (da_cons de_int (da_cons de_str da_nil))))) (blkOk_by (N := N__law_signs_right) (sc := (defScope (top 81))) (own := [("q", 5)]) (by decide +kernel)) (fun _ _ _ _ _ => (dg_name (i := 5) nd)) (fun _ _ _ _ _ => dts_nil) (fun _ _ _ _ _ => (de_call g__law_told hr takes0 (da_cons de_str (da_cons (de_lst (da_cons (dv 1) (da_cons (dv 2) (da_cons (dv 5) da_nil)))) (da_cons (dv 4) da_nil))) (hk := by decide)))) (da_cons (de_lc (own := [("q", 5)]) (by rfl) nd (di_seq (de_tup (da_cons de_int (da_cons de_int (da_cons de_str da_nil))))) (blkOk_by (N := N__law_signs_right) (sc := (defScope (top 81))) (own := [("q", 5)]) (by decide +kernel)) (fun _ _ _ _ _ => (dg_name (i := 5) nd)) (fun _ _ _ _ _ => dts_nil) (fun _ _ _ _ _ => (de_lst (da_cons de_str (da_cons (dv 5) da_nil))))) da_nil)) (hk := by decide)))))), fun ds M Φ Ψ h => (run ds M Φ Ψ h).2⟩
/-! ## _law_planted -/
def N__law_planted : List Str := ["box", "n", "way", "likeness", "far", "many", "i", "k", "j"]
theorem sc__law_planted : FnScope N__law_planted ["box", "n"] (defScope (top 82)) := ⟨rfl, rfl, rfl, by decide +kernel, rfl, by decide +kernel, by decide +kernel⟩
def T__law_planted (p__law_take : DSp) (p__law_lowest : DSp) (p__law_pick : DSp) (p__law_likeness : DSp) (p__law_community : DSp) : DTS :=
  (dSeq (dAsg (dCall p__law_take (dCons (dVar 0) (dCons (dC (.int 6)) dNil))) (dgName 2))
  (dSeq (dIfS (dB (dOp dEq (dVar 2) (dC (.int 0)))) (dRet (dLst (dCons (dCB dTupOf (dCons (dLc (diRng1 (dCons (dVar 1) dNil)) (dgName 6) dYes (dCB dTupOf (dCons (dLc (diRng1 (dCons (dVar 1) dNil)) (dgName 8) dYes (dIf (dB (dOp dEq (dVar 6) (dVar 8))) (dTup (dCons (dC (.int 1)) (dCons (dC (.int 1)) dNil))) (dTup (dCons (dC (.int 0)) (dCons (dC (.int 1)) dNil)))) [8]) dNil)) [6]) dNil)) (dCons (dCB dTupOf (dCons (dOp dMul (dLst (dCons (dCall p__law_lowest (dCons (dC (.int 1)) (dCons (dVar 1) dNil))) dNil)) (dVar 1)) dNil)) dNil)))) dNext)
  (dSeq (dIfS (dB (dOp dEq (dVar 2) (dC (.int 1)))) (dSeq (dAsg (dCall p__law_pick (dCons (dVar 0) (dCons (dLst (dCons (dTup (dCons (dC (.int 1)) (dCons (dC (.int 2)) dNil))) (dCons (dTup (dCons (dC (.int 1)) (dCons (dC (.int 3)) dNil))) (dCons (dTup (dCons (dC (.int 1)) (dCons (dC (.int 1)) dNil))) (dCons (dTup (dCons (dC (.int 0)) (dCons (dC (.int 1)) dNil))) dNil))))) dNil))) (dgName 4))
  (dRet (dLst (dCons (dCB dTupOf (dCons (dLc (diRng1 (dCons (dC (.int 4)) dNil)) (dgName 6) dYes (dCB dTupOf (dCons (dLc (diRng1 (dCons (dC (.int 4)) dNil)) (dgName 8) dYes (dIf (dB (dOp dEq (dVar 6) (dVar 8))) (dTup (dCons (dC (.int 1)) (dCons (dC (.int 1)) dNil))) (dIf (dB (dOp (dInI false) (dOp dMod (dCB dInt (dCons (dOp dSub (dVar 6) (dVar 8)) dNil)) (dC (.int 4))) (dTup (dCons (dC (.int 1)) (dCons (dC (.int 3)) dNil))))) (dVar 4) (dTup (dCons (dC (.int 0)) (dCons (dC (.int 1)) dNil))))) [8]) dNil)) [6]) dNil)) (dCons (dOp dMul (dTup (dCons (dTup (dCons (dC (.int 1)) (dCons (dC (.int 4)) dNil))) dNil)) (dC (.int 4))) dNil))))) dNext)
  (dSeq (dIfS (dB (dOp dEq (dVar 2) (dC (.int 2)))) (dSeq (dAsg (dCall p__law_likeness (dCons (dVar 0) (dCons (dVar 1) dNil))) (dgName 3))
  (dRet (dLst (dCons (dVar 3) (dCons (dCB dTupOf (dCons (dLc (diRng1 (dCons (dVar 1) dNil)) (dgName 7) dYes (dIf (dB (dOp dEq (dVar 7) (dOp dSub (dVar 1) (dC (.int 1))))) (dTup (dCons (dC (.int 1)) (dCons (dC (.int 1)) dNil))) (dTup (dCons (dC (.int 0)) (dCons (dC (.int 1)) dNil)))) [7]) dNil)) dNil))))) dNext)
  (dSeq (dAsg (dCall p__law_likeness (dCons (dVar 0) (dCons (dVar 1) dNil))) (dgName 3))
  (dSeq (dIfS (dAnd (dB (dOp dEq (dVar 2) (dC (.int 3)))) (dB (dOp dGt (dVar 1) (dC (.int 1))))) (dSeq (dAsg (dCall p__law_pick (dCons (dVar 0) (dCons (dLst (dCons (dC (.int 41)) (dCons (dC (.int 37)) (dCons (dC (.int 40)) (dCons (dC (.int 83)) dNil))))) dNil))) (dgName 5))
  (dRet (dLst (dCons (dVar 3) (dCons (dOp dAdd (dTup (dCons (dCall p__law_lowest (dCons (dOp dSub (dVar 5) (dC (.int 1))) (dCons (dVar 5) dNil))) (dCons (dTup (dCons (dC (.int 1)) (dCons (dVar 5) dNil))) dNil))) (dOp dMul (dTup (dCons (dTup (dCons (dC (.int 0)) (dCons (dC (.int 1)) dNil))) dNil)) (dOp dSub (dVar 1) (dC (.int 2))))) dNil))))) dNext)
  (dRet (dLst (dCons (dVar 3) (dCons (dCall p__law_community (dCons (dVar 0) (dCons (dVar 1) dNil))) dNil))))))))))
theorem h__law_planted (T : Txt P w K mg base c_InvalidNumber c_InvalidLikeness c_InvalidCommunity c_TooMany) {sp : DSp} {p__law_take : DSp} {p__law_lowest : DSp} {p__law_pick : DSp} {p__law_likeness : DSp} {p__law_community : DSp} (g__law_take : Has P w K mg base 1 "_law_take" (top 60) ["box", "many"] p__law_take) (g__law_lowest : Has P w K mg base 1 "_law_lowest" (top 63) ["n", "d"] p__law_lowest) (g__law_pick : Has P w K mg base 2 "_law_pick" (top 61) ["box", "items"] p__law_pick) (g__law_likeness : Has P w K mg base 3 "_law_likeness" (top 72) ["box", "n"] p__law_likeness) (g__law_community : Has P w K mg base 3 "_law_community" (top 73) ["box", "n"] p__law_community)
    (run : ∀ ds M Φ Ψ, sp ds M Φ Ψ → ds.length = 2 ∧ T__law_planted p__law_take p__law_lowest p__law_pick p__law_likeness p__law_community (fnEnds M.length Φ Ψ) (startR N__law_planted ds) M) : Has P w K mg base (3 + 1) "_law_planted" (top 82) ["box", "n"] sp := by
  refine Def.has T.d__law_planted sc__law_planted (fun ds M Φ Ψ h => (run ds M Φ Ψ h).1) (fun f cdv A outer s H E hr => ?_)
  have hu := room64 hr
  have nd := sc__law_planted.nd
  have tk : Takes (cxOf (L2.CX P w) P w K mg base N__law_planted "_law_planted" (defScope (top 82)) f cdv A outer s H E) (fun cls d _ H' => E cls d H') := takes_of rfl rfl rfl rfl
  exact ⟨_, T__law_planted p__law_take p__law_lowest p__law_pick p__law_likeness p__law_community, (dss_cons (ds_set (i := 2) nd (de_call g__law_take hr tk (da_cons (dv 0) (da_cons de_int da_nil)) (hk := by decide)))
    (dss_cons (ds_if (dt_cmp (op_eqD hu) snd_eq (dv 2) de_int) (dss_one (ds_ret (de_lst (da_cons (de_callTy call_tuple_of snd_tupOf T.b_tuple rfl (da_cons (de_lc (own := [("i", 6)]) (by rfl) nd (di_rng1 T.b_range (da_cons (dv 1) da_nil)) (blkOk_by (N := N__law_planted) (sc := (defScope (top 82))) (own := [("i", 6)]) (by decide +kernel)) (fun _ _ _ _ _ => (dg_name (i := 6) nd)) (fun _ _ _ _ _ => dts_nil) (fun _ _ _ _ _ => (de_callTy call_tuple_of snd_tupOf T.b_tuple rfl (da_cons (de_lc (own := [("j", 8)]) (by rfl) nd (di_rng1 T.b_range (da_cons (dv 1) da_nil)) (blkOk_by (N := N__law_planted) (sc := (relS _ (defScope (top 82)))) (own := [("j", 8)]) (by decide +kernel)) (fun _ _ _ _ _ => (dg_name (i := 8) nd)) (fun _ _ _ _ _ => dts_nil) (fun _ _ _ _ _ => (de_if (dt_cmp (op_eqD hu) snd_eq (dv 6) (dv 8)) (de_tup (da_cons de_int (da_cons de_int da_nil))) (de_tup (da_cons de_int (da_cons de_int da_nil)))))) da_nil)))) da_nil)) (da_cons (de_callTy call_tuple_of snd_tupOf T.b_tuple rfl (da_cons (de_op op_mulA snd_mul (de_lst (da_cons (de_call g__law_lowest hr tk (da_cons de_int (da_cons (dv 1) da_nil)) (hk := by decide)) da_nil)) (dv 1)) da_nil)) da_nil))))) dss_nil)
    (dss_cons (ds_if (dt_cmp (op_eqD hu) snd_eq (dv 2) de_int) (dss_cons (ds_set (i := 4) nd (de_call g__law_pick hr tk (da_cons (dv 0) (da_cons (de_lst (da_cons (de_tup (da_cons de_int (da_cons de_int da_nil))) (da_cons (de_tup (da_cons de_int (da_cons de_int da_nil))) (da_cons (de_tup (da_cons de_int (da_cons de_int da_nil))) (da_cons (de_tup (da_cons de_int (da_cons de_int da_nil))) da_nil))))) da_nil)) (hk := by decide)))
    (dss_one (ds_ret (de_lst (da_cons (de_callTy call_tuple_of snd_tupOf T.b_tuple rfl (da_cons (de_lc (own := [("i", 6)]) (by rfl) nd (di_rng1 T.b_range (da_cons de_int da_nil)) (blkOk_by (N := N__law_planted) (sc := (defScope (top 82))) (own := [("i", 6)]) (by decide +kernel)) (fun _ _ _ _ _ => (dg_name (i := 6) nd)) (fun _ _ _ _ _ => dts_nil) (fun _ _ _ _ _ => (de_callTy call_tuple_of snd_tupOf T.b_tuple rfl (da_cons (de_lc (own := [("j", 8)]) (by rfl) nd (di_rng1 T.b_range (da_cons de_int da_nil)) (blkOk_by (N := N__law_planted) (sc := (relS _ (defScope (top 82)))) (own := [("j", 8)]) (by decide +kernel)) (fun _ _ _ _ _ => (dg_name (i := 8) nd)) (fun _ _ _ _ _ => dts_nil) (fun _ _ _ _ _ => (de_if (dt_cmp (op_eqD hu) snd_eq (dv 6) (dv 8)) (de_tup (da_cons de_int (da_cons de_int da_nil))) (de_if (dt_cmp op_in_seq snd_inI (de_op op_modN snd_mod (de_callTy call_int1 snd_toInt T.b_int rfl (da_cons (de_op op_sub snd_sub (dv 6) (dv 8)) da_nil)) de_int) (de_tup (da_cons de_int (da_cons de_int da_nil)))) (dv 4) (de_tup (da_cons de_int (da_cons de_int da_nil))))))) da_nil)))) da_nil)) (da_cons (de_op op_mulA snd_mul (de_tup (da_cons (de_tup (da_cons de_int (da_cons de_int da_nil))) da_nil)) de_int) da_nil)))))) dss_nil)
    (dss_cons (ds_if (dt_cmp (op_eqD hu) snd_eq (dv 2) de_int) (dss_cons (ds_set (i := 3) nd (de_call g__law_likeness hr tk (da_cons (dv 0) (da_cons (dv 1) da_nil)) (hk := by decide)))
    (dss_one (ds_ret (de_lst (da_cons (dv 3) (da_cons (de_callTy call_tuple_of snd_tupOf T.b_tuple rfl (da_cons (de_lc (own := [("k", 7)]) (by rfl) nd (di_rng1 T.b_range (da_cons (dv 1) da_nil)) (blkOk_by (N := N__law_planted) (sc := (defScope (top 82))) (own := [("k", 7)]) (by decide +kernel)) (fun _ _ _ _ _ => (dg_name (i := 7) nd)) (fun _ _ _ _ _ => dts_nil) (fun _ _ _ _ _ => (de_if (dt_cmp (op_eqD hu) snd_eq (dv 7) (de_op op_sub snd_sub (dv 1) de_int)) (de_tup (da_cons de_int (da_cons de_int da_nil))) (de_tup (da_cons de_int (da_cons de_int da_nil)))))) da_nil)) da_nil)))))) dss_nil)
    (dss_cons (ds_set (i := 3) nd (de_call g__law_likeness hr tk (da_cons (dv 0) (da_cons (dv 1) da_nil)) (hk := by decide)))
    (dss_cons (ds_if (DW.dt (dw_and (dt_cmp (op_eqD hu) snd_eq (dv 2) de_int) (dw_and1 (dt_cmp op_gt snd_gt (dv 1) de_int)))) (dss_cons (ds_set (i := 5) nd (de_call g__law_pick hr tk (da_cons (dv 0) (da_cons (de_lst (da_cons de_int (da_cons de_int (da_cons de_int (da_cons de_int da_nil))))) da_nil)) (hk := by decide)))
    (dss_one (ds_ret (de_lst (da_cons (dv 3) (da_cons (de_op op_addA snd_add (de_tup (da_cons (de_call g__law_lowest hr tk (da_cons (de_op op_sub snd_sub (dv 5) de_int) (da_cons (dv 5) da_nil)) (hk := by decide)) (da_cons (de_tup (da_cons de_int (da_cons (dv 5) da_nil))) da_nil))) (de_op op_mulA snd_mul (de_tup (da_cons (de_tup (da_cons de_int (da_cons de_int da_nil))) da_nil)) (de_op op_sub snd_sub (dv 1) de_int))) da_nil)))))) dss_nil)
    (dss_one (ds_ret (de_lst (da_cons (dv 3) (da_cons (de_call g__law_community hr tk (da_cons (dv 0) (da_cons (dv 1) da_nil)) (hk := by decide)) da_nil))))))))))), fun ds M Φ Ψ h => (run ds M Φ Ψ h).2⟩
/-! ## law -/
def N_law : List Str := ["script", "k", "box", "named", "great", "likeness", "community"]
theorem sc_law : FnScope N_law ["script"] (defScope (top 83)) := ⟨rfl, rfl, rfl, by decide +kernel, rfl, by decide +kernel, by decide +kernel⟩
def T_law (p__law_box : DSp) (p__law_cell : DSp) (p__law_take : DSp) (p__law_planted : DSp) (p__law_orders_right : DSp) (p__law_signs_right : DSp) (p__law_community : DSp) : DTS :=
  (dSeq (dFor (diRng1 (dCons (dCB dMax2 (dCons (dC (.int 2)) (dCons (dCB dMin2 (dCons (dC (.int 3)) (dCons (dCB dLen (dCons (dVar 0) dNil)) dNil))) dNil))) dNil)) (dgName 1) (dSeq (dAsg (dCall p__law_box (dCons (dCall p__law_cell (dCons (dVar 0) (dCons (dVar 1) dNil))) dNil)) (dgName 2))
  (dSeq (dPar 3 4 (dCons (dOp dEq (dCall p__law_take (dCons (dVar 2) (dCons (dC (.int 2)) dNil))) (dC (.int 0))) (dCons (dOp dEq (dCall p__law_take (dCons (dVar 2) (dCons (dC (.int 8)) dNil))) (dC (.int 0))) dNil)))
  (dSeq (dAsg (dCall p__law_planted (dCons (dVar 2) (dCons (dIf (dB (dVar 4)) (dC (.int 8)) (dOp dAdd (dC (.int 1)) (dCall p__law_take (dCons (dVar 2) (dCons (dC (.int 4)) dNil))))) dNil))) (dgLst (dgCons (dgName 5) (dgCons (dgName 6) dgNil))))
  (dSeq (dIfS (dNot (dB (dCall p__law_orders_right (dCons (dVar 5) (dCons (dVar 6) (dCons (dVar 3) dNil)))))) (dRet (dC (.bl false))) dNext)
  (dIfS (dNot (dB (dCall p__law_signs_right (dCons (dVar 2) (dCons (dVar 5) (dCons (dVar 6) (dCons (dCall p__law_community (dCons (dVar 2) (dCons (dCB dLen (dCons (dVar 5) dNil)) dNil))) (dCons (dNotV (dVar 3)) dNil)))))))) (dRet (dC (.bl false))) dNext))))))
  (dRet (dC (.bl true))))
theorem h_law (T : Txt P w K mg base c_InvalidNumber c_InvalidLikeness c_InvalidCommunity c_TooMany) {sp : DSp} {p__law_box : DSp} {p__law_cell : DSp} {p__law_take : DSp} {p__law_planted : DSp} {p__law_orders_right : DSp} {p__law_signs_right : DSp} {p__law_community : DSp} (g__law_box : Has P w K mg base 1 "_law_box" (top 59) ["great"] p__law_box) (g__law_cell : Has P w K mg base 1 "_law_cell" (top 58) ["script", "k"] p__law_cell) (g__law_take : Has P w K mg base 1 "_law_take" (top 60) ["box", "many"] p__law_take) (g__law_planted : Has P w K mg base 4 "_law_planted" (top 82) ["box", "n"] p__law_planted) (g__law_orders_right : Has P w K mg base 11 "_law_orders_right" (top 79) ["likeness", "community", "named"] p__law_orders_right) (g__law_signs_right : Has P w K mg base 11 "_law_signs_right" (top 81) ["box", "likeness", "one", "other", "named"] p__law_signs_right) (g__law_community : Has P w K mg base 3 "_law_community" (top 73) ["box", "n"] p__law_community)
    (run : ∀ ds M Φ Ψ, sp ds M Φ Ψ → ds.length = 1 ∧ T_law p__law_box p__law_cell p__law_take p__law_planted p__law_orders_right p__law_signs_right p__law_community (fnEnds M.length Φ Ψ) (startR N_law ds) M) : Has P w K mg base (11 + 1) "law" (top 83) ["script"] sp := by
  refine Def.has T.d_law sc_law (fun ds M Φ Ψ h => (run ds M Φ Ψ h).1) (fun f cdv A outer s H E hr => ?_)
  have hu := room64 hr
  have nd := sc_law.nd
  have tk : Takes (cxOf (L2.CX P w) P w K mg base N_law "law" (defScope (top 83)) f cdv A outer s H E) (fun cls d _ H' => E cls d H') := takes_of rfl rfl rfl rfl
  exact ⟨_, T_law p__law_box p__law_cell p__law_take p__law_planted p__law_orders_right p__law_signs_right p__law_community, (dss_cons (ds_for PassesOwn.leaving (by rfl) (di_rng1 T.b_range (da_cons (de_callB (call_max2 (by rfl)) snd_max2 T.b_max rfl (da_cons de_int (da_cons (de_callB (call_min2 (by rfl)) snd_min2 T.b_min rfl (da_cons de_int (da_cons (de_callB call_lenA snd_len T.b_len rfl (da_cons (dv 0) da_nil)) da_nil))) da_nil))) da_nil)) (dg_name (i := 1) nd) (dss_cons (ds_set (i := 2) nd (de_call g__law_box hr tk (da_cons (de_call g__law_cell hr tk (da_cons (dv 0) (da_cons (dv 1) da_nil)) (hk := by decide)) da_nil) (hk := by decide)))
    (dss_cons (ds_par (i := 3) (j := 4) (by rfl) nd (da_cons (de_cmp (op_eqD hu) snd_eq (de_call g__law_take hr tk (da_cons (dv 2) (da_cons de_int da_nil)) (hk := by decide)) de_int) (da_cons (de_cmp (op_eqD hu) snd_eq (de_call g__law_take hr tk (da_cons (dv 2) (da_cons de_int da_nil)) (hk := by decide)) de_int) da_nil)))
    (dss_cons (ds_asg (de_call g__law_planted hr tk (da_cons (dv 2) (da_cons (de_if (dt_val (dv 4)) de_int (de_op op_addA snd_add de_int (de_call g__law_take hr tk (da_cons (dv 2) (da_cons de_int da_nil)) (hk := by decide)))) da_nil)) (hk := by decide)) (dg_twoL (by rfl) (dg_name (i := 5) nd) (dg_name (i := 6) nd)))
    (dss_cons (ds_if (dt_not (dt_val (de_call g__law_orders_right hr tk (da_cons (dv 5) (da_cons (dv 6) (da_cons (dv 3) da_nil))) (hk := by decide)))) (dss_one (ds_ret de_bl)) dss_nil)
    (dss_one (ds_if (dt_not (dt_val (de_call g__law_signs_right hr tk (da_cons (dv 2) (da_cons (dv 5) (da_cons (dv 6) (da_cons (de_call g__law_community hr tk (da_cons (dv 2) (da_cons (de_callB call_lenA snd_len T.b_len rfl (da_cons (dv 5) da_nil)) da_nil)) (hk := by decide)) (da_cons (de_not (dv 3)) da_nil))))) (hk := by decide)))) (dss_one (ds_ret de_bl)) dss_nil)))))))
    (dss_one (ds_ret de_bl))), fun ds M Φ Ψ h => (run ds M Φ Ψ h).2⟩
end
end K85

set_option Elab.async false
set_option linter.all false
set_option autoImplicit false
set_option maxRecDepth 100000
set_option maxHeartbeats 2000000
/-! # Fractions as data, sizes -/
namespace K85
open PySem PySem.Spec L2 DL
open PyProof.Rows hiding St
def fr (q : Rat) : D := .tup [.int q.num, .int q.den]
theorem atI_0 {α : Type} {a : α} {l : List α} : L2.atI (a :: l) (0 : Int) = some a := by
  have := atI_nat (l := a :: l) (i := 0); simpa using this
theorem atI_1 {α : Type} {a b : α} {l : List α} : L2.atI (a :: b :: l) (1 : Int) = some b := by
  have := atI_nat (l := a :: b :: l) (i := 1); simpa using this
theorem atI_2 {α : Type} {a b c : α} {l : List α} : L2.atI (a :: b :: c :: l) (2 : Int) = some c := by
  have := atI_nat (l := a :: b :: c :: l) (i := 2); simpa using this
theorem atI_3 {α : Type} {a b c d : α} {l : List α} : L2.atI (a :: b :: c :: d :: l) (3 : Int) = some d := by
  have := atI_nat (l := a :: b :: c :: d :: l) (i := 3); simpa using this
/-- numbers of fewer than n bits -/
def Bt (n : Nat) (a : Int) : Prop := a.natAbs < 2 ^ n
theorem Bt.mono {m n : Nat} {a : Int} (h : Bt m a) (hn : m ≤ n) : Bt n a := Nat.lt_of_lt_of_le h (Nat.pow_le_pow_right (by decide) hn)
theorem Bt.mul {m n : Nat} {a b : Int} (h : Bt m a) (k : Bt n b) : Bt (m + n) (a * b) := by
  unfold Bt at *
  rw [Int.natAbs_mul, Nat.pow_add]
  exact Nat.mul_lt_mul'' h k
theorem Bt.add {m n : Nat} {a b : Int} (h : Bt m a) (k : Bt n b) : Bt (max m n + 1) (a + b) := by
  have h1 := h.mono (Nat.le_max_left m n)
  have h2 := k.mono (Nat.le_max_right m n)
  unfold Bt at *
  rw [Nat.pow_succ]
  have := Int.natAbs_add_le a b
  omega
theorem Bt.neg {m : Nat} {a : Int} (h : Bt m a) : Bt m (-a) := by unfold Bt at *; rwa [Int.natAbs_neg]
theorem Bt.pow {m : Nat} {a : Int} (h : Bt m a) : ∀ k : Nat, Bt (m * k + 1) (a ^ k)
  | 0 => by unfold Bt; simp
  | k + 1 => by
    have := Bt.mul (Bt.pow h k) h
    rw [Int.pow_succ]
    exact this.mono (by rw [Nat.mul_succ]; omega)
theorem Bt.log {m : Nat} {a : Int} (h : Bt m a) : a.natAbs.log2 ≤ m := by
  by_cases z : a.natAbs = 0
  · rw [z]; simp
  · exact Nat.le_of_lt ((Nat.log2_lt z).2 h)
theorem Bt.cm {m n : Nat} {a b : Int} (h : Bt m a) (k : Bt n b) (l : m + n < 1000000) : CMulW a b := by
  have := h.log
  have := k.log
  unfold CMulW
  omega
theorem Bt.gcd {m : Nat} {a b : Int} (h : Bt m b) (hb : b ≠ 0) : Bt m ((Nat.gcd a.natAbs b.natAbs : Nat) : Int) := by
  unfold Bt at *
  exact Nat.lt_of_le_of_lt (Nat.gcd_le_right _ (by omega)) h
/-- a fraction of few bits -/
def Sm (n : Nat) (x : Rat) : Prop := Bt n x.num ∧ Bt n x.den
theorem Sm.mono {m n : Nat} {x : Rat} (h : Sm m x) (hn : m ≤ n) : Sm n x := ⟨h.1.mono hn, h.2.mono hn⟩
theorem Sm.pos {n : Nat} {x : Rat} (h : Sm n x) : 0 < n := by
  have h2 := h.2
  unfold Bt at h2
  have := x.den_nz
  rcases Nat.eq_zero_or_pos n with z | z
  · subst z; simp at h2; omega
  · exact z
theorem Sm.divInt {n : Nat} {a b : Int} (h : Bt n a) (k : Bt n b) (hn : 0 < n) : Sm n (Rat.divInt a b) := by
  unfold Sm Bt at *
  rw [Rat.num_divInt, Rat.den_divInt]
  constructor
  · refine Nat.lt_of_le_of_lt ?_ h
    rw [Int.natAbs_ediv_of_dvd]
    · refine Nat.le_trans (Nat.div_le_self _ _) ?_
      rw [Int.natAbs_mul]
      by_cases z : b = 0
      · subst z; simp
      · rw [Int.natAbs_sign_of_ne_zero z]; omega
    · exact Int.dvd_trans (Int.gcd_dvd_right ..) (Int.dvd_mul_left ..)
  · rw [Int.natAbs_natCast]
    split
    · exact Nat.one_lt_two_pow (by omega)
    · exact Nat.lt_of_le_of_lt (Nat.div_le_self _ _) k
theorem rat_mul (x y : Rat) : x * y = Rat.divInt (x.num * y.num) (x.den * y.den) := by
  conv => lhs; rw [← Rat.num_divInt_den x, ← Rat.num_divInt_den y]
  rw [Rat.divInt_mul_divInt]
theorem rat_add (x y : Rat) : x + y = Rat.divInt (x.num * y.den + y.num * x.den) (x.den * y.den) := by
  conv => lhs; rw [← Rat.num_divInt_den x, ← Rat.num_divInt_den y]
  rw [Rat.divInt_add_divInt _ _ (by have := x.den_nz; omega) (by have := y.den_nz; omega)]
theorem rat_div (x y : Rat) : x / y = Rat.divInt (x.num * y.den) (x.den * y.num) := by
  conv => lhs; rw [← Rat.num_divInt_den x, ← Rat.num_divInt_den y]
  rw [Rat.div_def, Rat.inv_divInt, Rat.divInt_mul_divInt]
theorem Sm.mul {m n : Nat} {x y : Rat} (h : Sm m x) (k : Sm n y) : Sm (m + n) (x * y) := by
  rw [rat_mul]
  exact Sm.divInt (h.1.mul k.1) (h.2.mul k.2) (by have := h.pos; omega)
theorem Sm.add {m n : Nat} {x y : Rat} (h : Sm m x) (k : Sm n y) : Sm (m + n + 1) (x + y) := by
  rw [rat_add]
  refine Sm.divInt (((h.1.mul k.2).add (k.1.mul h.2)).mono (by omega)) ((h.2.mul k.2).mono (by omega)) (by omega)
theorem Sm.div {m n : Nat} {x y : Rat} (h : Sm m x) (k : Sm n y) : Sm (m + n) (x / y) := by
  rw [rat_div]
  exact Sm.divInt (h.1.mul k.2) (h.2.mul k.1) (by have := h.pos; omega)
theorem Sm.inv {m : Nat} {x : Rat} (h : Sm m x) : Sm m x⁻¹ := by
  have e : x⁻¹ = Rat.divInt (x.den : Int) x.num := by
    conv => lhs; rw [← Rat.num_divInt_den x]
    rw [Rat.inv_divInt]
  rw [e]
  exact Sm.divInt h.2 h.1 h.pos
theorem Sm.pow {m : Nat} {x : Rat} (h : Sm m x) (k : Nat) : Sm (m * k + 1) (x ^ k) := by
  unfold Sm
  rw [Rat.num_pow, Rat.den_pow]
  refine ⟨h.1.pow k, ?_⟩
  have := h.2.pow k
  rwa [← Int.natCast_pow] at this
/-- the reduced form by the greatest common divisor -/
theorem low_pos {a b : Int} (hb : 0 < b) : a.fdiv (Nat.gcd a.natAbs b.natAbs : Nat) = (Rat.divInt a b).num ∧ b.fdiv (Nat.gcd a.natAbs b.natAbs : Nat) = ((Rat.divInt a b).den : Int) := by
  rw [Rat.num_divInt, Rat.den_divInt, if_neg (by omega), Int.sign_eq_one_of_pos hb, Int.one_mul]
  have e : (Nat.gcd a.natAbs b.natAbs) = b.gcd a := by rw [Int.gcd_comm]; rfl
  rw [e]
  have g0 : (0 : Int) ≤ (b.gcd a : Int) := Int.natCast_nonneg _
  rw [Int.fdiv_eq_ediv_of_nonneg _ g0, Int.fdiv_eq_ediv_of_nonneg _ g0]
  refine ⟨rfl, ?_⟩
  rw [Int.natCast_ediv]
  congr 1
  omega
theorem low_neg {a b : Int} (hb : b < 0) : a.fdiv (-(Nat.gcd a.natAbs b.natAbs : Nat)) = (Rat.divInt a b).num ∧ b.fdiv (-(Nat.gcd a.natAbs b.natAbs : Nat)) = ((Rat.divInt a b).den : Int) := by
  have h := low_pos (a := -a) (b := -b) (by omega)
  rw [Int.natAbs_neg, Int.natAbs_neg] at h
  have e : Rat.divInt (-a) (-b) = Rat.divInt a b := Rat.neg_divInt_neg a b
  rw [e] at h
  have f : ∀ x y : Int, (-x).fdiv y = x.fdiv (-y) := fun x y => by
    have := Int.neg_fdiv_neg x (-y)
    rw [Int.neg_neg] at this
    exact this
  rw [f, f] at h
  exact h
end K85

set_option Elab.async false
set_option linter.all false
set_option autoImplicit false
set_option maxRecDepth 100000
set_option maxHeartbeats 4000000
/-! # What the fractions' defs do -/
namespace K85
open PySem PySem.Spec L2 DL
open PyProof.Rows hiding St
theorem small {n : Nat} (h : n ≤ 1000000) : n ≤ sizeLine := Nat.le_trans h (by decide)
/-! ## plain -/
def s_is_integer : DSp := fun ds M Φ _ => ∃ d t, ds = [d] ∧ D.tyn M d = some t ∧ Φ (.bl (isA t "int" && !isA t "bool")) M
theorem r_is_integer : ∀ ds M Φ Ψ, s_is_integer ds M Φ Ψ → ds.length = 1 ∧ T_is_integer (fnEnds M.length Φ Ψ) (startR N_is_integer ds) M := by
  rintro ds M Φ Ψ ⟨d, t, rfl, ht, h⟩
  refine ⟨rfl, ?_⟩
  simp only [dSeq, dAsg, dIf, dIfS, dB, dOp, dUn, dCB, dCons, dNil, dTup, dLst, dVar, dC, dgName, dgTup, dgLst, dgCons, dgNil, dRet, dRetN, dDrop, dPar, dPar3, dNext, dAnd, dOr, dNot, dAndV, dOrV, dNotV, dChain, dCall, dCallR, dFor, diSeq, diRng1, diZip, diEnum, dLc, dYes, dElt, fnEnds, startR, wipeR, dAdd, dSub, dMul, dFdiv, dMod, dPow, dInt2, dNeg, dCmpI, dLt, dLe, dGt, dGe, dEq, dNe, D.res, dIsN, dIsNot, D.isN, dIsB, dIx, dSl, dPart, dNoPart, dSlR, dLen, dAbs, dInts2, dMax2, dMin2, dGcd, dInt, dTupOf, dIs1, dIs2, sq, lv, lvf, atI_0, atI_1, atI_2, atI_3, List.map, List.length, List.cons_append, List.nil_append, List.replicate, List.getElem?_cons_zero, List.getElem?_cons_succ, List.set, keepOf, if_true, if_false, T_is_integer, N_is_integer, ht]
  cases q : isA t "int" with
  | true =>
    rw [q] at h
    exact DropN.of h
  | false =>
    rw [q] at h
    exact DropN.of h
def s_is_between : DSp := fun ds M Φ _ => ∃ d, ∃ a b : Int, ds = [d, .int a, .int b] ∧ ((∃ k : Int, d = .int k ∧ Φ (.bl (decide (a ≤ k) && decide (k ≤ b))) M) ∨ (∃ t, D.tyn M d = some t ∧ (isA t "int" && !isA t "bool") = false ∧ Φ (.bl false) M))
theorem r_is_between : ∀ ds M Φ Ψ, s_is_between ds M Φ Ψ → ds.length = 3 ∧ T_is_between s_is_integer (fnEnds M.length Φ Ψ) (startR N_is_between ds) M := by
  rintro ds M Φ Ψ ⟨d, a, b, rfl, h⟩
  refine ⟨rfl, ?_⟩
  simp only [dSeq, dAsg, dIf, dIfS, dB, dOp, dUn, dCB, dCons, dNil, dTup, dLst, dVar, dC, dgName, dgTup, dgLst, dgCons, dgNil, dRet, dRetN, dDrop, dPar, dPar3, dNext, dAnd, dOr, dNot, dAndV, dOrV, dNotV, dChain, dCall, dCallR, dFor, diSeq, diRng1, diZip, diEnum, dLc, dYes, dElt, fnEnds, startR, wipeR, dAdd, dSub, dMul, dFdiv, dMod, dPow, dInt2, dNeg, dCmpI, dLt, dLe, dGt, dGe, dEq, dNe, D.res, dIsN, dIsNot, D.isN, dIsB, dIx, dSl, dPart, dNoPart, dSlR, dLen, dAbs, dInts2, dMax2, dMin2, dGcd, dInt, dTupOf, dIs1, dIs2, sq, lv, lvf, atI_0, atI_1, atI_2, atI_3, List.map, List.length, List.cons_append, List.nil_append, List.replicate, List.getElem?_cons_zero, List.getElem?_cons_succ, List.set, keepOf, if_true, if_false, T_is_between, N_is_between]
  rcases h with ⟨k, rfl, h⟩ | ⟨t, ht, e, h⟩
  · refine ⟨.int k, "int", rfl, rfl, ?_⟩
    show (if (decide (a ≤ k)) = true then _ else _)
    cases q : decide (a ≤ k) with
    | true =>
      rw [q] at h
      exact DropN.of h
    | false =>
      rw [q] at h
      exact DropN.of h
  · refine ⟨d, t, rfl, ht, ?_⟩
    rw [e]
    exact DropN.of h
def s_is_tuple_of : DSp := fun ds M Φ _ => ∃ xs, ∃ n : Int, ds = [.tup xs, .int n] ∧ Φ (.bl (decide ((xs.length : Int) = n))) M
theorem r_is_tuple_of : ∀ ds M Φ Ψ, s_is_tuple_of ds M Φ Ψ → ds.length = 2 ∧ T_is_tuple_of (fnEnds M.length Φ Ψ) (startR N_is_tuple_of ds) M := by
  rintro ds M Φ Ψ ⟨xs, n, rfl, h⟩
  refine ⟨rfl, ?_⟩
  simp only [dSeq, dAsg, dIf, dIfS, dB, dOp, dUn, dCB, dCons, dNil, dTup, dLst, dVar, dC, dgName, dgTup, dgLst, dgCons, dgNil, dRet, dRetN, dDrop, dPar, dPar3, dNext, dAnd, dOr, dNot, dAndV, dOrV, dNotV, dChain, dCall, dCallR, dFor, diSeq, diRng1, diZip, diEnum, dLc, dYes, dElt, fnEnds, startR, wipeR, dAdd, dSub, dMul, dFdiv, dMod, dPow, dInt2, dNeg, dCmpI, dLt, dLe, dGt, dGe, dEq, dNe, D.res, dIsN, dIsNot, D.isN, dIsB, dIx, dSl, dPart, dNoPart, dSlR, dLen, dAbs, dInts2, dMax2, dMin2, dGcd, dInt, dTupOf, dIs1, dIs2, sq, lv, lvf, atI_0, atI_1, atI_2, atI_3, List.map, List.length, List.cons_append, List.nil_append, List.replicate, List.getElem?_cons_zero, List.getElem?_cons_succ, List.set, keepOf, if_true, if_false, D.eqv, D.eqvL, D.fl, D.flL, T_is_tuple_of, N_is_tuple_of, D.tyn]
  refine ⟨trivial, trivial, ?_⟩
  have e : (((xs.length : Int) == n) : Bool) = decide ((xs.length : Int) = n) := rfl
  rw [e]
  exact DropN.of h
def s_lowest : DSp := fun ds M Φ _ => ∃ a b : Int, ds = [.int a, .int b] ∧ b ≠ 0 ∧ Bt 8999 b ∧ Φ (fr (Rat.divInt a b)) M
theorem r_lowest : ∀ ds M Φ Ψ, s_lowest ds M Φ Ψ → ds.length = 2 ∧ T_lowest (fnEnds M.length Φ Ψ) (startR N_lowest ds) M := by
  rintro ds M Φ Ψ ⟨a, b, rfl, hb, bt, h⟩
  refine ⟨rfl, ?_⟩
  simp only [dSeq, dAsg, dIf, dIfS, dB, dOp, dUn, dCB, dCons, dNil, dTup, dLst, dVar, dC, dgName, dgTup, dgLst, dgCons, dgNil, dRet, dRetN, dDrop, dPar, dPar3, dNext, dAnd, dOr, dNot, dAndV, dOrV, dNotV, dChain, dCall, dCallR, dFor, diSeq, diRng1, diZip, diEnum, dLc, dYes, dElt, fnEnds, startR, wipeR, dAdd, dSub, dMul, dFdiv, dMod, dPow, dInt2, dNeg, dCmpI, dLt, dLe, dGt, dGe, dEq, dNe, D.res, dIsN, dIsNot, D.isN, dIsB, dIx, dSl, dPart, dNoPart, dSlR, dLen, dAbs, dInts2, dMax2, dMin2, dGcd, dInt, dTupOf, dIs1, dIs2, sq, lv, lvf, atI_0, atI_1, atI_2, atI_3, List.map, List.length, List.cons_append, List.nil_append, List.replicate, List.getElem?_cons_zero, List.getElem?_cons_succ, List.set, keepOf, if_true, if_false, T_lowest, N_lowest]
  have g0 : ((Nat.gcd a.natAbs b.natAbs : Nat) : Int) ≠ 0 := by
    have := Nat.gcd_pos_of_pos_right a.natAbs (n := b.natAbs) (by omega)
    omega
  have gl := (bt.gcd hb (a := a)).log
  by_cases h0 : 0 < b
  · rw [if_pos (decide_eq_true h0)]
    refine ⟨⟨g0, by omega⟩, ⟨g0, by omega⟩, by decide, DropN.of ?_⟩
    rw [(low_pos h0).1, (low_pos h0).2]
    exact h
  · rw [if_neg (by simpa using h0)]
    have hn : b < 0 := by omega
    refine ⟨⟨by omega, by rw [Int.natAbs_neg]; omega⟩, ⟨by omega, by rw [Int.natAbs_neg]; omega⟩, by decide, DropN.of ?_⟩
    rw [(low_neg hn).1, (low_neg hn).2]
    exact h
def s_is_fraction : DSp := fun ds M Φ _ => ∃ x : Rat, ds = [fr x] ∧ Φ (.bl true) M
theorem r_is_fraction : ∀ ds M Φ Ψ, s_is_fraction ds M Φ Ψ → ds.length = 1 ∧ T_is_fraction s_is_tuple_of s_is_integer (fnEnds M.length Φ Ψ) (startR N_is_fraction ds) M := by
  rintro ds M Φ Ψ ⟨x, rfl, h⟩
  refine ⟨rfl, ?_⟩
  simp only [dSeq, dAsg, dIf, dIfS, dB, dOp, dUn, dCB, dCons, dNil, dTup, dLst, dVar, dC, dgName, dgTup, dgLst, dgCons, dgNil, dRet, dRetN, dDrop, dPar, dPar3, dNext, dAnd, dOr, dNot, dAndV, dOrV, dNotV, dChain, dCall, dCallR, dFor, diSeq, diRng1, diZip, diEnum, dLc, dYes, dElt, fnEnds, startR, wipeR, dAdd, dSub, dMul, dFdiv, dMod, dPow, dInt2, dNeg, dCmpI, dLt, dLe, dGt, dGe, dEq, dNe, D.res, dIsN, dIsNot, D.isN, dIsB, dIx, dSl, dPart, dNoPart, dSlR, dLen, dAbs, dInts2, dMax2, dMin2, dGcd, dInt, dTupOf, dIs1, dIs2, sq, lv, lvf, atI_0, atI_1, atI_2, atI_3, List.map, List.length, List.cons_append, List.nil_append, List.replicate, List.getElem?_cons_zero, List.getElem?_cons_succ, List.set, keepOf, if_true, if_false, D.eqv, D.eqvL, D.fl, D.flL, T_is_fraction, N_is_fraction, fr]
  refine ⟨_, 2, rfl, ?_⟩
  change (if (!true) = true then _ else _)
  rw [if_neg (by decide)]
  refine go_map (e := D.int) (f := fun _ => .bl true) [x.num, (x.den : Int)] (fun a _ acc k hk hl => ?_) trivial (small (by show 2 ≤ 1000000; decide)) ?_
  · exact ⟨.int a, "int", rfl, rfl, hl, hk⟩
  · refine ⟨[true, true], rfl, ?_⟩
    change (if (!true) = true then _ else _)
    rw [if_neg (by decide)]
    have h1 : (0 : Int) < x.den := by have := x.den_nz; omega
    rw [if_pos (by simpa using h1)]
    refine ⟨trivial, trivial, DropN.of ?_⟩
    have e : Nat.gcd x.num.natAbs (x.den : Int).natAbs = 1 := x.reduced
    rw [e]
    exact h
/-- two fractions, whose bits together are few -/
def Two (x y : Rat) : Prop := ∃ m n, Sm m x ∧ Sm n y ∧ m + n ≤ 8999
theorem Two.of {m n : Nat} {x y : Rat} (h : Sm m x) (k : Sm n y) (l : m + n ≤ 8999) : Two x y := ⟨m, n, h, k, l⟩
theorem den_pos (x : Rat) : (0 : Int) < x.den := by have := x.den_nz; omega
def s_plus : DSp := fun ds M Φ _ => ∃ x y : Rat, ds = [fr x, fr y] ∧ Two x y ∧ Φ (fr (x + y)) M
def s_times : DSp := fun ds M Φ _ => ∃ x y : Rat, ds = [fr x, fr y] ∧ Two x y ∧ Φ (fr (x * y)) M
def s_over : DSp := fun ds M Φ _ => ∃ x y : Rat, ds = [fr x, fr y] ∧ Two x y ∧ y ≠ 0 ∧ Φ (fr (x / y)) M
theorem r_plus : ∀ ds M Φ Ψ, s_plus ds M Φ Ψ → ds.length = 2 ∧ T_plus s_lowest (fnEnds M.length Φ Ψ) (startR N_plus ds) M := by
  rintro ds M Φ Ψ ⟨x, y, rfl, ⟨m, n, hx, hy, l⟩, h⟩
  refine ⟨rfl, ?_⟩
  simp only [dSeq, dAsg, dIf, dIfS, dB, dOp, dUn, dCB, dCons, dNil, dTup, dLst, dVar, dC, dgName, dgTup, dgLst, dgCons, dgNil, dRet, dRetN, dDrop, dPar, dPar3, dNext, dAnd, dOr, dNot, dAndV, dOrV, dNotV, dChain, dCall, dCallR, dFor, diSeq, diRng1, diZip, diEnum, dLc, dYes, dElt, fnEnds, startR, wipeR, dAdd, dSub, dMul, dFdiv, dMod, dPow, dInt2, dNeg, dCmpI, dLt, dLe, dGt, dGe, dEq, dNe, D.res, dIsN, dIsNot, D.isN, dIsB, dIx, dSl, dPart, dNoPart, dSlR, dLen, dAbs, dInts2, dMax2, dMin2, dGcd, dInt, dTupOf, dIs1, dIs2, sq, lv, lvf, atI_0, atI_1, atI_2, atI_3, List.map, List.length, List.cons_append, List.nil_append, List.replicate, List.getElem?_cons_zero, List.getElem?_cons_succ, List.set, keepOf, if_true, if_false, T_plus, N_plus, fr]
  refine ⟨hx.1.cm hy.2 (by omega), hy.1.cm hx.2 (by omega), hx.2.cm hy.2 (by omega), _, _, rfl, ?_, (hx.2.mul hy.2).mono (by omega), DropN.of ?_⟩
  · have := Int.mul_pos (den_pos x) (den_pos y)
    omega
  · rw [← rat_add]
    exact h
theorem r_times : ∀ ds M Φ Ψ, s_times ds M Φ Ψ → ds.length = 2 ∧ T_times s_lowest (fnEnds M.length Φ Ψ) (startR N_times ds) M := by
  rintro ds M Φ Ψ ⟨x, y, rfl, ⟨m, n, hx, hy, l⟩, h⟩
  refine ⟨rfl, ?_⟩
  simp only [dSeq, dAsg, dIf, dIfS, dB, dOp, dUn, dCB, dCons, dNil, dTup, dLst, dVar, dC, dgName, dgTup, dgLst, dgCons, dgNil, dRet, dRetN, dDrop, dPar, dPar3, dNext, dAnd, dOr, dNot, dAndV, dOrV, dNotV, dChain, dCall, dCallR, dFor, diSeq, diRng1, diZip, diEnum, dLc, dYes, dElt, fnEnds, startR, wipeR, dAdd, dSub, dMul, dFdiv, dMod, dPow, dInt2, dNeg, dCmpI, dLt, dLe, dGt, dGe, dEq, dNe, D.res, dIsN, dIsNot, D.isN, dIsB, dIx, dSl, dPart, dNoPart, dSlR, dLen, dAbs, dInts2, dMax2, dMin2, dGcd, dInt, dTupOf, dIs1, dIs2, sq, lv, lvf, atI_0, atI_1, atI_2, atI_3, List.map, List.length, List.cons_append, List.nil_append, List.replicate, List.getElem?_cons_zero, List.getElem?_cons_succ, List.set, keepOf, if_true, if_false, T_times, N_times, fr]
  refine ⟨hx.1.cm hy.1 (by omega), hx.2.cm hy.2 (by omega), _, _, rfl, ?_, (hx.2.mul hy.2).mono (by omega), DropN.of ?_⟩
  · have := Int.mul_pos (den_pos x) (den_pos y)
    omega
  · rw [← rat_mul]
    exact h
theorem num_nz {y : Rat} (h : y ≠ 0) : y.num ≠ 0 := fun z => h (Rat.num_eq_zero.mp z)
theorem r_over : ∀ ds M Φ Ψ, s_over ds M Φ Ψ → ds.length = 2 ∧ T_over s_lowest (fnEnds M.length Φ Ψ) (startR N_over ds) M := by
  rintro ds M Φ Ψ ⟨x, y, rfl, ⟨m, n, hx, hy, l⟩, ny, h⟩
  refine ⟨rfl, ?_⟩
  simp only [dSeq, dAsg, dIf, dIfS, dB, dOp, dUn, dCB, dCons, dNil, dTup, dLst, dVar, dC, dgName, dgTup, dgLst, dgCons, dgNil, dRet, dRetN, dDrop, dPar, dPar3, dNext, dAnd, dOr, dNot, dAndV, dOrV, dNotV, dChain, dCall, dCallR, dFor, diSeq, diRng1, diZip, diEnum, dLc, dYes, dElt, fnEnds, startR, wipeR, dAdd, dSub, dMul, dFdiv, dMod, dPow, dInt2, dNeg, dCmpI, dLt, dLe, dGt, dGe, dEq, dNe, D.res, dIsN, dIsNot, D.isN, dIsB, dIx, dSl, dPart, dNoPart, dSlR, dLen, dAbs, dInts2, dMax2, dMin2, dGcd, dInt, dTupOf, dIs1, dIs2, sq, lv, lvf, atI_0, atI_1, atI_2, atI_3, List.map, List.length, List.cons_append, List.nil_append, List.replicate, List.getElem?_cons_zero, List.getElem?_cons_succ, List.set, keepOf, if_true, if_false, T_over, N_over, fr]
  refine ⟨hx.1.cm hy.2 (by omega), hx.2.cm hy.1 (by omega), _, _, rfl, ?_, (hx.2.mul hy.1).mono (by omega), DropN.of ?_⟩
  · exact Int.mul_ne_zero (by have := den_pos x; omega) (num_nz ny)
  · rw [← rat_div]
    exact h
def s_is_less : DSp := fun ds M Φ _ => ∃ x y : Rat, ds = [fr x, fr y] ∧ (∃ m n, Sm m x ∧ Sm n y ∧ m + n < 1000000) ∧ Φ (.bl (decide (x < y))) M
theorem r_is_less : ∀ ds M Φ Ψ, s_is_less ds M Φ Ψ → ds.length = 2 ∧ T_is_less (fnEnds M.length Φ Ψ) (startR N_is_less ds) M := by
  rintro ds M Φ Ψ ⟨x, y, rfl, ⟨m, n, hx, hy, l⟩, h⟩
  refine ⟨rfl, ?_⟩
  simp only [dSeq, dAsg, dIf, dIfS, dB, dOp, dUn, dCB, dCons, dNil, dTup, dLst, dVar, dC, dgName, dgTup, dgLst, dgCons, dgNil, dRet, dRetN, dDrop, dPar, dPar3, dNext, dAnd, dOr, dNot, dAndV, dOrV, dNotV, dChain, dCall, dCallR, dFor, diSeq, diRng1, diZip, diEnum, dLc, dYes, dElt, fnEnds, startR, wipeR, dAdd, dSub, dMul, dFdiv, dMod, dPow, dInt2, dNeg, dCmpI, dLt, dLe, dGt, dGe, dEq, dNe, D.res, dIsN, dIsNot, D.isN, dIsB, dIx, dSl, dPart, dNoPart, dSlR, dLen, dAbs, dInts2, dMax2, dMin2, dGcd, dInt, dTupOf, dIs1, dIs2, sq, lv, lvf, atI_0, atI_1, atI_2, atI_3, List.map, List.length, List.cons_append, List.nil_append, List.replicate, List.getElem?_cons_zero, List.getElem?_cons_succ, List.set, keepOf, if_true, if_false, T_is_less, N_is_less, fr]
  refine ⟨hx.1.cm hy.2 (by omega), hy.1.cm hx.2 (by omega), DropN.of ?_⟩
  have e : decide (x.num * (y.den : Int) < y.num * (x.den : Int)) = decide (x < y) := decide_eq_decide.mpr (Rat.lt_iff x y).symm
  rw [e]
  exact h
/-- x to the power c, c of any sign -/
def rz (x : Rat) (c : Int) : Rat := if 0 ≤ c then x ^ c.toNat else x⁻¹ ^ (-c).toNat
def s_raised : DSp := fun ds M Φ _ => ∃ (x : Rat) (c : Int), ds = [fr x, .int c] ∧ (0 ≤ c ∨ x ≠ 0) ∧ (∃ m, Sm m x ∧ m ≤ 8999 ∧ m * (c.natAbs + 1) < 900000) ∧ c.natAbs < 1000 ∧ Φ (fr (rz x c)) M
theorem fr_pow (x : Rat) (k : Nat) : fr (x ^ k) = .tup [.int (x.num ^ k), .int ((x.den : Int) ^ k)] := by
  unfold fr
  rw [Rat.num_pow, Rat.den_pow, Int.natCast_pow]
theorem r_raised : ∀ ds M Φ Ψ, s_raised ds M Φ Ψ → ds.length = 2 ∧ T_raised s_lowest (fnEnds M.length Φ Ψ) (startR N_raised ds) M := by
  rintro ds M Φ Ψ ⟨x, c, rfl, hc, ⟨m, hx, l1, l2⟩, lc, h⟩
  refine ⟨rfl, ?_⟩
  have core : ∀ (y : Rat) (M : Ms) (Φ : DK) (Ψ : DX) , Sm m y → Φ (fr (y ^ c.natAbs)) M → ∀ E : DEnds, E.rt = Φ → dForGo (dgName 2) (dPar 5 6 (dCons (dOp dMul (dVar 5) (dVar 3)) (dCons (dOp dMul (dVar 6) (dVar 4)) dNil))) (fun _ => True) { E with nx := dRet (dTup (dCons (dVar 5) (dCons (dVar 6) dNil))) E }
        (rngD 0 (if c < 0 then -c else c).toNat) [some (fr x), some (.int c), none, some (.int y.num), some (.int y.den), some (.int 1), some (.int 1)] M := by
    intro y M Φ Ψ hy h E he
    have ec : (if c < 0 then -c else c).toNat = c.natAbs := by split <;> omega
    rw [ec]
    unfold rngD
    refine for_map (e := fun i : Nat => D.int (0 + i)) (I := fun xs ρ M' => M' = M ∧ xs.length ≤ c.natAbs ∧ ∃ o, ρ = [some (fr x), some (.int c), o, some (.int y.num), some (.int y.den), some (.int (y.num ^ (c.natAbs - xs.length))), some (.int ((y.den : Int) ^ (c.natAbs - xs.length)))]) ?_ ?_ _ _ _ ?_
    · rintro ρ M' ⟨rfl, _, o, rfl⟩
      refine ⟨trivial, ?_⟩
      simp only [dSeq, dAsg, dIf, dIfS, dB, dOp, dUn, dCB, dCons, dNil, dTup, dLst, dVar, dC, dgName, dgTup, dgLst, dgCons, dgNil, dRet, dRetN, dDrop, dPar, dPar3, dNext, dAnd, dOr, dNot, dAndV, dOrV, dNotV, dChain, dCall, dCallR, dFor, diSeq, diRng1, diZip, diEnum, dLc, dYes, dElt, fnEnds, startR, wipeR, dAdd, dSub, dMul, dFdiv, dMod, dPow, dInt2, dNeg, dCmpI, dLt, dLe, dGt, dGe, dEq, dNe, D.res, dIsN, dIsNot, D.isN, dIsB, dIx, dSl, dPart, dNoPart, dSlR, dLen, dAbs, dInts2, dMax2, dMin2, dGcd, dInt, dTupOf, dIs1, dIs2, sq, lv, lvf, atI_0, atI_1, atI_2, atI_3, List.map, List.length, List.cons_append, List.nil_append, List.replicate, List.getElem?_cons_zero, List.getElem?_cons_succ, List.set, keepOf, if_true, if_false]
      refine ⟨by decide, ?_⟩
      rw [he]
      simp only [Nat.sub_zero]
      rw [fr_pow] at h
      exact h
    · rintro d r ρ M' nx hnx ⟨rfl, hl, o, rfl⟩
      refine ⟨trivial, ?_⟩
      simp only [dSeq, dAsg, dIf, dIfS, dB, dOp, dUn, dCB, dCons, dNil, dTup, dLst, dVar, dC, dgName, dgTup, dgLst, dgCons, dgNil, dRet, dRetN, dDrop, dPar, dPar3, dNext, dAnd, dOr, dNot, dAndV, dOrV, dNotV, dChain, dCall, dCallR, dFor, diSeq, diRng1, diZip, diEnum, dLc, dYes, dElt, fnEnds, startR, wipeR, dAdd, dSub, dMul, dFdiv, dMod, dPow, dInt2, dNeg, dCmpI, dLt, dLe, dGt, dGe, dEq, dNe, D.res, dIsN, dIsNot, D.isN, dIsB, dIx, dSl, dPart, dNoPart, dSlR, dLen, dAbs, dInts2, dMax2, dMin2, dGcd, dInt, dTupOf, dIs1, dIs2, sq, lv, lvf, atI_0, atI_1, atI_2, atI_3, List.map, List.length, List.cons_append, List.nil_append, List.replicate, List.getElem?_cons_zero, List.getElem?_cons_succ, List.set, keepOf, if_true, if_false]
      have bd := fun k (hk : k ≤ c.natAbs) => Nat.mul_le_mul_left m (Nat.add_le_add_right hk 1)
      simp only [List.length_cons] at hl
      have e1 : c.natAbs - (r.length + 1) + 1 = c.natAbs - r.length := by omega
      have hb := bd (c.natAbs - (r.length + 1)) (by omega)
      rw [Nat.mul_add, Nat.mul_one] at hb
      refine ⟨(hy.1.pow _).cm hy.1 (by omega), (hy.2.pow _).cm hy.2 (by omega), hnx _ _ ⟨rfl, by omega, some (.int (0 + d)), ?_⟩⟩
      rw [← Int.pow_succ, ← Int.pow_succ, Nat.succ_eq_add_one, e1]
    · refine ⟨rfl, by simp, none, ?_⟩
      simp
  simp only [dSeq, dAsg, dIf, dIfS, dB, dOp, dUn, dCB, dCons, dNil, dTup, dLst, dVar, dC, dgName, dgTup, dgLst, dgCons, dgNil, dRet, dRetN, dDrop, dPar, dPar3, dNext, dAnd, dOr, dNot, dAndV, dOrV, dNotV, dChain, dCall, dCallR, dFor, diSeq, diRng1, diZip, diEnum, dLc, dYes, dElt, fnEnds, startR, wipeR, dAdd, dSub, dMul, dFdiv, dMod, dPow, dInt2, dNeg, dCmpI, dLt, dLe, dGt, dGe, dEq, dNe, D.res, dIsN, dIsNot, D.isN, dIsB, dIx, dSl, dPart, dNoPart, dSlR, dLen, dAbs, dInts2, dMax2, dMin2, dGcd, dInt, dTupOf, dIs1, dIs2, sq, lv, lvf, atI_0, atI_1, atI_2, atI_3, List.map, List.length, List.cons_append, List.nil_append, List.replicate, List.getElem?_cons_zero, List.getElem?_cons_succ, List.set, keepOf, if_true, if_false, T_raised, N_raised, fr] at core ⊢
  by_cases h0 : 0 ≤ c
  · rw [if_pos (by simpa using h0)]
    refine ⟨by decide, ⟨by split <;> omega, by split <;> omega, core x M _ Ψ hx (DropN.of ?_) _ rfl⟩⟩
    unfold rz at h
    rw [if_pos h0] at h
    rw [show c.natAbs = c.toNat by omega]
    exact h
  · rw [if_neg (by simpa using h0)]
    have hx0 : x ≠ 0 := hc.resolve_left h0
    have e : Rat.divInt (x.den : Int) x.num = x⁻¹ := by
      conv => rhs; rw [← Rat.num_divInt_den x]
      rw [Rat.inv_divInt]
    refine ⟨_, _, rfl, num_nz hx0, hx.1.mono (by omega), ?_⟩
    simp only [dSeq, dAsg, dIf, dIfS, dB, dOp, dUn, dCB, dCons, dNil, dTup, dLst, dVar, dC, dgName, dgTup, dgLst, dgCons, dgNil, dRet, dRetN, dDrop, dPar, dPar3, dNext, dAnd, dOr, dNot, dAndV, dOrV, dNotV, dChain, dCall, dCallR, dFor, diSeq, diRng1, diZip, diEnum, dLc, dYes, dElt, fnEnds, startR, wipeR, dAdd, dSub, dMul, dFdiv, dMod, dPow, dInt2, dNeg, dCmpI, dLt, dLe, dGt, dGe, dEq, dNe, D.res, dIsN, dIsNot, D.isN, dIsB, dIx, dSl, dPart, dNoPart, dSlR, dLen, dAbs, dInts2, dMax2, dMin2, dGcd, dInt, dTupOf, dIs1, dIs2, sq, lv, lvf, atI_0, atI_1, atI_2, atI_3, List.map, List.length, List.cons_append, List.nil_append, List.replicate, List.getElem?_cons_zero, List.getElem?_cons_succ, List.set, keepOf, if_true, if_false, fr]
    refine ⟨by decide, ⟨by split <;> omega, by split <;> omega, core _ M _ Ψ (e ▸ hx.inv) (DropN.of ?_) _ rfl⟩⟩
    unfold rz at h
    rw [if_neg h0] at h
    rw [show c.natAbs = (-c).toNat by omega, e]
    exact h
end K85

set_option Elab.async false
set_option linter.all false
set_option autoImplicit false
set_option maxRecDepth 100000
set_option maxHeartbeats 4000000
/-! # Sums, rows and tables -/
namespace K85
open PySem PySem.Spec L2 DL
open PyProof.Rows hiding St
theorem yes {c : Prop} {i : Decidable c} {A B : Prop} (h : c) (a : A) : @ite Prop c i A B := by rw [if_pos h]; exact a
theorem no {c : Prop} {i : Decidable c} {A B : Prop} (h : ¬ c) (a : B) : @ite Prop c i A B := by rw [if_neg h]; exact a
/-- sums from the left -/
def totA (a : Rat) : List Rat → Rat
  | [] => a
  | x :: r => totA (a + x) r
def tot (xs : List Rat) : Rat := totA 0 xs
def s_total : DSp := fun ds M Φ _ => ∃ xs : List Rat, (ds = [.lst (xs.map fr)] ∨ ds = [.tup (xs.map fr)]) ∧ (∃ b, (∀ x ∈ xs, Sm b x) ∧ (xs.length + 1) * (b + 1) ≤ 8999) ∧ Φ (fr (tot xs)) M
theorem Sm.zero (n : Nat) : Sm (n + 1) 0 := by
  unfold Sm Bt
  refine ⟨by simpa using Nat.pow_pos (by decide), ?_⟩
  exact Nat.one_lt_two_pow (by omega)
theorem r_total' (T : DSp → DTS) (N : List Str) (hT : ∀ sp, T sp = dSeq (dAsg (dC (.tup [.int 0, .int 1])) (dgName 1)) (dSeq (dFor (diSeq (dVar 0)) (dgName 2) (dAsg (dCall sp (dCons (dVar 1) (dCons (dVar 2) dNil))) (dgName 1))) (dRet (dVar 1)))) (hN : N.length = 3) :
    ∀ ds M Φ Ψ, s_total ds M Φ Ψ → ds.length = 1 ∧ T s_plus (fnEnds M.length Φ Ψ) (startR N ds) M := by
  rintro ds M Φ Ψ ⟨xs, hd, ⟨b, hb, l⟩, h⟩
  have core : ∀ dd : D, (∀ M, sq M dd = some (xs.map fr)) → keepOf dd (xs.map fr) = (fun _ => True) → T s_plus (fnEnds M.length Φ Ψ) (startR N [dd]) M := ?_
  · rcases hd with rfl | rfl
    · exact ⟨rfl, core _ (fun _ => rfl) rfl⟩
    · exact ⟨rfl, core _ (fun _ => rfl) rfl⟩
  intro dd hsq hkp
  rw [hT]
  have hsq' := hsq
  simp only [sq] at hsq'
  simp only [dSeq, dAsg, dC, dgName, dFor, diSeq, dVar, fnEnds, startR, hN, List.map, List.length, List.replicate, List.cons_append, List.nil_append, List.set, List.getElem?_cons_zero, List.getElem?_cons_succ, hsq, hkp]
  refine for_map (e := fr) (I := fun ys ρ M' => M' = M ∧ ∃ o a k, ρ = [some dd, some (fr a), o] ∧ totA a ys = tot xs ∧ Sm (k * (b + 1) + 1) a ∧ k + ys.length ≤ xs.length ∧ ∀ y ∈ ys, Sm b y) ?_ ?_ xs _ M ?_
  · rintro ρ M' ⟨rfl, o, a, k, rfl, e, _, _⟩
    refine ⟨trivial, ?_⟩
    simp only [dSeq, dAsg, dIf, dIfS, dB, dOp, dUn, dCB, dCons, dNil, dTup, dLst, dVar, dC, dgName, dgTup, dgLst, dgCons, dgNil, dRet, dRetN, dDrop, dPar, dPar3, dNext, dAnd, dOr, dNot, dAndV, dOrV, dNotV, dChain, dCall, dCallR, dFor, diSeq, diRng1, diZip, diEnum, dLc, dYes, dElt, fnEnds, startR, wipeR, dAdd, dSub, dMul, dFdiv, dMod, dPow, dInt2, dNeg, dCmpI, dLt, dLe, dGt, dGe, dEq, dNe, D.res, dIsN, dIsNot, D.isN, dIsB, dIx, dSl, dPart, dNoPart, dSlR, dLen, dAbs, dInts2, dMax2, dMin2, dGcd, dInt, dTupOf, dIs1, dIs2, sq, lv, lvf, atI_0, atI_1, atI_2, atI_3, List.map, List.length, List.cons_append, List.nil_append, List.replicate, List.getElem?_cons_zero, List.getElem?_cons_succ, List.set, keepOf, if_true, if_false]
    refine DropN.of ?_
    have e' : a = tot xs := e
    rw [e']
    exact h
  · rintro y r ρ M' nx hnx ⟨rfl, o, a, k, rfl, e, sa, hl, hy⟩
    refine ⟨trivial, ?_⟩
    simp only [dSeq, dAsg, dIf, dIfS, dB, dOp, dUn, dCB, dCons, dNil, dTup, dLst, dVar, dC, dgName, dgTup, dgLst, dgCons, dgNil, dRet, dRetN, dDrop, dPar, dPar3, dNext, dAnd, dOr, dNot, dAndV, dOrV, dNotV, dChain, dCall, dCallR, dFor, diSeq, diRng1, diZip, diEnum, dLc, dYes, dElt, fnEnds, startR, wipeR, dAdd, dSub, dMul, dFdiv, dMod, dPow, dInt2, dNeg, dCmpI, dLt, dLe, dGt, dGe, dEq, dNe, D.res, dIsN, dIsNot, D.isN, dIsB, dIx, dSl, dPart, dNoPart, dSlR, dLen, dAbs, dInts2, dMax2, dMin2, dGcd, dInt, dTupOf, dIs1, dIs2, sq, lv, lvf, atI_0, atI_1, atI_2, atI_3, List.map, List.length, List.cons_append, List.nil_append, List.replicate, List.getElem?_cons_zero, List.getElem?_cons_succ, List.set, keepOf, if_true, if_false]
    simp only [List.length_cons] at hl
    have m1 : (k + 1) * (b + 1) ≤ (xs.length + 1) * (b + 1) := Nat.mul_le_mul_right _ (by omega)
    rw [Nat.add_mul, Nat.one_mul] at m1
    refine ⟨a, y, rfl, Two.of sa (hy y List.mem_cons_self) (by omega), hnx _ _ ⟨rfl, some (fr y), a + y, k + 1, rfl, e, ?_, by omega, fun z hz => hy z (List.mem_cons_of_mem _ hz)⟩⟩
    exact (sa.add (hy y List.mem_cons_self)).mono (by rw [Nat.add_mul, Nat.one_mul]; omega)
  · exact ⟨rfl, none, 0, 0, rfl, rfl, (Sm.zero 0).mono (by omega), by omega, hb⟩
theorem r_total : ∀ ds M Φ Ψ, s_total ds M Φ Ψ → ds.length = 1 ∧ T_total s_plus (fnEnds M.length Φ Ψ) (startR N_total ds) M := r_total' T_total N_total (fun _ => rfl) rfl
/-! ## rows and tables by functions -/
/-- n items of f -/
abbrev up {A : Type} (n : Nat) (f : Nat → A) : List A := (List.range n).map f
def rowD (n : Nat) (p : Nat → Rat) : D := .tup (up n fun k => fr (p k))
def tabD (m n : Nat) (z : Nat → Nat → Rat) : D := .tup (up m fun i => rowD n (z i))
/-- the sum of f below n -/
def sg (n : Nat) (f : Nat → Rat) : Rat := tot (up n f)
theorem zip_up {n : Nat} {f g : Nat → D} : zipD (up n f) (up n g) = up n fun k => .tup [f k, g k] := by
  unfold zipD up
  rw [List.zipWith_map]
  rw [List.zipWith_self]
theorem up_map {A B : Type} {n : Nat} {f : Nat → A} {g : A → B} : (up n f).map g = up n fun k => g (f k) := by
  unfold up
  rw [List.map_map]
  rfl
theorem up_len {A : Type} {n : Nat} {f : Nat → A} : (up n f).length = n := by simp [up]
theorem up_get {A : Type} {n k : Nat} {f : Nat → A} (h : k < n) : (up n f)[k]? = some (f k) := by
  simp [up, h]
theorem up_at {n k : Nat} {f : Nat → D} (h : k < n) : L2.atI (up n f) (k : Int) = some (f k) := by
  rw [DL.atI_nat, up_get h]
def s_dot : DSp := fun ds M Φ _ => ∃ n f g, ds = [rowD n f, rowD n g] ∧ (∃ a b, (∀ k < n, Sm a (f k)) ∧ (∀ k < n, Sm b (g k)) ∧ (n + 1) * (a + b + 1) ≤ 8999) ∧ n ≤ 1000 ∧ Φ (fr (sg n fun k => f k * g k)) M
theorem r_dot : ∀ ds M Φ Ψ, s_dot ds M Φ Ψ → ds.length = 2 ∧ T_dot s_total s_times (fnEnds M.length Φ Ψ) (startR N_dot ds) M := by
  rintro ds M Φ Ψ ⟨n, f, g, rfl, ⟨a, b, ha, hb, l⟩, hn, h⟩
  refine ⟨rfl, ?_⟩
  simp only [dSeq, dAsg, dIf, dIfS, dB, dOp, dUn, dCB, dCons, dNil, dTup, dLst, dVar, dC, dgName, dgTup, dgLst, dgCons, dgNil, dRet, dRetN, dDrop, dPar, dPar3, dNext, dAnd, dOr, dNot, dAndV, dOrV, dNotV, dChain, dCall, dCallR, dFor, diSeq, diRng1, diZip, diEnum, dLc, dYes, dElt, fnEnds, startR, wipeR, dAdd, dSub, dMul, dFdiv, dMod, dPow, dInt2, dNeg, dCmpI, dLt, dLe, dGt, dGe, dEq, dNe, D.res, dIsN, dIsNot, D.isN, dIsB, dIx, dSl, dPart, dNoPart, dSlR, dLen, dAbs, dInts2, dMax2, dMin2, dGcd, dInt, dTupOf, dIs1, dIs2, sq, lv, lvf, atI_0, atI_1, atI_2, atI_3, List.map, List.length, List.cons_append, List.nil_append, List.replicate, List.getElem?_cons_zero, List.getElem?_cons_succ, List.set, keepOf, if_true, if_false, T_dot, N_dot, rowD]
  rw [zip_up]
  have l1 : 1 * (a + b + 1) ≤ (n + 1) * (a + b + 1) := Nat.mul_le_mul_right _ (by omega)
  refine go_map (e := fun k => D.tup [fr (f k), fr (g k)]) (f := fun k => fr (f k * g k)) (List.range n) (fun k hk acc kk hkk hl => ?_) trivial (small (by simp; omega)) ?_
  · have hk := List.mem_range.mp hk
    refine ⟨f k, g k, rfl, Two.of (ha k hk) (hb k hk) (by omega), hl, hkk⟩
  · refine ⟨up n fun k => f k * g k, Or.inl (by rw [up_map]), ⟨a + b, fun x hx => ?_, by rw [up_len]; exact l⟩, DropN.of h⟩
    obtain ⟨k, hk, rfl⟩ := List.mem_map.mp hx
    have hk := List.mem_range.mp hk
    exact (ha k hk).mul (hb k hk)
def s_applied_to : DSp := fun ds M Φ _ => ∃ m n z p, ds = [tabD m n z, rowD n p] ∧ (∃ a b, (∀ i < m, ∀ k < n, Sm a (z i k)) ∧ (∀ k < n, Sm b (p k)) ∧ (n + 1) * (a + b + 1) ≤ 8999) ∧ n ≤ 1000 ∧ m ≤ 1000 ∧ Φ (rowD m fun i => sg n fun k => z i k * p k) M
theorem r_applied_to : ∀ ds M Φ Ψ, s_applied_to ds M Φ Ψ → ds.length = 2 ∧ T_applied_to s_dot (fnEnds M.length Φ Ψ) (startR N_applied_to ds) M := by
  rintro ds M Φ Ψ ⟨m, n, z, p, rfl, ⟨a, b, ha, hb, l⟩, hn, hm, h⟩
  refine ⟨rfl, ?_⟩
  simp only [dSeq, dAsg, dIf, dIfS, dB, dOp, dUn, dCB, dCons, dNil, dTup, dLst, dVar, dC, dgName, dgTup, dgLst, dgCons, dgNil, dRet, dRetN, dDrop, dPar, dPar3, dNext, dAnd, dOr, dNot, dAndV, dOrV, dNotV, dChain, dCall, dCallR, dFor, diSeq, diRng1, diZip, diEnum, dLc, dYes, dElt, fnEnds, startR, wipeR, dAdd, dSub, dMul, dFdiv, dMod, dPow, dInt2, dNeg, dCmpI, dLt, dLe, dGt, dGe, dEq, dNe, D.res, dIsN, dIsNot, D.isN, dIsB, dIx, dSl, dPart, dNoPart, dSlR, dLen, dAbs, dInts2, dMax2, dMin2, dGcd, dInt, dTupOf, dIs1, dIs2, sq, lv, lvf, atI_0, atI_1, atI_2, atI_3, List.map, List.length, List.cons_append, List.nil_append, List.replicate, List.getElem?_cons_zero, List.getElem?_cons_succ, List.set, keepOf, if_true, if_false, T_applied_to, N_applied_to, tabD]
  refine go_map (e := fun i => rowD n (z i)) (f := fun i => fr (sg n fun k => z i k * p k)) (List.range m) (fun i hi acc kk hkk hl => ?_) trivial (small (by simp; omega)) (DropN.of h)
  have hi := List.mem_range.mp hi
  exact ⟨n, z i, p, rfl, ⟨a, b, ha i hi, hb, l⟩, hn, hl, hkk⟩
def s_is_row_of : DSp := fun ds M Φ _ => ∃ n p, ∃ w : Int, ds = [rowD n p, .int w] ∧ w = n ∧ n ≤ 1000 ∧ Φ (.bl true) M
theorem all_true : ∀ {A : Type} (xs : List A), (xs.map fun _ => true).all id = true
  | _, [] => rfl
  | _, _ :: r => by rw [List.map_cons, List.all_cons, all_true r]; rfl
theorem map_bl {A : Type} (xs : List A) : (xs.map fun _ => D.bl true) = (xs.map fun _ => true).map D.bl := by rw [List.map_map]; rfl
theorem r_is_row_of : ∀ ds M Φ Ψ, s_is_row_of ds M Φ Ψ → ds.length = 2 ∧ T_is_row_of s_is_tuple_of s_is_fraction (fnEnds M.length Φ Ψ) (startR N_is_row_of ds) M := by
  rintro ds M Φ Ψ ⟨n, p, w, rfl, rfl, hn, h⟩
  refine ⟨rfl, ?_⟩
  simp only [dSeq, dAsg, dIf, dIfS, dB, dOp, dUn, dCB, dCons, dNil, dTup, dLst, dVar, dC, dgName, dgTup, dgLst, dgCons, dgNil, dRet, dRetN, dDrop, dPar, dPar3, dNext, dAnd, dOr, dNot, dAndV, dOrV, dNotV, dChain, dCall, dCallR, dFor, diSeq, diRng1, diZip, diEnum, dLc, dYes, dElt, fnEnds, startR, wipeR, dAdd, dSub, dMul, dFdiv, dMod, dPow, dInt2, dNeg, dCmpI, dLt, dLe, dGt, dGe, dEq, dNe, D.res, dIsN, dIsNot, D.isN, dIsB, dIx, dSl, dPart, dNoPart, dSlR, dLen, dAbs, dInts2, dMax2, dMin2, dGcd, dInt, dTupOf, dIs1, dIs2, sq, lv, lvf, atI_0, atI_1, atI_2, atI_3, List.map, List.length, List.cons_append, List.nil_append, List.replicate, List.getElem?_cons_zero, List.getElem?_cons_succ, List.set, keepOf, if_true, if_false, T_is_row_of, N_is_row_of, rowD]
  refine ⟨_, _, rfl, ?_⟩
  rw [up_len]
  simp only [decide_true, if_true]
  refine go_map (e := fun k => fr (p k)) (f := fun _ => .bl true) (List.range n) (fun k hk acc kk hkk hl => ⟨_, rfl, hl, hkk⟩) trivial (small (by simp; omega)) ?_
  refine ⟨_, congrArg some (map_bl _), DropN.of ?_⟩
  rw [all_true]
  exact h
def s_is_any_table : DSp := fun ds M Φ _ => ∃ m n z, ds = [tabD m n z] ∧ 1 ≤ m ∧ m ≤ 8 ∧ 1 ≤ n ∧ n ≤ 8 ∧ Φ (.bl true) M
theorem up_zero {n : Nat} {f : Nat → D} (h : 0 < n) : L2.atI (up n f) (0 : Int) = some (f 0) := up_at h
theorem r_is_any_table : ∀ ds M Φ Ψ, s_is_any_table ds M Φ Ψ → ds.length = 1 ∧ T_is_any_table s_is_row_of (fnEnds M.length Φ Ψ) (startR N_is_any_table ds) M := by
  rintro ds M Φ Ψ ⟨m, n, z, rfl, hm, hm8, hn, hn8, h⟩
  refine ⟨rfl, ?_⟩
  simp only [dSeq, dAsg, dIf, dIfS, dB, dOp, dUn, dCB, dCons, dNil, dTup, dLst, dVar, dC, dgName, dgTup, dgLst, dgCons, dgNil, dRet, dRetN, dDrop, dPar, dPar3, dNext, dAnd, dOr, dNot, dAndV, dOrV, dNotV, dChain, dCall, dCallR, dFor, diSeq, diRng1, diZip, diEnum, dLc, dYes, dElt, fnEnds, startR, wipeR, dAdd, dSub, dMul, dFdiv, dMod, dPow, dInt2, dNeg, dCmpI, dLt, dLe, dGt, dGe, dEq, dNe, D.res, dIsN, dIsNot, D.isN, dIsB, dIx, dSl, dPart, dNoPart, dSlR, dLen, dAbs, dInts2, dMax2, dMin2, dGcd, dInt, dTupOf, dIs1, dIs2, sq, lv, lvf, atI_0, atI_1, atI_2, atI_3, List.map, List.length, List.cons_append, List.nil_append, List.replicate, List.getElem?_cons_zero, List.getElem?_cons_succ, List.set, keepOf, if_true, if_false, T_is_any_table, N_is_any_table, tabD, D.tyn, up_zero hm, rowD, up_len]
  change (if (!true) = true then _ else _)
  rw [if_neg (by decide)]
  rw [if_pos (by simpa using by omega)]
  rw [if_neg (by simpa using by omega)]
  change (if (!true) = true then _ else _)
  rw [if_neg (by decide)]
  rw [if_pos (by simpa using by omega)]
  rw [if_pos (by simpa using by omega)]
  refine go_map (e := fun i => rowD n (z i)) (f := fun _ => .bl true) (List.range m) (fun k hk acc kk hkk hl => ⟨_, _, _, rfl, rfl, by omega, hl, hkk⟩) trivial (small (by simp; omega)) ?_
  refine ⟨_, congrArg some (map_bl _), DropN.of ?_⟩
  rw [all_true]
  exact h
def s_is_table : DSp := fun ds M Φ _ => ∃ n z, ds = [tabD n n z] ∧ 1 ≤ n ∧ n ≤ 8 ∧ Φ (.bl true) M
theorem r_is_table : ∀ ds M Φ Ψ, s_is_table ds M Φ Ψ → ds.length = 1 ∧ T_is_table s_is_any_table (fnEnds M.length Φ Ψ) (startR N_is_table ds) M := by
  rintro ds M Φ Ψ ⟨n, z, rfl, hn, hn8, h⟩
  refine ⟨rfl, ?_⟩
  simp only [dSeq, dAsg, dIf, dIfS, dB, dOp, dUn, dCB, dCons, dNil, dTup, dLst, dVar, dC, dgName, dgTup, dgLst, dgCons, dgNil, dRet, dRetN, dDrop, dPar, dPar3, dNext, dAnd, dOr, dNot, dAndV, dOrV, dNotV, dChain, dCall, dCallR, dFor, diSeq, diRng1, diZip, diEnum, dLc, dYes, dElt, fnEnds, startR, wipeR, dAdd, dSub, dMul, dFdiv, dMod, dPow, dInt2, dNeg, dCmpI, dLt, dLe, dGt, dGe, dEq, dNe, D.res, dIsN, dIsNot, D.isN, dIsB, dIx, dSl, dPart, dNoPart, dSlR, dLen, dAbs, dInts2, dMax2, dMin2, dGcd, dInt, dTupOf, dIs1, dIs2, sq, lv, lvf, atI_0, atI_1, atI_2, atI_3, List.map, List.length, List.cons_append, List.nil_append, List.replicate, List.getElem?_cons_zero, List.getElem?_cons_succ, List.set, keepOf, if_true, if_false, T_is_table, N_is_table]
  refine ⟨n, n, z, rfl, hn, hn8, hn, hn8, ?_⟩
  simp only [tabD, dSeq, dAsg, dIf, dIfS, dB, dOp, dUn, dCB, dCons, dNil, dTup, dLst, dVar, dC, dgName, dgTup, dgLst, dgCons, dgNil, dRet, dRetN, dDrop, dPar, dPar3, dNext, dAnd, dOr, dNot, dAndV, dOrV, dNotV, dChain, dCall, dCallR, dFor, diSeq, diRng1, diZip, diEnum, dLc, dYes, dElt, fnEnds, startR, wipeR, dAdd, dSub, dMul, dFdiv, dMod, dPow, dInt2, dNeg, dCmpI, dLt, dLe, dGt, dGe, dEq, dNe, D.res, dIsN, dIsNot, D.isN, dIsB, dIx, dSl, dPart, dNoPart, dSlR, dLen, dAbs, dInts2, dMax2, dMin2, dGcd, dInt, dTupOf, dIs1, dIs2, sq, lv, lvf, atI_0, atI_1, atI_2, atI_3, List.map, List.length, List.cons_append, List.nil_append, List.replicate, List.getElem?_cons_zero, List.getElem?_cons_succ, List.set, keepOf, if_true, if_false, D.eqv, D.eqvL, D.fl, D.flL, up_zero hn, rowD, up_len, if_true]
  refine ⟨trivial, trivial, DropN.of ?_⟩
  simpa using h
def s_turned_of : DSp := fun ds M Φ _ => ∃ m n z, ds = [tabD m n z] ∧ 1 ≤ m ∧ m ≤ 8 ∧ n ≤ 8 ∧ Φ (tabD n m fun j i => z i j) M
theorem r_turned_of : ∀ ds M Φ Ψ, s_turned_of ds M Φ Ψ → ds.length = 1 ∧ T_turned_of (fnEnds M.length Φ Ψ) (startR N_turned_of ds) M := by
  rintro ds M Φ Ψ ⟨m, n, z, rfl, hm, hm8, hn8, h⟩
  refine ⟨rfl, ?_⟩
  simp only [dSeq, dAsg, dIf, dIfS, dB, dOp, dUn, dCB, dCons, dNil, dTup, dLst, dVar, dC, dgName, dgTup, dgLst, dgCons, dgNil, dRet, dRetN, dDrop, dPar, dPar3, dNext, dAnd, dOr, dNot, dAndV, dOrV, dNotV, dChain, dCall, dCallR, dFor, diSeq, diRng1, diZip, diEnum, dLc, dYes, dElt, fnEnds, startR, wipeR, dAdd, dSub, dMul, dFdiv, dMod, dPow, dInt2, dNeg, dCmpI, dLt, dLe, dGt, dGe, dEq, dNe, D.res, dIsN, dIsNot, D.isN, dIsB, dIx, dSl, dPart, dNoPart, dSlR, dLen, dAbs, dInts2, dMax2, dMin2, dGcd, dInt, dTupOf, dIs1, dIs2, sq, lv, lvf, atI_0, atI_1, atI_2, atI_3, List.map, List.length, List.cons_append, List.nil_append, List.replicate, List.getElem?_cons_zero, List.getElem?_cons_succ, List.set, keepOf, if_true, if_false, T_turned_of, N_turned_of, tabD, up_zero hm, rowD, up_len]
  refine ⟨by omega, by omega, ?_⟩
  unfold rngD
  refine go_map (e := fun j : Nat => D.int (0 + j)) (f := fun j => rowD m fun i => z i j) (List.range n) (fun j hj acc kk hkk hl => ?_) trivial (small (by simp; omega)) (DropN.of ?_)
  · have hj := List.mem_range.mp hj
    refine go_map (e := fun i => D.tup (up n fun k => fr (z i k))) (f := fun i => fr (z i j)) (List.range m) (fun i hi acc2 k2 hk2 hl2 => ?_) trivial (small (by simp; omega)) ⟨hl, hkk⟩
    simp only [dSeq, dAsg, dIf, dIfS, dB, dOp, dUn, dCB, dCons, dNil, dTup, dLst, dVar, dC, dgName, dgTup, dgLst, dgCons, dgNil, dRet, dRetN, dDrop, dPar, dPar3, dNext, dAnd, dOr, dNot, dAndV, dOrV, dNotV, dChain, dCall, dCallR, dFor, diSeq, diRng1, diZip, diEnum, dLc, dYes, dElt, fnEnds, startR, wipeR, dAdd, dSub, dMul, dFdiv, dMod, dPow, dInt2, dNeg, dCmpI, dLt, dLe, dGt, dGe, dEq, dNe, D.res, dIsN, dIsNot, D.isN, dIsB, dIx, dSl, dPart, dNoPart, dSlR, dLen, dAbs, dInts2, dMax2, dMin2, dGcd, dInt, dTupOf, dIs1, dIs2, sq, lv, lvf, atI_0, atI_1, atI_2, atI_3, List.map, List.length, List.cons_append, List.nil_append, List.replicate, List.getElem?_cons_zero, List.getElem?_cons_succ, List.set, keepOf, if_true, if_false, Int.zero_add, up_at hj]
    exact ⟨hl2, hk2⟩
  · exact h
end K85

set_option Elab.async false
set_option linter.all false
set_option autoImplicit false
set_option maxRecDepth 100000
set_option maxHeartbeats 4000000
/-! # Communities -/
namespace K85
open PySem PySem.Spec L2 DL
open PyProof.Rows hiding St
/-! ## how data are read -/
theorem res_tup {M : Ms} {ds : List D} : D.res M (.tup ds) = .tup ds := rfl
theorem res_lst {M : Ms} {ds : List D} : D.res M (.lst ds) = .lst ds := rfl
theorem res_int {M : Ms} {i : Int} : D.res M (.int i) = .int i := rfl
theorem res_bl {M : Ms} {i : Bool} : D.res M (.bl i) = .bl i := rfl
theorem res_str {M : Ms} {i : Str} : D.res M (.str i) = .str i := rfl
theorem res_non {M : Ms} : D.res M .non = .non := rfl
theorem res_fr {M : Ms} {x : Rat} : D.res M (fr x) = fr x := rfl
theorem res_row {M : Ms} {n : Nat} {p : Nat → Rat} : D.res M (rowD n p) = rowD n p := rfl
theorem res_tab {M : Ms} {m n : Nat} {p : Nat → Nat → Rat} : D.res M (tabD m n p) = tabD m n p := rfl
theorem res_ptr {M : Ms} {k : Nat} {ds : List D} (h : M[k]? = some (.lst ds)) : D.res M (.ptr k) = .lst ds := by unfold D.res; dsimp only; rw [h]
theorem ix_tup {M : Ms} {ds : List D} {i : Int} {Φ : DK} : dIx (.tup ds) (.int i) M Φ = match L2.atI ds i with | some y => Φ y M | none => False := rfl
theorem ix_lst {M : Ms} {ds : List D} {i : Int} {Φ : DK} : dIx (.lst ds) (.int i) M Φ = match L2.atI ds i with | some y => Φ y M | none => False := rfl
theorem ix_frl {M : Ms} {ds : List D} {i : Int} {Φ : DK} : dIx (.frl ds) (.int i) M Φ = match L2.atI ds i with | some y => Φ y M | none => False := rfl
theorem ix_ptr {M : Ms} {ds : List D} {k : Nat} {i : Int} {Φ : DK} (h : M[k]? = some (.lst ds)) : dIx (.ptr k) (.int i) M Φ = match L2.atI ds i with | some y => Φ y M | none => False := by unfold dIx; dsimp only; unfold sq; dsimp only; rw [h] <;> rfl
theorem ix_row {M : Ms} {n : Nat} {p : Nat → Rat} {i : Int} {Φ : DK} : dIx (rowD n p) (.int i) M Φ = match L2.atI (up n fun k => fr (p k)) i with | some y => Φ y M | none => False := rfl
theorem ix_tab {M : Ms} {m n : Nat} {p : Nat → Nat → Rat} {i : Int} {Φ : DK} : dIx (tabD m n p) (.int i) M Φ = match L2.atI (up m fun k => rowD n (p k)) i with | some y => Φ y M | none => False := rfl
theorem ix_fr0 {M : Ms} {x : Rat} {Φ : DK} : dIx (fr x) (.int 0) M Φ = Φ (.int x.num) M := by unfold fr; rw [ix_tup, atI_0]
theorem ix_fr1 {M : Ms} {x : Rat} {Φ : DK} : dIx (fr x) (.int 1) M Φ = Φ (.int x.den) M := by unfold fr; rw [ix_tup, atI_1]
theorem len_tup {M : Ms} {ds : List D} {Φ : DK} : dLen [.tup ds] M Φ = Φ (.int ds.length) M := rfl
theorem len_lst {M : Ms} {ds : List D} {Φ : DK} : dLen [.lst ds] M Φ = Φ (.int ds.length) M := rfl
theorem len_frl {M : Ms} {ds : List D} {Φ : DK} : dLen [.frl ds] M Φ = Φ (.int ds.length) M := rfl
theorem len_ptr {M : Ms} {ds : List D} {k : Nat} {Φ : DK} (h : M[k]? = some (.lst ds)) : dLen [.ptr k] M Φ = Φ (.int ds.length) M := by unfold dLen; dsimp only; unfold sq; dsimp only; rw [h]
theorem len_row {M : Ms} {n : Nat} {p : Nat → Rat} {Φ : DK} : dLen [rowD n p] M Φ = Φ (.int n) M := by unfold rowD; rw [len_tup, up_len]
theorem len_tab {M : Ms} {m n : Nat} {p : Nat → Nat → Rat} {Φ : DK} : dLen [tabD m n p] M Φ = Φ (.int m) M := by unfold tabD; rw [len_tup, up_len]
theorem sq_tup' {M : Ms} {ds : List D} : sq M (.tup ds) = some ds := rfl
theorem sq_lst {M : Ms} {ds : List D} : sq M (.lst ds) = some ds := rfl
theorem sq_frl {M : Ms} {ds : List D} : sq M (.frl ds) = some ds := rfl
theorem sq_row {M : Ms} {n : Nat} {p : Nat → Rat} : sq M (rowD n p) = some (up n fun k => fr (p k)) := rfl
theorem sq_tab {M : Ms} {m n : Nat} {p : Nat → Nat → Rat} : sq M (tabD m n p) = some (up m fun k => rowD n (p k)) := rfl
theorem sq_ptr {M : Ms} {ds : List D} {k : Nat} (h : M[k]? = some (.lst ds)) : sq M (.ptr k) = some ds := by unfold sq; dsimp only; rw [h]
theorem lvf_lst {M : Ms} {ds : List D} : lvf M (.lst ds) = some ds := rfl
theorem lvf_frl {M : Ms} {ds : List D} : lvf M (.frl ds) = some ds := rfl
theorem lvf_ptr {M : Ms} {ds : List D} {k : Nat} (h : M[k]? = some (.lst ds)) : lvf M (.ptr k) = some ds := by unfold lvf; dsimp only; rw [h]
theorem isN_non : D.isN .non = true := rfl
theorem isN_tup {ds : List D} : D.isN (.tup ds) = false := rfl
theorem isN_int {i : Int} : D.isN (.int i) = false := rfl
theorem isN_bl {i : Bool} : D.isN (.bl i) = false := rfl
theorem sl_tup {M : Ms} {ds : List D} {lo hi : Option Int} {Φ : DK} : dSlR (.tup ds) lo hi M Φ = Φ (.tup (cutD ds lo hi)) M := rfl
theorem sl_lst {M : Ms} {ds : List D} {lo hi : Option Int} {Φ : DK} : dSlR (.lst ds) lo hi M Φ = Φ (.lst (cutD ds lo hi)) M := rfl
theorem sl_frl {M : Ms} {ds : List D} {lo hi : Option Int} {Φ : DK} : dSlR (.frl ds) lo hi M Φ = Φ (.lst (cutD ds lo hi)) M := rfl
theorem sl_str {M : Ms} {x : Str} {lo hi : Option Int} {Φ : DK} : dSlR (.str x) lo hi M Φ = (x.length ≤ sizeLine ∧ Φ (.str (cutS x lo hi)) M) := rfl
theorem tupOf_lst {M : Ms} {ds : List D} {Φ : DK} : dTupOf [.lst ds] M Φ = Φ (.tup ds) M := rfl
theorem tupOf_tup {M : Ms} {ds : List D} {Φ : DK} : dTupOf [.tup ds] M Φ = Φ (.tup ds) M := rfl
theorem keep_lst {ds es : List D} : keepOf (.lst ds) es = fun _ => True := rfl
theorem keep_frl {ds es : List D} : keepOf (.frl ds) es = fun _ => True := rfl
theorem keep_tup {ds es : List D} : keepOf (.tup ds) es = fun _ => True := rfl
theorem keep_row {n : Nat} {p : Nat → Rat} {es : List D} : keepOf (rowD n p) es = fun _ => True := rfl
theorem keep_tab {m n : Nat} {p : Nat → Nat → Rat} {es : List D} : keepOf (tabD m n p) es = fun _ => True := rfl
theorem keep_ptr {k : Nat} {es : List D} : keepOf (.ptr k) es = fun M => M[k]? = some (.lst es) := rfl
/-! ## equality of data -/
mutual
theorem D.eqv_self : ∀ (n : Nat) (d : D), D.fl n d = true → D.eqv d d = true
  | _, .non, _ => rfl
  | _, .bl b, _ => by simp [D.eqv]
  | _, .int i, _ => by simp [D.eqv]
  | _, .str x, _ => by simp [D.eqv]
  | n + 1, .tup ds, h => by
    unfold D.eqv
    unfold D.fl at h
    exact D.eqvL_self n ds h
  | n + 1, .lst ds, h => by
    unfold D.eqv
    unfold D.fl at h
    exact D.eqvL_self n ds h
  | n + 1, .frl ds, h => by
    unfold D.eqv
    unfold D.fl at h
    exact D.eqvL_self n ds h
  | 0, .tup _, h => by simp [D.fl] at h
  | 0, .lst _, h => by simp [D.fl] at h
  | 0, .frl _, h => by simp [D.fl] at h
  | _, .dct _ _, h => by simp [D.fl] at h
  | _, .ptr _, h => by simp [D.fl] at h
  | _, .obj _, h => by simp [D.fl] at h
  | _, .ty _, h => by simp [D.fl] at h
  | _, .exn _ _ _ _, h => by simp [D.fl] at h
theorem D.eqvL_self : ∀ (n : Nat) (ds : List D), D.flL n ds = true → D.eqvL ds ds = true
  | _, [], _ => rfl
  | n, d :: ds, h => by
    unfold D.flL at h
    rw [Bool.and_eq_true] at h
    unfold D.eqvL
    rw [D.eqv_self n d h.1, D.eqvL_self n ds h.2]
    rfl
end
theorem flL_of {n : Nat} : ∀ {ds : List D}, (∀ d ∈ ds, D.fl n d = true) → D.flL n ds = true
  | [], _ => by simp [D.flL]
  | d :: r, h => by
    unfold D.flL
    rw [h d List.mem_cons_self, flL_of fun e he => h e (List.mem_cons_of_mem _ he)]
    rfl
theorem fl_tup {n : Nat} {ds : List D} (h : ∀ d ∈ ds, D.fl n d = true) : D.fl (n + 1) (.tup ds) = true := by
  unfold D.fl
  exact flL_of h
theorem fl_lst {n : Nat} {ds : List D} (h : ∀ d ∈ ds, D.fl n d = true) : D.fl (n + 1) (.lst ds) = true := by
  unfold D.fl
  exact flL_of h
theorem fl_int {n : Nat} {i : Int} : D.fl n (.int i) = true := by cases n <;> rfl
theorem fl_bl {n : Nat} {i : Bool} : D.fl n (.bl i) = true := by cases n <;> rfl
theorem fl_non {n : Nat} : D.fl n .non = true := by cases n <;> rfl
theorem fl_fr {n : Nat} {x : Rat} : D.fl (n + 1) (fr x) = true := fl_tup fun d hd => by
  simp only [List.mem_cons, List.not_mem_nil, or_false] at hd
  rcases hd with rfl | rfl <;> exact fl_int
theorem fl_up {n m : Nat} {f : Nat → D} (h : ∀ k < m, D.fl n (f k) = true) : D.fl (n + 1) (.tup (up m f)) = true := fl_tup fun d hd => by
  obtain ⟨k, hk, rfl⟩ := List.mem_map.mp hd
  exact h k (List.mem_range.mp hk)
theorem fl_row {n m : Nat} {p : Nat → Rat} : D.fl (n + 2) (rowD m p) = true := fl_up fun _ _ => fl_fr
theorem fl_tab {n m k : Nat} {z : Nat → Nat → Rat} : D.fl (n + 3) (tabD m k z) = true := fl_up fun _ _ => fl_row
theorem eqv_fr (x y : Rat) : D.eqv (fr x) (fr y) = decide (x = y) := by
  have e : (x = y) ↔ (x.num = y.num ∧ x.den = y.den) := ⟨fun z => by rw [z]; exact ⟨rfl, rfl⟩, fun ⟨a, b⟩ => Rat.ext a b⟩
  have e2 : D.eqv (fr x) (fr y) = ((x.num == y.num) && (((x.den : Int) == (y.den : Int)) && true)) := by simp [fr, D.eqv, D.eqvL]
  rw [e2, Bool.and_true]
  rw [Bool.eq_iff_iff]
  simp only [Bool.and_eq_true, beq_iff_eq, decide_eq_true_eq, e]
  exact ⟨fun ⟨a, b⟩ => ⟨a, by omega⟩, fun ⟨a, b⟩ => ⟨a, by omega⟩⟩
/-- a table of likenesses -/
structure Lk (n : Nat) (z : Nat → Nat → Rat) : Prop where
  n1 : 1 ≤ n
  n8 : n ≤ 8
  sym : ∀ i < n, ∀ j < n, z i j = z j i
  one : ∀ i < n, z i i = 1
  lo : ∀ i < n, ∀ j < n, 0 ≤ z i j
  hi : ∀ i < n, ∀ j < n, z i j ≤ 1
  sm : ∀ i < n, ∀ j < n, Sm 3 (z i j)
/-- a community -/
structure Cm (n : Nat) (p : Nat → Rat) : Prop where
  lo : ∀ k < n, 0 ≤ p k
  sum : sg n p = 1
  sm : ∀ k < n, Sm 7 (p k)
def s_is_share : DSp := fun ds M Φ _ => ∃ x, ds = [fr x] ∧ 0 ≤ x ∧ x ≤ 1 ∧ Sm 100 x ∧ Φ (.bl true) M
theorem r_is_share : ∀ ds M Φ Ψ, s_is_share ds M Φ Ψ → ds.length = 1 ∧ T_is_share s_is_less (fnEnds M.length Φ Ψ) (startR N_is_share ds) M := by
  rintro ds M Φ Ψ ⟨x, rfl, h0, h1, hs, h⟩
  refine ⟨rfl, ?_⟩
  simp only [dSeq, dAsg, dIf, dIfS, dB, dOp, dUn, dCB, dCons, dNil, dTup, dLst, dVar, dC, dgName, dgTup, dgLst, dgCons, dgNil, dRet, dRetN, dDrop, dPar, dPar3, dNext, dAnd, dOr, dNot, dAndV, dOrV, dNotV, dChain, dCall, dCallR, dFor, diSeq, diRng1, diZip, diEnum, dLc, dYes, dElt, fnEnds, startR, wipeR, dAdd, dSub, dMul, dFdiv, dMod, dPow, dInt2, dNeg, dCmpI, dLt, dLe, dGt, dGe, dEq, dNe, D.res, dIsN, dIsNot, D.isN, dIsB, dIx, dSl, dPart, dNoPart, dSlR, dLen, dAbs, dInts2, dMax2, dMin2, dGcd, dInt, dTupOf, dIs1, dIs2, sq, lv, lvf, atI_0, atI_1, atI_2, atI_3, List.map, List.length, List.cons_append, List.nil_append, List.replicate, List.getElem?_cons_zero, List.getElem?_cons_succ, List.set, keepOf, if_true, if_false, T_is_share, N_is_share]
  refine ⟨x, 0, rfl, ⟨100, 1, hs, Sm.zero 0, by decide⟩, ?_⟩
  rw [decide_eq_false (by grind)]
  refine ⟨1, x, rfl, ⟨1, 100, ?_, hs, by decide⟩, ?_⟩
  · exact ⟨by show (1 : Nat) < 2; decide, by show (1 : Nat) < 2; decide⟩
  · rw [decide_eq_false (by grind)]
    exact DropN.of h
def s_is_likeness : DSp := fun ds M Φ _ => ∃ n z, ds = [tabD n n z] ∧ Lk n z ∧ Φ (.bl true) M
theorem r_is_likeness : ∀ ds M Φ Ψ, s_is_likeness ds M Φ Ψ → ds.length = 1 ∧ T_is_likeness s_is_table s_turned_of s_is_share (fnEnds M.length Φ Ψ) (startR N_is_likeness ds) M := by
  rintro ds M Φ Ψ ⟨n, z, rfl, L, h⟩
  refine ⟨rfl, ?_⟩
  have n1 := L.n1
  have n8 := L.n8
  simp only [dSeq, dAsg, dIf, dIfS, dB, dOp, dUn, dCB, dCons, dNil, dTup, dLst, dVar, dC, dgName, dgTup, dgLst, dgCons, dgNil, dRet, dRetN, dDrop, dPar, dPar3, dNext, dAnd, dOr, dNot, dAndV, dOrV, dNotV, dChain, dCall, dCallR, dFor, diSeq, diRng1, diZip, diEnum, dLc, dYes, dElt, fnEnds, startR, wipeR, dAdd, dSub, dMul, dFdiv, dMod, dPow, dInt2, dNeg, dCmpI, dLt, dLe, dGt, dGe, dEq, dNe, dIsN, dIsNot, dIsB, dSl, dPart, dNoPart, dAbs, dInts2, dMax2, dMin2, dGcd, dInt, dIs1, dIs2, atI_0, atI_1, atI_2, atI_3, List.map, List.length, List.cons_append, List.nil_append, List.replicate, List.getElem?_cons_zero, List.getElem?_cons_succ, List.set, if_true, if_false, res_tup, res_lst, res_int, res_bl, res_str, res_non, res_fr, res_row, res_tab, res_ptr, ix_tup, ix_lst, ix_frl, ix_row, ix_tab, ix_fr0, ix_fr1, ix_ptr, len_tup, len_lst, len_frl, len_row, len_tab, len_ptr, sq_tup', sq_lst, sq_frl, sq_row, sq_tab, sq_ptr, lvf_lst, lvf_frl, lvf_ptr, isN_non, isN_tup, isN_int, isN_bl, sl_tup, sl_lst, sl_frl, sl_str, tupOf_lst, tupOf_tup, up_len, keep_lst, keep_frl, keep_tup, keep_row, keep_tab, keep_ptr, T_is_likeness, N_is_likeness]
  refine ⟨n, z, rfl, L.n1, L.n8, ?_⟩
  change (if (!true) = true then _ else _)
  rw [if_neg (by decide)]
  refine ⟨n, n, z, rfl, L.n1, L.n8, L.n8, ?_⟩
  have e : tabD n n (fun j i => z i j) = tabD n n z := by
    unfold tabD rowD up
    congr 1
    refine List.map_congr_left fun i hi => ?_
    congr 1
    refine List.map_congr_left fun j hj => ?_
    show fr (z j i) = fr (z i j)
    rw [L.sym j (List.mem_range.mp hj) i (List.mem_range.mp hi)]
  rw [e]
  simp only [res_tab]
  refine ⟨fl_tab, fl_tab, ?_⟩
  refine no (by rw [D.eqv_self 60 _ fl_tab]; decide) ?_
  simp only [dLc2, dSeq, dAsg, dIf, dIfS, dB, dOp, dUn, dCB, dCons, dNil, dTup, dLst, dVar, dC, dgName, dgTup, dgLst, dgCons, dgNil, dRet, dRetN, dDrop, dPar, dPar3, dNext, dAnd, dOr, dNot, dAndV, dOrV, dNotV, dChain, dCall, dCallR, dFor, diSeq, diRng1, diZip, diEnum, dLc, dYes, dElt, fnEnds, startR, wipeR, dAdd, dSub, dMul, dFdiv, dMod, dPow, dInt2, dNeg, dCmpI, dLt, dLe, dGt, dGe, dEq, dNe, dIsN, dIsNot, dIsB, dSl, dPart, dNoPart, dAbs, dInts2, dMax2, dMin2, dGcd, dInt, dIs1, dIs2, atI_0, atI_1, atI_2, atI_3, List.map, List.length, List.cons_append, List.nil_append, List.replicate, List.getElem?_cons_zero, List.getElem?_cons_succ, List.set, if_true, if_false, res_tup, res_lst, res_int, res_bl, res_str, res_non, res_fr, res_row, res_tab, res_ptr, ix_tup, ix_lst, ix_frl, ix_row, ix_tab, ix_fr0, ix_fr1, ix_ptr, len_tup, len_lst, len_frl, len_row, len_tab, len_ptr, sq_tup', sq_lst, sq_frl, sq_row, sq_tab, sq_ptr, lvf_lst, lvf_frl, lvf_ptr, isN_non, isN_tup, isN_int, isN_bl, sl_tup, sl_lst, sl_frl, sl_str, tupOf_lst, tupOf_tup, up_len, keep_lst, keep_frl, keep_tup, keep_row, keep_tab, keep_ptr]
  refine go_ind (e := fun i => rowD n (z i)) (I := fun xs acc M' => M' = M ∧ (∀ x ∈ xs, x < n) ∧ ∃ c, acc = (List.replicate c true).map D.bl ∧ c + n * xs.length ≤ n * n) ?_ ?_ (List.range n) [] M ?_
  · rintro acc M' ⟨rfl, _, c, rfl, _⟩
    refine ⟨trivial, ⟨_, rfl, ?_⟩⟩
    have ea : (List.replicate c true).all id = true := by simp
    rw [ea]
    change (if (!true) = true then _ else _)
    rw [if_neg (by decide)]
    refine ⟨by omega, by omega, ?_⟩
    unfold rngD
    refine go_map (e := fun j : Nat => D.int (0 + j)) (f := fun _ => .bl true) (List.range n) (fun j hj acc kk hkk hl => ?_) trivial (small (by simp; omega)) ⟨_, congrArg some (map_bl _), ?_⟩
    · have hj := List.mem_range.mp hj
      have e1 : D.tup [.int 1, .int 1] = fr (1 : Rat) := rfl
      simp only [e1, dSeq, dAsg, dIf, dIfS, dB, dOp, dUn, dCB, dCons, dNil, dTup, dLst, dVar, dC, dgName, dgTup, dgLst, dgCons, dgNil, dRet, dRetN, dDrop, dPar, dPar3, dNext, dAnd, dOr, dNot, dAndV, dOrV, dNotV, dChain, dCall, dCallR, dFor, diSeq, diRng1, diZip, diEnum, dLc, dYes, dElt, fnEnds, startR, wipeR, dAdd, dSub, dMul, dFdiv, dMod, dPow, dInt2, dNeg, dCmpI, dLt, dLe, dGt, dGe, dEq, dNe, dIsN, dIsNot, dIsB, dSl, dPart, dNoPart, dAbs, dInts2, dMax2, dMin2, dGcd, dInt, dIs1, dIs2, atI_0, atI_1, atI_2, atI_3, List.map, List.length, List.cons_append, List.nil_append, List.replicate, List.getElem?_cons_zero, List.getElem?_cons_succ, List.set, if_true, if_false, res_tup, res_lst, res_int, res_bl, res_str, res_non, res_fr, res_row, res_tab, res_ptr, ix_tup, ix_lst, ix_frl, ix_row, ix_tab, ix_fr0, ix_fr1, ix_ptr, len_tup, len_lst, len_frl, len_row, len_tab, len_ptr, sq_tup', sq_lst, sq_frl, sq_row, sq_tab, sq_ptr, lvf_lst, lvf_frl, lvf_ptr, isN_non, isN_tup, isN_int, isN_bl, sl_tup, sl_lst, sl_frl, sl_str, tupOf_lst, tupOf_tup, up_len, keep_lst, keep_frl, keep_tup, keep_row, keep_tab, keep_ptr, Int.zero_add, up_at hj]
      refine ⟨fl_fr, fl_fr, hl, ?_⟩
      rw [eqv_fr, L.one j hj, decide_eq_true rfl]
      exact hkk
    · rw [all_true]
      exact DropN.of h
  · rintro i r acc M' k hk ⟨rfl, hi, c, rfl, hc⟩
    have hin := hi i List.mem_cons_self
    refine ⟨trivial, ?_⟩
    simp only [dStep2, dSeq, dAsg, dIf, dIfS, dB, dOp, dUn, dCB, dCons, dNil, dTup, dLst, dVar, dC, dgName, dgTup, dgLst, dgCons, dgNil, dRet, dRetN, dDrop, dPar, dPar3, dNext, dAnd, dOr, dNot, dAndV, dOrV, dNotV, dChain, dCall, dCallR, dFor, diSeq, diRng1, diZip, diEnum, dLc, dYes, dElt, fnEnds, startR, wipeR, dAdd, dSub, dMul, dFdiv, dMod, dPow, dInt2, dNeg, dCmpI, dLt, dLe, dGt, dGe, dEq, dNe, dIsN, dIsNot, dIsB, dSl, dPart, dNoPart, dAbs, dInts2, dMax2, dMin2, dGcd, dInt, dIs1, dIs2, atI_0, atI_1, atI_2, atI_3, List.map, List.length, List.cons_append, List.nil_append, List.replicate, List.getElem?_cons_zero, List.getElem?_cons_succ, List.set, if_true, if_false, res_tup, res_lst, res_int, res_bl, res_str, res_non, res_fr, res_row, res_tab, res_ptr, ix_tup, ix_lst, ix_frl, ix_row, ix_tab, ix_fr0, ix_fr1, ix_ptr, len_tup, len_lst, len_frl, len_row, len_tab, len_ptr, sq_tup', sq_lst, sq_frl, sq_row, sq_tab, sq_ptr, lvf_lst, lvf_frl, lvf_ptr, isN_non, isN_tup, isN_int, isN_bl, sl_tup, sl_lst, sl_frl, sl_str, tupOf_lst, tupOf_tup, up_len, keep_lst, keep_frl, keep_tup, keep_row, keep_tab, keep_ptr]
    simp only [List.length_cons, Nat.mul_succ] at hc
    refine go_ind (e := fun j => fr (z i j)) (I := fun xs acc M'' => M'' = M' ∧ (∀ x ∈ xs, x < n) ∧ ∃ c', acc = (List.replicate c' true).map D.bl ∧ c' + xs.length ≤ c + n) ?_ ?_ (List.range n) _ _ ⟨rfl, fun x hx => List.mem_range.mp hx, c, rfl, by simp⟩
    · rintro acc M'' ⟨rfl, _, c', rfl, hc'⟩
      have hc' : c' ≤ c + n := hc'
      exact ⟨trivial, hk _ _ ⟨rfl, fun x hx => hi x (List.mem_cons_of_mem _ hx), c', rfl, by omega⟩⟩
    · rintro j r' acc M'' k' hk' ⟨rfl, hj, c', rfl, hc'⟩
      have hjn := hj j List.mem_cons_self
      refine ⟨trivial, ?_⟩
      refine ⟨z i j, rfl, L.lo i hin j hjn, L.hi i hin j hjn, (L.sm i hin j hjn).mono (by decide), ?_, hk' _ _ ⟨rfl, fun x hx => hj x (List.mem_cons_of_mem _ hx), c' + 1, ?_, ?_⟩⟩
      · simp only [List.length_map, List.length_replicate, List.length_cons] at hc' ⊢
        have : n * n ≤ 64 := Nat.mul_le_mul L.n8 L.n8
        have h2 : c' ≤ 1000 := by omega
        exact Nat.lt_of_le_of_lt h2 (by decide)
      · rw [List.replicate_succ', List.map_append]
        rfl
      · simp only [List.length_cons] at hc'
        omega
  · exact ⟨rfl, fun x hx => List.mem_range.mp hx, 0, rfl, by simp⟩
def s_check_likeness : DSp := fun ds M Φ _ => ∃ n z, ds = [tabD n n z] ∧ Lk n z ∧ Φ .non M
theorem r_check_likeness (c : Addr) : ∀ ds M Φ Ψ, s_check_likeness ds M Φ Ψ → ds.length = 1 ∧ T_check_likeness c s_is_likeness (fnEnds M.length Φ Ψ) (startR N_check_likeness ds) M := by
  rintro ds M Φ Ψ ⟨n, z, rfl, L, h⟩
  refine ⟨rfl, ?_⟩
  simp only [dSeq, dAsg, dIf, dIfS, dB, dOp, dUn, dCB, dCons, dNil, dTup, dLst, dVar, dC, dgName, dgTup, dgLst, dgCons, dgNil, dRet, dRetN, dDrop, dPar, dPar3, dNext, dAnd, dOr, dNot, dAndV, dOrV, dNotV, dChain, dCall, dCallR, dFor, diSeq, diRng1, diZip, diEnum, dLc, dYes, dElt, fnEnds, startR, wipeR, dAdd, dSub, dMul, dFdiv, dMod, dPow, dInt2, dNeg, dCmpI, dLt, dLe, dGt, dGe, dEq, dNe, dIsN, dIsNot, dIsB, dSl, dPart, dNoPart, dAbs, dInts2, dMax2, dMin2, dGcd, dInt, dIs1, dIs2, atI_0, atI_1, atI_2, atI_3, List.map, List.length, List.cons_append, List.nil_append, List.replicate, List.getElem?_cons_zero, List.getElem?_cons_succ, List.set, if_true, if_false, res_tup, res_lst, res_int, res_bl, res_str, res_non, res_fr, res_row, res_tab, res_ptr, ix_tup, ix_lst, ix_frl, ix_row, ix_tab, ix_fr0, ix_fr1, ix_ptr, len_tup, len_lst, len_frl, len_row, len_tab, len_ptr, sq_tup', sq_lst, sq_frl, sq_row, sq_tab, sq_ptr, lvf_lst, lvf_frl, lvf_ptr, isN_non, isN_tup, isN_int, isN_bl, sl_tup, sl_lst, sl_frl, sl_str, tupOf_lst, tupOf_tup, up_len, keep_lst, keep_frl, keep_tup, keep_row, keep_tab, keep_ptr, T_check_likeness, N_check_likeness]
  exact ⟨n, z, rfl, L, DropN.of h⟩
/-- an in-between: all of them hold -/
theorem all_up {n : Nat} {M : Ms} {Φ : DK} (h : Φ (.bl true) M) : dAll [.lst (up n fun _ => .bl true)] M Φ := by
  refine ⟨_, congrArg some (map_bl _), ?_⟩
  rw [all_true]
  exact h
def s_is_community_of : DSp := fun ds M Φ _ => ∃ n p, ds = [.int (n : Nat), rowD n p] ∧ Cm n p ∧ n ≤ 8 ∧ Φ (.bl true) M
theorem one_frac : D.tup [.int 1, .int 1] = fr (1 : Rat) := rfl
theorem zero_frac : D.tup [.int 0, .int 1] = fr (0 : Rat) := rfl
theorem s_total_tup {n : Nat} {p : Nat → Rat} {M : Ms} {Φ : DK} {Ψ : DX} : True := trivial
theorem r_is_community_of : ∀ ds M Φ Ψ, s_is_community_of ds M Φ Ψ → ds.length = 2 ∧ T_is_community_of s_is_row_of s_is_less s_total (fnEnds M.length Φ Ψ) (startR N_is_community_of ds) M := by
  rintro ds M Φ Ψ ⟨n, p, rfl, C, n8, h⟩
  refine ⟨rfl, ?_⟩
  simp only [zero_frac, one_frac, dSeq, dAsg, dIf, dIfS, dB, dOp, dUn, dCB, dCons, dNil, dTup, dLst, dVar, dC, dgName, dgTup, dgLst, dgCons, dgNil, dRet, dRetN, dDrop, dPar, dPar3, dNext, dAnd, dOr, dNot, dAndV, dOrV, dNotV, dChain, dCall, dCallR, dFor, diSeq, diRng1, diZip, diEnum, dLc, dYes, dElt, fnEnds, startR, wipeR, dAdd, dSub, dMul, dFdiv, dMod, dPow, dInt2, dNeg, dCmpI, dLt, dLe, dGt, dGe, dEq, dNe, dIsN, dIsNot, dIsB, dSl, dPart, dNoPart, dAbs, dInts2, dMax2, dMin2, dGcd, dInt, dIs1, dIs2, atI_0, atI_1, atI_2, atI_3, List.map, List.length, List.cons_append, List.nil_append, List.replicate, List.getElem?_cons_zero, List.getElem?_cons_succ, List.set, if_true, if_false, res_tup, res_lst, res_int, res_bl, res_str, res_non, res_fr, res_row, res_tab, res_ptr, ix_tup, ix_lst, ix_frl, ix_row, ix_tab, ix_fr0, ix_fr1, ix_ptr, len_tup, len_lst, len_frl, len_row, len_tab, len_ptr, sq_tup', sq_lst, sq_frl, sq_row, sq_tab, sq_ptr, lvf_lst, lvf_frl, lvf_ptr, isN_non, isN_tup, isN_int, isN_bl, sl_tup, sl_lst, sl_frl, sl_str, tupOf_lst, tupOf_tup, up_len, keep_lst, keep_frl, keep_tup, keep_row, keep_tab, keep_ptr, T_is_community_of, N_is_community_of]
  refine ⟨n, p, _, rfl, rfl, by omega, ?_⟩
  simp only [if_true]
  refine go_map (e := fun k => fr (p k)) (f := fun _ => .bl true) (List.range n) (fun k hk acc kk hkk hl => ?_) trivial (small (by simp; omega)) (all_up ?_)
  · have hk := List.mem_range.mp hk
    refine ⟨p k, 0, rfl, ⟨7, 1, C.sm k hk, Sm.zero 0, by decide⟩, ?_⟩
    rw [decide_eq_false (by have := C.lo k hk; grind)]
    exact ⟨hl, hkk⟩
  · simp only [if_true]
    refine ⟨up n p, ?_, ⟨7, fun x hx => ?_, by rw [up_len]; omega⟩, ?_⟩
    · exact Or.inr (by rw [up_map]; rfl)
    · obtain ⟨k, hk, rfl⟩ := List.mem_map.mp hx
      exact C.sm k (List.mem_range.mp hk)
    · refine ⟨fl_fr, fl_fr, DropN.of ?_⟩
      rw [res_fr, eqv_fr, show tot (up n p) = 1 from C.sum]
      exact h
def s_check_community : DSp := fun ds M Φ _ => ∃ m n z p, ds = [tabD n m z, rowD n p] ∧ Cm n p ∧ n ≤ 8 ∧ Φ .non M
theorem r_check_community (c : Addr) : ∀ ds M Φ Ψ, s_check_community ds M Φ Ψ → ds.length = 2 ∧ T_check_community c s_is_community_of (fnEnds M.length Φ Ψ) (startR N_check_community ds) M := by
  rintro ds M Φ Ψ ⟨m, n, z, p, rfl, C, n8, h⟩
  refine ⟨rfl, ?_⟩
  simp only [dSeq, dAsg, dIf, dIfS, dB, dOp, dUn, dCB, dCons, dNil, dTup, dLst, dVar, dC, dgName, dgTup, dgLst, dgCons, dgNil, dRet, dRetN, dDrop, dPar, dPar3, dNext, dAnd, dOr, dNot, dAndV, dOrV, dNotV, dChain, dCall, dCallR, dFor, diSeq, diRng1, diZip, diEnum, dLc, dYes, dElt, fnEnds, startR, wipeR, dAdd, dSub, dMul, dFdiv, dMod, dPow, dInt2, dNeg, dCmpI, dLt, dLe, dGt, dGe, dEq, dNe, dIsN, dIsNot, dIsB, dSl, dPart, dNoPart, dAbs, dInts2, dMax2, dMin2, dGcd, dInt, dIs1, dIs2, atI_0, atI_1, atI_2, atI_3, List.map, List.length, List.cons_append, List.nil_append, List.replicate, List.getElem?_cons_zero, List.getElem?_cons_succ, List.set, if_true, if_false, res_tup, res_lst, res_int, res_bl, res_str, res_non, res_fr, res_row, res_tab, res_ptr, ix_tup, ix_lst, ix_frl, ix_row, ix_tab, ix_fr0, ix_fr1, ix_ptr, len_tup, len_lst, len_frl, len_row, len_tab, len_ptr, sq_tup', sq_lst, sq_frl, sq_row, sq_tab, sq_ptr, lvf_lst, lvf_frl, lvf_ptr, isN_non, isN_tup, isN_int, isN_bl, sl_tup, sl_lst, sl_frl, sl_str, tupOf_lst, tupOf_tup, up_len, keep_lst, keep_frl, keep_tup, keep_row, keep_tab, keep_ptr, T_check_community, N_check_community]
  exact ⟨n, p, rfl, C, n8, DropN.of h⟩
/-- the kinds that are there -/
def supp (n : Nat) (p : Nat → Rat) : List Nat := (List.range n).filter fun k => decide (p k ≠ 0)
def s_support_of : DSp := fun ds M Φ _ => ∃ n p, ds = [rowD n p] ∧ n ≤ 1000 ∧ Φ (.tup ((supp n p).map fun k => .int (k : Nat))) M
theorem enum_up {n : Nat} {f : Nat → D} : enumD (up n f) = up n fun k => .tup [.int (k : Nat), f k] := by
  unfold enumD up
  apply List.ext_getElem?
  intro i
  rw [List.getElem?_mapIdx]
  by_cases h : i < n
  · simp [h]
  · simp [h]
theorem r_support_of : ∀ ds M Φ Ψ, s_support_of ds M Φ Ψ → ds.length = 1 ∧ T_support_of (fnEnds M.length Φ Ψ) (startR N_support_of ds) M := by
  rintro ds M Φ Ψ ⟨n, p, rfl, hn, h⟩
  refine ⟨rfl, ?_⟩
  simp only [zero_frac, dSeq, dAsg, dIf, dIfS, dB, dOp, dUn, dCB, dCons, dNil, dTup, dLst, dVar, dC, dgName, dgTup, dgLst, dgCons, dgNil, dRet, dRetN, dDrop, dPar, dPar3, dNext, dAnd, dOr, dNot, dAndV, dOrV, dNotV, dChain, dCall, dCallR, dFor, diSeq, diRng1, diZip, diEnum, dLc, dYes, dElt, fnEnds, startR, wipeR, dAdd, dSub, dMul, dFdiv, dMod, dPow, dInt2, dNeg, dCmpI, dLt, dLe, dGt, dGe, dEq, dNe, dIsN, dIsNot, dIsB, dSl, dPart, dNoPart, dAbs, dInts2, dMax2, dMin2, dGcd, dInt, dIs1, dIs2, atI_0, atI_1, atI_2, atI_3, List.map, List.length, List.cons_append, List.nil_append, List.replicate, List.getElem?_cons_zero, List.getElem?_cons_succ, List.set, if_true, if_false, res_tup, res_lst, res_int, res_bl, res_str, res_non, res_fr, res_row, res_tab, res_ptr, ix_tup, ix_lst, ix_frl, ix_row, ix_tab, ix_fr0, ix_fr1, ix_ptr, len_tup, len_lst, len_frl, len_row, len_tab, len_ptr, sq_tup', sq_lst, sq_frl, sq_row, sq_tab, sq_ptr, lvf_lst, lvf_frl, lvf_ptr, isN_non, isN_tup, isN_int, isN_bl, sl_tup, sl_lst, sl_frl, sl_str, tupOf_lst, tupOf_tup, up_len, keep_lst, keep_frl, keep_tup, keep_row, keep_tab, keep_ptr, T_support_of, N_support_of]
  rw [enum_up]
  refine go_filter (e := fun k : Nat => D.tup [.int (k : Nat), fr (p k)]) (f := fun k => .int (k : Nat)) (fun k => decide (p k ≠ 0)) (List.range n) (fun k hk acc kk hk1 hk2 hl => ?_) trivial (small (by simp; omega)) (DropN.of h)
  simp only [dSeq, dAsg, dIf, dIfS, dB, dOp, dUn, dCB, dCons, dNil, dTup, dLst, dVar, dC, dgName, dgTup, dgLst, dgCons, dgNil, dRet, dRetN, dDrop, dPar, dPar3, dNext, dAnd, dOr, dNot, dAndV, dOrV, dNotV, dChain, dCall, dCallR, dFor, diSeq, diRng1, diZip, diEnum, dLc, dYes, dElt, fnEnds, startR, wipeR, dAdd, dSub, dMul, dFdiv, dMod, dPow, dInt2, dNeg, dCmpI, dLt, dLe, dGt, dGe, dEq, dNe, dIsN, dIsNot, dIsB, dSl, dPart, dNoPart, dAbs, dInts2, dMax2, dMin2, dGcd, dInt, dIs1, dIs2, atI_0, atI_1, atI_2, atI_3, List.map, List.length, List.cons_append, List.nil_append, List.replicate, List.getElem?_cons_zero, List.getElem?_cons_succ, List.set, if_true, if_false, res_tup, res_lst, res_int, res_bl, res_str, res_non, res_fr, res_row, res_tab, res_ptr, ix_tup, ix_lst, ix_frl, ix_row, ix_tab, ix_fr0, ix_fr1, ix_ptr, len_tup, len_lst, len_frl, len_row, len_tab, len_ptr, sq_tup', sq_lst, sq_frl, sq_row, sq_tab, sq_ptr, lvf_lst, lvf_frl, lvf_ptr, isN_non, isN_tup, isN_int, isN_bl, sl_tup, sl_lst, sl_frl, sl_str, tupOf_lst, tupOf_tup, up_len, keep_lst, keep_frl, keep_tup, keep_row, keep_tab, keep_ptr]
  refine ⟨fl_fr, fl_fr, ?_⟩
  by_cases z : p k = 0
  · refine no (by rw [eqv_fr, decide_eq_true z]; decide) ?_
    exact hk2 (by simp [z])
  · refine yes (by rw [eqv_fr, decide_eq_false z]; decide) ?_
    exact ⟨hl, hk1 (by simp [z])⟩
def s_check_both : DSp := fun ds M Φ _ => ∃ n z p, ds = [tabD n n z, rowD n p] ∧ Lk n z ∧ Cm n p ∧ Φ .non M
theorem r_check_both : ∀ ds M Φ Ψ, s_check_both ds M Φ Ψ → ds.length = 2 ∧ T_check_both s_check_likeness s_check_community (fnEnds M.length Φ Ψ) (startR N_check_both ds) M := by
  rintro ds M Φ Ψ ⟨n, z, p, rfl, L, C, h⟩
  refine ⟨rfl, ?_⟩
  simp only [dSeq, dAsg, dIf, dIfS, dB, dOp, dUn, dCB, dCons, dNil, dTup, dLst, dVar, dC, dgName, dgTup, dgLst, dgCons, dgNil, dRet, dRetN, dDrop, dPar, dPar3, dNext, dAnd, dOr, dNot, dAndV, dOrV, dNotV, dChain, dCall, dCallR, dFor, diSeq, diRng1, diZip, diEnum, dLc, dYes, dElt, fnEnds, startR, wipeR, dAdd, dSub, dMul, dFdiv, dMod, dPow, dInt2, dNeg, dCmpI, dLt, dLe, dGt, dGe, dEq, dNe, dIsN, dIsNot, dIsB, dSl, dPart, dNoPart, dAbs, dInts2, dMax2, dMin2, dGcd, dInt, dIs1, dIs2, atI_0, atI_1, atI_2, atI_3, List.map, List.length, List.cons_append, List.nil_append, List.replicate, List.getElem?_cons_zero, List.getElem?_cons_succ, List.set, if_true, if_false, res_tup, res_lst, res_int, res_bl, res_str, res_non, res_fr, res_row, res_tab, res_ptr, ix_tup, ix_lst, ix_frl, ix_row, ix_tab, ix_fr0, ix_fr1, ix_ptr, len_tup, len_lst, len_frl, len_row, len_tab, len_ptr, sq_tup', sq_lst, sq_frl, sq_row, sq_tab, sq_ptr, lvf_lst, lvf_frl, lvf_ptr, isN_non, isN_tup, isN_int, isN_bl, sl_tup, sl_lst, sl_frl, sl_str, tupOf_lst, tupOf_tup, up_len, keep_lst, keep_frl, keep_tup, keep_row, keep_tab, keep_ptr, T_check_both, N_check_both]
  exact ⟨n, z, rfl, L, n, n, z, p, rfl, C, L.n8, DropN.of h⟩
/-- the presences -/
def xx (n : Nat) (z : Nat → Nat → Rat) (p : Nat → Rat) (i : Nat) : Rat := sg n fun k => z i k * p k
theorem Sm.totA {b : Nat} : ∀ (xs : List Rat) (a : Rat) (c : Nat), (∀ x ∈ xs, Sm b x) → Sm c a → Sm (c + xs.length * (b + 1)) (totA a xs)
  | [], a, c, _, ha => by simpa [K85.totA] using ha
  | x :: r, a, c, h, ha => by
    have := Sm.totA r (a + x) (c + b + 1) (fun y hy => h y (List.mem_cons_of_mem _ hy)) (ha.add (h x List.mem_cons_self))
    unfold K85.totA
    refine this.mono ?_
    rw [List.length_cons, Nat.add_mul, Nat.one_mul]
    omega
theorem Sm.tot {b : Nat} {xs : List Rat} (h : ∀ x ∈ xs, Sm b x) : Sm (1 + xs.length * (b + 1)) (tot xs) := Sm.totA xs 0 1 h (Sm.zero 0)
theorem Sm.sg {b n : Nat} {f : Nat → Rat} (h : ∀ k < n, Sm b (f k)) : Sm (1 + n * (b + 1)) (sg n f) := by
  have := Sm.tot (xs := up n f) (b := b) fun x hx => by
    obtain ⟨k, hk, rfl⟩ := List.mem_map.mp hx
    exact h k (List.mem_range.mp hk)
  rwa [up_len] at this
theorem xx_sm {n : Nat} {z : Nat → Nat → Rat} {p : Nat → Rat} (L : Lk n z) (C : Cm n p) {i : Nat} (hi : i < n) : Sm 89 (xx n z p i) := by
  have h := Sm.sg (b := 10) (n := n) (f := fun k => z i k * p k) fun k hk => (L.sm i hi k hk).mul (C.sm k hk)
  have := L.n8
  exact h.mono (by omega)
/-- share and presence of the kinds that are there -/
def shD (n : Nat) (z : Nat → Nat → Rat) (p : Nat → Rat) : D := .lst ((supp n p).map fun k => .tup [fr (p k), fr (xx n z p k)])
def s_shares_of : DSp := fun ds M Φ _ => ∃ n z p, ds = [tabD n n z, rowD n p] ∧ Lk n z ∧ Cm n p ∧ Φ (shD n z p) M
theorem supp_lt {n k : Nat} {p : Nat → Rat} (h : k ∈ supp n p) : k < n := List.mem_range.mp (List.mem_filter.mp h).1
theorem supp_len {n : Nat} {p : Nat → Rat} : (supp n p).length ≤ n := by
  have := List.length_filter_le (fun k => decide (p k ≠ 0)) (List.range n)
  rw [List.length_range] at this
  exact this
theorem r_shares_of : ∀ ds M Φ Ψ, s_shares_of ds M Φ Ψ → ds.length = 2 ∧ T_shares_of s_applied_to s_support_of (fnEnds M.length Φ Ψ) (startR N_shares_of ds) M := by
  rintro ds M Φ Ψ ⟨n, z, p, rfl, L, C, h⟩
  refine ⟨rfl, ?_⟩
  have n8 := L.n8
  simp only [dSeq, dAsg, dIf, dIfS, dB, dOp, dUn, dCB, dCons, dNil, dTup, dLst, dVar, dC, dgName, dgTup, dgLst, dgCons, dgNil, dRet, dRetN, dDrop, dPar, dPar3, dNext, dAnd, dOr, dNot, dAndV, dOrV, dNotV, dChain, dCall, dCallR, dFor, diSeq, diRng1, diZip, diEnum, dLc, dYes, dElt, fnEnds, startR, wipeR, dAdd, dSub, dMul, dFdiv, dMod, dPow, dInt2, dNeg, dCmpI, dLt, dLe, dGt, dGe, dEq, dNe, dIsN, dIsNot, dIsB, dSl, dPart, dNoPart, dAbs, dInts2, dMax2, dMin2, dGcd, dInt, dIs1, dIs2, atI_0, atI_1, atI_2, atI_3, List.map, List.length, List.cons_append, List.nil_append, List.replicate, List.getElem?_cons_zero, List.getElem?_cons_succ, List.set, if_true, if_false, res_tup, res_lst, res_int, res_bl, res_str, res_non, res_fr, res_row, res_tab, res_ptr, ix_tup, ix_lst, ix_frl, ix_row, ix_tab, ix_fr0, ix_fr1, ix_ptr, len_tup, len_lst, len_frl, len_row, len_tab, len_ptr, sq_tup', sq_lst, sq_frl, sq_row, sq_tab, sq_ptr, lvf_lst, lvf_frl, lvf_ptr, isN_non, isN_tup, isN_int, isN_bl, sl_tup, sl_lst, sl_frl, sl_str, tupOf_lst, tupOf_tup, up_len, keep_lst, keep_frl, keep_tup, keep_row, keep_tab, keep_ptr, T_shares_of, N_shares_of]
  refine ⟨n, n, z, p, rfl, ⟨3, 7, fun i hi k hk => L.sm i hi k hk, C.sm, by omega⟩, by omega, by omega, ?_⟩
  refine ⟨n, p, rfl, by omega, ?_⟩
  simp only [dSeq, dAsg, dIf, dIfS, dB, dOp, dUn, dCB, dCons, dNil, dTup, dLst, dVar, dC, dgName, dgTup, dgLst, dgCons, dgNil, dRet, dRetN, dDrop, dPar, dPar3, dNext, dAnd, dOr, dNot, dAndV, dOrV, dNotV, dChain, dCall, dCallR, dFor, diSeq, diRng1, diZip, diEnum, dLc, dYes, dElt, fnEnds, startR, wipeR, dAdd, dSub, dMul, dFdiv, dMod, dPow, dInt2, dNeg, dCmpI, dLt, dLe, dGt, dGe, dEq, dNe, dIsN, dIsNot, dIsB, dSl, dPart, dNoPart, dAbs, dInts2, dMax2, dMin2, dGcd, dInt, dIs1, dIs2, atI_0, atI_1, atI_2, atI_3, List.map, List.length, List.cons_append, List.nil_append, List.replicate, List.getElem?_cons_zero, List.getElem?_cons_succ, List.set, if_true, if_false, res_tup, res_lst, res_int, res_bl, res_str, res_non, res_fr, res_row, res_tab, res_ptr, ix_tup, ix_lst, ix_frl, ix_row, ix_tab, ix_fr0, ix_fr1, ix_ptr, len_tup, len_lst, len_frl, len_row, len_tab, len_ptr, sq_tup', sq_lst, sq_frl, sq_row, sq_tab, sq_ptr, lvf_lst, lvf_frl, lvf_ptr, isN_non, isN_tup, isN_int, isN_bl, sl_tup, sl_lst, sl_frl, sl_str, tupOf_lst, tupOf_tup, up_len, keep_lst, keep_frl, keep_tup, keep_row, keep_tab, keep_ptr]
  have := supp_len (n := n) (p := p)
  refine go_map (e := fun k : Nat => D.int (k : Nat)) (f := fun k => .tup [fr (p k), fr (xx n z p k)]) (supp n p) (fun k hk acc kk hkk hl => ?_) trivial (small (by omega)) (DropN.of h)
  simp only [dSeq, dAsg, dIf, dIfS, dB, dOp, dUn, dCB, dCons, dNil, dTup, dLst, dVar, dC, dgName, dgTup, dgLst, dgCons, dgNil, dRet, dRetN, dDrop, dPar, dPar3, dNext, dAnd, dOr, dNot, dAndV, dOrV, dNotV, dChain, dCall, dCallR, dFor, diSeq, diRng1, diZip, diEnum, dLc, dYes, dElt, fnEnds, startR, wipeR, dAdd, dSub, dMul, dFdiv, dMod, dPow, dInt2, dNeg, dCmpI, dLt, dLe, dGt, dGe, dEq, dNe, dIsN, dIsNot, dIsB, dSl, dPart, dNoPart, dAbs, dInts2, dMax2, dMin2, dGcd, dInt, dIs1, dIs2, atI_0, atI_1, atI_2, atI_3, List.map, List.length, List.cons_append, List.nil_append, List.replicate, List.getElem?_cons_zero, List.getElem?_cons_succ, List.set, if_true, if_false, res_tup, res_lst, res_int, res_bl, res_str, res_non, res_fr, res_row, res_tab, res_ptr, ix_tup, ix_lst, ix_frl, ix_row, ix_tab, ix_fr0, ix_fr1, ix_ptr, len_tup, len_lst, len_frl, len_row, len_tab, len_ptr, sq_tup', sq_lst, sq_frl, sq_row, sq_tab, sq_ptr, lvf_lst, lvf_frl, lvf_ptr, isN_non, isN_tup, isN_int, isN_bl, sl_tup, sl_lst, sl_frl, sl_str, tupOf_lst, tupOf_tup, up_len, keep_lst, keep_frl, keep_tup, keep_row, keep_tab, keep_ptr, up_at (supp_lt hk)]
  exact ⟨by decide, hl, hkk⟩
end K85

set_option Elab.async false
set_option linter.all false
set_option autoImplicit false
set_option maxRecDepth 100000
set_option maxHeartbeats 2000000
/-! # The plain law: sums and means of fractions (no program in sight) -/
namespace K85
/-! ## small ordered-field facts -/
theorem q_mul_nn {a b : Rat} (ha : 0 ≤ a) (hb : 0 ≤ b) : 0 ≤ a * b := Rat.mul_nonneg ha hb
theorem q_mul_pos {a b : Rat} (ha : 0 < a) (hb : 0 < b) : 0 < a * b := Rat.mul_pos ha hb
theorem q_mul_le {a b c : Rat} (h : a ≤ b) (hc : 0 ≤ c) : a * c ≤ b * c := Rat.mul_le_mul_of_nonneg_right h hc
theorem q_mul_le' {a b c d : Rat} (h : a ≤ b) (k : c ≤ d) (ha : 0 ≤ c) (hb : 0 ≤ b) : a * c ≤ b * d :=
  Rat.le_trans (q_mul_le h ha) (Rat.mul_le_mul_of_nonneg_left k hb)
theorem q_inv_pos {a : Rat} (h : 0 < a) : 0 < a⁻¹ := Rat.inv_pos.mpr h
theorem q_sq_nn (a : Rat) : 0 ≤ a * a := by
  rcases Rat.le_total (a := 0) (b := a) with h | h
  · exact Rat.mul_nonneg h h
  · have := Rat.mul_nonneg (a := -a) (b := -a) (by grind) (by grind)
    grind
theorem q_pow_pos {a : Rat} (h : 0 < a) : ∀ k : Nat, 0 < a ^ k
  | 0 => by rw [Rat.pow_zero]; decide
  | k + 1 => by rw [Rat.pow_succ]; exact Rat.mul_pos (q_pow_pos h k) h
theorem q_pow_nn {a : Rat} (h : 0 ≤ a) : ∀ k : Nat, 0 ≤ a ^ k
  | 0 => by rw [Rat.pow_zero]; decide
  | k + 1 => by rw [Rat.pow_succ]; exact Rat.mul_nonneg (q_pow_nn h k) h
theorem q_pow_le {a b : Rat} (h : a ≤ b) (ha : 0 ≤ a) : ∀ k : Nat, a ^ k ≤ b ^ k
  | 0 => by rw [Rat.pow_zero, Rat.pow_zero]; exact Rat.le_refl
  | k + 1 => by rw [Rat.pow_succ, Rat.pow_succ]; exact q_mul_le' (q_pow_le h ha k) h ha (q_pow_nn (Rat.le_trans ha h) k)
theorem q_one_pow : ∀ k : Nat, (1 : Rat) ^ k = 1
  | 0 => Rat.pow_zero _
  | k + 1 => by rw [Rat.pow_succ, q_one_pow k, Rat.mul_one]
theorem q_mul_pow (a b : Rat) : ∀ k : Nat, (a * b) ^ k = a ^ k * b ^ k
  | 0 => by rw [Rat.pow_zero, Rat.pow_zero, Rat.pow_zero, Rat.mul_one]
  | k + 1 => by rw [Rat.pow_succ, Rat.pow_succ, Rat.pow_succ, q_mul_pow a b k]; grind
theorem q_pow_add (a : Rat) (m : Nat) : ∀ k : Nat, a ^ (m + k) = a ^ m * a ^ k
  | 0 => by rw [Rat.pow_zero, Rat.mul_one, Nat.add_zero]
  | k + 1 => by rw [← Nat.add_assoc, Rat.pow_succ, Rat.pow_succ, q_pow_add a m k, Rat.mul_assoc]
theorem q_pow_mul (a : Rat) (m : Nat) : ∀ k : Nat, a ^ (m * k) = (a ^ m) ^ k
  | 0 => by rw [Rat.pow_zero, Nat.mul_zero, Rat.pow_zero]
  | k + 1 => by rw [Nat.mul_succ, q_pow_add, Rat.pow_succ, q_pow_mul a m k]
theorem q_inv_pow {a : Rat} (h : a ≠ 0) (k : Nat) : (a⁻¹) ^ k = (a ^ k)⁻¹ := by
  have h1 : a * a⁻¹ = 1 := Rat.mul_inv_cancel a h
  have h2 := q_mul_pow a a⁻¹ k
  rw [h1, q_one_pow] at h2
  have h3 : a ^ k ≠ 0 := fun z => by rw [z, Rat.zero_mul] at h2; exact absurd h2 (by decide)
  grind
theorem q_inv_le {a b : Rat} (ha : 0 < a) (h : a ≤ b) : b⁻¹ ≤ a⁻¹ := by
  have hb : 0 < b := by grind
  have h1 := q_mul_le h (Rat.le_of_lt (q_mul_pos (q_inv_pos ha) (q_inv_pos hb)))
  have e1 : a * a⁻¹ = 1 := Rat.mul_inv_cancel a (by grind)
  have e2 : b * b⁻¹ = 1 := Rat.mul_inv_cancel b (by grind)
  rw [← Rat.mul_assoc, e1, Rat.one_mul, Rat.mul_comm a⁻¹, ← Rat.mul_assoc, e2, Rat.one_mul] at h1
  exact h1
theorem q_pow_lt_inj {a b : Rat} (ha : 0 ≤ a) (hb : 0 ≤ b) (k : Nat) (h : a ^ (k + 1) ≤ b ^ (k + 1)) : a ≤ b := by
  rcases Rat.le_total (a := a) (b := b) with z | z
  · exact z
  · by_cases e : b = a
    · rw [e]; exact Rat.le_refl
    · have lt : b < a := by grind
      have h1 : b ^ k ≤ a ^ k := q_pow_le z hb k
      have h2 : b ^ (k + 1) < a ^ (k + 1) := by
        rw [Rat.pow_succ, Rat.pow_succ]
        have hk : 0 < a ^ k := q_pow_pos (by grind) k
        have h3 := q_mul_le h1 hb
        have h4 : a ^ k * b < a ^ k * a := by
          have := Rat.mul_pos hk (show 0 < a - b by grind)
          grind
        grind
      grind
/-! ## sums -/
theorem totA_eq : ∀ (l : List Rat) (a : Rat), totA a l = a + tot l
  | [], a => by unfold totA tot totA; grind
  | x :: r, a => by
    have h1 := totA_eq r (a + x)
    have h2 := totA_eq r (0 + x)
    show totA (a + x) r = a + totA (0 + x) r
    grind
theorem tot_nil : tot [] = 0 := rfl
theorem tot_cons (a : Rat) (l : List Rat) : tot (a :: l) = a + tot l := by
  show totA (0 + a) l = _
  rw [totA_eq]
  grind
section
variable {A : Type}
/-- the sum of f over l -/
def su (l : List A) (f : A → Rat) : Rat := tot (l.map f)
theorem su_nil (f : A → Rat) : su [] f = 0 := rfl
theorem su_cons (a : A) (l : List A) (f : A → Rat) : su (a :: l) f = f a + su l f := tot_cons _ _
theorem su_add (l : List A) (f g : A → Rat) : su l (fun a => f a + g a) = su l f + su l g := by
  induction l with
  | nil => rw [su_nil, su_nil, su_nil, Rat.add_zero]
  | cons a r ih => rw [su_cons, su_cons, su_cons, ih]; grind
theorem su_mul (l : List A) (c : Rat) (f : A → Rat) : su l (fun a => c * f a) = c * su l f := by
  induction l with
  | nil => rw [su_nil, su_nil, Rat.mul_zero]
  | cons a r ih => rw [su_cons, su_cons, ih]; grind
theorem su_congr {l : List A} {f g : A → Rat} (h : ∀ a ∈ l, f a = g a) : su l f = su l g := by
  unfold su
  rw [List.map_congr_left h]
theorem su_le {l : List A} {f g : A → Rat} (h : ∀ a ∈ l, f a ≤ g a) : su l f ≤ su l g := by
  induction l with
  | nil => exact Rat.le_refl
  | cons a r ih =>
    rw [su_cons, su_cons]
    have h1 := h a List.mem_cons_self
    have h2 := ih fun b hb => h b (List.mem_cons_of_mem _ hb)
    grind
theorem su_nn {l : List A} {f : A → Rat} (h : ∀ a ∈ l, 0 ≤ f a) : 0 ≤ su l f := by
  induction l with
  | nil => exact Rat.le_refl
  | cons a r ih =>
    rw [su_cons]
    have h1 := h a List.mem_cons_self
    have h2 := ih fun b hb => h b (List.mem_cons_of_mem _ hb)
    grind
theorem su_ge {l : List A} {f : A → Rat} (h : ∀ a ∈ l, 0 ≤ f a) {a : A} (ha : a ∈ l) : f a ≤ su l f := by
  induction l with
  | nil => cases ha
  | cons b r ih =>
    rw [su_cons]
    have hr := su_nn fun c hc => h c (List.mem_cons_of_mem _ hc)
    rcases List.mem_cons.mp ha with rfl | ha
    · grind
    · have h1 := h b List.mem_cons_self
      have h2 := ih (fun c hc => h c (List.mem_cons_of_mem _ hc)) ha
      grind
/-- a sum of terms that are not below 0 is 0 only if they are -/
theorem su_zero {l : List A} {f : A → Rat} (h : ∀ a ∈ l, 0 ≤ f a) (e : su l f = 0) : ∀ a ∈ l, f a = 0 := fun a ha => by
  have := su_ge h ha
  have := h a ha
  grind
theorem su_const (l : List A) (c : Rat) : su l (fun _ => c) = (l.length : Rat) * c := by
  induction l with
  | nil => rw [su_nil]; simp
  | cons a r ih =>
    rw [su_cons, ih, List.length_cons, Rat.natCast_add]
    grind
theorem su_filter (l : List A) (p : A → Bool) (f : A → Rat) (h : ∀ a ∈ l, p a = false → f a = 0) : su (l.filter p) f = su l f := by
  induction l with
  | nil => rfl
  | cons a r ih =>
    have ih := ih fun b hb => h b (List.mem_cons_of_mem _ hb)
    rw [List.filter_cons]
    cases q : p a with
    | true => rw [if_pos rfl, su_cons, su_cons, ih]
    | false =>
      rw [if_neg Bool.false_ne_true, su_cons, ih, h a List.mem_cons_self q]
      grind
/-- products -/
def pr (l : List A) (f : A → Rat) : Rat := l.foldr (fun a r => f a * r) 1
theorem pr_cons (a : A) (l : List A) (f : A → Rat) : pr (a :: l) f = f a * pr l f := rfl
theorem pr_pos {l : List A} {f : A → Rat} (h : ∀ a ∈ l, 0 < f a) : 0 < pr l f := by
  induction l with
  | nil => show (0 : Rat) < 1; decide
  | cons a r ih => rw [pr_cons]; exact Rat.mul_pos (h a List.mem_cons_self) (ih fun b hb => h b (List.mem_cons_of_mem _ hb))
theorem pr_append (l k : List A) (f : A → Rat) : pr (l ++ k) f = pr l f * pr k f := by
  induction l with
  | nil => show _ = 1 * _; rw [Rat.one_mul]; rfl
  | cons a r ih => rw [List.cons_append, pr_cons, pr_cons, ih, Rat.mul_assoc]
theorem pr_congr {l : List A} {f g : A → Rat} (h : ∀ a ∈ l, f a = g a) : pr l f = pr l g := by
  induction l with
  | nil => rfl
  | cons a r ih => rw [pr_cons, pr_cons, h a List.mem_cons_self, ih fun b hb => h b (List.mem_cons_of_mem _ hb)]
theorem pr_inv {l : List A} {f : A → Rat} (h : ∀ a ∈ l, f a ≠ 0) : pr l (fun a => (f a)⁻¹) = (pr l f)⁻¹ := by
  induction l with
  | nil => show (1 : Rat) = 1⁻¹; have := Rat.mul_inv_cancel (1 : Rat) (by decide); grind
  | cons a r ih => rw [pr_cons, pr_cons, ih fun b hb => h b (List.mem_cons_of_mem _ hb), Rat.inv_mul_rev, Rat.mul_comm]
end
/-! ## Bernoulli, and the mean of powers -/
theorem bern {h : Rat} (hh : 0 ≤ 1 + h) : ∀ n : Nat, 1 + (n : Rat) * h ≤ (1 + h) ^ n
  | 0 => by rw [Rat.pow_zero]; have : ((0 : Nat) : Rat) = 0 := rfl; grind
  | n + 1 => by
    have ih := q_mul_le (bern hh n) hh
    rw [Rat.pow_succ, Rat.natCast_add]
    have h2 := Rat.mul_nonneg (a := (n : Rat)) (b := h * h) (by exact_mod_cast Nat.zero_le n) (q_sq_nn h)
    have e : ((1 : Nat) : Rat) = 1 := rfl
    grind
/-- the mean of numbers above 0 -/
theorem tot_pos {l : List Rat} (h : ∀ y ∈ l, 0 < y) (hl : l ≠ []) : 0 < tot l := by
  cases l with
  | nil => exact absurd rfl hl
  | cons a r =>
    have h1 := h a List.mem_cons_self
    have h2 := su_nn (l := r) (f := id) fun y hy => Rat.le_of_lt (h y (List.mem_cons_of_mem _ hy))
    unfold su at h2
    rw [List.map_id] at h2
    rw [tot_cons]
    grind
theorem amgm : ∀ (l : List Rat), (∀ y ∈ l, 0 < y) → pr l id ≤ (tot l * (l.length : Rat)⁻¹) ^ l.length
  | [], _ => by
    show (1 : Rat) ≤ _ ^ 0
    rw [Rat.pow_zero]
    exact Rat.le_refl
  | [a], _ => by
    show a * 1 ≤ (tot [a] * (((1 : Nat) : Rat))⁻¹) ^ (0 + 1)
    rw [Rat.pow_succ, Rat.pow_zero, tot_cons, tot_nil]
    have e : ((1 : Nat) : Rat) = 1 := rfl
    have := Rat.mul_inv_cancel (1 : Rat) (by decide)
    rw [e]
    grind
  | a :: b :: r, h => by
    have ha := h a List.mem_cons_self
    have hr : ∀ y ∈ b :: r, 0 < y := fun y hy => h y (List.mem_cons_of_mem _ hy)
    have ih := amgm (b :: r) hr
    have hs := tot_pos hr (by simp)
    generalize hl : b :: r = l at *
    have hn : l.length ≠ 0 := by rw [← hl]; simp
    rw [pr_cons, tot_cons, List.length_cons]
    generalize l.length = n at *
    have hn0 : (0 : Rat) < (n : Rat) := by exact_mod_cast Nat.pos_of_ne_zero hn
    have hn1 : (0 : Rat) < ((n + 1 : Nat) : Rat) := by exact_mod_cast Nat.succ_pos n
    have ec : ((n + 1 : Nat) : Rat) = (n : Rat) + 1 := by rw [Rat.natCast_add]; rfl
    have i0 := Rat.mul_inv_cancel (n : Rat) (by grind)
    have i1 := Rat.mul_inv_cancel ((n + 1 : Nat) : Rat) (by grind)
    generalize hA : tot l * (n : Rat)⁻¹ = A at *
    generalize hA' : (a + tot l) * ((n + 1 : Nat) : Rat)⁻¹ = A' at *
    have pA : 0 < A := by rw [← hA]; exact Rat.mul_pos hs (q_inv_pos hn0)
    have pA' : 0 < A' := by rw [← hA']; exact Rat.mul_pos (by grind) (q_inv_pos hn1)
    have eA : (n : Rat) * A = tot l := by rw [← hA]; grind
    have eA' : ((n : Rat) + 1) * A' = a + tot l := by rw [← hA', ← ec]; grind
    have iA := Rat.mul_inv_cancel A (by grind)
    have hb := bern (h := A' * A⁻¹ - 1) (by have := Rat.mul_pos pA' (q_inv_pos pA); grind) (n + 1)
    have e1 : 1 + (A' * A⁻¹ - 1) = A' * A⁻¹ := by grind
    rw [e1] at hb
    have h2 := q_mul_le hb (q_pow_nn (Rat.le_of_lt pA) (n + 1))
    have e2 : (A' * A⁻¹) ^ (n + 1) * A ^ (n + 1) = A' ^ (n + 1) := by
      rw [← q_mul_pow, Rat.mul_assoc, Rat.mul_comm A⁻¹ A, iA, Rat.mul_one]
    rw [e2] at h2
    have e3 : (1 + ((n + 1 : Nat) : Rat) * (A' * A⁻¹ - 1)) * A ^ (n + 1) = a * A ^ n := by
      rw [Rat.pow_succ, ec]
      have e4 : (1 + ((n : Rat) + 1) * (A' * A⁻¹ - 1)) * A = a := by
        have : (1 + ((n : Rat) + 1) * (A' * A⁻¹ - 1)) * A = A + (((n : Rat) + 1) * A') * (A * A⁻¹) - ((n : Rat) + 1) * A := by grind
        rw [this, iA, eA']
        grind
      rw [Rat.mul_comm (A ^ n) A, ← Rat.mul_assoc, e4]
    rw [e3] at h2
    have h3 := Rat.mul_le_mul_of_nonneg_left ih (Rat.le_of_lt ha)
    have : id a = a := rfl
    rw [this]
    exact Rat.le_trans h3 h2
/-- .. with whole weights -/
theorem amgm_w {A : Type} (l : List A) (e : A → Nat) (y : A → Rat) (h : ∀ a ∈ l, 0 < y a) : pr l (fun a => y a ^ e a) ≤ (su l (fun a => (e a : Rat) * y a) * ((l.map e).sum : Rat)⁻¹) ^ (l.map e).sum := by
  have h1 := amgm (l.flatMap fun a => List.replicate (e a) (y a)) (by
    intro z hz
    obtain ⟨a, ha, hz⟩ := List.mem_flatMap.mp hz
    rw [(List.mem_replicate.mp hz).2]
    exact h a ha)
  have rp : ∀ (n : Nat) (c : Rat), pr (List.replicate n c) id = c ^ n := by
    intro n c
    induction n with
    | zero => rw [Rat.pow_zero]; rfl
    | succ n ih => rw [List.replicate_succ, pr_cons, ih, Rat.pow_succ, Rat.mul_comm]; rfl
  have rt : ∀ (n : Nat) (c : Rat), tot (List.replicate n c) = (n : Rat) * c := by
    intro n c
    have := su_const (List.replicate n ()) c
    unfold su at this
    rw [List.map_replicate, List.length_replicate] at this
    exact this
  have ta : ∀ l k : List Rat, tot (l ++ k) = tot l + tot k := by
    intro l k
    induction l with
    | nil => rw [tot_nil, List.nil_append]; grind
    | cons a r ih => rw [List.cons_append, tot_cons, tot_cons, ih]; grind
  have e1 : pr (l.flatMap fun a => List.replicate (e a) (y a)) id = pr l (fun a => y a ^ e a) := by
    clear h1 h
    induction l with
    | nil => rfl
    | cons a r ih => rw [List.flatMap_cons, pr_append, pr_cons, ih, rp]
  have e2 : tot (l.flatMap fun a => List.replicate (e a) (y a)) = su l (fun a => (e a : Rat) * y a) := by
    clear h1 h e1
    induction l with
    | nil => rfl
    | cons a r ih => rw [List.flatMap_cons, ta, su_cons, ih, rt]
  have e3 : (l.flatMap fun a => List.replicate (e a) (y a)).length = (l.map e).sum := by
    rw [List.length_flatMap]
    congr 1
    exact List.map_congr_left fun a _ => List.length_replicate
  rw [e1, e2, e3] at h1
  exact h1
/-! ## weights of sum 1 -/
section
variable {A : Type} {S : List A} {p x : A → Rat}
/-- a law of chances over S, values above 0 -/
structure Pm (S : List A) (p x : A → Rat) : Prop where
  pp : ∀ a ∈ S, 0 < p a
  one : su S p = 1
  xp : ∀ a ∈ S, 0 < x a
/-- the mean of the k-th powers -/
def mo (S : List A) (p x : A → Rat) (k : Nat) : Rat := su S fun a => p a * x a ^ k
theorem su_one_ne (h : su S p = 1) : S ≠ [] := fun z => by rw [z, su_nil] at h; exact absurd h (by decide)
theorem mo_zero (P : Pm S p x) : mo S p x 0 = 1 := by
  have : mo S p x 0 = su S p := su_congr fun a _ => by rw [Rat.pow_zero, Rat.mul_one]
  rw [this, P.one]
theorem su_pos {f : A → Rat} (h : ∀ a ∈ S, 0 < f a) (hS : S ≠ []) : 0 < su S f := tot_pos (by
  intro y hy
  obtain ⟨a, ha, rfl⟩ := List.mem_map.mp hy
  exact h a ha) (by simpa using hS)
theorem mo_pos (P : Pm S p x) (k : Nat) : 0 < mo S p x k := su_pos (fun a ha => Rat.mul_pos (P.pp a ha) (q_pow_pos (P.xp a ha) k)) (su_one_ne P.one)
/-- Cauchy and Schwarz -/
theorem mo_cs (P : Pm S p x) (k : Nat) : mo S p x (k + 1) * mo S p x (k + 1) ≤ mo S p x k * mo S p x (k + 2) := by
  have hk := mo_pos P k
  generalize hc : mo S p x (k + 1) * (mo S p x k)⁻¹ = c
  have h1 : 0 ≤ su S fun a => p a * x a ^ k * ((x a - c) * (x a - c)) := su_nn fun a ha => Rat.mul_nonneg (Rat.le_of_lt (Rat.mul_pos (P.pp a ha) (q_pow_pos (P.xp a ha) k))) (q_sq_nn _)
  have e1 : (su S fun a => p a * x a ^ k * ((x a - c) * (x a - c))) = mo S p x (k + 2) + ((-2 * c) * mo S p x (k + 1) + (c * c) * mo S p x k) := by
    unfold mo
    rw [← su_mul, ← su_mul, ← su_add, ← su_add]
    refine su_congr fun a _ => ?_
    rw [Rat.pow_succ, Rat.pow_succ]
    grind
  rw [e1] at h1
  have i := Rat.mul_inv_cancel (mo S p x k) (by grind)
  have ec : c * mo S p x k = mo S p x (k + 1) := by rw [← hc]; grind
  have h2 := q_mul_le h1 (Rat.le_of_lt hk)
  have e2 : (mo S p x (k + 2) + ((-2 * c) * mo S p x (k + 1) + (c * c) * mo S p x k)) * mo S p x k = mo S p x (k + 2) * mo S p x k + (-2 * (c * mo S p x k) * mo S p x (k + 1) + (c * mo S p x k) * (c * mo S p x k)) := by grind
  rw [e2, ec] at h2
  grind
/-- the falling of the diversities of order 2 and more -/
theorem mo_step (P : Pm S p x) : ∀ t : Nat, mo S p x t ^ (t + 1) ≤ mo S p x (t + 1) ^ t
  | 0 => by rw [Rat.pow_zero, Nat.zero_add, Rat.pow_succ, Rat.pow_zero, mo_zero P]; grind
  | t + 1 => by
    have ih := mo_step P t
    have cs := q_pow_le (mo_cs P t) (Rat.le_of_lt (Rat.mul_pos (mo_pos P (t + 1)) (mo_pos P (t + 1)))) (t + 1)
    rw [q_mul_pow, q_mul_pow] at cs
    have h1 := q_mul_le ih (q_pow_nn (Rat.le_of_lt (mo_pos P (t + 2))) (t + 1))
    have h2 := Rat.le_trans cs h1
    have hp := q_pow_pos (mo_pos P (t + 1)) t
    generalize hu : mo S p x (t + 1) = u at *
    generalize hv : mo S p x (t + 1 + 1) = v at *
    -- u^(t+1) u^(t+1) ≤ u^t v^(t+1)
    have e : u ^ (t + 1) * u ^ (t + 1) = u ^ t * u ^ (t + 1 + 1) := by
      rw [Rat.pow_succ u (t + 1), Rat.pow_succ u t]
      grind
    rw [e] at h2
    have h2' : u ^ t * u ^ (t + 1 + 1) ≤ u ^ t * v ^ (t + 1) := h2
    have hi := q_inv_pos hp
    have h3 := Rat.mul_le_mul_of_nonneg_left h2' (Rat.le_of_lt hi)
    have ii := Rat.mul_inv_cancel (u ^ t) (by grind)
    rw [← Rat.mul_assoc, ← Rat.mul_assoc, Rat.mul_comm _ (u ^ t), ii, Rat.one_mul, Rat.one_mul] at h3
    exact h3
/-- Jensen for powers -/
theorem mo_ge (P : Pm S p x) (t : Nat) : mo S p x 1 ^ t ≤ mo S p x t := by
  have hc := mo_pos P 1
  generalize hcc : mo S p x 1 = c at *
  have ic := Rat.mul_inv_cancel c (by grind)
  have key : ∀ a ∈ S, p a * (c ^ t + (t : Rat) * (c ^ t * (x a * c⁻¹ - 1))) ≤ p a * x a ^ t := fun a ha => by
    have xa := P.xp a ha
    have hb := bern (h := x a * c⁻¹ - 1) (by have := Rat.mul_pos xa (q_inv_pos hc); grind) t
    have e1 : 1 + (x a * c⁻¹ - 1) = x a * c⁻¹ := by grind
    rw [e1] at hb
    have h2 := q_mul_le hb (q_pow_nn (Rat.le_of_lt hc) t)
    have e2 : (x a * c⁻¹) ^ t * c ^ t = x a ^ t := by rw [← q_mul_pow, Rat.mul_assoc, Rat.mul_comm c⁻¹ c, ic, Rat.mul_one]
    rw [e2] at h2
    refine Rat.mul_le_mul_of_nonneg_left ?_ (Rat.le_of_lt (P.pp a ha))
    grind
  have h1 := su_le key
  have e : (su S fun a => p a * (c ^ t + (t : Rat) * (c ^ t * (x a * c⁻¹ - 1)))) = c ^ t := by
    have : (su S fun a => p a * (c ^ t + (t : Rat) * (c ^ t * (x a * c⁻¹ - 1)))) = (c ^ t - (t : Rat) * c ^ t) * su S p + ((t : Rat) * c ^ t * c⁻¹) * mo S p x 1 := by
      unfold mo
      rw [← su_mul, ← su_mul, ← su_add]
      refine su_congr fun a _ => ?_
      rw [Rat.pow_succ, Rat.pow_zero]
      grind
    rw [this, P.one, hcc]
    grind
  rw [e] at h1
  exact h1
/-- means of means: the first and the second powers alike only if all values are -/
theorem mo_eq (P : Pm S p x) (h : mo S p x 2 = mo S p x 1 * mo S p x 1) : ∀ a ∈ S, x a = mo S p x 1 := by
  generalize hc : mo S p x 1 = c at *
  have e1 : (su S fun a => p a * ((x a - c) * (x a - c))) = 0 := by
    have : (su S fun a => p a * ((x a - c) * (x a - c))) = mo S p x 2 + ((-2 * c) * mo S p x 1 + (c * c) * su S p) := by
      unfold mo
      rw [← su_mul, ← su_mul, ← su_add, ← su_add]
      refine su_congr fun a _ => ?_
      rw [Rat.pow_succ, Rat.pow_succ, Rat.pow_zero]
      grind
    rw [this, P.one, hc, h]
    grind
  intro a ha
  have h2 := su_zero (fun a ha => Rat.mul_nonneg (Rat.le_of_lt (P.pp a ha)) (q_sq_nn (x a - c))) e1 a ha
  have hp := P.pp a ha
  grind
end
end K85

set_option Elab.async false
set_option linter.all false
set_option autoImplicit false
set_option maxRecDepth 100000
set_option maxHeartbeats 2000000
/-! # The plain law: diversities of a community (no program in sight) -/
namespace K85
/-! ## the kinds that are there -/
section
variable {n : Nat} {z : Nat → Nat → Rat} {p : Nat → Rat}
theorem sg_su (f : Nat → Rat) : sg n f = su (List.range n) f := rfl
theorem supp_nz {k : Nat} (h : k ∈ supp n p) : p k ≠ 0 := by simpa using (List.mem_filter.mp h).2
theorem mem_supp {k : Nat} (h : k < n) (hp : p k ≠ 0) : k ∈ supp n p := List.mem_filter.mpr ⟨List.mem_range.mpr h, by simpa using hp⟩
theorem supp_sum (g : Nat → Rat) : su (supp n p) (fun k => g k * p k) = sg n (fun k => g k * p k) := by
  rw [sg_su]
  exact su_filter _ _ _ fun k _ h => by
    have : p k = 0 := by simpa using h
    rw [this, Rat.mul_zero]
theorem supp_one (C : Cm n p) : su (supp n p) p = 1 := by
  rw [← C.sum, sg_su]
  exact su_filter _ _ _ fun k _ h => by simpa using h
theorem supp_pos (C : Cm n p) {k : Nat} (h : k ∈ supp n p) : 0 < p k := by
  have h1 := C.lo k (supp_lt h)
  have h2 := supp_nz h
  grind
theorem xx_eq (i : Nat) : xx n z p i = su (supp n p) fun k => z i k * p k := (supp_sum (p := p) (z i)).symm
theorem xx_ge (L : Lk n z) (C : Cm n p) {i : Nat} (h : i ∈ supp n p) : p i ≤ xx n z p i := by
  rw [xx_eq]
  have h1 := su_ge (l := supp n p) (f := fun k => z i k * p k) (fun k hk => Rat.mul_nonneg (L.lo i (supp_lt h) k (supp_lt hk)) (C.lo k (supp_lt hk))) h
  have e : z i i * p i = p i := by rw [L.one i (supp_lt h), Rat.one_mul]
  rw [e] at h1
  exact h1
theorem xx_le (L : Lk n z) (C : Cm n p) {i : Nat} (h : i ∈ supp n p) : xx n z p i ≤ 1 := by
  rw [xx_eq, ← supp_one C]
  refine su_le fun k hk => ?_
  have := q_mul_le (L.hi i (supp_lt h) k (supp_lt hk)) (C.lo k (supp_lt hk))
  rw [Rat.one_mul] at this
  exact this
theorem xx_pm (L : Lk n z) (C : Cm n p) : Pm (supp n p) p (xx n z p) :=
  ⟨fun a ha => supp_pos C ha, supp_one C, fun a ha => by have := xx_ge L C ha; have := supp_pos C ha; grind⟩
theorem supp_ne (C : Cm n p) : supp n p ≠ [] := su_one_ne (supp_one C)
/-! ## the common multiple -/
def Lm (n : Nat) (p : Nat → Rat) : Nat := (up n fun k => (p k).den).foldl Nat.lcm 1
/-- how often a kind is counted in it -/
def ee (n : Nat) (p : Nat → Rat) (k : Nat) : Nat := (((Lm n p : Int) * (p k).num).fdiv (p k).den).toNat
theorem lcm_fold : ∀ (l : List Nat) (a : Nat), a ∣ l.foldl Nat.lcm a ∧ ∀ d ∈ l, d ∣ l.foldl Nat.lcm a
  | [], a => ⟨Nat.dvd_refl _, fun _ h => by cases h⟩
  | d :: r, a => by
    have ih := lcm_fold r (a.lcm d)
    refine ⟨Nat.dvd_trans (Nat.dvd_lcm_left a d) ih.1, fun e he => ?_⟩
    rcases List.mem_cons.mp he with rfl | he
    · exact Nat.dvd_trans (Nat.dvd_lcm_right a e) ih.1
    · exact ih.2 e he
theorem lcm_fold_pos : ∀ (l : List Nat) (a : Nat), 0 < a → (∀ d ∈ l, 0 < d) → 0 < l.foldl Nat.lcm a
  | [], a, h, _ => h
  | d :: r, a, h, hd => lcm_fold_pos r _ (Nat.lcm_pos h (hd d List.mem_cons_self)) fun e he => hd e (List.mem_cons_of_mem _ he)
theorem Lm_pos : 0 < Lm n p := lcm_fold_pos _ _ (by decide) fun d hd => by
  obtain ⟨k, _, rfl⟩ := List.mem_map.mp hd
  exact (p k).den_pos
theorem ee_eq (C : Cm n p) {k : Nat} (hk : k < n) : ((ee n p k : Nat) : Rat) = (Lm n p : Rat) * p k ∧ (ee n p k : Int) = ((Lm n p : Int) * (p k).num).fdiv (p k).den := by
  have hd : (p k).den ∣ Lm n p := (lcm_fold _ 1).2 _ (List.mem_map.mpr ⟨k, List.mem_range.mpr hk, rfl⟩)
  obtain ⟨c, hc⟩ := hd
  have d0 : ((p k).den : Int) ≠ 0 := by have := (p k).den_pos; omega
  have e1 : ((Lm n p : Int) * (p k).num).fdiv (p k).den = (c : Int) * (p k).num := by
    rw [hc, Int.natCast_mul, Int.mul_assoc, Int.fdiv_eq_ediv_of_nonneg _ (Int.natCast_nonneg _), Int.mul_ediv_cancel_left _ d0]
  have hn : 0 ≤ (p k).num := Rat.num_nonneg.mpr (C.lo k hk)
  have e2 : (ee n p k : Int) = (c : Int) * (p k).num := by
    unfold ee
    rw [e1, Int.toNat_of_nonneg (Int.mul_nonneg (Int.natCast_nonneg _) hn)]
  refine ⟨?_, by rw [e1]; exact e2⟩
  have e3 : ((ee n p k : Nat) : Rat) = (((ee n p k : Nat) : Int) : Rat) := by rw [Rat.intCast_natCast]
  rw [e3, e2, hc, Rat.intCast_mul, Rat.natCast_mul, Rat.intCast_natCast]
  have e4 : (((p k).num : Int) : Rat) = ((p k).den : Rat) * p k := by
    have := Rat.num_divInt_den (p k)
    rw [Rat.divInt_eq_div] at this
    have dz : (((p k).den : Int) : Rat) ≠ 0 := by exact_mod_cast d0
    have dz' : ((p k).den : Rat) ≠ 0 := by rw [← Rat.intCast_natCast]; exact dz
    have t2 : ((p k).den : Rat) * p k = ((p k).den : Rat) * (((p k).num : Rat) / (((p k).den : Int) : Rat)) := congrArg (fun a => ((p k).den : Rat) * a) this.symm
    rw [t2, Rat.intCast_natCast, Rat.div_def]
    have i := Rat.mul_inv_cancel _ dz'
    generalize ((p k).den : Rat) = d at *
    generalize (((p k).num : Int) : Rat) = m at *
    rw [Rat.mul_comm m, ← Rat.mul_assoc, i, Rat.one_mul]
  rw [e4, ← Rat.mul_assoc, Rat.mul_comm (c : Rat)]
theorem ee_sum (C : Cm n p) : ((supp n p).map (ee n p)).sum = Lm n p := by
  have h : ∀ l : List Nat, (((l.map (ee n p)).sum : Nat) : Rat) = su l fun k => ((ee n p k : Nat) : Rat) := by
    intro l
    induction l with
    | nil => rfl
    | cons a r ih => rw [List.map_cons, List.sum_cons, Rat.natCast_add, su_cons, ih]
  have h1 := h (supp n p)
  have h2 : (su (supp n p) fun k => ((ee n p k : Nat) : Rat)) = (Lm n p : Rat) := by
    rw [su_congr fun k hk => (ee_eq C (supp_lt hk)).1, su_mul, supp_one C, Rat.mul_one]
  rw [h2] at h1
  exact_mod_cast h1
/-! ## the diversities -/
/-- the greatest, as it is sought -/
def mxA (a : Rat) : List Rat → Rat
  | [] => a
  | x :: r => mxA (if a < x then x else a) r
theorem mxA_ge : ∀ (l : List Rat) (a : Rat), a ≤ mxA a l ∧ (∀ x ∈ l, x ≤ mxA a l) ∧ (mxA a l = a ∨ mxA a l ∈ l)
  | [], a => ⟨Rat.le_refl, (fun _ h => by cases h), .inl rfl⟩
  | x :: r, a => by
    have ih := mxA_ge r (if a < x then x else a)
    unfold mxA
    by_cases h : a < x
    · rw [if_pos h] at ih ⊢
      refine ⟨by grind, fun y hy => ?_, ?_⟩
      · rcases List.mem_cons.mp hy with rfl | hy
        · exact ih.1
        · exact ih.2.1 y hy
      · rcases ih.2.2 with e | e
        · exact .inr (by rw [e]; exact List.mem_cons_self)
        · exact .inr (List.mem_cons_of_mem _ e)
    · rw [if_neg h] at ih ⊢
      refine ⟨ih.1, fun y hy => ?_, ?_⟩
      · rcases List.mem_cons.mp hy with rfl | hy
        · grind
        · exact ih.2.1 y hy
      · rcases ih.2.2 with e | e
        · exact .inl e
        · exact .inr (List.mem_cons_of_mem _ e)
def mx (n : Nat) (z : Nat → Nat → Rat) (p : Nat → Rat) : Rat := mxA 0 ((supp n p).map (xx n z p))
theorem mx_in (L : Lk n z) (C : Cm n p) : ∃ k ∈ supp n p, mx n z p = xx n z p k := by
  rcases (mxA_ge ((supp n p).map (xx n z p)) 0).2.2 with e | e
  · exfalso
    obtain ⟨k, hk⟩ := List.exists_mem_of_ne_nil _ (supp_ne C)
    have h1 := (mxA_ge ((supp n p).map (xx n z p)) 0).2.1 _ (List.mem_map_of_mem hk)
    have := (xx_pm L C).xp k hk
    grind
  · obtain ⟨k, hk, e⟩ := List.mem_map.mp e
    exact ⟨k, hk, e.symm⟩
theorem mx_ge (L : Lk n z) (C : Cm n p) {k : Nat} (hk : k ∈ supp n p) : xx n z p k ≤ mx n z p := (mxA_ge _ 0).2.1 _ (List.mem_map_of_mem hk)
theorem mx_pos (L : Lk n z) (C : Cm n p) : 0 < mx n z p := by
  obtain ⟨k, hk, e⟩ := mx_in L C
  rw [e]
  exact (xx_pm L C).xp k hk
/-- order 0 -/
def d0 (n : Nat) (z : Nat → Nat → Rat) (p : Nat → Rat) : Rat := su (supp n p) fun k => p k / xx n z p k
/-- order 1 -/
def d1 (n : Nat) (z : Nat → Nat → Rat) (p : Nat → Rat) : Rat := pr (supp n p) fun k => (xx n z p k)⁻¹ ^ ee n p k
/-- the diversity of order q (none: all) as a power and a fraction -/
def dv (n : Nat) (z : Nat → Nat → Rat) (p : Nat → Rat) : Option Nat → Nat × Rat
  | none => (1, 1 / mx n z p)
  | some 0 => (1, d0 n z p)
  | some 1 => (Lm n p, d1 n z p)
  | some (q + 2) => (q + 1, 1 / mo (supp n p) p (xx n z p) (q + 1))
def sn (a b : Nat × Rat) : Int := if a.2 ^ b.1 = b.2 ^ a.1 then 0 else if b.2 ^ a.1 < a.2 ^ b.1 then 1 else -1
theorem sn_ge {a b : Nat × Rat} (h : b.2 ^ a.1 ≤ a.2 ^ b.1) : 0 ≤ sn a b := by
  unfold sn
  split
  · decide
  · split
    · decide
    · grind
theorem sn_le {a b : Nat × Rat} (h : a.2 ^ b.1 ≤ b.2 ^ a.1) : sn a b ≤ 0 := by
  unfold sn
  split
  · decide
  · split
    · grind
    · decide
theorem sn_zero {a b : Nat × Rat} : sn a b = 0 ↔ a.2 ^ b.1 = b.2 ^ a.1 := by
  unfold sn
  split
  · simp [*]
  · split <;> simp [*]
theorem d1_eq (L : Lk n z) (C : Cm n p) : d1 n z p = (pr (supp n p) fun k => xx n z p k ^ ee n p k)⁻¹ := by
  unfold d1
  rw [← pr_inv fun k hk => by have := q_pow_pos ((xx_pm L C).xp k hk) (ee n p k); grind]
  exact pr_congr fun k hk => q_inv_pow (by have := (xx_pm L C).xp k hk; grind) _
theorem one_div {a : Rat} : 1 / a = a⁻¹ := by rw [Rat.div_def, Rat.one_mul]
/-- 0 and 1 -/
theorem fall0 (L : Lk n z) (C : Cm n p) : d1 n z p ≤ d0 n z p ^ Lm n p := by
  have h := amgm_w (supp n p) (ee n p) (fun k => (xx n z p k)⁻¹) fun k hk => q_inv_pos ((xx_pm L C).xp k hk)
  rw [ee_sum C] at h
  have e : (su (supp n p) (fun k => (ee n p k : Rat) * (xx n z p k)⁻¹)) * (Lm n p : Rat)⁻¹ = d0 n z p := by
    unfold d0
    have e1 : (su (supp n p) fun k => (ee n p k : Rat) * (xx n z p k)⁻¹) = (Lm n p : Rat) * su (supp n p) fun k => p k / xx n z p k := by
      rw [← su_mul]
      refine su_congr fun k hk => ?_
      rw [(ee_eq C (supp_lt hk)).1, Rat.div_def, Rat.mul_assoc]
    rw [e1]
    have : (Lm n p : Rat) ≠ 0 := by have := Lm_pos (n := n) (p := p); exact_mod_cast (by omega : Lm n p ≠ 0)
    have := Rat.mul_inv_cancel _ this
    grind
  rw [e] at h
  exact h
/-- 1 and 2 -/
theorem fall1 (L : Lk n z) (C : Cm n p) : (pr (supp n p) fun k => xx n z p k ^ ee n p k) ≤ mo (supp n p) p (xx n z p) 1 ^ Lm n p := by
  have h := amgm_w (supp n p) (ee n p) (xx n z p) fun k hk => (xx_pm L C).xp k hk
  rw [ee_sum C] at h
  have e : (su (supp n p) (fun k => (ee n p k : Rat) * xx n z p k)) * (Lm n p : Rat)⁻¹ = mo (supp n p) p (xx n z p) 1 := by
    have e1 : (su (supp n p) fun k => (ee n p k : Rat) * xx n z p k) = (Lm n p : Rat) * mo (supp n p) p (xx n z p) 1 := by
      unfold mo
      rw [← su_mul]
      refine su_congr fun k hk => ?_
      rw [(ee_eq C (supp_lt hk)).1, Rat.pow_succ, Rat.pow_zero, Rat.one_mul, Rat.mul_assoc]
    rw [e1]
    have : (Lm n p : Rat) ≠ 0 := by have := Lm_pos (n := n) (p := p); exact_mod_cast (by omega : Lm n p ≠ 0)
    have := Rat.mul_inv_cancel _ this
    grind
  rw [e] at h
  exact h
theorem pr_x_pos (L : Lk n z) (C : Cm n p) : 0 < pr (supp n p) fun k => xx n z p k ^ ee n p k := pr_pos fun k hk => q_pow_pos ((xx_pm L C).xp k hk) _
theorem q_pow_one (a : Rat) : a ^ 1 = a := by rw [Rat.pow_succ, Rat.pow_zero, Rat.one_mul]
theorem mo_le_mx (L : Lk n z) (C : Cm n p) (t : Nat) : mo (supp n p) p (xx n z p) t ≤ mx n z p ^ t := by
  have P := xx_pm L C
  have h : ∀ k ∈ supp n p, p k * xx n z p k ^ t ≤ mx n z p ^ t * p k := fun k hk => by
    have := Rat.mul_le_mul_of_nonneg_left (q_pow_le (mx_ge L C hk) (Rat.le_of_lt (P.xp k hk)) t) (Rat.le_of_lt (P.pp k hk))
    rw [Rat.mul_comm (p k) (mx n z p ^ t)] at this
    exact this
  have h1 := su_le h
  rw [su_mul, supp_one C, Rat.mul_one] at h1
  exact h1
/-- the next order -/
def nxt (q : Nat) : Option Nat := if q = 12 then none else some (q + 1)
/-- DIVERSITIES FALL -/
theorem falls_ge (L : Lk n z) (C : Cm n p) (q : Nat) (hq : q ≤ 12) : 0 ≤ sn (dv n z p (some q)) (dv n z p (nxt q)) := by
  have P := xx_pm L C
  refine sn_ge ?_
  unfold nxt
  by_cases h12 : q = 12
  · rw [if_pos h12]
    subst h12
    show (1 / mx n z p) ^ 11 ≤ (1 / mo (supp n p) p (xx n z p) 11) ^ 1
    rw [one_div, one_div, q_pow_one, q_inv_pow (by have := mx_pos L C; grind)]
    exact q_inv_le (mo_pos P 11) (mo_le_mx L C 11)
  · rw [if_neg h12]
    match q, hq with
    | 0, _ =>
      show d1 n z p ^ 1 ≤ d0 n z p ^ Lm n p
      rw [q_pow_one]
      exact fall0 L C
    | 1, _ =>
      show (1 / mo (supp n p) p (xx n z p) 1) ^ Lm n p ≤ d1 n z p ^ 1
      rw [q_pow_one, d1_eq L C, one_div, q_inv_pow (by have := mo_pos P 1; grind)]
      exact q_inv_le (pr_x_pos L C) (fall1 L C)
    | q + 2, _ =>
      show (1 / mo (supp n p) p (xx n z p) (q + 2)) ^ (q + 1) ≤ (1 / mo (supp n p) p (xx n z p) (q + 1)) ^ (q + 2)
      rw [one_div, one_div, q_inv_pow (by have := mo_pos P (q + 2); grind), q_inv_pow (by have := mo_pos P (q + 1); grind)]
      exact q_inv_le (q_pow_pos (mo_pos P (q + 1)) _) (mo_step P (q + 1))
/-- all presences alike: they are c -/
theorem alike (L : Lk n z) (C : Cm n p) {c : Rat} (h : ∀ k ∈ supp n p, xx n z p k = c) : 0 < c ∧ ∀ q : Option Nat, (dv n z p q).2 = c⁻¹ ^ (dv n z p q).1 := by
  have P := xx_pm L C
  have hc : 0 < c := by
    obtain ⟨k, hk⟩ := List.exists_mem_of_ne_nil _ (supp_ne C)
    rw [← h k hk]
    exact P.xp k hk
  refine ⟨hc, fun q => ?_⟩
  have mt : ∀ t, mo (supp n p) p (xx n z p) t = c ^ t := fun t => by
    unfold mo
    rw [su_congr (g := fun k => c ^ t * p k) fun k hk => by rw [h k hk, Rat.mul_comm], su_mul, supp_one C, Rat.mul_one]
  match q with
  | none =>
    obtain ⟨k, hk, e⟩ := mx_in L C
    show 1 / mx n z p = c⁻¹ ^ 1
    rw [e, h k hk, one_div, q_pow_one]
  | some 0 =>
    show d0 n z p = c⁻¹ ^ 1
    unfold d0
    rw [su_congr (g := fun k => c⁻¹ * p k) fun k hk => by rw [h k hk, Rat.div_def, Rat.mul_comm], su_mul, supp_one C, Rat.mul_one, q_pow_one]
  | some 1 =>
    show d1 n z p = c⁻¹ ^ Lm n p
    unfold d1
    rw [pr_congr (g := fun k => c⁻¹ ^ ee n p k) fun k hk => by rw [h k hk], ← ee_sum C]
    generalize supp n p = l
    induction l with
    | nil => rw [List.map_nil, List.sum_nil, Rat.pow_zero]; rfl
    | cons a r ih => rw [pr_cons, ih, List.map_cons, List.sum_cons, q_pow_add]
  | some (q + 2) =>
    show 1 / mo (supp n p) p (xx n z p) (q + 1) = c⁻¹ ^ (q + 1)
    rw [mt, one_div, q_inv_pow (by grind)]
theorem alike_sn (L : Lk n z) (C : Cm n p) {c : Rat} (h : ∀ k ∈ supp n p, xx n z p k = c) (q r : Option Nat) : sn (dv n z p q) (dv n z p r) = 0 := by
  have e := (alike L C h).2
  rw [sn_zero, e q, e r, ← q_pow_mul, ← q_pow_mul, Nat.mul_comm]
theorem two_three (L : Lk n z) (C : Cm n p) (h : sn (dv n z p (some 2)) (dv n z p (some 3)) = 0) : ∃ c, ∀ k ∈ supp n p, xx n z p k = c := by
  have P := xx_pm L C
  rw [sn_zero] at h
  have h : (1 / mo (supp n p) p (xx n z p) 1) ^ 2 = (1 / mo (supp n p) p (xx n z p) 2) ^ 1 := h
  rw [one_div, one_div, q_pow_one, q_inv_pow (by have := mo_pos P 1; grind)] at h
  have h2 : mo (supp n p) p (xx n z p) 1 ^ 2 = mo (supp n p) p (xx n z p) 2 := by
    have := congrArg (fun a : Rat => a⁻¹) h
    simpa [Rat.inv_inv] using this
  exact ⟨_, mo_eq P (by rw [← h2, Rat.pow_succ, q_pow_one])⟩
/-! ## the bounds -/
theorem div_ge_one (L : Lk n z) (C : Cm n p) (q : Option Nat) : 1 ≤ (dv n z p q).2 := by
  have P := xx_pm L C
  have inv1 : ∀ {a : Rat}, 0 < a → a ≤ 1 → 1 ≤ a⁻¹ := fun h0 h1 => by
    have := q_inv_le h0 h1
    have e : (1 : Rat)⁻¹ = 1 := by have := Rat.mul_inv_cancel (1 : Rat) (by decide); grind
    rw [e] at this
    exact this
  have pw1 : ∀ {a : Rat} (k : Nat), 0 < a → a ≤ 1 → a ^ k ≤ 1 := fun k h0 h1 => by
    have := q_pow_le h1 (Rat.le_of_lt h0) k
    rw [q_one_pow] at this
    exact this
  match q with
  | none =>
    obtain ⟨k, hk, e⟩ := mx_in L C
    show 1 ≤ 1 / mx n z p
    rw [one_div]
    exact inv1 (mx_pos L C) (by rw [e]; exact xx_le L C hk)
  | some 0 =>
    show 1 ≤ d0 n z p
    unfold d0
    rw [← supp_one C]
    refine su_le fun k hk => ?_
    have := Rat.mul_le_mul_of_nonneg_left (inv1 (P.xp k hk) (xx_le L C hk)) (Rat.le_of_lt (P.pp k hk))
    rw [Rat.mul_one, ← Rat.div_def] at this
    exact this
  | some 1 =>
    show 1 ≤ d1 n z p
    rw [d1_eq L C]
    refine inv1 (pr_x_pos L C) ?_
    have : ∀ l : List Nat, (∀ k ∈ l, k ∈ supp n p) → pr l (fun k => xx n z p k ^ ee n p k) ≤ 1 := fun l => by
      induction l with
      | nil => exact fun _ => Rat.le_refl
      | cons a r ih =>
        intro h
        rw [pr_cons]
        have h1 := pw1 (ee n p a) (P.xp a (h a List.mem_cons_self)) (xx_le L C (h a List.mem_cons_self))
        have h2 := ih fun k hk => h k (List.mem_cons_of_mem _ hk)
        have := q_mul_le' h1 h2 (Rat.le_of_lt (pr_pos fun k hk => q_pow_pos (P.xp k (h k (List.mem_cons_of_mem _ hk))) _)) (by decide)
        rw [Rat.mul_one] at this
        exact this
    exact this _ fun _ h => h
  | some (q + 2) =>
    show 1 ≤ 1 / mo (supp n p) p (xx n z p) (q + 1)
    rw [one_div]
    refine inv1 (mo_pos P _) ?_
    rw [← supp_one C]
    unfold mo
    refine su_le fun k hk => ?_
    have := Rat.mul_le_mul_of_nonneg_left (pw1 (q + 1) (P.xp k hk) (xx_le L C hk)) (Rat.le_of_lt (P.pp k hk))
    rw [Rat.mul_one] at this
    exact this
theorem sn_one_ge (L : Lk n z) (C : Cm n p) (q : Option Nat) : 0 ≤ sn (dv n z p q) (1, 1) := by
  refine sn_ge ?_
  show (1 : Rat) ^ _ ≤ _ ^ 1
  rw [q_one_pow, q_pow_one]
  exact div_ge_one L C q
/-- how many kinds are there -/
def cnt (n : Nat) (p : Nat → Rat) : Nat := (supp n p).length
theorem cnt_pos (C : Cm n p) : (0 : Rat) < (cnt n p : Rat) := by
  have : 0 < cnt n p := List.length_pos_iff.mpr (supp_ne C)
  exact_mod_cast this
/-- a sum of squares is at least the number's reciprocal -/
theorem sq_ge (C : Cm n p) : (cnt n p : Rat)⁻¹ ≤ su (supp n p) fun k => p k * p k := by
  generalize hm : (cnt n p : Rat)⁻¹ = m
  have hc := cnt_pos C
  have im := Rat.mul_inv_cancel (cnt n p : Rat) (by grind)
  rw [hm] at im
  have h1 : 0 ≤ su (supp n p) fun k => (p k - m) * (p k - m) := su_nn fun k _ => q_sq_nn _
  have e : (su (supp n p) fun k => (p k - m) * (p k - m)) = (su (supp n p) fun k => p k * p k) + ((-2 * m) * su (supp n p) p + su (supp n p) fun _ => m * m) := by
    rw [← su_mul, ← su_add, ← su_add]
    refine su_congr fun k _ => ?_
    grind
  rw [e, su_const, supp_one C] at h1
  have e2 : (((supp n p).length : Nat) : Rat) * (m * m) = m := by
    have : (((supp n p).length : Nat) : Rat) = (cnt n p : Rat) := rfl
    rw [this, ← Rat.mul_assoc, im, Rat.one_mul]
  rw [e2] at h1
  grind
theorem m1_ge (L : Lk n z) (C : Cm n p) : (cnt n p : Rat)⁻¹ ≤ mo (supp n p) p (xx n z p) 1 := by
  refine Rat.le_trans (sq_ge C) ?_
  unfold mo
  refine su_le fun k hk => ?_
  rw [q_pow_one]
  exact Rat.mul_le_mul_of_nonneg_left (xx_ge L C hk) (Rat.le_of_lt (supp_pos C hk))
theorem px_le (L : Lk n z) (C : Cm n p) {k : Nat} (hk : k ∈ supp n p) : p k / xx n z p k ≤ 1 := by
  have P := xx_pm L C
  have := q_mul_le (xx_ge L C hk) (Rat.le_of_lt (q_inv_pos (P.xp k hk)))
  rw [Rat.mul_inv_cancel _ (by have := P.xp k hk; grind), ← Rat.div_def] at this
  exact this
theorem d0_le (L : Lk n z) (C : Cm n p) : d0 n z p ≤ (cnt n p : Rat) := by
  have h := su_le fun k hk => px_le L C (k := k) hk
  rw [su_const, Rat.mul_one] at h
  exact h
theorem sn_cnt_le (L : Lk n z) (C : Cm n p) (q : Option Nat) : sn (dv n z p q) (1, (cnt n p : Rat)) ≤ 0 := by
  have P := xx_pm L C
  have hc := cnt_pos C
  have ic : ((cnt n p : Rat)⁻¹)⁻¹ = (cnt n p : Rat) := Rat.inv_inv _
  refine sn_le ?_
  show (dv n z p q).2 ^ 1 ≤ (cnt n p : Rat) ^ (dv n z p q).1
  rw [q_pow_one]
  match q with
  | none =>
    show 1 / mx n z p ≤ (cnt n p : Rat) ^ 1
    rw [one_div, q_pow_one, ← ic]
    refine q_inv_le (q_inv_pos hc) (Rat.le_trans (m1_ge L C) ?_)
    have := mo_le_mx L C 1
    rw [q_pow_one] at this
    exact this
  | some 0 =>
    show d0 n z p ≤ (cnt n p : Rat) ^ 1
    rw [q_pow_one]
    exact d0_le L C
  | some 1 =>
    show d1 n z p ≤ (cnt n p : Rat) ^ Lm n p
    refine Rat.le_trans (fall0 L C) (q_pow_le (d0_le L C) ?_ _)
    have := div_ge_one L C (some 0)
    have : 1 ≤ d0 n z p := this
    grind
  | some (q + 2) =>
    show 1 / mo (supp n p) p (xx n z p) (q + 1) ≤ (cnt n p : Rat) ^ (q + 1)
    have h1 := Rat.le_trans (q_pow_le (m1_ge L C) (Rat.le_of_lt (q_inv_pos hc)) (q + 1)) (mo_ge P (q + 1))
    rw [one_div]
    have h2 := q_inv_le (q_pow_pos (q_inv_pos hc) (q + 1)) h1
    rw [← q_inv_pow (by have := q_inv_pos hc; grind), ic] at h2
    exact h2
/-- kinds that are unlike and equally many -/
def Plain (n : Nat) (z : Nat → Nat → Rat) (p : Nat → Rat) : Prop := ∀ i ∈ supp n p, (∀ k ∈ supp n p, p i = p k) ∧ ∀ j ∈ supp n p, j ≠ i → z i j = 0
theorem plain_x (L : Lk n z) (C : Cm n p) (h : Plain n z p) : ∀ k ∈ supp n p, xx n z p k = (cnt n p : Rat)⁻¹ := by
  intro i hi
  have hc := cnt_pos C
  have ic := Rat.mul_inv_cancel (cnt n p : Rat) (by grind)
  have e1 : (cnt n p : Rat) * p i = 1 := by
    have h1 : su (supp n p) p = su (supp n p) fun _ => p i := su_congr fun k hk => ((h i hi).1 k hk).symm
    rw [su_const, supp_one C] at h1
    exact h1.symm
  have e2 : p i = (cnt n p : Rat)⁻¹ := by grind
  have nd : (supp n p).Nodup := List.Pairwise.filter _ List.nodup_range
  rw [xx_eq, ← e2]
  have one : ∀ l : List Nat, l.Nodup → (∀ j ∈ l, j ≠ i → z i j = 0) → (i ∉ l → (su l fun k => z i k * p k) = 0) ∧ (i ∈ l → (su l fun k => z i k * p k) = p i) := by
    intro l
    induction l with
    | nil => exact fun _ _ => ⟨fun _ => rfl, fun h => by cases h⟩
    | cons a r ih =>
      intro nd hz
      have ih := ih (List.nodup_cons.mp nd).2 fun j hj => hz j (List.mem_cons_of_mem _ hj)
      refine ⟨fun hn => ?_, fun hm => ?_⟩
      · rw [su_cons, ih.1 fun hr => hn (List.mem_cons_of_mem _ hr), hz a List.mem_cons_self fun e => hn (by rw [e]; exact List.mem_cons_self)]
        grind
      · rw [su_cons]
        by_cases e : a = i
        · subst e
          rw [ih.1 (List.nodup_cons.mp nd).1, L.one a (supp_lt hi)]
          grind
        · have hr : i ∈ r := by
            rcases List.mem_cons.mp hm with z | z
            · exact absurd z.symm e
            · exact z
          rw [ih.2 hr, hz a List.mem_cons_self e]
          grind
  exact (one _ nd fun j hj hji => (h i hi).2 j hj hji).2 hi
theorem plain_sn (L : Lk n z) (C : Cm n p) (h : Plain n z p) (q : Option Nat) : sn (dv n z p q) (1, (cnt n p : Rat)) = 0 := by
  have e := (alike L C (plain_x L C h)).2 q
  rw [sn_zero]
  show (dv n z p q).2 ^ 1 = (cnt n p : Rat) ^ (dv n z p q).1
  rw [q_pow_one, e, Rat.inv_inv]
theorem plain_of (L : Lk n z) (C : Cm n p) (h0 : sn (dv n z p (some 0)) (1, (cnt n p : Rat)) = 0) (ha : sn (dv n z p none) (1, (cnt n p : Rat)) = 0) : Plain n z p := by
  have P := xx_pm L C
  have hc := cnt_pos C
  have h0 : d0 n z p ^ 1 = (cnt n p : Rat) ^ 1 := sn_zero.mp h0
  have ha : (1 / mx n z p) ^ 1 = (cnt n p : Rat) ^ 1 := sn_zero.mp ha
  rw [q_pow_one, q_pow_one] at h0 ha
  rw [one_div] at ha
  -- every presence is the share
  have h1 : ∀ k ∈ supp n p, 1 - p k / xx n z p k = 0 := by
    refine su_zero (fun k hk => by have := px_le L C hk; grind) ?_
    have e : (su (supp n p) fun k => 1 - p k / xx n z p k) = (su (supp n p) fun _ => (1 : Rat)) + (-1) * d0 n z p := by
      unfold d0
      rw [← su_mul, ← su_add]
      exact su_congr fun k _ => by grind
    have e1 : (((supp n p).length : Nat) : Rat) = (cnt n p : Rat) := rfl
    rw [e, su_const, h0, e1]
    grind
  have h2 : ∀ k ∈ supp n p, xx n z p k = p k := fun k hk => by
    have := h1 k hk
    have hx := P.xp k hk
    have := Rat.mul_inv_cancel _ (show xx n z p k ≠ 0 by grind)
    rw [Rat.div_def] at *
    grind
  -- the shares are alike
  have im : mx n z p = (cnt n p : Rat)⁻¹ := by rw [← ha, Rat.inv_inv]
  have ic := Rat.mul_inv_cancel (cnt n p : Rat) (by grind)
  have h3 : ∀ k ∈ supp n p, (cnt n p : Rat)⁻¹ - p k = 0 := by
    refine su_zero (fun k hk => ?_) ?_
    · have := mx_ge L C hk
      rw [h2 k hk, im] at this
      grind
    · have e : (su (supp n p) fun k => (cnt n p : Rat)⁻¹ - p k) = (su (supp n p) fun _ => (cnt n p : Rat)⁻¹) + (-1) * su (supp n p) p := by
        rw [← su_mul, ← su_add]
        exact su_congr fun k _ => by grind
      have e1 : (((supp n p).length : Nat) : Rat) = (cnt n p : Rat) := rfl
      rw [e, su_const, supp_one C, e1, ic]
      grind
  intro i hi
  refine ⟨fun k hk => by have := h3 i hi; have := h3 k hk; grind, fun j hj hji => ?_⟩
  -- what is like i beside it would add to its presence
  have hx := h2 i hi
  rw [xx_eq] at hx
  have hz : ∀ k ∈ supp n p, (if k = i then 0 else z i k * p k) = 0 := by
    have nn : ∀ k ∈ supp n p, (0 : Rat) ≤ if k = i then 0 else z i k * p k := fun k hk => by
      split
      · exact Rat.le_refl
      · exact Rat.mul_nonneg (L.lo i (supp_lt hi) k (supp_lt hk)) (C.lo k (supp_lt hk))
    refine su_zero nn ?_
    have nd : (supp n p).Nodup := List.Pairwise.filter _ List.nodup_range
    have key : ∀ l : List Nat, l.Nodup → (i ∉ l → (su l fun k => if k = i then 0 else z i k * p k) = su l fun k => z i k * p k) ∧ (i ∈ l → (su l fun k => if k = i then 0 else z i k * p k) + p i = su l fun k => z i k * p k) := by
      intro l
      induction l with
      | nil => exact fun _ => ⟨fun _ => rfl, fun h => by cases h⟩
      | cons a r ih =>
        intro nd
        have ih := ih (List.nodup_cons.mp nd).2
        refine ⟨fun hn => ?_, fun hm => ?_⟩
        · rw [su_cons, su_cons, ih.1 fun hr => hn (List.mem_cons_of_mem _ hr), if_neg fun e => hn (by rw [e]; exact List.mem_cons_self)]
        · rw [su_cons, su_cons]
          by_cases e : a = i
          · subst e
            rw [if_pos rfl, ih.1 (List.nodup_cons.mp nd).1, L.one a (supp_lt hi)]
            grind
          · have hr : i ∈ r := by
              rcases List.mem_cons.mp hm with z | z
              · exact absurd z.symm e
              · exact z
            rw [if_neg e, ← ih.2 hr]
            grind
    have := (key _ nd).2 hi
    rw [hx] at this
    grind
  have h4 := hz j hj
  rw [if_neg hji] at h4
  have hp := supp_pos C hj
  grind
end
end K85

set_option Elab.async false
set_option linter.all false
set_option autoImplicit false
set_option maxRecDepth 100000
set_option maxHeartbeats 4000000
/-! # Diversities: what the program's defs do -/
namespace K85
open PySem PySem.Spec L2 DL
open PyProof.Rows hiding St
/-! ## sizes -/
section
variable {n : Nat} {z : Nat → Nat → Rat} {p : Nat → Rat}
theorem Sm.su {A : Type} {b : Nat} {l : List A} {f : A → Rat} (h : ∀ a ∈ l, Sm b (f a)) : Sm (1 + l.length * (b + 1)) (su l f) := by
  have := Sm.tot (xs := l.map f) (b := b) fun x hx => by
    obtain ⟨k, hk, rfl⟩ := List.mem_map.mp hx
    exact h k hk
  rwa [List.length_map] at this
theorem Sm.one : Sm 1 (1 : Rat) := ⟨by show (1 : Nat) < 2; decide, by show (1 : Nat) < 2; decide⟩
theorem term_sm (L : Lk n z) (C : Cm n p) {k : Nat} (hk : k ∈ supp n p) {t : Nat} (ht : t ≤ 11) : Sm 987 (p k * xx n z p k ^ t) :=
  ((C.sm k (supp_lt hk)).mul ((xx_sm L C (supp_lt hk)).pow t)).mono (by omega)
theorem mo_sm (L : Lk n z) (C : Cm n p) {t : Nat} (ht : t ≤ 11) : Sm 7905 (mo (supp n p) p (xx n z p) t) := by
  have h := Sm.su (l := supp n p) (f := fun k => p k * xx n z p k ^ t) (b := 987) fun k hk => term_sm L C hk ht
  refine h.mono ?_
  have := supp_len (n := n) (p := p)
  have := L.n8
  omega
theorem d0_sm (L : Lk n z) (C : Cm n p) : Sm 7905 (d0 n z p) := by
  have h := Sm.su (l := supp n p) (f := fun k => p k / xx n z p k) (b := 96) fun k hk => (C.sm k (supp_lt hk)).div (xx_sm L C (supp_lt hk))
  refine h.mono ?_
  have := supp_len (n := n) (p := p)
  have := L.n8
  omega
theorem ee_le (C : Cm n p) {k : Nat} (hk : k ∈ supp n p) : ee n p k ≤ Lm n p := by
  rw [← ee_sum C]
  have : ∀ l : List Nat, k ∈ l → ee n p k ≤ (l.map (ee n p)).sum := fun l => by
    induction l with
    | nil => exact fun h => by cases h
    | cons a r ih =>
      intro h
      rw [List.map_cons, List.sum_cons]
      rcases List.mem_cons.mp h with rfl | h
      · omega
      · have := ih h
        omega
  exact this _ hk
theorem pw_sm (L : Lk n z) (C : Cm n p) {k : Nat} (hk : k ∈ supp n p) : Sm (89 * ee n p k + 1) ((xx n z p k)⁻¹ ^ ee n p k) := ((xx_sm L C (supp_lt hk)).inv).pow _
theorem pr_sm (L : Lk n z) (C : Cm n p) : ∀ l : List Nat, (∀ k ∈ l, k ∈ supp n p) → Sm (1 + 89 * (l.map (ee n p)).sum + l.length) (pr l fun k => (xx n z p k)⁻¹ ^ ee n p k)
  | [], _ => Sm.one
  | a :: r, h => by
    have ih := pr_sm L C r fun k hk => h k (List.mem_cons_of_mem _ hk)
    have := (pw_sm L C (h a List.mem_cons_self)).mul ih
    rw [pr_cons]
    refine this.mono ?_
    rw [List.map_cons, List.sum_cons, List.length_cons]
    omega
/-- the orders that have a diversity -/
structure Kn (n : Nat) (p : Nat → Rat) (o : Option Nat) : Prop where
  le : ∀ k, o = some k → k ≤ 12
  few : o = some 1 → Lm n p ≤ 40
theorem dv_sm (L : Lk n z) (C : Cm n p) {o : Option Nat} (h : Kn n p o) : Sm 7905 (dv n z p o).2 := by
  match o, h with
  | none, _ =>
    obtain ⟨k, hk, e⟩ := mx_in L C
    show Sm 7905 (1 / mx n z p)
    rw [e, one_div]
    exact (xx_sm L C (supp_lt hk)).inv.mono (by decide)
  | some 0, _ => exact d0_sm L C
  | some 1, h =>
    have := pr_sm L C (supp n p) fun _ z => z
    rw [ee_sum C] at this
    refine this.mono ?_
    have := h.few rfl
    have := supp_len (n := n) (p := p)
    have := L.n8
    omega
  | some (q + 2), h =>
    show Sm 7905 (1 / mo (supp n p) p (xx n z p) (q + 1))
    rw [one_div]
    exact (mo_sm L C (by have := h.le _ rfl; omega)).inv
theorem dv_k {o : Option Nat} (h : Kn n p o) : (dv n z p o).1 ≤ 40 := by
  match o, h with
  | none, _ => show 1 ≤ 40; decide
  | some 0, _ => show 1 ≤ 40; decide
  | some 1, h => exact h.few rfl
  | some (q + 2), h => have := h.le _ rfl; show q + 1 ≤ 40; omega
end
/-! ## the defs -/
def s_power_sum_of : DSp := fun ds M Φ _ => ∃ n z p, ∃ t : Nat, ds = [tabD n n z, rowD n p, .int ((t + 1 : Nat) : Int)] ∧ Lk n z ∧ Cm n p ∧ t ≤ 11 ∧ Φ (fr (mo (supp n p) p (xx n z p) t)) M
theorem rz_nat (x : Rat) (t : Nat) : rz x (t : Int) = x ^ t := by
  unfold rz
  rw [if_pos (Int.natCast_nonneg _), Int.toNat_natCast]
theorem rz_neg (x : Rat) (t : Nat) : rz x (-(t : Int)) = x⁻¹ ^ t := by
  unfold rz
  by_cases h : t = 0
  · subst h
    rw [if_pos (by decide), Rat.pow_zero]
    exact Rat.pow_zero _
  · rw [if_neg (by omega), Int.neg_neg, Int.toNat_natCast]
theorem r_power_sum_of : ∀ ds M Φ Ψ, s_power_sum_of ds M Φ Ψ → ds.length = 3 ∧ T_power_sum_of s_total s_shares_of s_times s_raised (fnEnds M.length Φ Ψ) (startR N_power_sum_of ds) M := by
  rintro ds M Φ Ψ ⟨n, z, p, t, rfl, L, C, ht, h⟩
  refine ⟨rfl, ?_⟩
  have n8 := L.n8
  have sl := supp_len (n := n) (p := p)
  simp only [dSeq, dAsg, dIf, dIfS, dB, dOp, dUn, dCB, dCons, dNil, dTup, dLst, dVar, dC, dgName, dgTup, dgLst, dgCons, dgNil, dRet, dRetN, dDrop, dPar, dPar3, dNext, dAnd, dOr, dNot, dAndV, dOrV, dNotV, dChain, dCall, dCallR, dFor, diSeq, diRng1, diZip, diEnum, dLc, dYes, dElt, fnEnds, startR, wipeR, dAdd, dSub, dMul, dFdiv, dMod, dPow, dInt2, dNeg, dCmpI, dLt, dLe, dGt, dGe, dEq, dNe, dIsN, dIsNot, dIsB, dSl, dPart, dNoPart, dAbs, dInts2, dMax2, dMin2, dGcd, dInt, dIs1, dIs2, atI_0, atI_1, atI_2, atI_3, List.map, List.length, List.cons_append, List.nil_append, List.replicate, List.getElem?_cons_zero, List.getElem?_cons_succ, List.set, if_true, if_false, res_tup, res_lst, res_int, res_bl, res_str, res_non, res_fr, res_row, res_tab, res_ptr, ix_tup, ix_lst, ix_frl, ix_row, ix_tab, ix_fr0, ix_fr1, ix_ptr, len_tup, len_lst, len_frl, len_row, len_tab, len_ptr, sq_tup', sq_lst, sq_frl, sq_row, sq_tab, sq_ptr, lvf_lst, lvf_frl, lvf_ptr, isN_non, isN_tup, isN_int, isN_bl, sl_tup, sl_lst, sl_frl, sl_str, tupOf_lst, tupOf_tup, up_len, keep_lst, keep_frl, keep_tup, keep_row, keep_tab, keep_ptr, T_power_sum_of, N_power_sum_of]
  refine ⟨n, z, p, rfl, L, C, ?_⟩
  simp only [shD, dSeq, dAsg, dIf, dIfS, dB, dOp, dUn, dCB, dCons, dNil, dTup, dLst, dVar, dC, dgName, dgTup, dgLst, dgCons, dgNil, dRet, dRetN, dDrop, dPar, dPar3, dNext, dAnd, dOr, dNot, dAndV, dOrV, dNotV, dChain, dCall, dCallR, dFor, diSeq, diRng1, diZip, diEnum, dLc, dYes, dElt, fnEnds, startR, wipeR, dAdd, dSub, dMul, dFdiv, dMod, dPow, dInt2, dNeg, dCmpI, dLt, dLe, dGt, dGe, dEq, dNe, dIsN, dIsNot, dIsB, dSl, dPart, dNoPart, dAbs, dInts2, dMax2, dMin2, dGcd, dInt, dIs1, dIs2, atI_0, atI_1, atI_2, atI_3, List.map, List.length, List.cons_append, List.nil_append, List.replicate, List.getElem?_cons_zero, List.getElem?_cons_succ, List.set, if_true, if_false, res_tup, res_lst, res_int, res_bl, res_str, res_non, res_fr, res_row, res_tab, res_ptr, ix_tup, ix_lst, ix_frl, ix_row, ix_tab, ix_fr0, ix_fr1, ix_ptr, len_tup, len_lst, len_frl, len_row, len_tab, len_ptr, sq_tup', sq_lst, sq_frl, sq_row, sq_tab, sq_ptr, lvf_lst, lvf_frl, lvf_ptr, isN_non, isN_tup, isN_int, isN_bl, sl_tup, sl_lst, sl_frl, sl_str, tupOf_lst, tupOf_tup, up_len, keep_lst, keep_frl, keep_tup, keep_row, keep_tab, keep_ptr]
  refine go_map (e := fun k : Nat => D.tup [fr (p k), fr (xx n z p k)]) (f := fun k => fr (p k * xx n z p k ^ t)) (supp n p) (fun k hk acc kk hkk hl => ?_) trivial (small (by omega)) ?_
  · simp only [dSeq, dAsg, dIf, dIfS, dB, dOp, dUn, dCB, dCons, dNil, dTup, dLst, dVar, dC, dgName, dgTup, dgLst, dgCons, dgNil, dRet, dRetN, dDrop, dPar, dPar3, dNext, dAnd, dOr, dNot, dAndV, dOrV, dNotV, dChain, dCall, dCallR, dFor, diSeq, diRng1, diZip, diEnum, dLc, dYes, dElt, fnEnds, startR, wipeR, dAdd, dSub, dMul, dFdiv, dMod, dPow, dInt2, dNeg, dCmpI, dLt, dLe, dGt, dGe, dEq, dNe, dIsN, dIsNot, dIsB, dSl, dPart, dNoPart, dAbs, dInts2, dMax2, dMin2, dGcd, dInt, dIs1, dIs2, atI_0, atI_1, atI_2, atI_3, List.map, List.length, List.cons_append, List.nil_append, List.replicate, List.getElem?_cons_zero, List.getElem?_cons_succ, List.set, if_true, if_false, res_tup, res_lst, res_int, res_bl, res_str, res_non, res_fr, res_row, res_tab, res_ptr, ix_tup, ix_lst, ix_frl, ix_row, ix_tab, ix_fr0, ix_fr1, ix_ptr, len_tup, len_lst, len_frl, len_row, len_tab, len_ptr, sq_tup', sq_lst, sq_frl, sq_row, sq_tab, sq_ptr, lvf_lst, lvf_frl, lvf_ptr, isN_non, isN_tup, isN_int, isN_bl, sl_tup, sl_lst, sl_frl, sl_str, tupOf_lst, tupOf_tup, up_len, keep_lst, keep_frl, keep_tup, keep_row, keep_tab, keep_ptr]
    have e : (((t + 1 : Nat) : Int) - 1) = (t : Int) := by omega
    rw [e]
    refine ⟨xx n z p k, t, rfl, .inl (Int.natCast_nonneg _), ⟨89, xx_sm L C (supp_lt hk), by decide, by omega⟩, by omega, ?_⟩
    refine ⟨p k, _, rfl, ⟨7, 89 * t + 1, C.sm k (supp_lt hk), ?_, by omega⟩, hl, ?_⟩
    · rw [rz_nat]
      exact (xx_sm L C (supp_lt hk)).pow t
    · rw [rz_nat]
      exact hkk
  · refine ⟨(supp n p).map fun k => p k * xx n z p k ^ t, .inl (by rw [List.map_map]; rfl), ⟨987, fun x hx => ?_, by rw [List.length_map]; omega⟩, DropN.of h⟩
    obtain ⟨k, hk, rfl⟩ := List.mem_map.mp hx
    exact term_sm L C hk ht
def s_common_multiple : DSp := fun ds M Φ _ => ∃ n p, ds = [rowD n p] ∧ Cm n p ∧ n ≤ 8 ∧ Φ (.int (Lm n p : Nat)) M
theorem lcm_fdiv {a d : Nat} (ha : 0 < a) : ((a : Int) * (d : Int)).fdiv ((Nat.gcd a d : Nat) : Int) = ((Nat.lcm a d : Nat) : Int) := by
  rw [Int.fdiv_eq_ediv_of_nonneg _ (Int.natCast_nonneg _), ← Int.natCast_mul, ← Int.natCast_ediv]
  rfl
theorem r_multiple (p_gcd : DSp) : True := trivial
/-- one step of the common multiple -/
theorem lcm_step {a d i : Nat} (ha : 0 < a) (hd : 0 < d) (ba : a < 2 ^ (7 * i)) (bd : d < 2 ^ 7) (hi : i ≤ 8) : CMulW (a : Int) (d : Int) ∧ CDivG ((a : Int) * (d : Int)) ((Nat.gcd (a : Int).natAbs (d : Int).natAbs : Nat) : Int) ∧ Nat.lcm a d < 2 ^ (7 * (i + 1)) ∧ 0 < Nat.lcm a d := by
  have b1 : Bt (7 * i) (a : Int) := by unfold Bt; rwa [Int.natAbs_natCast]
  have b2 : Bt 7 (d : Int) := by unfold Bt; rwa [Int.natAbs_natCast]
  have hg : 0 < Nat.gcd a d := Nat.gcd_pos_of_pos_left d ha
  refine ⟨b1.cm b2 (by omega), ⟨?_, ?_⟩, ?_, Nat.lcm_pos ha hd⟩
  · rw [Int.natAbs_natCast, Int.natAbs_natCast]; omega
  · have := (b2.gcd (a := (a : Int)) (by omega)).log
    omega
  · have : Nat.lcm a d ≤ a * d := Nat.div_le_self _ _
    have h2 : a * d < 2 ^ (7 * i) * 2 ^ 7 := Nat.mul_lt_mul'' ba bd
    rw [← Nat.pow_add] at h2
    have e : 7 * (i + 1) = 7 * i + 7 := by omega
    rw [e]
    omega
theorem r_common_multiple : ∀ ds M Φ Ψ, s_common_multiple ds M Φ Ψ → ds.length = 1 ∧ T_common_multiple (fnEnds M.length Φ Ψ) (startR N_common_multiple ds) M := by
  rintro ds M Φ Ψ ⟨n, p, rfl, C, n8, h⟩
  refine ⟨rfl, ?_⟩
  simp only [dSeq, dAsg, dIf, dIfS, dB, dOp, dUn, dCB, dCons, dNil, dTup, dLst, dVar, dC, dgName, dgTup, dgLst, dgCons, dgNil, dRet, dRetN, dDrop, dPar, dPar3, dNext, dAnd, dOr, dNot, dAndV, dOrV, dNotV, dChain, dCall, dCallR, dFor, diSeq, diRng1, diZip, diEnum, dLc, dYes, dElt, fnEnds, startR, wipeR, dAdd, dSub, dMul, dFdiv, dMod, dPow, dInt2, dNeg, dCmpI, dLt, dLe, dGt, dGe, dEq, dNe, dIsN, dIsNot, dIsB, dSl, dPart, dNoPart, dAbs, dInts2, dMax2, dMin2, dGcd, dInt, dIs1, dIs2, atI_0, atI_1, atI_2, atI_3, List.map, List.length, List.cons_append, List.nil_append, List.replicate, List.getElem?_cons_zero, List.getElem?_cons_succ, List.set, if_true, if_false, res_tup, res_lst, res_int, res_bl, res_str, res_non, res_fr, res_row, res_tab, res_ptr, ix_tup, ix_lst, ix_frl, ix_row, ix_tab, ix_fr0, ix_fr1, ix_ptr, len_tup, len_lst, len_frl, len_row, len_tab, len_ptr, sq_tup', sq_lst, sq_frl, sq_row, sq_tab, sq_ptr, lvf_lst, lvf_frl, lvf_ptr, isN_non, isN_tup, isN_int, isN_bl, sl_tup, sl_lst, sl_frl, sl_str, tupOf_lst, tupOf_tup, up_len, keep_lst, keep_frl, keep_tup, keep_row, keep_tab, keep_ptr, T_common_multiple, N_common_multiple]
  refine for_map (e := fun k => fr (p k)) (I := fun xs ρ M' => M' = M ∧ (∀ k ∈ xs, k < n) ∧ ∃ (o : Option D) (a i : Nat), ρ = [some (rowD n p), some (.int (a : Nat)), o] ∧ (xs.map fun k => (p k).den).foldl Nat.lcm a = Lm n p ∧ 0 < a ∧ a < 2 ^ (7 * i) ∧ i + xs.length ≤ n + 1) ?_ ?_ (List.range n) _ M ?_
  · rintro ρ M' ⟨rfl, _, o, a, i, rfl, e, _, _, _⟩
    refine ⟨trivial, ?_⟩
    simp only [dSeq, dAsg, dIf, dIfS, dB, dOp, dUn, dCB, dCons, dNil, dTup, dLst, dVar, dC, dgName, dgTup, dgLst, dgCons, dgNil, dRet, dRetN, dDrop, dPar, dPar3, dNext, dAnd, dOr, dNot, dAndV, dOrV, dNotV, dChain, dCall, dCallR, dFor, diSeq, diRng1, diZip, diEnum, dLc, dYes, dElt, fnEnds, startR, wipeR, dAdd, dSub, dMul, dFdiv, dMod, dPow, dInt2, dNeg, dCmpI, dLt, dLe, dGt, dGe, dEq, dNe, dIsN, dIsNot, dIsB, dSl, dPart, dNoPart, dAbs, dInts2, dMax2, dMin2, dGcd, dInt, dIs1, dIs2, atI_0, atI_1, atI_2, atI_3, List.map, List.length, List.cons_append, List.nil_append, List.replicate, List.getElem?_cons_zero, List.getElem?_cons_succ, List.set, if_true, if_false, res_tup, res_lst, res_int, res_bl, res_str, res_non, res_fr, res_row, res_tab, res_ptr, ix_tup, ix_lst, ix_frl, ix_row, ix_tab, ix_fr0, ix_fr1, ix_ptr, len_tup, len_lst, len_frl, len_row, len_tab, len_ptr, sq_tup', sq_lst, sq_frl, sq_row, sq_tab, sq_ptr, lvf_lst, lvf_frl, lvf_ptr, isN_non, isN_tup, isN_int, isN_bl, sl_tup, sl_lst, sl_frl, sl_str, tupOf_lst, tupOf_tup, up_len, keep_lst, keep_frl, keep_tup, keep_row, keep_tab, keep_ptr]
    have e' : a = Lm n p := e
    rw [e']
    exact DropN.of h
  · rintro k r ρ M' nx hnx ⟨rfl, hk, o, a, i, rfl, e, ha, ba, hi⟩
    refine ⟨trivial, ?_⟩
    simp only [dSeq, dAsg, dIf, dIfS, dB, dOp, dUn, dCB, dCons, dNil, dTup, dLst, dVar, dC, dgName, dgTup, dgLst, dgCons, dgNil, dRet, dRetN, dDrop, dPar, dPar3, dNext, dAnd, dOr, dNot, dAndV, dOrV, dNotV, dChain, dCall, dCallR, dFor, diSeq, diRng1, diZip, diEnum, dLc, dYes, dElt, fnEnds, startR, wipeR, dAdd, dSub, dMul, dFdiv, dMod, dPow, dInt2, dNeg, dCmpI, dLt, dLe, dGt, dGe, dEq, dNe, dIsN, dIsNot, dIsB, dSl, dPart, dNoPart, dAbs, dInts2, dMax2, dMin2, dGcd, dInt, dIs1, dIs2, atI_0, atI_1, atI_2, atI_3, List.map, List.length, List.cons_append, List.nil_append, List.replicate, List.getElem?_cons_zero, List.getElem?_cons_succ, List.set, if_true, if_false, res_tup, res_lst, res_int, res_bl, res_str, res_non, res_fr, res_row, res_tab, res_ptr, ix_tup, ix_lst, ix_frl, ix_row, ix_tab, ix_fr0, ix_fr1, ix_ptr, len_tup, len_lst, len_frl, len_row, len_tab, len_ptr, sq_tup', sq_lst, sq_frl, sq_row, sq_tab, sq_ptr, lvf_lst, lvf_frl, lvf_ptr, isN_non, isN_tup, isN_int, isN_bl, sl_tup, sl_lst, sl_frl, sl_str, tupOf_lst, tupOf_tup, up_len, keep_lst, keep_frl, keep_tup, keep_row, keep_tab, keep_ptr]
    simp only [List.length_cons] at hi
    have bd : (p k).den < 2 ^ 7 := by
      have := (C.sm k (hk k List.mem_cons_self)).2
      unfold Bt at this
      rwa [Int.natAbs_natCast] at this
    obtain ⟨c1, c2, c3, c4⟩ := lcm_step ha (p k).den_pos ba bd (show i ≤ 8 by omega)
    refine ⟨c1, c2, hnx _ _ ⟨rfl, fun j hj => hk j (List.mem_cons_of_mem _ hj), some (fr (p k)), Nat.lcm a (p k).den, i + 1, ?_, e, c4, c3, by omega⟩⟩
    rw [Int.natAbs_natCast, Int.natAbs_natCast, lcm_fdiv ha]
  · exact ⟨rfl, fun k hk => List.mem_range.mp hk, none, 1, 1, rfl, rfl, by decide, by decide, by rw [List.length_range]; omega⟩
def s_first_order : DSp := fun ds M Φ _ => ∃ n z p, ds = [tabD n n z, rowD n p] ∧ Lk n z ∧ Cm n p ∧ Lm n p ≤ 40 ∧ Φ (.tup [.int (Lm n p : Nat), fr (d1 n z p)]) M
theorem r_first_order : ∀ ds M Φ Ψ, s_first_order ds M Φ Ψ → ds.length = 2 ∧ T_first_order s_common_multiple s_shares_of s_times s_raised (fnEnds M.length Φ Ψ) (startR N_first_order ds) M := by
  rintro ds M Φ Ψ ⟨n, z, p, rfl, L, C, few, h⟩
  refine ⟨rfl, ?_⟩
  have n8 := L.n8
  have sl := supp_len (n := n) (p := p)
  simp only [one_frac, dSeq, dAsg, dIf, dIfS, dB, dOp, dUn, dCB, dCons, dNil, dTup, dLst, dVar, dC, dgName, dgTup, dgLst, dgCons, dgNil, dRet, dRetN, dDrop, dPar, dPar3, dNext, dAnd, dOr, dNot, dAndV, dOrV, dNotV, dChain, dCall, dCallR, dFor, diSeq, diRng1, diZip, diEnum, dLc, dYes, dElt, fnEnds, startR, wipeR, dAdd, dSub, dMul, dFdiv, dMod, dPow, dInt2, dNeg, dCmpI, dLt, dLe, dGt, dGe, dEq, dNe, dIsN, dIsNot, dIsB, dSl, dPart, dNoPart, dAbs, dInts2, dMax2, dMin2, dGcd, dInt, dIs1, dIs2, atI_0, atI_1, atI_2, atI_3, List.map, List.length, List.cons_append, List.nil_append, List.replicate, List.getElem?_cons_zero, List.getElem?_cons_succ, List.set, if_true, if_false, res_tup, res_lst, res_int, res_bl, res_str, res_non, res_fr, res_row, res_tab, res_ptr, ix_tup, ix_lst, ix_frl, ix_row, ix_tab, ix_fr0, ix_fr1, ix_ptr, len_tup, len_lst, len_frl, len_row, len_tab, len_ptr, sq_tup', sq_lst, sq_frl, sq_row, sq_tab, sq_ptr, lvf_lst, lvf_frl, lvf_ptr, isN_non, isN_tup, isN_int, isN_bl, sl_tup, sl_lst, sl_frl, sl_str, tupOf_lst, tupOf_tup, up_len, keep_lst, keep_frl, keep_tup, keep_row, keep_tab, keep_ptr, T_first_order, N_first_order]
  refine ⟨n, p, rfl, C, n8, ?_⟩
  refine ⟨n, z, p, rfl, L, C, ?_⟩
  simp only [shD, dSeq, dAsg, dIf, dIfS, dB, dOp, dUn, dCB, dCons, dNil, dTup, dLst, dVar, dC, dgName, dgTup, dgLst, dgCons, dgNil, dRet, dRetN, dDrop, dPar, dPar3, dNext, dAnd, dOr, dNot, dAndV, dOrV, dNotV, dChain, dCall, dCallR, dFor, diSeq, diRng1, diZip, diEnum, dLc, dYes, dElt, fnEnds, startR, wipeR, dAdd, dSub, dMul, dFdiv, dMod, dPow, dInt2, dNeg, dCmpI, dLt, dLe, dGt, dGe, dEq, dNe, dIsN, dIsNot, dIsB, dSl, dPart, dNoPart, dAbs, dInts2, dMax2, dMin2, dGcd, dInt, dIs1, dIs2, atI_0, atI_1, atI_2, atI_3, List.map, List.length, List.cons_append, List.nil_append, List.replicate, List.getElem?_cons_zero, List.getElem?_cons_succ, List.set, if_true, if_false, res_tup, res_lst, res_int, res_bl, res_str, res_non, res_fr, res_row, res_tab, res_ptr, ix_tup, ix_lst, ix_frl, ix_row, ix_tab, ix_fr0, ix_fr1, ix_ptr, len_tup, len_lst, len_frl, len_row, len_tab, len_ptr, sq_tup', sq_lst, sq_frl, sq_row, sq_tab, sq_ptr, lvf_lst, lvf_frl, lvf_ptr, isN_non, isN_tup, isN_int, isN_bl, sl_tup, sl_lst, sl_frl, sl_str, tupOf_lst, tupOf_tup, up_len, keep_lst, keep_frl, keep_tup, keep_row, keep_tab, keep_ptr]
  refine for_map (e := fun k : Nat => D.tup [fr (p k), fr (xx n z p k)]) (I := fun xs ρ M' => M' = M ∧ (∀ k ∈ xs, k ∈ supp n p) ∧ ∃ (o o' : Option D) (a : Rat) (b i : Nat), ρ = [some (tabD n n z), some (rowD n p), some (.int (Lm n p : Nat)), some (fr a), o, o'] ∧ a * (pr xs fun k => (xx n z p k)⁻¹ ^ ee n p k) = d1 n z p ∧
    Sm (1 + 89 * b + i) a ∧ b + (xs.map (ee n p)).sum = Lm n p ∧ i + xs.length ≤ 8) ?_ ?_ (supp n p) _ M ?_
  · rintro ρ M' ⟨rfl, _, o, o', a, b, i, rfl, e, _, _, _⟩
    refine ⟨trivial, ?_⟩
    simp only [dSeq, dAsg, dIf, dIfS, dB, dOp, dUn, dCB, dCons, dNil, dTup, dLst, dVar, dC, dgName, dgTup, dgLst, dgCons, dgNil, dRet, dRetN, dDrop, dPar, dPar3, dNext, dAnd, dOr, dNot, dAndV, dOrV, dNotV, dChain, dCall, dCallR, dFor, diSeq, diRng1, diZip, diEnum, dLc, dYes, dElt, fnEnds, startR, wipeR, dAdd, dSub, dMul, dFdiv, dMod, dPow, dInt2, dNeg, dCmpI, dLt, dLe, dGt, dGe, dEq, dNe, dIsN, dIsNot, dIsB, dSl, dPart, dNoPart, dAbs, dInts2, dMax2, dMin2, dGcd, dInt, dIs1, dIs2, atI_0, atI_1, atI_2, atI_3, List.map, List.length, List.cons_append, List.nil_append, List.replicate, List.getElem?_cons_zero, List.getElem?_cons_succ, List.set, if_true, if_false, res_tup, res_lst, res_int, res_bl, res_str, res_non, res_fr, res_row, res_tab, res_ptr, ix_tup, ix_lst, ix_frl, ix_row, ix_tab, ix_fr0, ix_fr1, ix_ptr, len_tup, len_lst, len_frl, len_row, len_tab, len_ptr, sq_tup', sq_lst, sq_frl, sq_row, sq_tab, sq_ptr, lvf_lst, lvf_frl, lvf_ptr, isN_non, isN_tup, isN_int, isN_bl, sl_tup, sl_lst, sl_frl, sl_str, tupOf_lst, tupOf_tup, up_len, keep_lst, keep_frl, keep_tup, keep_row, keep_tab, keep_ptr]
    have e' : a = d1 n z p := by
      have : a * 1 = d1 n z p := e
      rw [← this, Rat.mul_one]
    rw [e']
    exact ⟨by decide, DropN.of h⟩
  · rintro k r ρ M' nx hnx ⟨rfl, hk, o, o', a, b, i, rfl, e, sa, eb, hi⟩
    have hkk := hk k List.mem_cons_self
    refine ⟨trivial, ?_⟩
    simp only [List.length_cons] at hi
    rw [List.map_cons, List.sum_cons] at eb
    simp only [ix_fr0, ix_fr1, dSeq, dAsg, dIf, dIfS, dB, dOp, dUn, dCB, dCons, dNil, dTup, dLst, dVar, dC, dgName, dgTup, dgLst, dgCons, dgNil, dRet, dRetN, dDrop, dPar, dPar3, dNext, dAnd, dOr, dNot, dAndV, dOrV, dNotV, dChain, dCall, dCallR, dFor, diSeq, diRng1, diZip, diEnum, dLc, dYes, dElt, fnEnds, startR, wipeR, dAdd, dSub, dMul, dFdiv, dMod, dPow, dInt2, dNeg, dCmpI, dLt, dLe, dGt, dGe, dEq, dNe, dIsN, dIsNot, dIsB, dSl, dPart, dNoPart, dAbs, dInts2, dMax2, dMin2, dGcd, dInt, dIs1, dIs2, atI_0, atI_1, atI_2, atI_3, List.map, List.length, List.cons_append, List.nil_append, List.replicate, List.getElem?_cons_zero, List.getElem?_cons_succ, List.set, if_true, if_false, res_tup, res_lst, res_int, res_bl, res_str, res_non, res_fr, res_row, res_tab, res_ptr, ix_tup, ix_lst, ix_frl, ix_row, ix_tab, ix_fr0, ix_fr1, ix_ptr, len_tup, len_lst, len_frl, len_row, len_tab, len_ptr, sq_tup', sq_lst, sq_frl, sq_row, sq_tab, sq_ptr, lvf_lst, lvf_frl, lvf_ptr, isN_non, isN_tup, isN_int, isN_bl, sl_tup, sl_lst, sl_frl, sl_str, tupOf_lst, tupOf_tup, up_len, keep_lst, keep_frl, keep_tup, keep_row, keep_tab, keep_ptr]
    have cs := C.sm k (supp_lt hkk)
    have bl : Bt 6 ((Lm n p : Nat) : Int) := by
      unfold Bt
      rw [Int.natAbs_natCast]
      omega
    have ed := (ee_eq C (supp_lt hkk)).2
    refine ⟨bl.cm cs.1 (by decide), ⟨by have := (p k).den_pos; omega, by have := cs.2.log; omega⟩, ?_⟩
    rw [← ed]
    refine ⟨xx n z p k, _, rfl, .inr (by have := (xx_pm L C).xp k hkk; grind), ⟨89, xx_sm L C (supp_lt hkk), by decide, ?_⟩, ?_, ?_⟩
    · rw [Int.natAbs_neg, Int.natAbs_natCast]; omega
    · rw [Int.natAbs_neg, Int.natAbs_natCast]; omega
    · rw [rz_neg]
      refine ⟨a, _, rfl, Two.of sa (pw_sm L C hkk) (by omega), hnx _ _ ⟨rfl, fun j hj => hk j (List.mem_cons_of_mem _ hj), some (fr (p k)), some (fr (xx n z p k)), _, b + ee n p k, i + 1, rfl, ?_, ?_, by omega, by omega⟩⟩
      · rw [Rat.mul_assoc]
        exact e
      · exact (sa.mul (pw_sm L C hkk)).mono (by omega)
  · exact ⟨rfl, fun _ z => z, none, none, 1, 0, 0, rfl, by rw [Rat.one_mul]; rfl, Sm.one, by rw [ee_sum C]; omega, by omega⟩
def s_greatest_presence : DSp := fun ds M Φ _ => ∃ n z p, ds = [tabD n n z, rowD n p] ∧ Lk n z ∧ Cm n p ∧ Φ (fr (mx n z p)) M
theorem r_greatest_presence : ∀ ds M Φ Ψ, s_greatest_presence ds M Φ Ψ → ds.length = 2 ∧ T_greatest_presence s_shares_of s_is_less (fnEnds M.length Φ Ψ) (startR N_greatest_presence ds) M := by
  rintro ds M Φ Ψ ⟨n, z, p, rfl, L, C, h⟩
  refine ⟨rfl, ?_⟩
  simp only [zero_frac, dSeq, dAsg, dIf, dIfS, dB, dOp, dUn, dCB, dCons, dNil, dTup, dLst, dVar, dC, dgName, dgTup, dgLst, dgCons, dgNil, dRet, dRetN, dDrop, dPar, dPar3, dNext, dAnd, dOr, dNot, dAndV, dOrV, dNotV, dChain, dCall, dCallR, dFor, diSeq, diRng1, diZip, diEnum, dLc, dYes, dElt, fnEnds, startR, wipeR, dAdd, dSub, dMul, dFdiv, dMod, dPow, dInt2, dNeg, dCmpI, dLt, dLe, dGt, dGe, dEq, dNe, dIsN, dIsNot, dIsB, dSl, dPart, dNoPart, dAbs, dInts2, dMax2, dMin2, dGcd, dInt, dIs1, dIs2, atI_0, atI_1, atI_2, atI_3, List.map, List.length, List.cons_append, List.nil_append, List.replicate, List.getElem?_cons_zero, List.getElem?_cons_succ, List.set, if_true, if_false, res_tup, res_lst, res_int, res_bl, res_str, res_non, res_fr, res_row, res_tab, res_ptr, ix_tup, ix_lst, ix_frl, ix_row, ix_tab, ix_fr0, ix_fr1, ix_ptr, len_tup, len_lst, len_frl, len_row, len_tab, len_ptr, sq_tup', sq_lst, sq_frl, sq_row, sq_tab, sq_ptr, lvf_lst, lvf_frl, lvf_ptr, isN_non, isN_tup, isN_int, isN_bl, sl_tup, sl_lst, sl_frl, sl_str, tupOf_lst, tupOf_tup, up_len, keep_lst, keep_frl, keep_tup, keep_row, keep_tab, keep_ptr, T_greatest_presence, N_greatest_presence]
  refine ⟨n, z, p, rfl, L, C, ?_⟩
  simp only [shD, dSeq, dAsg, dIf, dIfS, dB, dOp, dUn, dCB, dCons, dNil, dTup, dLst, dVar, dC, dgName, dgTup, dgLst, dgCons, dgNil, dRet, dRetN, dDrop, dPar, dPar3, dNext, dAnd, dOr, dNot, dAndV, dOrV, dNotV, dChain, dCall, dCallR, dFor, diSeq, diRng1, diZip, diEnum, dLc, dYes, dElt, fnEnds, startR, wipeR, dAdd, dSub, dMul, dFdiv, dMod, dPow, dInt2, dNeg, dCmpI, dLt, dLe, dGt, dGe, dEq, dNe, dIsN, dIsNot, dIsB, dSl, dPart, dNoPart, dAbs, dInts2, dMax2, dMin2, dGcd, dInt, dIs1, dIs2, atI_0, atI_1, atI_2, atI_3, List.map, List.length, List.cons_append, List.nil_append, List.replicate, List.getElem?_cons_zero, List.getElem?_cons_succ, List.set, if_true, if_false, res_tup, res_lst, res_int, res_bl, res_str, res_non, res_fr, res_row, res_tab, res_ptr, ix_tup, ix_lst, ix_frl, ix_row, ix_tab, ix_fr0, ix_fr1, ix_ptr, len_tup, len_lst, len_frl, len_row, len_tab, len_ptr, sq_tup', sq_lst, sq_frl, sq_row, sq_tab, sq_ptr, lvf_lst, lvf_frl, lvf_ptr, isN_non, isN_tup, isN_int, isN_bl, sl_tup, sl_lst, sl_frl, sl_str, tupOf_lst, tupOf_tup, up_len, keep_lst, keep_frl, keep_tup, keep_row, keep_tab, keep_ptr]
  refine for_map (e := fun k : Nat => D.tup [fr (p k), fr (xx n z p k)]) (I := fun xs ρ M' => M' = M ∧ (∀ k ∈ xs, k ∈ supp n p) ∧ ∃ (o o' : Option D) (a : Rat), ρ = [some (tabD n n z), some (rowD n p), some (fr a), o, o'] ∧ mxA a (xs.map (xx n z p)) = mx n z p ∧ Sm 100 a) ?_ ?_ (supp n p) _ M ?_
  · rintro ρ M' ⟨rfl, _, o, o', a, rfl, e, _⟩
    refine ⟨trivial, ?_⟩
    simp only [dSeq, dAsg, dIf, dIfS, dB, dOp, dUn, dCB, dCons, dNil, dTup, dLst, dVar, dC, dgName, dgTup, dgLst, dgCons, dgNil, dRet, dRetN, dDrop, dPar, dPar3, dNext, dAnd, dOr, dNot, dAndV, dOrV, dNotV, dChain, dCall, dCallR, dFor, diSeq, diRng1, diZip, diEnum, dLc, dYes, dElt, fnEnds, startR, wipeR, dAdd, dSub, dMul, dFdiv, dMod, dPow, dInt2, dNeg, dCmpI, dLt, dLe, dGt, dGe, dEq, dNe, dIsN, dIsNot, dIsB, dSl, dPart, dNoPart, dAbs, dInts2, dMax2, dMin2, dGcd, dInt, dIs1, dIs2, atI_0, atI_1, atI_2, atI_3, List.map, List.length, List.cons_append, List.nil_append, List.replicate, List.getElem?_cons_zero, List.getElem?_cons_succ, List.set, if_true, if_false, res_tup, res_lst, res_int, res_bl, res_str, res_non, res_fr, res_row, res_tab, res_ptr, ix_tup, ix_lst, ix_frl, ix_row, ix_tab, ix_fr0, ix_fr1, ix_ptr, len_tup, len_lst, len_frl, len_row, len_tab, len_ptr, sq_tup', sq_lst, sq_frl, sq_row, sq_tab, sq_ptr, lvf_lst, lvf_frl, lvf_ptr, isN_non, isN_tup, isN_int, isN_bl, sl_tup, sl_lst, sl_frl, sl_str, tupOf_lst, tupOf_tup, up_len, keep_lst, keep_frl, keep_tup, keep_row, keep_tab, keep_ptr]
    have e' : a = mx n z p := e
    rw [e']
    exact DropN.of h
  · rintro k r ρ M' nx hnx ⟨rfl, hk, o, o', a, rfl, e, sa⟩
    have hkk := hk k List.mem_cons_self
    have sx := xx_sm L C (supp_lt hkk)
    refine ⟨trivial, ?_⟩
    simp only [dSeq, dAsg, dIf, dIfS, dB, dOp, dUn, dCB, dCons, dNil, dTup, dLst, dVar, dC, dgName, dgTup, dgLst, dgCons, dgNil, dRet, dRetN, dDrop, dPar, dPar3, dNext, dAnd, dOr, dNot, dAndV, dOrV, dNotV, dChain, dCall, dCallR, dFor, diSeq, diRng1, diZip, diEnum, dLc, dYes, dElt, fnEnds, startR, wipeR, dAdd, dSub, dMul, dFdiv, dMod, dPow, dInt2, dNeg, dCmpI, dLt, dLe, dGt, dGe, dEq, dNe, dIsN, dIsNot, dIsB, dSl, dPart, dNoPart, dAbs, dInts2, dMax2, dMin2, dGcd, dInt, dIs1, dIs2, atI_0, atI_1, atI_2, atI_3, List.map, List.length, List.cons_append, List.nil_append, List.replicate, List.getElem?_cons_zero, List.getElem?_cons_succ, List.set, if_true, if_false, res_tup, res_lst, res_int, res_bl, res_str, res_non, res_fr, res_row, res_tab, res_ptr, ix_tup, ix_lst, ix_frl, ix_row, ix_tab, ix_fr0, ix_fr1, ix_ptr, len_tup, len_lst, len_frl, len_row, len_tab, len_ptr, sq_tup', sq_lst, sq_frl, sq_row, sq_tab, sq_ptr, lvf_lst, lvf_frl, lvf_ptr, isN_non, isN_tup, isN_int, isN_bl, sl_tup, sl_lst, sl_frl, sl_str, tupOf_lst, tupOf_tup, up_len, keep_lst, keep_frl, keep_tup, keep_row, keep_tab, keep_ptr]
    refine ⟨a, _, rfl, ⟨100, 89, sa, sx, by decide⟩, ?_⟩
    by_cases hl : a < xx n z p k
    · refine yes (decide_eq_true hl) (hnx _ _ ⟨rfl, fun j hj => hk j (List.mem_cons_of_mem _ hj), _, _, _, rfl, ?_, sx.mono (by decide)⟩)
      rw [List.map_cons] at e
      unfold mxA at e
      rw [if_pos hl] at e
      exact e
    · refine no (by simpa using hl) (hnx _ _ ⟨rfl, fun j hj => hk j (List.mem_cons_of_mem _ hj), _, _, _, rfl, ?_, sa⟩)
      rw [List.map_cons] at e
      unfold mxA at e
      rw [if_neg hl] at e
      exact e
  · exact ⟨rfl, fun _ z => z, none, none, 0, rfl, rfl, Sm.zero 99⟩
/-- an order as data -/
def qD : Option Nat → D
  | none => .str "all"
  | some k => .int (k : Nat)
def dvD (a : Nat × Rat) : D := .tup [.int (a.1 : Nat), fr a.2]
def s_diversity_of : DSp := fun ds M Φ _ => ∃ n z p o, ds = [tabD n n z, rowD n p, qD o] ∧ Lk n z ∧ Cm n p ∧ Kn n p o ∧ Φ (dvD (dv n z p o)) M
theorem fl_str {n : Nat} {x : Str} (h : PyData.strOk x = true) : D.fl n (.str x) = true := by
  cases n <;> (unfold D.fl; exact h)
theorem fl_all {n : Nat} : D.fl n (.str "all") = true := fl_str (by decide +kernel)
theorem one_frac' : D.tup [.int 1, .int 1] = fr (1 : Rat) := rfl
theorem eqv_si {x : Str} {i : Int} : D.eqv (.str x) (.int i) = false := rfl
theorem eqv_is {x : Str} {i : Int} : D.eqv (.int i) (.str x) = false := rfl
theorem eqv_ii {i j : Int} : D.eqv (.int i) (.int j) = decide (i = j) := by
  show (i == j) = _
  rw [Bool.eq_iff_iff]
  simp
theorem r_diversity_of : ∀ ds M Φ Ψ, s_diversity_of ds M Φ Ψ → ds.length = 3 ∧ T_diversity_of s_over s_greatest_presence s_total s_shares_of s_first_order s_power_sum_of (fnEnds M.length Φ Ψ) (startR N_diversity_of ds) M := by
  rintro ds M Φ Ψ ⟨n, z, p, o, rfl, L, C, K, h⟩
  refine ⟨rfl, ?_⟩
  have n8 := L.n8
  have sl := supp_len (n := n) (p := p)
  match o, K, h with
  | none, K, h =>
    simp only [one_frac, dSeq, dAsg, dIf, dIfS, dB, dOp, dUn, dCB, dCons, dNil, dTup, dLst, dVar, dC, dgName, dgTup, dgLst, dgCons, dgNil, dRet, dRetN, dDrop, dPar, dPar3, dNext, dAnd, dOr, dNot, dAndV, dOrV, dNotV, dChain, dCall, dCallR, dFor, diSeq, diRng1, diZip, diEnum, dLc, dYes, dElt, fnEnds, startR, wipeR, dAdd, dSub, dMul, dFdiv, dMod, dPow, dInt2, dNeg, dCmpI, dLt, dLe, dGt, dGe, dEq, dNe, dIsN, dIsNot, dIsB, dSl, dPart, dNoPart, dAbs, dInts2, dMax2, dMin2, dGcd, dInt, dIs1, dIs2, atI_0, atI_1, atI_2, atI_3, List.map, List.length, List.cons_append, List.nil_append, List.replicate, List.getElem?_cons_zero, List.getElem?_cons_succ, List.set, if_true, if_false, res_tup, res_lst, res_int, res_bl, res_str, res_non, res_fr, res_row, res_tab, res_ptr, ix_tup, ix_lst, ix_frl, ix_row, ix_tab, ix_fr0, ix_fr1, ix_ptr, len_tup, len_lst, len_frl, len_row, len_tab, len_ptr, sq_tup', sq_lst, sq_frl, sq_row, sq_tab, sq_ptr, lvf_lst, lvf_frl, lvf_ptr, isN_non, isN_tup, isN_int, isN_bl, sl_tup, sl_lst, sl_frl, sl_str, tupOf_lst, tupOf_tup, up_len, keep_lst, keep_frl, keep_tup, keep_row, keep_tab, keep_ptr, T_diversity_of, N_diversity_of, qD]
    refine ⟨fl_all, fl_all, yes (by decide) ⟨n, z, p, rfl, L, C, 1, _, rfl, ?_, ?_, by decide, DropN.of h⟩⟩
    · obtain ⟨k, hk, e⟩ := mx_in L C
      rw [e]
      exact Two.of Sm.one (xx_sm L C (supp_lt hk)) (by decide)
    · have := mx_pos L C
      grind
  | some 0, K, h =>
    simp only [one_frac, dSeq, dAsg, dIf, dIfS, dB, dOp, dUn, dCB, dCons, dNil, dTup, dLst, dVar, dC, dgName, dgTup, dgLst, dgCons, dgNil, dRet, dRetN, dDrop, dPar, dPar3, dNext, dAnd, dOr, dNot, dAndV, dOrV, dNotV, dChain, dCall, dCallR, dFor, diSeq, diRng1, diZip, diEnum, dLc, dYes, dElt, fnEnds, startR, wipeR, dAdd, dSub, dMul, dFdiv, dMod, dPow, dInt2, dNeg, dCmpI, dLt, dLe, dGt, dGe, dEq, dNe, dIsN, dIsNot, dIsB, dSl, dPart, dNoPart, dAbs, dInts2, dMax2, dMin2, dGcd, dInt, dIs1, dIs2, atI_0, atI_1, atI_2, atI_3, List.map, List.length, List.cons_append, List.nil_append, List.replicate, List.getElem?_cons_zero, List.getElem?_cons_succ, List.set, if_true, if_false, res_tup, res_lst, res_int, res_bl, res_str, res_non, res_fr, res_row, res_tab, res_ptr, ix_tup, ix_lst, ix_frl, ix_row, ix_tab, ix_fr0, ix_fr1, ix_ptr, len_tup, len_lst, len_frl, len_row, len_tab, len_ptr, sq_tup', sq_lst, sq_frl, sq_row, sq_tab, sq_ptr, lvf_lst, lvf_frl, lvf_ptr, isN_non, isN_tup, isN_int, isN_bl, sl_tup, sl_lst, sl_frl, sl_str, tupOf_lst, tupOf_tup, up_len, keep_lst, keep_frl, keep_tup, keep_row, keep_tab, keep_ptr, T_diversity_of, N_diversity_of, qD]
    refine ⟨fl_int, fl_all, no (by rw [eqv_is]; decide) ⟨fl_int, fl_int, yes (by rw [eqv_ii]; decide) ⟨n, z, p, rfl, L, C, ?_⟩⟩⟩
    simp only [shD, dSeq, dAsg, dIf, dIfS, dB, dOp, dUn, dCB, dCons, dNil, dTup, dLst, dVar, dC, dgName, dgTup, dgLst, dgCons, dgNil, dRet, dRetN, dDrop, dPar, dPar3, dNext, dAnd, dOr, dNot, dAndV, dOrV, dNotV, dChain, dCall, dCallR, dFor, diSeq, diRng1, diZip, diEnum, dLc, dYes, dElt, fnEnds, startR, wipeR, dAdd, dSub, dMul, dFdiv, dMod, dPow, dInt2, dNeg, dCmpI, dLt, dLe, dGt, dGe, dEq, dNe, dIsN, dIsNot, dIsB, dSl, dPart, dNoPart, dAbs, dInts2, dMax2, dMin2, dGcd, dInt, dIs1, dIs2, atI_0, atI_1, atI_2, atI_3, List.map, List.length, List.cons_append, List.nil_append, List.replicate, List.getElem?_cons_zero, List.getElem?_cons_succ, List.set, if_true, if_false, res_tup, res_lst, res_int, res_bl, res_str, res_non, res_fr, res_row, res_tab, res_ptr, ix_tup, ix_lst, ix_frl, ix_row, ix_tab, ix_fr0, ix_fr1, ix_ptr, len_tup, len_lst, len_frl, len_row, len_tab, len_ptr, sq_tup', sq_lst, sq_frl, sq_row, sq_tab, sq_ptr, lvf_lst, lvf_frl, lvf_ptr, isN_non, isN_tup, isN_int, isN_bl, sl_tup, sl_lst, sl_frl, sl_str, tupOf_lst, tupOf_tup, up_len, keep_lst, keep_frl, keep_tup, keep_row, keep_tab, keep_ptr]
    refine go_map (e := fun k : Nat => D.tup [fr (p k), fr (xx n z p k)]) (f := fun k => fr (p k / xx n z p k)) (supp n p) (fun k hk acc kk hkk hl => ?_) trivial (small (by omega)) ?_
    · simp only [dSeq, dAsg, dIf, dIfS, dB, dOp, dUn, dCB, dCons, dNil, dTup, dLst, dVar, dC, dgName, dgTup, dgLst, dgCons, dgNil, dRet, dRetN, dDrop, dPar, dPar3, dNext, dAnd, dOr, dNot, dAndV, dOrV, dNotV, dChain, dCall, dCallR, dFor, diSeq, diRng1, diZip, diEnum, dLc, dYes, dElt, fnEnds, startR, wipeR, dAdd, dSub, dMul, dFdiv, dMod, dPow, dInt2, dNeg, dCmpI, dLt, dLe, dGt, dGe, dEq, dNe, dIsN, dIsNot, dIsB, dSl, dPart, dNoPart, dAbs, dInts2, dMax2, dMin2, dGcd, dInt, dIs1, dIs2, atI_0, atI_1, atI_2, atI_3, List.map, List.length, List.cons_append, List.nil_append, List.replicate, List.getElem?_cons_zero, List.getElem?_cons_succ, List.set, if_true, if_false, res_tup, res_lst, res_int, res_bl, res_str, res_non, res_fr, res_row, res_tab, res_ptr, ix_tup, ix_lst, ix_frl, ix_row, ix_tab, ix_fr0, ix_fr1, ix_ptr, len_tup, len_lst, len_frl, len_row, len_tab, len_ptr, sq_tup', sq_lst, sq_frl, sq_row, sq_tab, sq_ptr, lvf_lst, lvf_frl, lvf_ptr, isN_non, isN_tup, isN_int, isN_bl, sl_tup, sl_lst, sl_frl, sl_str, tupOf_lst, tupOf_tup, up_len, keep_lst, keep_frl, keep_tup, keep_row, keep_tab, keep_ptr]
      exact ⟨p k, _, rfl, Two.of (C.sm k (supp_lt hk)) (xx_sm L C (supp_lt hk)) (by decide), by have := (xx_pm L C).xp k hk; grind, hl, hkk⟩
    · refine ⟨(supp n p).map fun k => p k / xx n z p k, .inl (by rw [List.map_map]; rfl), ⟨96, fun x hx => ?_, by rw [List.length_map]; omega⟩, by decide, DropN.of h⟩
      obtain ⟨k, hk, rfl⟩ := List.mem_map.mp hx
      exact (C.sm k (supp_lt hk)).div (xx_sm L C (supp_lt hk))
  | some 1, K, h =>
    simp only [one_frac, dSeq, dAsg, dIf, dIfS, dB, dOp, dUn, dCB, dCons, dNil, dTup, dLst, dVar, dC, dgName, dgTup, dgLst, dgCons, dgNil, dRet, dRetN, dDrop, dPar, dPar3, dNext, dAnd, dOr, dNot, dAndV, dOrV, dNotV, dChain, dCall, dCallR, dFor, diSeq, diRng1, diZip, diEnum, dLc, dYes, dElt, fnEnds, startR, wipeR, dAdd, dSub, dMul, dFdiv, dMod, dPow, dInt2, dNeg, dCmpI, dLt, dLe, dGt, dGe, dEq, dNe, dIsN, dIsNot, dIsB, dSl, dPart, dNoPart, dAbs, dInts2, dMax2, dMin2, dGcd, dInt, dIs1, dIs2, atI_0, atI_1, atI_2, atI_3, List.map, List.length, List.cons_append, List.nil_append, List.replicate, List.getElem?_cons_zero, List.getElem?_cons_succ, List.set, if_true, if_false, res_tup, res_lst, res_int, res_bl, res_str, res_non, res_fr, res_row, res_tab, res_ptr, ix_tup, ix_lst, ix_frl, ix_row, ix_tab, ix_fr0, ix_fr1, ix_ptr, len_tup, len_lst, len_frl, len_row, len_tab, len_ptr, sq_tup', sq_lst, sq_frl, sq_row, sq_tab, sq_ptr, lvf_lst, lvf_frl, lvf_ptr, isN_non, isN_tup, isN_int, isN_bl, sl_tup, sl_lst, sl_frl, sl_str, tupOf_lst, tupOf_tup, up_len, keep_lst, keep_frl, keep_tup, keep_row, keep_tab, keep_ptr, T_diversity_of, N_diversity_of, qD]
    exact ⟨fl_int, fl_all, no (by rw [eqv_is]; decide) ⟨fl_int, fl_int, no (by rw [eqv_ii]; decide) ⟨fl_int, fl_int, yes (by rw [eqv_ii]; decide) ⟨n, z, p, rfl, L, C, K.few rfl, DropN.of h⟩⟩⟩⟩
  | some (q + 2), K, h =>
    have hq := K.le _ rfl
    simp only [one_frac, dSeq, dAsg, dIf, dIfS, dB, dOp, dUn, dCB, dCons, dNil, dTup, dLst, dVar, dC, dgName, dgTup, dgLst, dgCons, dgNil, dRet, dRetN, dDrop, dPar, dPar3, dNext, dAnd, dOr, dNot, dAndV, dOrV, dNotV, dChain, dCall, dCallR, dFor, diSeq, diRng1, diZip, diEnum, dLc, dYes, dElt, fnEnds, startR, wipeR, dAdd, dSub, dMul, dFdiv, dMod, dPow, dInt2, dNeg, dCmpI, dLt, dLe, dGt, dGe, dEq, dNe, dIsN, dIsNot, dIsB, dSl, dPart, dNoPart, dAbs, dInts2, dMax2, dMin2, dGcd, dInt, dIs1, dIs2, atI_0, atI_1, atI_2, atI_3, List.map, List.length, List.cons_append, List.nil_append, List.replicate, List.getElem?_cons_zero, List.getElem?_cons_succ, List.set, if_true, if_false, res_tup, res_lst, res_int, res_bl, res_str, res_non, res_fr, res_row, res_tab, res_ptr, ix_tup, ix_lst, ix_frl, ix_row, ix_tab, ix_fr0, ix_fr1, ix_ptr, len_tup, len_lst, len_frl, len_row, len_tab, len_ptr, sq_tup', sq_lst, sq_frl, sq_row, sq_tab, sq_ptr, lvf_lst, lvf_frl, lvf_ptr, isN_non, isN_tup, isN_int, isN_bl, sl_tup, sl_lst, sl_frl, sl_str, tupOf_lst, tupOf_tup, up_len, keep_lst, keep_frl, keep_tup, keep_row, keep_tab, keep_ptr, T_diversity_of, N_diversity_of, qD]
    refine ⟨fl_int, fl_all, no (by rw [eqv_is]; decide) ⟨fl_int, fl_int, no (by rw [eqv_ii]; simp; omega) ⟨fl_int, fl_int, no (by rw [eqv_ii]; simp; omega) ?_⟩⟩⟩
    refine ⟨n, z, p, q + 1, rfl, L, C, by omega, 1, _, rfl, Two.of Sm.one (mo_sm L C (by omega)) (by decide), ?_, by decide, DropN.of ?_⟩
    · have := mo_pos (xx_pm L C) (q + 1)
      grind
    · have e : (((q + 2 : Nat) : Int) - 1) = ((q + 1 : Nat) : Int) := by omega
      rw [e]
      exact h
/-- a pair whose powers are few -/
structure Pw (a : Nat × Rat) : Prop where
  k : a.1 ≤ 40
  sm : Sm 7905 a.2
def s_sign_of : DSp := fun ds M Φ _ => ∃ a b, ds = [dvD a, dvD b] ∧ Pw a ∧ Pw b ∧ Φ (.int (sn a b)) M
theorem r_sign_of : ∀ ds M Φ Ψ, s_sign_of ds M Φ Ψ → ds.length = 2 ∧ T_sign_of s_raised s_is_less (fnEnds M.length Φ Ψ) (startR N_sign_of ds) M := by
  rintro ds M Φ Ψ ⟨a, b, rfl, ha, hb, h⟩
  refine ⟨rfl, ?_⟩
  simp only [dSeq, dAsg, dIf, dIfS, dB, dOp, dUn, dCB, dCons, dNil, dTup, dLst, dVar, dC, dgName, dgTup, dgLst, dgCons, dgNil, dRet, dRetN, dDrop, dPar, dPar3, dNext, dAnd, dOr, dNot, dAndV, dOrV, dNotV, dChain, dCall, dCallR, dFor, diSeq, diRng1, diZip, diEnum, dLc, dYes, dElt, fnEnds, startR, wipeR, dAdd, dSub, dMul, dFdiv, dMod, dPow, dInt2, dNeg, dCmpI, dLt, dLe, dGt, dGe, dEq, dNe, dIsN, dIsNot, dIsB, dSl, dPart, dNoPart, dAbs, dInts2, dMax2, dMin2, dGcd, dInt, dIs1, dIs2, atI_0, atI_1, atI_2, atI_3, List.map, List.length, List.cons_append, List.nil_append, List.replicate, List.getElem?_cons_zero, List.getElem?_cons_succ, List.set, if_true, if_false, res_tup, res_lst, res_int, res_bl, res_str, res_non, res_fr, res_row, res_tab, res_ptr, ix_tup, ix_lst, ix_frl, ix_row, ix_tab, ix_fr0, ix_fr1, ix_ptr, len_tup, len_lst, len_frl, len_row, len_tab, len_ptr, sq_tup', sq_lst, sq_frl, sq_row, sq_tab, sq_ptr, lvf_lst, lvf_frl, lvf_ptr, isN_non, isN_tup, isN_int, isN_bl, sl_tup, sl_lst, sl_frl, sl_str, tupOf_lst, tupOf_tup, up_len, keep_lst, keep_frl, keep_tup, keep_row, keep_tab, keep_ptr, T_sign_of, N_sign_of, dvD]
  have m1 := ha.k
  have m2 := hb.k
  refine ⟨a.2, _, rfl, .inl (Int.natCast_nonneg _), ⟨7905, ha.sm, by decide, by rw [Int.natAbs_natCast]; omega⟩, by rw [Int.natAbs_natCast]; omega, ?_⟩
  refine ⟨b.2, _, rfl, .inl (Int.natCast_nonneg _), ⟨7905, hb.sm, by decide, by rw [Int.natAbs_natCast]; omega⟩, by rw [Int.natAbs_natCast]; omega, ?_⟩
  simp only [rz_nat, dSeq, dAsg, dIf, dIfS, dB, dOp, dUn, dCB, dCons, dNil, dTup, dLst, dVar, dC, dgName, dgTup, dgLst, dgCons, dgNil, dRet, dRetN, dDrop, dPar, dPar3, dNext, dAnd, dOr, dNot, dAndV, dOrV, dNotV, dChain, dCall, dCallR, dFor, diSeq, diRng1, diZip, diEnum, dLc, dYes, dElt, fnEnds, startR, wipeR, dAdd, dSub, dMul, dFdiv, dMod, dPow, dInt2, dNeg, dCmpI, dLt, dLe, dGt, dGe, dEq, dNe, dIsN, dIsNot, dIsB, dSl, dPart, dNoPart, dAbs, dInts2, dMax2, dMin2, dGcd, dInt, dIs1, dIs2, atI_0, atI_1, atI_2, atI_3, List.map, List.length, List.cons_append, List.nil_append, List.replicate, List.getElem?_cons_zero, List.getElem?_cons_succ, List.set, if_true, if_false, res_tup, res_lst, res_int, res_bl, res_str, res_non, res_fr, res_row, res_tab, res_ptr, ix_tup, ix_lst, ix_frl, ix_row, ix_tab, ix_fr0, ix_fr1, ix_ptr, len_tup, len_lst, len_frl, len_row, len_tab, len_ptr, sq_tup', sq_lst, sq_frl, sq_row, sq_tab, sq_ptr, lvf_lst, lvf_frl, lvf_ptr, isN_non, isN_tup, isN_int, isN_bl, sl_tup, sl_lst, sl_frl, sl_str, tupOf_lst, tupOf_tup, up_len, keep_lst, keep_frl, keep_tup, keep_row, keep_tab, keep_ptr]
  refine ⟨fl_fr, fl_fr, ?_⟩
  unfold sn at h
  by_cases e : a.2 ^ b.1 = b.2 ^ a.1
  · rw [if_pos e] at h
    exact yes (by rw [eqv_fr]; exact decide_eq_true e) (DropN.of h)
  · rw [if_neg e] at h
    refine no (by rw [eqv_fr]; simpa using e) ⟨_, _, rfl, ⟨_, _, hb.sm.pow _, ha.sm.pow _, by omega⟩, ?_⟩
    by_cases hl : b.2 ^ a.1 < a.2 ^ b.1
    · rw [if_pos hl] at h
      exact yes (decide_eq_true hl) (DropN.of h)
    · rw [if_neg hl] at h
      exact no (by simpa using hl) (DropN.of h)
end K85

set_option Elab.async false
set_option linter.all false
set_option autoImplicit false
set_option maxRecDepth 100000
set_option maxHeartbeats 4000000
/-! # The program's own answers, and its errors -/
namespace K85
open PySem PySem.Spec L2 DL
open PyProof.Rows hiding St
/-- what is no order -/
inductive Bad : D → Prop
  | int {k : Int} (h : k < 0 ∨ 12 < k) : Bad (.int k)
  | bl (b : Bool) : Bad (.bl b)
  | non : Bad .non
  | str {x : Str} (h : PyData.strOk x = true) (h2 : (x == ("all" : Str)) = false) : Bad (.str x)
  | tup (ds : List D) : Bad (.tup ds)
  | lst (ds : List D) : Bad (.lst ds)
def exN (c : Addr) (q : D) : Ex := ⟨.ref c, some ("given", q)⟩
def exM (c : Addr) (k : Nat) : Ex := ⟨.ref c, some ("count", .int (k : Nat))⟩
def s_check_order (c : Addr) : DSp := fun ds M Φ Ψ => ∃ q, ds = [q] ∧ ((∃ o, q = qD o ∧ (∀ k, o = some k → k ≤ 12) ∧ Φ .non M) ∨ (Bad q ∧ Ψ (exN c q) M))
theorem r_check_order (c : Addr) : ∀ ds M Φ Ψ, s_check_order c ds M Φ Ψ → ds.length = 1 ∧ T_check_order c s_is_between (fnEnds M.length Φ Ψ) (startR N_check_order ds) M := by
  rintro ds M Φ Ψ ⟨q, rfl, h⟩
  refine ⟨rfl, ?_⟩
  simp only [dSeq, dAsg, dIf, dIfS, dB, dOp, dUn, dCB, dCons, dNil, dTup, dLst, dVar, dC, dgName, dgTup, dgLst, dgCons, dgNil, dRet, dRetN, dDrop, dPar, dPar3, dNext, dAnd, dOr, dNot, dAndV, dOrV, dNotV, dChain, dCall, dCallR, dFor, diSeq, diRng1, diZip, diEnum, dLc, dYes, dElt, fnEnds, startR, wipeR, dAdd, dSub, dMul, dFdiv, dMod, dPow, dInt2, dNeg, dCmpI, dLt, dLe, dGt, dGe, dEq, dNe, dIsN, dIsNot, dIsB, dSl, dPart, dNoPart, dAbs, dInts2, dMax2, dMin2, dGcd, dInt, dIs1, dIs2, atI_0, atI_1, atI_2, atI_3, List.map, List.length, List.cons_append, List.nil_append, List.replicate, List.getElem?_cons_zero, List.getElem?_cons_succ, List.set, if_true, if_false, res_tup, res_lst, res_int, res_bl, res_str, res_non, res_fr, res_row, res_tab, res_ptr, ix_tup, ix_lst, ix_frl, ix_row, ix_tab, ix_fr0, ix_fr1, ix_ptr, len_tup, len_lst, len_frl, len_row, len_tab, len_ptr, sq_tup', sq_lst, sq_frl, sq_row, sq_tab, sq_ptr, lvf_lst, lvf_frl, lvf_ptr, isN_non, isN_tup, isN_int, isN_bl, sl_tup, sl_lst, sl_frl, sl_str, tupOf_lst, tupOf_tup, up_len, keep_lst, keep_frl, keep_tup, keep_row, keep_tab, keep_ptr, T_check_order, N_check_order]
  rcases h with ⟨o, rfl, hk, h⟩ | ⟨hb, h⟩
  · match o, hk with
    | none, _ =>
      refine ⟨_, 0, 12, rfl, .inr ⟨"str", rfl, by decide, ?_⟩⟩
      refine yes (by decide) ?_
      simp only [qD, dSeq, dAsg, dIf, dIfS, dB, dOp, dUn, dCB, dCons, dNil, dTup, dLst, dVar, dC, dgName, dgTup, dgLst, dgCons, dgNil, dRet, dRetN, dDrop, dPar, dPar3, dNext, dAnd, dOr, dNot, dAndV, dOrV, dNotV, dChain, dCall, dCallR, dFor, diSeq, diRng1, diZip, diEnum, dLc, dYes, dElt, fnEnds, startR, wipeR, dAdd, dSub, dMul, dFdiv, dMod, dPow, dInt2, dNeg, dCmpI, dLt, dLe, dGt, dGe, dEq, dNe, dIsN, dIsNot, dIsB, dSl, dPart, dNoPart, dAbs, dInts2, dMax2, dMin2, dGcd, dInt, dIs1, dIs2, atI_0, atI_1, atI_2, atI_3, List.map, List.length, List.cons_append, List.nil_append, List.replicate, List.getElem?_cons_zero, List.getElem?_cons_succ, List.set, if_true, if_false, res_tup, res_lst, res_int, res_bl, res_str, res_non, res_fr, res_row, res_tab, res_ptr, ix_tup, ix_lst, ix_frl, ix_row, ix_tab, ix_fr0, ix_fr1, ix_ptr, len_tup, len_lst, len_frl, len_row, len_tab, len_ptr, sq_tup', sq_lst, sq_frl, sq_row, sq_tab, sq_ptr, lvf_lst, lvf_frl, lvf_ptr, isN_non, isN_tup, isN_int, isN_bl, sl_tup, sl_lst, sl_frl, sl_str, tupOf_lst, tupOf_tup, up_len, keep_lst, keep_frl, keep_tup, keep_row, keep_tab, keep_ptr, D.tyn]
      refine yes (by decide) ⟨fl_all, fl_all, ?_⟩
      exact no (by decide) (DropN.of h)
    | some k, hk =>
      have := hk k rfl
      refine ⟨_, 0, 12, rfl, .inl ⟨_, rfl, ?_⟩⟩
      refine no ?_ (DropN.of h)
      rw [decide_eq_true (show (0 : Int) ≤ (k : Nat) by omega), decide_eq_true (show ((k : Nat) : Int) ≤ 12 by omega)]
      decide
  · have fin : ∀ t, D.tyn M q = some t → isA t "str" = false → (match D.tyn M q with | some t => (if isA t "str" = true then (D.fl 60 (D.res M q) = true ∧ D.fl 60 (.str "all") = true ∧ (if (!(D.eqv (D.res M q) (.str "all"))) = true then dRaise c "given" (dVar 0) (fnEnds M.length Φ Ψ) [some q] M else DropN M.length Φ .non M)) else Ψ (exN c q) M) | none => False) := fun t ht hs => by
      rw [ht]
      exact no (by rw [hs]; decide) h
    cases hb with
    | @int k hk =>
      refine ⟨_, 0, 12, rfl, .inl ⟨_, rfl, ?_⟩⟩
      refine yes ?_ ?_
      · rcases hk with hk | hk
        · rw [decide_eq_false (show ¬ (0 : Int) ≤ k by omega), Bool.false_and]
          decide
        · rw [decide_eq_false (show ¬ k ≤ (12 : Int) by omega), Bool.and_false]
          decide
      · simp only [D.tyn]
        exact no (by decide) (yes (by decide) h)
    | bl b => exact ⟨_, 0, 12, rfl, .inr ⟨"bool", rfl, by decide, yes (by decide) (by simp only [D.tyn]; exact no (by decide) (yes (by decide) h))⟩⟩
    | non => exact ⟨_, 0, 12, rfl, .inr ⟨"NoneType", rfl, by decide, yes (by decide) (by simp only [D.tyn]; exact no (by decide) (yes (by decide) h))⟩⟩
    | tup ds => exact ⟨_, 0, 12, rfl, .inr ⟨"tuple", rfl, by decide, yes (by decide) (by simp only [D.tyn]; exact no (by decide) (yes (by decide) h))⟩⟩
    | lst ds => exact ⟨_, 0, 12, rfl, .inr ⟨"list", rfl, by decide, yes (by decide) (by simp only [D.tyn]; exact no (by decide) (yes (by decide) h))⟩⟩
    | @str x hx hx2 =>
      refine ⟨_, 0, 12, rfl, .inr ⟨"str", rfl, by decide, yes (by decide) ?_⟩⟩
      simp only [D.tyn, dSeq, dAsg, dIf, dIfS, dB, dOp, dUn, dCB, dCons, dNil, dTup, dLst, dVar, dC, dgName, dgTup, dgLst, dgCons, dgNil, dRet, dRetN, dDrop, dPar, dPar3, dNext, dAnd, dOr, dNot, dAndV, dOrV, dNotV, dChain, dCall, dCallR, dFor, diSeq, diRng1, diZip, diEnum, dLc, dYes, dElt, fnEnds, startR, wipeR, dAdd, dSub, dMul, dFdiv, dMod, dPow, dInt2, dNeg, dCmpI, dLt, dLe, dGt, dGe, dEq, dNe, dIsN, dIsNot, dIsB, dSl, dPart, dNoPart, dAbs, dInts2, dMax2, dMin2, dGcd, dInt, dIs1, dIs2, atI_0, atI_1, atI_2, atI_3, List.map, List.length, List.cons_append, List.nil_append, List.replicate, List.getElem?_cons_zero, List.getElem?_cons_succ, List.set, if_true, if_false, res_tup, res_lst, res_int, res_bl, res_str, res_non, res_fr, res_row, res_tab, res_ptr, ix_tup, ix_lst, ix_frl, ix_row, ix_tab, ix_fr0, ix_fr1, ix_ptr, len_tup, len_lst, len_frl, len_row, len_tab, len_ptr, sq_tup', sq_lst, sq_frl, sq_row, sq_tab, sq_ptr, lvf_lst, lvf_frl, lvf_ptr, isN_non, isN_tup, isN_int, isN_bl, sl_tup, sl_lst, sl_frl, sl_str, tupOf_lst, tupOf_tup, up_len, keep_lst, keep_frl, keep_tup, keep_row, keep_tab, keep_ptr]
      refine yes (by decide) ⟨fl_str hx, fl_all, yes ?_ h⟩
      show (!(x == ("all" : Str))) = true
      rw [hx2]
      rfl
def s_check_power (c : Addr) : DSp := fun ds M Φ Ψ => ∃ n p, ds = [rowD n p] ∧ Cm n p ∧ n ≤ 8 ∧ ((Lm n p ≤ 40 ∧ Φ .non M) ∨ (40 < Lm n p ∧ Ψ (exM c (Lm n p)) M))
theorem r_check_power (c : Addr) : ∀ ds M Φ Ψ, s_check_power c ds M Φ Ψ → ds.length = 1 ∧ T_check_power c s_common_multiple (fnEnds M.length Φ Ψ) (startR N_check_power ds) M := by
  rintro ds M Φ Ψ ⟨n, p, rfl, C, n8, h⟩
  refine ⟨rfl, ?_⟩
  simp only [dSeq, dAsg, dIf, dIfS, dB, dOp, dUn, dCB, dCons, dNil, dTup, dLst, dVar, dC, dgName, dgTup, dgLst, dgCons, dgNil, dRet, dRetN, dDrop, dPar, dPar3, dNext, dAnd, dOr, dNot, dAndV, dOrV, dNotV, dChain, dCall, dCallR, dFor, diSeq, diRng1, diZip, diEnum, dLc, dYes, dElt, fnEnds, startR, wipeR, dAdd, dSub, dMul, dFdiv, dMod, dPow, dInt2, dNeg, dCmpI, dLt, dLe, dGt, dGe, dEq, dNe, dIsN, dIsNot, dIsB, dSl, dPart, dNoPart, dAbs, dInts2, dMax2, dMin2, dGcd, dInt, dIs1, dIs2, atI_0, atI_1, atI_2, atI_3, List.map, List.length, List.cons_append, List.nil_append, List.replicate, List.getElem?_cons_zero, List.getElem?_cons_succ, List.set, if_true, if_false, res_tup, res_lst, res_int, res_bl, res_str, res_non, res_fr, res_row, res_tab, res_ptr, ix_tup, ix_lst, ix_frl, ix_row, ix_tab, ix_fr0, ix_fr1, ix_ptr, len_tup, len_lst, len_frl, len_row, len_tab, len_ptr, sq_tup', sq_lst, sq_frl, sq_row, sq_tab, sq_ptr, lvf_lst, lvf_frl, lvf_ptr, isN_non, isN_tup, isN_int, isN_bl, sl_tup, sl_lst, sl_frl, sl_str, tupOf_lst, tupOf_tup, up_len, keep_lst, keep_frl, keep_tup, keep_row, keep_tab, keep_ptr, T_check_power, N_check_power]
  refine ⟨n, p, rfl, C, n8, ?_⟩
  rcases h with ⟨hl, h⟩ | ⟨hl, h⟩
  · exact no (by simp; omega) (DropN.of h)
  · exact yes (by simp; omega) h
def s_is_first : DSp := fun ds M Φ _ => ∃ o, ds = [qD o] ∧ Φ (.bl (decide (o = some 1))) M
theorem r_is_first : ∀ ds M Φ Ψ, s_is_first ds M Φ Ψ → ds.length = 1 ∧ T_is_first (fnEnds M.length Φ Ψ) (startR N_is_first ds) M := by
  rintro ds M Φ Ψ ⟨o, rfl, h⟩
  refine ⟨rfl, ?_⟩
  simp only [dSeq, dAsg, dIf, dIfS, dB, dOp, dUn, dCB, dCons, dNil, dTup, dLst, dVar, dC, dgName, dgTup, dgLst, dgCons, dgNil, dRet, dRetN, dDrop, dPar, dPar3, dNext, dAnd, dOr, dNot, dAndV, dOrV, dNotV, dChain, dCall, dCallR, dFor, diSeq, diRng1, diZip, diEnum, dLc, dYes, dElt, fnEnds, startR, wipeR, dAdd, dSub, dMul, dFdiv, dMod, dPow, dInt2, dNeg, dCmpI, dLt, dLe, dGt, dGe, dEq, dNe, dIsN, dIsNot, dIsB, dSl, dPart, dNoPart, dAbs, dInts2, dMax2, dMin2, dGcd, dInt, dIs1, dIs2, atI_0, atI_1, atI_2, atI_3, List.map, List.length, List.cons_append, List.nil_append, List.replicate, List.getElem?_cons_zero, List.getElem?_cons_succ, List.set, if_true, if_false, res_tup, res_lst, res_int, res_bl, res_str, res_non, res_fr, res_row, res_tab, res_ptr, ix_tup, ix_lst, ix_frl, ix_row, ix_tab, ix_fr0, ix_fr1, ix_ptr, len_tup, len_lst, len_frl, len_row, len_tab, len_ptr, sq_tup', sq_lst, sq_frl, sq_row, sq_tab, sq_ptr, lvf_lst, lvf_frl, lvf_ptr, isN_non, isN_tup, isN_int, isN_bl, sl_tup, sl_lst, sl_frl, sl_str, tupOf_lst, tupOf_tup, up_len, keep_lst, keep_frl, keep_tup, keep_row, keep_tab, keep_ptr, T_is_first, N_is_first]
  match o with
  | none =>
    simp only [qD, dSeq, dAsg, dIf, dIfS, dB, dOp, dUn, dCB, dCons, dNil, dTup, dLst, dVar, dC, dgName, dgTup, dgLst, dgCons, dgNil, dRet, dRetN, dDrop, dPar, dPar3, dNext, dAnd, dOr, dNot, dAndV, dOrV, dNotV, dChain, dCall, dCallR, dFor, diSeq, diRng1, diZip, diEnum, dLc, dYes, dElt, fnEnds, startR, wipeR, dAdd, dSub, dMul, dFdiv, dMod, dPow, dInt2, dNeg, dCmpI, dLt, dLe, dGt, dGe, dEq, dNe, dIsN, dIsNot, dIsB, dSl, dPart, dNoPart, dAbs, dInts2, dMax2, dMin2, dGcd, dInt, dIs1, dIs2, atI_0, atI_1, atI_2, atI_3, List.map, List.length, List.cons_append, List.nil_append, List.replicate, List.getElem?_cons_zero, List.getElem?_cons_succ, List.set, if_true, if_false, res_tup, res_lst, res_int, res_bl, res_str, res_non, res_fr, res_row, res_tab, res_ptr, ix_tup, ix_lst, ix_frl, ix_row, ix_tab, ix_fr0, ix_fr1, ix_ptr, len_tup, len_lst, len_frl, len_row, len_tab, len_ptr, sq_tup', sq_lst, sq_frl, sq_row, sq_tab, sq_ptr, lvf_lst, lvf_frl, lvf_ptr, isN_non, isN_tup, isN_int, isN_bl, sl_tup, sl_lst, sl_frl, sl_str, tupOf_lst, tupOf_tup, up_len, keep_lst, keep_frl, keep_tup, keep_row, keep_tab, keep_ptr]
    exact ⟨fl_all, fl_all, no (by decide) (DropN.of h)⟩
  | some k =>
    simp only [qD, dSeq, dAsg, dIf, dIfS, dB, dOp, dUn, dCB, dCons, dNil, dTup, dLst, dVar, dC, dgName, dgTup, dgLst, dgCons, dgNil, dRet, dRetN, dDrop, dPar, dPar3, dNext, dAnd, dOr, dNot, dAndV, dOrV, dNotV, dChain, dCall, dCallR, dFor, diSeq, diRng1, diZip, diEnum, dLc, dYes, dElt, fnEnds, startR, wipeR, dAdd, dSub, dMul, dFdiv, dMod, dPow, dInt2, dNeg, dCmpI, dLt, dLe, dGt, dGe, dEq, dNe, dIsN, dIsNot, dIsB, dSl, dPart, dNoPart, dAbs, dInts2, dMax2, dMin2, dGcd, dInt, dIs1, dIs2, atI_0, atI_1, atI_2, atI_3, List.map, List.length, List.cons_append, List.nil_append, List.replicate, List.getElem?_cons_zero, List.getElem?_cons_succ, List.set, if_true, if_false, res_tup, res_lst, res_int, res_bl, res_str, res_non, res_fr, res_row, res_tab, res_ptr, ix_tup, ix_lst, ix_frl, ix_row, ix_tab, ix_fr0, ix_fr1, ix_ptr, len_tup, len_lst, len_frl, len_row, len_tab, len_ptr, sq_tup', sq_lst, sq_frl, sq_row, sq_tab, sq_ptr, lvf_lst, lvf_frl, lvf_ptr, isN_non, isN_tup, isN_int, isN_bl, sl_tup, sl_lst, sl_frl, sl_str, tupOf_lst, tupOf_tup, up_len, keep_lst, keep_frl, keep_tup, keep_row, keep_tab, keep_ptr]
    refine ⟨fl_int, fl_all, yes (by rw [eqv_is]; decide) ⟨fl_int, fl_int, DropN.of ?_⟩⟩
    rw [eqv_ii]
    have e : decide (((k : Nat) : Int) = 1) = decide (some k = some 1) := by
      rw [decide_eq_decide]
      constructor
      · intro z; congr 1; omega
      · intro z; cases z; rfl
    rw [e]
    exact h
def s_power_sum (c : Addr) : DSp := fun ds M Φ Ψ => ∃ n z p q, ds = [tabD n n z, rowD n p, q] ∧ Lk n z ∧ Cm n p ∧ ((∃ t : Nat, 1 ≤ t ∧ t ≤ 11 ∧ q = .int ((t + 1 : Nat) : Int) ∧ Φ (fr (mo (supp n p) p (xx n z p) t)) M) ∨ ((Bad q ∨ q = .int 0 ∨ q = .int 1 ∨ q = .str "all") ∧ Ψ (exN c q) M))
theorem r_power_sum (c : Addr) : ∀ ds M Φ Ψ, s_power_sum c ds M Φ Ψ → ds.length = 3 ∧ T_power_sum c s_check_both s_is_between s_power_sum_of (fnEnds M.length Φ Ψ) (startR N_power_sum ds) M := by
  rintro ds M Φ Ψ ⟨n, z, p, q, rfl, L, C, h⟩
  refine ⟨rfl, ?_⟩
  simp only [dSeq, dAsg, dIf, dIfS, dB, dOp, dUn, dCB, dCons, dNil, dTup, dLst, dVar, dC, dgName, dgTup, dgLst, dgCons, dgNil, dRet, dRetN, dDrop, dPar, dPar3, dNext, dAnd, dOr, dNot, dAndV, dOrV, dNotV, dChain, dCall, dCallR, dFor, diSeq, diRng1, diZip, diEnum, dLc, dYes, dElt, fnEnds, startR, wipeR, dAdd, dSub, dMul, dFdiv, dMod, dPow, dInt2, dNeg, dCmpI, dLt, dLe, dGt, dGe, dEq, dNe, dIsN, dIsNot, dIsB, dSl, dPart, dNoPart, dAbs, dInts2, dMax2, dMin2, dGcd, dInt, dIs1, dIs2, atI_0, atI_1, atI_2, atI_3, List.map, List.length, List.cons_append, List.nil_append, List.replicate, List.getElem?_cons_zero, List.getElem?_cons_succ, List.set, if_true, if_false, res_tup, res_lst, res_int, res_bl, res_str, res_non, res_fr, res_row, res_tab, res_ptr, ix_tup, ix_lst, ix_frl, ix_row, ix_tab, ix_fr0, ix_fr1, ix_ptr, len_tup, len_lst, len_frl, len_row, len_tab, len_ptr, sq_tup', sq_lst, sq_frl, sq_row, sq_tab, sq_ptr, lvf_lst, lvf_frl, lvf_ptr, isN_non, isN_tup, isN_int, isN_bl, sl_tup, sl_lst, sl_frl, sl_str, tupOf_lst, tupOf_tup, up_len, keep_lst, keep_frl, keep_tup, keep_row, keep_tab, keep_ptr, T_power_sum, N_power_sum]
  refine ⟨n, z, p, rfl, L, C, ?_⟩
  rcases h with ⟨t, t1, t11, rfl, h⟩ | ⟨hb, h⟩
  · refine ⟨_, 2, 12, rfl, .inl ⟨_, rfl, ?_⟩⟩
    rw [decide_eq_true (show (2 : Int) ≤ ((t + 1 : Nat) : Int) by omega), decide_eq_true (show ((t + 1 : Nat) : Int) ≤ 12 by omega)]
    exact no (by decide) ⟨n, z, p, t, rfl, L, C, t11, DropN.of h⟩
  · rcases hb with hb | rfl | rfl | rfl
    · cases hb with
      | @int k hk =>
        refine ⟨_, 2, 12, rfl, .inl ⟨_, rfl, yes ?_ h⟩⟩
        rcases hk with hk | hk
        · rw [decide_eq_false (show ¬ (2 : Int) ≤ k by omega), Bool.false_and]
          decide
        · rw [decide_eq_false (show ¬ k ≤ (12 : Int) by omega), Bool.and_false]
          decide
      | bl b => exact ⟨_, 2, 12, rfl, .inr ⟨"bool", rfl, by decide, yes (by decide) h⟩⟩
      | non => exact ⟨_, 2, 12, rfl, .inr ⟨"NoneType", rfl, by decide, yes (by decide) h⟩⟩
      | tup ds => exact ⟨_, 2, 12, rfl, .inr ⟨"tuple", rfl, by decide, yes (by decide) h⟩⟩
      | lst ds => exact ⟨_, 2, 12, rfl, .inr ⟨"list", rfl, by decide, yes (by decide) h⟩⟩
      | @str x hx hx2 => exact ⟨_, 2, 12, rfl, .inr ⟨"str", rfl, by decide, yes (by decide) h⟩⟩
    · exact ⟨_, 2, 12, rfl, .inl ⟨_, rfl, yes (by decide) h⟩⟩
    · exact ⟨_, 2, 12, rfl, .inl ⟨_, rfl, yes (by decide) h⟩⟩
    · exact ⟨_, 2, 12, rfl, .inr ⟨"str", rfl, by decide, yes (by decide) h⟩⟩
def s_diversity (c cM : Addr) : DSp := fun ds M Φ Ψ => ∃ n z p q, ds = [tabD n n z, rowD n p, q] ∧ Lk n z ∧ Cm n p ∧ ((∃ o, q = qD o ∧ Kn n p o ∧ Φ (dvD (dv n z p o)) M) ∨ (q = .int 1 ∧ 40 < Lm n p ∧ Ψ (exM cM (Lm n p)) M) ∨ (Bad q ∧ Ψ (exN c q) M))
theorem r_diversity (c cM : Addr) : ∀ ds M Φ Ψ, s_diversity c cM ds M Φ Ψ → ds.length = 3 ∧ T_diversity s_check_both (s_check_order c) s_is_first (s_check_power cM) s_diversity_of (fnEnds M.length Φ Ψ) (startR N_diversity ds) M := by
  rintro ds M Φ Ψ ⟨n, z, p, q, rfl, L, C, h⟩
  refine ⟨rfl, ?_⟩
  simp only [dSeq, dAsg, dIf, dIfS, dB, dOp, dUn, dCB, dCons, dNil, dTup, dLst, dVar, dC, dgName, dgTup, dgLst, dgCons, dgNil, dRet, dRetN, dDrop, dPar, dPar3, dNext, dAnd, dOr, dNot, dAndV, dOrV, dNotV, dChain, dCall, dCallR, dFor, diSeq, diRng1, diZip, diEnum, dLc, dYes, dElt, fnEnds, startR, wipeR, dAdd, dSub, dMul, dFdiv, dMod, dPow, dInt2, dNeg, dCmpI, dLt, dLe, dGt, dGe, dEq, dNe, dIsN, dIsNot, dIsB, dSl, dPart, dNoPart, dAbs, dInts2, dMax2, dMin2, dGcd, dInt, dIs1, dIs2, atI_0, atI_1, atI_2, atI_3, List.map, List.length, List.cons_append, List.nil_append, List.replicate, List.getElem?_cons_zero, List.getElem?_cons_succ, List.set, if_true, if_false, res_tup, res_lst, res_int, res_bl, res_str, res_non, res_fr, res_row, res_tab, res_ptr, ix_tup, ix_lst, ix_frl, ix_row, ix_tab, ix_fr0, ix_fr1, ix_ptr, len_tup, len_lst, len_frl, len_row, len_tab, len_ptr, sq_tup', sq_lst, sq_frl, sq_row, sq_tab, sq_ptr, lvf_lst, lvf_frl, lvf_ptr, isN_non, isN_tup, isN_int, isN_bl, sl_tup, sl_lst, sl_frl, sl_str, tupOf_lst, tupOf_tup, up_len, keep_lst, keep_frl, keep_tup, keep_row, keep_tab, keep_ptr, T_diversity, N_diversity]
  refine ⟨n, z, p, rfl, L, C, ?_⟩
  rcases h with ⟨o, rfl, K, h⟩ | ⟨rfl, few, h⟩ | ⟨hb, h⟩
  · refine ⟨_, rfl, .inl ⟨o, rfl, K.le, ⟨o, rfl, ?_⟩⟩⟩
    by_cases e : o = some 1
    · exact yes (decide_eq_true e) ⟨n, p, rfl, C, L.n8, .inl ⟨K.few e, ⟨n, z, p, o, rfl, L, C, K, DropN.of h⟩⟩⟩
    · exact no (by simpa using e) ⟨n, z, p, o, rfl, L, C, K, DropN.of h⟩
  · refine ⟨_, rfl, .inl ⟨some 1, rfl, fun k hk => by cases hk; decide, ⟨some 1, rfl, ?_⟩⟩⟩
    exact yes (by decide) ⟨n, p, rfl, C, L.n8, .inr ⟨few, h⟩⟩
  · exact ⟨_, rfl, .inr ⟨hb, h⟩⟩
def s_order_sign (c cM : Addr) : DSp := fun ds M Φ Ψ => ∃ n z p p' q, ds = [tabD n n z, rowD n p, rowD n p', q] ∧ Lk n z ∧ Cm n p ∧ Cm n p' ∧ ((∃ o, q = qD o ∧ Kn n p o ∧ Kn n p' o ∧ Φ (.int (sn (dv n z p o) (dv n z p' o))) M) ∨
  (q = .int 1 ∧ 40 < Lm n p ∧ Ψ (exM cM (Lm n p)) M) ∨ (q = .int 1 ∧ Lm n p ≤ 40 ∧ 40 < Lm n p' ∧ Ψ (exM cM (Lm n p')) M) ∨ (Bad q ∧ Ψ (exN c q) M))
theorem Pw.of {n : Nat} {z : Nat → Nat → Rat} {p : Nat → Rat} {o : Option Nat} (L : Lk n z) (C : Cm n p) (K : Kn n p o) : Pw (dv n z p o) := ⟨dv_k K, dv_sm L C K⟩
theorem r_order_sign (c cM cC : Addr) : ∀ ds M Φ Ψ, s_order_sign c cM ds M Φ Ψ → ds.length = 4 ∧ T_order_sign cC s_check_likeness s_check_community s_is_community_of (s_check_order c) s_is_first (s_check_power cM) s_sign_of s_diversity_of (fnEnds M.length Φ Ψ) (startR N_order_sign ds) M := by
  rintro ds M Φ Ψ ⟨n, z, p, p', q, rfl, L, C, C', h⟩
  refine ⟨rfl, ?_⟩
  simp only [dSeq, dAsg, dIf, dIfS, dB, dOp, dUn, dCB, dCons, dNil, dTup, dLst, dVar, dC, dgName, dgTup, dgLst, dgCons, dgNil, dRet, dRetN, dDrop, dPar, dPar3, dNext, dAnd, dOr, dNot, dAndV, dOrV, dNotV, dChain, dCall, dCallR, dFor, diSeq, diRng1, diZip, diEnum, dLc, dYes, dElt, fnEnds, startR, wipeR, dAdd, dSub, dMul, dFdiv, dMod, dPow, dInt2, dNeg, dCmpI, dLt, dLe, dGt, dGe, dEq, dNe, dIsN, dIsNot, dIsB, dSl, dPart, dNoPart, dAbs, dInts2, dMax2, dMin2, dGcd, dInt, dIs1, dIs2, atI_0, atI_1, atI_2, atI_3, List.map, List.length, List.cons_append, List.nil_append, List.replicate, List.getElem?_cons_zero, List.getElem?_cons_succ, List.set, if_true, if_false, res_tup, res_lst, res_int, res_bl, res_str, res_non, res_fr, res_row, res_tab, res_ptr, ix_tup, ix_lst, ix_frl, ix_row, ix_tab, ix_fr0, ix_fr1, ix_ptr, len_tup, len_lst, len_frl, len_row, len_tab, len_ptr, sq_tup', sq_lst, sq_frl, sq_row, sq_tab, sq_ptr, lvf_lst, lvf_frl, lvf_ptr, isN_non, isN_tup, isN_int, isN_bl, sl_tup, sl_lst, sl_frl, sl_str, tupOf_lst, tupOf_tup, up_len, keep_lst, keep_frl, keep_tup, keep_row, keep_tab, keep_ptr, T_order_sign, N_order_sign]
  refine ⟨n, z, rfl, L, n, n, z, p, rfl, C, L.n8, n, p', rfl, C', L.n8, ?_⟩
  refine no (by decide) ?_
  rcases h with ⟨o, rfl, K, K', h⟩ | ⟨rfl, few, h⟩ | ⟨rfl, ok, few, h⟩ | ⟨hb, h⟩
  · have fin : s_diversity_of [tabD n n z, rowD n p, qD o] M (fun d M1 => s_diversity_of [tabD n n z, rowD n p', qD o] M1 (fun d_1 M1 => s_sign_of [d, d_1] M1 (DropN M.length Φ) fun x M1 => Ψ x M1) fun x M1 => Ψ x M1) (fun x M1 => Ψ x M1) :=
      ⟨n, z, p, o, rfl, L, C, K, n, z, p', o, rfl, L, C', K', _, _, rfl, Pw.of L C K, Pw.of L C' K', DropN.of h⟩
    refine ⟨_, rfl, .inl ⟨o, rfl, K.le, ⟨o, rfl, ?_⟩⟩⟩
    by_cases e : o = some 1
    · exact yes (decide_eq_true e) ⟨n, p, rfl, C, L.n8, .inl ⟨K.few e, ⟨n, p', rfl, C', L.n8, .inl ⟨K'.few e, fin⟩⟩⟩⟩
    · exact no (by simpa using e) fin
  · refine ⟨_, rfl, .inl ⟨some 1, rfl, fun k hk => by cases hk; decide, ⟨some 1, rfl, ?_⟩⟩⟩
    exact yes (by decide) ⟨n, p, rfl, C, L.n8, .inr ⟨few, h⟩⟩
  · refine ⟨_, rfl, .inl ⟨some 1, rfl, fun k hk => by cases hk; decide, ⟨some 1, rfl, ?_⟩⟩⟩
    exact yes (by decide) ⟨n, p, rfl, C, L.n8, .inl ⟨ok, n, p', rfl, C', L.n8, .inr ⟨few, h⟩⟩⟩
  · exact ⟨_, rfl, .inr ⟨hb, h⟩⟩
def fallD (n : Nat) (z : Nat → Nat → Rat) (p : Nat → Rat) : D := .tup (up 12 fun k => .int (sn (dv n z p (some k)) (dv n z p (some (k + 1)))))
def s_falls (cM : Addr) : DSp := fun ds M Φ Ψ => ∃ n z p, ds = [tabD n n z, rowD n p] ∧ Lk n z ∧ Cm n p ∧ ((Lm n p ≤ 40 ∧ Φ (fallD n z p) M) ∨ (40 < Lm n p ∧ Ψ (exM cM (Lm n p)) M))
theorem cut_tail {d : D} {ds : List D} : DL.cutD (d :: ds) (some 1) none = ds := by
  unfold DL.cutD
  rw [HT.sIx_none]
  have e : HT.sIx (d :: ds).length 0 (some 1) = 1 := by
    have := HT.sIx_nat (d :: ds).length 0 1
    rw [List.length_cons] at this ⊢
    rw [show ((1 : Nat) : Int) = 1 from rfl] at this
    rw [this]
    omega
  rw [e]
  simp
theorem r_falls (cM : Addr) : ∀ ds M Φ Ψ, s_falls cM ds M Φ Ψ → ds.length = 2 ∧ T_falls s_check_both (s_check_power cM) s_diversity_of s_sign_of (fnEnds M.length Φ Ψ) (startR N_falls ds) M := by
  rintro ds M Φ Ψ ⟨n, z, p, rfl, L, C, h⟩
  refine ⟨rfl, ?_⟩
  simp only [dSeq, dAsg, dIf, dIfS, dB, dOp, dUn, dCB, dCons, dNil, dTup, dLst, dVar, dC, dgName, dgTup, dgLst, dgCons, dgNil, dRet, dRetN, dDrop, dPar, dPar3, dNext, dAnd, dOr, dNot, dAndV, dOrV, dNotV, dChain, dCall, dCallR, dFor, diSeq, diRng1, diZip, diEnum, dLc, dYes, dElt, fnEnds, startR, wipeR, dAdd, dSub, dMul, dFdiv, dMod, dPow, dInt2, dNeg, dCmpI, dLt, dLe, dGt, dGe, dEq, dNe, dIsN, dIsNot, dIsB, dSl, dPart, dNoPart, dAbs, dInts2, dMax2, dMin2, dGcd, dInt, dIs1, dIs2, atI_0, atI_1, atI_2, atI_3, List.map, List.length, List.cons_append, List.nil_append, List.replicate, List.getElem?_cons_zero, List.getElem?_cons_succ, List.set, if_true, if_false, res_tup, res_lst, res_int, res_bl, res_str, res_non, res_fr, res_row, res_tab, res_ptr, ix_tup, ix_lst, ix_frl, ix_row, ix_tab, ix_fr0, ix_fr1, ix_ptr, len_tup, len_lst, len_frl, len_row, len_tab, len_ptr, sq_tup', sq_lst, sq_frl, sq_row, sq_tab, sq_ptr, lvf_lst, lvf_frl, lvf_ptr, isN_non, isN_tup, isN_int, isN_bl, sl_tup, sl_lst, sl_frl, sl_str, tupOf_lst, tupOf_tup, up_len, keep_lst, keep_frl, keep_tup, keep_row, keep_tab, keep_ptr, T_falls, N_falls]
  refine ⟨n, z, p, rfl, L, C, n, p, rfl, C, L.n8, ?_⟩
  rcases h with ⟨few, h⟩ | ⟨few, h⟩
  · refine .inl ⟨few, by decide, by decide, ?_⟩
    have kn : ∀ k < 13, Kn n p (some k) := fun k hk => ⟨fun j hj => by cases hj; omega, fun _ => few⟩
    have er : rngD 0 ((12 : Int) + 1).toNat = (List.range 13).map fun k : Nat => D.int (0 + (k : Nat)) := rfl
    rw [er]
    refine go_map (e := fun k : Nat => D.int (0 + (k : Nat))) (f := fun k => dvD (dv n z p (some k))) (List.range 13) (fun k hk acc kk hkk hl => ?_) trivial (small (by simp)) ?_
    · have hk := List.mem_range.mp hk
      exact ⟨n, z, p, some k, by rw [Int.zero_add]; rfl, L, C, kn k hk, hl, hkk⟩
    · have ez : zipD ((List.range 13).map fun k => dvD (dv n z p (some k))) (DL.cutD ((List.range 13).map fun k => dvD (dv n z p (some k))) (some 1) none) = up 12 fun k => .tup [dvD (dv n z p (some k)), dvD (dv n z p (some (k + 1)))] := by
        have e1 : (List.range 13).map (fun k => dvD (dv n z p (some k))) = dvD (dv n z p (some 0)) :: up 12 fun k => dvD (dv n z p (some (k + 1))) := rfl
        have e2 : DL.cutD ((List.range 13).map fun k => dvD (dv n z p (some k))) (some 1) none = up 12 fun k => dvD (dv n z p (some (k + 1))) := by
          rw [e1, cut_tail]
        rw [e2]
        rfl
      rw [ez]
      refine go_map (e := fun k : Nat => D.tup [dvD (dv n z p (some k)), dvD (dv n z p (some (k + 1)))]) (f := fun k => .int (sn (dv n z p (some k)) (dv n z p (some (k + 1))))) (List.range 12) (fun k hk acc kk hkk hl => ?_) trivial (small (by simp)) ?_
      · have hk := List.mem_range.mp hk
        simp only [dSeq, dAsg, dIf, dIfS, dB, dOp, dUn, dCB, dCons, dNil, dTup, dLst, dVar, dC, dgName, dgTup, dgLst, dgCons, dgNil, dRet, dRetN, dDrop, dPar, dPar3, dNext, dAnd, dOr, dNot, dAndV, dOrV, dNotV, dChain, dCall, dCallR, dFor, diSeq, diRng1, diZip, diEnum, dLc, dYes, dElt, fnEnds, startR, wipeR, dAdd, dSub, dMul, dFdiv, dMod, dPow, dInt2, dNeg, dCmpI, dLt, dLe, dGt, dGe, dEq, dNe, dIsN, dIsNot, dIsB, dSl, dPart, dNoPart, dAbs, dInts2, dMax2, dMin2, dGcd, dInt, dIs1, dIs2, atI_0, atI_1, atI_2, atI_3, List.map, List.length, List.cons_append, List.nil_append, List.replicate, List.getElem?_cons_zero, List.getElem?_cons_succ, List.set, if_true, if_false, res_tup, res_lst, res_int, res_bl, res_str, res_non, res_fr, res_row, res_tab, res_ptr, ix_tup, ix_lst, ix_frl, ix_row, ix_tab, ix_fr0, ix_fr1, ix_ptr, len_tup, len_lst, len_frl, len_row, len_tab, len_ptr, sq_tup', sq_lst, sq_frl, sq_row, sq_tab, sq_ptr, lvf_lst, lvf_frl, lvf_ptr, isN_non, isN_tup, isN_int, isN_bl, sl_tup, sl_lst, sl_frl, sl_str, tupOf_lst, tupOf_tup, up_len, keep_lst, keep_frl, keep_tup, keep_row, keep_tab, keep_ptr]
        exact ⟨_, _, rfl, Pw.of L C (kn k (by omega)), Pw.of L C (kn (k + 1) (by omega)), hl, hkk⟩
      · exact DropN.of h
  · exact .inr ⟨few, h⟩
theorem kn_all {n : Nat} {p : Nat → Rat} : Kn n p none := ⟨(fun _ h => by cases h), fun h => by cases h⟩
theorem kn_zero {n : Nat} {p : Nat → Rat} : Kn n p (some 0) := ⟨(fun _ h => by cases h; decide), fun h => by cases h⟩
def s_least_diversity : DSp := fun ds M Φ _ => ∃ n z p, ds = [tabD n n z, rowD n p] ∧ Lk n z ∧ Cm n p ∧ Φ (fr (dv n z p none).2) M
theorem r_least_diversity : ∀ ds M Φ Ψ, s_least_diversity ds M Φ Ψ → ds.length = 2 ∧ T_least_diversity s_check_both s_diversity_of (fnEnds M.length Φ Ψ) (startR N_least_diversity ds) M := by
  rintro ds M Φ Ψ ⟨n, z, p, rfl, L, C, h⟩
  refine ⟨rfl, ?_⟩
  simp only [dSeq, dAsg, dIf, dIfS, dB, dOp, dUn, dCB, dCons, dNil, dTup, dLst, dVar, dC, dgName, dgTup, dgLst, dgCons, dgNil, dRet, dRetN, dDrop, dPar, dPar3, dNext, dAnd, dOr, dNot, dAndV, dOrV, dNotV, dChain, dCall, dCallR, dFor, diSeq, diRng1, diZip, diEnum, dLc, dYes, dElt, fnEnds, startR, wipeR, dAdd, dSub, dMul, dFdiv, dMod, dPow, dInt2, dNeg, dCmpI, dLt, dLe, dGt, dGe, dEq, dNe, dIsN, dIsNot, dIsB, dSl, dPart, dNoPart, dAbs, dInts2, dMax2, dMin2, dGcd, dInt, dIs1, dIs2, atI_0, atI_1, atI_2, atI_3, List.map, List.length, List.cons_append, List.nil_append, List.replicate, List.getElem?_cons_zero, List.getElem?_cons_succ, List.set, if_true, if_false, res_tup, res_lst, res_int, res_bl, res_str, res_non, res_fr, res_row, res_tab, res_ptr, ix_tup, ix_lst, ix_frl, ix_row, ix_tab, ix_fr0, ix_fr1, ix_ptr, len_tup, len_lst, len_frl, len_row, len_tab, len_ptr, sq_tup', sq_lst, sq_frl, sq_row, sq_tab, sq_ptr, lvf_lst, lvf_frl, lvf_ptr, isN_non, isN_tup, isN_int, isN_bl, sl_tup, sl_lst, sl_frl, sl_str, tupOf_lst, tupOf_tup, up_len, keep_lst, keep_frl, keep_tup, keep_row, keep_tab, keep_ptr, T_least_diversity, N_least_diversity]
  refine ⟨n, z, p, rfl, L, C, n, z, p, none, rfl, L, C, kn_all, ?_⟩
  simp only [dvD, dSeq, dAsg, dIf, dIfS, dB, dOp, dUn, dCB, dCons, dNil, dTup, dLst, dVar, dC, dgName, dgTup, dgLst, dgCons, dgNil, dRet, dRetN, dDrop, dPar, dPar3, dNext, dAnd, dOr, dNot, dAndV, dOrV, dNotV, dChain, dCall, dCallR, dFor, diSeq, diRng1, diZip, diEnum, dLc, dYes, dElt, fnEnds, startR, wipeR, dAdd, dSub, dMul, dFdiv, dMod, dPow, dInt2, dNeg, dCmpI, dLt, dLe, dGt, dGe, dEq, dNe, dIsN, dIsNot, dIsB, dSl, dPart, dNoPart, dAbs, dInts2, dMax2, dMin2, dGcd, dInt, dIs1, dIs2, atI_0, atI_1, atI_2, atI_3, List.map, List.length, List.cons_append, List.nil_append, List.replicate, List.getElem?_cons_zero, List.getElem?_cons_succ, List.set, if_true, if_false, res_tup, res_lst, res_int, res_bl, res_str, res_non, res_fr, res_row, res_tab, res_ptr, ix_tup, ix_lst, ix_frl, ix_row, ix_tab, ix_fr0, ix_fr1, ix_ptr, len_tup, len_lst, len_frl, len_row, len_tab, len_ptr, sq_tup', sq_lst, sq_frl, sq_row, sq_tab, sq_ptr, lvf_lst, lvf_frl, lvf_ptr, isN_non, isN_tup, isN_int, isN_bl, sl_tup, sl_lst, sl_frl, sl_str, tupOf_lst, tupOf_tup, up_len, keep_lst, keep_frl, keep_tup, keep_row, keep_tab, keep_ptr]
  exact DropN.of h
def s_greatest_order : DSp := fun ds M Φ _ => ∃ n z p, ds = [tabD n n z, rowD n p] ∧ Lk n z ∧ Cm n p ∧ Φ (fr (dv n z p (some 0)).2) M
theorem r_greatest_order : ∀ ds M Φ Ψ, s_greatest_order ds M Φ Ψ → ds.length = 2 ∧ T_greatest_order s_check_both s_diversity_of (fnEnds M.length Φ Ψ) (startR N_greatest_order ds) M := by
  rintro ds M Φ Ψ ⟨n, z, p, rfl, L, C, h⟩
  refine ⟨rfl, ?_⟩
  simp only [dSeq, dAsg, dIf, dIfS, dB, dOp, dUn, dCB, dCons, dNil, dTup, dLst, dVar, dC, dgName, dgTup, dgLst, dgCons, dgNil, dRet, dRetN, dDrop, dPar, dPar3, dNext, dAnd, dOr, dNot, dAndV, dOrV, dNotV, dChain, dCall, dCallR, dFor, diSeq, diRng1, diZip, diEnum, dLc, dYes, dElt, fnEnds, startR, wipeR, dAdd, dSub, dMul, dFdiv, dMod, dPow, dInt2, dNeg, dCmpI, dLt, dLe, dGt, dGe, dEq, dNe, dIsN, dIsNot, dIsB, dSl, dPart, dNoPart, dAbs, dInts2, dMax2, dMin2, dGcd, dInt, dIs1, dIs2, atI_0, atI_1, atI_2, atI_3, List.map, List.length, List.cons_append, List.nil_append, List.replicate, List.getElem?_cons_zero, List.getElem?_cons_succ, List.set, if_true, if_false, res_tup, res_lst, res_int, res_bl, res_str, res_non, res_fr, res_row, res_tab, res_ptr, ix_tup, ix_lst, ix_frl, ix_row, ix_tab, ix_fr0, ix_fr1, ix_ptr, len_tup, len_lst, len_frl, len_row, len_tab, len_ptr, sq_tup', sq_lst, sq_frl, sq_row, sq_tab, sq_ptr, lvf_lst, lvf_frl, lvf_ptr, isN_non, isN_tup, isN_int, isN_bl, sl_tup, sl_lst, sl_frl, sl_str, tupOf_lst, tupOf_tup, up_len, keep_lst, keep_frl, keep_tup, keep_row, keep_tab, keep_ptr, T_greatest_order, N_greatest_order]
  refine ⟨n, z, p, rfl, L, C, n, z, p, some 0, rfl, L, C, kn_zero, ?_⟩
  simp only [dvD, dSeq, dAsg, dIf, dIfS, dB, dOp, dUn, dCB, dCons, dNil, dTup, dLst, dVar, dC, dgName, dgTup, dgLst, dgCons, dgNil, dRet, dRetN, dDrop, dPar, dPar3, dNext, dAnd, dOr, dNot, dAndV, dOrV, dNotV, dChain, dCall, dCallR, dFor, diSeq, diRng1, diZip, diEnum, dLc, dYes, dElt, fnEnds, startR, wipeR, dAdd, dSub, dMul, dFdiv, dMod, dPow, dInt2, dNeg, dCmpI, dLt, dLe, dGt, dGe, dEq, dNe, dIsN, dIsNot, dIsB, dSl, dPart, dNoPart, dAbs, dInts2, dMax2, dMin2, dGcd, dInt, dIs1, dIs2, atI_0, atI_1, atI_2, atI_3, List.map, List.length, List.cons_append, List.nil_append, List.replicate, List.getElem?_cons_zero, List.getElem?_cons_succ, List.set, if_true, if_false, res_tup, res_lst, res_int, res_bl, res_str, res_non, res_fr, res_row, res_tab, res_ptr, ix_tup, ix_lst, ix_frl, ix_row, ix_tab, ix_fr0, ix_fr1, ix_ptr, len_tup, len_lst, len_frl, len_row, len_tab, len_ptr, sq_tup', sq_lst, sq_frl, sq_row, sq_tab, sq_ptr, lvf_lst, lvf_frl, lvf_ptr, isN_non, isN_tup, isN_int, isN_bl, sl_tup, sl_lst, sl_frl, sl_str, tupOf_lst, tupOf_tup, up_len, keep_lst, keep_frl, keep_tup, keep_row, keep_tab, keep_ptr]
  exact DropN.of h
end K85

set_option Elab.async false
set_option linter.all false
set_option autoImplicit false
set_option maxRecDepth 100000
set_option maxHeartbeats 4000000
/-! # The law's own reckoning -/
namespace K85
open PySem PySem.Spec L2 DL
open PyProof.Rows hiding St
/-- the greatest common divisor by steps -/
theorem gcd_step (a b : Nat) (hb : b ≠ 0) : Nat.gcd b (a % b) = Nat.gcd a b := by
  rw [Nat.gcd_comm b, ← Nat.gcd_rec, Nat.gcd_comm]
theorem fmod_nat (a b : Nat) : Int.fmod (a : Int) (b : Int) = ((a % b : Nat) : Int) := by
  rw [Int.fmod_eq_emod_of_nonneg _ (Int.natCast_nonneg _)]
  exact (Int.natCast_emod a b).symm
theorem abs_nat (i : Int) : (if i < 0 then -i else i) = (i.natAbs : Int) := by split <;> omega
theorem r__law_lowest : ∀ ds M Φ Ψ, s_lowest ds M Φ Ψ → ds.length = 2 ∧ T__law_lowest (fnEnds M.length Φ Ψ) (startR N__law_lowest ds) M := by
  rintro ds M Φ Ψ ⟨a, b, rfl, hb, bt, h⟩
  refine ⟨rfl, ?_⟩
  simp only [dSeq, dAsg, dIf, dIfS, dB, dOp, dUn, dCB, dCons, dNil, dTup, dLst, dVar, dC, dgName, dgTup, dgLst, dgCons, dgNil, dRet, dRetN, dDrop, dPar, dPar3, dNext, dAnd, dOr, dNot, dAndV, dOrV, dNotV, dChain, dCall, dCallR, dFor, diSeq, diRng1, diZip, diEnum, dLc, dYes, dElt, fnEnds, startR, wipeR, dAdd, dSub, dMul, dFdiv, dMod, dPow, dInt2, dNeg, dCmpI, dLt, dLe, dGt, dGe, dEq, dNe, dIsN, dIsNot, dIsB, dSl, dPart, dNoPart, dAbs, dInts2, dMax2, dMin2, dGcd, dInt, dIs1, dIs2, atI_0, atI_1, atI_2, atI_3, List.map, List.length, List.cons_append, List.nil_append, List.replicate, List.getElem?_cons_zero, List.getElem?_cons_succ, List.set, if_true, if_false, res_tup, res_lst, res_int, res_bl, res_str, res_non, res_fr, res_row, res_tab, res_ptr, ix_tup, ix_lst, ix_frl, ix_row, ix_tab, ix_fr0, ix_fr1, ix_ptr, len_tup, len_lst, len_frl, len_row, len_tab, len_ptr, sq_tup', sq_lst, sq_frl, sq_row, sq_tab, sq_ptr, lvf_lst, lvf_frl, lvf_ptr, isN_non, isN_tup, isN_int, isN_bl, sl_tup, sl_lst, sl_frl, sl_str, tupOf_lst, tupOf_tup, up_len, keep_lst, keep_frl, keep_tup, keep_row, keep_tab, keep_ptr, T__law_lowest, N__law_lowest, dWhile, abs_nat]
  refine ⟨fun m ρ M' => M' = M ∧ ∃ x y : Nat, ρ = [some (.int a), some (.int b), some (.int (x : Nat)), some (.int (y : Nat))] ∧ Nat.gcd x y = Nat.gcd a.natAbs b.natAbs ∧ m = y, ⟨_, rfl, _, _, rfl, rfl, rfl⟩, ?_⟩
  rintro m ρ M' ⟨rfl, x, y, rfl, e, rfl⟩
  simp only [dSeq, dAsg, dIf, dIfS, dB, dOp, dUn, dCB, dCons, dNil, dTup, dLst, dVar, dC, dgName, dgTup, dgLst, dgCons, dgNil, dRet, dRetN, dDrop, dPar, dPar3, dNext, dAnd, dOr, dNot, dAndV, dOrV, dNotV, dChain, dCall, dCallR, dFor, diSeq, diRng1, diZip, diEnum, dLc, dYes, dElt, fnEnds, startR, wipeR, dAdd, dSub, dMul, dFdiv, dMod, dPow, dInt2, dNeg, dCmpI, dLt, dLe, dGt, dGe, dEq, dNe, dIsN, dIsNot, dIsB, dSl, dPart, dNoPart, dAbs, dInts2, dMax2, dMin2, dGcd, dInt, dIs1, dIs2, atI_0, atI_1, atI_2, atI_3, List.map, List.length, List.cons_append, List.nil_append, List.replicate, List.getElem?_cons_zero, List.getElem?_cons_succ, List.set, if_true, if_false, res_tup, res_lst, res_int, res_bl, res_str, res_non, res_fr, res_row, res_tab, res_ptr, ix_tup, ix_lst, ix_frl, ix_row, ix_tab, ix_fr0, ix_fr1, ix_ptr, len_tup, len_lst, len_frl, len_row, len_tab, len_ptr, sq_tup', sq_lst, sq_frl, sq_row, sq_tab, sq_ptr, lvf_lst, lvf_frl, lvf_ptr, isN_non, isN_tup, isN_int, isN_bl, sl_tup, sl_lst, sl_frl, sl_str, tupOf_lst, tupOf_tup, up_len, keep_lst, keep_frl, keep_tup, keep_row, keep_tab, keep_ptr]
  refine ⟨fl_int, fl_int, ?_⟩
  by_cases hy : m = 0
  · subst hy
    rw [Nat.gcd_zero_right] at e
    subst e
    refine no (by rw [eqv_ii]; decide) ?_
    have g0 : ((Nat.gcd a.natAbs b.natAbs : Nat) : Int) ≠ 0 := by
      have := Nat.gcd_pos_of_pos_right a.natAbs (n := b.natAbs) (by omega)
      omega
    have gl := (bt.gcd hb (a := a)).log
    by_cases h0 : 0 < b
    · refine yes (decide_eq_true h0) ⟨⟨g0, by omega⟩, ⟨g0, by omega⟩, by decide, DropN.of ?_⟩
      rw [(low_pos h0).1, (low_pos h0).2]
      exact h
    · refine no (by simpa using h0) ⟨⟨g0, by omega⟩, ⟨g0, by omega⟩, by decide, DropN.of ?_⟩
      have hp := low_pos (a := -a) (b := -b) (by omega)
      rw [Int.natAbs_neg, Int.natAbs_neg] at hp
      rw [hp.1, hp.2, Rat.neg_divInt_neg]
      exact h
  · refine yes (by rw [eqv_ii]; simp; omega) ⟨by omega, x % m, Nat.mod_lt _ (by omega), trivial, m, x % m, ?_, (gcd_step x m hy).trans e, rfl⟩
    rw [fmod_nat]
theorem r__law_plus : ∀ ds M Φ Ψ, s_plus ds M Φ Ψ → ds.length = 2 ∧ T__law_plus s_lowest (fnEnds M.length Φ Ψ) (startR N__law_plus ds) M := r_plus
theorem r__law_times : ∀ ds M Φ Ψ, s_times ds M Φ Ψ → ds.length = 2 ∧ T__law_times s_lowest (fnEnds M.length Φ Ψ) (startR N__law_times ds) M := r_times
theorem r__law_over : ∀ ds M Φ Ψ, s_over ds M Φ Ψ → ds.length = 2 ∧ T__law_over s_lowest (fnEnds M.length Φ Ψ) (startR N__law_over ds) M := r_over
theorem r__law_below : ∀ ds M Φ Ψ, s_is_less ds M Φ Ψ → ds.length = 2 ∧ T__law_below (fnEnds M.length Φ Ψ) (startR N__law_below ds) M := r_is_less
theorem r__law_total : ∀ ds M Φ Ψ, s_total ds M Φ Ψ → ds.length = 1 ∧ T__law_total s_plus (fnEnds M.length Φ Ψ) (startR N__law_total ds) M := fun ds M Φ Ψ h => by
  have h1 := r_total ds M Φ Ψ h
  refine ⟨h1.1, ?_⟩
  exact ⟨by decide, h1.2⟩
theorem r__law_dot : ∀ ds M Φ Ψ, s_dot ds M Φ Ψ → ds.length = 2 ∧ T__law_dot s_total s_times (fnEnds M.length Φ Ψ) (startR N__law_dot ds) M := by
  rintro ds M Φ Ψ ⟨n, f, g, rfl, ⟨a, b, ha, hb, l⟩, hn, h⟩
  refine ⟨rfl, ?_⟩
  simp only [dSeq, dAsg, dIf, dIfS, dB, dOp, dUn, dCB, dCons, dNil, dTup, dLst, dVar, dC, dgName, dgTup, dgLst, dgCons, dgNil, dRet, dRetN, dDrop, dPar, dPar3, dNext, dAnd, dOr, dNot, dAndV, dOrV, dNotV, dChain, dCall, dCallR, dFor, diSeq, diRng1, diZip, diEnum, dLc, dYes, dElt, fnEnds, startR, wipeR, dAdd, dSub, dMul, dFdiv, dMod, dPow, dInt2, dNeg, dCmpI, dLt, dLe, dGt, dGe, dEq, dNe, dIsN, dIsNot, dIsB, dSl, dPart, dNoPart, dAbs, dInts2, dMax2, dMin2, dGcd, dInt, dIs1, dIs2, atI_0, atI_1, atI_2, atI_3, List.map, List.length, List.cons_append, List.nil_append, List.replicate, List.getElem?_cons_zero, List.getElem?_cons_succ, List.set, if_true, if_false, res_tup, res_lst, res_int, res_bl, res_str, res_non, res_fr, res_row, res_tab, res_ptr, ix_tup, ix_lst, ix_frl, ix_row, ix_tab, ix_fr0, ix_fr1, ix_ptr, len_tup, len_lst, len_frl, len_row, len_tab, len_ptr, sq_tup', sq_lst, sq_frl, sq_row, sq_tab, sq_ptr, lvf_lst, lvf_frl, lvf_ptr, isN_non, isN_tup, isN_int, isN_bl, sl_tup, sl_lst, sl_frl, sl_str, tupOf_lst, tupOf_tup, up_len, keep_lst, keep_frl, keep_tup, keep_row, keep_tab, keep_ptr, T__law_dot, N__law_dot]
  have l1 : 1 * (a + b + 1) ≤ (n + 1) * (a + b + 1) := Nat.mul_le_mul_right _ (by omega)
  refine ⟨by omega, by omega, ?_⟩
  have er : rngD 0 ((n : Int)).toNat = (List.range n).map fun k : Nat => D.int (0 + (k : Nat)) := by rw [Int.toNat_natCast]; rfl
  rw [er]
  refine go_map (e := fun k : Nat => D.int (0 + (k : Nat))) (f := fun k => fr (f k * g k)) (List.range n) (fun k hk acc kk hkk hl => ?_) trivial (small (by simp; omega)) ?_
  · have hk := List.mem_range.mp hk
    simp only [Int.zero_add, up_at hk, dSeq, dAsg, dIf, dIfS, dB, dOp, dUn, dCB, dCons, dNil, dTup, dLst, dVar, dC, dgName, dgTup, dgLst, dgCons, dgNil, dRet, dRetN, dDrop, dPar, dPar3, dNext, dAnd, dOr, dNot, dAndV, dOrV, dNotV, dChain, dCall, dCallR, dFor, diSeq, diRng1, diZip, diEnum, dLc, dYes, dElt, fnEnds, startR, wipeR, dAdd, dSub, dMul, dFdiv, dMod, dPow, dInt2, dNeg, dCmpI, dLt, dLe, dGt, dGe, dEq, dNe, dIsN, dIsNot, dIsB, dSl, dPart, dNoPart, dAbs, dInts2, dMax2, dMin2, dGcd, dInt, dIs1, dIs2, atI_0, atI_1, atI_2, atI_3, List.map, List.length, List.cons_append, List.nil_append, List.replicate, List.getElem?_cons_zero, List.getElem?_cons_succ, List.set, if_true, if_false, res_tup, res_lst, res_int, res_bl, res_str, res_non, res_fr, res_row, res_tab, res_ptr, ix_tup, ix_lst, ix_frl, ix_row, ix_tab, ix_fr0, ix_fr1, ix_ptr, len_tup, len_lst, len_frl, len_row, len_tab, len_ptr, sq_tup', sq_lst, sq_frl, sq_row, sq_tab, sq_ptr, lvf_lst, lvf_frl, lvf_ptr, isN_non, isN_tup, isN_int, isN_bl, sl_tup, sl_lst, sl_frl, sl_str, tupOf_lst, tupOf_tup, up_len, keep_lst, keep_frl, keep_tup, keep_row, keep_tab, keep_ptr]
    refine ⟨f k, g k, rfl, Two.of (ha k hk) (hb k hk) (by omega), hl, hkk⟩
  · refine ⟨up n fun k => f k * g k, Or.inl (by rw [up_map]), ⟨a + b, fun x hx => ?_, by rw [up_len]; exact l⟩, DropN.of h⟩
    obtain ⟨k, hk, rfl⟩ := List.mem_map.mp hx
    have hk := List.mem_range.mp hk
    exact (ha k hk).mul (hb k hk)
theorem r__law_apply : ∀ ds M Φ Ψ, s_applied_to ds M Φ Ψ → ds.length = 2 ∧ T__law_apply s_dot (fnEnds M.length Φ Ψ) (startR N__law_apply ds) M := r_applied_to
/-- of two numbers -/
def s__law_gcd : DSp := fun ds M Φ _ => ∃ x y : Nat, ds = [.lst [.int (x : Nat), .int (y : Nat)]] ∧ Φ (.int (Nat.gcd x y : Nat)) M
theorem r__law_gcd : ∀ ds M Φ Ψ, s__law_gcd ds M Φ Ψ → ds.length = 1 ∧ T__law_gcd (fnEnds M.length Φ Ψ) (startR N__law_gcd ds) M := by
  rintro ds M Φ Ψ ⟨x, y, rfl, h⟩
  refine ⟨rfl, ?_⟩
  simp only [dSeq, dAsg, dIf, dIfS, dB, dOp, dUn, dCB, dCons, dNil, dTup, dLst, dVar, dC, dgName, dgTup, dgLst, dgCons, dgNil, dRet, dRetN, dDrop, dPar, dPar3, dNext, dAnd, dOr, dNot, dAndV, dOrV, dNotV, dChain, dCall, dCallR, dFor, diSeq, diRng1, diZip, diEnum, dLc, dYes, dElt, fnEnds, startR, wipeR, dAdd, dSub, dMul, dFdiv, dMod, dPow, dInt2, dNeg, dCmpI, dLt, dLe, dGt, dGe, dEq, dNe, dIsN, dIsNot, dIsB, dSl, dPart, dNoPart, dAbs, dInts2, dMax2, dMin2, dGcd, dInt, dIs1, dIs2, atI_0, atI_1, atI_2, atI_3, List.map, List.length, List.cons_append, List.nil_append, List.replicate, List.getElem?_cons_zero, List.getElem?_cons_succ, List.set, if_true, if_false, res_tup, res_lst, res_int, res_bl, res_str, res_non, res_fr, res_row, res_tab, res_ptr, ix_tup, ix_lst, ix_frl, ix_row, ix_tab, ix_fr0, ix_fr1, ix_ptr, len_tup, len_lst, len_frl, len_row, len_tab, len_ptr, sq_tup', sq_lst, sq_frl, sq_row, sq_tab, sq_ptr, lvf_lst, lvf_frl, lvf_ptr, isN_non, isN_tup, isN_int, isN_bl, sl_tup, sl_lst, sl_frl, sl_str, tupOf_lst, tupOf_tup, up_len, keep_lst, keep_frl, keep_tup, keep_row, keep_tab, keep_ptr, T__law_gcd, N__law_gcd]
  refine for_map (e := fun k : Nat => D.int (k : Nat)) (I := fun xs ρ M' => M' = M ∧ ∃ (o1 o2 o3 : Option D) (f : Nat), ρ = [some (.lst [.int (x : Nat), .int (y : Nat)]), some (.int (f : Nat)), o1, o2, o3] ∧ xs.foldl (fun f k => Nat.gcd k f) f = Nat.gcd x y) ?_ ?_ [x, y] _ M ?_
  · rintro ρ M' ⟨rfl, o1, o2, o3, f, rfl, e⟩
    refine ⟨trivial, ?_⟩
    simp only [dSeq, dAsg, dIf, dIfS, dB, dOp, dUn, dCB, dCons, dNil, dTup, dLst, dVar, dC, dgName, dgTup, dgLst, dgCons, dgNil, dRet, dRetN, dDrop, dPar, dPar3, dNext, dAnd, dOr, dNot, dAndV, dOrV, dNotV, dChain, dCall, dCallR, dFor, diSeq, diRng1, diZip, diEnum, dLc, dYes, dElt, fnEnds, startR, wipeR, dAdd, dSub, dMul, dFdiv, dMod, dPow, dInt2, dNeg, dCmpI, dLt, dLe, dGt, dGe, dEq, dNe, dIsN, dIsNot, dIsB, dSl, dPart, dNoPart, dAbs, dInts2, dMax2, dMin2, dGcd, dInt, dIs1, dIs2, atI_0, atI_1, atI_2, atI_3, List.map, List.length, List.cons_append, List.nil_append, List.replicate, List.getElem?_cons_zero, List.getElem?_cons_succ, List.set, if_true, if_false, res_tup, res_lst, res_int, res_bl, res_str, res_non, res_fr, res_row, res_tab, res_ptr, ix_tup, ix_lst, ix_frl, ix_row, ix_tab, ix_fr0, ix_fr1, ix_ptr, len_tup, len_lst, len_frl, len_row, len_tab, len_ptr, sq_tup', sq_lst, sq_frl, sq_row, sq_tab, sq_ptr, lvf_lst, lvf_frl, lvf_ptr, isN_non, isN_tup, isN_int, isN_bl, sl_tup, sl_lst, sl_frl, sl_str, tupOf_lst, tupOf_tup, up_len, keep_lst, keep_frl, keep_tup, keep_row, keep_tab, keep_ptr]
    have e' : f = Nat.gcd x y := e
    rw [e']
    exact DropN.of h
  · rintro k r ρ M' nx hnx ⟨rfl, o1, o2, o3, f, rfl, e⟩
    refine ⟨trivial, ?_⟩
    simp only [dSeq, dAsg, dIf, dIfS, dB, dOp, dUn, dCB, dCons, dNil, dTup, dLst, dVar, dC, dgName, dgTup, dgLst, dgCons, dgNil, dRet, dRetN, dDrop, dPar, dPar3, dNext, dAnd, dOr, dNot, dAndV, dOrV, dNotV, dChain, dCall, dCallR, dFor, diSeq, diRng1, diZip, diEnum, dLc, dYes, dElt, fnEnds, startR, wipeR, dAdd, dSub, dMul, dFdiv, dMod, dPow, dInt2, dNeg, dCmpI, dLt, dLe, dGt, dGe, dEq, dNe, dIsN, dIsNot, dIsB, dSl, dPart, dNoPart, dAbs, dInts2, dMax2, dMin2, dGcd, dInt, dIs1, dIs2, atI_0, atI_1, atI_2, atI_3, List.map, List.length, List.cons_append, List.nil_append, List.replicate, List.getElem?_cons_zero, List.getElem?_cons_succ, List.set, if_true, if_false, res_tup, res_lst, res_int, res_bl, res_str, res_non, res_fr, res_row, res_tab, res_ptr, ix_tup, ix_lst, ix_frl, ix_row, ix_tab, ix_fr0, ix_fr1, ix_ptr, len_tup, len_lst, len_frl, len_row, len_tab, len_ptr, sq_tup', sq_lst, sq_frl, sq_row, sq_tab, sq_ptr, lvf_lst, lvf_frl, lvf_ptr, isN_non, isN_tup, isN_int, isN_bl, sl_tup, sl_lst, sl_frl, sl_str, tupOf_lst, tupOf_tup, up_len, keep_lst, keep_frl, keep_tup, keep_row, keep_tab, keep_ptr, dWhile, abs_nat, Int.natAbs_natCast]
    refine ⟨fun m ρ M'' => M'' = M' ∧ ∃ u v : Nat, ρ = [some (.lst [.int (x : Nat), .int (y : Nat)]), some (.int (f : Nat)), some (.int (k : Nat)), some (.int (u : Nat)), some (.int (v : Nat))] ∧ Nat.gcd u v = Nat.gcd k f ∧ m = v, ⟨_, rfl, _, _, rfl, rfl, rfl⟩, ?_⟩
    rintro m ρ M'' ⟨rfl, u, v, rfl, e2, rfl⟩
    simp only [dSeq, dAsg, dIf, dIfS, dB, dOp, dUn, dCB, dCons, dNil, dTup, dLst, dVar, dC, dgName, dgTup, dgLst, dgCons, dgNil, dRet, dRetN, dDrop, dPar, dPar3, dNext, dAnd, dOr, dNot, dAndV, dOrV, dNotV, dChain, dCall, dCallR, dFor, diSeq, diRng1, diZip, diEnum, dLc, dYes, dElt, fnEnds, startR, wipeR, dAdd, dSub, dMul, dFdiv, dMod, dPow, dInt2, dNeg, dCmpI, dLt, dLe, dGt, dGe, dEq, dNe, dIsN, dIsNot, dIsB, dSl, dPart, dNoPart, dAbs, dInts2, dMax2, dMin2, dGcd, dInt, dIs1, dIs2, atI_0, atI_1, atI_2, atI_3, List.map, List.length, List.cons_append, List.nil_append, List.replicate, List.getElem?_cons_zero, List.getElem?_cons_succ, List.set, if_true, if_false, res_tup, res_lst, res_int, res_bl, res_str, res_non, res_fr, res_row, res_tab, res_ptr, ix_tup, ix_lst, ix_frl, ix_row, ix_tab, ix_fr0, ix_fr1, ix_ptr, len_tup, len_lst, len_frl, len_row, len_tab, len_ptr, sq_tup', sq_lst, sq_frl, sq_row, sq_tab, sq_ptr, lvf_lst, lvf_frl, lvf_ptr, isN_non, isN_tup, isN_int, isN_bl, sl_tup, sl_lst, sl_frl, sl_str, tupOf_lst, tupOf_tup, up_len, keep_lst, keep_frl, keep_tup, keep_row, keep_tab, keep_ptr]
    refine ⟨fl_int, fl_int, ?_⟩
    by_cases hy : m = 0
    · subst hy
      rw [Nat.gcd_zero_right] at e2
      subst e2
      exact no (by rw [eqv_ii]; decide) (hnx _ _ ⟨rfl, _, _, _, _, rfl, e⟩)
    · refine yes (by rw [eqv_ii]; simp; omega) ⟨by omega, u % m, Nat.mod_lt _ (by omega), trivial, m, u % m, ?_, (gcd_step u m hy).trans e2, rfl⟩
      rw [fmod_nat]
  · refine ⟨rfl, none, none, none, 0, rfl, ?_⟩
    show Nat.gcd y (Nat.gcd x 0) = _
    rw [Nat.gcd_zero_right, Nat.gcd_comm]
theorem r__law_multiple : ∀ ds M Φ Ψ, s_common_multiple ds M Φ Ψ → ds.length = 1 ∧ T__law_multiple s__law_gcd (fnEnds M.length Φ Ψ) (startR N__law_multiple ds) M := by
  rintro ds M Φ Ψ ⟨n, p, rfl, C, n8, h⟩
  refine ⟨rfl, ?_⟩
  simp only [dSeq, dAsg, dIf, dIfS, dB, dOp, dUn, dCB, dCons, dNil, dTup, dLst, dVar, dC, dgName, dgTup, dgLst, dgCons, dgNil, dRet, dRetN, dDrop, dPar, dPar3, dNext, dAnd, dOr, dNot, dAndV, dOrV, dNotV, dChain, dCall, dCallR, dFor, diSeq, diRng1, diZip, diEnum, dLc, dYes, dElt, fnEnds, startR, wipeR, dAdd, dSub, dMul, dFdiv, dMod, dPow, dInt2, dNeg, dCmpI, dLt, dLe, dGt, dGe, dEq, dNe, dIsN, dIsNot, dIsB, dSl, dPart, dNoPart, dAbs, dInts2, dMax2, dMin2, dGcd, dInt, dIs1, dIs2, atI_0, atI_1, atI_2, atI_3, List.map, List.length, List.cons_append, List.nil_append, List.replicate, List.getElem?_cons_zero, List.getElem?_cons_succ, List.set, if_true, if_false, res_tup, res_lst, res_int, res_bl, res_str, res_non, res_fr, res_row, res_tab, res_ptr, ix_tup, ix_lst, ix_frl, ix_row, ix_tab, ix_fr0, ix_fr1, ix_ptr, len_tup, len_lst, len_frl, len_row, len_tab, len_ptr, sq_tup', sq_lst, sq_frl, sq_row, sq_tab, sq_ptr, lvf_lst, lvf_frl, lvf_ptr, isN_non, isN_tup, isN_int, isN_bl, sl_tup, sl_lst, sl_frl, sl_str, tupOf_lst, tupOf_tup, up_len, keep_lst, keep_frl, keep_tup, keep_row, keep_tab, keep_ptr, T__law_multiple, N__law_multiple]
  refine for_map (e := fun k => fr (p k)) (I := fun xs ρ M' => M' = M ∧ (∀ k ∈ xs, k < n) ∧ ∃ (o : Option D) (a i : Nat), ρ = [some (rowD n p), some (.int (a : Nat)), o] ∧ (xs.map fun k => (p k).den).foldl Nat.lcm a = Lm n p ∧ 0 < a ∧ a < 2 ^ (7 * i) ∧ i + xs.length ≤ n + 1) ?_ ?_ (List.range n) _ M ?_
  · rintro ρ M' ⟨rfl, _, o, a, i, rfl, e, _, _, _⟩
    refine ⟨trivial, ?_⟩
    simp only [dSeq, dAsg, dIf, dIfS, dB, dOp, dUn, dCB, dCons, dNil, dTup, dLst, dVar, dC, dgName, dgTup, dgLst, dgCons, dgNil, dRet, dRetN, dDrop, dPar, dPar3, dNext, dAnd, dOr, dNot, dAndV, dOrV, dNotV, dChain, dCall, dCallR, dFor, diSeq, diRng1, diZip, diEnum, dLc, dYes, dElt, fnEnds, startR, wipeR, dAdd, dSub, dMul, dFdiv, dMod, dPow, dInt2, dNeg, dCmpI, dLt, dLe, dGt, dGe, dEq, dNe, dIsN, dIsNot, dIsB, dSl, dPart, dNoPart, dAbs, dInts2, dMax2, dMin2, dGcd, dInt, dIs1, dIs2, atI_0, atI_1, atI_2, atI_3, List.map, List.length, List.cons_append, List.nil_append, List.replicate, List.getElem?_cons_zero, List.getElem?_cons_succ, List.set, if_true, if_false, res_tup, res_lst, res_int, res_bl, res_str, res_non, res_fr, res_row, res_tab, res_ptr, ix_tup, ix_lst, ix_frl, ix_row, ix_tab, ix_fr0, ix_fr1, ix_ptr, len_tup, len_lst, len_frl, len_row, len_tab, len_ptr, sq_tup', sq_lst, sq_frl, sq_row, sq_tab, sq_ptr, lvf_lst, lvf_frl, lvf_ptr, isN_non, isN_tup, isN_int, isN_bl, sl_tup, sl_lst, sl_frl, sl_str, tupOf_lst, tupOf_tup, up_len, keep_lst, keep_frl, keep_tup, keep_row, keep_tab, keep_ptr]
    have e' : a = Lm n p := e
    rw [e']
    exact DropN.of h
  · rintro k r ρ M' nx hnx ⟨rfl, hk, o, a, i, rfl, e, ha, ba, hi⟩
    refine ⟨trivial, ?_⟩
    simp only [dSeq, dAsg, dIf, dIfS, dB, dOp, dUn, dCB, dCons, dNil, dTup, dLst, dVar, dC, dgName, dgTup, dgLst, dgCons, dgNil, dRet, dRetN, dDrop, dPar, dPar3, dNext, dAnd, dOr, dNot, dAndV, dOrV, dNotV, dChain, dCall, dCallR, dFor, diSeq, diRng1, diZip, diEnum, dLc, dYes, dElt, fnEnds, startR, wipeR, dAdd, dSub, dMul, dFdiv, dMod, dPow, dInt2, dNeg, dCmpI, dLt, dLe, dGt, dGe, dEq, dNe, dIsN, dIsNot, dIsB, dSl, dPart, dNoPart, dAbs, dInts2, dMax2, dMin2, dGcd, dInt, dIs1, dIs2, atI_0, atI_1, atI_2, atI_3, List.map, List.length, List.cons_append, List.nil_append, List.replicate, List.getElem?_cons_zero, List.getElem?_cons_succ, List.set, if_true, if_false, res_tup, res_lst, res_int, res_bl, res_str, res_non, res_fr, res_row, res_tab, res_ptr, ix_tup, ix_lst, ix_frl, ix_row, ix_tab, ix_fr0, ix_fr1, ix_ptr, len_tup, len_lst, len_frl, len_row, len_tab, len_ptr, sq_tup', sq_lst, sq_frl, sq_row, sq_tab, sq_ptr, lvf_lst, lvf_frl, lvf_ptr, isN_non, isN_tup, isN_int, isN_bl, sl_tup, sl_lst, sl_frl, sl_str, tupOf_lst, tupOf_tup, up_len, keep_lst, keep_frl, keep_tup, keep_row, keep_tab, keep_ptr]
    simp only [List.length_cons] at hi
    have bd : (p k).den < 2 ^ 7 := by
      have := (C.sm k (hk k List.mem_cons_self)).2
      unfold Bt at this
      rwa [Int.natAbs_natCast] at this
    obtain ⟨c1, c2, c3, c4⟩ := lcm_step ha (p k).den_pos ba bd (show i ≤ 8 by omega)
    refine ⟨c1, by decide, a, (p k).den, rfl, ?_, hnx _ _ ⟨rfl, fun j hj => hk j (List.mem_cons_of_mem _ hj), some (fr (p k)), Nat.lcm a (p k).den, i + 1, ?_, e, c4, c3, by omega⟩⟩
    · rw [Int.natAbs_natCast, Int.natAbs_natCast] at c2
      exact c2
    · rw [lcm_fdiv ha]
  · exact ⟨rfl, fun k hk => List.mem_range.mp hk, none, 1, 1, rfl, rfl, by decide, by decide, by rw [List.length_range]; omega⟩
def s__law_raised : DSp := fun ds M Φ _ => ∃ (x : Rat) (c : Nat), ds = [fr x, .int (c : Nat)] ∧ (∃ m, Sm m x ∧ m * (c + 1) < 900000) ∧ c < 1000 ∧ Φ (fr (x ^ c)) M
theorem r__law_raised : ∀ ds M Φ Ψ, s__law_raised ds M Φ Ψ → ds.length = 2 ∧ T__law_raised (fnEnds M.length Φ Ψ) (startR N__law_raised ds) M := by
  rintro ds M Φ Ψ ⟨x, c, rfl, ⟨m, hx, l2⟩, lc, h⟩
  refine ⟨rfl, ?_⟩
  simp only [dSeq, dAsg, dIf, dIfS, dB, dOp, dUn, dCB, dCons, dNil, dTup, dLst, dVar, dC, dgName, dgTup, dgLst, dgCons, dgNil, dRet, dRetN, dDrop, dPar, dPar3, dNext, dAnd, dOr, dNot, dAndV, dOrV, dNotV, dChain, dCall, dCallR, dFor, diSeq, diRng1, diZip, diEnum, dLc, dYes, dElt, fnEnds, startR, wipeR, dAdd, dSub, dMul, dFdiv, dMod, dPow, dInt2, dNeg, dCmpI, dLt, dLe, dGt, dGe, dEq, dNe, dIsN, dIsNot, dIsB, dSl, dPart, dNoPart, dAbs, dInts2, dMax2, dMin2, dGcd, dInt, dIs1, dIs2, atI_0, atI_1, atI_2, atI_3, List.map, List.length, List.cons_append, List.nil_append, List.replicate, List.getElem?_cons_zero, List.getElem?_cons_succ, List.set, if_true, if_false, res_tup, res_lst, res_int, res_bl, res_str, res_non, res_fr, res_row, res_tab, res_ptr, ix_tup, ix_lst, ix_frl, ix_row, ix_tab, ix_fr0, ix_fr1, ix_ptr, len_tup, len_lst, len_frl, len_row, len_tab, len_ptr, sq_tup', sq_lst, sq_frl, sq_row, sq_tab, sq_ptr, lvf_lst, lvf_frl, lvf_ptr, isN_non, isN_tup, isN_int, isN_bl, sl_tup, sl_lst, sl_frl, sl_str, tupOf_lst, tupOf_tup, up_len, keep_lst, keep_frl, keep_tup, keep_row, keep_tab, keep_ptr, T__law_raised, N__law_raised, ix_fr0, ix_fr1]
  refine ⟨by decide, by omega, by omega, ?_⟩
  have er : rngD 0 ((c : Int)).toNat = (List.range c).map fun k : Nat => D.int (0 + (k : Nat)) := by rw [Int.toNat_natCast]; rfl
  rw [er]
  refine for_map (e := fun i : Nat => D.int (0 + (i : Nat))) (I := fun xs ρ M' => M' = M ∧ xs.length ≤ c ∧ ∃ o, ρ = [some (fr x), some (.int (c : Nat)), o, some (.int (x.num ^ (c - xs.length))), some (.int ((x.den : Int) ^ (c - xs.length)))]) ?_ ?_ _ _ _ ?_
  · rintro ρ M' ⟨rfl, _, o, rfl⟩
    refine ⟨trivial, ?_⟩
    simp only [dSeq, dAsg, dIf, dIfS, dB, dOp, dUn, dCB, dCons, dNil, dTup, dLst, dVar, dC, dgName, dgTup, dgLst, dgCons, dgNil, dRet, dRetN, dDrop, dPar, dPar3, dNext, dAnd, dOr, dNot, dAndV, dOrV, dNotV, dChain, dCall, dCallR, dFor, diSeq, diRng1, diZip, diEnum, dLc, dYes, dElt, fnEnds, startR, wipeR, dAdd, dSub, dMul, dFdiv, dMod, dPow, dInt2, dNeg, dCmpI, dLt, dLe, dGt, dGe, dEq, dNe, dIsN, dIsNot, dIsB, dSl, dPart, dNoPart, dAbs, dInts2, dMax2, dMin2, dGcd, dInt, dIs1, dIs2, atI_0, atI_1, atI_2, atI_3, List.map, List.length, List.cons_append, List.nil_append, List.replicate, List.getElem?_cons_zero, List.getElem?_cons_succ, List.set, if_true, if_false, res_tup, res_lst, res_int, res_bl, res_str, res_non, res_fr, res_row, res_tab, res_ptr, ix_tup, ix_lst, ix_frl, ix_row, ix_tab, ix_fr0, ix_fr1, ix_ptr, len_tup, len_lst, len_frl, len_row, len_tab, len_ptr, sq_tup', sq_lst, sq_frl, sq_row, sq_tab, sq_ptr, lvf_lst, lvf_frl, lvf_ptr, isN_non, isN_tup, isN_int, isN_bl, sl_tup, sl_lst, sl_frl, sl_str, tupOf_lst, tupOf_tup, up_len, keep_lst, keep_frl, keep_tup, keep_row, keep_tab, keep_ptr, Nat.sub_zero]
    refine ⟨by decide, DropN.of ?_⟩
    rw [fr_pow] at h
    exact h
  · rintro d r ρ M' nx hnx ⟨rfl, hl, o, rfl⟩
    refine ⟨trivial, ?_⟩
    simp only [dSeq, dAsg, dIf, dIfS, dB, dOp, dUn, dCB, dCons, dNil, dTup, dLst, dVar, dC, dgName, dgTup, dgLst, dgCons, dgNil, dRet, dRetN, dDrop, dPar, dPar3, dNext, dAnd, dOr, dNot, dAndV, dOrV, dNotV, dChain, dCall, dCallR, dFor, diSeq, diRng1, diZip, diEnum, dLc, dYes, dElt, fnEnds, startR, wipeR, dAdd, dSub, dMul, dFdiv, dMod, dPow, dInt2, dNeg, dCmpI, dLt, dLe, dGt, dGe, dEq, dNe, dIsN, dIsNot, dIsB, dSl, dPart, dNoPart, dAbs, dInts2, dMax2, dMin2, dGcd, dInt, dIs1, dIs2, atI_0, atI_1, atI_2, atI_3, List.map, List.length, List.cons_append, List.nil_append, List.replicate, List.getElem?_cons_zero, List.getElem?_cons_succ, List.set, if_true, if_false, res_tup, res_lst, res_int, res_bl, res_str, res_non, res_fr, res_row, res_tab, res_ptr, ix_tup, ix_lst, ix_frl, ix_row, ix_tab, ix_fr0, ix_fr1, ix_ptr, len_tup, len_lst, len_frl, len_row, len_tab, len_ptr, sq_tup', sq_lst, sq_frl, sq_row, sq_tab, sq_ptr, lvf_lst, lvf_frl, lvf_ptr, isN_non, isN_tup, isN_int, isN_bl, sl_tup, sl_lst, sl_frl, sl_str, tupOf_lst, tupOf_tup, up_len, keep_lst, keep_frl, keep_tup, keep_row, keep_tab, keep_ptr, ix_fr0, ix_fr1]
    simp only [List.length_cons] at hl
    have e1 : c - (r.length + 1) + 1 = c - r.length := by omega
    have hb := Nat.mul_le_mul_left m (show c - (r.length + 1) + 1 ≤ c + 1 by omega)
    rw [Nat.mul_add, Nat.mul_one] at hb
    refine ⟨(hx.1.pow _).cm hx.1 (by omega), (hx.2.pow _).cm hx.2 (by omega), hnx _ _ ⟨rfl, by omega, some (.int (0 + d)), ?_⟩⟩
    rw [← Int.pow_succ, ← Int.pow_succ, Nat.succ_eq_add_one, e1]
  · refine ⟨rfl, by simp, none, ?_⟩
    simp
theorem r__law_sign : ∀ ds M Φ Ψ, s_sign_of ds M Φ Ψ → ds.length = 2 ∧ T__law_sign s__law_raised (fnEnds M.length Φ Ψ) (startR N__law_sign ds) M := by
  rintro ds M Φ Ψ ⟨a, b, rfl, ha, hb, h⟩
  refine ⟨rfl, ?_⟩
  simp only [dSeq, dAsg, dIf, dIfS, dB, dOp, dUn, dCB, dCons, dNil, dTup, dLst, dVar, dC, dgName, dgTup, dgLst, dgCons, dgNil, dRet, dRetN, dDrop, dPar, dPar3, dNext, dAnd, dOr, dNot, dAndV, dOrV, dNotV, dChain, dCall, dCallR, dFor, diSeq, diRng1, diZip, diEnum, dLc, dYes, dElt, fnEnds, startR, wipeR, dAdd, dSub, dMul, dFdiv, dMod, dPow, dInt2, dNeg, dCmpI, dLt, dLe, dGt, dGe, dEq, dNe, dIsN, dIsNot, dIsB, dSl, dPart, dNoPart, dAbs, dInts2, dMax2, dMin2, dGcd, dInt, dIs1, dIs2, atI_0, atI_1, atI_2, atI_3, List.map, List.length, List.cons_append, List.nil_append, List.replicate, List.getElem?_cons_zero, List.getElem?_cons_succ, List.set, if_true, if_false, res_tup, res_lst, res_int, res_bl, res_str, res_non, res_fr, res_row, res_tab, res_ptr, ix_tup, ix_lst, ix_frl, ix_row, ix_tab, ix_fr0, ix_fr1, ix_ptr, len_tup, len_lst, len_frl, len_row, len_tab, len_ptr, sq_tup', sq_lst, sq_frl, sq_row, sq_tab, sq_ptr, lvf_lst, lvf_frl, lvf_ptr, isN_non, isN_tup, isN_int, isN_bl, sl_tup, sl_lst, sl_frl, sl_str, tupOf_lst, tupOf_tup, up_len, keep_lst, keep_frl, keep_tup, keep_row, keep_tab, keep_ptr, T__law_sign, N__law_sign, dvD]
  have m1 := ha.k
  have m2 := hb.k
  have sa := ha.sm.pow b.1
  have sb := hb.sm.pow a.1
  refine ⟨a.2, _, rfl, ⟨7905, ha.sm, by omega⟩, by omega, b.2, _, rfl, ⟨7905, hb.sm, by omega⟩, by omega, ?_⟩
  simp only [ix_fr0, ix_fr1, dSeq, dAsg, dIf, dIfS, dB, dOp, dUn, dCB, dCons, dNil, dTup, dLst, dVar, dC, dgName, dgTup, dgLst, dgCons, dgNil, dRet, dRetN, dDrop, dPar, dPar3, dNext, dAnd, dOr, dNot, dAndV, dOrV, dNotV, dChain, dCall, dCallR, dFor, diSeq, diRng1, diZip, diEnum, dLc, dYes, dElt, fnEnds, startR, wipeR, dAdd, dSub, dMul, dFdiv, dMod, dPow, dInt2, dNeg, dCmpI, dLt, dLe, dGt, dGe, dEq, dNe, dIsN, dIsNot, dIsB, dSl, dPart, dNoPart, dAbs, dInts2, dMax2, dMin2, dGcd, dInt, dIs1, dIs2, atI_0, atI_1, atI_2, atI_3, List.map, List.length, List.cons_append, List.nil_append, List.replicate, List.getElem?_cons_zero, List.getElem?_cons_succ, List.set, if_true, if_false, res_tup, res_lst, res_int, res_bl, res_str, res_non, res_fr, res_row, res_tab, res_ptr, ix_tup, ix_lst, ix_frl, ix_row, ix_tab, ix_fr0, ix_fr1, ix_ptr, len_tup, len_lst, len_frl, len_row, len_tab, len_ptr, sq_tup', sq_lst, sq_frl, sq_row, sq_tab, sq_ptr, lvf_lst, lvf_frl, lvf_ptr, isN_non, isN_tup, isN_int, isN_bl, sl_tup, sl_lst, sl_frl, sl_str, tupOf_lst, tupOf_tup, up_len, keep_lst, keep_frl, keep_tup, keep_row, keep_tab, keep_ptr]
  refine ⟨sa.1.cm sb.2 (by omega), sb.1.cm sa.2 (by omega), ?_⟩
  unfold sn at h
  generalize a.2 ^ b.1 = x at *
  generalize hy : b.2 ^ a.1 = y at *
  have hs : (x.num * (y.den : Int) - y.num * (x.den : Int) > 0) ↔ y < x := by rw [Rat.lt_iff]; omega
  have he : (x.num * (y.den : Int) - y.num * (x.den : Int) = 0) ↔ x = y := by
    constructor
    · intro z
      have l1 : x ≤ y := (Rat.le_iff x y).mpr (by omega)
      have l2 : y ≤ x := (Rat.le_iff y x).mpr (by omega)
      exact Rat.le_antisymm l1 l2
    · intro z
      rw [z]
      omega
  by_cases e : x = y
  · rw [if_pos e] at h
    have := he.mpr e
    refine no (by simp; omega) ⟨fl_int, fl_int, yes (by rw [eqv_ii]; simpa using this) (DropN.of h)⟩
  · rw [if_neg e] at h
    by_cases hl : y < x
    · rw [if_pos hl] at h
      exact yes (decide_eq_true (hs.mpr hl)) (DropN.of h)
    · rw [if_neg hl] at h
      have h1 : ¬ (x.num * (y.den : Int) - y.num * (x.den : Int) > 0) := fun z => hl (hs.mp z)
      exact no (by simp; omega) ⟨fl_int, fl_int, no (by rw [eqv_ii]; simpa using fun z => e (he.mp z)) (DropN.of h)⟩
end K85

set_option Elab.async false
set_option linter.all false
set_option autoImplicit false
set_option maxRecDepth 100000
set_option maxHeartbeats 4000000
/-! # The law's draws, its comparison, its diversities -/
namespace K85
open PySem PySem.Spec L2 DL
open PyProof.Rows hiding St
/-! ## draws -/
def s__law_cell : DSp := fun ds M Φ _ => ∃ (ns : List Int) (k : Nat), ds = [.frl (ns.map .int), .int (k : Nat)] ∧ k < 10 ∧ ∀ g : Int, Φ (.int g) M
theorem r__law_cell : ∀ ds M Φ Ψ, s__law_cell ds M Φ Ψ → ds.length = 2 ∧ T__law_cell (fnEnds M.length Φ Ψ) (startR N__law_cell ds) M := by
  rintro ds M Φ Ψ ⟨ns, k, rfl, hk, h⟩
  refine ⟨rfl, ?_⟩
  simp only [dSeq, dAsg, dIf, dIfS, dB, dOp, dUn, dCB, dCons, dNil, dTup, dLst, dVar, dC, dgName, dgTup, dgLst, dgCons, dgNil, dRet, dRetN, dDrop, dPar, dPar3, dNext, dAnd, dOr, dNot, dAndV, dOrV, dNotV, dChain, dCall, dCallR, dFor, diSeq, diRng1, diZip, diEnum, dLc, dYes, dElt, fnEnds, startR, wipeR, dAdd, dSub, dMul, dFdiv, dMod, dPow, dInt2, dNeg, dCmpI, dLt, dLe, dGt, dGe, dEq, dNe, dIsN, dIsNot, dIsB, dSl, dPart, dNoPart, dAbs, dInts2, dMax2, dMin2, dGcd, dInt, dIs1, dIs2, atI_0, atI_1, atI_2, atI_3, List.map, List.length, List.cons_append, List.nil_append, List.replicate, List.getElem?_cons_zero, List.getElem?_cons_succ, List.set, if_true, if_false, res_tup, res_lst, res_int, res_bl, res_str, res_non, res_fr, res_row, res_tab, res_ptr, ix_tup, ix_lst, ix_frl, ix_row, ix_tab, ix_fr0, ix_fr1, ix_ptr, len_tup, len_lst, len_frl, len_row, len_tab, len_ptr, sq_tup', sq_lst, sq_frl, sq_row, sq_tab, sq_ptr, lvf_lst, lvf_frl, lvf_ptr, isN_non, isN_tup, isN_int, isN_bl, sl_tup, sl_lst, sl_frl, sl_str, tupOf_lst, tupOf_tup, up_len, keep_lst, keep_frl, keep_tup, keep_row, keep_tab, keep_ptr, T__law_cell, N__law_cell, List.length_map]
  by_cases hl : k < ns.length
  · refine yes (by simpa using hl) ?_
    rw [DL.atI_nat, List.getElem?_map, List.getElem?_eq_getElem hl]
    exact DropN.of (h _)
  · refine no (by simpa using hl) ?_
    have b1 : Bt 14 (9157 : Int) := by unfold Bt; decide
    have b2 : Bt 4 ((k : Nat) : Int) := by unfold Bt; rw [Int.natAbs_natCast]; omega
    refine ⟨b1.cm b2 (by decide), ?_⟩
    have e : DL.cutD (ns.map D.int) none (some 1) = (ns.take 1).map D.int := by
      unfold DL.cutD
      rw [HT.sIx_none]
      have := HT.sIx_nat (ns.map D.int).length (ns.map D.int).length 1
      rw [show ((1 : Nat) : Int) = 1 from rfl] at this
      rw [this, List.drop_zero, Nat.sub_zero, ← List.map_take]
      congr 1
      rw [List.length_map]
      rcases ns with _ | ⟨a, r⟩
      · rfl
      · simp
    refine ⟨ns.take 1, by rw [← e]; rfl, by decide, DropN.of (h _)⟩
/-- what a box holds; n draws at most were mixed -/
def BoxM (n : Nat) (mo : MO) : Prop := ∃ (g : Int) (b : Bool) (m c : Int), mo = .lst [.int g, .bl b, .int m, .int c] ∧ 0 ≤ g ∧ 0 ≤ m ∧ m < 2147483648 ∧ 0 ≤ c ∧ c ≤ n
def Bx (k n : Nat) (M : Ms) : Prop := ∃ mo, M[k]? = some mo ∧ BoxM n mo
/-- the box was used -/
def Us (k n : Nat) (M M' : Ms) : Prop := k < M.length ∧ ∃ mo, M' = M.set k mo ∧ BoxM n mo
theorem BoxM.mono {m n : Nat} {mo : MO} (h : BoxM m mo) (l : m ≤ n) : BoxM n mo := by
  obtain ⟨g, b, m', c, e, h1, h2, h3, h4, h5⟩ := h
  exact ⟨g, b, m', c, e, h1, h2, h3, h4, by omega⟩
theorem Bx.mono {k m n : Nat} {M : Ms} (h : Bx k m M) (l : m ≤ n) : Bx k n M := by
  obtain ⟨mo, e, b⟩ := h
  exact ⟨mo, e, b.mono l⟩
theorem Us.mono {k m n : Nat} {M M' : Ms} (h : Us k m M M') (l : m ≤ n) : Us k n M M' := by
  obtain ⟨a, mo, e, b⟩ := h
  exact ⟨a, mo, e, b.mono l⟩
theorem Us.bx {k n : Nat} {M M' : Ms} (h : Us k n M M') : Bx k n M' := by
  obtain ⟨a, mo, rfl, b⟩ := h
  exact ⟨mo, List.getElem?_set_self a, b⟩
theorem Us.trans {k m n : Nat} {M M' M'' : Ms} (h : Us k m M M') (h' : Us k n M' M'') : Us k n M M'' := by
  obtain ⟨a, mo, rfl, b⟩ := h
  obtain ⟨a', mo', rfl, b'⟩ := h'
  exact ⟨a, mo', by rw [List.set_set], b'⟩
theorem Bx.us {k n : Nat} {M : Ms} (h : Bx k n M) : Us k n M M := by
  obtain ⟨mo, e, b⟩ := h
  refine ⟨(List.getElem?_eq_some_iff.mp e).1, mo, ?_, b⟩
  obtain ⟨hk, e'⟩ := List.getElem?_eq_some_iff.mp e
  rw [← e', List.set_getElem_self]
theorem Us.len {k n : Nat} {M M' : Ms} (h : Us k n M M') : M'.length = M.length := by
  obtain ⟨a, mo, rfl, b⟩ := h
  exact List.length_set
/-- cells that point nowhere out -/
def Cl (M : Ms) : Prop := M.all (MO.cl M.length) = true
theorem BoxM.cl {n m : Nat} {mo : MO} (h : BoxM n mo) : MO.cl m mo = true := by
  obtain ⟨g, b, m', c, rfl, _⟩ := h
  simp [MO.cl, D.clL, D.cl]
theorem Us.cl {k n : Nat} {M M' : Ms} (h : Us k n M M') (c : Cl M) : Cl M' := by
  obtain ⟨a, mo, rfl, b⟩ := h
  unfold Cl at *
  rw [List.length_set]
  rw [List.all_eq_true] at *
  intro x hx
  rcases List.mem_or_eq_of_mem_set hx with hx | rfl
  · exact c x hx
  · exact b.cl
def s__law_box : DSp := fun ds M Φ _ => ∃ g : Int, ds = [.int g] ∧ ∀ mo, BoxM 0 mo → Φ (.ptr M.length) (M ++ [mo])
theorem r__law_box : ∀ ds M Φ Ψ, s__law_box ds M Φ Ψ → ds.length = 1 ∧ T__law_box (fnEnds M.length Φ Ψ) (startR N__law_box ds) M := by
  rintro ds M Φ Ψ ⟨g, rfl, h⟩
  refine ⟨rfl, ?_⟩
  simp only [dSeq, dAsg, dIf, dIfS, dB, dOp, dUn, dCB, dCons, dNil, dTup, dLst, dVar, dC, dgName, dgTup, dgLst, dgCons, dgNil, dRet, dRetN, dDrop, dPar, dPar3, dNext, dAnd, dOr, dNot, dAndV, dOrV, dNotV, dChain, dCall, dCallR, dFor, diSeq, diRng1, diZip, diEnum, dLc, dYes, dElt, fnEnds, startR, wipeR, dAdd, dSub, dMul, dFdiv, dMod, dPow, dInt2, dNeg, dCmpI, dLt, dLe, dGt, dGe, dEq, dNe, dIsN, dIsNot, dIsB, dSl, dPart, dNoPart, dAbs, dInts2, dMax2, dMin2, dGcd, dInt, dIs1, dIs2, atI_0, atI_1, atI_2, atI_3, List.map, List.length, List.cons_append, List.nil_append, List.replicate, List.getElem?_cons_zero, List.getElem?_cons_succ, List.set, if_true, if_false, res_tup, res_lst, res_int, res_bl, res_str, res_non, res_fr, res_row, res_tab, res_ptr, ix_tup, ix_lst, ix_frl, ix_row, ix_tab, ix_fr0, ix_fr1, ix_ptr, len_tup, len_lst, len_frl, len_row, len_tab, len_ptr, sq_tup', sq_lst, sq_frl, sq_row, sq_tab, sq_ptr, lvf_lst, lvf_frl, lvf_ptr, isN_non, isN_tup, isN_int, isN_bl, sl_tup, sl_lst, sl_frl, sl_str, tupOf_lst, tupOf_tup, up_len, keep_lst, keep_frl, keep_tup, keep_row, keep_tab, keep_ptr, T__law_box, N__law_box, dLstM, abs_nat]
  refine ⟨⟨by decide, by decide, by decide⟩, by decide, by decide, DropN.of (h _ ⟨_, _, _, _, rfl, Int.natCast_nonneg _, ?_, ?_, by decide, by decide⟩)⟩
  · exact Int.fmod_nonneg_of_pos _ (by decide)
  · have := Int.fmod_lt_of_pos (g.natAbs : Int) (b := 2147483629) (by decide)
    omega
def s__law_take : DSp := fun ds M Φ _ => ∃ (k n : Nat) (many : Int), ds = [.ptr k, .int many] ∧ 0 < many ∧ many ≤ 1000 ∧ Bx k n M ∧ n ≤ 100000 ∧ ∀ r M', 0 ≤ r → r < many → Us k (n + 1) M M' → Φ (.int r) M'
theorem ixN4_0 {a b c d : D} : L2.ixN [a, b, c, d].length 0 = some 0 := rfl
theorem ixN4_3 {a b c d : D} : L2.ixN [a, b, c, d].length 3 = some 3 := rfl
theorem r__law_take : ∀ ds M Φ Ψ, s__law_take ds M Φ Ψ → ds.length = 2 ∧ T__law_take (fnEnds M.length Φ Ψ) (startR N__law_take ds) M := by
  rintro ds M Φ Ψ ⟨k, n, many, rfl, hm, hm2, ⟨mo, hM, g, b, m, c, rfl, g0, m0, m1, c0, c1⟩, hn, h⟩
  refine ⟨rfl, ?_⟩
  have hk : k < M.length := (List.getElem?_eq_some_iff.mp hM).1
  have hM' : ∀ mo, (M.set k mo)[k]? = some mo := fun mo => List.getElem?_set_self hk
  simp only [T__law_take, N__law_take, dSeq, dIfS, dAnd, dB, dOp, dVar, dC, startR, List.map, List.length, List.replicate, List.cons_append, List.nil_append, List.getElem?_cons_zero, List.getElem?_cons_succ, ix_ptr hM, atI_0, atI_1, atI_2, atI_3, dGt, dCmpI, dNext]
  have tail : dSeq (dAsg (dOp dAdd (dOp dIx (dVar 0) (dC (.int 3))) (dC (.int 1))) (dgSub (dVar 0) (dC (.int 3))))
    (dSeq (dAsg (dOp dMod (dCB dInt (dCons (dOp dPow (dOp dAdd (dOp dAdd (dOp dIx (dVar 0) (dC (.int 2))) (dOp dMul (dC (.int 15487223)) (dOp dIx (dVar 0) (dC (.int 3))))) (dC (.int 179426281))) (dC (.int 5))) dNil)) (dC (.int 2147483647))) (dgName 2))
    (dRet (dOp dMod (dCB dInt (dCons (dOp dFdiv (dOp dMod (dCB dInt (dCons (dOp dPow (dOp dAdd (dOp dMul (dVar 2) (dC (.int 48271))) (dOp dMul (dC (.int 9181)) (dOp dIx (dVar 0) (dC (.int 3))))) (dC (.int 3))) dNil)) (dC (.int 2147483587))) (dC (.int 64))) dNil)) (dVar 1)))) (fnEnds M.length Φ Ψ) [some (.ptr k), some (.int many), none, none] M := by
    simp only [dSeq, dAsg, dB, dOp, dVar, dC, List.getElem?_cons_zero, List.getElem?_cons_succ, ix_ptr hM, atI_0, atI_1, atI_2, atI_3, dAdd, dgSub, hM, List.length, L2.ixN]
    simp only [show (if (0 : Int) ≤ 3 then (if (3 : Int) < ((0 + 1 + 1 + 1 + 1 : Nat) : Int) then some (3 : Int).toNat else none) else if -((0 + 1 + 1 + 1 + 1 : Nat) : Int) ≤ 3 then some ((3 : Int) + ((0 + 1 + 1 + 1 + 1 : Nat) : Int)).toNat else none) = some 3 from rfl]
    simp only [ix_ptr (hM' _), dSeq, dAsg, dIf, dIfS, dB, dOp, dUn, dCB, dCons, dNil, dTup, dLst, dVar, dC, dgName, dgTup, dgLst, dgCons, dgNil, dRet, dRetN, dDrop, dPar, dPar3, dNext, dAnd, dOr, dNot, dAndV, dOrV, dNotV, dChain, dCall, dCallR, dFor, diSeq, diRng1, diZip, diEnum, dLc, dYes, dElt, fnEnds, startR, wipeR, dAdd, dSub, dMul, dFdiv, dMod, dPow, dInt2, dNeg, dCmpI, dLt, dLe, dGt, dGe, dEq, dNe, dIsN, dIsNot, dIsB, dSl, dPart, dNoPart, dAbs, dInts2, dMax2, dMin2, dGcd, dInt, dIs1, dIs2, atI_0, atI_1, atI_2, atI_3, List.map, List.length, List.cons_append, List.nil_append, List.replicate, List.getElem?_cons_zero, List.getElem?_cons_succ, List.set, if_true, if_false, res_tup, res_lst, res_int, res_bl, res_str, res_non, res_fr, res_row, res_tab, res_ptr, ix_tup, ix_lst, ix_frl, ix_row, ix_tab, ix_fr0, ix_fr1, ix_ptr, len_tup, len_lst, len_frl, len_row, len_tab, len_ptr, sq_tup', sq_lst, sq_frl, sq_row, sq_tab, sq_ptr, lvf_lst, lvf_frl, lvf_ptr, isN_non, isN_tup, isN_int, isN_bl, sl_tup, sl_lst, sl_frl, sl_str, tupOf_lst, tupOf_tup, up_len, keep_lst, keep_frl, keep_tup, keep_row, keep_tab, keep_ptr]
    have b1 : Bt 24 (15487223 : Int) := by unfold Bt; decide
    have b2 : Bt 20 (c + 1) := by unfold Bt; omega
    have b3 : Bt 31 (((m + 15487223 * (c + 1) + 179426281) ^ 5).fmod 2147483647) := by
      have h1 := Int.fmod_nonneg_of_pos ((m + 15487223 * (c + 1) + 179426281) ^ 5) (b := 2147483647) (by decide)
      have h2 := Int.fmod_lt_of_pos ((m + 15487223 * (c + 1) + 179426281) ^ 5) (b := 2147483647) (by decide)
      unfold Bt
      omega
    have b5 : Int.toNat 5 = 5 := rfl
    rw [b5]
    generalize ((m + 15487223 * (c + 1) + 179426281) ^ 5).fmod 2147483647 = q at *
    have b4 : Bt 16 (48271 : Int) := by unfold Bt; decide
    have b6 : Bt 14 (9181 : Int) := by unfold Bt; decide
    have b7 := ((b3.mul b4).add (b6.mul b2))
    refine ⟨b1.cm b2 (by decide), ⟨by decide, by decide, by omega⟩, by decide, b3.cm b4 (by decide), b6.cm b2 (by decide), ⟨by decide, by decide, ?_⟩, by decide, ⟨by decide, by decide⟩, by omega, DropN.of (h _ _ (Int.fmod_nonneg_of_pos _ hm) (Int.fmod_lt_of_pos _ hm) ⟨hk, _, rfl, _, _, _, _, rfl, g0, m0, m1, by omega, by omega⟩)⟩
    unfold Bt at b7
    exact Nat.lt_of_lt_of_le b7 (by decide)
  have done : ∀ M', M' = M.set k (.lst [.int (g.fdiv many), .bl b, .int m, .int c]) → Φ (.int (g.fmod many)) M' := fun M' e => h _ _ (Int.fmod_nonneg_of_pos _ hm) (Int.fmod_lt_of_pos _ hm) ⟨hk, _, e, _, _, _, _, rfl, by
    rw [Int.fdiv_eq_ediv_of_nonneg _ (by omega)]
    exact Int.ediv_nonneg g0 (by omega), m0, m1, c0, by omega⟩
  cases b with
  | false => exact no (by decide) (no (by decide) tail)
  | true =>
    refine yes (by decide) ?_
    by_cases hg : 0 < g
    · refine yes (by simpa using hg) ?_
      simp only [ix_ptr hM, dgSub, hM, dSeq, dAsg, dIf, dIfS, dB, dOp, dUn, dCB, dCons, dNil, dTup, dLst, dVar, dC, dgName, dgTup, dgLst, dgCons, dgNil, dRet, dRetN, dDrop, dPar, dPar3, dNext, dAnd, dOr, dNot, dAndV, dOrV, dNotV, dChain, dCall, dCallR, dFor, diSeq, diRng1, diZip, diEnum, dLc, dYes, dElt, fnEnds, startR, wipeR, dAdd, dSub, dMul, dFdiv, dMod, dPow, dInt2, dNeg, dCmpI, dLt, dLe, dGt, dGe, dEq, dNe, dIsN, dIsNot, dIsB, dSl, dPart, dNoPart, dAbs, dInts2, dMax2, dMin2, dGcd, dInt, dIs1, dIs2, atI_0, atI_1, atI_2, atI_3, List.map, List.length, List.cons_append, List.nil_append, List.replicate, List.getElem?_cons_zero, List.getElem?_cons_succ, List.set, if_true, if_false, res_tup, res_lst, res_int, res_bl, res_str, res_non, res_fr, res_row, res_tab, res_ptr, ix_tup, ix_lst, ix_frl, ix_row, ix_tab, ix_fr0, ix_fr1, ix_ptr, len_tup, len_lst, len_frl, len_row, len_tab, len_ptr, sq_tup', sq_lst, sq_frl, sq_row, sq_tab, sq_ptr, lvf_lst, lvf_frl, lvf_ptr, isN_non, isN_tup, isN_int, isN_bl, sl_tup, sl_lst, sl_frl, sl_str, tupOf_lst, tupOf_tup, up_len, keep_lst, keep_frl, keep_tup, keep_row, keep_tab, keep_ptr, L2.ixN]
      refine ⟨by omega, ⟨by omega, ?_⟩, DropN.of (done _ rfl)⟩
      have : Bt 10 many := by unfold Bt; omega
      have := this.log
      omega
    · exact no (by simpa using hg) tail
def s__law_pick : DSp := fun ds M Φ _ => ∃ (k n : Nat) (xs : List D), ds = [.ptr k, .lst xs] ∧ 0 < xs.length ∧ xs.length ≤ 1000 ∧ Bx k n M ∧ n ≤ 100000 ∧ ∀ x M', x ∈ xs → Us k (n + 1) M M' → Φ x M'
theorem r__law_pick : ∀ ds M Φ Ψ, s__law_pick ds M Φ Ψ → ds.length = 2 ∧ T__law_pick s__law_take (fnEnds M.length Φ Ψ) (startR N__law_pick ds) M := by
  rintro ds M Φ Ψ ⟨k, n, xs, rfl, h0, h1, hb, hn, h⟩
  refine ⟨rfl, ?_⟩
  simp only [dSeq, dAsg, dIf, dIfS, dB, dOp, dUn, dCB, dCons, dNil, dTup, dLst, dVar, dC, dgName, dgTup, dgLst, dgCons, dgNil, dRet, dRetN, dDrop, dPar, dPar3, dNext, dAnd, dOr, dNot, dAndV, dOrV, dNotV, dChain, dCall, dCallR, dFor, diSeq, diRng1, diZip, diEnum, dLc, dYes, dElt, fnEnds, startR, wipeR, dAdd, dSub, dMul, dFdiv, dMod, dPow, dInt2, dNeg, dCmpI, dLt, dLe, dGt, dGe, dEq, dNe, dIsN, dIsNot, dIsB, dSl, dPart, dNoPart, dAbs, dInts2, dMax2, dMin2, dGcd, dInt, dIs1, dIs2, atI_0, atI_1, atI_2, atI_3, List.map, List.length, List.cons_append, List.nil_append, List.replicate, List.getElem?_cons_zero, List.getElem?_cons_succ, List.set, if_true, if_false, res_tup, res_lst, res_int, res_bl, res_str, res_non, res_fr, res_row, res_tab, res_ptr, ix_tup, ix_lst, ix_frl, ix_row, ix_tab, ix_fr0, ix_fr1, ix_ptr, len_tup, len_lst, len_frl, len_row, len_tab, len_ptr, sq_tup', sq_lst, sq_frl, sq_row, sq_tab, sq_ptr, lvf_lst, lvf_frl, lvf_ptr, isN_non, isN_tup, isN_int, isN_bl, sl_tup, sl_lst, sl_frl, sl_str, tupOf_lst, tupOf_tup, up_len, keep_lst, keep_frl, keep_tup, keep_row, keep_tab, keep_ptr, T__law_pick, N__law_pick]
  refine ⟨k, n, _, rfl, by omega, by omega, hb, hn, fun r M' r0 r1 us => ?_⟩
  obtain ⟨i, rfl⟩ : ∃ i : Nat, r = (i : Nat) := ⟨r.toNat, by omega⟩
  have hi : i < xs.length := by omega
  rw [ix_lst, DL.atI_nat, List.getElem?_eq_getElem hi]
  exact DropN.of (h _ _ (List.getElem_mem hi) us)
/-! ## the comparison -/
/-- a text whose characters are told apart -/
def sokB (x : Str) : Bool := PyData.strOk x && (List.range x.length).all fun k => match L2.atI x.cps.toList (k : Int) with
  | some c => (cutS x (some (k : Int)) (some ((k : Int) + 1)) == (⟨#[c]⟩ : Str)) && PyData.strOk ⟨#[c]⟩
  | none => false
/-- data that may be compared -/
def Wf : Nat → D → Prop
  | _, .non => True
  | _, .bl _ => True
  | _, .int _ => True
  | _, .str x => sokB x = true ∧ x.length ≤ 1000
  | n + 1, .tup ds => ds.length ≤ 1000 ∧ ∀ d ∈ ds, Wf n d
  | n + 1, .lst ds => ds.length ≤ 1000 ∧ ∀ d ∈ ds, Wf n d
  | _, _ => False
def s__law_same (n : Nat) : DSp := fun ds M Φ _ => ∃ d, ds = [d, d] ∧ Wf n d ∧ Φ (.bl true) M
/-- what the comparison rests on, one step down -/
def sP : Nat → DSp
  | 0 => fun _ _ _ _ => False
  | n + 1 => s__law_same n
theorem up_int {n : Nat} : rngD 0 ((n : Int)).toNat = (List.range n).map fun k : Nat => D.int (0 + (k : Nat)) := by rw [Int.toNat_natCast]; rfl
theorem filt_none {A : Type} (xs : List A) : (xs.filter fun _ => false) = [] := by simp
theorem same_seq {n : Nat} {M : Ms} {Φ : DK} {ds : List D} {d : D} (hd : d = .tup ds ∨ d = .lst ds) (hl : ds.length ≤ 1000) (hw : ∀ e ∈ ds, Wf n e) (h : Φ (.bl true) M) :
    dGo (fun d' acc M2 k => dIx d d' M2 fun d_1 M1 => dIx d d' M1 fun d_2 M1 => s__law_same n [d_1, d_2] M1 (fun d_3 M1 => match d_3 with
      | D.bl b => if (!b) = true then acc.length < sizeLine ∧ k (acc ++ [d']) M1 else k acc M1
      | _ => False) fun _ _ => False) (fun _ => True) (fun acc M2 => 0 ≤ sizeLine ∧ dEq (.lst acc) (.lst []) M2 Φ) (rngD 0 ((ds.length : Nat) : Int).toNat) [] M := by
  rw [up_int]
  refine go_filter (e := fun k : Nat => D.int (0 + (k : Nat))) (f := fun k : Nat => D.int (0 + (k : Nat))) (fun _ => false) (List.range ds.length) (fun k hk acc kk hk1 hk2 hl => ?_) trivial (small (by simp; omega)) ?_
  · have hk := List.mem_range.mp hk
    have e : dIx d (.int (0 + (k : Nat))) = fun M Φ => Φ ds[k] M := by
      funext M Φ
      rcases hd with rfl | rfl
      · simp only [ix_tup, Int.zero_add, DL.atI_nat, List.getElem?_eq_getElem hk]
      · simp only [ix_lst, Int.zero_add, DL.atI_nat, List.getElem?_eq_getElem hk]
    rw [e]
    exact ⟨ds[k], rfl, hw _ (List.getElem_mem hk), no (by decide) (hk2 rfl)⟩
  · rw [filt_none]
    exact ⟨by decide, rfl, rfl, h⟩
theorem r__law_same : ∀ n, ∀ ds M Φ Ψ, s__law_same n ds M Φ Ψ → ds.length = 2 ∧ T__law_same (sP n) (fnEnds M.length Φ Ψ) (startR N__law_same ds) M := by
  rintro n ds M Φ Ψ ⟨d, rfl, hw, h⟩
  refine ⟨rfl, ?_⟩
  cases d with
  | non =>
    simp only [dSeq, dAsg, dIf, dIfS, dB, dOp, dUn, dCB, dCons, dNil, dTup, dLst, dVar, dC, dgName, dgTup, dgLst, dgCons, dgNil, dRet, dRetN, dDrop, dPar, dPar3, dNext, dAnd, dOr, dNot, dAndV, dOrV, dNotV, dChain, dCall, dCallR, dFor, diSeq, diRng1, diZip, diEnum, dLc, dYes, dElt, fnEnds, startR, wipeR, dAdd, dSub, dMul, dFdiv, dMod, dPow, dInt2, dNeg, dCmpI, dLt, dLe, dGt, dGe, dEq, dNe, dIsN, dIsNot, dIsB, dSl, dPart, dNoPart, dAbs, dInts2, dMax2, dMin2, dGcd, dInt, dIs1, dIs2, atI_0, atI_1, atI_2, atI_3, List.map, List.length, List.cons_append, List.nil_append, List.replicate, List.getElem?_cons_zero, List.getElem?_cons_succ, List.set, if_true, if_false, res_tup, res_lst, res_int, res_bl, res_str, res_non, res_fr, res_row, res_tab, res_ptr, ix_tup, ix_lst, ix_frl, ix_row, ix_tab, ix_fr0, ix_fr1, ix_ptr, len_tup, len_lst, len_frl, len_row, len_tab, len_ptr, sq_tup', sq_lst, sq_frl, sq_row, sq_tab, sq_ptr, lvf_lst, lvf_frl, lvf_ptr, isN_non, isN_tup, isN_int, isN_bl, sl_tup, sl_lst, sl_frl, sl_str, tupOf_lst, tupOf_tup, up_len, keep_lst, keep_frl, keep_tup, keep_row, keep_tab, keep_ptr, T__law_same, N__law_same, D.tyn, if_pos trivial]
    exact DropN.of h
  | bl b =>
    simp only [dSeq, dAsg, dIf, dIfS, dB, dOp, dUn, dCB, dCons, dNil, dTup, dLst, dVar, dC, dgName, dgTup, dgLst, dgCons, dgNil, dRet, dRetN, dDrop, dPar, dPar3, dNext, dAnd, dOr, dNot, dAndV, dOrV, dNotV, dChain, dCall, dCallR, dFor, diSeq, diRng1, diZip, diEnum, dLc, dYes, dElt, fnEnds, startR, wipeR, dAdd, dSub, dMul, dFdiv, dMod, dPow, dInt2, dNeg, dCmpI, dLt, dLe, dGt, dGe, dEq, dNe, dIsN, dIsNot, dIsB, dSl, dPart, dNoPart, dAbs, dInts2, dMax2, dMin2, dGcd, dInt, dIs1, dIs2, atI_0, atI_1, atI_2, atI_3, List.map, List.length, List.cons_append, List.nil_append, List.replicate, List.getElem?_cons_zero, List.getElem?_cons_succ, List.set, if_true, if_false, res_tup, res_lst, res_int, res_bl, res_str, res_non, res_fr, res_row, res_tab, res_ptr, ix_tup, ix_lst, ix_frl, ix_row, ix_tab, ix_fr0, ix_fr1, ix_ptr, len_tup, len_lst, len_frl, len_row, len_tab, len_ptr, sq_tup', sq_lst, sq_frl, sq_row, sq_tab, sq_ptr, lvf_lst, lvf_frl, lvf_ptr, isN_non, isN_tup, isN_int, isN_bl, sl_tup, sl_lst, sl_frl, sl_str, tupOf_lst, tupOf_tup, up_len, keep_lst, keep_frl, keep_tup, keep_row, keep_tab, keep_ptr, T__law_same, N__law_same, D.tyn]
    refine no Bool.false_ne_true (yes (by decide) (no Bool.false_ne_true (yes (by decide) ⟨fl_bl, fl_bl, DropN.of ?_⟩)))
    cases b <;> exact h
  | int i =>
    simp only [dSeq, dAsg, dIf, dIfS, dB, dOp, dUn, dCB, dCons, dNil, dTup, dLst, dVar, dC, dgName, dgTup, dgLst, dgCons, dgNil, dRet, dRetN, dDrop, dPar, dPar3, dNext, dAnd, dOr, dNot, dAndV, dOrV, dNotV, dChain, dCall, dCallR, dFor, diSeq, diRng1, diZip, diEnum, dLc, dYes, dElt, fnEnds, startR, wipeR, dAdd, dSub, dMul, dFdiv, dMod, dPow, dInt2, dNeg, dCmpI, dLt, dLe, dGt, dGe, dEq, dNe, dIsN, dIsNot, dIsB, dSl, dPart, dNoPart, dAbs, dInts2, dMax2, dMin2, dGcd, dInt, dIs1, dIs2, atI_0, atI_1, atI_2, atI_3, List.map, List.length, List.cons_append, List.nil_append, List.replicate, List.getElem?_cons_zero, List.getElem?_cons_succ, List.set, if_true, if_false, res_tup, res_lst, res_int, res_bl, res_str, res_non, res_fr, res_row, res_tab, res_ptr, ix_tup, ix_lst, ix_frl, ix_row, ix_tab, ix_fr0, ix_fr1, ix_ptr, len_tup, len_lst, len_frl, len_row, len_tab, len_ptr, sq_tup', sq_lst, sq_frl, sq_row, sq_tab, sq_ptr, lvf_lst, lvf_frl, lvf_ptr, isN_non, isN_tup, isN_int, isN_bl, sl_tup, sl_lst, sl_frl, sl_str, tupOf_lst, tupOf_tup, up_len, keep_lst, keep_frl, keep_tup, keep_row, keep_tab, keep_ptr, T__law_same, N__law_same, D.tyn]
    refine no Bool.false_ne_true (no (by decide) (yes (by decide) (yes (by decide) (yes (by decide) ⟨fl_int, fl_int, DropN.of ?_⟩))))
    rw [Int.sub_self]
    exact h
  | str x =>
    simp only [dSeq, dAsg, dIf, dIfS, dB, dOp, dUn, dCB, dCons, dNil, dTup, dLst, dVar, dC, dgName, dgTup, dgLst, dgCons, dgNil, dRet, dRetN, dDrop, dPar, dPar3, dNext, dAnd, dOr, dNot, dAndV, dOrV, dNotV, dChain, dCall, dCallR, dFor, diSeq, diRng1, diZip, diEnum, dLc, dYes, dElt, fnEnds, startR, wipeR, dAdd, dSub, dMul, dFdiv, dMod, dPow, dInt2, dNeg, dCmpI, dLt, dLe, dGt, dGe, dEq, dNe, dIsN, dIsNot, dIsB, dSl, dPart, dNoPart, dAbs, dInts2, dMax2, dMin2, dGcd, dInt, dIs1, dIs2, atI_0, atI_1, atI_2, atI_3, List.map, List.length, List.cons_append, List.nil_append, List.replicate, List.getElem?_cons_zero, List.getElem?_cons_succ, List.set, if_true, if_false, res_tup, res_lst, res_int, res_bl, res_str, res_non, res_fr, res_row, res_tab, res_ptr, ix_tup, ix_lst, ix_frl, ix_row, ix_tab, ix_fr0, ix_fr1, ix_ptr, len_tup, len_lst, len_frl, len_row, len_tab, len_ptr, sq_tup', sq_lst, sq_frl, sq_row, sq_tab, sq_ptr, lvf_lst, lvf_frl, lvf_ptr, isN_non, isN_tup, isN_int, isN_bl, sl_tup, sl_lst, sl_frl, sl_str, tupOf_lst, tupOf_tup, up_len, keep_lst, keep_frl, keep_tup, keep_row, keep_tab, keep_ptr, T__law_same, N__law_same, D.tyn]
    have hs : sokB x = true ∧ x.length ≤ 1000 := by cases n <;> exact hw
    obtain ⟨hs, hl⟩ := hs
    unfold sokB at hs
    rw [Bool.and_eq_true, List.all_eq_true] at hs
    have hl' : x.length ≤ sizeLine := small (by omega)
    refine no Bool.false_ne_true (no (by decide) (no (by decide) (yes (by decide) (yes (by decide) ⟨hl', hl', fl_int, fl_int, yes (by rw [res_int, eqv_ii]; simp) ⟨hl', by omega, by omega, ?_⟩⟩))))
    rw [up_int]
    refine go_filter (e := fun k : Nat => D.int (0 + (k : Nat))) (f := fun k : Nat => D.int (0 + (k : Nat))) (fun _ => false) (List.range x.length) (fun k hk acc kk hk1 hk2 hl2 => ?_) trivial (small (by simp; omega)) ?_
    · have h2 := hs.2 k hk
      cases q : L2.atI x.cps.toList (k : Int) with
      | none => rw [q] at h2; cases h2
      | some c =>
        rw [q] at h2
        rw [Bool.and_eq_true] at h2
        have e1 : cutS x (some (k : Int)) (some ((k : Int) + 1)) = (⟨#[c]⟩ : Str) := eq_of_beq h2.1
        simp only [Int.zero_add]
        refine ⟨hl', ?_⟩
        unfold dIx
        refine ⟨hl', ?_⟩
        rw [q]
        rw [e1]
        refine ⟨fl_str h2.2, fl_str h2.2, no ?_ (hk2 rfl)⟩
        rw [res_str, D.eqv_self 60 _ (fl_str h2.2)]
        decide
    · rw [filt_none]
      exact ⟨by decide, rfl, rfl, DropN.of h⟩
  | tup ds =>
    simp only [dSeq, dAsg, dIf, dIfS, dB, dOp, dUn, dCB, dCons, dNil, dTup, dLst, dVar, dC, dgName, dgTup, dgLst, dgCons, dgNil, dRet, dRetN, dDrop, dPar, dPar3, dNext, dAnd, dOr, dNot, dAndV, dOrV, dNotV, dChain, dCall, dCallR, dFor, diSeq, diRng1, diZip, diEnum, dLc, dYes, dElt, fnEnds, startR, wipeR, dAdd, dSub, dMul, dFdiv, dMod, dPow, dInt2, dNeg, dCmpI, dLt, dLe, dGt, dGe, dEq, dNe, dIsN, dIsNot, dIsB, dSl, dPart, dNoPart, dAbs, dInts2, dMax2, dMin2, dGcd, dInt, dIs1, dIs2, atI_0, atI_1, atI_2, atI_3, List.map, List.length, List.cons_append, List.nil_append, List.replicate, List.getElem?_cons_zero, List.getElem?_cons_succ, List.set, if_true, if_false, res_tup, res_lst, res_int, res_bl, res_str, res_non, res_fr, res_row, res_tab, res_ptr, ix_tup, ix_lst, ix_frl, ix_row, ix_tab, ix_fr0, ix_fr1, ix_ptr, len_tup, len_lst, len_frl, len_row, len_tab, len_ptr, sq_tup', sq_lst, sq_frl, sq_row, sq_tab, sq_ptr, lvf_lst, lvf_frl, lvf_ptr, isN_non, isN_tup, isN_int, isN_bl, sl_tup, sl_lst, sl_frl, sl_str, tupOf_lst, tupOf_tup, up_len, keep_lst, keep_frl, keep_tup, keep_row, keep_tab, keep_ptr, T__law_same, N__law_same, D.tyn]
    cases n with
    | zero => exact hw.elim
    | succ n =>
      obtain ⟨hl, hw⟩ := hw
      refine no Bool.false_ne_true (no (by decide) (no (by decide) (no (by decide) (no (by decide) (no (by decide) ⟨fl_bl, fl_bl, no (by simp [D.eqv]) ⟨fl_bl, fl_bl, no (by simp [D.eqv]) ⟨fl_int, fl_int, yes (by simp [D.eqv]) ⟨by omega, by omega, ?_⟩⟩⟩⟩)))))
      exact same_seq (.inl rfl) hl hw (DropN.of h)
  | lst ds =>
    simp only [dSeq, dAsg, dIf, dIfS, dB, dOp, dUn, dCB, dCons, dNil, dTup, dLst, dVar, dC, dgName, dgTup, dgLst, dgCons, dgNil, dRet, dRetN, dDrop, dPar, dPar3, dNext, dAnd, dOr, dNot, dAndV, dOrV, dNotV, dChain, dCall, dCallR, dFor, diSeq, diRng1, diZip, diEnum, dLc, dYes, dElt, fnEnds, startR, wipeR, dAdd, dSub, dMul, dFdiv, dMod, dPow, dInt2, dNeg, dCmpI, dLt, dLe, dGt, dGe, dEq, dNe, dIsN, dIsNot, dIsB, dSl, dPart, dNoPart, dAbs, dInts2, dMax2, dMin2, dGcd, dInt, dIs1, dIs2, atI_0, atI_1, atI_2, atI_3, List.map, List.length, List.cons_append, List.nil_append, List.replicate, List.getElem?_cons_zero, List.getElem?_cons_succ, List.set, if_true, if_false, res_tup, res_lst, res_int, res_bl, res_str, res_non, res_fr, res_row, res_tab, res_ptr, ix_tup, ix_lst, ix_frl, ix_row, ix_tab, ix_fr0, ix_fr1, ix_ptr, len_tup, len_lst, len_frl, len_row, len_tab, len_ptr, sq_tup', sq_lst, sq_frl, sq_row, sq_tab, sq_ptr, lvf_lst, lvf_frl, lvf_ptr, isN_non, isN_tup, isN_int, isN_bl, sl_tup, sl_lst, sl_frl, sl_str, tupOf_lst, tupOf_tup, up_len, keep_lst, keep_frl, keep_tup, keep_row, keep_tab, keep_ptr, T__law_same, N__law_same, D.tyn]
    cases n with
    | zero => exact hw.elim
    | succ n =>
      obtain ⟨hl, hw⟩ := hw
      refine no Bool.false_ne_true (no (by decide) (no (by decide) (no (by decide) (no (by decide) (no (by decide) ⟨fl_bl, fl_bl, no (by simp [D.eqv]) ⟨fl_bl, fl_bl, no (by simp [D.eqv]) ⟨fl_int, fl_int, yes (by simp [D.eqv]) ⟨by omega, by omega, ?_⟩⟩⟩⟩)))))
      exact same_seq (.inr rfl) hl hw (DropN.of h)
  | _ => cases n <;> exact hw.elim
end K85

set_option Elab.async false
set_option linter.all false
set_option autoImplicit false
set_option maxRecDepth 100000
set_option maxHeartbeats 4000000
/-! # The law's diversities, what it is told -/
namespace K85
open PySem PySem.Spec L2 DL
open PyProof.Rows hiding St
theorem supp_head {n : Nat} {p : Nat → Rat} (C : Cm n p) : ∃ k r, supp n p = k :: r := by
  cases e : supp n p with
  | nil => exact absurd e (supp_ne C)
  | cons k r => exact ⟨k, r, rfl⟩
theorem mx_head {n : Nat} {z : Nat → Nat → Rat} {p : Nat → Rat} (L : Lk n z) (C : Cm n p) {k : Nat} {r : List Nat} (e : supp n p = k :: r) : mxA (xx n z p k) ((supp n p).map (xx n z p)) = mx n z p := by
  unfold mx
  rw [e, List.map_cons]
  unfold mxA
  have := (xx_pm L C).xp k (by rw [e]; exact List.mem_cons_self)
  rw [if_pos this]
  split <;> rfl
theorem r__law_diversity : ∀ ds M Φ Ψ, s_diversity_of ds M Φ Ψ → ds.length = 3 ∧ T__law_diversity s_applied_to s_is_less s_over s_total s_common_multiple s__law_raised s_lowest s_times (fnEnds M.length Φ Ψ) (startR N__law_diversity ds) M := by
  rintro ds M Φ Ψ ⟨n, z, p, o, rfl, L, C, K, h⟩
  refine ⟨rfl, ?_⟩
  have n8 := L.n8
  have sl := supp_len (n := n) (p := p)
  simp only [dSeq, dAsg, dIf, dIfS, dB, dOp, dUn, dCB, dCons, dNil, dTup, dLst, dVar, dC, dgName, dgTup, dgLst, dgCons, dgNil, dRet, dRetN, dDrop, dPar, dPar3, dNext, dAnd, dOr, dNot, dAndV, dOrV, dNotV, dChain, dCall, dCallR, dFor, diSeq, diRng1, diZip, diEnum, dLc, dYes, dElt, fnEnds, startR, wipeR, dAdd, dSub, dMul, dFdiv, dMod, dPow, dInt2, dNeg, dCmpI, dLt, dLe, dGt, dGe, dEq, dNe, dIsN, dIsNot, dIsB, dSl, dPart, dNoPart, dAbs, dInts2, dMax2, dMin2, dGcd, dInt, dIs1, dIs2, atI_0, atI_1, atI_2, atI_3, List.map, List.length, List.cons_append, List.nil_append, List.replicate, List.getElem?_cons_zero, List.getElem?_cons_succ, List.set, if_true, if_false, res_tup, res_lst, res_int, res_bl, res_str, res_non, res_fr, res_row, res_tab, res_ptr, ix_tup, ix_lst, ix_frl, ix_row, ix_tab, ix_fr0, ix_fr1, ix_ptr, len_tup, len_lst, len_frl, len_row, len_tab, len_ptr, sq_tup', sq_lst, sq_frl, sq_row, sq_tab, sq_ptr, lvf_lst, lvf_frl, lvf_ptr, isN_non, isN_tup, isN_int, isN_bl, sl_tup, sl_lst, sl_frl, sl_str, tupOf_lst, tupOf_tup, up_len, keep_lst, keep_frl, keep_tup, keep_row, keep_tab, keep_ptr, T__law_diversity, N__law_diversity]
  refine ⟨n, n, z, p, rfl, ⟨3, 7, fun i hi k hk => L.sm i hi k hk, C.sm, by omega⟩, by omega, by omega, by omega, by omega, ?_⟩
  rw [up_int]
  refine go_filter (e := fun k : Nat => D.int (0 + (k : Nat))) (f := fun k => .tup [fr (p k), fr (xx n z p k)]) (fun k => decide (p k ≠ 0)) (List.range n) (fun k hk acc kk hk1 hk2 hl => ?_) trivial (small (by simp; omega)) ?_
  · have hk := List.mem_range.mp hk
    simp only [zero_frac, Int.zero_add, up_at hk, dSeq, dAsg, dIf, dIfS, dB, dOp, dUn, dCB, dCons, dNil, dTup, dLst, dVar, dC, dgName, dgTup, dgLst, dgCons, dgNil, dRet, dRetN, dDrop, dPar, dPar3, dNext, dAnd, dOr, dNot, dAndV, dOrV, dNotV, dChain, dCall, dCallR, dFor, diSeq, diRng1, diZip, diEnum, dLc, dYes, dElt, fnEnds, startR, wipeR, dAdd, dSub, dMul, dFdiv, dMod, dPow, dInt2, dNeg, dCmpI, dLt, dLe, dGt, dGe, dEq, dNe, dIsN, dIsNot, dIsB, dSl, dPart, dNoPart, dAbs, dInts2, dMax2, dMin2, dGcd, dInt, dIs1, dIs2, atI_0, atI_1, atI_2, atI_3, List.map, List.length, List.cons_append, List.nil_append, List.replicate, List.getElem?_cons_zero, List.getElem?_cons_succ, List.set, if_true, if_false, res_tup, res_lst, res_int, res_bl, res_str, res_non, res_fr, res_row, res_tab, res_ptr, ix_tup, ix_lst, ix_frl, ix_row, ix_tab, ix_fr0, ix_fr1, ix_ptr, len_tup, len_lst, len_frl, len_row, len_tab, len_ptr, sq_tup', sq_lst, sq_frl, sq_row, sq_tab, sq_ptr, lvf_lst, lvf_frl, lvf_ptr, isN_non, isN_tup, isN_int, isN_bl, sl_tup, sl_lst, sl_frl, sl_str, tupOf_lst, tupOf_tup, up_len, keep_lst, keep_frl, keep_tup, keep_row, keep_tab, keep_ptr]
    refine ⟨by decide, fl_fr, fl_fr, ?_⟩
    by_cases e : p k = 0
    · exact no (by rw [eqv_fr, decide_eq_true e]; decide) (hk2 (by simp [e]))
    · exact yes (by rw [eqv_fr, decide_eq_false e]; decide) ⟨by decide, hl, hk1 (by simp [e])⟩
  · have es : ((List.range n).filter fun k => decide (p k ≠ 0)) = supp n p := rfl
    rw [es]
    obtain ⟨k0, r0, e0⟩ := supp_head C
    match o, K, h with
    | none, K, h =>
      simp only [qD, dSeq, dAsg, dIf, dIfS, dB, dOp, dUn, dCB, dCons, dNil, dTup, dLst, dVar, dC, dgName, dgTup, dgLst, dgCons, dgNil, dRet, dRetN, dDrop, dPar, dPar3, dNext, dAnd, dOr, dNot, dAndV, dOrV, dNotV, dChain, dCall, dCallR, dFor, diSeq, diRng1, diZip, diEnum, dLc, dYes, dElt, fnEnds, startR, wipeR, dAdd, dSub, dMul, dFdiv, dMod, dPow, dInt2, dNeg, dCmpI, dLt, dLe, dGt, dGe, dEq, dNe, dIsN, dIsNot, dIsB, dSl, dPart, dNoPart, dAbs, dInts2, dMax2, dMin2, dGcd, dInt, dIs1, dIs2, atI_0, atI_1, atI_2, atI_3, List.map, List.length, List.cons_append, List.nil_append, List.replicate, List.getElem?_cons_zero, List.getElem?_cons_succ, List.set, if_true, if_false, res_tup, res_lst, res_int, res_bl, res_str, res_non, res_fr, res_row, res_tab, res_ptr, ix_tup, ix_lst, ix_frl, ix_row, ix_tab, ix_fr0, ix_fr1, ix_ptr, len_tup, len_lst, len_frl, len_row, len_tab, len_ptr, sq_tup', sq_lst, sq_frl, sq_row, sq_tab, sq_ptr, lvf_lst, lvf_frl, lvf_ptr, isN_non, isN_tup, isN_int, isN_bl, sl_tup, sl_lst, sl_frl, sl_str, tupOf_lst, tupOf_tup, up_len, keep_lst, keep_frl, keep_tup, keep_row, keep_tab, keep_ptr]
      refine ⟨fl_all, fl_all, yes (by decide) ?_⟩
      rw [show L2.atI ((supp n p).map fun k => D.tup [fr (p k), fr (xx n z p k)]) (0 : Int) = some (.tup [fr (p k0), fr (xx n z p k0)]) by rw [e0]; exact atI_0]
      simp only [one_frac, dSeq, dAsg, dIf, dIfS, dB, dOp, dUn, dCB, dCons, dNil, dTup, dLst, dVar, dC, dgName, dgTup, dgLst, dgCons, dgNil, dRet, dRetN, dDrop, dPar, dPar3, dNext, dAnd, dOr, dNot, dAndV, dOrV, dNotV, dChain, dCall, dCallR, dFor, diSeq, diRng1, diZip, diEnum, dLc, dYes, dElt, fnEnds, startR, wipeR, dAdd, dSub, dMul, dFdiv, dMod, dPow, dInt2, dNeg, dCmpI, dLt, dLe, dGt, dGe, dEq, dNe, dIsN, dIsNot, dIsB, dSl, dPart, dNoPart, dAbs, dInts2, dMax2, dMin2, dGcd, dInt, dIs1, dIs2, atI_0, atI_1, atI_2, atI_3, List.map, List.length, List.cons_append, List.nil_append, List.replicate, List.getElem?_cons_zero, List.getElem?_cons_succ, List.set, if_true, if_false, res_tup, res_lst, res_int, res_bl, res_str, res_non, res_fr, res_row, res_tab, res_ptr, ix_tup, ix_lst, ix_frl, ix_row, ix_tab, ix_fr0, ix_fr1, ix_ptr, len_tup, len_lst, len_frl, len_row, len_tab, len_ptr, sq_tup', sq_lst, sq_frl, sq_row, sq_tab, sq_ptr, lvf_lst, lvf_frl, lvf_ptr, isN_non, isN_tup, isN_int, isN_bl, sl_tup, sl_lst, sl_frl, sl_str, tupOf_lst, tupOf_tup, up_len, keep_lst, keep_frl, keep_tup, keep_row, keep_tab, keep_ptr]
      refine for_map (e := fun k : Nat => D.tup [fr (p k), fr (xx n z p k)]) (I := fun xs ρ M' => M' = M ∧ (∀ k ∈ xs, k ∈ supp n p) ∧ ∃ (d : D) (o o' : Option D) (a : Rat) (l : D) (o1 o2 o3 o4 o5 : Option D), ρ = [some (tabD n n z), some (rowD n p), some d, some (rowD n fun i => sg n fun k => z i k * p k), some l, some (fr a), o1, o, o', o2, o3, o4, o5] ∧ mxA a (xs.map (xx n z p)) = mx n z p ∧ Sm 100 a) ?_ ?_ (supp n p) _ M ?_
      · rintro ρ M' ⟨rfl, _, d, o, o', a, l, o1, o2, o3, o4, o5, rfl, e, _⟩
        refine ⟨trivial, ?_⟩
        simp only [one_frac, dSeq, dAsg, dIf, dIfS, dB, dOp, dUn, dCB, dCons, dNil, dTup, dLst, dVar, dC, dgName, dgTup, dgLst, dgCons, dgNil, dRet, dRetN, dDrop, dPar, dPar3, dNext, dAnd, dOr, dNot, dAndV, dOrV, dNotV, dChain, dCall, dCallR, dFor, diSeq, diRng1, diZip, diEnum, dLc, dYes, dElt, fnEnds, startR, wipeR, dAdd, dSub, dMul, dFdiv, dMod, dPow, dInt2, dNeg, dCmpI, dLt, dLe, dGt, dGe, dEq, dNe, dIsN, dIsNot, dIsB, dSl, dPart, dNoPart, dAbs, dInts2, dMax2, dMin2, dGcd, dInt, dIs1, dIs2, atI_0, atI_1, atI_2, atI_3, List.map, List.length, List.cons_append, List.nil_append, List.replicate, List.getElem?_cons_zero, List.getElem?_cons_succ, List.set, if_true, if_false, res_tup, res_lst, res_int, res_bl, res_str, res_non, res_fr, res_row, res_tab, res_ptr, ix_tup, ix_lst, ix_frl, ix_row, ix_tab, ix_fr0, ix_fr1, ix_ptr, len_tup, len_lst, len_frl, len_row, len_tab, len_ptr, sq_tup', sq_lst, sq_frl, sq_row, sq_tab, sq_ptr, lvf_lst, lvf_frl, lvf_ptr, isN_non, isN_tup, isN_int, isN_bl, sl_tup, sl_lst, sl_frl, sl_str, tupOf_lst, tupOf_tup, up_len, keep_lst, keep_frl, keep_tup, keep_row, keep_tab, keep_ptr]
        have e' : a = mx n z p := e
        rw [e']
        refine ⟨by decide, 1, _, rfl, ?_, ?_, by decide, DropN.of h⟩
        · obtain ⟨k, hk, e⟩ := mx_in L C
          rw [e]
          exact Two.of Sm.one (xx_sm L C (supp_lt hk)) (by decide)
        · have := mx_pos L C
          grind
      · rintro k r ρ M' nx hnx ⟨rfl, hk, d, o, o', a, l, o1, o2, o3, o4, o5, rfl, e, sa⟩
        have hkk := hk k List.mem_cons_self
        have sx := xx_sm L C (supp_lt hkk)
        refine ⟨trivial, ?_⟩
        simp only [dSeq, dAsg, dIf, dIfS, dB, dOp, dUn, dCB, dCons, dNil, dTup, dLst, dVar, dC, dgName, dgTup, dgLst, dgCons, dgNil, dRet, dRetN, dDrop, dPar, dPar3, dNext, dAnd, dOr, dNot, dAndV, dOrV, dNotV, dChain, dCall, dCallR, dFor, diSeq, diRng1, diZip, diEnum, dLc, dYes, dElt, fnEnds, startR, wipeR, dAdd, dSub, dMul, dFdiv, dMod, dPow, dInt2, dNeg, dCmpI, dLt, dLe, dGt, dGe, dEq, dNe, dIsN, dIsNot, dIsB, dSl, dPart, dNoPart, dAbs, dInts2, dMax2, dMin2, dGcd, dInt, dIs1, dIs2, atI_0, atI_1, atI_2, atI_3, List.map, List.length, List.cons_append, List.nil_append, List.replicate, List.getElem?_cons_zero, List.getElem?_cons_succ, List.set, if_true, if_false, res_tup, res_lst, res_int, res_bl, res_str, res_non, res_fr, res_row, res_tab, res_ptr, ix_tup, ix_lst, ix_frl, ix_row, ix_tab, ix_fr0, ix_fr1, ix_ptr, len_tup, len_lst, len_frl, len_row, len_tab, len_ptr, sq_tup', sq_lst, sq_frl, sq_row, sq_tab, sq_ptr, lvf_lst, lvf_frl, lvf_ptr, isN_non, isN_tup, isN_int, isN_bl, sl_tup, sl_lst, sl_frl, sl_str, tupOf_lst, tupOf_tup, up_len, keep_lst, keep_frl, keep_tup, keep_row, keep_tab, keep_ptr]
        refine ⟨a, _, rfl, ⟨100, 89, sa, sx, by decide⟩, ?_⟩
        rw [List.map_cons] at e
        unfold mxA at e
        by_cases hl : a < xx n z p k
        · rw [if_pos hl] at e
          exact yes (decide_eq_true hl) (hnx _ _ ⟨rfl, fun j hj => hk j (List.mem_cons_of_mem _ hj), _, _, _, _, _, _, _, _, _, _, rfl, e, sx.mono (by decide)⟩)
        · rw [if_neg hl] at e
          exact no (by simpa using hl) (hnx _ _ ⟨rfl, fun j hj => hk j (List.mem_cons_of_mem _ hj), _, _, _, _, _, _, _, _, _, _, rfl, e, sa⟩)
      · exact ⟨rfl, fun _ z => z, _, _, _, _, _, _, _, _, _, _, rfl, mx_head L C e0, (xx_sm L C (supp_lt (by rw [e0]; exact List.mem_cons_self))).mono (by decide)⟩
    | some 0, K, h =>
      simp only [qD, dSeq, dAsg, dIf, dIfS, dB, dOp, dUn, dCB, dCons, dNil, dTup, dLst, dVar, dC, dgName, dgTup, dgLst, dgCons, dgNil, dRet, dRetN, dDrop, dPar, dPar3, dNext, dAnd, dOr, dNot, dAndV, dOrV, dNotV, dChain, dCall, dCallR, dFor, diSeq, diRng1, diZip, diEnum, dLc, dYes, dElt, fnEnds, startR, wipeR, dAdd, dSub, dMul, dFdiv, dMod, dPow, dInt2, dNeg, dCmpI, dLt, dLe, dGt, dGe, dEq, dNe, dIsN, dIsNot, dIsB, dSl, dPart, dNoPart, dAbs, dInts2, dMax2, dMin2, dGcd, dInt, dIs1, dIs2, atI_0, atI_1, atI_2, atI_3, List.map, List.length, List.cons_append, List.nil_append, List.replicate, List.getElem?_cons_zero, List.getElem?_cons_succ, List.set, if_true, if_false, res_tup, res_lst, res_int, res_bl, res_str, res_non, res_fr, res_row, res_tab, res_ptr, ix_tup, ix_lst, ix_frl, ix_row, ix_tab, ix_fr0, ix_fr1, ix_ptr, len_tup, len_lst, len_frl, len_row, len_tab, len_ptr, sq_tup', sq_lst, sq_frl, sq_row, sq_tab, sq_ptr, lvf_lst, lvf_frl, lvf_ptr, isN_non, isN_tup, isN_int, isN_bl, sl_tup, sl_lst, sl_frl, sl_str, tupOf_lst, tupOf_tup, up_len, keep_lst, keep_frl, keep_tup, keep_row, keep_tab, keep_ptr]
      refine ⟨fl_int, fl_all, no (by decide) ⟨fl_int, fl_int, yes (by decide) ?_⟩⟩
      refine go_map (e := fun k : Nat => D.tup [fr (p k), fr (xx n z p k)]) (f := fun k => fr (p k / xx n z p k)) (supp n p) (fun k hk acc kk hkk hl => ?_) trivial (small (by omega)) ?_
      · simp only [dSeq, dAsg, dIf, dIfS, dB, dOp, dUn, dCB, dCons, dNil, dTup, dLst, dVar, dC, dgName, dgTup, dgLst, dgCons, dgNil, dRet, dRetN, dDrop, dPar, dPar3, dNext, dAnd, dOr, dNot, dAndV, dOrV, dNotV, dChain, dCall, dCallR, dFor, diSeq, diRng1, diZip, diEnum, dLc, dYes, dElt, fnEnds, startR, wipeR, dAdd, dSub, dMul, dFdiv, dMod, dPow, dInt2, dNeg, dCmpI, dLt, dLe, dGt, dGe, dEq, dNe, dIsN, dIsNot, dIsB, dSl, dPart, dNoPart, dAbs, dInts2, dMax2, dMin2, dGcd, dInt, dIs1, dIs2, atI_0, atI_1, atI_2, atI_3, List.map, List.length, List.cons_append, List.nil_append, List.replicate, List.getElem?_cons_zero, List.getElem?_cons_succ, List.set, if_true, if_false, res_tup, res_lst, res_int, res_bl, res_str, res_non, res_fr, res_row, res_tab, res_ptr, ix_tup, ix_lst, ix_frl, ix_row, ix_tab, ix_fr0, ix_fr1, ix_ptr, len_tup, len_lst, len_frl, len_row, len_tab, len_ptr, sq_tup', sq_lst, sq_frl, sq_row, sq_tab, sq_ptr, lvf_lst, lvf_frl, lvf_ptr, isN_non, isN_tup, isN_int, isN_bl, sl_tup, sl_lst, sl_frl, sl_str, tupOf_lst, tupOf_tup, up_len, keep_lst, keep_frl, keep_tup, keep_row, keep_tab, keep_ptr]
        exact ⟨p k, _, rfl, Two.of (C.sm k (supp_lt hk)) (xx_sm L C (supp_lt hk)) (by decide), by have := (xx_pm L C).xp k hk; grind, hl, hkk⟩
      · refine ⟨(supp n p).map fun k => p k / xx n z p k, .inl (by rw [List.map_map]; rfl), ⟨96, fun x hx => ?_, by rw [List.length_map]; omega⟩, by decide, DropN.of h⟩
        obtain ⟨k, hk, rfl⟩ := List.mem_map.mp hx
        exact (C.sm k (supp_lt hk)).div (xx_sm L C (supp_lt hk))
    | some 1, K, h =>
      have few := K.few rfl
      simp only [qD, dSeq, dAsg, dIf, dIfS, dB, dOp, dUn, dCB, dCons, dNil, dTup, dLst, dVar, dC, dgName, dgTup, dgLst, dgCons, dgNil, dRet, dRetN, dDrop, dPar, dPar3, dNext, dAnd, dOr, dNot, dAndV, dOrV, dNotV, dChain, dCall, dCallR, dFor, diSeq, diRng1, diZip, diEnum, dLc, dYes, dElt, fnEnds, startR, wipeR, dAdd, dSub, dMul, dFdiv, dMod, dPow, dInt2, dNeg, dCmpI, dLt, dLe, dGt, dGe, dEq, dNe, dIsN, dIsNot, dIsB, dSl, dPart, dNoPart, dAbs, dInts2, dMax2, dMin2, dGcd, dInt, dIs1, dIs2, atI_0, atI_1, atI_2, atI_3, List.map, List.length, List.cons_append, List.nil_append, List.replicate, List.getElem?_cons_zero, List.getElem?_cons_succ, List.set, if_true, if_false, res_tup, res_lst, res_int, res_bl, res_str, res_non, res_fr, res_row, res_tab, res_ptr, ix_tup, ix_lst, ix_frl, ix_row, ix_tab, ix_fr0, ix_fr1, ix_ptr, len_tup, len_lst, len_frl, len_row, len_tab, len_ptr, sq_tup', sq_lst, sq_frl, sq_row, sq_tab, sq_ptr, lvf_lst, lvf_frl, lvf_ptr, isN_non, isN_tup, isN_int, isN_bl, sl_tup, sl_lst, sl_frl, sl_str, tupOf_lst, tupOf_tup, up_len, keep_lst, keep_frl, keep_tup, keep_row, keep_tab, keep_ptr]
      refine ⟨fl_int, fl_all, no (by decide) ⟨fl_int, fl_int, no (by decide) ⟨fl_int, fl_int, yes (by decide) ?_⟩⟩⟩
      refine ⟨n, p, rfl, C, n8, ?_⟩
      refine for_map (e := fun k : Nat => D.tup [fr (p k), fr (xx n z p k)]) (I := fun xs ρ M' => M' = M ∧ (∀ k ∈ xs, k ∈ supp n p) ∧ ∃ (d1' d2' d3' d4' l : D) (o1 o2 o3 o4 o5 : Option D) (t b : Int) (c i : Nat), ρ = [some d1', some d2', some d3', some d4', some l, o1, o2, o3, o4, some (.int (Lm n p : Nat)), some (.int t), some (.int b), o5] ∧
        Rat.divInt t b * (pr xs fun k => (xx n z p k)⁻¹ ^ ee n p k) = d1 n z p ∧ b ≠ 0 ∧ Bt (1 + 89 * c + i) t ∧ Bt (1 + 89 * c + i) b ∧ c + (xs.map (ee n p)).sum = Lm n p ∧ i + xs.length ≤ 8) ?_ ?_ (supp n p) _ M ?_
      · rintro ρ M' ⟨rfl, _, d1', d2', d3', d4', l, o1, o2, o3, o4, o5, t, b, c, i, rfl, e, hb, _, b2, ec, hi⟩
        refine ⟨trivial, ?_⟩
        simp only [dSeq, dAsg, dIf, dIfS, dB, dOp, dUn, dCB, dCons, dNil, dTup, dLst, dVar, dC, dgName, dgTup, dgLst, dgCons, dgNil, dRet, dRetN, dDrop, dPar, dPar3, dNext, dAnd, dOr, dNot, dAndV, dOrV, dNotV, dChain, dCall, dCallR, dFor, diSeq, diRng1, diZip, diEnum, dLc, dYes, dElt, fnEnds, startR, wipeR, dAdd, dSub, dMul, dFdiv, dMod, dPow, dInt2, dNeg, dCmpI, dLt, dLe, dGt, dGe, dEq, dNe, dIsN, dIsNot, dIsB, dSl, dPart, dNoPart, dAbs, dInts2, dMax2, dMin2, dGcd, dInt, dIs1, dIs2, atI_0, atI_1, atI_2, atI_3, List.map, List.length, List.cons_append, List.nil_append, List.replicate, List.getElem?_cons_zero, List.getElem?_cons_succ, List.set, if_true, if_false, res_tup, res_lst, res_int, res_bl, res_str, res_non, res_fr, res_row, res_tab, res_ptr, ix_tup, ix_lst, ix_frl, ix_row, ix_tab, ix_fr0, ix_fr1, ix_ptr, len_tup, len_lst, len_frl, len_row, len_tab, len_ptr, sq_tup', sq_lst, sq_frl, sq_row, sq_tab, sq_ptr, lvf_lst, lvf_frl, lvf_ptr, isN_non, isN_tup, isN_int, isN_bl, sl_tup, sl_lst, sl_frl, sl_str, tupOf_lst, tupOf_tup, up_len, keep_lst, keep_frl, keep_tup, keep_row, keep_tab, keep_ptr]
        have ec' : c + 0 = Lm n p := ec
        have hi' : i + 0 ≤ 8 := hi
        refine ⟨t, b, rfl, hb, b2.mono (by omega), by decide, DropN.of ?_⟩
        have e' : Rat.divInt t b * 1 = d1 n z p := e
        rw [Rat.mul_one] at e'
        rw [e']
        exact h
      · rintro k r ρ M' nx hnx ⟨rfl, hk, d1', d2', d3', d4', l, o1, o2, o3, o4, o5, t, b, c, i, rfl, e, hb, bt, bb, ec, hi⟩
        have hkk := hk k List.mem_cons_self
        refine ⟨trivial, ?_⟩
        simp only [List.length_cons] at hi
        rw [List.map_cons, List.sum_cons] at ec
        simp only [ix_fr0, ix_fr1, dSeq, dAsg, dIf, dIfS, dB, dOp, dUn, dCB, dCons, dNil, dTup, dLst, dVar, dC, dgName, dgTup, dgLst, dgCons, dgNil, dRet, dRetN, dDrop, dPar, dPar3, dNext, dAnd, dOr, dNot, dAndV, dOrV, dNotV, dChain, dCall, dCallR, dFor, diSeq, diRng1, diZip, diEnum, dLc, dYes, dElt, fnEnds, startR, wipeR, dAdd, dSub, dMul, dFdiv, dMod, dPow, dInt2, dNeg, dCmpI, dLt, dLe, dGt, dGe, dEq, dNe, dIsN, dIsNot, dIsB, dSl, dPart, dNoPart, dAbs, dInts2, dMax2, dMin2, dGcd, dInt, dIs1, dIs2, atI_0, atI_1, atI_2, atI_3, List.map, List.length, List.cons_append, List.nil_append, List.replicate, List.getElem?_cons_zero, List.getElem?_cons_succ, List.set, if_true, if_false, res_tup, res_lst, res_int, res_bl, res_str, res_non, res_fr, res_row, res_tab, res_ptr, ix_tup, ix_lst, ix_frl, ix_row, ix_tab, ix_fr0, ix_fr1, ix_ptr, len_tup, len_lst, len_frl, len_row, len_tab, len_ptr, sq_tup', sq_lst, sq_frl, sq_row, sq_tab, sq_ptr, lvf_lst, lvf_frl, lvf_ptr, isN_non, isN_tup, isN_int, isN_bl, sl_tup, sl_lst, sl_frl, sl_str, tupOf_lst, tupOf_tup, up_len, keep_lst, keep_frl, keep_tup, keep_row, keep_tab, keep_ptr]
        have cs := C.sm k (supp_lt hkk)
        have bl : Bt 6 ((Lm n p : Nat) : Int) := by
          unfold Bt
          rw [Int.natAbs_natCast]
          omega
        have ed := (ee_eq C (supp_lt hkk)).2
        refine ⟨bl.cm cs.1 (by decide), ⟨by have := (p k).den_pos; omega, by have := cs.2.log; omega⟩, ?_⟩
        rw [← ed]
        refine ⟨xx n z p k, ee n p k, rfl, ⟨89, xx_sm L C (supp_lt hkk), by omega⟩, by omega, ?_⟩
        simp only [ix_fr0, ix_fr1]
        have hx := (xx_pm L C).xp k hkk
        have sy := (xx_sm L C (supp_lt hkk)).pow (ee n p k)
        have hy := q_pow_pos hx (ee n p k)
        have ei : (xx n z p k)⁻¹ ^ ee n p k = (xx n z p k ^ ee n p k)⁻¹ := q_inv_pow (by grind) _
        rw [pr_cons, ei, ← Rat.mul_assoc] at e
        generalize xx n z p k ^ ee n p k = y at *
        have yn : y.num ≠ 0 := num_nz (by grind)
        have iy : y⁻¹ = Rat.divInt (y.den : Int) y.num := by
          conv => lhs; rw [← Rat.num_divInt_den y]
          rw [Rat.inv_divInt]
        rw [iy, Rat.divInt_mul_divInt] at e
        exact ⟨bt.cm sy.2 (by omega), bb.cm sy.1 (by omega), hnx _ _ ⟨rfl, fun j hj => hk j (List.mem_cons_of_mem _ hj), _, _, _, _, _, _, _, _, _, _, _, _, c + ee n p k, i + 1, rfl, e, Int.mul_ne_zero hb yn, (bt.mul sy.2).mono (by omega), (bb.mul sy.1).mono (by omega), by omega, by omega⟩⟩
      · refine ⟨rfl, fun _ z => z, _, _, _, _, _, _, _, _, _, _, 1, 1, 0, 0, rfl, ?_, by decide, by unfold Bt; decide, by unfold Bt; decide, by rw [ee_sum C]; omega, by omega⟩
        have : Rat.divInt 1 1 = 1 := rfl
        rw [this, Rat.one_mul]
        rfl
    | some (q + 2), K, h =>
      have hq := K.le _ rfl
      have e1 : (((q + 2 : Nat) : Int) - 1) = ((q + 1 : Nat) : Int) := by omega
      simp only [one_frac, qD, dSeq, dAsg, dIf, dIfS, dB, dOp, dUn, dCB, dCons, dNil, dTup, dLst, dVar, dC, dgName, dgTup, dgLst, dgCons, dgNil, dRet, dRetN, dDrop, dPar, dPar3, dNext, dAnd, dOr, dNot, dAndV, dOrV, dNotV, dChain, dCall, dCallR, dFor, diSeq, diRng1, diZip, diEnum, dLc, dYes, dElt, fnEnds, startR, wipeR, dAdd, dSub, dMul, dFdiv, dMod, dPow, dInt2, dNeg, dCmpI, dLt, dLe, dGt, dGe, dEq, dNe, dIsN, dIsNot, dIsB, dSl, dPart, dNoPart, dAbs, dInts2, dMax2, dMin2, dGcd, dInt, dIs1, dIs2, atI_0, atI_1, atI_2, atI_3, List.map, List.length, List.cons_append, List.nil_append, List.replicate, List.getElem?_cons_zero, List.getElem?_cons_succ, List.set, if_true, if_false, res_tup, res_lst, res_int, res_bl, res_str, res_non, res_fr, res_row, res_tab, res_ptr, ix_tup, ix_lst, ix_frl, ix_row, ix_tab, ix_fr0, ix_fr1, ix_ptr, len_tup, len_lst, len_frl, len_row, len_tab, len_ptr, sq_tup', sq_lst, sq_frl, sq_row, sq_tab, sq_ptr, lvf_lst, lvf_frl, lvf_ptr, isN_non, isN_tup, isN_int, isN_bl, sl_tup, sl_lst, sl_frl, sl_str, tupOf_lst, tupOf_tup, up_len, keep_lst, keep_frl, keep_tup, keep_row, keep_tab, keep_ptr]
      refine ⟨fl_int, fl_all, no (by rw [eqv_is]; decide) ⟨fl_int, fl_int, no (by rw [eqv_ii]; simp; omega) ⟨fl_int, fl_int, no (by rw [eqv_ii]; simp; omega) ?_⟩⟩⟩
      refine ⟨by decide, ?_⟩
      refine go_map (e := fun k : Nat => D.tup [fr (p k), fr (xx n z p k)]) (f := fun k => fr (p k * xx n z p k ^ (q + 1))) (supp n p) (fun k hk acc kk hkk hl => ?_) trivial (small (by omega)) ?_
      · simp only [dSeq, dAsg, dIf, dIfS, dB, dOp, dUn, dCB, dCons, dNil, dTup, dLst, dVar, dC, dgName, dgTup, dgLst, dgCons, dgNil, dRet, dRetN, dDrop, dPar, dPar3, dNext, dAnd, dOr, dNot, dAndV, dOrV, dNotV, dChain, dCall, dCallR, dFor, diSeq, diRng1, diZip, diEnum, dLc, dYes, dElt, fnEnds, startR, wipeR, dAdd, dSub, dMul, dFdiv, dMod, dPow, dInt2, dNeg, dCmpI, dLt, dLe, dGt, dGe, dEq, dNe, dIsN, dIsNot, dIsB, dSl, dPart, dNoPart, dAbs, dInts2, dMax2, dMin2, dGcd, dInt, dIs1, dIs2, atI_0, atI_1, atI_2, atI_3, List.map, List.length, List.cons_append, List.nil_append, List.replicate, List.getElem?_cons_zero, List.getElem?_cons_succ, List.set, if_true, if_false, res_tup, res_lst, res_int, res_bl, res_str, res_non, res_fr, res_row, res_tab, res_ptr, ix_tup, ix_lst, ix_frl, ix_row, ix_tab, ix_fr0, ix_fr1, ix_ptr, len_tup, len_lst, len_frl, len_row, len_tab, len_ptr, sq_tup', sq_lst, sq_frl, sq_row, sq_tab, sq_ptr, lvf_lst, lvf_frl, lvf_ptr, isN_non, isN_tup, isN_int, isN_bl, sl_tup, sl_lst, sl_frl, sl_str, tupOf_lst, tupOf_tup, up_len, keep_lst, keep_frl, keep_tup, keep_row, keep_tab, keep_ptr]
        rw [e1]
        exact ⟨xx n z p k, q + 1, rfl, ⟨89, xx_sm L C (supp_lt hk), by omega⟩, by omega, p k, _, rfl, ⟨7, 89 * (q + 1) + 1, C.sm k (supp_lt hk), (xx_sm L C (supp_lt hk)).pow _, by omega⟩, hl, hkk⟩
      · refine ⟨(supp n p).map fun k => p k * xx n z p k ^ (q + 1), .inl (by rw [List.map_map]; rfl), ⟨987, fun x hx => ?_, by rw [List.length_map]; omega⟩, ?_⟩
        · obtain ⟨k, hk, rfl⟩ := List.mem_map.mp hx
          exact term_sm L C hk (by omega)
        · refine ⟨1, mo (supp n p) p (xx n z p) (q + 1), rfl, Two.of Sm.one (mo_sm L C (by omega)) (by decide), ?_, by decide, DropN.of ?_⟩
          · have := mo_pos (xx_pm L C) (q + 1)
            grind
          · rw [e1]
            exact h
end K85

set_option Elab.async false
set_option linter.all false
set_option autoImplicit false
set_option maxRecDepth 100000
set_option maxHeartbeats 4000000
/-! # What the law is told; the bounds -/
namespace K85
open PySem PySem.Spec L2 DL
open PyProof.Rows hiding St
/-- which clause takes which error -/
structure Ek (K : PySem.W.Frag) (c cM : Addr) : Prop where
  nn : PySem.W.exmOne K (.ref c) (.ref c) = some true
  mn : PySem.W.exmOne K (.ref cM) (.ref c) = some false
  mm : PySem.W.exmOne K (.ref cM) (.ref cM) = some true
inductive Told : Str → List D → D → Prop
  | div {n z p o} (L : Lk n z) (C : Cm n p) (K : Kn n p o) : Told "diversity" [tabD n n z, rowD n p, qD o] (.lst [.str "told", dvD (dv n z p o)])
  | divM {n z p} (L : Lk n z) (C : Cm n p) (h : 40 < Lm n p) : Told "diversity" [tabD n n z, rowD n p, .int 1] (.lst [.str "many", .int (Lm n p : Nat)])
  | divN {n z p q} (L : Lk n z) (C : Cm n p) (h : Bad q) : Told "diversity" [tabD n n z, rowD n p, q] (.lst [.str "number", q])
  | fall {n z p} (L : Lk n z) (C : Cm n p) (h : Lm n p ≤ 40) : Told "falls" [tabD n n z, rowD n p] (.lst [.str "told", fallD n z p])
  | fallM {n z p} (L : Lk n z) (C : Cm n p) (h : 40 < Lm n p) : Told "falls" [tabD n n z, rowD n p] (.lst [.str "many", .int (Lm n p : Nat)])
  | sign {n z p p' o} (L : Lk n z) (C : Cm n p) (C' : Cm n p') (K : Kn n p o) (K' : Kn n p' o) : Told "sign" [tabD n n z, rowD n p, rowD n p', qD o] (.lst [.str "told", .int (sn (dv n z p o) (dv n z p' o))])
  | signM {n z p p'} (L : Lk n z) (C : Cm n p) (C' : Cm n p') (h : 40 < Lm n p) : Told "sign" [tabD n n z, rowD n p, rowD n p', .int 1] (.lst [.str "many", .int (Lm n p : Nat)])
  | signM' {n z p p'} (L : Lk n z) (C : Cm n p) (C' : Cm n p') (h0 : Lm n p ≤ 40) (h : 40 < Lm n p') : Told "sign" [tabD n n z, rowD n p, rowD n p', .int 1] (.lst [.str "many", .int (Lm n p' : Nat)])
  | signN {n z p p' q} (L : Lk n z) (C : Cm n p) (C' : Cm n p') (h : Bad q) : Told "sign" [tabD n n z, rowD n p, rowD n p', q] (.lst [.str "number", q])
  | sum {n z p} {t : Nat} (L : Lk n z) (C : Cm n p) (h1 : 1 ≤ t) (h2 : t ≤ 11) : Told "sum" [tabD n n z, rowD n p, .int ((t + 1 : Nat) : Int)] (.lst [.str "told", fr (mo (supp n p) p (xx n z p) t)])
  | sumN {n z p q} (L : Lk n z) (C : Cm n p) (h : Bad q ∨ q = .int 0 ∨ q = .int 1 ∨ q = .str "all") : Told "sum" [tabD n n z, rowD n p, q] (.lst [.str "number", q])
def s__law_told : DSp := fun ds M Φ _ => ∃ f a b r, ds = [.str f, .lst a, .bl b] ∧ Told f a r ∧ Φ r M
section
variable {K : PySem.W.Frag} {c cM : Addr}
theorem two {a b : D} : [a, b].length ≤ sizeLine := small (by show 2 ≤ 1000000; decide)
/-- the suites -/
def suites (c cM : Addr) : List (Value × DTCl) := [(.ref c, fun a cls d => dRet (dLst (dCons (dC (.str "number")) (dCons (dXf a cls d c "given" (dVar 3)) dNil)))), (.ref cM, fun a cls d => dRet (dLst (dCons (dC (.str "many")) (dCons (dXf a cls d cM "count" (dVar 3)) dNil))))]
theorem take_n (X : Ek K c cM) {q : D} {E : DEnds} {Ψ : Ex → Rho → Ms → Prop} {M : Ms} {a b d : D} (h : E.rt (.lst [.str "number", q]) M) : (exN c q).fld ≠ none ∧ dCl K 3 Ψ E (suites c cM) (exN c q) [some a, some b, some d, none] M := by
  refine ⟨(by intro z; cases z), true, X.nn, (fun _ a' dd => ?_), fun z => by cases z⟩
  exact ⟨rfl, rfl, rfl, rfl, two, h⟩
theorem take_m (X : Ek K c cM) {k : Nat} {E : DEnds} {Ψ : Ex → Rho → Ms → Prop} {M : Ms} {a b d : D} (h : E.rt (.lst [.str "many", .int (k : Nat)]) M) : (exM cM k).fld ≠ none ∧ dCl K 3 Ψ E (suites c cM) (exM cM k) [some a, some b, some d, none] M := by
  refine ⟨(by intro z; cases z), false, X.mn, (fun z => by cases z), fun _ => ⟨true, X.mm, (fun _ a' dd => ?_), fun z => by cases z⟩⟩
  exact ⟨rfl, rfl, rfl, rfl, two, h⟩
theorem r__law_told (X : Ek K c cM) : ∀ ds M Φ Ψ, s__law_told ds M Φ Ψ → ds.length = 3 ∧ T__law_told K c cM (s_diversity c cM) (s_falls cM) (s_order_sign c cM) (s_power_sum c) (fnEnds M.length Φ Ψ) (startR N__law_told ds) M := by
  rintro ds M Φ Ψ ⟨f, a, b, r, rfl, ht, h⟩
  refine ⟨rfl, ?_⟩
  have sok : ∀ x ∈ (["diversity", "falls", "sign", "sum"] : List Str), PyData.strOk x = true := by decide +kernel
  have s1 : D.fl 60 (.str "diversity") = true := fl_str (sok _ (by decide +kernel))
  have s2 : D.fl 60 (.str "falls") = true := fl_str (sok _ (by decide +kernel))
  have s3 : D.fl 60 (.str "sign") = true := fl_str (sok _ (by decide +kernel))
  have s4 : D.fl 60 (.str "sum") = true := fl_str (sok _ (by decide +kernel))
  simp only [T__law_told, N__law_told, dTry]
  cases ht with
  | @div n z p o L C Kk =>
    simp only [dSeq, dAsg, dIf, dIfS, dB, dOp, dUn, dCB, dCons, dNil, dTup, dLst, dVar, dC, dgName, dgTup, dgLst, dgCons, dgNil, dRet, dRetN, dDrop, dPar, dPar3, dNext, dAnd, dOr, dNot, dAndV, dOrV, dNotV, dChain, dCall, dCallR, dFor, diSeq, diRng1, diZip, diEnum, dLc, dYes, dElt, fnEnds, startR, wipeR, dAdd, dSub, dMul, dFdiv, dMod, dPow, dInt2, dNeg, dCmpI, dLt, dLe, dGt, dGe, dEq, dNe, dIsN, dIsNot, dIsB, dSl, dPart, dNoPart, dAbs, dInts2, dMax2, dMin2, dGcd, dInt, dIs1, dIs2, atI_0, atI_1, atI_2, atI_3, List.map, List.length, List.cons_append, List.nil_append, List.replicate, List.getElem?_cons_zero, List.getElem?_cons_succ, List.set, if_true, if_false, res_tup, res_lst, res_int, res_bl, res_str, res_non, res_fr, res_row, res_tab, res_ptr, ix_tup, ix_lst, ix_frl, ix_row, ix_tab, ix_fr0, ix_fr1, ix_ptr, len_tup, len_lst, len_frl, len_row, len_tab, len_ptr, sq_tup', sq_lst, sq_frl, sq_row, sq_tab, sq_ptr, lvf_lst, lvf_frl, lvf_ptr, isN_non, isN_tup, isN_int, isN_bl, sl_tup, sl_lst, sl_frl, sl_str, tupOf_lst, tupOf_tup, up_len, keep_lst, keep_frl, keep_tup, keep_row, keep_tab, keep_ptr]
    refine ⟨s1, s1, yes (by decide +kernel) ?_⟩
    cases b with
    | true => exact yes rfl ⟨n, z, p, _, rfl, L, C, .inl ⟨o, rfl, Kk, by decide, DropN.of h⟩⟩
    | false => exact no Bool.false_ne_true ⟨trivial, n, z, p, _, rfl, L, C, .inl ⟨o, rfl, Kk, by decide, DropN.of h⟩⟩
  | @divM n z p L C few =>
    simp only [dSeq, dAsg, dIf, dIfS, dB, dOp, dUn, dCB, dCons, dNil, dTup, dLst, dVar, dC, dgName, dgTup, dgLst, dgCons, dgNil, dRet, dRetN, dDrop, dPar, dPar3, dNext, dAnd, dOr, dNot, dAndV, dOrV, dNotV, dChain, dCall, dCallR, dFor, diSeq, diRng1, diZip, diEnum, dLc, dYes, dElt, fnEnds, startR, wipeR, dAdd, dSub, dMul, dFdiv, dMod, dPow, dInt2, dNeg, dCmpI, dLt, dLe, dGt, dGe, dEq, dNe, dIsN, dIsNot, dIsB, dSl, dPart, dNoPart, dAbs, dInts2, dMax2, dMin2, dGcd, dInt, dIs1, dIs2, atI_0, atI_1, atI_2, atI_3, List.map, List.length, List.cons_append, List.nil_append, List.replicate, List.getElem?_cons_zero, List.getElem?_cons_succ, List.set, if_true, if_false, res_tup, res_lst, res_int, res_bl, res_str, res_non, res_fr, res_row, res_tab, res_ptr, ix_tup, ix_lst, ix_frl, ix_row, ix_tab, ix_fr0, ix_fr1, ix_ptr, len_tup, len_lst, len_frl, len_row, len_tab, len_ptr, sq_tup', sq_lst, sq_frl, sq_row, sq_tab, sq_ptr, lvf_lst, lvf_frl, lvf_ptr, isN_non, isN_tup, isN_int, isN_bl, sl_tup, sl_lst, sl_frl, sl_str, tupOf_lst, tupOf_tup, up_len, keep_lst, keep_frl, keep_tup, keep_row, keep_tab, keep_ptr]
    refine ⟨s1, s1, yes (by decide +kernel) ?_⟩
    cases b with
    | true => exact yes rfl ⟨n, z, p, _, rfl, L, C, .inr (.inl ⟨rfl, few, take_m X (DropN.of h)⟩)⟩
    | false => exact no Bool.false_ne_true ⟨trivial, n, z, p, _, rfl, L, C, .inr (.inl ⟨rfl, few, take_m X (DropN.of h)⟩)⟩
  | @divN n z p q L C bad =>
    simp only [dSeq, dAsg, dIf, dIfS, dB, dOp, dUn, dCB, dCons, dNil, dTup, dLst, dVar, dC, dgName, dgTup, dgLst, dgCons, dgNil, dRet, dRetN, dDrop, dPar, dPar3, dNext, dAnd, dOr, dNot, dAndV, dOrV, dNotV, dChain, dCall, dCallR, dFor, diSeq, diRng1, diZip, diEnum, dLc, dYes, dElt, fnEnds, startR, wipeR, dAdd, dSub, dMul, dFdiv, dMod, dPow, dInt2, dNeg, dCmpI, dLt, dLe, dGt, dGe, dEq, dNe, dIsN, dIsNot, dIsB, dSl, dPart, dNoPart, dAbs, dInts2, dMax2, dMin2, dGcd, dInt, dIs1, dIs2, atI_0, atI_1, atI_2, atI_3, List.map, List.length, List.cons_append, List.nil_append, List.replicate, List.getElem?_cons_zero, List.getElem?_cons_succ, List.set, if_true, if_false, res_tup, res_lst, res_int, res_bl, res_str, res_non, res_fr, res_row, res_tab, res_ptr, ix_tup, ix_lst, ix_frl, ix_row, ix_tab, ix_fr0, ix_fr1, ix_ptr, len_tup, len_lst, len_frl, len_row, len_tab, len_ptr, sq_tup', sq_lst, sq_frl, sq_row, sq_tab, sq_ptr, lvf_lst, lvf_frl, lvf_ptr, isN_non, isN_tup, isN_int, isN_bl, sl_tup, sl_lst, sl_frl, sl_str, tupOf_lst, tupOf_tup, up_len, keep_lst, keep_frl, keep_tup, keep_row, keep_tab, keep_ptr]
    refine ⟨s1, s1, yes (by decide +kernel) ?_⟩
    cases b with
    | true => exact yes rfl ⟨n, z, p, _, rfl, L, C, .inr (.inr ⟨bad, take_n X (DropN.of h)⟩)⟩
    | false => exact no Bool.false_ne_true ⟨trivial, n, z, p, _, rfl, L, C, .inr (.inr ⟨bad, take_n X (DropN.of h)⟩)⟩
  | @fall n z p L C few =>
    simp only [dSeq, dAsg, dIf, dIfS, dB, dOp, dUn, dCB, dCons, dNil, dTup, dLst, dVar, dC, dgName, dgTup, dgLst, dgCons, dgNil, dRet, dRetN, dDrop, dPar, dPar3, dNext, dAnd, dOr, dNot, dAndV, dOrV, dNotV, dChain, dCall, dCallR, dFor, diSeq, diRng1, diZip, diEnum, dLc, dYes, dElt, fnEnds, startR, wipeR, dAdd, dSub, dMul, dFdiv, dMod, dPow, dInt2, dNeg, dCmpI, dLt, dLe, dGt, dGe, dEq, dNe, dIsN, dIsNot, dIsB, dSl, dPart, dNoPart, dAbs, dInts2, dMax2, dMin2, dGcd, dInt, dIs1, dIs2, atI_0, atI_1, atI_2, atI_3, List.map, List.length, List.cons_append, List.nil_append, List.replicate, List.getElem?_cons_zero, List.getElem?_cons_succ, List.set, if_true, if_false, res_tup, res_lst, res_int, res_bl, res_str, res_non, res_fr, res_row, res_tab, res_ptr, ix_tup, ix_lst, ix_frl, ix_row, ix_tab, ix_fr0, ix_fr1, ix_ptr, len_tup, len_lst, len_frl, len_row, len_tab, len_ptr, sq_tup', sq_lst, sq_frl, sq_row, sq_tab, sq_ptr, lvf_lst, lvf_frl, lvf_ptr, isN_non, isN_tup, isN_int, isN_bl, sl_tup, sl_lst, sl_frl, sl_str, tupOf_lst, tupOf_tup, up_len, keep_lst, keep_frl, keep_tup, keep_row, keep_tab, keep_ptr]
    refine ⟨s2, s1, no (by decide +kernel) ⟨s2, s2, yes (by decide +kernel) ?_⟩⟩
    cases b with
    | true => exact yes rfl ⟨n, z, p, rfl, L, C, .inl ⟨few, by decide, DropN.of h⟩⟩
    | false => exact no Bool.false_ne_true ⟨trivial, n, z, p, rfl, L, C, .inl ⟨few, by decide, DropN.of h⟩⟩
  | @fallM n z p L C few =>
    simp only [dSeq, dAsg, dIf, dIfS, dB, dOp, dUn, dCB, dCons, dNil, dTup, dLst, dVar, dC, dgName, dgTup, dgLst, dgCons, dgNil, dRet, dRetN, dDrop, dPar, dPar3, dNext, dAnd, dOr, dNot, dAndV, dOrV, dNotV, dChain, dCall, dCallR, dFor, diSeq, diRng1, diZip, diEnum, dLc, dYes, dElt, fnEnds, startR, wipeR, dAdd, dSub, dMul, dFdiv, dMod, dPow, dInt2, dNeg, dCmpI, dLt, dLe, dGt, dGe, dEq, dNe, dIsN, dIsNot, dIsB, dSl, dPart, dNoPart, dAbs, dInts2, dMax2, dMin2, dGcd, dInt, dIs1, dIs2, atI_0, atI_1, atI_2, atI_3, List.map, List.length, List.cons_append, List.nil_append, List.replicate, List.getElem?_cons_zero, List.getElem?_cons_succ, List.set, if_true, if_false, res_tup, res_lst, res_int, res_bl, res_str, res_non, res_fr, res_row, res_tab, res_ptr, ix_tup, ix_lst, ix_frl, ix_row, ix_tab, ix_fr0, ix_fr1, ix_ptr, len_tup, len_lst, len_frl, len_row, len_tab, len_ptr, sq_tup', sq_lst, sq_frl, sq_row, sq_tab, sq_ptr, lvf_lst, lvf_frl, lvf_ptr, isN_non, isN_tup, isN_int, isN_bl, sl_tup, sl_lst, sl_frl, sl_str, tupOf_lst, tupOf_tup, up_len, keep_lst, keep_frl, keep_tup, keep_row, keep_tab, keep_ptr]
    refine ⟨s2, s1, no (by decide +kernel) ⟨s2, s2, yes (by decide +kernel) ?_⟩⟩
    cases b with
    | true => exact yes rfl ⟨n, z, p, rfl, L, C, .inr ⟨few, take_m X (DropN.of h)⟩⟩
    | false => exact no Bool.false_ne_true ⟨trivial, n, z, p, rfl, L, C, .inr ⟨few, take_m X (DropN.of h)⟩⟩
  | @sign n z p p' o L C C' Kk Kk' =>
    simp only [dSeq, dAsg, dIf, dIfS, dB, dOp, dUn, dCB, dCons, dNil, dTup, dLst, dVar, dC, dgName, dgTup, dgLst, dgCons, dgNil, dRet, dRetN, dDrop, dPar, dPar3, dNext, dAnd, dOr, dNot, dAndV, dOrV, dNotV, dChain, dCall, dCallR, dFor, diSeq, diRng1, diZip, diEnum, dLc, dYes, dElt, fnEnds, startR, wipeR, dAdd, dSub, dMul, dFdiv, dMod, dPow, dInt2, dNeg, dCmpI, dLt, dLe, dGt, dGe, dEq, dNe, dIsN, dIsNot, dIsB, dSl, dPart, dNoPart, dAbs, dInts2, dMax2, dMin2, dGcd, dInt, dIs1, dIs2, atI_0, atI_1, atI_2, atI_3, List.map, List.length, List.cons_append, List.nil_append, List.replicate, List.getElem?_cons_zero, List.getElem?_cons_succ, List.set, if_true, if_false, res_tup, res_lst, res_int, res_bl, res_str, res_non, res_fr, res_row, res_tab, res_ptr, ix_tup, ix_lst, ix_frl, ix_row, ix_tab, ix_fr0, ix_fr1, ix_ptr, len_tup, len_lst, len_frl, len_row, len_tab, len_ptr, sq_tup', sq_lst, sq_frl, sq_row, sq_tab, sq_ptr, lvf_lst, lvf_frl, lvf_ptr, isN_non, isN_tup, isN_int, isN_bl, sl_tup, sl_lst, sl_frl, sl_str, tupOf_lst, tupOf_tup, up_len, keep_lst, keep_frl, keep_tup, keep_row, keep_tab, keep_ptr]
    refine ⟨s3, s1, no (by decide +kernel) ⟨s3, s2, no (by decide +kernel) ⟨s3, s3, yes (by decide +kernel) ?_⟩⟩⟩
    cases b with
    | true => exact yes rfl ⟨n, z, p, p', _, rfl, L, C, C', .inl ⟨o, rfl, Kk, Kk', by decide, DropN.of h⟩⟩
    | false => exact no Bool.false_ne_true ⟨trivial, n, z, p, p', _, rfl, L, C, C', .inl ⟨o, rfl, Kk, Kk', by decide, DropN.of h⟩⟩
  | @signM n z p p' L C C' few =>
    simp only [dSeq, dAsg, dIf, dIfS, dB, dOp, dUn, dCB, dCons, dNil, dTup, dLst, dVar, dC, dgName, dgTup, dgLst, dgCons, dgNil, dRet, dRetN, dDrop, dPar, dPar3, dNext, dAnd, dOr, dNot, dAndV, dOrV, dNotV, dChain, dCall, dCallR, dFor, diSeq, diRng1, diZip, diEnum, dLc, dYes, dElt, fnEnds, startR, wipeR, dAdd, dSub, dMul, dFdiv, dMod, dPow, dInt2, dNeg, dCmpI, dLt, dLe, dGt, dGe, dEq, dNe, dIsN, dIsNot, dIsB, dSl, dPart, dNoPart, dAbs, dInts2, dMax2, dMin2, dGcd, dInt, dIs1, dIs2, atI_0, atI_1, atI_2, atI_3, List.map, List.length, List.cons_append, List.nil_append, List.replicate, List.getElem?_cons_zero, List.getElem?_cons_succ, List.set, if_true, if_false, res_tup, res_lst, res_int, res_bl, res_str, res_non, res_fr, res_row, res_tab, res_ptr, ix_tup, ix_lst, ix_frl, ix_row, ix_tab, ix_fr0, ix_fr1, ix_ptr, len_tup, len_lst, len_frl, len_row, len_tab, len_ptr, sq_tup', sq_lst, sq_frl, sq_row, sq_tab, sq_ptr, lvf_lst, lvf_frl, lvf_ptr, isN_non, isN_tup, isN_int, isN_bl, sl_tup, sl_lst, sl_frl, sl_str, tupOf_lst, tupOf_tup, up_len, keep_lst, keep_frl, keep_tup, keep_row, keep_tab, keep_ptr]
    refine ⟨s3, s1, no (by decide +kernel) ⟨s3, s2, no (by decide +kernel) ⟨s3, s3, yes (by decide +kernel) ?_⟩⟩⟩
    cases b with
    | true => exact yes rfl ⟨n, z, p, p', _, rfl, L, C, C', .inr (.inl ⟨rfl, few, take_m X (DropN.of h)⟩)⟩
    | false => exact no Bool.false_ne_true ⟨trivial, n, z, p, p', _, rfl, L, C, C', .inr (.inl ⟨rfl, few, take_m X (DropN.of h)⟩)⟩
  | @signM' n z p p' L C C' few0 few =>
    simp only [dSeq, dAsg, dIf, dIfS, dB, dOp, dUn, dCB, dCons, dNil, dTup, dLst, dVar, dC, dgName, dgTup, dgLst, dgCons, dgNil, dRet, dRetN, dDrop, dPar, dPar3, dNext, dAnd, dOr, dNot, dAndV, dOrV, dNotV, dChain, dCall, dCallR, dFor, diSeq, diRng1, diZip, diEnum, dLc, dYes, dElt, fnEnds, startR, wipeR, dAdd, dSub, dMul, dFdiv, dMod, dPow, dInt2, dNeg, dCmpI, dLt, dLe, dGt, dGe, dEq, dNe, dIsN, dIsNot, dIsB, dSl, dPart, dNoPart, dAbs, dInts2, dMax2, dMin2, dGcd, dInt, dIs1, dIs2, atI_0, atI_1, atI_2, atI_3, List.map, List.length, List.cons_append, List.nil_append, List.replicate, List.getElem?_cons_zero, List.getElem?_cons_succ, List.set, if_true, if_false, res_tup, res_lst, res_int, res_bl, res_str, res_non, res_fr, res_row, res_tab, res_ptr, ix_tup, ix_lst, ix_frl, ix_row, ix_tab, ix_fr0, ix_fr1, ix_ptr, len_tup, len_lst, len_frl, len_row, len_tab, len_ptr, sq_tup', sq_lst, sq_frl, sq_row, sq_tab, sq_ptr, lvf_lst, lvf_frl, lvf_ptr, isN_non, isN_tup, isN_int, isN_bl, sl_tup, sl_lst, sl_frl, sl_str, tupOf_lst, tupOf_tup, up_len, keep_lst, keep_frl, keep_tup, keep_row, keep_tab, keep_ptr]
    refine ⟨s3, s1, no (by decide +kernel) ⟨s3, s2, no (by decide +kernel) ⟨s3, s3, yes (by decide +kernel) ?_⟩⟩⟩
    cases b with
    | true => exact yes rfl ⟨n, z, p, p', _, rfl, L, C, C', .inr (.inr (.inl ⟨rfl, few0, few, take_m X (DropN.of h)⟩))⟩
    | false => exact no Bool.false_ne_true ⟨trivial, n, z, p, p', _, rfl, L, C, C', .inr (.inr (.inl ⟨rfl, few0, few, take_m X (DropN.of h)⟩))⟩
  | @signN n z p p' q L C C' bad =>
    simp only [dSeq, dAsg, dIf, dIfS, dB, dOp, dUn, dCB, dCons, dNil, dTup, dLst, dVar, dC, dgName, dgTup, dgLst, dgCons, dgNil, dRet, dRetN, dDrop, dPar, dPar3, dNext, dAnd, dOr, dNot, dAndV, dOrV, dNotV, dChain, dCall, dCallR, dFor, diSeq, diRng1, diZip, diEnum, dLc, dYes, dElt, fnEnds, startR, wipeR, dAdd, dSub, dMul, dFdiv, dMod, dPow, dInt2, dNeg, dCmpI, dLt, dLe, dGt, dGe, dEq, dNe, dIsN, dIsNot, dIsB, dSl, dPart, dNoPart, dAbs, dInts2, dMax2, dMin2, dGcd, dInt, dIs1, dIs2, atI_0, atI_1, atI_2, atI_3, List.map, List.length, List.cons_append, List.nil_append, List.replicate, List.getElem?_cons_zero, List.getElem?_cons_succ, List.set, if_true, if_false, res_tup, res_lst, res_int, res_bl, res_str, res_non, res_fr, res_row, res_tab, res_ptr, ix_tup, ix_lst, ix_frl, ix_row, ix_tab, ix_fr0, ix_fr1, ix_ptr, len_tup, len_lst, len_frl, len_row, len_tab, len_ptr, sq_tup', sq_lst, sq_frl, sq_row, sq_tab, sq_ptr, lvf_lst, lvf_frl, lvf_ptr, isN_non, isN_tup, isN_int, isN_bl, sl_tup, sl_lst, sl_frl, sl_str, tupOf_lst, tupOf_tup, up_len, keep_lst, keep_frl, keep_tup, keep_row, keep_tab, keep_ptr]
    refine ⟨s3, s1, no (by decide +kernel) ⟨s3, s2, no (by decide +kernel) ⟨s3, s3, yes (by decide +kernel) ?_⟩⟩⟩
    cases b with
    | true => exact yes rfl ⟨n, z, p, p', _, rfl, L, C, C', .inr (.inr (.inr ⟨bad, take_n X (DropN.of h)⟩))⟩
    | false => exact no Bool.false_ne_true ⟨trivial, n, z, p, p', _, rfl, L, C, C', .inr (.inr (.inr ⟨bad, take_n X (DropN.of h)⟩))⟩
  | @sum n z p t L C h1 h2 =>
    simp only [dSeq, dAsg, dIf, dIfS, dB, dOp, dUn, dCB, dCons, dNil, dTup, dLst, dVar, dC, dgName, dgTup, dgLst, dgCons, dgNil, dRet, dRetN, dDrop, dPar, dPar3, dNext, dAnd, dOr, dNot, dAndV, dOrV, dNotV, dChain, dCall, dCallR, dFor, diSeq, diRng1, diZip, diEnum, dLc, dYes, dElt, fnEnds, startR, wipeR, dAdd, dSub, dMul, dFdiv, dMod, dPow, dInt2, dNeg, dCmpI, dLt, dLe, dGt, dGe, dEq, dNe, dIsN, dIsNot, dIsB, dSl, dPart, dNoPart, dAbs, dInts2, dMax2, dMin2, dGcd, dInt, dIs1, dIs2, atI_0, atI_1, atI_2, atI_3, List.map, List.length, List.cons_append, List.nil_append, List.replicate, List.getElem?_cons_zero, List.getElem?_cons_succ, List.set, if_true, if_false, res_tup, res_lst, res_int, res_bl, res_str, res_non, res_fr, res_row, res_tab, res_ptr, ix_tup, ix_lst, ix_frl, ix_row, ix_tab, ix_fr0, ix_fr1, ix_ptr, len_tup, len_lst, len_frl, len_row, len_tab, len_ptr, sq_tup', sq_lst, sq_frl, sq_row, sq_tab, sq_ptr, lvf_lst, lvf_frl, lvf_ptr, isN_non, isN_tup, isN_int, isN_bl, sl_tup, sl_lst, sl_frl, sl_str, tupOf_lst, tupOf_tup, up_len, keep_lst, keep_frl, keep_tup, keep_row, keep_tab, keep_ptr]
    refine ⟨s4, s1, no (by decide +kernel) ⟨s4, s2, no (by decide +kernel) ⟨s4, s3, no (by decide +kernel) ?_⟩⟩⟩
    cases b with
    | true => exact yes rfl ⟨n, z, p, _, rfl, L, C, .inl ⟨t, h1, h2, rfl, by decide, DropN.of h⟩⟩
    | false => exact no Bool.false_ne_true ⟨trivial, n, z, p, _, rfl, L, C, .inl ⟨t, h1, h2, rfl, by decide, DropN.of h⟩⟩
  | @sumN n z p q L C bad =>
    simp only [dSeq, dAsg, dIf, dIfS, dB, dOp, dUn, dCB, dCons, dNil, dTup, dLst, dVar, dC, dgName, dgTup, dgLst, dgCons, dgNil, dRet, dRetN, dDrop, dPar, dPar3, dNext, dAnd, dOr, dNot, dAndV, dOrV, dNotV, dChain, dCall, dCallR, dFor, diSeq, diRng1, diZip, diEnum, dLc, dYes, dElt, fnEnds, startR, wipeR, dAdd, dSub, dMul, dFdiv, dMod, dPow, dInt2, dNeg, dCmpI, dLt, dLe, dGt, dGe, dEq, dNe, dIsN, dIsNot, dIsB, dSl, dPart, dNoPart, dAbs, dInts2, dMax2, dMin2, dGcd, dInt, dIs1, dIs2, atI_0, atI_1, atI_2, atI_3, List.map, List.length, List.cons_append, List.nil_append, List.replicate, List.getElem?_cons_zero, List.getElem?_cons_succ, List.set, if_true, if_false, res_tup, res_lst, res_int, res_bl, res_str, res_non, res_fr, res_row, res_tab, res_ptr, ix_tup, ix_lst, ix_frl, ix_row, ix_tab, ix_fr0, ix_fr1, ix_ptr, len_tup, len_lst, len_frl, len_row, len_tab, len_ptr, sq_tup', sq_lst, sq_frl, sq_row, sq_tab, sq_ptr, lvf_lst, lvf_frl, lvf_ptr, isN_non, isN_tup, isN_int, isN_bl, sl_tup, sl_lst, sl_frl, sl_str, tupOf_lst, tupOf_tup, up_len, keep_lst, keep_frl, keep_tup, keep_row, keep_tab, keep_ptr]
    refine ⟨s4, s1, no (by decide +kernel) ⟨s4, s2, no (by decide +kernel) ⟨s4, s3, no (by decide +kernel) ?_⟩⟩⟩
    cases b with
    | true => exact yes rfl ⟨n, z, p, _, rfl, L, C, .inr ⟨bad, take_n X (DropN.of h)⟩⟩
    | false => exact no Bool.false_ne_true ⟨trivial, n, z, p, _, rfl, L, C, .inr ⟨bad, take_n X (DropN.of h)⟩⟩
end
end K85

set_option Elab.async false
set_option linter.all false
set_option autoImplicit false
set_option maxRecDepth 100000
set_option maxHeartbeats 4000000
/-! # The bounds -/
namespace K85
open PySem PySem.Spec L2 DL
open PyProof.Rows hiding St
/-- the k-th of the fourteen orders -/
def oo (k : Nat) : Option Nat := if k = 13 then none else some k
/-- order 1 is told only with few parts -/
def kn (n : Nat) (p : Nat → Rat) (k : Nat) : Bool := !(decide (k = 1) && decide (40 < Lm n p))
def rowV (n : Nat) (z : Nat → Nat → Rat) (p : Nat → Rat) (k : Nat) : D := if kn n p k = true then dvD (dv n z p (oo k)) else .non
theorem kn_kn {n : Nat} {p : Nat → Rat} {k : Nat} (hk : k < 14) (h : kn n p k = true) : Kn n p (oo k) := by
  unfold oo
  by_cases e : k = 13
  · rw [if_pos e]
    exact kn_all
  · rw [if_neg e]
    refine ⟨fun j hj => by cases hj; omega, fun hj => ?_⟩
    cases hj
    simpa [kn] using h
theorem rowV_isN {n : Nat} {z : Nat → Nat → Rat} {p : Nat → Rat} {k : Nat} : D.isN (rowV n z p k) = !kn n p k := by
  unfold rowV
  cases q : kn n p k with
  | true => rfl
  | false => rfl
theorem eqv_nil {l : List D} : D.eqv (.lst l) (.lst []) = l.isEmpty := by
  cases l with
  | nil => rfl
  | cons a r => rfl
theorem fl_dv {n : Nat} {a : Nat × Rat} : D.fl (n + 2) (dvD a) = true := fl_tup fun d hd => by
  simp only [List.mem_cons, List.not_mem_nil, or_false] at hd
  rcases hd with rfl | rfl
  · exact fl_int
  · exact fl_fr
theorem fr_nat (k : Nat) : fr (k : Rat) = .tup [.int (k : Nat), .int 1] := by
  unfold fr
  rw [Rat.num_natCast, Rat.den_natCast]
  rfl
theorem filt_false {A : Type} {q : A → Bool} {xs : List A} (h : ∀ a ∈ xs, q a = false) : xs.filter q = [] := by
  rw [List.filter_eq_nil_iff]
  intro a ha
  rw [h a ha]
  decide
def s__law_bounds_right : DSp := fun ds M Φ _ => ∃ n z p j, ds = [tabD n n z, rowD n p, .ptr j] ∧ M[j]? = some (.lst (up 14 (rowV n z p))) ∧ Lk n z ∧ Cm n p ∧ Φ (.bl true) M
theorem isE_filter {A : Type} {q : A → Bool} {xs : List A} {f : A → D} : ((xs.filter q).map f).isEmpty = decide (∀ a ∈ xs, q a = false) := by
  rw [Bool.eq_iff_iff, List.isEmpty_iff, List.map_eq_nil_iff, List.filter_eq_nil_iff, decide_eq_true_eq]
  constructor
  · intro h a ha
    have := h a ha
    simpa using this
  · intro h a ha
    rw [h a ha]
    decide
theorem r__law_bounds_right : ∀ ds M Φ Ψ, s__law_bounds_right ds M Φ Ψ → ds.length = 3 ∧ T__law_bounds_right s_sign_of (fnEnds M.length Φ Ψ) (startR N__law_bounds_right ds) M := by
  rintro ds M Φ Ψ ⟨n, z, p, j, rfl, hM, L, C, h⟩
  refine ⟨rfl, ?_⟩
  have n8 := L.n8
  have sl := supp_len (n := n) (p := p)
  obtain ⟨k0, r0, e0⟩ := supp_head C
  simp only [zero_frac, dSeq, dAsg, dIf, dIfS, dB, dOp, dUn, dCB, dCons, dNil, dTup, dLst, dVar, dC, dgName, dgTup, dgLst, dgCons, dgNil, dRet, dRetN, dDrop, dPar, dPar3, dNext, dAnd, dOr, dNot, dAndV, dOrV, dNotV, dChain, dCall, dCallR, dFor, diSeq, diRng1, diZip, diEnum, dLc, dYes, dElt, fnEnds, startR, wipeR, dAdd, dSub, dMul, dFdiv, dMod, dPow, dInt2, dNeg, dCmpI, dLt, dLe, dGt, dGe, dEq, dNe, dIsN, dIsNot, dIsB, dSl, dPart, dNoPart, dAbs, dInts2, dMax2, dMin2, dGcd, dInt, dIs1, dIs2, atI_0, atI_1, atI_2, atI_3, List.map, List.length, List.cons_append, List.nil_append, List.replicate, List.getElem?_cons_zero, List.getElem?_cons_succ, List.set, if_true, if_false, res_tup, res_lst, res_int, res_bl, res_str, res_non, res_fr, res_row, res_tab, res_ptr, ix_tup, ix_lst, ix_frl, ix_row, ix_tab, ix_fr0, ix_fr1, ix_ptr, len_tup, len_lst, len_frl, len_row, len_tab, len_ptr, sq_tup', sq_lst, sq_frl, sq_row, sq_tab, sq_ptr, lvf_lst, lvf_frl, lvf_ptr, isN_non, isN_tup, isN_int, isN_bl, sl_tup, sl_lst, sl_frl, sl_str, tupOf_lst, tupOf_tup, up_len, keep_lst, keep_frl, keep_tup, keep_row, keep_tab, keep_ptr, T__law_bounds_right, N__law_bounds_right]
  refine ⟨by omega, by omega, ?_⟩
  rw [up_int]
  -- kinds
  refine go_filter (e := fun k : Nat => D.int (0 + (k : Nat))) (f := fun k : Nat => .int (k : Nat)) (fun k => decide (p k ≠ 0)) (List.range n) (fun k hk acc kk hk1 hk2 hl => ?_) trivial (small (by simp; omega)) ?_
  · have hk := List.mem_range.mp hk
    simp only [Int.zero_add, up_at hk, dSeq, dAsg, dIf, dIfS, dB, dOp, dUn, dCB, dCons, dNil, dTup, dLst, dVar, dC, dgName, dgTup, dgLst, dgCons, dgNil, dRet, dRetN, dDrop, dPar, dPar3, dNext, dAnd, dOr, dNot, dAndV, dOrV, dNotV, dChain, dCall, dCallR, dFor, diSeq, diRng1, diZip, diEnum, dLc, dYes, dElt, fnEnds, startR, wipeR, dAdd, dSub, dMul, dFdiv, dMod, dPow, dInt2, dNeg, dCmpI, dLt, dLe, dGt, dGe, dEq, dNe, dIsN, dIsNot, dIsB, dSl, dPart, dNoPart, dAbs, dInts2, dMax2, dMin2, dGcd, dInt, dIs1, dIs2, atI_0, atI_1, atI_2, atI_3, List.map, List.length, List.cons_append, List.nil_append, List.replicate, List.getElem?_cons_zero, List.getElem?_cons_succ, List.set, if_true, if_false, res_tup, res_lst, res_int, res_bl, res_str, res_non, res_fr, res_row, res_tab, res_ptr, ix_tup, ix_lst, ix_frl, ix_row, ix_tab, ix_fr0, ix_fr1, ix_ptr, len_tup, len_lst, len_frl, len_row, len_tab, len_ptr, sq_tup', sq_lst, sq_frl, sq_row, sq_tab, sq_ptr, lvf_lst, lvf_frl, lvf_ptr, isN_non, isN_tup, isN_int, isN_bl, sl_tup, sl_lst, sl_frl, sl_str, tupOf_lst, tupOf_tup, up_len, keep_lst, keep_frl, keep_tup, keep_row, keep_tab, keep_ptr]
    refine ⟨by decide, fl_fr, fl_fr, ?_⟩
    by_cases e : p k = 0
    · exact no (by rw [eqv_fr, decide_eq_true e]; decide) (hk2 (by simp [e]))
    · exact yes (by rw [eqv_fr, decide_eq_false e]; decide) ⟨hl, hk1 (by simp [e])⟩
  have es : ((List.range n).filter fun k => decide (p k ≠ 0)) = supp n p := rfl
  rw [es]
  have ecn : (((supp n p).map fun k : Nat => D.int (k : Nat)).length : Int) = ((cnt n p : Nat) : Int) := by rw [List.length_map]; rfl
  rw [ecn]
  refine ⟨by decide, ?_⟩
  rw [sq_ptr hM]
  -- known
  refine go_filter (e := rowV n z p) (f := rowV n z p) (kn n p) (List.range 14) (fun k hk acc kk hk1 hk2 hl => ?_) hM (small (by simp)) ?_
  · rw [rowV_isN]
    cases q : kn n p k with
    | true => exact yes rfl ⟨hl, hk1 q⟩
    | false => exact no Bool.false_ne_true (hk2 q)
  refine ⟨by decide, ?_⟩
  have ek : ((List.range 14).filter (kn n p)).map (rowV n z p) = ((List.range 14).filter (kn n p)).map fun k => dvD (dv n z p (oo k)) := List.map_congr_left fun k hk => by
    unfold rowV
    rw [if_pos (List.mem_filter.mp hk).2]
  rw [ek]
  have kk' : ∀ k ∈ (List.range 14).filter (kn n p), Kn n p (oo k) := fun k hk => kn_kn (List.mem_range.mp (List.mem_filter.mp hk).1) (List.mem_filter.mp hk).2
  have lk : ((List.range 14).filter (kn n p)).length ≤ 14 := by
    have := List.length_filter_le (kn n p) (List.range 14)
    rw [List.length_range] at this
    exact this
  have pw1 : Pw (1, 1) := ⟨by show 1 ≤ 40; decide, Sm.one.mono (by decide)⟩
  have cl8 : cnt n p ≤ 8 := by have : cnt n p = (supp n p).length := rfl; omega
  have pwc : Pw (1, (cnt n p : Rat)) := ⟨by show 1 ≤ 40; decide, by
    refine ⟨?_, ?_⟩
    · show Bt 7905 (cnt n p : Rat).num
      rw [Rat.num_natCast]
      exact Bt.mono (m := 4) (by unfold Bt; rw [Int.natAbs_natCast]; omega) (by decide)
    · show Bt 7905 ((cnt n p : Rat).den : Int)
      rw [Rat.den_natCast]
      exact Bt.mono (m := 1) (by unfold Bt; decide) (by decide)⟩
  -- none below 1, none above the number
  refine go_filter (e := fun k => dvD (dv n z p (oo k))) (f := fun k => dvD (dv n z p (oo k))) (fun _ => false) ((List.range 14).filter (kn n p)) (fun k hk acc kk hk1 hk2 hl => ?_) trivial (small (by omega)) ?_
  · have K := kk' k hk
    simp only [one_frac, dSeq, dAsg, dIf, dIfS, dB, dOp, dUn, dCB, dCons, dNil, dTup, dLst, dVar, dC, dgName, dgTup, dgLst, dgCons, dgNil, dRet, dRetN, dDrop, dPar, dPar3, dNext, dAnd, dOr, dNot, dAndV, dOrV, dNotV, dChain, dCall, dCallR, dFor, diSeq, diRng1, diZip, diEnum, dLc, dYes, dElt, fnEnds, startR, wipeR, dAdd, dSub, dMul, dFdiv, dMod, dPow, dInt2, dNeg, dCmpI, dLt, dLe, dGt, dGe, dEq, dNe, dIsN, dIsNot, dIsB, dSl, dPart, dNoPart, dAbs, dInts2, dMax2, dMin2, dGcd, dInt, dIs1, dIs2, atI_0, atI_1, atI_2, atI_3, List.map, List.length, List.cons_append, List.nil_append, List.replicate, List.getElem?_cons_zero, List.getElem?_cons_succ, List.set, if_true, if_false, res_tup, res_lst, res_int, res_bl, res_str, res_non, res_fr, res_row, res_tab, res_ptr, ix_tup, ix_lst, ix_frl, ix_row, ix_tab, ix_fr0, ix_fr1, ix_ptr, len_tup, len_lst, len_frl, len_row, len_tab, len_ptr, sq_tup', sq_lst, sq_frl, sq_row, sq_tab, sq_ptr, lvf_lst, lvf_frl, lvf_ptr, isN_non, isN_tup, isN_int, isN_bl, sl_tup, sl_lst, sl_frl, sl_str, tupOf_lst, tupOf_tup, up_len, keep_lst, keep_frl, keep_tup, keep_row, keep_tab, keep_ptr]
    refine ⟨by decide, by decide, _, (1, 1), rfl, Pw.of L C K, pw1, ?_⟩
    refine no (by have := sn_one_ge L C (oo k); simp; omega) ?_
    refine ⟨by decide, _, (1, (cnt n p : Rat)), by unfold dvD; rw [fr_nat]; rfl, Pw.of L C K, pwc, ?_⟩
    refine no (by have := sn_cnt_le L C (oo k); simp; omega) (hk2 rfl)
  rw [filt_none]
  refine ⟨by decide, rfl, rfl, no (by rw [List.map_nil]; decide) ?_⟩
  -- plainly
  refine go_filter (e := fun k : Nat => D.int (k : Nat)) (f := fun k : Nat => D.int (k : Nat)) (fun i => decide (p i ≠ p k0) || !((((supp n p).filter fun j => decide (j ≠ i) && decide (z i j ≠ 0)).map fun k : Nat => D.int (k : Nat)).isEmpty)) (supp n p) (fun i hi acc kk hk1 hk2 hl => ?_) trivial (small (by omega)) ?_
  · have hin := supp_lt hi
    have h00 : L2.atI ((supp n p).map fun k : Nat => D.int (k : Nat)) (0 : Int) = some (.int (k0 : Nat)) := by rw [e0]; exact atI_0
    have hk0 : k0 < n := supp_lt (p := p) (by rw [e0]; exact List.mem_cons_self)
    simp only [up_at hin, up_at hk0, h00, dSeq, dAsg, dIf, dIfS, dB, dOp, dUn, dCB, dCons, dNil, dTup, dLst, dVar, dC, dgName, dgTup, dgLst, dgCons, dgNil, dRet, dRetN, dDrop, dPar, dPar3, dNext, dAnd, dOr, dNot, dAndV, dOrV, dNotV, dChain, dCall, dCallR, dFor, diSeq, diRng1, diZip, diEnum, dLc, dYes, dElt, fnEnds, startR, wipeR, dAdd, dSub, dMul, dFdiv, dMod, dPow, dInt2, dNeg, dCmpI, dLt, dLe, dGt, dGe, dEq, dNe, dIsN, dIsNot, dIsB, dSl, dPart, dNoPart, dAbs, dInts2, dMax2, dMin2, dGcd, dInt, dIs1, dIs2, atI_0, atI_1, atI_2, atI_3, List.map, List.length, List.cons_append, List.nil_append, List.replicate, List.getElem?_cons_zero, List.getElem?_cons_succ, List.set, if_true, if_false, res_tup, res_lst, res_int, res_bl, res_str, res_non, res_fr, res_row, res_tab, res_ptr, ix_tup, ix_lst, ix_frl, ix_row, ix_tab, ix_fr0, ix_fr1, ix_ptr, len_tup, len_lst, len_frl, len_row, len_tab, len_ptr, sq_tup', sq_lst, sq_frl, sq_row, sq_tab, sq_ptr, lvf_lst, lvf_frl, lvf_ptr, isN_non, isN_tup, isN_int, isN_bl, sl_tup, sl_lst, sl_frl, sl_str, tupOf_lst, tupOf_tup, up_len, keep_lst, keep_frl, keep_tup, keep_row, keep_tab, keep_ptr]
    refine ⟨fl_fr, fl_fr, ?_⟩
    by_cases e : p i = p k0
    · refine no (by rw [eqv_fr, decide_eq_true e]; decide) ?_
      refine go_filter (e := fun k : Nat => D.int (k : Nat)) (f := fun k : Nat => D.int (k : Nat)) (fun j => decide (j ≠ i) && decide (z i j ≠ 0)) (supp n p) (fun j hj acc2 k2 hk1' hk2' hl2 => ?_) trivial (small (by omega)) ?_
      · have hjn := supp_lt hj
        simp only [up_at hin, up_at hjn, zero_frac, dSeq, dAsg, dIf, dIfS, dB, dOp, dUn, dCB, dCons, dNil, dTup, dLst, dVar, dC, dgName, dgTup, dgLst, dgCons, dgNil, dRet, dRetN, dDrop, dPar, dPar3, dNext, dAnd, dOr, dNot, dAndV, dOrV, dNotV, dChain, dCall, dCallR, dFor, diSeq, diRng1, diZip, diEnum, dLc, dYes, dElt, fnEnds, startR, wipeR, dAdd, dSub, dMul, dFdiv, dMod, dPow, dInt2, dNeg, dCmpI, dLt, dLe, dGt, dGe, dEq, dNe, dIsN, dIsNot, dIsB, dSl, dPart, dNoPart, dAbs, dInts2, dMax2, dMin2, dGcd, dInt, dIs1, dIs2, atI_0, atI_1, atI_2, atI_3, List.map, List.length, List.cons_append, List.nil_append, List.replicate, List.getElem?_cons_zero, List.getElem?_cons_succ, List.set, if_true, if_false, res_tup, res_lst, res_int, res_bl, res_str, res_non, res_fr, res_row, res_tab, res_ptr, ix_tup, ix_lst, ix_frl, ix_row, ix_tab, ix_fr0, ix_fr1, ix_ptr, len_tup, len_lst, len_frl, len_row, len_tab, len_ptr, sq_tup', sq_lst, sq_frl, sq_row, sq_tab, sq_ptr, lvf_lst, lvf_frl, lvf_ptr, isN_non, isN_tup, isN_int, isN_bl, sl_tup, sl_lst, sl_frl, sl_str, tupOf_lst, tupOf_tup, up_len, keep_lst, keep_frl, keep_tup, keep_row, keep_tab, keep_ptr]
        refine ⟨fl_int, fl_int, ?_⟩
        by_cases ej : j = i
        · exact no (by rw [eqv_ii, decide_eq_true (by omega)]; decide) (hk2' (by simp [ej]))
        · refine yes (by rw [eqv_ii, decide_eq_false (by omega)]; decide) ⟨by decide, fl_fr, fl_fr, ?_⟩
          by_cases ez : z i j = 0
          · exact no (by rw [eqv_fr, decide_eq_true ez]; decide) (hk2' (by simp [ez]))
          · exact yes (by rw [eqv_fr, decide_eq_false ez]; decide) ⟨hl2, hk1' (by simp [ej, ez])⟩
      · refine ⟨by decide, ?_, rfl, ?_⟩
        · exact fl_lst fun d hd => by
            obtain ⟨k, _, rfl⟩ := List.mem_map.mp hd
            exact fl_int
        · rw [decide_eq_false (by simpa using e), Bool.false_or] at hk1 hk2
          cases q : (((supp n p).filter fun j => decide (j ≠ i) && decide (z i j ≠ 0)).map fun k : Nat => D.int (k : Nat)).isEmpty with
          | true =>
            rw [q] at hk2
            exact no (by rw [eqv_nil, q]; decide) (hk2 rfl)
          | false =>
            rw [q] at hk1
            exact yes (by rw [eqv_nil, q]; decide) ⟨hl, hk1 rfl⟩
    · refine yes (by rw [eqv_fr, decide_eq_false e]; decide) ⟨hl, hk1 (by rw [decide_eq_true (by simpa using e)]; rfl)⟩
  · refine ⟨by decide, ?_, rfl, ?_⟩
    · exact fl_lst fun d hd => by
        obtain ⟨k, _, rfl⟩ := List.mem_map.mp hd
        exact fl_int
    · rw [eqv_nil, isE_filter]
      refine go_filter (e := fun k => dvD (dv n z p (oo k))) (f := fun k => dvD (dv n z p (oo k))) (fun k => decide (sn (dv n z p (oo k)) (1, (cnt n p : Rat)) ≠ 0)) ((List.range 14).filter (kn n p)) (fun k hk acc kk hk1 hk2 hl => ?_) trivial (small (by omega)) ?_
      · have K := kk' k hk
        refine ⟨by decide, _, (1, (cnt n p : Rat)), by unfold dvD; rw [fr_nat]; rfl, Pw.of L C K, pwc, fl_int, fl_int, ?_⟩
        by_cases e : sn (dv n z p (oo k)) (1, (cnt n p : Rat)) = 0
        · exact no (by rw [res_int, eqv_ii, decide_eq_true e]; decide) (hk2 (by simp [e]))
        · exact yes (by rw [res_int, eqv_ii, decide_eq_false e]; decide) ⟨hl, hk1 (by simp [e])⟩
      · refine ⟨by decide, ?_, rfl, fl_bl, fl_bl, DropN.of ?_⟩
        · exact fl_lst fun d hd => by
            obtain ⟨k, _, rfl⟩ := List.mem_map.mp hd
            exact fl_dv
        · rw [eqv_nil, isE_filter]
          have key : decide (∀ a ∈ supp n p, (decide (p a ≠ p k0) || !((((supp n p).filter fun j => decide (j ≠ a) && decide (z a j ≠ 0)).map fun k : Nat => D.int (k : Nat)).isEmpty)) = false) = decide (∀ k ∈ (List.range 14).filter (kn n p), decide (sn (dv n z p (oo k)) (1, (cnt n p : Rat)) ≠ 0) = false) := by
            rw [decide_eq_decide]
            have k0s : k0 ∈ supp n p := by rw [e0]; exact List.mem_cons_self
            constructor
            · intro hp
              have P : Plain n z p := fun i hi => by
                refine ⟨fun k hk => ?_, fun j hj hji => ?_⟩
                · have h1 := hp i hi
                  have h2 := hp k hk
                  rw [Bool.or_eq_false_iff] at h1 h2
                  have a1 : p i = p k0 := by simpa using h1.1
                  have a2 : p k = p k0 := by simpa using h2.1
                  rw [a1, a2]
                · have h1 := hp i hi
                  rw [Bool.or_eq_false_iff, isE_filter] at h1
                  have h2 := h1.2
                  simp only [Bool.not_eq_false', decide_eq_true_eq] at h2
                  have h3 := h2 j hj
                  rw [Bool.and_eq_false_iff] at h3
                  rcases h3 with h3 | h3
                  · exact absurd hji (by simpa using h3)
                  · simpa using h3
              intro k _
              simpa using plain_sn L C P (oo k)
            · intro hq
              have m0 : (0 : Nat) ∈ (List.range 14).filter (kn n p) := List.mem_filter.mpr ⟨by decide, rfl⟩
              have m13 : (13 : Nat) ∈ (List.range 14).filter (kn n p) := List.mem_filter.mpr ⟨by decide, rfl⟩
              have P : Plain n z p := plain_of L C (by simpa [oo] using hq 0 m0) (by simpa [oo] using hq 13 m13)
              intro i hi
              rw [Bool.or_eq_false_iff, isE_filter]
              refine ⟨by simpa using (P i hi).1 k0 k0s, ?_⟩
              simp only [Bool.not_eq_false', decide_eq_true_eq]
              intro j hj
              rw [Bool.and_eq_false_iff]
              by_cases e : j = i
              · exact .inl (by simpa using e)
              · exact .inr (by simpa using (P i hi).2 j hj e)
          rw [key]
          have : D.eqv (.bl (decide (∀ k ∈ (List.range 14).filter (kn n p), decide (sn (dv n z p (oo k)) (1, (cnt n p : Rat)) ≠ 0) = false))) (.bl (decide (∀ k ∈ (List.range 14).filter (kn n p), decide (sn (dv n z p (oo k)) (1, (cnt n p : Rat)) ≠ 0) = false))) = true := D.eqv_self 0 _ fl_bl
          rw [this]
          exact h
end K85

set_option Elab.async false
set_option linter.all false
set_option autoImplicit false
set_option maxRecDepth 100000
set_option maxHeartbeats 8000000
/-! # All orders -/
namespace K85
open PySem PySem.Spec L2 DL
open PyProof.Rows hiding St
theorem lv_lst {M : Ms} {ds : List D} : lv M (.lst ds) = some ds := rfl
theorem isN_dv {a : Nat × Rat} : D.isN (dvD a) = false := rfl
theorem res_dv {M : Ms} {a : Nat × Rat} : D.res M (dvD a) = dvD a := rfl
theorem ix_dv {M : Ms} {a : Nat × Rat} {Φ : DK} : dIx (dvD a) (.int 1) M Φ = Φ (fr a.2) M := by unfold dvD; rw [ix_tup, atI_1]
theorem get_last {M : Ms} {c : MO} : (M ++ [c])[M.length]? = some c := by simp
theorem set_last {M : Ms} {c d : MO} : (M ++ [c]).set M.length d = M ++ [d] := by simp
theorem wf_fr {n : Nat} {x : Rat} : Wf (n + 1) (fr x) := ⟨by show 2 ≤ 1000; decide, fun d hd => by
  simp only [List.mem_cons, List.not_mem_nil, or_false] at hd
  rcases hd with rfl | rfl <;> (cases n <;> exact trivial)⟩
theorem wf_int {n : Nat} {i : Int} : Wf n (.int i) := by cases n <;> exact trivial
theorem wf_non {n : Nat} : Wf n .non := by cases n <;> exact trivial
theorem wf_bl {n : Nat} {i : Bool} : Wf n (.bl i) := by cases n <;> exact trivial
theorem wf_str {n : Nat} {x : Str} (h : sokB x = true) (l : x.length ≤ 1000) : Wf n (.str x) := by cases n <;> exact ⟨h, l⟩
theorem wf_dv {n : Nat} {a : Nat × Rat} : Wf (n + 2) (dvD a) := ⟨by show 2 ≤ 1000; decide, fun d hd => by
  simp only [List.mem_cons, List.not_mem_nil, or_false] at hd
  rcases hd with rfl | rfl
  · exact wf_int
  · exact wf_fr⟩
theorem wf_pair {n : Nat} {x : Str} {d : D} (h : sokB x = true) (l : x.length ≤ 1000) (w : Wf n d) : Wf (n + 1) (.lst [.str x, d]) := ⟨by show 2 ≤ 1000; decide, fun e he => by
  simp only [List.mem_cons, List.not_mem_nil, or_false] at he
  rcases he with rfl | rfl
  · exact wf_str h l
  · exact w⟩
theorem sok_told : sokB "told" = true := by decide +kernel
theorem sok_many : sokB "many" = true := by decide +kernel
theorem sok_number : sokB "number" = true := by decide +kernel
theorem wf_told {n : Nat} {d : D} (w : Wf n d) : Wf (n + 1) (.lst [.str "told", d]) := wf_pair sok_told (by decide +kernel) w
theorem wf_many {n : Nat} {k : Int} : Wf (n + 1) (.lst [.str "many", .int k]) := wf_pair sok_many (by decide +kernel) wf_int
theorem wf_number {n : Nat} {d : D} (w : Wf n d) : Wf (n + 1) (.lst [.str "number", d]) := wf_pair sok_number (by decide +kernel) w
theorem wf_fall {m n : Nat} {z : Nat → Nat → Rat} {p : Nat → Rat} : Wf (m + 1) (fallD n z p) := ⟨by unfold up; rw [List.length_map, List.length_range]; decide, fun d hd => by
  obtain ⟨k, _, rfl⟩ := List.mem_map.mp hd
  exact wf_int⟩
/-- the sign of neighbours, where both are told -/
def sgV (n : Nat) (z : Nat → Nat → Rat) (p : Nat → Rat) (k : Nat) : D := if (kn n p k && kn n p (k + 1)) = true then .int (sn (dv n z p (oo k)) (dv n z p (oo (k + 1)))) else .non
theorem cut_take {ds : List D} {k : Nat} : DL.cutD ds none (some (k : Int)) = ds.take k := by
  unfold DL.cutD
  rw [HT.sIx_none, HT.sIx_nat, List.drop_zero, Nat.sub_zero]
  rcases Nat.le_total k ds.length with h | h
  · rw [Nat.min_eq_left h]
  · rw [Nat.min_eq_right h, List.take_length, List.take_of_length_le h]
theorem oo_lt {k : Nat} (h : k < 13) : oo k = some k := by unfold oo; rw [if_neg (by omega)]
theorem oo_nxt {k : Nat} (h : k < 13) : oo (k + 1) = nxt k := by
  unfold oo nxt
  by_cases e : k = 12
  · rw [if_pos (by omega), if_pos e]
  · rw [if_neg (by omega), if_neg e]
theorem signs_fall {n : Nat} {z : Nat → Nat → Rat} {p : Nat → Rat} (few : Lm n p ≤ 40) : D.tup (DL.cutD ((List.range 13).map (sgV n z p)) none (some 12)) = fallD n z p := by
  have e : ((12 : Nat) : Int) = 12 := rfl
  rw [← e, cut_take, ← List.map_take]
  have e2 : (List.range 13).take 12 = List.range 12 := rfl
  rw [e2]
  unfold fallD up
  congr 1
  refine List.map_congr_left fun k hk => ?_
  have hk := List.mem_range.mp hk
  have kt : ∀ j, kn n p j = true := fun j => by simp [kn]; omega
  unfold sgV
  rw [kt, kt, oo_lt (by omega), oo_lt (by omega)]
  rfl
theorem yes2 {c d : Prop} {i : Decidable c} {j : Decidable d} {A B : Prop} (h : c ∨ d) (a : A) : @ite Prop c i A (@ite Prop d j A B) := by
  by_cases hc : c
  · exact yes hc a
  · exact no hc (yes (h.resolve_left hc) a)
def s__law_orders_right : DSp := fun ds M Φ _ => ∃ n z p b, ds = [tabD n n z, rowD n p, .bl b] ∧ Lk n z ∧ Cm n p ∧ Cl M ∧ Φ (.bl true) M
theorem up_succ {A : Type} {n : Nat} {f : Nat → A} : up n f ++ [f n] = up (n + 1) f := by
  unfold up
  rw [List.range_succ, List.map_append]
  rfl
theorem r__law_orders_right : ∀ ds M Φ Ψ, s__law_orders_right ds M Φ Ψ → ds.length = 3 ∧ T__law_orders_right s_common_multiple s_diversity_of (s__law_same 8) s__law_told s_over s_sign_of s_applied_to s_least_diversity s_greatest_order s__law_bounds_right (fnEnds M.length Φ Ψ) (startR N__law_orders_right ds) M := by
  rintro ds M Φ Ψ ⟨n, z, p, b0, rfl, L, C, hCl, h⟩
  refine ⟨rfl, ?_⟩
  have n8 := L.n8
  have sl := supp_len (n := n) (p := p)
  obtain ⟨k0, r0, e0⟩ := supp_head C
  simp only [one_frac, zero_frac, dSeq, dAsg, dIf, dIfS, dB, dOp, dUn, dCB, dCons, dNil, dTup, dLst, dVar, dC, dgName, dgTup, dgLst, dgCons, dgNil, dRet, dRetN, dDrop, dPar, dPar3, dNext, dAnd, dOr, dNot, dAndV, dOrV, dNotV, dChain, dCall, dCallR, dFor, diSeq, diRng1, diZip, diEnum, dLc, dYes, dElt, fnEnds, startR, wipeR, dAdd, dSub, dMul, dFdiv, dMod, dPow, dInt2, dNeg, dCmpI, dLt, dLe, dGt, dGe, dEq, dNe, dIsN, dIsNot, dIsB, dSl, dPart, dNoPart, dAbs, dInts2, dMax2, dMin2, dGcd, dInt, dIs1, dIs2, atI_0, atI_1, atI_2, atI_3, List.map, List.length, List.cons_append, List.nil_append, List.replicate, List.getElem?_cons_zero, List.getElem?_cons_succ, List.set, if_true, if_false, res_tup, res_lst, res_int, res_bl, res_str, res_non, res_fr, res_row, res_tab, res_ptr, ix_tup, ix_lst, ix_frl, ix_row, ix_tab, ix_fr0, ix_fr1, ix_ptr, len_tup, len_lst, len_frl, len_row, len_tab, len_ptr, sq_tup', sq_lst, sq_frl, sq_row, sq_tab, sq_ptr, lvf_lst, lvf_frl, lvf_ptr, isN_non, isN_tup, isN_int, isN_bl, sl_tup, sl_lst, sl_frl, sl_str, tupOf_lst, tupOf_tup, up_len, keep_lst, keep_frl, keep_tup, keep_row, keep_tab, keep_ptr, T__law_orders_right, N__law_orders_right, dLstM, dLstRg1, lv_lst]
  refine ⟨n, p, rfl, C, n8, by decide, by decide, ⟨by decide, by decide⟩, by decide, by decide, ?_⟩
  have er : rngD 0 (13 : Int).toNat ++ [.str "all"] = (List.range' 0 14).map fun k => qD (oo k) := rfl
  rw [er]
  refine for_map (e := fun k => qD (oo k)) (I := fun xs ρ M' => ∃ i, xs = List.range' i (14 - i) ∧ i ≤ 14 ∧ M' = M ++ [.lst (up i (rowV n z p))] ∧ ∃ (b : Bool) (o3 o5 o13 : Option D), ρ = [some (tabD n n z), some (rowD n p), some (.bl b), o3, none, o5, none, none, none, none, none, some (.int (Lm n p : Nat)), some (.ptr M.length), o13, none, none, none]) ?_ ?_ (List.range' 0 14) _ _ ⟨0, rfl, by decide, rfl, b0, none, none, none, rfl⟩
  · rintro ρ M' ⟨i, hx, hi, rfl, b, o3, o5, o13, rfl⟩
    have hi14 : i = 14 := by
      have := congrArg List.length hx
      rw [List.length_range'] at this
      simp at this
      omega
    subst hi14
    refine ⟨trivial, ?_⟩
    have gl : ∀ c : MO, (M ++ [c])[M.length]? = some c := fun c => get_last
    simp only [one_frac, zero_frac, dSeq, dAsg, dIf, dIfS, dB, dOp, dUn, dCB, dCons, dNil, dTup, dLst, dVar, dC, dgName, dgTup, dgLst, dgCons, dgNil, dRet, dRetN, dDrop, dPar, dPar3, dNext, dAnd, dOr, dNot, dAndV, dOrV, dNotV, dChain, dCall, dCallR, dFor, diSeq, diRng1, diZip, diEnum, dLc, dYes, dElt, fnEnds, startR, wipeR, dAdd, dSub, dMul, dFdiv, dMod, dPow, dInt2, dNeg, dCmpI, dLt, dLe, dGt, dGe, dEq, dNe, dIsN, dIsNot, dIsB, dSl, dPart, dNoPart, dAbs, dInts2, dMax2, dMin2, dGcd, dInt, dIs1, dIs2, atI_0, atI_1, atI_2, atI_3, List.map, List.length, List.cons_append, List.nil_append, List.replicate, List.getElem?_cons_zero, List.getElem?_cons_succ, List.set, if_true, if_false, res_tup, res_lst, res_int, res_bl, res_str, res_non, res_fr, res_row, res_tab, res_ptr, ix_tup, ix_lst, ix_frl, ix_row, ix_tab, ix_fr0, ix_fr1, ix_ptr, len_tup, len_lst, len_frl, len_row, len_tab, len_ptr, sq_tup', sq_lst, sq_frl, sq_row, sq_tab, sq_ptr, lvf_lst, lvf_frl, lvf_ptr, isN_non, isN_tup, isN_int, isN_bl, sl_tup, sl_lst, sl_frl, sl_str, tupOf_lst, tupOf_tup, up_len, keep_lst, keep_frl, keep_tup, keep_row, keep_tab, keep_ptr]
    refine ⟨by decide, by decide, ?_⟩
    have er : rngD 0 (13 : Int).toNat = (List.range 13).map fun k : Nat => D.int (0 + (k : Nat)) := rfl
    rw [er]
    have lm : Lm n p ≤ 40 ∨ 40 < Lm n p := by omega
    refine go_map (e := fun k : Nat => D.int (0 + (k : Nat))) (f := sgV n z p) (List.range 13) (fun k hk acc kk hkk hl => ?_) trivial (small (by simp)) ?_
    · have hk := List.mem_range.mp hk
      have a1 : L2.atI (up 14 (rowV n z p)) ((k : Nat) : Int) = some (rowV n z p k) := up_at (by omega)
      have a2 : L2.atI (up 14 (rowV n z p)) (((k + 1 : Nat) : Nat) : Int) = some (rowV n z p (k + 1)) := up_at (by omega)
      have e1 : ((k : Nat) : Int) + 1 = ((k + 1 : Nat) : Int) := by omega
      simp only [Int.zero_add, ix_ptr (gl _), e1, a1, a2, rowV_isN]
      unfold sgV at hkk
      cases q : kn n p k with
      | false =>
        rw [q] at hkk
        exact yes rfl ⟨hl, hkk⟩
      | true =>
        rw [q] at hkk
        refine no Bool.false_ne_true ?_
        cases q' : kn n p (k + 1) with
        | false =>
          rw [q'] at hkk
          exact yes rfl ⟨hl, hkk⟩
        | true =>
          rw [q'] at hkk
          refine no Bool.false_ne_true ⟨dv n z p (oo k), dv n z p (oo (k + 1)), ?_, Pw.of L C (kn_kn (by omega) q), Pw.of L C (kn_kn (by omega) q'), hl, hkk⟩
          unfold rowV
          rw [q, q']
          rfl
    have kk13 : ∀ k, 0 ≤ sn (dv n z p (oo k)) (dv n z p (oo (k + 1))) ∨ ¬ k < 13 := fun k => by
      by_cases hk : k < 13
      · rw [oo_lt hk, oo_nxt hk]
        exact .inl (falls_ge L C k (by omega))
      · exact .inr hk
    have k0s : k0 ∈ supp n p := by rw [e0]; exact List.mem_cons_self
    rcases lm with few | few
    case' inl =>
      refine no (by simp; omega) ⟨by decide, by decide, "falls", _, b, _, rfl, .fall L C few, ?_⟩
      rw [signs_fall few]
      refine ⟨_, rfl, wf_told wf_fall, no (by decide) ?_⟩
    case' inr =>
      refine yes (by simp; omega) ⟨by decide, by decide, "falls", _, b, _, rfl, .fallM L C few, ?_⟩
      refine ⟨_, rfl, wf_many, no (by decide) ?_⟩
    all_goals
      refine go_filter (e := sgV n z p) (f := sgV n z p) (fun _ => false) (List.range 13) (fun k hk acc kk hk1 hk2 hl => ?_) trivial (small (by simp)) ?_
      · have hk := List.mem_range.mp hk
        unfold sgV
        cases q : (kn n p k && kn n p (k + 1)) with
        | true =>
          have := (kk13 k).resolve_right (fun z => z hk)
          exact yes rfl (no (by simp; omega) (hk2 rfl))
        | false => exact no Bool.false_ne_true (no Bool.false_ne_true (hk2 rfl))
      rw [filt_none]
      refine ⟨by decide, rfl, rfl, no (by rw [List.map_nil]; decide) ?_⟩
      refine ⟨n, n, z, p, rfl, ⟨3, 7, fun i hi k hk => L.sm i hi k hk, C.sm, by omega⟩, by omega, by omega, ?_⟩
      simp only [len_row]
      refine ⟨by omega, by omega, ?_⟩
      rw [up_int]
      refine go_filter (e := fun k : Nat => D.int (0 + (k : Nat))) (f := fun k => fr (xx n z p k)) (fun k => decide (p k ≠ 0)) (List.range n) (fun k hk acc kk hk1 hk2 hl => ?_) trivial (small (by simp; omega)) ?_
      · have hk := List.mem_range.mp hk
        simp only [ix_row, Int.zero_add, up_at hk]
        refine ⟨by decide, fl_fr, fl_fr, ?_⟩
        by_cases e : p k = 0
        · exact no (by rw [res_fr, eqv_fr, decide_eq_true e]; decide) (hk2 (by simp [e]))
        · exact yes (by rw [res_fr, eqv_fr, decide_eq_false e]; decide) ⟨hl, hk1 (by simp [e])⟩
      have es : ((List.range n).filter fun k => decide (p k ≠ 0)) = supp n p := rfl
      rw [es]
      have h00 : L2.atI ((supp n p).map fun k => fr (xx n z p k)) (0 : Int) = some (fr (xx n z p k0)) := by rw [e0]; exact atI_0
      refine go_filter (e := fun k => fr (xx n z p k)) (f := fun k => fr (xx n z p k)) (fun k => decide (xx n z p k ≠ xx n z p k0)) (supp n p) (fun k hk acc kk hk1 hk2 hl => ?_) trivial (small (by omega)) ?_
      · simp only [h00]
        refine ⟨fl_fr, fl_fr, ?_⟩
        by_cases e : xx n z p k = xx n z p k0
        · exact no (by rw [res_fr, res_fr, eqv_fr, decide_eq_true e]; decide) (hk2 (by simp [e]))
        · exact yes (by rw [res_fr, res_fr, eqv_fr, decide_eq_false e]; decide) ⟨hl, hk1 (by simp [e])⟩
      refine ⟨by decide, ?_, rfl, ?_⟩
      · exact fl_lst fun d hd => by
          obtain ⟨k, _, rfl⟩ := List.mem_map.mp hd
          exact fl_fr
      refine go_filter (e := sgV n z p) (f := sgV n z p) (fun k => kn n p k && kn n p (k + 1)) (List.range 13) (fun k hk acc kk hk1 hk2 hl => ?_) trivial (small (by simp)) ?_
      · have hk := List.mem_range.mp hk
        unfold sgV at hk1 ⊢
        cases q : (kn n p k && kn n p (k + 1)) with
        | true =>
          rw [q] at hk1
          exact yes rfl ⟨hl, hk1 rfl⟩
        | false => exact no Bool.false_ne_true (hk2 q)
      have lk : ((List.range 13).filter fun k => kn n p k && kn n p (k + 1)).length ≤ 13 := by
        have := List.length_filter_le (fun k => kn n p k && kn n p (k + 1)) (List.range 13)
        rw [List.length_range] at this
        exact this
      refine go_filter (e := sgV n z p) (f := sgV n z p) (fun k => decide (sn (dv n z p (oo k)) (dv n z p (oo (k + 1))) ≠ 0)) ((List.range 13).filter fun k => kn n p k && kn n p (k + 1)) (fun k hk acc kk hk1 hk2 hl => ?_) trivial (small (by omega)) ?_
      · have q := (List.mem_filter.mp hk).2
        unfold sgV at hk1 ⊢
        rw [if_pos q] at hk1 ⊢
        refine ⟨fl_int, fl_int, ?_⟩
        by_cases e : sn (dv n z p (oo k)) (dv n z p (oo (k + 1))) = 0
        · exact no (by rw [res_int, eqv_ii, decide_eq_true e]; decide) (hk2 (by simp [e]))
        · exact yes (by rw [res_int, eqv_ii, decide_eq_false e]; decide) ⟨hl, hk1 (by simp [e])⟩
      refine ⟨by decide, ?_, rfl, fl_bl, fl_bl, no ?_ ?_⟩
      · exact fl_lst fun d hd => by
          obtain ⟨k, _, rfl⟩ := List.mem_map.mp hd
          unfold sgV
          split
          · exact fl_int
          · exact fl_non
      · have key : (((supp n p).filter fun k => decide (xx n z p k ≠ xx n z p k0)).map fun k => fr (xx n z p k)).isEmpty = ((((List.range 13).filter fun k => kn n p k && kn n p (k + 1)).filter fun k => decide (sn (dv n z p (oo k)) (dv n z p (oo (k + 1))) ≠ 0)).map (sgV n z p)).isEmpty := by
          rw [isE_filter, isE_filter, decide_eq_decide]
          constructor
          · intro hx k _
            have := alike_sn L C (c := xx n z p k0) (fun a ha => by simpa using hx a ha) (oo k) (oo (k + 1))
            simpa using this
          · intro hs a ha
            have m2 : (2 : Nat) ∈ (List.range 13).filter fun k => kn n p k && kn n p (k + 1) := List.mem_filter.mpr ⟨by decide, rfl⟩
            have h2 : sn (dv n z p (some 2)) (dv n z p (some 3)) = 0 := by simpa [oo] using hs 2 m2
            obtain ⟨c, hc⟩ := two_three L C h2
            simp [hc a ha, hc k0 k0s]
        rw [eqv_nil, eqv_nil, key, D.eqv_self 0 _ fl_bl]
        decide
      have a13 : L2.atI (up 14 (rowV n z p)) (13 : Int) = some (dvD (dv n z p none)) := up_at (n := 14) (k := 13) (by decide)
      have a0 : L2.atI (up 14 (rowV n z p)) (0 : Int) = some (dvD (dv n z p (some 0))) := up_at (n := 14) (k := 0) (by decide)
      have wf2 : Wf 8 (.lst [fr (dv n z p none).2, fr (dv n z p (some 0)).2]) := ⟨by show 2 ≤ 1000; decide, fun e he => by
        simp only [List.mem_cons, List.not_mem_nil, or_false] at he
        rcases he with rfl | rfl <;> exact wf_fr⟩
      cases b with
      | true =>
        refine yes rfl ⟨n, z, p, rfl, L, C, n, z, p, rfl, L, C, by decide, ?_⟩
        simp only [ix_ptr (gl _), a13, a0, ix_dv]
        exact ⟨by decide, _, rfl, wf2, yes rfl ⟨n, z, p, M.length, rfl, gl _, L, C, DropN.cut [_] rfl (Nat.le_refl _) hCl rfl h⟩⟩
      | false =>
        refine no Bool.false_ne_true ⟨trivial, n, z, p, rfl, L, C, n, z, p, rfl, L, C, by decide, ?_⟩
        simp only [ix_ptr (gl _), a13, a0, ix_dv]
        exact ⟨by decide, _, rfl, wf2, yes rfl ⟨n, z, p, M.length, rfl, gl _, L, C, DropN.cut [_] rfl (Nat.le_refl _) hCl rfl h⟩⟩
  · rintro k r ρ M' nx hnx ⟨i, hx, hi, rfl, b, o3, o5, o13, rfl⟩
    have hlt : i < 14 := by
      have := congrArg List.length hx
      rw [List.length_range'] at this
      simp at this
      omega
    have e14 : 14 - i = (14 - (i + 1)) + 1 := by omega
    rw [e14, List.range'_succ] at hx
    cases hx
    have gl : ∀ c : MO, (M ++ [c])[M.length]? = some c := fun c => get_last
    have nxt : ∀ o3 o5, nx [some (tabD n n z), some (rowD n p), some (.bl (!b)), o3, none, o5, none, none, none, none, none, some (.int (Lm n p : Nat)), some (.ptr M.length), some (rowV n z p k), none, none, none] (M ++ [.lst (up (k + 1) (rowV n z p))]) := fun o3 o5 => hnx _ _ ⟨k + 1, rfl, by omega, rfl, !b, o3, o5, _, rfl⟩
    have tl : ∀ d o3 o5, d = rowV n z p k → ((lvf (M ++ [.lst (up k (rowV n z p))]) (.ptr M.length)).isSome = true ∧ match (M ++ [MO.lst (up k (rowV n z p))])[M.length]? with
        | some (MO.lst xs) => xs.length < sizeLine ∧ nx [some (tabD n n z), some (rowD n p), some (.bl (!b)), o3, none, o5, none, none, none, none, none, some (.int (Lm n p : Nat)), some (.ptr M.length), some d, none, none, none] (List.set (M ++ [.lst (up k (rowV n z p))]) M.length (.lst (xs ++ [d])))
        | _ => False) := fun d o3 o5 hd => by
      rw [lvf_ptr (gl _), gl]
      refine ⟨rfl, ?_, ?_⟩
      · rw [up_len]
        exact Nat.lt_of_lt_of_le hlt (by decide)
      · rw [set_last, hd, up_succ]
        exact nxt o3 o5
    refine ⟨trivial, ?_⟩
    simp only [one_frac, dSeq, dAsg, dIf, dIfS, dB, dOp, dUn, dCB, dCons, dNil, dTup, dLst, dVar, dC, dgName, dgTup, dgLst, dgCons, dgNil, dRet, dRetN, dDrop, dPar, dPar3, dNext, dAnd, dOr, dNot, dAndV, dOrV, dNotV, dChain, dCall, dCallR, dFor, diSeq, diRng1, diZip, diEnum, dLc, dYes, dElt, fnEnds, startR, wipeR, dAdd, dSub, dMul, dFdiv, dMod, dPow, dInt2, dNeg, dCmpI, dLt, dLe, dGt, dGe, dEq, dNe, dIsN, dIsNot, dIsB, dSl, dPart, dNoPart, dAbs, dInts2, dMax2, dMin2, dGcd, dInt, dIs1, dIs2, atI_0, atI_1, atI_2, atI_3, List.map, List.length, List.cons_append, List.nil_append, List.replicate, List.getElem?_cons_zero, List.getElem?_cons_succ, List.set, if_true, if_false, res_tup, res_lst, res_int, res_bl, res_str, res_non, res_fr, res_row, res_tab, res_ptr, ix_tup, ix_lst, ix_frl, ix_row, ix_tab, ix_fr0, ix_fr1, ix_ptr, len_tup, len_lst, len_frl, len_row, len_tab, len_ptr, sq_tup', sq_lst, sq_frl, sq_row, sq_tab, sq_ptr, lvf_lst, lvf_frl, lvf_ptr, isN_non, isN_tup, isN_int, isN_bl, sl_tup, sl_lst, sl_frl, sl_str, tupOf_lst, tupOf_tup, up_len, keep_lst, keep_frl, keep_tup, keep_row, keep_tab, keep_ptr, dBM, dAppend]
    by_cases h13 : k = 13
    · subst h13
      have eo : oo 13 = none := rfl
      have ev : rowV n z p 13 = dvD (dv n z p none) := rfl
      simp only [eo, qD, dSeq, dAsg, dIf, dIfS, dB, dOp, dUn, dCB, dCons, dNil, dTup, dLst, dVar, dC, dgName, dgTup, dgLst, dgCons, dgNil, dRet, dRetN, dDrop, dPar, dPar3, dNext, dAnd, dOr, dNot, dAndV, dOrV, dNotV, dChain, dCall, dCallR, dFor, diSeq, diRng1, diZip, diEnum, dLc, dYes, dElt, fnEnds, startR, wipeR, dAdd, dSub, dMul, dFdiv, dMod, dPow, dInt2, dNeg, dCmpI, dLt, dLe, dGt, dGe, dEq, dNe, dIsN, dIsNot, dIsB, dSl, dPart, dNoPart, dAbs, dInts2, dMax2, dMin2, dGcd, dInt, dIs1, dIs2, atI_0, atI_1, atI_2, atI_3, List.map, List.length, List.cons_append, List.nil_append, List.replicate, List.getElem?_cons_zero, List.getElem?_cons_succ, List.set, if_true, if_false, res_tup, res_lst, res_int, res_bl, res_str, res_non, res_fr, res_row, res_tab, res_ptr, ix_tup, ix_lst, ix_frl, ix_row, ix_tab, ix_fr0, ix_fr1, ix_ptr, len_tup, len_lst, len_frl, len_row, len_tab, len_ptr, sq_tup', sq_lst, sq_frl, sq_row, sq_tab, sq_ptr, lvf_lst, lvf_frl, lvf_ptr, isN_non, isN_tup, isN_int, isN_bl, sl_tup, sl_lst, sl_frl, sl_str, tupOf_lst, tupOf_tup, up_len, keep_lst, keep_frl, keep_tup, keep_row, keep_tab, keep_ptr]
      refine ⟨fl_all, fl_int, yes (by decide) ⟨n, z, p, none, rfl, L, C, kn_all, no Bool.false_ne_true ⟨by decide, by decide, "diversity", _, b, _, rfl, .div L C kn_all, _, rfl, wf_told wf_dv, no (by decide) ⟨fl_all, fl_all, no (by decide) (no Bool.false_ne_true (tl _ _ _ ev.symm))⟩⟩⟩⟩
    · have eo : oo k = some k := by unfold oo; rw [if_neg h13]
      simp only [eo, qD, dSeq, dAsg, dIf, dIfS, dB, dOp, dUn, dCB, dCons, dNil, dTup, dLst, dVar, dC, dgName, dgTup, dgLst, dgCons, dgNil, dRet, dRetN, dDrop, dPar, dPar3, dNext, dAnd, dOr, dNot, dAndV, dOrV, dNotV, dChain, dCall, dCallR, dFor, diSeq, diRng1, diZip, diEnum, dLc, dYes, dElt, fnEnds, startR, wipeR, dAdd, dSub, dMul, dFdiv, dMod, dPow, dInt2, dNeg, dCmpI, dLt, dLe, dGt, dGe, dEq, dNe, dIsN, dIsNot, dIsB, dSl, dPart, dNoPart, dAbs, dInts2, dMax2, dMin2, dGcd, dInt, dIs1, dIs2, atI_0, atI_1, atI_2, atI_3, List.map, List.length, List.cons_append, List.nil_append, List.replicate, List.getElem?_cons_zero, List.getElem?_cons_succ, List.set, if_true, if_false, res_tup, res_lst, res_int, res_bl, res_str, res_non, res_fr, res_row, res_tab, res_ptr, ix_tup, ix_lst, ix_frl, ix_row, ix_tab, ix_fr0, ix_fr1, ix_ptr, len_tup, len_lst, len_frl, len_row, len_tab, len_ptr, sq_tup', sq_lst, sq_frl, sq_row, sq_tab, sq_ptr, lvf_lst, lvf_frl, lvf_ptr, isN_non, isN_tup, isN_int, isN_bl, sl_tup, sl_lst, sl_frl, sl_str, tupOf_lst, tupOf_tup, up_len, keep_lst, keep_frl, keep_tup, keep_row, keep_tab, keep_ptr]
      refine ⟨fl_int, fl_int, ?_⟩
      cases q : kn n p k with
      | true =>
        have K : Kn n p (some k) := by rw [← eo]; exact kn_kn hlt q
        have ev : rowV n z p k = dvD (dv n z p (some k)) := by
          unfold rowV
          rw [if_pos q, eo]
        refine yes2 ?_ ⟨n, z, p, some k, rfl, L, C, K, no Bool.false_ne_true ⟨by decide, by decide, "diversity", _, b, _, rfl, .div L C K, _, rfl, wf_told wf_dv, no (by decide) ⟨fl_int, fl_all, yes (by rw [eqv_is]; decide) ?_⟩⟩⟩
        · by_cases h1 : k = 1
          · subst h1
            exact .inr (by have := K.few rfl; simp; omega)
          · exact .inl (by rw [eqv_ii, decide_eq_false (by omega)]; decide)
        · match k, K, ev, hlt, h13, tl with
          | 0, K, ev, _, _, tl => exact no (by decide) (no Bool.false_ne_true (tl _ _ _ ev.symm))
          | 1, K, ev, _, _, tl => exact no (by decide) (no Bool.false_ne_true (tl _ _ _ ev.symm))
          | q + 2, K, ev, hlt, h13, tl =>
            have P := xx_pm L C
            have mp := mo_pos P (q + 1)
            refine yes (by simp; omega) ⟨by decide, "sum", _, !b, _, rfl, .sum (t := q + 1) L C (by omega) (by omega), by decide, ?_⟩
            rw [ix_dv]
            refine ⟨1, (dv n z p (some (q + 2))).2, rfl, Two.of Sm.one (dv_sm L C K) (by decide), ?_, by decide, ?_⟩
            · have := div_ge_one L C (some (q + 2))
              grind
            · have e1 : 1 / (dv n z p (some (q + 2))).2 = mo (supp n p) p (xx n z p) (q + 1) := by
                show 1 / (1 / mo (supp n p) p (xx n z p) (q + 1)) = _
                rw [one_div, one_div, Rat.inv_inv]
              rw [e1]
              exact ⟨_, rfl, wf_told wf_fr, no (by decide) (tl _ _ _ ev.symm)⟩
      | false =>
        have h1 : k = 1 ∧ 40 < Lm n p := by simpa [kn] using q
        obtain ⟨rfl, few⟩ := h1
        have ev : rowV n z p 1 = .non := by
          unfold rowV
          rw [q]
          rfl
        refine no (by decide) (no (by simp; omega) ⟨by decide, by decide, "diversity", _, b, _, rfl, .divM L C few, _, rfl, wf_many, no (by decide) ⟨fl_int, fl_all, yes (by decide) (no (by decide) (no Bool.false_ne_true (tl _ _ _ ev.symm)))⟩⟩)
end K85

set_option Elab.async false
set_option linter.all false
set_option autoImplicit false
set_option maxRecDepth 100000
set_option maxHeartbeats 8000000
/-! # The signs of two communities -/
namespace K85
open PySem PySem.Spec L2 DL
open PyProof.Rows hiding St
def s__law_signs_right : DSp := fun ds M Φ _ => ∃ k nn n z p p' b, ds = [.ptr k, tabD n n z, rowD n p, rowD n p', .bl b] ∧ Bx k nn M ∧ nn ≤ 90000 ∧ Lk n z ∧ Cm n p ∧ Cm n p' ∧ ∀ M', Us k (nn + 1) M M' → Φ (.bl true) M'
theorem bad_list : ∀ d ∈ ([.int (-1), .int 13, .bl true, .bl false, .non, .str "All", .str "1", .tup [.int 2], .str "", .lst [.int 2]] : List D), Bad d ∧ Wf 6 d := by
  have s : ∀ x ∈ (["All", "1", ""] : List Str), PyData.strOk x = true ∧ (x == ("all" : Str)) = false ∧ sokB x = true ∧ x.length ≤ 1000 := by decide +kernel
  have s1 := s "All" (by decide +kernel)
  have s2 := s "1" (by decide +kernel)
  have s3 := s "" (by decide +kernel)
  intro d hd
  simp only [List.mem_cons, List.not_mem_nil, or_false] at hd
  rcases hd with rfl | rfl | rfl | rfl | rfl | rfl | rfl | rfl | rfl | rfl
  · exact ⟨.int (.inl (by decide)), trivial⟩
  · exact ⟨.int (.inr (by decide)), trivial⟩
  · exact ⟨.bl _, trivial⟩
  · exact ⟨.bl _, trivial⟩
  · exact ⟨.non, trivial⟩
  · exact ⟨.str s1.1 s1.2.1, s1.2.2⟩
  · exact ⟨.str s2.1 s2.2.1, s2.2.2⟩
  · exact ⟨.tup _, by decide, fun e he => by
      simp only [List.mem_cons, List.not_mem_nil, or_false] at he
      subst he
      exact trivial⟩
  · exact ⟨.str s3.1 s3.2.1, s3.2.2⟩
  · exact ⟨.lst _, by decide, fun e he => by
      simp only [List.mem_cons, List.not_mem_nil, or_false] at he
      subst he
      exact trivial⟩
theorem r__law_signs_right : ∀ ds M Φ Ψ, s__law_signs_right ds M Φ Ψ → ds.length = 5 ∧ T__law_signs_right s__law_take s_common_multiple s_sign_of s_diversity_of (s__law_same 8) s__law_told (fnEnds M.length Φ Ψ) (startR N__law_signs_right ds) M := by
  rintro ds M Φ Ψ ⟨k, nn, n, z, p, p', b0, rfl, hb, hn, L, C, C', h⟩
  refine ⟨rfl, ?_⟩
  have n8 := L.n8
  simp only [dSeq, dAsg, dIf, dIfS, dB, dOp, dUn, dCB, dCons, dNil, dTup, dLst, dVar, dC, dgName, dgTup, dgLst, dgCons, dgNil, dRet, dRetN, dDrop, dPar, dPar3, dNext, dAnd, dOr, dNot, dAndV, dOrV, dNotV, dChain, dCall, dCallR, dFor, diSeq, diRng1, diZip, diEnum, dLc, dYes, dElt, fnEnds, startR, wipeR, dAdd, dSub, dMul, dFdiv, dMod, dPow, dInt2, dNeg, dCmpI, dLt, dLe, dGt, dGe, dEq, dNe, dIsN, dIsNot, dIsB, dSl, dPart, dNoPart, dAbs, dInts2, dMax2, dMin2, dGcd, dInt, dIs1, dIs2, atI_0, atI_1, atI_2, atI_3, List.map, List.length, List.cons_append, List.nil_append, List.replicate, List.getElem?_cons_zero, List.getElem?_cons_succ, List.set, if_true, if_false, res_tup, res_lst, res_int, res_bl, res_str, res_non, res_fr, res_row, res_tab, res_ptr, ix_tup, ix_lst, ix_frl, ix_row, ix_tab, ix_fr0, ix_fr1, ix_ptr, len_tup, len_lst, len_frl, len_row, len_tab, len_ptr, sq_tup', sq_lst, sq_frl, sq_row, sq_tab, sq_ptr, lvf_lst, lvf_frl, lvf_ptr, isN_non, isN_tup, isN_int, isN_bl, sl_tup, sl_lst, sl_frl, sl_str, tupOf_lst, tupOf_tup, up_len, keep_lst, keep_frl, keep_tup, keep_row, keep_tab, keep_ptr, T__law_signs_right, N__law_signs_right]
  refine ⟨k, nn, 13, rfl, by decide, by decide, hb, by omega, fun r M' r0' r1' us => ⟨by decide, ?_⟩⟩
  obtain ⟨r, rfl⟩ : ∃ i : Nat, r = (i : Nat) := ⟨r.toNat, by omega⟩
  have hr : r ≤ 12 := by omega
  have el : ([D.int 0, D.int 1, D.int 2, D.int 3, D.int (r : Nat), D.str "all"] : List D) = ([some 0, some 1, some 2, some 3, some r, none] : List (Option Nat)).map qD := rfl
  rw [el]
  refine for_map (e := qD) (I := fun xs ρ M'' => M'' = M' ∧ (∀ o ∈ xs, ∀ j, o = some j → j ≤ 12) ∧ ∃ (b : Bool) (o5 o6 o8 : Option D), ρ = [some (.ptr k), some (tabD n n z), some (rowD n p), some (rowD n p'), some (.bl b), o5, o6, none, o8, none]) ?_ ?_ [some 0, some 1, some 2, some 3, some r, none] _ M' ⟨rfl, ?_, b0, none, none, none, rfl⟩
  · rintro ρ M'' ⟨rfl, _, b, o5, o6, o8, rfl⟩
    refine ⟨trivial, ?_⟩
    simp only [dSeq, dAsg, dIf, dIfS, dB, dOp, dUn, dCB, dCons, dNil, dTup, dLst, dVar, dC, dgName, dgTup, dgLst, dgCons, dgNil, dRet, dRetN, dDrop, dPar, dPar3, dNext, dAnd, dOr, dNot, dAndV, dOrV, dNotV, dChain, dCall, dCallR, dFor, diSeq, diRng1, diZip, diEnum, dLc, dYes, dElt, fnEnds, startR, wipeR, dAdd, dSub, dMul, dFdiv, dMod, dPow, dInt2, dNeg, dCmpI, dLt, dLe, dGt, dGe, dEq, dNe, dIsN, dIsNot, dIsB, dSl, dPart, dNoPart, dAbs, dInts2, dMax2, dMin2, dGcd, dInt, dIs1, dIs2, atI_0, atI_1, atI_2, atI_3, List.map, List.length, List.cons_append, List.nil_append, List.replicate, List.getElem?_cons_zero, List.getElem?_cons_succ, List.set, if_true, if_false, res_tup, res_lst, res_int, res_bl, res_str, res_non, res_fr, res_row, res_tab, res_ptr, ix_tup, ix_lst, ix_frl, ix_row, ix_tab, ix_fr0, ix_fr1, ix_ptr, len_tup, len_lst, len_frl, len_row, len_tab, len_ptr, sq_tup', sq_lst, sq_frl, sq_row, sq_tab, sq_ptr, lvf_lst, lvf_frl, lvf_ptr, isN_non, isN_tup, isN_int, isN_bl, sl_tup, sl_lst, sl_frl, sl_str, tupOf_lst, tupOf_tup, up_len, keep_lst, keep_frl, keep_tup, keep_row, keep_tab, keep_ptr]
    refine ⟨by decide, by decide, by decide, ?_⟩
    refine for_map (e := fun d => d) (I := fun xs ρ M''' => M''' = M'' ∧ (∀ d ∈ xs, Bad d ∧ Wf 6 d) ∧ ∃ (o5 o6 o7 o8 : Option D), ρ = [some (.ptr k), some (tabD n n z), some (rowD n p), some (rowD n p'), some (.bl b), o5, o6, o7, o8, none]) ?_ ?_ [.int (-1), .int 13, .bl true, .bl false, .non, .str "All", .str "1", .tup [.int 2], .str "", .lst [.int 2]] _ M'' ⟨rfl, bad_list, _, _, _, _, rfl⟩
    · rintro ρ M''' ⟨rfl, _, o5, o6, o7, o8, rfl⟩
      refine ⟨trivial, ?_⟩
      simp only [dSeq, dAsg, dIf, dIfS, dB, dOp, dUn, dCB, dCons, dNil, dTup, dLst, dVar, dC, dgName, dgTup, dgLst, dgCons, dgNil, dRet, dRetN, dDrop, dPar, dPar3, dNext, dAnd, dOr, dNot, dAndV, dOrV, dNotV, dChain, dCall, dCallR, dFor, diSeq, diRng1, diZip, diEnum, dLc, dYes, dElt, fnEnds, startR, wipeR, dAdd, dSub, dMul, dFdiv, dMod, dPow, dInt2, dNeg, dCmpI, dLt, dLe, dGt, dGe, dEq, dNe, dIsN, dIsNot, dIsB, dSl, dPart, dNoPart, dAbs, dInts2, dMax2, dMin2, dGcd, dInt, dIs1, dIs2, atI_0, atI_1, atI_2, atI_3, List.map, List.length, List.cons_append, List.nil_append, List.replicate, List.getElem?_cons_zero, List.getElem?_cons_succ, List.set, if_true, if_false, res_tup, res_lst, res_int, res_bl, res_str, res_non, res_fr, res_row, res_tab, res_ptr, ix_tup, ix_lst, ix_frl, ix_row, ix_tab, ix_fr0, ix_fr1, ix_ptr, len_tup, len_lst, len_frl, len_row, len_tab, len_ptr, sq_tup', sq_lst, sq_frl, sq_row, sq_tab, sq_ptr, lvf_lst, lvf_frl, lvf_ptr, isN_non, isN_tup, isN_int, isN_bl, sl_tup, sl_lst, sl_frl, sl_str, tupOf_lst, tupOf_tup, up_len, keep_lst, keep_frl, keep_tup, keep_row, keep_tab, keep_ptr]
      have wfn : ∀ d ∈ ([.int 0, .int 1, .str "all"] : List D), (d = .int 0 ∨ d = .int 1 ∨ d = .str "all") ∧ Wf 5 d := fun d hd => by
        simp only [List.mem_cons, List.not_mem_nil, or_false] at hd
        rcases hd with rfl | rfl | rfl
        · exact ⟨.inl rfl, trivial⟩
        · exact ⟨.inr (.inl rfl), trivial⟩
        · exact ⟨.inr (.inr rfl), by decide +kernel, by decide +kernel⟩
      refine ⟨by decide, ?_⟩
      refine go_map (e := fun d => d) (f := fun d => .lst [.str "number", d]) [.int 0, .int 1, .str "all"] (fun d hd acc kk hkk hl => ?_) trivial (small (by show 3 ≤ 1000000; decide)) ?_
      · exact ⟨by decide, "sum", _, b, _, rfl, .sumN L C (.inr (wfn d hd).1), hl, hkk⟩
      refine ⟨by decide, ?_⟩
      refine go_map (e := fun d => d) (f := fun d => .lst [.str "number", d]) [.int 0, .int 1, .str "all"] (fun d hd acc kk hkk hl => ?_) trivial (small (by show 3 ≤ 1000000; decide)) ?_
      · exact ⟨by decide, hl, hkk⟩
      refine ⟨_, rfl, ⟨by decide, fun e he => ?_⟩, DropN.of (h _ us)⟩
      obtain ⟨d, hd, rfl⟩ := List.mem_map.mp he
      exact wf_number (n := 6) (by
        have := (wfn d hd)
        rcases this.1 with rfl | rfl | rfl
        · exact wf_int
        · exact wf_int
        · exact wf_str (by decide +kernel) (by decide +kernel))
    · rintro d r' ρ M''' nx hnx ⟨rfl, hbad, o5, o6, o7, o8, rfl⟩
      refine ⟨trivial, ?_⟩
      obtain ⟨bd, wd⟩ := hbad d List.mem_cons_self
      simp only [dSeq, dAsg, dIf, dIfS, dB, dOp, dUn, dCB, dCons, dNil, dTup, dLst, dVar, dC, dgName, dgTup, dgLst, dgCons, dgNil, dRet, dRetN, dDrop, dPar, dPar3, dNext, dAnd, dOr, dNot, dAndV, dOrV, dNotV, dChain, dCall, dCallR, dFor, diSeq, diRng1, diZip, diEnum, dLc, dYes, dElt, fnEnds, startR, wipeR, dAdd, dSub, dMul, dFdiv, dMod, dPow, dInt2, dNeg, dCmpI, dLt, dLe, dGt, dGe, dEq, dNe, dIsN, dIsNot, dIsB, dSl, dPart, dNoPart, dAbs, dInts2, dMax2, dMin2, dGcd, dInt, dIs1, dIs2, atI_0, atI_1, atI_2, atI_3, List.map, List.length, List.cons_append, List.nil_append, List.replicate, List.getElem?_cons_zero, List.getElem?_cons_succ, List.set, if_true, if_false, res_tup, res_lst, res_int, res_bl, res_str, res_non, res_fr, res_row, res_tab, res_ptr, ix_tup, ix_lst, ix_frl, ix_row, ix_tab, ix_fr0, ix_fr1, ix_ptr, len_tup, len_lst, len_frl, len_row, len_tab, len_ptr, sq_tup', sq_lst, sq_frl, sq_row, sq_tab, sq_ptr, lvf_lst, lvf_frl, lvf_ptr, isN_non, isN_tup, isN_int, isN_bl, sl_tup, sl_lst, sl_frl, sl_str, tupOf_lst, tupOf_tup, up_len, keep_lst, keep_frl, keep_tup, keep_row, keep_tab, keep_ptr, lv_lst]
      refine ⟨by decide, "diversity", _, b, _, rfl, .divN L C bd, by decide, "sign", _, b, _, rfl, .signN L C C' bd, by decide, "sum", _, b, _, rfl, .sumN L C (.inl bd), by decide, by decide, by decide, by decide, by decide, by decide, ?_⟩
      refine ⟨_, rfl, ⟨by show 3 ≤ 1000; decide, fun e he => ?_⟩, no (by decide) (hnx _ _ ⟨rfl, fun e he => hbad e (List.mem_cons_of_mem _ he), _, _, _, _, rfl⟩)⟩
      simp only [List.mem_cons, List.not_mem_nil, or_false] at he
      rcases he with rfl | rfl | rfl <;> exact wf_number (n := 6) wd
  · rintro o r' ρ M'' nx hnx ⟨rfl, ho, b, o5, o6, o8, rfl⟩
    refine ⟨trivial, ?_⟩
    simp only [dSeq, dAsg, dIf, dIfS, dB, dOp, dUn, dCB, dCons, dNil, dTup, dLst, dVar, dC, dgName, dgTup, dgLst, dgCons, dgNil, dRet, dRetN, dDrop, dPar, dPar3, dNext, dAnd, dOr, dNot, dAndV, dOrV, dNotV, dChain, dCall, dCallR, dFor, diSeq, diRng1, diZip, diEnum, dLc, dYes, dElt, fnEnds, startR, wipeR, dAdd, dSub, dMul, dFdiv, dMod, dPow, dInt2, dNeg, dCmpI, dLt, dLe, dGt, dGe, dEq, dNe, dIsN, dIsNot, dIsB, dSl, dPart, dNoPart, dAbs, dInts2, dMax2, dMin2, dGcd, dInt, dIs1, dIs2, atI_0, atI_1, atI_2, atI_3, List.map, List.length, List.cons_append, List.nil_append, List.replicate, List.getElem?_cons_zero, List.getElem?_cons_succ, List.set, if_true, if_false, res_tup, res_lst, res_int, res_bl, res_str, res_non, res_fr, res_row, res_tab, res_ptr, ix_tup, ix_lst, ix_frl, ix_row, ix_tab, ix_fr0, ix_fr1, ix_ptr, len_tup, len_lst, len_frl, len_row, len_tab, len_ptr, sq_tup', sq_lst, sq_frl, sq_row, sq_tab, sq_ptr, lvf_lst, lvf_frl, lvf_ptr, isN_non, isN_tup, isN_int, isN_bl, sl_tup, sl_lst, sl_frl, sl_str, tupOf_lst, tupOf_tup, up_len, keep_lst, keep_frl, keep_tup, keep_row, keep_tab, keep_ptr]
    refine ⟨n, p, rfl, C, n8, n, p', rfl, C', n8, by decide, ?_⟩
    refine go_filter (e := fun k : Nat => D.int (k : Nat)) (f := fun k : Nat => D.int (k : Nat)) (fun k => decide (40 < k)) [Lm n p, Lm n p'] (fun a ha acc kk hk1 hk2 hl => ?_) trivial (small (by show 2 ≤ 1000000; decide)) ?_
    · by_cases e : 40 < a
      · exact yes (decide_eq_true (by omega)) ⟨hl, hk1 (by simpa using e)⟩
      · exact no (by simp; omega) (hk2 (by simpa using e))
    have hres : ∀ l : List Nat, D.fl 60 (.lst (l.map fun k : Nat => D.int (k : Nat))) = true := fun l => fl_lst fun d hd => by
      obtain ⟨k, _, rfl⟩ := List.mem_map.mp hd
      exact fl_int
    have fin : Kn n p o → Kn n p' o → s_diversity_of [tabD n n z, rowD n p, qD o] M'' (fun d M1 => s_diversity_of [tabD n n z, rowD n p', qD o] M1 (fun d_1 M1 => s_sign_of [d, d_1] M1 (fun d M1 => 0 + 1 + 1 ≤ sizeLine ∧ (0 + 1 + 1 + 1 + 1 ≤ sizeLine ∧ s__law_told [.str "sign", .lst [tabD n n z, rowD n p, rowD n p', qD o], .bl b] M1 (fun d_2 M1 => s__law_same 8 [d_2, .lst [.str "told", d]] M1 (fun d_3 M1 => match d_3 with
        | .bl b_1 => if (!b_1) = true then DropN M.length Φ (.bl false) M1 else nx [some (.ptr k), some (tabD n n z), some (rowD n p), some (rowD n p'), some (.bl (!b)), some (qD o), some (.lst (([Lm n p, Lm n p'].filter fun k => decide (40 < k)).map fun k : Nat => D.int (k : Nat))), none, some (.lst [.str "told", d]), none] M1
        | _ => False) fun x M1 => Ψ x M1) fun x M1 => Ψ x M1)) fun x M1 => Ψ x M1) fun x M1 => Ψ x M1) fun x M1 => Ψ x M1 := fun K K' =>
      ⟨n, z, p, o, rfl, L, C, K, n, z, p', o, rfl, L, C', K', _, _, rfl, Pw.of L C K, Pw.of L C' K', by decide, by decide, "sign", _, b, _, rfl, .sign L C C' K K', _, rfl, wf_told wf_int, no (by decide) (hnx _ _ ⟨rfl, fun e he => ho e (List.mem_cons_of_mem _ he), !b, _, _, _, rfl⟩)⟩
    have kle := ho o List.mem_cons_self
    by_cases h1 : o = some 1
    · subst h1
      simp only [qD, res_int] at fin ⊢
      refine ⟨fl_int, fl_int, yes (by decide) ⟨by decide, hres _, rfl, ?_⟩⟩
      by_cases f1 : 40 < Lm n p
      · have e1 : ([Lm n p, Lm n p'].filter fun k => decide (40 < k)) = Lm n p :: ([Lm n p'].filter fun k => decide (40 < k)) := by rw [List.filter_cons, if_pos (by simpa using f1)]
        rw [e1]
        refine yes (by rw [eqv_nil]; rfl) ?_
        simp only [List.map_cons, ix_lst, atI_0]
        exact ⟨by decide, by decide, "sign", _, b, _, rfl, .signM L C C' f1, _, rfl, wf_many, no (by decide) (hnx _ _ ⟨rfl, fun e he => ho e (List.mem_cons_of_mem _ he), !b, _, _, _, rfl⟩)⟩
      · by_cases f2 : 40 < Lm n p'
        · have e1 : ([Lm n p, Lm n p'].filter fun k => decide (40 < k)) = [Lm n p'] := by rw [List.filter_cons, if_neg (by simpa using f1), List.filter_cons, if_pos (by simpa using f2)]; rfl
          rw [e1]
          refine yes (by rw [eqv_nil]; rfl) ?_
          simp only [List.map_cons, ix_lst, atI_0]
          exact ⟨by decide, by decide, "sign", _, b, _, rfl, .signM' L C C' (by omega) f2, _, rfl, wf_many, no (by decide) (hnx _ _ ⟨rfl, fun e he => ho e (List.mem_cons_of_mem _ he), !b, _, _, _, rfl⟩)⟩
        · have e1 : ([Lm n p, Lm n p'].filter fun k => decide (40 < k)) = [] := by rw [List.filter_cons, if_neg (by simpa using f1), List.filter_cons, if_neg (by simpa using f2)]; rfl
          rw [e1] at fin ⊢
          exact no (by rw [eqv_nil]; decide) (fin ⟨kle, fun _ => by omega⟩ ⟨kle, fun _ => by omega⟩)
    · refine ⟨?_, fl_int, no ?_ (fin ⟨kle, fun e => absurd e h1⟩ ⟨kle, fun e => absurd e h1⟩)⟩
      · match o with
        | none => exact fl_all
        | some j => exact fl_int
      · match o, h1 with
        | none, _ => exact Bool.false_ne_true
        | some j, h1 =>
          show ¬ (D.eqv (.int (j : Nat)) (.int 1) = true)
          rw [eqv_ii]
          have : j ≠ 1 := fun e => h1 (by rw [e])
          simp
          omega
  · intro o ho j hj
    subst hj
    simp at ho
    omega
end K85

set_option Elab.async false
set_option linter.all false
set_option autoImplicit false
set_option maxRecDepth 100000
set_option maxHeartbeats 8000000
/-! # What is planted -/
namespace K85
open PySem PySem.Spec L2 DL
open PyProof.Rows hiding St
/-! ## displays of constants -/
theorem and_t {a b : Prop} (h : a) : (a ∧ b) = b := propext ⟨fun z => z.2, fun z => ⟨h, z⟩⟩
theorem tupC2 {a b : D} : dTup (dCons (dC a) (dCons (dC b) dNil)) = dC (.tup [a, b]) := by
  funext ρ M Φ Ψ
  exact and_t (show 2 ≤ sizeLine by decide)
theorem lstC7 {a b c d e f g : D} : dLst (dCons (dC a) (dCons (dC b) (dCons (dC c) (dCons (dC d) (dCons (dC e) (dCons (dC f) (dCons (dC g) dNil))))))) = dC (.lst [a, b, c, d, e, f, g]) := by
  funext ρ M Φ Ψ
  exact and_t (show 7 ≤ sizeLine by decide)
theorem lstC5 {a b c d e : D} : dLst (dCons (dC a) (dCons (dC b) (dCons (dC c) (dCons (dC d) (dCons (dC e) dNil))))) = dC (.lst [a, b, c, d, e]) := by
  funext ρ M Φ Ψ
  exact and_t (show 5 ≤ sizeLine by decide)
theorem lstC4 {a b c d : D} : dLst (dCons (dC a) (dCons (dC b) (dCons (dC c) (dCons (dC d) dNil)))) = dC (.lst [a, b, c, d]) := by
  funext ρ M Φ Ψ
  exact and_t (show 4 ≤ sizeLine by decide)
/-- a likeness -/
def Good (x : Rat) : Prop := 0 ≤ x ∧ x ≤ 1 ∧ Sm 3 x
theorem good1 : Good 1 := ⟨by decide, by decide, Sm.one.mono (by decide)⟩
theorem good0 : Good 0 := ⟨by decide, by decide, Sm.zero 2⟩
theorem Good.of {a b : Int} (h : 0 ≤ Rat.divInt a b) (h1 : Rat.divInt a b ≤ 1) (h2 : Bt 3 a) (h3 : Bt 3 b) : Good (Rat.divInt a b) := ⟨h, h1, Sm.divInt h2 h3 (by decide)⟩
theorem frac_list : ∀ d ∈ ([.tup [.int 0, .int 1], .tup [.int 1, .int 2], .tup [.int 1, .int 3], .tup [.int 2, .int 3], .tup [.int 0, .int 1], .tup [.int 1, .int 4], .tup [.int 1, .int 1]] : List D), ∃ x, d = fr x ∧ Good x := by
  intro d hd
  simp only [List.mem_cons, List.not_mem_nil, or_false] at hd
  rcases hd with rfl | rfl | rfl | rfl | rfl | rfl | rfl
  · exact ⟨0, rfl, good0⟩
  · exact ⟨Rat.divInt 1 2, rfl, .of (by decide) (by decide) (by unfold Bt; decide) (by unfold Bt; decide)⟩
  · exact ⟨Rat.divInt 1 3, rfl, .of (by decide) (by decide) (by unfold Bt; decide) (by unfold Bt; decide)⟩
  · exact ⟨Rat.divInt 2 3, rfl, .of (by decide) (by decide) (by unfold Bt; decide) (by unfold Bt; decide)⟩
  · exact ⟨0, rfl, good0⟩
  · exact ⟨Rat.divInt 1 4, rfl, .of (by decide) (by decide) (by unfold Bt; decide) (by unfold Bt; decide)⟩
  · exact ⟨1, rfl, good1⟩
theorem up_ext {A : Type} {j : Nat} {f : Nat → A} {x : A} : up (j + 1) (fun b => if b = j then x else f b) = up j f ++ [x] := by
  unfold up
  rw [List.range_succ, List.map_append]
  congr 1
  · refine List.map_congr_left fun b hb => ?_
    have := List.mem_range.mp hb
    rw [if_neg (by omega)]
  · simp
theorem go_rng {n : Nat} {st : D → List D → Ms → (List D → Ms → Prop) → Prop} {keep : Ms → Prop} {Φ : List D → Ms → Prop} {acc : List D} {M : Ms} (I : Nat → List D → Ms → Prop) (h : I 0 acc M) (h0 : ∀ acc M, I n acc M → keep M ∧ Φ acc M)
    (hs : ∀ i acc M k, i < n → (∀ acc' M', I (i + 1) acc' M' → k acc' M') → I i acc M → keep M ∧ st (.int (i : Nat)) acc M k) : dGo st keep Φ (rngD 0 ((n : Nat) : Int).toNat) acc M := by
  rw [up_int, List.range_eq_range']
  refine go_ind (e := fun k : Nat => D.int (0 + (k : Nat))) (I := fun xs acc M => ∃ i, xs = List.range' i (n - i) ∧ i ≤ n ∧ I i acc M) ?_ ?_ (List.range' 0 n) acc M ⟨0, by simp, by omega, h⟩
  · rintro acc M ⟨i, hx, hi, hI⟩
    have hin : i = n := by
      have := congrArg List.length hx
      rw [List.length_range'] at this
      simp at this
      omega
    subst hin
    exact h0 acc M hI
  · rintro d r acc M k hk ⟨i, hx, hi, hI⟩
    have hlt : i < n := by
      have := congrArg List.length hx
      rw [List.length_range'] at this
      simp at this
      omega
    have e : n - i = (n - (i + 1)) + 1 := by omega
    rw [e, List.range'_succ] at hx
    cases hx
    rw [Int.zero_add]
    exact hs d acc M k hlt (fun acc' M' z => hk acc' M' ⟨d + 1, rfl, by omega, z⟩) hI
theorem mp_rng {n : Nat} {f : Nat → D} {st : D → List D → Ms → (List D → Ms → Prop) → Prop} {keep : Ms → Prop} {Φ : List D → Ms → Prop} {M : Ms} (hs : ∀ a < n, ∀ acc k, k (acc ++ [f a]) M → acc.length < sizeLine → st (.int (a : Nat)) acc M k) (hk : keep M) (hn : n ≤ 1000) (h : Φ (up n f) M) :
    dGo st keep Φ (rngD 0 ((n : Nat) : Int).toNat) [] M := by
  rw [up_int]
  exact go_map (e := fun k : Nat => D.int (0 + (k : Nat))) (f := f) (List.range n) (fun a ha acc k hk hl => by rw [Int.zero_add]; exact hs a (List.mem_range.mp ha) acc k hk hl) hk (small (by simp; omega)) h
/-- the table with a kind perhaps twice -/
def zOf (w : Nat → Nat → Rat) (ord : Nat → Nat) (a b : Nat) : Rat := if a = b ∨ ord a = ord b then 1 else w (min (ord a) (ord b)) (max (ord a) (ord b))
theorem zOf_lk {n : Nat} {w : Nat → Nat → Rat} {ord : Nat → Nat} (n1 : 1 ≤ n) (n8 : n ≤ 8) (g : ∀ a b, Good (w a b)) : Lk n (zOf w ord) := by
  have gz : ∀ a b, Good (zOf w ord a b) := fun a b => by
    unfold zOf
    split
    · exact good1
    · exact g _ _
  refine ⟨n1, n8, fun i _ j _ => ?_, fun i _ => ?_, fun i _ j _ => (gz i j).1, fun i _ j _ => (gz i j).2.1, fun i _ j _ => (gz i j).2.2⟩
  · unfold zOf
    by_cases h : i = j ∨ ord i = ord j
    · rw [if_pos h, if_pos (h.imp Eq.symm Eq.symm)]
    · rw [if_neg h, if_neg (fun z => h (z.imp Eq.symm Eq.symm)), Nat.min_comm, Nat.max_comm]
  · unfold zOf
    rw [if_pos (.inl rfl)]
def s__law_likeness : DSp := fun ds M Φ _ => ∃ k nn n : Nat, ds = [.ptr k, .int (n : Nat)] ∧ 1 ≤ n ∧ n ≤ 8 ∧ Bx k nn M ∧ nn ≤ 50000 ∧ ∀ z M', Lk n z → Us k (nn + 100) M M' → Φ (tabD n n z) M'
theorem r__law_likeness : ∀ ds M Φ Ψ, s__law_likeness ds M Φ Ψ → ds.length = 2 ∧ T__law_likeness s__law_pick s__law_take (fnEnds M.length Φ Ψ) (startR N__law_likeness ds) M := by
  rintro ds M Φ Ψ ⟨k, nn, n, rfl, n1, n8, hb, hnn, h⟩
  refine ⟨rfl, ?_⟩
  simp only [T__law_likeness, tupC2, lstC7]
  simp only [dSeq, dAsg, dIf, dIfS, dB, dOp, dUn, dCB, dCons, dNil, dTup, dLst, dVar, dC, dgName, dgTup, dgLst, dgCons, dgNil, dRet, dRetN, dDrop, dPar, dPar3, dNext, dAnd, dOr, dNot, dAndV, dOrV, dNotV, dChain, dCall, dCallR, dFor, diSeq, diRng1, diZip, diEnum, dLc, dYes, dElt, fnEnds, startR, wipeR, dAdd, dSub, dMul, dFdiv, dMod, dPow, dInt2, dNeg, dCmpI, dLt, dLe, dGt, dGe, dEq, dNe, dIsN, dIsNot, dIsB, dSl, dPart, dNoPart, dAbs, dInts2, dMax2, dMin2, dGcd, dInt, dIs1, dIs2, atI_0, atI_1, atI_2, atI_3, List.map, List.length, List.cons_append, List.nil_append, List.replicate, List.getElem?_cons_zero, List.getElem?_cons_succ, List.set, if_true, if_false, res_tup, res_lst, res_int, res_bl, res_str, res_non, res_fr, res_row, res_tab, res_ptr, ix_tup, ix_lst, ix_frl, ix_row, ix_tab, ix_fr0, ix_fr1, ix_ptr, len_tup, len_lst, len_frl, len_row, len_tab, len_ptr, sq_tup', sq_lst, sq_frl, sq_row, sq_tab, sq_ptr, lvf_lst, lvf_frl, lvf_ptr, isN_non, isN_tup, isN_int, isN_bl, sl_tup, sl_lst, sl_frl, sl_str, tupOf_lst, tupOf_tup, up_len, keep_lst, keep_frl, keep_tup, keep_row, keep_tab, keep_ptr, N__law_likeness]
  refine ⟨by omega, by omega, ?_⟩
  refine go_rng (I := fun i acc M' => Us k (nn + 8 * i) M M' ∧ ∃ w : Nat → Nat → Rat, (∀ a b, Good (w a b)) ∧ acc = up i fun a => .lst (up n fun b => fr (w a b))) ⟨hb.us, fun _ _ => 1, fun _ _ => good1, rfl⟩ ?_ ?_
  · rintro acc M1 ⟨us1, w, gw, rfl⟩
    refine ⟨trivial, ?_⟩
    refine ⟨k, _, (n : Nat), rfl, by omega, by omega, us1.bx, by omega, fun r1 M2 r10 r11 us2 => ?_⟩
    refine ⟨k, _, (n : Nat), rfl, by omega, by omega, us2.bx, by omega, fun r2 M3 r20 r21 us3 => ⟨by decide, ?_⟩⟩
    refine ⟨k, _, 4, rfl, by decide, by decide, us3.bx, by omega, fun r3 M4 r30 r31 us4 => ⟨fl_int, fl_int, ?_⟩⟩
    have usA := us1.trans (us2.trans (us3.trans us4))
    have hfin := fun z hz => h z M4 hz (usA.mono (by omega))
    obtain ⟨q1, rfl⟩ : ∃ i : Nat, r1 = (i : Nat) := ⟨r1.toNat, by omega⟩
    obtain ⟨q2, rfl⟩ : ∃ i : Nat, r2 = (i : Nat) := ⟨r2.toNat, by omega⟩
    generalize hsb : D.eqv (D.res M4 (.int r3)) (.int 0) = sb
    refine ⟨by omega, by omega, ?_⟩
    refine mp_rng (f := fun a => .lst (up n fun b => fr (w (min a b) (max a b)))) (fun a ha acc kk hkk hl => ?_) trivial (by omega) ?_
    · refine ⟨by omega, by omega, ?_⟩
      refine mp_rng (f := fun b => fr (w (min a b) (max a b))) (fun b hb' acc2 k2 hk2 hl2 => ?_) trivial (by omega) ⟨hl, hkk⟩
      have e1 : (if (b : Int) < (a : Int) then (b : Int) else (a : Int)) = ((min a b : Nat) : Int) := by split <;> omega
      have e2 : (if (b : Int) > (a : Int) then (b : Int) else (a : Int)) = ((max a b : Nat) : Int) := by split <;> omega
      have l1 : L2.atI (up n fun a => D.lst (up n fun b => fr (w a b))) ((min a b : Nat) : Int) = some (.lst (up n fun b' => fr (w (min a b) b'))) := up_at (by omega)
      have l2 : L2.atI (up n fun b' => fr (w (min a b) b')) ((max a b : Nat) : Int) = some (fr (w (min a b) (max a b))) := up_at (by omega)
      simp only [e1, e2, ix_lst, l1, l2]
      exact ⟨hl2, hk2⟩
    · generalize hord : (fun a : Nat => if sb = true ∧ a = q2 then q1 else a) = ord
      have ordv : ∀ a, (if sb = true ∧ a = q2 then q1 else a) = ord a := fun a => by rw [← hord]
      have ordlt : ∀ a < n, ord a < n := fun a ha => by rw [← ordv]; split <;> omega
      refine ⟨by omega, by omega, ?_⟩
      refine mp_rng (f := fun a => .int (ord a : Nat)) (fun a ha acc kk hkk hl => ?_) trivial (by omega) ?_
      · rw [← ordv] at hkk
        cases hs : sb with
        | true =>
          rw [hs] at hkk
          refine yes rfl ⟨fl_int, fl_int, ?_⟩
          by_cases e : a = q2
          · rw [if_pos ⟨rfl, e⟩] at hkk
            exact yes (by rw [res_int, res_int, eqv_ii, decide_eq_true (by omega)]) ⟨hl, hkk⟩
          · rw [if_neg (fun z => e z.2)] at hkk
            exact no (by rw [res_int, res_int, eqv_ii, decide_eq_false (by omega)]; decide) ⟨hl, hkk⟩
        | false =>
          rw [hs, if_neg (fun z => Bool.false_ne_true z.1)] at hkk
          exact no Bool.false_ne_true (no Bool.false_ne_true ⟨hl, hkk⟩)
      · refine ⟨by omega, by omega, ?_⟩
        refine mp_rng (f := fun a => rowD n (zOf w ord a)) (fun a ha acc kk hkk hl => ?_) trivial (by omega) (DropN.of (hfin _ (zOf_lk n1 n8 gw)))
        refine ⟨by omega, by omega, ?_⟩
        refine mp_rng (f := fun b => fr (zOf w ord a b)) (fun b hb' acc2 k2 hk2 hl2 => ?_) trivial (by omega) ⟨hl, hkk⟩
        have oa := ordlt a ha
        have ob := ordlt b hb'
        have o1 : L2.atI (up n fun a => D.int (ord a : Nat)) ((a : Nat) : Int) = some (.int (ord a : Nat)) := up_at ha
        have o2 : L2.atI (up n fun a => D.int (ord a : Nat)) ((b : Nat) : Int) = some (.int (ord b : Nat)) := up_at hb'
        have t1 : L2.atI (up n fun a => D.lst (up n fun b => fr (w (min a b) (max a b)))) ((ord a : Nat) : Int) = some (.lst (up n fun b => fr (w (min (ord a) b) (max (ord a) b)))) := up_at oa
        have t2 : L2.atI (up n fun b => fr (w (min (ord a) b) (max (ord a) b))) ((ord b : Nat) : Int) = some (fr (w (min (ord a) (ord b)) (max (ord a) (ord b)))) := up_at ob
        simp only [ix_lst, o1, o2, t1, t2, res_int]
        unfold zOf at hk2
        refine ⟨fl_int, fl_int, ?_⟩
        by_cases e : a = b
        · rw [if_pos (.inl e)] at hk2
          exact yes (by rw [eqv_ii, decide_eq_true (by omega)]) ⟨hl2, hk2⟩
        · refine no (by rw [eqv_ii, decide_eq_false (by omega)]; decide) ⟨fl_int, fl_int, ?_⟩
          by_cases e2 : ord a = ord b
          · rw [if_pos (.inr e2)] at hk2
            exact yes (by rw [eqv_ii, decide_eq_true (by omega)]) ⟨hl2, hk2⟩
          · rw [if_neg (fun z => z.elim e e2)] at hk2
            exact no (by rw [eqv_ii, decide_eq_false (by omega)]; decide) ⟨hl2, hk2⟩
  · rintro i acc M1 kk hi hkk ⟨us1, w, gw, rfl⟩
    refine ⟨trivial, by omega, by omega, ?_⟩
    refine go_rng (I := fun j acc2 M' => Us k (nn + 8 * i + j) M M' ∧ ∃ v : Nat → Rat, (∀ b, Good (v b)) ∧ acc2 = up j fun b => fr (v b)) ⟨us1, fun _ => 1, fun _ => good1, rfl⟩ ?_ ?_
    · rintro acc2 M2 ⟨us2, v, gv, rfl⟩
      refine ⟨trivial, Nat.lt_of_le_of_lt (by rw [up_len]; omega : _ ≤ 1000) (by decide), hkk _ _ ⟨us2.mono (by omega), fun a b => if a = i then v b else w a b, fun a b => by show Good (if a = i then v b else w a b); split; exact gv b; exact gw a b, ?_⟩⟩
      rw [← up_ext]
      unfold up
      refine List.map_congr_left fun a _ => ?_
      by_cases e : a = i
      · simp only [if_pos e]
      · simp only [if_neg e]
    · rintro j acc2 M2 k2 hj hk2 ⟨us2, v, gv, rfl⟩
      refine ⟨trivial, fl_int, fl_int, ?_⟩
      have step : ∀ x M3, Good x → Us k (nn + 8 * i + j + 1) M M3 → (up j fun b => fr (v b)).length < sizeLine ∧ k2 ((up j fun b => fr (v b)) ++ [fr x]) M3 := fun x M3 gx us3 => by
        refine ⟨Nat.lt_of_le_of_lt (by rw [up_len]; omega : _ ≤ 1000) (by decide), hk2 _ _ ⟨us3, fun b => if b = j then x else v b, fun b => by show Good (if b = j then x else v b); split; exact gx; exact gv b, ?_⟩⟩
        rw [← up_ext]
        unfold up
        refine List.map_congr_left fun b _ => ?_
        by_cases e : b = j
        · simp only [if_pos e]
        · simp only [if_neg e]
      by_cases e : i = j
      · exact yes (by rw [res_int, res_int, eqv_ii, decide_eq_true (by omega)]) (step 1 M2 good1 (us2.mono (by omega)))
      · refine no (by rw [res_int, res_int, eqv_ii, decide_eq_false (by omega)]; decide) ⟨k, nn + 8 * i + j, _, rfl, by show 0 < 7; decide, by show 7 ≤ 1000; decide, us2.bx, by omega, fun d M3 hd us3 => ?_⟩
        obtain ⟨x, rfl, gx⟩ := frac_list d hd
        exact step x M3 gx (us2.trans us3)
end K85

set_option Elab.async false
set_option linter.all false
set_option autoImplicit false
set_option maxRecDepth 100000
set_option maxHeartbeats 8000000
/-! # Communities planted -/
namespace K85
open PySem PySem.Spec L2 DL
open PyProof.Rows hiding St
theorem count_list : ∀ d ∈ ([.int 0, .int 1, .int 1, .int 2, .int 3] : List D), ∃ c : Nat, d = .int (c : Nat) ∧ c ≤ 3 := by
  intro d hd
  simp only [List.mem_cons, List.not_mem_nil, or_false] at hd
  rcases hd with rfl | rfl | rfl | rfl | rfl
  · exact ⟨0, rfl, by decide⟩
  · exact ⟨1, rfl, by decide⟩
  · exact ⟨1, rfl, by decide⟩
  · exact ⟨2, rfl, by decide⟩
  · exact ⟨3, rfl, by decide⟩
/-- the sum of counts -/
def cs (n : Nat) (c : Nat → Nat) : Nat := ((List.range n).map c).sum
theorem cs_int (n : Nat) (c : Nat → Nat) : ((up n fun a => ((c a : Nat) : Int)).sum) = ((cs n c : Nat) : Int) := by
  unfold up cs
  induction (List.range n) with
  | nil => rfl
  | cons a r ih => rw [List.map_cons, List.map_cons, List.sum_cons, List.sum_cons, ih, Int.natCast_add]
theorem cs_le {n : Nat} {c : Nat → Nat} (h : ∀ a, c a ≤ 3) : cs n c ≤ 3 * n := by
  unfold cs
  have : ∀ l : List Nat, (l.map c).sum ≤ 3 * l.length := fun l => by
    induction l with
    | nil => exact Nat.le_refl _
    | cons a r ih => rw [List.map_cons, List.sum_cons, List.length_cons]; have := h a; omega
  have := this (List.range n)
  rwa [List.length_range] at this
theorem cs_one (n : Nat) : cs n (fun _ => 1) = n := by
  have : ∀ l : List Nat, (l.map fun _ => 1).sum = l.length := fun l => by
    induction l with
    | nil => rfl
    | cons a r ih => rw [List.map_cons, List.sum_cons, List.length_cons, ih]; omega
  unfold cs
  rw [this, List.length_range]
/-- parts in whole counts -/
theorem cm_of {n s : Nat} {c : Nat → Nat} (hs : cs n c = s) (h0 : 0 < s) (h1 : s < 128) (hc : ∀ a, c a < 128) : Cm n fun a => Rat.divInt (c a : Nat) (s : Nat) := by
  have sp : (0 : Rat) < ((s : Nat) : Rat) := by exact_mod_cast h0
  have e : ∀ a, Rat.divInt ((c a : Nat) : Int) ((s : Nat) : Int) = ((s : Nat) : Rat)⁻¹ * ((c a : Nat) : Rat) := fun a => by
    rw [Rat.divInt_eq_div, Rat.div_def, Rat.intCast_natCast, Rat.intCast_natCast, Rat.mul_comm]
  refine ⟨fun k _ => ?_, ?_, fun k _ => Sm.divInt (by unfold Bt; rw [Int.natAbs_natCast]; exact hc k) (by unfold Bt; rw [Int.natAbs_natCast]; exact h1) (by decide)⟩
  · rw [e]
    exact Rat.mul_nonneg (Rat.le_of_lt (q_inv_pos sp)) (by exact_mod_cast Nat.zero_le _)
  · rw [sg_su, su_congr fun a _ => e a, su_mul]
    have : (su (List.range n) fun a => ((c a : Nat) : Rat)) = ((cs n c : Nat) : Rat) := by
      unfold cs
      induction (List.range n) with
      | nil => rfl
      | cons a r ih => rw [su_cons, List.map_cons, List.sum_cons, Rat.natCast_add, ih]
    rw [this, hs, Rat.mul_comm]
    exact Rat.mul_inv_cancel _ (by grind)
theorem rep_up {n : Nat} {x : D} : (List.replicate n [x]).flatten = up n fun _ => x := by
  unfold up
  induction n with
  | zero => rfl
  | succ n ih => rw [List.replicate_succ', List.range_succ, List.map_append, List.flatten_append, ih]; rfl
def s__law_community : DSp := fun ds M Φ _ => ∃ k nn n : Nat, ds = [.ptr k, .int (n : Nat)] ∧ 1 ≤ n ∧ n ≤ 8 ∧ Bx k nn M ∧ nn ≤ 80000 ∧ ∀ p M', Cm n p → Us k (nn + 10) M M' → Φ (rowD n p) M'
theorem r__law_community : ∀ ds M Φ Ψ, s__law_community ds M Φ Ψ → ds.length = 2 ∧ T__law_community s__law_pick s_lowest (fnEnds M.length Φ Ψ) (startR N__law_community ds) M := by
  rintro ds M Φ Ψ ⟨k, nn, n, rfl, n1, n8, hb, hnn, h⟩
  refine ⟨rfl, ?_⟩
  simp only [T__law_community, lstC5]
  simp only [dSeq, dAsg, dIf, dIfS, dB, dOp, dUn, dCB, dCons, dNil, dTup, dLst, dVar, dC, dgName, dgTup, dgLst, dgCons, dgNil, dRet, dRetN, dDrop, dPar, dPar3, dNext, dAnd, dOr, dNot, dAndV, dOrV, dNotV, dChain, dCall, dCallR, dFor, diSeq, diRng1, diZip, diEnum, dLc, dYes, dElt, fnEnds, startR, wipeR, dAdd, dSub, dMul, dFdiv, dMod, dPow, dInt2, dNeg, dCmpI, dLt, dLe, dGt, dGe, dEq, dNe, dIsN, dIsNot, dIsB, dSl, dPart, dNoPart, dAbs, dInts2, dMax2, dMin2, dGcd, dInt, dIs1, dIs2, atI_0, atI_1, atI_2, atI_3, List.map, List.length, List.cons_append, List.nil_append, List.replicate, List.getElem?_cons_zero, List.getElem?_cons_succ, List.set, if_true, if_false, res_tup, res_lst, res_int, res_bl, res_str, res_non, res_fr, res_row, res_tab, res_ptr, ix_tup, ix_lst, ix_frl, ix_row, ix_tab, ix_fr0, ix_fr1, ix_ptr, len_tup, len_lst, len_frl, len_row, len_tab, len_ptr, sq_tup', sq_lst, sq_frl, sq_row, sq_tab, sq_ptr, lvf_lst, lvf_frl, lvf_ptr, isN_non, isN_tup, isN_int, isN_bl, sl_tup, sl_lst, sl_frl, sl_str, tupOf_lst, tupOf_tup, up_len, keep_lst, keep_frl, keep_tup, keep_row, keep_tab, keep_ptr, N__law_community, lv_lst]
  refine ⟨by omega, by omega, ?_⟩
  refine go_rng (I := fun i acc M' => Us k (nn + i) M M' ∧ ∃ c : Nat → Nat, (∀ a, c a ≤ 3) ∧ acc = up i fun a => .int (c a : Nat)) ⟨hb.us, fun _ => 0, fun _ => Nat.zero_le _, rfl⟩ ?_ ?_
  · rintro acc M1 ⟨us1, c, gc, rfl⟩
    refine ⟨trivial, up n fun a => ((c a : Nat) : Int), by rw [lvf_lst, up_map], ?_⟩
    rw [cs_int]
    have fin : ∀ c : Nat → Nat, (∀ a, c a ≤ 3) → 0 < cs n c → dGo (fun d acc M2 kk => dSum [.lst (up n fun a => .int (c a : Nat))] M2 fun d_1 M1 => s_lowest [d, d_1] M1 (fun y M2 => acc.length < sizeLine ∧ kk (acc ++ [y]) M2) fun _ _ => False) (fun _ => True) (fun acc M2 => DropN M.length Φ (.tup acc) M2) (up n fun a => .int (c a : Nat)) [] M1 := fun c gc hp => by
      have le := cs_le (n := n) gc
      refine go_map (e := fun a => D.int (c a : Nat)) (f := fun a => fr (Rat.divInt (c a : Nat) (cs n c : Nat))) (List.range n) (fun a ha acc kk hkk hl => ?_) trivial (small (by simp; omega)) (DropN.of (h _ _ (cm_of rfl hp (by omega) (fun a => by have := gc a; omega)) (us1.mono (by omega))))
      refine ⟨up n fun a => ((c a : Nat) : Int), by rw [lvf_lst, up_map], ?_⟩
      rw [cs_int]
      exact ⟨_, _, rfl, by omega, by unfold Bt; rw [Int.natAbs_natCast]; exact Nat.lt_of_lt_of_le (show cs n c < 2 ^ 5 by omega) (Nat.pow_le_pow_right (by decide) (by decide)), hl, hkk⟩
    by_cases hp : 0 < cs n c
    · exact yes (by simpa using hp) (fin c gc hp)
    · refine no (by simpa using hp) ⟨by decide, by omega, by omega, by simp; exact Nat.le_trans n8 (by decide), ?_⟩
      have e : (List.replicate ((n : Nat) : Int).toNat [D.int 1]).flatten = up n fun a => D.int (((fun _ => 1 : Nat → Nat) a : Nat) : Int) := by rw [Int.toNat_natCast, rep_up]; rfl
      rw [e]
      exact fin (fun _ => 1) (fun _ => by decide) (by rw [cs_one]; omega)
  · rintro i acc M1 kk hi hkk ⟨us1, c, gc, rfl⟩
    refine ⟨trivial, k, nn + i, _, rfl, by show 0 < 5; decide, by show 5 ≤ 1000; decide, us1.bx, by omega, fun d M2 hd us2 => ?_⟩
    obtain ⟨x, rfl, gx⟩ := count_list d hd
    refine ⟨Nat.lt_of_le_of_lt (by rw [up_len]; omega : _ ≤ 1000) (by decide), hkk _ _ ⟨us1.trans us2, fun a => if a = i then x else c a, fun a => by show (if a = i then x else c a) ≤ 3; split; exact gx; exact gc a, ?_⟩⟩
    rw [← up_ext]
    unfold up
    refine List.map_congr_left fun b _ => ?_
    by_cases e : b = i
    · simp only [if_pos e]
    · simp only [if_neg e]
end K85

set_option Elab.async false
set_option linter.all false
set_option autoImplicit false
set_option maxRecDepth 100000
set_option maxHeartbeats 8000000
/-! # All that is planted; the law -/
namespace K85
open PySem PySem.Spec L2 DL
open PyProof.Rows hiding St
/-- the table of unlike kinds -/
theorem id_lk {n : Nat} (n1 : 1 ≤ n) (n8 : n ≤ 8) : Lk n fun i j => if i = j then 1 else 0 := by
  have g : ∀ i j : Nat, Good (if i = j then (1 : Rat) else 0) := fun i j => by split; exact good1; exact good0
  refine ⟨n1, n8, fun i _ j _ => ?_, fun i _ => if_pos rfl, fun i _ j _ => (g i j).1, fun i _ j _ => (g i j).2.1, fun i _ j _ => (g i j).2.2⟩
  by_cases e : i = j
  · rw [if_pos e, if_pos e.symm]
  · rw [if_neg e, if_neg fun z => e z.symm]
/-- in a ring of four -/
def ringB (i j : Nat) : Bool := ([1, 3] : List Int).contains (((i : Nat) : Int) - ((j : Nat) : Int)).natAbs
theorem ring_sym : ∀ i < 4, ∀ j < 4, ([1, 3] : List Int).contains (Int.fmod (((i : Nat) : Int) - ((j : Nat) : Int)) 4) = ([1, 3] : List Int).contains (Int.fmod (((j : Nat) : Int) - ((i : Nat) : Int)) 4) := by decide
def zR (far : Rat) (i j : Nat) : Rat := if i = j then 1 else if ([1, 3] : List Int).contains (Int.fmod (((i : Nat) : Int) - ((j : Nat) : Int)) 4) = true then far else 0
theorem ring_lk {far : Rat} (g : Good far) : Lk 4 (zR far) := by
  have gg : ∀ i j : Nat, Good (zR far i j) := fun i j => by
    unfold zR
    split
    · exact good1
    · split
      · exact g
      · exact good0
  refine ⟨by decide, by decide, fun i hi j hj => ?_, fun i _ => if_pos rfl, fun i _ j _ => (gg i j).1, fun i _ j _ => (gg i j).2.1, fun i _ j _ => (gg i j).2.2⟩
  unfold zR
  rw [ring_sym i hi j hj]
  by_cases e : i = j
  · rw [if_pos e, if_pos e.symm]
  · rw [if_neg e, if_neg (show ¬ j = i from fun z => e z.symm)]
theorem even_cm {n : Nat} (n1 : 1 ≤ n) (n8 : n ≤ 8) : Cm n fun _ => Rat.divInt 1 (n : Nat) := cm_of (c := fun _ => 1) (cs_one n) (by omega) (by omega) (fun _ => by show 1 < 128; decide)
theorem last_cm {n : Nat} (n1 : 1 ≤ n) (n8 : n ≤ 8) : Cm n fun k => if k = n - 1 then 1 else 0 := by
  refine ⟨fun k _ => by split <;> decide, ?_, fun k _ => by split; exact Sm.one.mono (by decide); exact Sm.zero 6⟩
  have : n = 1 ∨ n = 2 ∨ n = 3 ∨ n = 4 ∨ n = 5 ∨ n = 6 ∨ n = 7 ∨ n = 8 := by omega
  rcases this with rfl | rfl | rfl | rfl | rfl | rfl | rfl | rfl <;> decide +kernel
/-- two kinds only -/
def p2 (a b : Rat) (k : Nat) : Rat := if k = 0 then a else if k = 1 then b else 0
theorem p2_row {n : Nat} (n1 : 1 < n) (n8 : n ≤ 8) (a b : Rat) : D.tup ([fr a, fr b] ++ (List.replicate (((n : Nat) : Int) - 2).toNat [fr 0]).flatten) = rowD n (p2 a b) := by
  have : n = 2 ∨ n = 3 ∨ n = 4 ∨ n = 5 ∨ n = 6 ∨ n = 7 ∨ n = 8 := by omega
  rcases this with rfl | rfl | rfl | rfl | rfl | rfl | rfl <;> rfl
theorem p2_cm {n : Nat} (n1 : 1 < n) (n8 : n ≤ 8) {a b : Rat} (ha : 0 ≤ a) (hb : 0 ≤ b) (s : a + b = 1) (sa : Sm 7 a) (sb : Sm 7 b) : Cm n (p2 a b) := by
  refine ⟨fun k _ => ?_, ?_, fun k _ => ?_⟩
  · unfold p2
    split
    · exact ha
    · split
      · exact hb
      · decide
  · have e : sg n (p2 a b) = a + b := by
      have : n = 2 ∨ n = 3 ∨ n = 4 ∨ n = 5 ∨ n = 6 ∨ n = 7 ∨ n = 8 := by omega
      rcases this with rfl | rfl | rfl | rfl | rfl | rfl | rfl
      · show 0 + a + b = a + b; grind
      · show 0 + a + b + 0 = a + b; grind
      · show 0 + a + b + 0 + 0 = a + b; grind
      · show 0 + a + b + 0 + 0 + 0 = a + b; grind
      · show 0 + a + b + 0 + 0 + 0 + 0 = a + b; grind
      · show 0 + a + b + 0 + 0 + 0 + 0 + 0 = a + b; grind
      · show 0 + a + b + 0 + 0 + 0 + 0 + 0 + 0 = a + b; grind
    rw [e, s]
  · unfold p2
    split
    · exact sa
    · split
      · exact sb
      · exact Sm.zero 6
theorem far_list : ∀ d ∈ ([.tup [.int 1, .int 2], .tup [.int 1, .int 3], fr 1, fr 0] : List D), ∃ x, d = fr x ∧ Good x := by
  intro d hd
  simp only [List.mem_cons, List.not_mem_nil, or_false] at hd
  rcases hd with rfl | rfl | rfl | rfl
  · exact ⟨Rat.divInt 1 2, rfl, .of (by decide) (by decide) (by unfold Bt; decide) (by unfold Bt; decide)⟩
  · exact ⟨Rat.divInt 1 3, rfl, .of (by decide) (by decide) (by unfold Bt; decide) (by unfold Bt; decide)⟩
  · exact ⟨1, rfl, good1⟩
  · exact ⟨0, rfl, good0⟩
theorem many_list : ∀ d ∈ ([.int 41, .int 37, .int 40, .int 83] : List D), ∃ m : Int, d = .int m ∧ 2 ≤ m ∧ m < 128 ∧ D.tup [.int 1, .int m] = fr (Rat.divInt 1 m) ∧ 0 ≤ Rat.divInt (m - 1) m ∧ 0 ≤ Rat.divInt 1 m ∧ Rat.divInt (m - 1) m + Rat.divInt 1 m = 1 := by
  intro d hd
  simp only [List.mem_cons, List.not_mem_nil, or_false] at hd
  rcases hd with rfl | rfl | rfl | rfl
  · exact ⟨41, rfl, by decide, by decide, rfl, by decide, by decide, by decide +kernel⟩
  · exact ⟨37, rfl, by decide, by decide, rfl, by decide, by decide, by decide +kernel⟩
  · exact ⟨40, rfl, by decide, by decide, rfl, by decide, by decide, by decide +kernel⟩
  · exact ⟨83, rfl, by decide, by decide, rfl, by decide, by decide, by decide +kernel⟩
def s__law_planted : DSp := fun ds M Φ _ => ∃ k nn n : Nat, ds = [.ptr k, .int (n : Nat)] ∧ 1 ≤ n ∧ n ≤ 8 ∧ Bx k nn M ∧ nn ≤ 10000 ∧ ∀ m z p M', Lk m z → Cm m p → Us k (nn + 200) M M' → Φ (.lst [tabD m m z, rowD m p]) M'
theorem bt_big {a : Int} {m : Nat} (h : Bt m a) (l : m ≤ 8999) : Bt 8999 a := h.mono l
theorem r__law_planted : ∀ ds M Φ Ψ, s__law_planted ds M Φ Ψ → ds.length = 2 ∧ T__law_planted s__law_take s_lowest s__law_pick s__law_likeness s__law_community (fnEnds M.length Φ Ψ) (startR N__law_planted ds) M := by
  rintro ds M Φ Ψ ⟨k, nn, n, rfl, n1, n8, hb, hnn, h⟩
  refine ⟨rfl, ?_⟩
  simp only [T__law_planted, tupC2, lstC4]
  simp only [zero_frac, one_frac, dSeq, dAsg, dIf, dIfS, dB, dOp, dUn, dCB, dCons, dNil, dTup, dLst, dVar, dC, dgName, dgTup, dgLst, dgCons, dgNil, dRet, dRetN, dDrop, dPar, dPar3, dNext, dAnd, dOr, dNot, dAndV, dOrV, dNotV, dChain, dCall, dCallR, dFor, diSeq, diRng1, diZip, diEnum, dLc, dYes, dElt, fnEnds, startR, wipeR, dAdd, dSub, dMul, dFdiv, dMod, dPow, dInt2, dNeg, dCmpI, dLt, dLe, dGt, dGe, dEq, dNe, dIsN, dIsNot, dIsB, dSl, dPart, dNoPart, dAbs, dInts2, dMax2, dMin2, dGcd, dInt, dIs1, dIs2, atI_0, atI_1, atI_2, atI_3, List.map, List.length, List.cons_append, List.nil_append, List.replicate, List.getElem?_cons_zero, List.getElem?_cons_succ, List.set, if_true, if_false, res_tup, res_lst, res_int, res_bl, res_str, res_non, res_fr, res_row, res_tab, res_ptr, ix_tup, ix_lst, ix_frl, ix_row, ix_tab, ix_fr0, ix_fr1, ix_ptr, len_tup, len_lst, len_frl, len_row, len_tab, len_ptr, sq_tup', sq_lst, sq_frl, sq_row, sq_tab, sq_ptr, lvf_lst, lvf_frl, lvf_ptr, isN_non, isN_tup, isN_int, isN_bl, sl_tup, sl_lst, sl_frl, sl_str, tupOf_lst, tupOf_tup, up_len, keep_lst, keep_frl, keep_tup, keep_row, keep_tab, keep_ptr, N__law_planted, lv_lst]
  refine ⟨k, nn, 6, rfl, by decide, by decide, hb, by omega, fun r M1 r0 r1 us1 => ⟨fl_int, fl_int, ?_⟩⟩
  have bn : Bt 8999 ((n : Nat) : Int) := Bt.mono (m := 4) (by unfold Bt; rw [Int.natAbs_natCast]; omega) (by decide)
  have ln : n ≤ sizeLine := Nat.le_trans n8 (by decide)
  by_cases h0 : r = 0
  · refine yes (by rw [res_int, eqv_ii]; exact decide_eq_true h0) ⟨by omega, by omega, ?_⟩
    refine mp_rng (f := fun a => rowD n fun b => if a = b then 1 else 0) (fun a ha acc kk hkk hl => ?_) trivial (by omega) ?_
    · refine ⟨by omega, by omega, ?_⟩
      refine mp_rng (f := fun b => fr (if a = b then 1 else 0)) (fun b hb' acc2 k2 hk2 hl2 => ⟨fl_int, fl_int, ?_⟩) trivial (by omega) ⟨hl, hkk⟩
      by_cases e : a = b
      · rw [if_pos e] at hk2
        exact yes (by rw [res_int, res_int, eqv_ii]; exact decide_eq_true (by omega)) ⟨hl2, hk2⟩
      · rw [if_neg e] at hk2
        exact no (by rw [res_int, res_int, eqv_ii, decide_eq_false (by omega)]; decide) ⟨hl2, hk2⟩
    · refine ⟨1, _, rfl, by omega, bn, by decide, by omega, by omega, by rw [Int.toNat_natCast]; omega, by decide, DropN.of ?_⟩
      rw [Int.toNat_natCast, rep_up]
      exact h n _ _ M1 (id_lk n1 n8) (even_cm n1 n8) (us1.mono (by omega))
  refine no (by rw [res_int, eqv_ii, decide_eq_false h0]; decide) ⟨fl_int, fl_int, ?_⟩
  by_cases h1 : r = 1
  · refine yes (by rw [res_int, eqv_ii]; exact decide_eq_true h1) ⟨k, _, _, rfl, by show 0 < 4; decide, by show 4 ≤ 1000; decide, us1.bx, by omega, fun d M2 hd us2 => ?_⟩
    obtain ⟨far, rfl, gf⟩ := far_list d hd
    refine ⟨by decide, by decide, ?_⟩
    refine mp_rng (n := 4) (f := fun a => rowD 4 (zR far a)) (fun a ha acc kk hkk hl => ?_) trivial (by decide) ?_
    · refine ⟨by decide, by decide, ?_⟩
      refine mp_rng (n := 4) (f := fun b => fr (zR far a b)) (fun b hb' acc2 k2 hk2 hl2 => ⟨fl_int, fl_int, ?_⟩) trivial (by decide) ⟨hl, hkk⟩
      unfold zR at hk2
      by_cases e : a = b
      · rw [if_pos e] at hk2
        exact yes (by rw [res_int, res_int, eqv_ii]; exact decide_eq_true (by omega)) ⟨hl2, hk2⟩
      · rw [if_neg e] at hk2
        refine no (by rw [res_int, res_int, eqv_ii, decide_eq_false (by omega)]; decide) ⟨by decide, [1, 3], rfl, ?_⟩
        by_cases q : ([1, 3] : List Int).contains (Int.fmod (((a : Nat) : Int) - ((b : Nat) : Int)) 4) = true
        · rw [if_pos q] at hk2
          exact yes q ⟨hl2, hk2⟩
        · rw [if_neg q] at hk2
          exact no q ⟨hl2, hk2⟩
    · exact ⟨by decide, by decide, by decide, by decide, by decide, DropN.of (h 4 _ _ M2 (ring_lk gf) (even_cm (n := 4) (by decide) (by decide)) ((us1.trans us2).mono (by omega)))⟩
  refine no (by rw [res_int, eqv_ii, decide_eq_false h1]; decide) ⟨fl_int, fl_int, ?_⟩
  by_cases h2 : r = 2
  · refine yes (by rw [res_int, eqv_ii]; exact decide_eq_true h2) ⟨k, _, n, rfl, n1, n8, us1.bx, by omega, fun z M2 L us2 => ⟨by omega, by omega, ?_⟩⟩
    refine mp_rng (f := fun b => fr (if b = n - 1 then 1 else 0)) (fun b hb' acc2 k2 hk2 hl2 => ⟨fl_int, fl_int, ?_⟩) trivial (by omega) ⟨by decide, DropN.of (h n z _ M2 L (last_cm n1 n8) ((us1.trans us2).mono (by omega)))⟩
    by_cases e : b = n - 1
    · rw [if_pos e] at hk2
      exact yes (by rw [res_int, eqv_ii]; exact decide_eq_true (by omega)) ⟨hl2, hk2⟩
    · rw [if_neg e] at hk2
      exact no (by rw [res_int, eqv_ii, decide_eq_false (by omega)]; decide) ⟨hl2, hk2⟩
  refine no (by rw [res_int, eqv_ii, decide_eq_false h2]; decide) ⟨k, _, n, rfl, n1, n8, us1.bx, by omega, fun z M2 L us2 => ⟨fl_int, fl_int, ?_⟩⟩
  have com : ∀ Φ' : DK, Φ' = DropN M.length Φ → s__law_community [.ptr k, .int (n : Nat)] M2 (fun d_1 M1 => 0 + 1 + 1 ≤ sizeLine ∧ DropN M.length Φ (.lst [tabD n n z, d_1]) M1) (fun x M1 => Ψ x M1) := fun _ _ =>
    ⟨k, _, n, rfl, n1, n8, us2.bx, by omega, fun p M3 C us3 => ⟨by decide, DropN.of (h n z p M3 L C ((us1.trans (us2.trans us3)).mono (by omega)))⟩⟩
  by_cases h3 : r = 3
  · refine yes (by rw [res_int, eqv_ii]; exact decide_eq_true h3) ?_
    by_cases hn1 : 1 < n
    · refine yes (decide_eq_true (by omega)) ⟨k, _, _, rfl, by show 0 < 4; decide, by show 4 ≤ 1000; decide, us2.bx, by omega, fun d M3 hd us3 => ?_⟩
      obtain ⟨m, rfl, m2, m128, em, p0, p1, ps⟩ := many_list d hd
      have bm : Bt 7 m := by unfold Bt; omega
      have bm1 : Bt 7 (m - 1) := by unfold Bt; omega
      have b1 : Bt 7 (1 : Int) := by unfold Bt; decide
      refine ⟨_, _, rfl, by omega, bm.mono (by decide), by decide, by decide, by decide, by omega, by omega, by decide, ?_, by decide, DropN.of ?_⟩
      · rw [rep_up, up_len]
        exact Nat.le_trans (show 0 + 1 + 1 + _ ≤ 1000 by omega) (by decide)
      · rw [em]
        have := p2_row hn1 n8 (Rat.divInt (m - 1) m) (Rat.divInt 1 m)
        rw [show D.tup (fr (Rat.divInt (m - 1) m) :: fr (Rat.divInt 1 m) :: (List.replicate (((n : Nat) : Int) - 2).toNat [fr 0]).flatten) = rowD n (p2 (Rat.divInt (m - 1) m) (Rat.divInt 1 m)) from this]
        exact h n z _ M3 L (p2_cm hn1 n8 p0 p1 ps (Sm.divInt bm1 bm (by decide)) (Sm.divInt b1 bm (by decide))) ((us1.trans (us2.trans us3)).mono (by omega))
    · exact no (by simp; omega) (com _ rfl)
  · exact no (by rw [res_int, eqv_ii, decide_eq_false h3]; decide) (no Bool.false_ne_true (com _ rfl))
end K85

set_option Elab.async false
set_option linter.all false
set_option autoImplicit false
set_option maxRecDepth 100000
set_option maxHeartbeats 8000000
/-! # The law -/
namespace K85
open PySem PySem.Spec L2 DL
open PyProof.Rows hiding St
/-- all cells are boxes -/
def AllB (M : Ms) : Prop := ∀ mo ∈ M, ∃ n, BoxM n mo
theorem AllB.cl {M : Ms} (h : AllB M) : Cl M := by
  unfold Cl
  rw [List.all_eq_true]
  intro x hx
  obtain ⟨n, b⟩ := h x hx
  exact b.cl
theorem Us.allB {k n : Nat} {M M' : Ms} (u : Us k n M M') (h : AllB M) : AllB M' := by
  obtain ⟨a, mo, rfl, b⟩ := u
  intro x hx
  rcases List.mem_or_eq_of_mem_set hx with hx | rfl
  · exact h x hx
  · exact ⟨n, b⟩
def s_law : DSp := fun ds M Φ _ => ∃ ns : List Int, ds = [.frl (ns.map .int)] ∧ ns.length ≤ 63 ∧ M = [] ∧ Φ (.bl true) []
theorem r_law : ∀ ds M Φ Ψ, s_law ds M Φ Ψ → ds.length = 1 ∧ T_law s__law_box s__law_cell s__law_take s__law_planted s__law_orders_right s__law_signs_right s__law_community (fnEnds M.length Φ Ψ) (startR N_law ds) M := by
  rintro ds M Φ Ψ ⟨ns, rfl, hl, rfl, h⟩
  refine ⟨rfl, ?_⟩
  simp only [dSeq, dAsg, dIf, dIfS, dB, dOp, dUn, dCB, dCons, dNil, dTup, dLst, dVar, dC, dgName, dgTup, dgLst, dgCons, dgNil, dRet, dRetN, dDrop, dPar, dPar3, dNext, dAnd, dOr, dNot, dAndV, dOrV, dNotV, dChain, dCall, dCallR, dFor, diSeq, diRng1, diZip, diEnum, dLc, dYes, dElt, fnEnds, startR, wipeR, dAdd, dSub, dMul, dFdiv, dMod, dPow, dInt2, dNeg, dCmpI, dLt, dLe, dGt, dGe, dEq, dNe, dIsN, dIsNot, dIsB, dSl, dPart, dNoPart, dAbs, dInts2, dMax2, dMin2, dGcd, dInt, dIs1, dIs2, atI_0, atI_1, atI_2, atI_3, List.map, List.length, List.cons_append, List.nil_append, List.replicate, List.getElem?_cons_zero, List.getElem?_cons_succ, List.set, if_true, if_false, res_tup, res_lst, res_int, res_bl, res_str, res_non, res_fr, res_row, res_tab, res_ptr, ix_tup, ix_lst, ix_frl, ix_row, ix_tab, ix_fr0, ix_fr1, ix_ptr, len_tup, len_lst, len_frl, len_row, len_tab, len_ptr, sq_tup', sq_lst, sq_frl, sq_row, sq_tab, sq_ptr, lvf_lst, lvf_frl, lvf_ptr, isN_non, isN_tup, isN_int, isN_bl, sl_tup, sl_lst, sl_frl, sl_str, tupOf_lst, tupOf_tup, up_len, keep_lst, keep_frl, keep_tup, keep_row, keep_tab, keep_ptr, T_law, N_law, List.length_map]
  obtain ⟨q, hq, q0, q3⟩ : ∃ q : Int, (if ((ns.length : Nat) : Int) < 3 then ((ns.length : Nat) : Int) else 3) = q ∧ 0 ≤ q ∧ q ≤ 3 := ⟨_, rfl, by split <;> omega, by split <;> omega⟩
  rw [hq]
  have em : ∃ m : Nat, (if q > 2 then q else 2) = ((m : Nat) : Int) ∧ m ≤ 3 := ⟨(if q > 2 then q else 2).toNat, by split <;> omega, by split <;> omega⟩
  obtain ⟨m, em, m3⟩ := em
  rw [em]
  refine ⟨by omega, by omega, ?_⟩
  rw [up_int]
  refine for_map (e := fun k : Nat => D.int (0 + (k : Nat))) (I := fun xs ρ M' => AllB M' ∧ (∀ k ∈ xs, k < m) ∧ ∃ (o1 o2 o3 o4 o5 o6 : Option D), ρ = [some (.frl (ns.map .int)), o1, o2, o3, o4, o5, o6]) ?_ ?_ (List.range m) _ [] ⟨(fun _ h => by cases h), (fun k hk => List.mem_range.mp hk), none, none, none, none, none, none, rfl⟩
  · rintro ρ M' ⟨hM, _, o1, o2, o3, o4, o5, o6, rfl⟩
    refine ⟨trivial, ?_⟩
    exact DropN.cut (M0 := []) M' rfl (Nat.le_refl _) rfl rfl h
  · rintro d r ρ M' nx hnx ⟨hM, hk, o1, o2, o3, o4, o5, o6, rfl⟩
    have hd := hk d List.mem_cons_self
    refine ⟨trivial, ?_⟩
    simp only [Int.zero_add, dSeq, dAsg, dIf, dIfS, dB, dOp, dUn, dCB, dCons, dNil, dTup, dLst, dVar, dC, dgName, dgTup, dgLst, dgCons, dgNil, dRet, dRetN, dDrop, dPar, dPar3, dNext, dAnd, dOr, dNot, dAndV, dOrV, dNotV, dChain, dCall, dCallR, dFor, diSeq, diRng1, diZip, diEnum, dLc, dYes, dElt, fnEnds, startR, wipeR, dAdd, dSub, dMul, dFdiv, dMod, dPow, dInt2, dNeg, dCmpI, dLt, dLe, dGt, dGe, dEq, dNe, dIsN, dIsNot, dIsB, dSl, dPart, dNoPart, dAbs, dInts2, dMax2, dMin2, dGcd, dInt, dIs1, dIs2, atI_0, atI_1, atI_2, atI_3, List.map, List.length, List.cons_append, List.nil_append, List.replicate, List.getElem?_cons_zero, List.getElem?_cons_succ, List.set, if_true, if_false, res_tup, res_lst, res_int, res_bl, res_str, res_non, res_fr, res_row, res_tab, res_ptr, ix_tup, ix_lst, ix_frl, ix_row, ix_tab, ix_fr0, ix_fr1, ix_ptr, len_tup, len_lst, len_frl, len_row, len_tab, len_ptr, sq_tup', sq_lst, sq_frl, sq_row, sq_tab, sq_ptr, lvf_lst, lvf_frl, lvf_ptr, isN_non, isN_tup, isN_int, isN_bl, sl_tup, sl_lst, sl_frl, sl_str, tupOf_lst, tupOf_tup, up_len, keep_lst, keep_frl, keep_tup, keep_row, keep_tab, keep_ptr]
    refine ⟨ns, d, rfl, by omega, fun g => ⟨g, rfl, fun mo hmo => ?_⟩⟩
    have hM1 : AllB (M' ++ [mo]) := fun x hx => by
      rcases List.mem_append.mp hx with hx | hx
      · exact hM x hx
      · exact ⟨0, by rw [List.mem_singleton.mp hx]; exact hmo⟩
    have bx : Bx M'.length 0 (M' ++ [mo]) := ⟨mo, get_last, hmo⟩
    refine ⟨_, _, 2, rfl, by decide, by decide, bx, by decide, fun r1 M2 _ _ us1 => ⟨fl_int, fl_int, ?_⟩⟩
    refine ⟨_, _, 8, rfl, by decide, by decide, us1.bx, by decide, fun r2 M3 _ _ us2 => ⟨fl_int, fl_int, ?_⟩⟩
    have all3 : AllB M3 := us2.allB (us1.allB hM1)
    have nxt : ∀ M7 o1 o2 o3 o4 o5 o6, AllB M7 → nx [some (.frl (ns.map .int)), o1, o2, o3, o4, o5, o6] M7 := fun M7 _ _ _ _ _ _ a => hnx _ _ ⟨a, fun k hk' => hk k (List.mem_cons_of_mem _ hk'), _, _, _, _, _, _, rfl⟩
    by_cases h2 : D.eqv (D.res M3 (.int r2)) (.int 0) = true
    · refine yes h2 ⟨_, _, 8, rfl, by decide, by decide, us2.bx, by decide, fun m z p M5 L C us5 => ?_⟩
      have all5 := us5.allB all3
      refine ⟨m, z, p, _, rfl, L, C, all5.cl, no (by decide) ?_⟩
      simp only [len_tab]
      refine ⟨_, _, m, rfl, L.n1, L.n8, us5.bx, by decide, fun p' M6 C' us6 => ?_⟩
      exact ⟨_, _, m, z, p, p', _, rfl, us6.bx, by decide, L, C, C', fun M7 us7 => no (by decide) (nxt _ _ _ _ _ _ _ (us7.allB (us6.allB all5)))⟩
    · refine no h2 ⟨_, _, 4, rfl, by decide, by decide, us2.bx, by decide, fun r4 M4 r40 r41 us4 => ?_⟩
      obtain ⟨w, hw⟩ : ∃ w : Nat, 1 + r4 = (w : Nat) := ⟨(1 + r4).toNat, by omega⟩
      simp only [hw]
      refine ⟨_, _, w, rfl, by omega, by omega, us4.bx, by decide, fun m z p M5 L C us5 => ?_⟩
      have all5 := us5.allB (us4.allB all3)
      refine ⟨m, z, p, _, rfl, L, C, all5.cl, no (by decide) ?_⟩
      simp only [len_tab]
      refine ⟨_, _, m, rfl, L.n1, L.n8, us5.bx, by decide, fun p' M6 C' us6 => ?_⟩
      exact ⟨_, _, m, z, p, p', _, rfl, us6.bx, by decide, L, C, C', fun M7 us7 => no (by decide) (nxt _ _ _ _ _ _ _ (us7.allB (us6.allB all5)))⟩
end K85

set_option Elab.async false
set_option linter.all false
set_option autoImplicit false
set_option maxRecDepth 100000
set_option maxHeartbeats 4000000
/-! # Every def keeps its promise (printed by chain.py) -/
namespace K85
open PySem PySem.Spec L2 DL
open PyProof.Rows hiding St
section
variable {P : Program} {w : World} {K : PySem.W.Frag} {mg : Str → Option Value} {base : Heap} {c_InvalidNumber c_InvalidLikeness c_InvalidCommunity c_TooMany : Addr}
/-- what is never promised is kept -/
theorem has_no {x : Str} {st : Stmt} {ps : List Str} (Df : Def K mg x st ps) : Has P w K mg base 0 x st ps (fun _ _ _ _ => False) := by
  obtain ⟨f, fd, hm, hk, F, B⟩ := Df.ex
  refine ⟨f, fd, hm, hk, F, B, ⟨fun vs H Q E h => ?_, fun A outer s H args us vs Q E _ _ _ _ h => ?_⟩⟩
  · obtain ⟨_, _, _, _, _, _, _, _, _, h, _⟩ := h
    exact h.elim
  · obtain ⟨_, _, _, _, _, _, _, _, _, h, _⟩ := h
    exact h.elim
theorem hs_is_integer (T : Txt P w K mg base c_InvalidNumber c_InvalidLikeness c_InvalidCommunity c_TooMany) (X : Ek K c_InvalidNumber c_TooMany) : Has P w K mg base 1 "is_integer" (top 8) ["value"] (s_is_integer) := h_is_integer T (r_is_integer)
theorem hs_is_tuple_of (T : Txt P w K mg base c_InvalidNumber c_InvalidLikeness c_InvalidCommunity c_TooMany) (X : Ek K c_InvalidNumber c_TooMany) : Has P w K mg base 1 "is_tuple_of" (top 10) ["value", "length"] (s_is_tuple_of) := h_is_tuple_of T (r_is_tuple_of)
theorem hs_lowest (T : Txt P w K mg base c_InvalidNumber c_InvalidLikeness c_InvalidCommunity c_TooMany) (X : Ek K c_InvalidNumber c_TooMany) : Has P w K mg base 1 "lowest" (top 11) ["top", "bottom"] (s_lowest) := h_lowest T (r_lowest)
theorem hs_is_less (T : Txt P w K mg base c_InvalidNumber c_InvalidLikeness c_InvalidCommunity c_TooMany) (X : Ek K c_InvalidNumber c_TooMany) : Has P w K mg base 1 "is_less" (top 20) ["one", "other"] (s_is_less) := h_is_less T (r_is_less)
theorem hs_turned_of (T : Txt P w K mg base c_InvalidNumber c_InvalidLikeness c_InvalidCommunity c_TooMany) (X : Ek K c_InvalidNumber c_TooMany) : Has P w K mg base 1 "turned_of" (top 28) ["table"] (s_turned_of) := h_turned_of T (r_turned_of)
theorem hs_support_of (T : Txt P w K mg base c_InvalidNumber c_InvalidLikeness c_InvalidCommunity c_TooMany) (X : Ek K c_InvalidNumber c_TooMany) : Has P w K mg base 1 "support_of" (top 36) ["community"] (s_support_of) := h_support_of T (r_support_of)
theorem hs_common_multiple (T : Txt P w K mg base c_InvalidNumber c_InvalidLikeness c_InvalidCommunity c_TooMany) (X : Ek K c_InvalidNumber c_TooMany) : Has P w K mg base 1 "common_multiple" (top 43) ["community"] (s_common_multiple) := h_common_multiple T (r_common_multiple)
theorem hs_is_first (T : Txt P w K mg base c_InvalidNumber c_InvalidLikeness c_InvalidCommunity c_TooMany) (X : Ek K c_InvalidNumber c_TooMany) : Has P w K mg base 1 "is_first" (top 50) ["q"] (s_is_first) := h_is_first T (r_is_first)
theorem hs__law_cell (T : Txt P w K mg base c_InvalidNumber c_InvalidLikeness c_InvalidCommunity c_TooMany) (X : Ek K c_InvalidNumber c_TooMany) : Has P w K mg base 1 "_law_cell" (top 58) ["script", "k"] (s__law_cell) := h__law_cell T (r__law_cell)
theorem hs__law_box (T : Txt P w K mg base c_InvalidNumber c_InvalidLikeness c_InvalidCommunity c_TooMany) (X : Ek K c_InvalidNumber c_TooMany) : Has P w K mg base 1 "_law_box" (top 59) ["great"] (s__law_box) := h__law_box T (r__law_box)
theorem hs__law_take (T : Txt P w K mg base c_InvalidNumber c_InvalidLikeness c_InvalidCommunity c_TooMany) (X : Ek K c_InvalidNumber c_TooMany) : Has P w K mg base 1 "_law_take" (top 60) ["box", "many"] (s__law_take) := h__law_take T (r__law_take)
theorem hs__law_lowest (T : Txt P w K mg base c_InvalidNumber c_InvalidLikeness c_InvalidCommunity c_TooMany) (X : Ek K c_InvalidNumber c_TooMany) : Has P w K mg base 1 "_law_lowest" (top 63) ["n", "d"] (s_lowest) := h__law_lowest T (r__law_lowest)
theorem hs__law_below (T : Txt P w K mg base c_InvalidNumber c_InvalidLikeness c_InvalidCommunity c_TooMany) (X : Ek K c_InvalidNumber c_TooMany) : Has P w K mg base 1 "_law_below" (top 67) ["x", "y"] (s_is_less) := h__law_below T (r__law_below)
theorem hs__law_gcd (T : Txt P w K mg base c_InvalidNumber c_InvalidLikeness c_InvalidCommunity c_TooMany) (X : Ek K c_InvalidNumber c_TooMany) : Has P w K mg base 1 "_law_gcd" (top 71) ["items"] (s__law_gcd) := h__law_gcd T (r__law_gcd)
theorem hs__law_raised (T : Txt P w K mg base c_InvalidNumber c_InvalidLikeness c_InvalidCommunity c_TooMany) (X : Ek K c_InvalidNumber c_TooMany) : Has P w K mg base 1 "_law_raised" (top 74) ["x", "many"] (s__law_raised) := h__law_raised T (r__law_raised)
theorem hs_is_between (T : Txt P w K mg base c_InvalidNumber c_InvalidLikeness c_InvalidCommunity c_TooMany) (X : Ek K c_InvalidNumber c_TooMany) : Has P w K mg base 2 "is_between" (top 9) ["value", "least", "most"] (s_is_between) := h_is_between T (hs_is_integer T X) (r_is_between)
theorem hs_is_fraction (T : Txt P w K mg base c_InvalidNumber c_InvalidLikeness c_InvalidCommunity c_TooMany) (X : Ek K c_InvalidNumber c_TooMany) : Has P w K mg base 2 "is_fraction" (top 15) ["value"] (s_is_fraction) := h_is_fraction T (hs_is_tuple_of T X) (hs_is_integer T X) (r_is_fraction)
theorem hs_plus (T : Txt P w K mg base c_InvalidNumber c_InvalidLikeness c_InvalidCommunity c_TooMany) (X : Ek K c_InvalidNumber c_TooMany) : Has P w K mg base 2 "plus" (top 16) ["one", "other"] (s_plus) := h_plus T (hs_lowest T X) (r_plus)
theorem hs_times (T : Txt P w K mg base c_InvalidNumber c_InvalidLikeness c_InvalidCommunity c_TooMany) (X : Ek K c_InvalidNumber c_TooMany) : Has P w K mg base 2 "times" (top 17) ["one", "other"] (s_times) := h_times T (hs_lowest T X) (r_times)
theorem hs_over (T : Txt P w K mg base c_InvalidNumber c_InvalidLikeness c_InvalidCommunity c_TooMany) (X : Ek K c_InvalidNumber c_TooMany) : Has P w K mg base 2 "over" (top 18) ["one", "other"] (s_over) := h_over T (hs_lowest T X) (r_over)
theorem hs_raised (T : Txt P w K mg base c_InvalidNumber c_InvalidLikeness c_InvalidCommunity c_TooMany) (X : Ek K c_InvalidNumber c_TooMany) : Has P w K mg base 2 "raised" (top 19) ["one", "count"] (s_raised) := h_raised T (hs_lowest T X) (r_raised)
theorem hs_is_share (T : Txt P w K mg base c_InvalidNumber c_InvalidLikeness c_InvalidCommunity c_TooMany) (X : Ek K c_InvalidNumber c_TooMany) : Has P w K mg base 2 "is_share" (top 31) ["item"] (s_is_share) := h_is_share T (hs_is_less T X) (r_is_share)
theorem hs__law_pick (T : Txt P w K mg base c_InvalidNumber c_InvalidLikeness c_InvalidCommunity c_TooMany) (X : Ek K c_InvalidNumber c_TooMany) : Has P w K mg base 2 "_law_pick" (top 61) ["box", "items"] (s__law_pick) := h__law_pick T (hs__law_take T X) (r__law_pick)
theorem hs__law_plus (T : Txt P w K mg base c_InvalidNumber c_InvalidLikeness c_InvalidCommunity c_TooMany) (X : Ek K c_InvalidNumber c_TooMany) : Has P w K mg base 2 "_law_plus" (top 64) ["x", "y"] (s_plus) := h__law_plus T (hs__law_lowest T X) (r__law_plus)
theorem hs__law_times (T : Txt P w K mg base c_InvalidNumber c_InvalidLikeness c_InvalidCommunity c_TooMany) (X : Ek K c_InvalidNumber c_TooMany) : Has P w K mg base 2 "_law_times" (top 65) ["x", "y"] (s_times) := h__law_times T (hs__law_lowest T X) (r__law_times)
theorem hs__law_over (T : Txt P w K mg base c_InvalidNumber c_InvalidLikeness c_InvalidCommunity c_TooMany) (X : Ek K c_InvalidNumber c_TooMany) : Has P w K mg base 2 "_law_over" (top 66) ["x", "y"] (s_over) := h__law_over T (hs__law_lowest T X) (r__law_over)
theorem hs__law_multiple (T : Txt P w K mg base c_InvalidNumber c_InvalidLikeness c_InvalidCommunity c_TooMany) (X : Ek K c_InvalidNumber c_TooMany) : Has P w K mg base 2 "_law_multiple" (top 75) ["community"] (s_common_multiple) := h__law_multiple T (hs__law_gcd T X) (r__law_multiple)
theorem hs__law_sign (T : Txt P w K mg base c_InvalidNumber c_InvalidLikeness c_InvalidCommunity c_TooMany) (X : Ek K c_InvalidNumber c_TooMany) : Has P w K mg base 2 "_law_sign" (top 77) ["one", "other"] (s_sign_of) := h__law_sign T (hs__law_raised T X) (r__law_sign)
theorem hs_total (T : Txt P w K mg base c_InvalidNumber c_InvalidLikeness c_InvalidCommunity c_TooMany) (X : Ek K c_InvalidNumber c_TooMany) : Has P w K mg base 3 "total" (top 21) ["items"] (s_total) := h_total T (hs_plus T X) (r_total)
theorem hs_is_row_of (T : Txt P w K mg base c_InvalidNumber c_InvalidLikeness c_InvalidCommunity c_TooMany) (X : Ek K c_InvalidNumber c_TooMany) : Has P w K mg base 3 "is_row_of" (top 25) ["value", "length"] (s_is_row_of) := h_is_row_of T (hs_is_tuple_of T X) (hs_is_fraction T X) (r_is_row_of)
theorem hs_sign_of (T : Txt P w K mg base c_InvalidNumber c_InvalidLikeness c_InvalidCommunity c_TooMany) (X : Ek K c_InvalidNumber c_TooMany) : Has P w K mg base 3 "sign_of" (top 47) ["one", "other"] (s_sign_of) := h_sign_of T (hs_raised T X) (hs_is_less T X) (r_sign_of)
theorem hs_check_order (T : Txt P w K mg base c_InvalidNumber c_InvalidLikeness c_InvalidCommunity c_TooMany) (X : Ek K c_InvalidNumber c_TooMany) : Has P w K mg base 3 "check_order" (top 48) ["q"] (s_check_order c_InvalidNumber) := h_check_order T (hs_is_between T X) (r_check_order c_InvalidNumber)
theorem hs_check_power (T : Txt P w K mg base c_InvalidNumber c_InvalidLikeness c_InvalidCommunity c_TooMany) (X : Ek K c_InvalidNumber c_TooMany) : Has P w K mg base 3 "check_power" (top 49) ["community"] (s_check_power c_TooMany) := h_check_power T (hs_common_multiple T X) (r_check_power c_TooMany)
theorem hs__law_total (T : Txt P w K mg base c_InvalidNumber c_InvalidLikeness c_InvalidCommunity c_TooMany) (X : Ek K c_InvalidNumber c_TooMany) : Has P w K mg base 3 "_law_total" (top 68) ["items"] (s_total) := h__law_total T (hs__law_plus T X) (r__law_total)
theorem hs__law_likeness (T : Txt P w K mg base c_InvalidNumber c_InvalidLikeness c_InvalidCommunity c_TooMany) (X : Ek K c_InvalidNumber c_TooMany) : Has P w K mg base 3 "_law_likeness" (top 72) ["box", "n"] (s__law_likeness) := h__law_likeness T (hs__law_pick T X) (hs__law_take T X) (r__law_likeness)
theorem hs__law_community (T : Txt P w K mg base c_InvalidNumber c_InvalidLikeness c_InvalidCommunity c_TooMany) (X : Ek K c_InvalidNumber c_TooMany) : Has P w K mg base 3 "_law_community" (top 73) ["box", "n"] (s__law_community) := h__law_community T (hs__law_pick T X) (hs__law_lowest T X) (r__law_community)
theorem hs__law_bounds_right (T : Txt P w K mg base c_InvalidNumber c_InvalidLikeness c_InvalidCommunity c_TooMany) (X : Ek K c_InvalidNumber c_TooMany) : Has P w K mg base 3 "_law_bounds_right" (top 80) ["likeness", "community", "rows"] (s__law_bounds_right) := h__law_bounds_right T (hs__law_sign T X) (r__law_bounds_right)
theorem hs_dot (T : Txt P w K mg base c_InvalidNumber c_InvalidLikeness c_InvalidCommunity c_TooMany) (X : Ek K c_InvalidNumber c_TooMany) : Has P w K mg base 4 "dot" (top 22) ["one", "other"] (s_dot) := h_dot T (hs_total T X) (hs_times T X) (r_dot)
theorem hs_is_any_table (T : Txt P w K mg base c_InvalidNumber c_InvalidLikeness c_InvalidCommunity c_TooMany) (X : Ek K c_InvalidNumber c_TooMany) : Has P w K mg base 4 "is_any_table" (top 26) ["value"] (s_is_any_table) := h_is_any_table T (hs_is_row_of T X) (r_is_any_table)
theorem hs_is_community_of (T : Txt P w K mg base c_InvalidNumber c_InvalidLikeness c_InvalidCommunity c_TooMany) (X : Ek K c_InvalidNumber c_TooMany) : Has P w K mg base 4 "is_community_of" (top 34) ["size", "value"] (s_is_community_of) := h_is_community_of T (hs_is_row_of T X) (hs_is_less T X) (hs_total T X) (r_is_community_of)
theorem hs__law_dot (T : Txt P w K mg base c_InvalidNumber c_InvalidLikeness c_InvalidCommunity c_TooMany) (X : Ek K c_InvalidNumber c_TooMany) : Has P w K mg base 4 "_law_dot" (top 69) ["one", "other"] (s_dot) := h__law_dot T (hs__law_total T X) (hs__law_times T X) (r__law_dot)
theorem hs__law_planted (T : Txt P w K mg base c_InvalidNumber c_InvalidLikeness c_InvalidCommunity c_TooMany) (X : Ek K c_InvalidNumber c_TooMany) : Has P w K mg base 4 "_law_planted" (top 82) ["box", "n"] (s__law_planted) := h__law_planted T (hs__law_take T X) (hs__law_lowest T X) (hs__law_pick T X) (hs__law_likeness T X) (hs__law_community T X) (r__law_planted)
theorem hs_is_table (T : Txt P w K mg base c_InvalidNumber c_InvalidLikeness c_InvalidCommunity c_TooMany) (X : Ek K c_InvalidNumber c_TooMany) : Has P w K mg base 5 "is_table" (top 27) ["value"] (s_is_table) := h_is_table T (hs_is_any_table T X) (r_is_table)
theorem hs_applied_to (T : Txt P w K mg base c_InvalidNumber c_InvalidLikeness c_InvalidCommunity c_TooMany) (X : Ek K c_InvalidNumber c_TooMany) : Has P w K mg base 5 "applied_to" (top 29) ["table", "row"] (s_applied_to) := h_applied_to T (hs_dot T X) (r_applied_to)
theorem hs_check_community (T : Txt P w K mg base c_InvalidNumber c_InvalidLikeness c_InvalidCommunity c_TooMany) (X : Ek K c_InvalidNumber c_TooMany) : Has P w K mg base 5 "check_community" (top 35) ["likeness", "community"] (s_check_community) := h_check_community T (hs_is_community_of T X) (r_check_community c_InvalidCommunity)
theorem hs__law_apply (T : Txt P w K mg base c_InvalidNumber c_InvalidLikeness c_InvalidCommunity c_TooMany) (X : Ek K c_InvalidNumber c_TooMany) : Has P w K mg base 5 "_law_apply" (top 70) ["table", "row"] (s_applied_to) := h__law_apply T (hs__law_dot T X) (r__law_apply)
theorem hs_is_likeness (T : Txt P w K mg base c_InvalidNumber c_InvalidLikeness c_InvalidCommunity c_TooMany) (X : Ek K c_InvalidNumber c_TooMany) : Has P w K mg base 6 "is_likeness" (top 32) ["value"] (s_is_likeness) := h_is_likeness T (hs_is_table T X) (hs_turned_of T X) (hs_is_share T X) (r_is_likeness)
theorem hs_shares_of (T : Txt P w K mg base c_InvalidNumber c_InvalidLikeness c_InvalidCommunity c_TooMany) (X : Ek K c_InvalidNumber c_TooMany) : Has P w K mg base 6 "shares_of" (top 41) ["likeness", "community"] (s_shares_of) := h_shares_of T (hs_applied_to T X) (hs_support_of T X) (r_shares_of)
theorem hs__law_diversity (T : Txt P w K mg base c_InvalidNumber c_InvalidLikeness c_InvalidCommunity c_TooMany) (X : Ek K c_InvalidNumber c_TooMany) : Has P w K mg base 6 "_law_diversity" (top 76) ["likeness", "community", "q"] (s_diversity_of) := h__law_diversity T (hs__law_apply T X) (hs__law_below T X) (hs__law_over T X) (hs__law_total T X) (hs__law_multiple T X) (hs__law_raised T X) (hs__law_lowest T X) (hs__law_times T X) (r__law_diversity)
theorem hs_check_likeness (T : Txt P w K mg base c_InvalidNumber c_InvalidLikeness c_InvalidCommunity c_TooMany) (X : Ek K c_InvalidNumber c_TooMany) : Has P w K mg base 7 "check_likeness" (top 33) ["likeness"] (s_check_likeness) := h_check_likeness T (hs_is_likeness T X) (r_check_likeness c_InvalidLikeness)
theorem hs_power_sum_of (T : Txt P w K mg base c_InvalidNumber c_InvalidLikeness c_InvalidCommunity c_TooMany) (X : Ek K c_InvalidNumber c_TooMany) : Has P w K mg base 7 "power_sum_of" (top 42) ["likeness", "community", "q"] (s_power_sum_of) := h_power_sum_of T (hs_total T X) (hs_shares_of T X) (hs_times T X) (hs_raised T X) (r_power_sum_of)
theorem hs_first_order (T : Txt P w K mg base c_InvalidNumber c_InvalidLikeness c_InvalidCommunity c_TooMany) (X : Ek K c_InvalidNumber c_TooMany) : Has P w K mg base 7 "first_order" (top 44) ["likeness", "community"] (s_first_order) := h_first_order T (hs_common_multiple T X) (hs_shares_of T X) (hs_times T X) (hs_raised T X) (r_first_order)
theorem hs_greatest_presence (T : Txt P w K mg base c_InvalidNumber c_InvalidLikeness c_InvalidCommunity c_TooMany) (X : Ek K c_InvalidNumber c_TooMany) : Has P w K mg base 7 "greatest_presence" (top 45) ["likeness", "community"] (s_greatest_presence) := h_greatest_presence T (hs_shares_of T X) (hs_is_less T X) (r_greatest_presence)
theorem hs_check_both (T : Txt P w K mg base c_InvalidNumber c_InvalidLikeness c_InvalidCommunity c_TooMany) (X : Ek K c_InvalidNumber c_TooMany) : Has P w K mg base 8 "check_both" (top 37) ["likeness", "community"] (s_check_both) := h_check_both T (hs_check_likeness T X) (hs_check_community T X) (r_check_both)
theorem hs_diversity_of (T : Txt P w K mg base c_InvalidNumber c_InvalidLikeness c_InvalidCommunity c_TooMany) (X : Ek K c_InvalidNumber c_TooMany) : Has P w K mg base 8 "diversity_of" (top 46) ["likeness", "community", "q"] (s_diversity_of) := h_diversity_of T (hs_over T X) (hs_greatest_presence T X) (hs_total T X) (hs_shares_of T X) (hs_first_order T X) (hs_power_sum_of T X) (r_diversity_of)
theorem hs_power_sum (T : Txt P w K mg base c_InvalidNumber c_InvalidLikeness c_InvalidCommunity c_TooMany) (X : Ek K c_InvalidNumber c_TooMany) : Has P w K mg base 9 "power_sum" (top 51) ["likeness", "community", "q"] (s_power_sum c_InvalidNumber) := h_power_sum T (hs_check_both T X) (hs_is_between T X) (hs_power_sum_of T X) (r_power_sum c_InvalidNumber)
theorem hs_diversity (T : Txt P w K mg base c_InvalidNumber c_InvalidLikeness c_InvalidCommunity c_TooMany) (X : Ek K c_InvalidNumber c_TooMany) : Has P w K mg base 9 "diversity" (top 52) ["likeness", "community", "q"] (s_diversity c_InvalidNumber c_TooMany) := h_diversity T (hs_check_both T X) (hs_check_order T X) (hs_is_first T X) (hs_check_power T X) (hs_diversity_of T X) (r_diversity c_InvalidNumber c_TooMany)
theorem hs_order_sign (T : Txt P w K mg base c_InvalidNumber c_InvalidLikeness c_InvalidCommunity c_TooMany) (X : Ek K c_InvalidNumber c_TooMany) : Has P w K mg base 9 "order_sign" (top 53) ["likeness", "one", "other", "q"] (s_order_sign c_InvalidNumber c_TooMany) := h_order_sign T (hs_check_likeness T X) (hs_check_community T X) (hs_is_community_of T X) (hs_check_order T X) (hs_is_first T X) (hs_check_power T X) (hs_sign_of T X) (hs_diversity_of T X) (r_order_sign c_InvalidNumber c_TooMany c_InvalidCommunity)
theorem hs_falls (T : Txt P w K mg base c_InvalidNumber c_InvalidLikeness c_InvalidCommunity c_TooMany) (X : Ek K c_InvalidNumber c_TooMany) : Has P w K mg base 9 "falls" (top 54) ["likeness", "community"] (s_falls c_TooMany) := h_falls T (hs_check_both T X) (hs_check_power T X) (hs_diversity_of T X) (hs_sign_of T X) (r_falls c_TooMany)
theorem hs_least_diversity (T : Txt P w K mg base c_InvalidNumber c_InvalidLikeness c_InvalidCommunity c_TooMany) (X : Ek K c_InvalidNumber c_TooMany) : Has P w K mg base 9 "least_diversity" (top 55) ["likeness", "community"] (s_least_diversity) := h_least_diversity T (hs_check_both T X) (hs_diversity_of T X) (r_least_diversity)
theorem hs_greatest_order (T : Txt P w K mg base c_InvalidNumber c_InvalidLikeness c_InvalidCommunity c_TooMany) (X : Ek K c_InvalidNumber c_TooMany) : Has P w K mg base 9 "greatest_order" (top 56) ["likeness", "community"] (s_greatest_order) := h_greatest_order T (hs_check_both T X) (hs_diversity_of T X) (r_greatest_order)
theorem hs__law_same_n (T : Txt P w K mg base c_InvalidNumber c_InvalidLikeness c_InvalidCommunity c_TooMany) (X : Ek K c_InvalidNumber c_TooMany) : ∀ n : Nat, Has P w K mg base (n + 1) "_law_same" (top 62) ["given", "due"] (s__law_same n)
  | 0 => h__law_same T (p__law_same := sP 0) (has_no T.d__law_same) (r__law_same 0)
  | n + 1 => h__law_same T (p__law_same := sP (n + 1)) (hs__law_same_n T X n) (r__law_same (n + 1))
theorem hs__law_same (T : Txt P w K mg base c_InvalidNumber c_InvalidLikeness c_InvalidCommunity c_TooMany) (X : Ek K c_InvalidNumber c_TooMany) : Has P w K mg base 9 "_law_same" (top 62) ["given", "due"] (s__law_same 8) := hs__law_same_n T X 8
theorem hs__law_told (T : Txt P w K mg base c_InvalidNumber c_InvalidLikeness c_InvalidCommunity c_TooMany) (X : Ek K c_InvalidNumber c_TooMany) : Has P w K mg base 10 "_law_told" (top 78) ["f", "a", "named"] (s__law_told) := h__law_told T (hs_diversity T X) (hs_falls T X) (hs_order_sign T X) (hs_power_sum T X) (r__law_told X)
theorem hs__law_orders_right (T : Txt P w K mg base c_InvalidNumber c_InvalidLikeness c_InvalidCommunity c_TooMany) (X : Ek K c_InvalidNumber c_TooMany) : Has P w K mg base 11 "_law_orders_right" (top 79) ["likeness", "community", "named"] (s__law_orders_right) := h__law_orders_right T (hs__law_multiple T X) (hs__law_diversity T X) (hs__law_same T X) (hs__law_told T X) (hs__law_over T X) (hs__law_sign T X) (hs__law_apply T X) (hs_least_diversity T X) (hs_greatest_order T X) (hs__law_bounds_right T X) (r__law_orders_right)
theorem hs__law_signs_right (T : Txt P w K mg base c_InvalidNumber c_InvalidLikeness c_InvalidCommunity c_TooMany) (X : Ek K c_InvalidNumber c_TooMany) : Has P w K mg base 11 "_law_signs_right" (top 81) ["box", "likeness", "one", "other", "named"] (s__law_signs_right) := h__law_signs_right T (hs__law_take T X) (hs__law_multiple T X) (hs__law_sign T X) (hs__law_diversity T X) (hs__law_same T X) (hs__law_told T X) (r__law_signs_right)
theorem hs_law (T : Txt P w K mg base c_InvalidNumber c_InvalidLikeness c_InvalidCommunity c_TooMany) (X : Ek K c_InvalidNumber c_TooMany) : Has P w K mg base 12 "law" (top 83) ["script"] (s_law) := h_law T (hs__law_box T X) (hs__law_cell T X) (hs__law_take T X) (hs__law_planted T X) (hs__law_orders_right T X) (hs__law_signs_right T X) (hs__law_community T X) (r_law)
end
end K85

set_option Elab.async false
set_option linter.all false
set_option autoImplicit false
set_option maxRecDepth 100000
set_option maxHeartbeats 4000000
/-! # What the top has written -/
namespace K85
open PySem PySem.Spec L2 DL
open PyProof.Rows hiding St
section
variable {K : PySem.W.Frag} {h : Heap} {mg : Str → Option Value}
/-- a def as it lies there -/
structure FDef (K : PySem.W.Frag) (x : Str) (st : Stmt) : Prop where
  ex : ∃ f oc od kV dc pm an cd ct sl, PySem.W.nsIn K mainGlobals x = some (some (.ref f)) ∧ K.lookup f = some ⟨oc, od, .func (PySem.W.fnOf x x (defArgs st) (defBody st) (defScope st) .none kV dc pm an cd ct), sl⟩ ∧ PySem.W.codeIn K cd x = true ∧ PySem.W.keepIn K (.ref f) = true
theorem FDef.of {x : Str} {st : Stmt} {f : Addr} {oc : Value} {od : Option Addr} {kV dc pm : Value} {an : Option Addr} {cd ct : Value} {sl : Array (Option Value)} (a : PySem.W.nsIn K mainGlobals x = some (some (.ref f)))
    (l : K.lookup f = some ⟨oc, od, .func (PySem.W.fnOf x x (defArgs st) (defBody st) (defScope st) .none kV dc pm an cd ct), sl⟩) (c : PySem.W.codeIn K cd x = true) (k : PySem.W.keepIn K (.ref f) = true) : FDef K x st := ⟨f, oc, od, kV, dc, pm, an, cd, ct, sl, a, l, c, k⟩
theorem FDef.df {x : Str} {st : Stmt} {ps : List Str} (X : K.In h) (G : h.Ns mainGlobals mg) (F : FDef K x st)
    (hb : ∀ (kV doc pm : Value) (an : Option Addr) (cdv ct : Value) (us : List Value), us.length = ps.length → bindArgs (PySem.W.fnOf x x (defArgs st) (defBody st) (defScope st) .none kV doc pm an cdv ct) ⟨us, []⟩ = pure (ps.zip us)) : Def K mg x st ps := by
  obtain ⟨f, oc, od, kV, dc, pm, an, cd, ct, sl, a, l, c, k⟩ := F.ex
  exact ⟨f, _, PySem.W.mg_of X G a, k, fun_mk (st := st) l c k, (fun_mk (st := st) l c k).binds hb⟩
structure FTup (K : PySem.W.Frag) (x : Str) (i j : Int) : Prop where
  ex : ∃ a od n sl t0 t1, PySem.W.nsIn K mainGlobals x = some (some (.ref a)) ∧ K.lookup a = some ⟨.type "tuple", od, .seq #[.int i t0, .int j t1] n, sl⟩
theorem FTup.of {x : Str} {i j : Int} {b : Addr} {od : Option Addr} {n : Nat} {sl : Array (Option Value)} {t0 t1 : Tok} (a : PySem.W.nsIn K mainGlobals x = some (some (.ref b))) (l : K.lookup b = some ⟨.type "tuple", od, .seq #[.int i t0, .int j t1] n, sl⟩) : FTup K x i j := ⟨b, od, n, sl, t0, t1, a, l⟩
theorem FTup.gc {x : Str} {i j : Int} (X : K.In h) (G : h.Ns mainGlobals mg) (F : FTup K x i j) : Gc K mg x (.tup [.int i, .int j]) := by
  obtain ⟨a, od, n, sl, t0, t1, e, l⟩ := F.ex
  refine ⟨.ref a, .ref a, PySem.W.mg_of X G e, by constructor, fun F α => .tup (xs := [.int i, .int j]) (.inr ⟨_, _, _, l, rfl, rfl, (by show 2 ≤ sizeLine; decide), .cons ⟨_, rfl⟩ (.cons ⟨_, rfl⟩ .nil)⟩) (.cons (.int i) (.cons (.int j) .nil))⟩
structure FInt (K : PySem.W.Frag) (x : Str) (i : Int) : Prop where
  ex : ∃ t, PySem.W.nsIn K mainGlobals x = some (some (.int i t))
theorem FInt.of {x : Str} {i : Int} {t : Tok} (a : PySem.W.nsIn K mainGlobals x = some (some (.int i t))) : FInt K x i := ⟨t, a⟩
theorem FInt.gc {x : Str} {i : Int} (X : K.In h) (G : h.Ns mainGlobals mg) (F : FInt K x i) : Gc K mg x (.int i) := by
  obtain ⟨t, e⟩ := F.ex
  exact ⟨.int i t, .int i, PySem.W.mg_of X G e, ⟨_, rfl⟩, fun F α => .int i⟩
/-- an error's class -/
structure FExc (K : PySem.W.Frag) (x q f : Str) (sI : Stmt) (C : Addr) : Prop where
  g : PySem.W.nsIn K mainGlobals x = some (some (.ref C))
  cl : ∃ nm q N bs bm sn sub ab col dd k0 k1 k2 k3 k5, K.lookup C = some (excClassObj nm q C N bs bm true sn sub ab col dd k0 k1 k2 k3 k5 "ValueError.__new__") ∧ HandSPX.refsVE bm = true
  sa : PySem.W.findIn K (.ref C) "__setattr__" = some (some (.builtin "object.__setattr__"))
  ga : PySem.W.findIn K (.ref C) "__getattribute__" = some (some (.builtin "BaseException.__getattribute__"))
  gg : PySem.W.findIn K (.ref C) "__getattr__" = some none
  nf : PySem.W.findIn K (.ref C) f = some none
  ex : PySem.W.subIn K (.ref C) (.type "BaseException") = some true
  ty : PySem.W.typeIn K (.ref C) = some (.type "type")
  hd : PySem.W.hasDictIn K C = true
  kp : PySem.W.keepIn K (.ref C) = true
  ini : ∃ fI oc od kV dc pm an cd ct sl, PySem.W.findIn K (.ref C) "__init__" = some (some (.ref fI)) ∧ PySem.W.typeIn K (.ref fI) = some (.type "function") ∧
    K.lookup fI = some ⟨oc, od, .func (PySem.W.fnOf "__init__" q (defArgs sI) (defBody sI) (defScope sI) .none kV dc pm an cd ct), sl⟩ ∧ PySem.W.codeIn K cd q = true ∧ PySem.W.keepIn K (.ref fI) = true
theorem FExc.of {x q f : Str} {sI : Stmt} {C : Addr} {nm q' : Str} {N : Addr} {bs bm : List Value} {sn : List Str} {sub : List Value} {ab : Bool} {col : Option Bool} {dd : Option Addr} {k0 k1 k2 k3 k5 : Option Value} {fI : Addr} {oc : Value} {od : Option Addr} {kV dc pm : Value} {an : Option Addr} {cd ct : Value} {sl : Array (Option Value)}
    (g : PySem.W.nsIn K mainGlobals x = some (some (.ref C))) (cl : K.lookup C = some (excClassObj nm q' C N bs bm true sn sub ab col dd k0 k1 k2 k3 k5 "ValueError.__new__")) (rv : HandSPX.refsVE bm = true)
    (sa : PySem.W.findIn K (.ref C) "__setattr__" = some (some (.builtin "object.__setattr__"))) (ga : PySem.W.findIn K (.ref C) "__getattribute__" = some (some (.builtin "BaseException.__getattribute__"))) (gg : PySem.W.findIn K (.ref C) "__getattr__" = some none)
    (nf : PySem.W.findIn K (.ref C) f = some none) (ex : PySem.W.subIn K (.ref C) (.type "BaseException") = some true) (ty : PySem.W.typeIn K (.ref C) = some (.type "type")) (hd : PySem.W.hasDictIn K C = true) (kp : PySem.W.keepIn K (.ref C) = true)
    (ia : PySem.W.findIn K (.ref C) "__init__" = some (some (.ref fI))) (it : PySem.W.typeIn K (.ref fI) = some (.type "function")) (il : K.lookup fI = some ⟨oc, od, .func (PySem.W.fnOf "__init__" q (defArgs sI) (defBody sI) (defScope sI) .none kV dc pm an cd ct), sl⟩) (ic : PySem.W.codeIn K cd q = true) (ik : PySem.W.keepIn K (.ref fI) = true) : FExc K x q f sI C :=
  ⟨g, ⟨nm, q', N, bs, bm, sn, sub, ab, col, dd, k0, k1, k2, k3, k5, cl, rv⟩, sa, ga, gg, nf, ex, ty, hd, kp, fI, oc, od, kV, dc, pm, an, cd, ct, sl, ia, it, il, ic, ik⟩
theorem FExc.xc {P : Program} {w : World} {base : Heap} {x q f : Str} {sI : Stmt} {C : Addr} {p1 p2 p3 p4 : Pos} (X : K.In h) (G : h.Ns mainGlobals mg) (F : FExc K x q f sI C) (S : FnScope ["self", f] ["self", f] (defScope sI))
    (hB : defBody sI = [.Assign [.Attribute (.Name "self" p1) f p2] (.Name f p3) p4]) (v0 : (defScope sI).names.lookup ("self" : Str) = some NameKind.local) (v1 : (defScope sI).names.lookup f = some NameKind.local)
    (hd : (f == ("__debug__" : Str)) = false) (hcd : (f == ("__classdict__" : Str)) = false)
    (hb : ∀ (kV doc pm : Value) (an : Option Addr) (cdv ct : Value) (us : List Value), us.length = (["self", f] : List Str).length → bindArgs (PySem.W.fnOf "__init__" q (defArgs sI) (defBody sI) (defScope sI) .none kV doc pm an cdv ct) ⟨us, []⟩ = pure ((["self", f] : List Str).zip us)) :
    Xc P w K mg base x f C := by
  obtain ⟨fI, oc, od, kV, dc, pm, an, cd, ct, sl, a, t, l, c, k⟩ := F.ini
  have ox : OexC K C := ⟨F.cl, F.sa, F.ex, F.ty, F.kp⟩
  exact ⟨PySem.W.mg_of X G F.g, ox, F.nf, ⟨F.ga, F.gg, F.ex, F.hd⟩, fI, _, a, t, (fun_mk (st := sI) l c k).binds hb, init_ok (fun_mk (st := sI) l c k) S ox F.nf hB v0 v1 hd hcd⟩
/-- an error of A asked at a clause of C -/
theorem exm_of {A C : Addr} {b : Bool} (h1 : PySem.W.subIn K (.ref A) (.type "BaseException") = some true) (e1 : PySem.W.subIn K (.ref C) (.type "BaseException") = some true) (h2 : PySem.W.isClsIn K C = true) (h3 : PySem.W.typeIn K (.ref C) = some (.type "type")) (h4 : PySem.W.subIn K (.ref A) (.ref C) = some b) :
    PySem.W.exmOne K (.ref A) (.ref C) = some b := by
  have e1' : (PySem.W.subIn K (.ref C) (.type "BaseException") == some true) = true := by rw [e1] <;> rfl
  have e2 : ((PySem.W.clsIn K C).isSome && PySem.W.typeIn K (.ref C) == some (.type "type")) = true := by
    have h2' : (PySem.W.clsIn K C).isSome = true := h2
    rw [h2', h3] <;> rfl
  show (if (PySem.W.subIn K (.ref C) (.type "BaseException") == some true) = true then (if ((PySem.W.clsIn K C).isSome && PySem.W.typeIn K (.ref C) == some (.type "type")) = true then PySem.W.subIn K (.ref A) (.ref C) else none) else none) = some b
  rw [if_pos e1', if_pos e2]
  exact h4
end
end K85

set_option Elab.async false
set_option linter.all false
set_option autoImplicit false
set_option maxRecDepth 100000
set_option maxHeartbeats 4000000
/-! # The end (printed by chain.py) -/
namespace K85
open PySem PySem.Spec L2 DL
open PyProof.Rows hiding St
abbrev init (i : Nat) : Stmt := inClass (top i) 0
structure Facts (K : PySem.W.Frag) (c_InvalidNumber c_InvalidLikeness c_InvalidCommunity c_TooMany : Addr) : Prop where
  f_is_integer : FDef K "is_integer" (top 8)
  f_is_between : FDef K "is_between" (top 9)
  f_is_tuple_of : FDef K "is_tuple_of" (top 10)
  f_lowest : FDef K "lowest" (top 11)
  f_is_fraction : FDef K "is_fraction" (top 15)
  f_plus : FDef K "plus" (top 16)
  f_times : FDef K "times" (top 17)
  f_over : FDef K "over" (top 18)
  f_raised : FDef K "raised" (top 19)
  f_is_less : FDef K "is_less" (top 20)
  f_total : FDef K "total" (top 21)
  f_dot : FDef K "dot" (top 22)
  f_is_row_of : FDef K "is_row_of" (top 25)
  f_is_any_table : FDef K "is_any_table" (top 26)
  f_is_table : FDef K "is_table" (top 27)
  f_turned_of : FDef K "turned_of" (top 28)
  f_applied_to : FDef K "applied_to" (top 29)
  f_is_share : FDef K "is_share" (top 31)
  f_is_likeness : FDef K "is_likeness" (top 32)
  f_check_likeness : FDef K "check_likeness" (top 33)
  f_is_community_of : FDef K "is_community_of" (top 34)
  f_check_community : FDef K "check_community" (top 35)
  f_support_of : FDef K "support_of" (top 36)
  f_check_both : FDef K "check_both" (top 37)
  f_shares_of : FDef K "shares_of" (top 41)
  f_power_sum_of : FDef K "power_sum_of" (top 42)
  f_common_multiple : FDef K "common_multiple" (top 43)
  f_first_order : FDef K "first_order" (top 44)
  f_greatest_presence : FDef K "greatest_presence" (top 45)
  f_diversity_of : FDef K "diversity_of" (top 46)
  f_sign_of : FDef K "sign_of" (top 47)
  f_check_order : FDef K "check_order" (top 48)
  f_check_power : FDef K "check_power" (top 49)
  f_is_first : FDef K "is_first" (top 50)
  f_power_sum : FDef K "power_sum" (top 51)
  f_diversity : FDef K "diversity" (top 52)
  f_order_sign : FDef K "order_sign" (top 53)
  f_falls : FDef K "falls" (top 54)
  f_least_diversity : FDef K "least_diversity" (top 55)
  f_greatest_order : FDef K "greatest_order" (top 56)
  f__law_cell : FDef K "_law_cell" (top 58)
  f__law_box : FDef K "_law_box" (top 59)
  f__law_take : FDef K "_law_take" (top 60)
  f__law_pick : FDef K "_law_pick" (top 61)
  f__law_same : FDef K "_law_same" (top 62)
  f__law_lowest : FDef K "_law_lowest" (top 63)
  f__law_plus : FDef K "_law_plus" (top 64)
  f__law_times : FDef K "_law_times" (top 65)
  f__law_over : FDef K "_law_over" (top 66)
  f__law_below : FDef K "_law_below" (top 67)
  f__law_total : FDef K "_law_total" (top 68)
  f__law_dot : FDef K "_law_dot" (top 69)
  f__law_apply : FDef K "_law_apply" (top 70)
  f__law_gcd : FDef K "_law_gcd" (top 71)
  f__law_likeness : FDef K "_law_likeness" (top 72)
  f__law_community : FDef K "_law_community" (top 73)
  f__law_raised : FDef K "_law_raised" (top 74)
  f__law_multiple : FDef K "_law_multiple" (top 75)
  f__law_diversity : FDef K "_law_diversity" (top 76)
  f__law_sign : FDef K "_law_sign" (top 77)
  f__law_told : FDef K "_law_told" (top 78)
  f__law_orders_right : FDef K "_law_orders_right" (top 79)
  f__law_bounds_right : FDef K "_law_bounds_right" (top 80)
  f__law_signs_right : FDef K "_law_signs_right" (top 81)
  f__law_planted : FDef K "_law_planted" (top 82)
  f_law : FDef K "law" (top 83)
  b_abs : PySem.W.nsIn K mainGlobals "abs" = some none
  b_all : PySem.W.nsIn K mainGlobals "all" = some none
  b_bool : PySem.W.nsIn K mainGlobals "bool" = some none
  b_dict : PySem.W.nsIn K mainGlobals "dict" = some none
  b_enumerate : PySem.W.nsIn K mainGlobals "enumerate" = some none
  b_int : PySem.W.nsIn K mainGlobals "int" = some none
  b_isinstance : PySem.W.nsIn K mainGlobals "isinstance" = some none
  b_len : PySem.W.nsIn K mainGlobals "len" = some none
  b_list : PySem.W.nsIn K mainGlobals "list" = some none
  b_max : PySem.W.nsIn K mainGlobals "max" = some none
  b_min : PySem.W.nsIn K mainGlobals "min" = some none
  b_range : PySem.W.nsIn K mainGlobals "range" = some none
  b_str : PySem.W.nsIn K mainGlobals "str" = some none
  b_sum : PySem.W.nsIn K mainGlobals "sum" = some none
  b_tuple : PySem.W.nsIn K mainGlobals "tuple" = some none
  b_zip : PySem.W.nsIn K mainGlobals "zip" = some none
  m_gcd : PySem.W.nsIn K mainGlobals "gcd" = some (some (.builtin "math.gcd"))
  k_ZERO : FTup K "ZERO" 0 1
  k_ONE : FTup K "ONE" 1 1
  k_MOST : FInt K "MOST" 8
  k_MOST_ORDER : FInt K "MOST_ORDER" 12
  k_MOST_POWER : FInt K "MOST_POWER" 40
  e_InvalidNumber : FExc K "InvalidNumber" "InvalidNumber.__init__" "given" (init 3) c_InvalidNumber
  e_InvalidLikeness : FExc K "InvalidLikeness" "InvalidLikeness.__init__" "given" (init 4) c_InvalidLikeness
  e_InvalidCommunity : FExc K "InvalidCommunity" "InvalidCommunity.__init__" "given" (init 5) c_InvalidCommunity
  e_TooMany : FExc K "TooMany" "TooMany.__init__" "count" (init 6) c_TooMany
  iN : PySem.W.isClsIn K c_InvalidNumber = true
  iM : PySem.W.isClsIn K c_TooMany = true
  nn : PySem.W.subIn K (.ref c_InvalidNumber) (.ref c_InvalidNumber) = some true
  mn : PySem.W.subIn K (.ref c_TooMany) (.ref c_InvalidNumber) = some false
  mm : PySem.W.subIn K (.ref c_TooMany) (.ref c_TooMany) = some true
section
variable {P : Program} {w : World} {K : PySem.W.Frag} {mg : Str → Option Value} {base : Heap} {c_InvalidNumber c_InvalidLikeness c_InvalidCommunity c_TooMany : Addr} {h : Heap}
theorem Facts.ek (F : Facts K c_InvalidNumber c_InvalidLikeness c_InvalidCommunity c_TooMany) : Ek K c_InvalidNumber c_TooMany := ⟨exm_of F.e_InvalidNumber.ex F.e_InvalidNumber.ex F.iN F.e_InvalidNumber.ty F.nn, exm_of F.e_TooMany.ex F.e_InvalidNumber.ex F.iN F.e_InvalidNumber.ty F.mn, exm_of F.e_TooMany.ex F.e_TooMany.ex F.iM F.e_TooMany.ty F.mm⟩
theorem sc_InvalidNumber : FnScope ["self", "given"] ["self", "given"] (defScope (init 3)) := ⟨rfl, rfl, rfl, by decide +kernel, rfl, by decide +kernel, by decide +kernel⟩
theorem sc_InvalidLikeness : FnScope ["self", "given"] ["self", "given"] (defScope (init 4)) := ⟨rfl, rfl, rfl, by decide +kernel, rfl, by decide +kernel, by decide +kernel⟩
theorem sc_InvalidCommunity : FnScope ["self", "given"] ["self", "given"] (defScope (init 5)) := ⟨rfl, rfl, rfl, by decide +kernel, rfl, by decide +kernel, by decide +kernel⟩
theorem sc_TooMany : FnScope ["self", "count"] ["self", "count"] (defScope (init 6)) := ⟨rfl, rfl, rfl, by decide +kernel, rfl, by decide +kernel, by decide +kernel⟩
theorem Facts.txt (X : K.In h) (G : h.Ns mainGlobals mg) (F : Facts K c_InvalidNumber c_InvalidLikeness c_InvalidCommunity c_TooMany) : Txt P w K mg base c_InvalidNumber c_InvalidLikeness c_InvalidCommunity c_TooMany where
  d_is_integer := F.f_is_integer.df X G fun _ _ _ _ _ _ us hl => match us, hl with | [_], _ => rfl
  d_is_between := F.f_is_between.df X G fun _ _ _ _ _ _ us hl => match us, hl with | [_, _, _], _ => rfl
  d_is_tuple_of := F.f_is_tuple_of.df X G fun _ _ _ _ _ _ us hl => match us, hl with | [_, _], _ => rfl
  d_lowest := F.f_lowest.df X G fun _ _ _ _ _ _ us hl => match us, hl with | [_, _], _ => rfl
  d_is_fraction := F.f_is_fraction.df X G fun _ _ _ _ _ _ us hl => match us, hl with | [_], _ => rfl
  d_plus := F.f_plus.df X G fun _ _ _ _ _ _ us hl => match us, hl with | [_, _], _ => rfl
  d_times := F.f_times.df X G fun _ _ _ _ _ _ us hl => match us, hl with | [_, _], _ => rfl
  d_over := F.f_over.df X G fun _ _ _ _ _ _ us hl => match us, hl with | [_, _], _ => rfl
  d_raised := F.f_raised.df X G fun _ _ _ _ _ _ us hl => match us, hl with | [_, _], _ => rfl
  d_is_less := F.f_is_less.df X G fun _ _ _ _ _ _ us hl => match us, hl with | [_, _], _ => rfl
  d_total := F.f_total.df X G fun _ _ _ _ _ _ us hl => match us, hl with | [_], _ => rfl
  d_dot := F.f_dot.df X G fun _ _ _ _ _ _ us hl => match us, hl with | [_, _], _ => rfl
  d_is_row_of := F.f_is_row_of.df X G fun _ _ _ _ _ _ us hl => match us, hl with | [_, _], _ => rfl
  d_is_any_table := F.f_is_any_table.df X G fun _ _ _ _ _ _ us hl => match us, hl with | [_], _ => rfl
  d_is_table := F.f_is_table.df X G fun _ _ _ _ _ _ us hl => match us, hl with | [_], _ => rfl
  d_turned_of := F.f_turned_of.df X G fun _ _ _ _ _ _ us hl => match us, hl with | [_], _ => rfl
  d_applied_to := F.f_applied_to.df X G fun _ _ _ _ _ _ us hl => match us, hl with | [_, _], _ => rfl
  d_is_share := F.f_is_share.df X G fun _ _ _ _ _ _ us hl => match us, hl with | [_], _ => rfl
  d_is_likeness := F.f_is_likeness.df X G fun _ _ _ _ _ _ us hl => match us, hl with | [_], _ => rfl
  d_check_likeness := F.f_check_likeness.df X G fun _ _ _ _ _ _ us hl => match us, hl with | [_], _ => rfl
  d_is_community_of := F.f_is_community_of.df X G fun _ _ _ _ _ _ us hl => match us, hl with | [_, _], _ => rfl
  d_check_community := F.f_check_community.df X G fun _ _ _ _ _ _ us hl => match us, hl with | [_, _], _ => rfl
  d_support_of := F.f_support_of.df X G fun _ _ _ _ _ _ us hl => match us, hl with | [_], _ => rfl
  d_check_both := F.f_check_both.df X G fun _ _ _ _ _ _ us hl => match us, hl with | [_, _], _ => rfl
  d_shares_of := F.f_shares_of.df X G fun _ _ _ _ _ _ us hl => match us, hl with | [_, _], _ => rfl
  d_power_sum_of := F.f_power_sum_of.df X G fun _ _ _ _ _ _ us hl => match us, hl with | [_, _, _], _ => rfl
  d_common_multiple := F.f_common_multiple.df X G fun _ _ _ _ _ _ us hl => match us, hl with | [_], _ => rfl
  d_first_order := F.f_first_order.df X G fun _ _ _ _ _ _ us hl => match us, hl with | [_, _], _ => rfl
  d_greatest_presence := F.f_greatest_presence.df X G fun _ _ _ _ _ _ us hl => match us, hl with | [_, _], _ => rfl
  d_diversity_of := F.f_diversity_of.df X G fun _ _ _ _ _ _ us hl => match us, hl with | [_, _, _], _ => rfl
  d_sign_of := F.f_sign_of.df X G fun _ _ _ _ _ _ us hl => match us, hl with | [_, _], _ => rfl
  d_check_order := F.f_check_order.df X G fun _ _ _ _ _ _ us hl => match us, hl with | [_], _ => rfl
  d_check_power := F.f_check_power.df X G fun _ _ _ _ _ _ us hl => match us, hl with | [_], _ => rfl
  d_is_first := F.f_is_first.df X G fun _ _ _ _ _ _ us hl => match us, hl with | [_], _ => rfl
  d_power_sum := F.f_power_sum.df X G fun _ _ _ _ _ _ us hl => match us, hl with | [_, _, _], _ => rfl
  d_diversity := F.f_diversity.df X G fun _ _ _ _ _ _ us hl => match us, hl with | [_, _, _], _ => rfl
  d_order_sign := F.f_order_sign.df X G fun _ _ _ _ _ _ us hl => match us, hl with | [_, _, _, _], _ => rfl
  d_falls := F.f_falls.df X G fun _ _ _ _ _ _ us hl => match us, hl with | [_, _], _ => rfl
  d_least_diversity := F.f_least_diversity.df X G fun _ _ _ _ _ _ us hl => match us, hl with | [_, _], _ => rfl
  d_greatest_order := F.f_greatest_order.df X G fun _ _ _ _ _ _ us hl => match us, hl with | [_, _], _ => rfl
  d__law_cell := F.f__law_cell.df X G fun _ _ _ _ _ _ us hl => match us, hl with | [_, _], _ => rfl
  d__law_box := F.f__law_box.df X G fun _ _ _ _ _ _ us hl => match us, hl with | [_], _ => rfl
  d__law_take := F.f__law_take.df X G fun _ _ _ _ _ _ us hl => match us, hl with | [_, _], _ => rfl
  d__law_pick := F.f__law_pick.df X G fun _ _ _ _ _ _ us hl => match us, hl with | [_, _], _ => rfl
  d__law_same := F.f__law_same.df X G fun _ _ _ _ _ _ us hl => match us, hl with | [_, _], _ => rfl
  d__law_lowest := F.f__law_lowest.df X G fun _ _ _ _ _ _ us hl => match us, hl with | [_, _], _ => rfl
  d__law_plus := F.f__law_plus.df X G fun _ _ _ _ _ _ us hl => match us, hl with | [_, _], _ => rfl
  d__law_times := F.f__law_times.df X G fun _ _ _ _ _ _ us hl => match us, hl with | [_, _], _ => rfl
  d__law_over := F.f__law_over.df X G fun _ _ _ _ _ _ us hl => match us, hl with | [_, _], _ => rfl
  d__law_below := F.f__law_below.df X G fun _ _ _ _ _ _ us hl => match us, hl with | [_, _], _ => rfl
  d__law_total := F.f__law_total.df X G fun _ _ _ _ _ _ us hl => match us, hl with | [_], _ => rfl
  d__law_dot := F.f__law_dot.df X G fun _ _ _ _ _ _ us hl => match us, hl with | [_, _], _ => rfl
  d__law_apply := F.f__law_apply.df X G fun _ _ _ _ _ _ us hl => match us, hl with | [_, _], _ => rfl
  d__law_gcd := F.f__law_gcd.df X G fun _ _ _ _ _ _ us hl => match us, hl with | [_], _ => rfl
  d__law_likeness := F.f__law_likeness.df X G fun _ _ _ _ _ _ us hl => match us, hl with | [_, _], _ => rfl
  d__law_community := F.f__law_community.df X G fun _ _ _ _ _ _ us hl => match us, hl with | [_, _], _ => rfl
  d__law_raised := F.f__law_raised.df X G fun _ _ _ _ _ _ us hl => match us, hl with | [_, _], _ => rfl
  d__law_multiple := F.f__law_multiple.df X G fun _ _ _ _ _ _ us hl => match us, hl with | [_], _ => rfl
  d__law_diversity := F.f__law_diversity.df X G fun _ _ _ _ _ _ us hl => match us, hl with | [_, _, _], _ => rfl
  d__law_sign := F.f__law_sign.df X G fun _ _ _ _ _ _ us hl => match us, hl with | [_, _], _ => rfl
  d__law_told := F.f__law_told.df X G fun _ _ _ _ _ _ us hl => match us, hl with | [_, _, _], _ => rfl
  d__law_orders_right := F.f__law_orders_right.df X G fun _ _ _ _ _ _ us hl => match us, hl with | [_, _, _], _ => rfl
  d__law_bounds_right := F.f__law_bounds_right.df X G fun _ _ _ _ _ _ us hl => match us, hl with | [_, _, _], _ => rfl
  d__law_signs_right := F.f__law_signs_right.df X G fun _ _ _ _ _ _ us hl => match us, hl with | [_, _, _, _, _], _ => rfl
  d__law_planted := F.f__law_planted.df X G fun _ _ _ _ _ _ us hl => match us, hl with | [_, _], _ => rfl
  d_law := F.f_law.df X G fun _ _ _ _ _ _ us hl => match us, hl with | [_], _ => rfl
  b_abs := PySem.W.mg_none_of X G F.b_abs
  b_all := PySem.W.mg_none_of X G F.b_all
  b_bool := PySem.W.mg_none_of X G F.b_bool
  b_dict := PySem.W.mg_none_of X G F.b_dict
  b_enumerate := PySem.W.mg_none_of X G F.b_enumerate
  b_int := PySem.W.mg_none_of X G F.b_int
  b_isinstance := PySem.W.mg_none_of X G F.b_isinstance
  b_len := PySem.W.mg_none_of X G F.b_len
  b_list := PySem.W.mg_none_of X G F.b_list
  b_max := PySem.W.mg_none_of X G F.b_max
  b_min := PySem.W.mg_none_of X G F.b_min
  b_range := PySem.W.mg_none_of X G F.b_range
  b_str := PySem.W.mg_none_of X G F.b_str
  b_sum := PySem.W.mg_none_of X G F.b_sum
  b_tuple := PySem.W.mg_none_of X G F.b_tuple
  b_zip := PySem.W.mg_none_of X G F.b_zip
  m_gcd := PySem.W.mg_of X G F.m_gcd
  c_ZERO := F.k_ZERO.gc X G
  c_ONE := F.k_ONE.gc X G
  c_MOST := F.k_MOST.gc X G
  c_MOST_ORDER := F.k_MOST_ORDER.gc X G
  c_MOST_POWER := F.k_MOST_POWER.gc X G
  x_InvalidNumber := F.e_InvalidNumber.xc X G sc_InvalidNumber rfl (by decide +kernel) (by decide +kernel) (by decide) (by decide) fun _ _ _ _ _ _ us hl => match us, hl with | [_, _], _ => rfl
  x_InvalidLikeness := F.e_InvalidLikeness.xc X G sc_InvalidLikeness rfl (by decide +kernel) (by decide +kernel) (by decide) (by decide) fun _ _ _ _ _ _ us hl => match us, hl with | [_, _], _ => rfl
  x_InvalidCommunity := F.e_InvalidCommunity.xc X G sc_InvalidCommunity rfl (by decide +kernel) (by decide +kernel) (by decide) (by decide) fun _ _ _ _ _ _ us hl => match us, hl with | [_, _], _ => rfl
  x_TooMany := F.e_TooMany.xc X G sc_TooMany rfl (by decide +kernel) (by decide +kernel) (by decide) (by decide) fun _ _ _ _ _ _ us hl => match us, hl with | [_, _], _ => rfl
theorem fun_one {x q : Str} {st : Stmt} {f : Addr} {fd fd' : FuncData} (F : Fun K x q st f fd) (F' : Fun K x q st f fd') : fd = fd' := by
  obtain ⟨_, _, _, _, _, _, _, _, _, rfl, l, _⟩ := F.ex
  obtain ⟨_, _, _, _, _, _, _, _, _, rfl, l', _⟩ := F'.ex
  rw [l] at l'
  injection l' with e
  injection e with _ _ e _
  injection e
theorem all_mk {fa : Addr} (X : K.In h) (G : h.Ns mainGlobals mg) (hfa : mg "law" = some (.ref fa)) (F : Facts K c_InvalidNumber c_InvalidLikeness c_InvalidCommunity c_TooMany) :
    ∃ fd : FuncData, (∀ (s : Shared) (v : Value), BindsTo s fd ⟨[v], []⟩ [("script", v)]) ∧ ∀ base : Heap, K.In base → base.Ns mainGlobals mg → FnOk P w K mg base (L2.CX P w) 12 fa fd ["script"] (lift K s_law) := by
  obtain ⟨f, oc, od, kV, dc, pm, an, cd, ct, sl, a, l, c, k⟩ := F.f_law.ex
  have e := hfa.symm.trans (PySem.W.mg_of X G a)
  cases e
  refine ⟨PySem.W.fnOf "law" "law" (defArgs (top 83)) (defBody (top 83)) (defScope (top 83)) .none kV dc pm an cd ct, fun s v => .of_eq rfl, fun base _ _ => ?_⟩
  obtain ⟨f', fd', m', _, F', _, ok⟩ := (hs_law (P := P) (w := w) (base := base) (F.txt X G) F.ek).ex
  have e := hfa.symm.trans m'
  cases e
  rw [fun_one (fun_mk (st := top 83) l c k) F']
  exact ok
end
theorem rpl_ints {K : PySem.W.Frag} {F : Hp} {α : List Addr} : ∀ ns : List Int, RpL K F α (ns.map V.int) (ns.map D.int)
  | [] => .nil
  | i :: r => .cons (.int i) (rpl_ints r)
theorem walk {l : PySem.W.OpenLaw} {q : Program} {loose : List Str} {XP : (Str → Option Value) → Heap → Prop} {YP : World → Heap → Prop} {d : DefRec} {K : Params → PySem.W.Frag} (hn : l.most = some 63) (hdf : d.params.defaults = [])
    (hY : ∀ (w : World) (h : Heap), YP w h → (K w.params).In h)
    (F : ∀ (w : World) (mg : Str → Option Value) (fa : Addr) (h : Heap), (K w.params).In h → h.Ns mainGlobals mg → mg d.name = some (.ref fa) →
      ∃ fd : FuncData, (∀ (s : Shared) (u : Value), BindsTo s fd ⟨[u], []⟩ [("script", u)]) ∧ ∀ base : Heap, (K w.params).In base → base.Ns mainGlobals mg → FnOk l.prog w (K w.params) mg base (L2.CX l.prog w) 12 fa fd ["script"] (lift (K w.params) s_law)) :
    PySem.W.WalkO q loose XP YP l.row.toRowW d [] (fun f vs => PySem.call f vs) := by
  refine L2.walk_of (n := 63) (k := 12) (x := "script") (CX := fun w => L2.CX l.prog w) (sp := fun w => lift (K w.params) s_law) hn (by decide) hdf ⟨rfl, by decide, by decide⟩ hY F (fun w H a ns hl hO hS => ?_) ?_
  · refine ⟨[], H, [], [], [.frl (ns.map .int)], fun d _ => d = .bl true, fun _ _ => False, ?_, .cons (.frl hS (rpl_ints ns)) .nil, ⟨ns, rfl, hl, rfl, rfl⟩, ?_, ?_⟩
    · exact ⟨(fun p hp => by cases hp), Same.refl _, rfl, List.nodup_nil, (fun a ha => by cases ha), (fun k a m e => by cases e), (fun k a m e => by cases e)⟩
    · intro v H' F' α' d M' _ _ r e
      subst e
      cases r
      rfl
    · exact fun _ _ _ _ _ _ _ _ _ _ z => z.elim
  · rintro w H s e s' ⟨_, _, _, _, _, _, _, _, _, _, _, _, z⟩
    exact z.elim
end K85

open PySem PySem.W PyProof.Rows
set_option maxRecDepth 100000 in
set_option maxHeartbeats 0 in
theorem PySem.Challenge.cw_onesize_k85_whole_diversities_fall_holds : PySem.Challenge.rw_onesize_k85_whole_diversities_fall.Holds := by
  w_on; o_law; k_head; (case hw => w_witness2)
  k_fill
  refine K85.walk (l := PySem.Challenge.rw_onesize_k85_whole_diversities_fall) rfl rfl (fun w h Y => PySem.W.kIn_of Y) ?F
  case F =>
    intro w mg fa h KX G hmg
    refine' K85.all_mk KX G hmg ⟨.of ?d0a ?d0l ?d0c ?d0k,
      .of ?d1a ?d1l ?d1c ?d1k,
      .of ?d2a ?d2l ?d2c ?d2k,
      .of ?d3a ?d3l ?d3c ?d3k,
      .of ?d4a ?d4l ?d4c ?d4k,
      .of ?d5a ?d5l ?d5c ?d5k,
      .of ?d6a ?d6l ?d6c ?d6k,
      .of ?d7a ?d7l ?d7c ?d7k,
      .of ?d8a ?d8l ?d8c ?d8k,
      .of ?d9a ?d9l ?d9c ?d9k,
      .of ?d10a ?d10l ?d10c ?d10k,
      .of ?d11a ?d11l ?d11c ?d11k,
      .of ?d12a ?d12l ?d12c ?d12k,
      .of ?d13a ?d13l ?d13c ?d13k,
      .of ?d14a ?d14l ?d14c ?d14k,
      .of ?d15a ?d15l ?d15c ?d15k,
      .of ?d16a ?d16l ?d16c ?d16k,
      .of ?d17a ?d17l ?d17c ?d17k,
      .of ?d18a ?d18l ?d18c ?d18k,
      .of ?d19a ?d19l ?d19c ?d19k,
      .of ?d20a ?d20l ?d20c ?d20k,
      .of ?d21a ?d21l ?d21c ?d21k,
      .of ?d22a ?d22l ?d22c ?d22k,
      .of ?d23a ?d23l ?d23c ?d23k,
      .of ?d24a ?d24l ?d24c ?d24k,
      .of ?d25a ?d25l ?d25c ?d25k,
      .of ?d26a ?d26l ?d26c ?d26k,
      .of ?d27a ?d27l ?d27c ?d27k,
      .of ?d28a ?d28l ?d28c ?d28k,
      .of ?d29a ?d29l ?d29c ?d29k,
      .of ?d30a ?d30l ?d30c ?d30k,
      .of ?d31a ?d31l ?d31c ?d31k,
      .of ?d32a ?d32l ?d32c ?d32k,
      .of ?d33a ?d33l ?d33c ?d33k,
      .of ?d34a ?d34l ?d34c ?d34k,
      .of ?d35a ?d35l ?d35c ?d35k,
      .of ?d36a ?d36l ?d36c ?d36k,
      .of ?d37a ?d37l ?d37c ?d37k,
      .of ?d38a ?d38l ?d38c ?d38k,
      .of ?d39a ?d39l ?d39c ?d39k,
      .of ?d40a ?d40l ?d40c ?d40k,
      .of ?d41a ?d41l ?d41c ?d41k,
      .of ?d42a ?d42l ?d42c ?d42k,
      .of ?d43a ?d43l ?d43c ?d43k,
      .of ?d44a ?d44l ?d44c ?d44k,
      .of ?d45a ?d45l ?d45c ?d45k,
      .of ?d46a ?d46l ?d46c ?d46k,
      .of ?d47a ?d47l ?d47c ?d47k,
      .of ?d48a ?d48l ?d48c ?d48k,
      .of ?d49a ?d49l ?d49c ?d49k,
      .of ?d50a ?d50l ?d50c ?d50k,
      .of ?d51a ?d51l ?d51c ?d51k,
      .of ?d52a ?d52l ?d52c ?d52k,
      .of ?d53a ?d53l ?d53c ?d53k,
      .of ?d54a ?d54l ?d54c ?d54k,
      .of ?d55a ?d55l ?d55c ?d55k,
      .of ?d56a ?d56l ?d56c ?d56k,
      .of ?d57a ?d57l ?d57c ?d57k,
      .of ?d58a ?d58l ?d58c ?d58k,
      .of ?d59a ?d59l ?d59c ?d59k,
      .of ?d60a ?d60l ?d60c ?d60k,
      .of ?d61a ?d61l ?d61c ?d61k,
      .of ?d62a ?d62l ?d62c ?d62k,
      .of ?d63a ?d63l ?d63c ?d63k,
      .of ?d64a ?d64l ?d64c ?d64k,
      .of ?d65a ?d65l ?d65c ?d65k,
      ?b0,
      ?b1,
      ?b2,
      ?b3,
      ?b4,
      ?b5,
      ?b6,
      ?b7,
      ?b8,
      ?b9,
      ?b10,
      ?b11,
      ?b12,
      ?b13,
      ?b14,
      ?b15,
      ?mg,
      .of ?t0a ?t0l,
      .of ?t1a ?t1l,
      .of ?i0,
      .of ?i1,
      .of ?i2,
      .of ?e0g ?e0cl ?e0rv ?e0sa ?e0ga ?e0gg ?e0nf ?e0ex ?e0ty ?e0hd ?e0kp ?e0ia ?e0it ?e0il ?e0ic ?e0ik,
      .of ?e1g ?e1cl ?e1rv ?e1sa ?e1ga ?e1gg ?e1nf ?e1ex ?e1ty ?e1hd ?e1kp ?e1ia ?e1it ?e1il ?e1ic ?e1ik,
      .of ?e2g ?e2cl ?e2rv ?e2sa ?e2ga ?e2gg ?e2nf ?e2ex ?e2ty ?e2hd ?e2kp ?e2ia ?e2it ?e2il ?e2ic ?e2ik,
      .of ?e3g ?e3cl ?e3rv ?e3sa ?e3ga ?e3gg ?e3nf ?e3ex ?e3ty ?e3hd ?e3kp ?e3ia ?e3it ?e3il ?e3ic ?e3ik,
      ?ziN,
      ?ziM,
      ?znn,
      ?zmn,
      ?zmm⟩
    (case d0a => k_is)
    (case d0l => k_is)
    (case d0c => k_is)
    (case d0k => k_is)
    (case d1a => k_is)
    (case d1l => k_is)
    (case d1c => k_is)
    (case d1k => k_is)
    (case d2a => k_is)
    (case d2l => k_is)
    (case d2c => k_is)
    (case d2k => k_is)
    (case d3a => k_is)
    (case d3l => k_is)
    (case d3c => k_is)
    (case d3k => k_is)
    (case d4a => k_is)
    (case d4l => k_is)
    (case d4c => k_is)
    (case d4k => k_is)
    (case d5a => k_is)
    (case d5l => k_is)
    (case d5c => k_is)
    (case d5k => k_is)
    (case d6a => k_is)
    (case d6l => k_is)
    (case d6c => k_is)
    (case d6k => k_is)
    (case d7a => k_is)
    (case d7l => k_is)
    (case d7c => k_is)
    (case d7k => k_is)
    (case d8a => k_is)
    (case d8l => k_is)
    (case d8c => k_is)
    (case d8k => k_is)
    (case d9a => k_is)
    (case d9l => k_is)
    (case d9c => k_is)
    (case d9k => k_is)
    (case d10a => k_is)
    (case d10l => k_is)
    (case d10c => k_is)
    (case d10k => k_is)
    (case d11a => k_is)
    (case d11l => k_is)
    (case d11c => k_is)
    (case d11k => k_is)
    (case d12a => k_is)
    (case d12l => k_is)
    (case d12c => k_is)
    (case d12k => k_is)
    (case d13a => k_is)
    (case d13l => k_is)
    (case d13c => k_is)
    (case d13k => k_is)
    (case d14a => k_is)
    (case d14l => k_is)
    (case d14c => k_is)
    (case d14k => k_is)
    (case d15a => k_is)
    (case d15l => k_is)
    (case d15c => k_is)
    (case d15k => k_is)
    (case d16a => k_is)
    (case d16l => k_is)
    (case d16c => k_is)
    (case d16k => k_is)
    (case d17a => k_is)
    (case d17l => k_is)
    (case d17c => k_is)
    (case d17k => k_is)
    (case d18a => k_is)
    (case d18l => k_is)
    (case d18c => k_is)
    (case d18k => k_is)
    (case d19a => k_is)
    (case d19l => k_is)
    (case d19c => k_is)
    (case d19k => k_is)
    (case d20a => k_is)
    (case d20l => k_is)
    (case d20c => k_is)
    (case d20k => k_is)
    (case d21a => k_is)
    (case d21l => k_is)
    (case d21c => k_is)
    (case d21k => k_is)
    (case d22a => k_is)
    (case d22l => k_is)
    (case d22c => k_is)
    (case d22k => k_is)
    (case d23a => k_is)
    (case d23l => k_is)
    (case d23c => k_is)
    (case d23k => k_is)
    (case d24a => k_is)
    (case d24l => k_is)
    (case d24c => k_is)
    (case d24k => k_is)
    (case d25a => k_is)
    (case d25l => k_is)
    (case d25c => k_is)
    (case d25k => k_is)
    (case d26a => k_is)
    (case d26l => k_is)
    (case d26c => k_is)
    (case d26k => k_is)
    (case d27a => k_is)
    (case d27l => k_is)
    (case d27c => k_is)
    (case d27k => k_is)
    (case d28a => k_is)
    (case d28l => k_is)
    (case d28c => k_is)
    (case d28k => k_is)
    (case d29a => k_is)
    (case d29l => k_is)
    (case d29c => k_is)
    (case d29k => k_is)
    (case d30a => k_is)
    (case d30l => k_is)
    (case d30c => k_is)
    (case d30k => k_is)
    (case d31a => k_is)
    (case d31l => k_is)
    (case d31c => k_is)
    (case d31k => k_is)
    (case d32a => k_is)
    (case d32l => k_is)
    (case d32c => k_is)
    (case d32k => k_is)
    (case d33a => k_is)
    (case d33l => k_is)
    (case d33c => k_is)
    (case d33k => k_is)
    (case d34a => k_is)
    (case d34l => k_is)
    (case d34c => k_is)
    (case d34k => k_is)
    (case d35a => k_is)
    (case d35l => k_is)
    (case d35c => k_is)
    (case d35k => k_is)
    (case d36a => k_is)
    (case d36l => k_is)
    (case d36c => k_is)
    (case d36k => k_is)
    (case d37a => k_is)
    (case d37l => k_is)
    (case d37c => k_is)
    (case d37k => k_is)
    (case d38a => k_is)
    (case d38l => k_is)
    (case d38c => k_is)
    (case d38k => k_is)
    (case d39a => k_is)
    (case d39l => k_is)
    (case d39c => k_is)
    (case d39k => k_is)
    (case d40a => k_is)
    (case d40l => k_is)
    (case d40c => k_is)
    (case d40k => k_is)
    (case d41a => k_is)
    (case d41l => k_is)
    (case d41c => k_is)
    (case d41k => k_is)
    (case d42a => k_is)
    (case d42l => k_is)
    (case d42c => k_is)
    (case d42k => k_is)
    (case d43a => k_is)
    (case d43l => k_is)
    (case d43c => k_is)
    (case d43k => k_is)
    (case d44a => k_is)
    (case d44l => k_is)
    (case d44c => k_is)
    (case d44k => k_is)
    (case d45a => k_is)
    (case d45l => k_is)
    (case d45c => k_is)
    (case d45k => k_is)
    (case d46a => k_is)
    (case d46l => k_is)
    (case d46c => k_is)
    (case d46k => k_is)
    (case d47a => k_is)
    (case d47l => k_is)
    (case d47c => k_is)
    (case d47k => k_is)
    (case d48a => k_is)
    (case d48l => k_is)
    (case d48c => k_is)
    (case d48k => k_is)
    (case d49a => k_is)
    (case d49l => k_is)
    (case d49c => k_is)
    (case d49k => k_is)
    (case d50a => k_is)
    (case d50l => k_is)
    (case d50c => k_is)
    (case d50k => k_is)
    (case d51a => k_is)
    (case d51l => k_is)
    (case d51c => k_is)
    (case d51k => k_is)
    (case d52a => k_is)
    (case d52l => k_is)
    (case d52c => k_is)
    (case d52k => k_is)
    (case d53a => k_is)
    (case d53l => k_is)
    (case d53c => k_is)
    (case d53k => k_is)
    (case d54a => k_is)
    (case d54l => k_is)
    (case d54c => k_is)
    (case d54k => k_is)
    (case d55a => k_is)
    (case d55l => k_is)
    (case d55c => k_is)
    (case d55k => k_is)
    (case d56a => k_is)
    (case d56l => k_is)
    (case d56c => k_is)
    (case d56k => k_is)
    (case d57a => k_is)
    (case d57l => k_is)
    (case d57c => k_is)
    (case d57k => k_is)
    (case d58a => k_is)
    (case d58l => k_is)
    (case d58c => k_is)
    (case d58k => k_is)
    (case d59a => k_is)
    (case d59l => k_is)
    (case d59c => k_is)
    (case d59k => k_is)
    (case d60a => k_is)
    (case d60l => k_is)
    (case d60c => k_is)
    (case d60k => k_is)
    (case d61a => k_is)
    (case d61l => k_is)
    (case d61c => k_is)
    (case d61k => k_is)
    (case d62a => k_is)
    (case d62l => k_is)
    (case d62c => k_is)
    (case d62k => k_is)
    (case d63a => k_is)
    (case d63l => k_is)
    (case d63c => k_is)
    (case d63k => k_is)
    (case d64a => k_is)
    (case d64l => k_is)
    (case d64c => k_is)
    (case d64k => k_is)
    (case d65a => k_is)
    (case d65l => k_is)
    (case d65c => k_is)
    (case d65k => k_is)
    (case b0 => k_is)
    (case b1 => k_is)
    (case b2 => k_is)
    (case b3 => k_is)
    (case b4 => k_is)
    (case b5 => k_is)
    (case b6 => k_is)
    (case b7 => k_is)
    (case b8 => k_is)
    (case b9 => k_is)
    (case b10 => k_is)
    (case b11 => k_is)
    (case b12 => k_is)
    (case b13 => k_is)
    (case b14 => k_is)
    (case b15 => k_is)
    (case mg => k_is)
    (case t0a => k_is)
    (case t0l => k_is)
    (case t1a => k_is)
    (case t1l => k_is)
    (case i0 => k_is)
    (case i1 => k_is)
    (case i2 => k_is)
    (case e0g => k_is)
    (case e0cl => k_is)
    (case e0rv => decide +kernel)
    (case e0sa => k_is)
    (case e0ga => k_is)
    (case e0gg => k_is)
    (case e0nf => k_is)
    (case e0ex => k_is)
    (case e0ty => k_is)
    (case e0hd => k_is)
    (case e0kp => k_is)
    (case e0ia => k_is)
    (case e0it => k_is)
    (case e0il => k_is)
    (case e0ic => k_is)
    (case e0ik => k_is)
    (case e1g => k_is)
    (case e1cl => k_is)
    (case e1rv => decide +kernel)
    (case e1sa => k_is)
    (case e1ga => k_is)
    (case e1gg => k_is)
    (case e1nf => k_is)
    (case e1ex => k_is)
    (case e1ty => k_is)
    (case e1hd => k_is)
    (case e1kp => k_is)
    (case e1ia => k_is)
    (case e1it => k_is)
    (case e1il => k_is)
    (case e1ic => k_is)
    (case e1ik => k_is)
    (case e2g => k_is)
    (case e2cl => k_is)
    (case e2rv => decide +kernel)
    (case e2sa => k_is)
    (case e2ga => k_is)
    (case e2gg => k_is)
    (case e2nf => k_is)
    (case e2ex => k_is)
    (case e2ty => k_is)
    (case e2hd => k_is)
    (case e2kp => k_is)
    (case e2ia => k_is)
    (case e2it => k_is)
    (case e2il => k_is)
    (case e2ic => k_is)
    (case e2ik => k_is)
    (case e3g => k_is)
    (case e3cl => k_is)
    (case e3rv => decide +kernel)
    (case e3sa => k_is)
    (case e3ga => k_is)
    (case e3gg => k_is)
    (case e3nf => k_is)
    (case e3ex => k_is)
    (case e3ty => k_is)
    (case e3hd => k_is)
    (case e3kp => k_is)
    (case e3ia => k_is)
    (case e3it => k_is)
    (case e3il => k_is)
    (case e3ic => k_is)
    (case e3ik => k_is)
    (case ziN => k_is)
    (case ziM => k_is)
    (case znn => first | rfl | k_is)
    (case zmn => k_is)
    (case zmm => first | rfl | k_is)
