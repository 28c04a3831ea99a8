import PyProof.Rows.All
import Wide.All
import OpenK.AllK
import Wide.FinOn
import PySem.Challenge.RW_sa0150_01
set_option Elab.async false
set_option linter.all false
set_option genSizeOf false
set_option bootstrap.genMatcherCode false
set_option maxRecDepth 100000
section
open PySem PySem.W PyProof.Rows
set_option maxHeartbeats 8000000
namespace Mine.Internal
theorem calm : True := by
  run_tac do
    PySem.W.Fast.primed.modify (·.insert `PySem.Challenge.pw_sa0150_01 none)
    for i in [0:1000] do
      for k in ["tree", "heap", "sts", "o", "view", "thread", "env"] do
        PySem.W.Fast.primed.modify (·.insert ((`Mine.Internal.hd).str s!"{k}_{i}") none)
  trivial
open_top hd for PySem.Challenge.rw_sa0150_01
end Mine.Internal
end
section
open PySem PySem.W PyProof.Rows
namespace Mine.Internal
inductive SV where
  | none
  | bool (b : Bool)
  | int (i : Int)
  | str (s : Str)
  | tup (vs : List SV)
  | ref (p : Nat)
set_option genInjectivity false in
inductive SO where
  | lst (xs : List SV)
  | dI (es : List (Int × SV))
  | dS (es : List (Str × SV))
  | dT (es : List (List Int × SV))
  | flds (fs : List (Str × SV))
  | inst (C : Addr) (d : Nat)
  | frz (xs : List SV) (o : Obj)
noncomputable abbrev Hp := List SO
noncomputable abbrev Tm := Addr → Option Obj
noncomputable def Le (T T' : Tm) : Prop := ∀ a o, T a = some o → T' a = some o
noncomputable def IsTupO (o : Obj) : Prop := o.cls = .type "tuple" ∧ ∃ items n, o.data = .seq items n
noncomputable def LeT (T T' : Tm) : Prop := ∀ a o, T a = some o → IsTupO o → T' a = some o
theorem Le.refl (T : Tm) : Le T T := fun _ _ e => e
theorem Le.trans {T T' T'' : Tm} (x : Le T T') (y : Le T' T'') : Le T T'' := fun a o e => y a o (x a o e)
theorem LeT.refl (T : Tm) : LeT T T := fun _ _ e _ => e
theorem LeT.trans {T T' T'' : Tm} (x : LeT T T') (y : LeT T' T'') : LeT T T'' := fun a o e c => y a o (x a o e c) c
theorem Le.t {T T' : Tm} (x : Le T T') : LeT T T' := fun a o e _ => x a o e
theorem nS {α : Type} {a : α} {P : Prop} (h : none = some a) : P := nomatch h
theorem sN {α : Type} {x : Option α} {a : α} {P : Prop} (h : x = none) (e : x = some a) : P := nomatch h.symm.trans e
@[elab_as_elim] theorem sB {α : Type} {x : Option α} {a b : α} {P : α → Prop} (h : x = some a) (e : x = some b) (p : P a) : P b := Option.some.inj (h.symm.trans e) ▸ p
theorem leN {α β : Type} {f g : α → Option β} {a : α} (l : ∀ a o, f a = some o → g a = some o) (n : g a = none) : f a = none := by
  cases z : f a with
  | none => rfl
  | some x => exact sN n (l _ _ z)
theorem neN {α β : Type} {T : α → Option β} {a b : α} {o : β} (n : T a = none) (z : T b = some o) : b ≠ a := fun y => sN n (y ▸ z)
noncomputable def upd (T : Tm) (a : Addr) (o : Obj) : Tm := fun b => if b = a then some o else T b
theorem upd_self (T : Tm) (a : Addr) (o : Obj) : upd T a o a = some o := by simp [upd]
theorem upd_ne {T : Tm} {a b : Addr} {o : Obj} (h : b ≠ a) : upd T a o b = T b := by simp [upd, h]
theorem Le.upd {T : Tm} {a : Addr} {o : Obj} (h : T a = none) : Le T (upd T a o) := fun b x e => by
  by_cases q : b = a
  · subst q; exact sN h e
  · rw [upd_ne q]; exact e
theorem Le.upd' {T0 T : Tm} {a : Addr} {o : Obj} (x : Le T0 T) (h : T0 a = none) : Le T0 (Mine.Internal.upd T a o) := fun b y e => by
  by_cases q : b = a
  · subst q; exact sN h e
  · rw [upd_ne q]; exact x b y e
theorem LeT.upd {T : Tm} {a : Addr} {o : Obj} (h : ∀ x, T a = some x → ¬ IsTupO x) : LeT T (Mine.Internal.upd T a o) := fun b x e c => by
  by_cases q : b = a
  · subst q; exact absurd c (h x e)
  · rw [upd_ne q]; exact e
mutual
inductive Val (T : Tm) (ρ : List Addr) : SV → Value → Prop
  | none : Val T ρ .none .none
  | bool (b : Bool) : Val T ρ (.bool b) (.bool b)
  | int (i : Int) (t : Tok) : Val T ρ (.int i) (.int i t)
  | str (x : Str) (t : Tok) : Val T ρ (.str x) (.str x t)
  | ref {p : Nat} {a : Addr} : ρ[p]? = some a → Val T ρ (.ref p) (.ref a)
  | tup {a : Addr} {xs : List SV} {vs : List Value} {n : Nat} : T a = some { cls := .type "tuple", data := .seq vs.toArray n } → Vals T ρ xs vs → Val T ρ (.tup xs) (.ref a)
inductive Vals (T : Tm) (ρ : List Addr) : List SV → List Value → Prop
  | nil : Vals T ρ [] []
  | cons {x : SV} {v : Value} {xs : List SV} {vs : List Value} : Val T ρ x v → Vals T ρ xs vs → Vals T ρ (x :: xs) (v :: vs)
end
noncomputable def Pre (ρ ρ' : List Addr) : Prop := ∀ (p : Nat) (a : Addr), ρ[p]? = some a → ρ'[p]? = some a
theorem Pre.refl (ρ : List Addr) : Pre ρ ρ := fun _ _ e => e
theorem Pre.trans {ρ ρ' ρ'' : List Addr} (x : Pre ρ ρ') (y : Pre ρ' ρ'') : Pre ρ ρ'' := fun p a e => y p a (x p a e)
theorem Pre.snoc (ρ : List Addr) (a : Addr) : Pre ρ (ρ ++ [a]) := fun p b e => by
  rw [List.getElem?_append_left (List.getElem?_eq_some_iff.mp e).1]; exact e
mutual
theorem Val.mono {T T' : Tm} {ρ ρ' : List Addr} (hT : LeT T T') (hρ : Pre ρ ρ') : ∀ {x : SV} {v : Value}, Val T ρ x v → Val T' ρ' x v
  | _, _, .none => .none
  | _, _, .bool b => .bool b
  | _, _, .int i t => .int i t
  | _, _, .str x t => .str x t
  | _, _, .ref h => .ref (hρ _ _ h)
  | _, _, .tup h r => .tup (hT _ _ h ⟨rfl, _, _, rfl⟩) (Vals.mono hT hρ r)
theorem Vals.mono {T T' : Tm} {ρ ρ' : List Addr} (hT : LeT T T') (hρ : Pre ρ ρ') : ∀ {xs : List SV} {vs : List Value}, Vals T ρ xs vs → Vals T' ρ' xs vs
  | _, _, .nil => .nil
  | _, _, .cons h r => .cons (Val.mono hT hρ h) (Vals.mono hT hρ r)
end
section
variable {T : Tm} {ρ : List Addr} {xs ys : List SV} {vs ws : List Value} {x : SV} {v : Value}
theorem Vals.length (h : Vals T ρ xs vs) : xs.length = vs.length := by
  induction xs generalizing vs with
  | nil => cases h; rfl
  | cons x xs ih => cases h with | cons _ r => simp [ih r]
theorem Vals.append (h : Vals T ρ xs vs) (k : Vals T ρ ys ws) : Vals T ρ (xs ++ ys) (vs ++ ws) := by
  induction xs generalizing vs with
  | nil => cases h; exact k
  | cons x xs ih => cases h with | cons h r => exact .cons h (ih r)
theorem Vals.one (h : Val T ρ x v) : Vals T ρ [x] [v] := .cons h .nil
theorem Vals.get (h : Vals T ρ xs vs) {i : Nat} {x : SV} (e : xs[i]? = some x) : ∃ v, vs[i]? = some v ∧ Val T ρ x v := by
  induction xs generalizing vs i with
  | nil => simp at e
  | cons y xs ih =>
    cases h with
    | cons h r =>
      cases i with
      | zero => simp at e; subst e; exact ⟨_, rfl, h⟩
      | succ i => simp at e; exact ih r e
theorem Vals.none_iff (h : Vals T ρ xs vs) (i : Nat) : xs[i]? = none ↔ vs[i]? = none := by
  rw [List.getElem?_eq_none_iff, List.getElem?_eq_none_iff, h.length]
theorem Vals.reverse (h : Vals T ρ xs vs) : Vals T ρ xs.reverse vs.reverse := by
  induction xs generalizing vs with
  | nil => cases h; exact .nil
  | cons x xs ih => cases h with | cons h r => simp; exact (ih r).append (.one h)
theorem Vals.take (h : Vals T ρ xs vs) (n : Nat) : Vals T ρ (xs.take n) (vs.take n) := by
  induction xs generalizing vs n with
  | nil => cases h; simp; exact .nil
  | cons x xs ih => cases h with | cons h r => cases n with | zero => simp; exact .nil | succ n => simp; exact .cons h (ih r n)
theorem Vals.dropLast (h : Vals T ρ xs vs) : Vals T ρ xs.dropLast vs.dropLast := by
  rw [List.dropLast_eq_take, List.dropLast_eq_take, h.length]; exact h.take _
theorem Vals.set (h : Vals T ρ xs vs) (k : Val T ρ x v) (i : Nat) : Vals T ρ (xs.set i x) (vs.set i v) := by
  induction xs generalizing vs i with
  | nil => cases h; simp; exact .nil
  | cons y xs ih => cases h with | cons h r => cases i with | zero => simp; exact .cons k r | succ i => simp; exact .cons h (ih r i)
end
section
variable (prog : Program) (w : World)
inductive KV (T : Tm) (ρ : List Addr) {K : Type} : List (K × SV) → List (K × Value) → Prop
  | nil : KV T ρ [] []
  | cons {k : K} {x : SV} {v : Value} {xs : List (K × SV)} {vs : List (K × Value)} : Val T ρ x v → KV T ρ xs vs → KV T ρ ((k, x) :: xs) ((k, v) :: vs)
theorem KV.mono {T T' : Tm} {ρ ρ' : List Addr} {K : Type} (hT : LeT T T') (hρ : Pre ρ ρ') {xs : List (K × SV)} {vs : List (K × Value)} (h : KV T ρ xs vs) : KV T' ρ' xs vs := by
  induction h with
  | nil => exact .nil
  | cons h _ ih => exact .cons (h.mono hT hρ) ih
noncomputable def TupKey (T : Tm) (ks : List Int) (a : Addr) : Prop := ∃ o items n, T a = some o ∧ o.cls = .type "tuple" ∧ o.data = .seq items n ∧ ItemsAre (intKind prog w) ks items.toList
theorem TupKey.mono {T T' : Tm} {ks : List Int} {a : Addr} (h : TupKey prog w T ks a) (hT : LeT T T') : TupKey prog w T' ks a := by
  obtain ⟨o, i, n, h1, h2, h3, h4⟩ := h; exact ⟨o, i, n, hT _ _ h1 ⟨h2, _, _, h3⟩, h2, h3, h4⟩
inductive KT (T : Tm) (ρ : List Addr) : List (List Int × SV) → List (List Int × Addr × Value) → Prop
  | nil : KT T ρ [] []
  | cons {k : List Int} {x : SV} {a : Addr} {v : Value} {xs : List (List Int × SV)} {vs : List (List Int × Addr × Value)} : TupKey prog w T k a → Val T ρ x v → KT T ρ xs vs → KT T ρ ((k, x) :: xs) ((k, a, v) :: vs)
theorem KT.mono {T T' : Tm} {ρ ρ' : List Addr} (hT : LeT T T') (hρ : Pre ρ ρ') {xs : List (List Int × SV)} {vs : List (List Int × Addr × Value)} (h : KT prog w T ρ xs vs) : KT prog w T' ρ' xs vs := by
  induction h with
  | nil => exact .nil
  | cons h k _ ih => exact .cons (h.mono prog w hT) (k.mono hT hρ) ih
noncomputable def FldRep (T : Tm) (ρ : List Addr) (fs : List (Str × SV)) (m : Str → Option Value) : Prop :=
  ∀ x, match fs.lookup x with
    | some v => ∃ u, m x = some u ∧ Val T ρ v u
    | none => m x = none
theorem FldRep.mono {T T' : Tm} {ρ ρ' : List Addr} (hT : LeT T T') (hρ : Pre ρ ρ') {fs : List (Str × SV)} {m : Str → Option Value} (h : FldRep T ρ fs m) : FldRep T' ρ' fs m := by
  intro x
  have q := h x
  revert q
  cases fs.lookup x with
  | some v => exact fun ⟨u, a, b⟩ => ⟨u, a, b.mono hT hρ⟩
  | none => exact fun q => q
noncomputable def CellRep (T : Tm) (ρ : List Addr) : SO → Obj → Prop
  | .lst xs, o => ∃ vs n, o = { cls := .type "list", data := .seq vs n } ∧ Vals T ρ xs vs.toList
  | .dI es, o => o.ExactDict ∧ ∃ ents ep kvs, o.data = .dict ents ep ∧ KeysOf (intKind prog w) ents ∧ Pairs (intKind prog w) ents.toList kvs ∧ (kvs.map (·.1)).Nodup ∧ KV T ρ es kvs
  | .dS es, o => o.ExactDict ∧ ∃ ents ep kvs, o.data = .dict ents ep ∧ KeysOf (strKind prog w) ents ∧ Pairs (strKind prog w) ents.toList kvs ∧ (kvs.map (·.1)).Nodup ∧ KV T ρ es kvs
  | .dT es, o => o.ExactDict ∧ ∃ ents ep xs, o.data = .dict ents ep ∧ ents.toList = xs.map (entryOfKey (tupleKind (intKind prog w))) ∧ (xs.map (·.1)).Nodup ∧ KT prog w T ρ es xs
  | .flds fs, o => ∃ es ep, o.data = .dict es ep ∧ StrKeys es ∧ es.size = fs.length ∧ FldRep T ρ fs (nsFind es)
  | .inst C d, o => ∃ dx, ρ[d]? = some dx ∧ o = instObj C dx
  | .frz xs o', o => o = o' ∧ o.cls = .type "list" ∧ ∃ vs n, o.data = .seq vs n ∧ Vals T ρ xs vs.toList
theorem CellRep.mono {T T' : Tm} {ρ ρ' : List Addr} (hT : LeT T T') (hρ : Pre ρ ρ') {so : SO} {o : Obj} (h : CellRep prog w T ρ so o) : CellRep prog w T' ρ' so o := by
  cases so with
  | lst xs => obtain ⟨vs, n, d, h⟩ := h; exact ⟨vs, n, d, h.mono hT hρ⟩
  | dI es => obtain ⟨c, e, n, k, d, a, b, f, h⟩ := h; exact ⟨c, e, n, k, d, a, b, f, h.mono hT hρ⟩
  | dS es => obtain ⟨c, e, n, k, d, a, b, f, h⟩ := h; exact ⟨c, e, n, k, d, a, b, f, h.mono hT hρ⟩
  | dT es => obtain ⟨c, e, n, k, d, a, b, h⟩ := h; exact ⟨c, e, n, k, d, a, b, h.mono prog w hT hρ⟩
  | flds fs => obtain ⟨e, n, d, k, z, h⟩ := h; exact ⟨e, n, d, k, z, h.mono hT hρ⟩
  | inst C d => obtain ⟨dx, a, b⟩ := h; exact ⟨dx, hρ _ _ a, b⟩
  | frz xs o' => obtain ⟨e, cl, vs, n, d, h⟩ := h; exact ⟨e, cl, vs, n, d, h.mono hT hρ⟩
end
set_option genInjectivity false in
structure Cx where
  prog : Program
  w : World
  h₀ : Heap
  K : Frag
  mg : Str → Option Value
  mb : Str → Option Value
  p : Program
  loose : List Str
  kin : K.In h₀
  top : TopRead p loose mg mb h₀
  mods : ∃ o, h₀.get? cStatics = some o
structure Rp (c : Cx) (T : Tm) (ρ : List Addr) (H : Hp) (h : Heap) : Prop where
  top : ∀ a o, c.h₀.get? a = some o → T a = some o
  base : ∀ a o, T a = some o → h.get? a = some o
  len : ρ.length = H.length
  nodup : ρ.Nodup
  low : sysModules ∉ ρ
  obj : ∀ (p : Nat) (so : SO), H[p]? = some so → ∃ a o, ρ[p]? = some a ∧ T a = none ∧ h.get? a = some o ∧ CellRep c.prog c.w T ρ so o
namespace Rp
variable {c : Cx} {T : Tm} {ρ : List Addr} {H : Hp} {h h' : Heap}
theorem top' (R : Rp c T ρ H h) (a : Addr) (o : Obj) (e : c.h₀.get? a = some o) : h.get? a = some o := R.base _ _ (R.top _ _ e)
theorem kin (R : Rp c T ρ H h) : c.K.In h := c.kin.keeps R.top'
theorem read (R : Rp c T ρ H h) : TopRead c.p c.loose c.mg c.mb h := c.top.keeps R.top'
theorem nolimit (R : Rp c T ρ H h) : h.NoLimit := c.top.nolimit.keeps R.top'
theorem atp (R : Rp c T ρ H h) {p : Nat} {a : Addr} {so : SO} (e : ρ[p]? = some a) (q : H[p]? = some so) : T a = none ∧ ∃ o, h.get? a = some o ∧ CellRep c.prog c.w T ρ so o := by
  obtain ⟨a', o, e', t, g, k⟩ := R.obj p so q
  rw [e] at e'; cases e'; exact ⟨t, o, g, k⟩
theorem lstE (R : Rp c T ρ H h) {p : Nat} {a : Addr} {xs : List SV} {P : Prop} (e : ρ[p]? = some a) (q : H[p]? = some (.lst xs)) (k : ∀ vs n, h.get? a = some { cls := .type "list", data := .seq vs n } → Vals T ρ xs vs.toList → P) : P := by
  obtain ⟨_, o, g, vs, n, rfl, Vs⟩ := R.atp e q
  exact k vs n g Vs
theorem so (R : Rp c T ρ H h) {p : Nat} {a : Addr} (e : ρ[p]? = some a) : ∃ so, H[p]? = some so := by
  have := (List.getElem?_eq_some_iff.mp e).1
  rw [R.len] at this
  exact ⟨_, List.getElem?_eq_getElem this⟩
theorem fresh (R : Rp c T ρ H h) : T h.objs.size = none := by
  cases e : T h.objs.size with
  | none => rfl
  | some o => exact absurd (Heap.lt_size (R.base _ _ e)) (Nat.lt_irrefl _)
theorem lt (R : Rp c T ρ H h) {a : Addr} (m : a ∈ ρ) : a < h.objs.size := by
  obtain ⟨p, e⟩ := List.mem_iff_getElem?.mp m
  obtain ⟨so, q⟩ := R.so e
  obtain ⟨_, o, g, _⟩ := R.atp e q
  exact Heap.lt_size g
theorem notT (R : Rp c T ρ H h) {a : Addr} (m : a ∈ ρ) : T a = none := by
  obtain ⟨p, e⟩ := List.mem_iff_getElem?.mp m
  obtain ⟨so, q⟩ := R.so e
  exact (R.atp e q).1
theorem notMods (R : Rp c T ρ H h) {p : Nat} {a : Addr} (e : ρ[p]? = some a) : (a == sysModules) = false := by
  cases z : a == sysModules with
  | false => rfl
  | true => exact absurd (beq_iff_eq.mp z ▸ List.mem_iff_getElem?.mpr ⟨p, e⟩) R.low
theorem lowSize (R : Rp c T ρ H h) : h.objs.size ≠ sysModules := by
  obtain ⟨o, q⟩ := c.mods
  have l : cStatics < h.objs.size := Heap.lt_size (R.base _ _ (R.top _ _ q))
  intro e
  rw [e] at l
  exact absurd l (by decide)
theorem grow (R : Rp c T ρ H h) (k : ∀ b o, h.get? b = some o → (T b = some o ∨ b ∈ ρ) → h'.get? b = some o) : Rp c T ρ H h' :=
  ⟨R.top, fun a o e => k a o (R.base a o e) (.inl e), R.len, R.nodup, R.low, fun p so q => by
    obtain ⟨a, o, e, t, g, z⟩ := R.obj p so q
    exact ⟨a, o, e, t, k a o g (.inr (List.mem_iff_getElem?.mpr ⟨p, e⟩)), z⟩⟩
theorem grow' (R : Rp c T ρ H h) (k : ∀ b o, h.get? b = some o → h'.get? b = some o) : Rp c T ρ H h' := R.grow fun b o e _ => k b o e
theorem push (R : Rp c T ρ H h) (o : Obj) : Rp c T ρ H (h.push o) := R.grow' fun _ _ e => Heap.get?_push_of_some o e
theorem addT (R : Rp c T ρ H h) {a : Addr} {o : Obj} (t : T a = none) (m : a ∉ ρ) (g : h.get? a = some o) : Rp c (upd T a o) ρ H h :=
  ⟨fun b x e => Le.upd t _ _ (R.top b x e), fun b x e => by
    by_cases q : b = a
    · subst q; rw [upd_self] at e; cases e; exact g
    · rw [upd_ne q] at e; exact R.base b x e, R.len, R.nodup, R.low, fun p so q => by
    obtain ⟨b, x, e, t', g', z⟩ := R.obj p so q
    have : b ≠ a := fun y => m (y ▸ List.mem_iff_getElem?.mpr ⟨p, e⟩)
    exact ⟨b, x, e, by rw [upd_ne this]; exact t', g', z.mono _ _ (Le.upd t).t (Pre.refl _)⟩⟩
theorem notρ (R : Rp c T ρ H h) : h.objs.size ∉ ρ := fun m => Nat.lt_irrefl _ (R.lt m)
theorem pushT (R : Rp c T ρ H h) (o : Obj) (hf : o.isFreed = false) : Rp c (upd T h.objs.size o) ρ H (h.push o) :=
  (R.push o).addT R.fresh R.notρ (Heap.get?_push_size _ hf)
theorem addCell (R : Rp c T ρ H h) {a : Addr} {o : Obj} {so : SO} (t : T a = none) (m : a ∉ ρ) (lo : a ≠ sysModules) (g : h.get? a = some o) (z : CellRep c.prog c.w T (ρ ++ [a]) so o) : Rp c T (ρ ++ [a]) (H ++ [so]) h :=
  ⟨R.top, R.base, by simp [R.len], by
    rw [List.nodup_append]; exact ⟨R.nodup, by simp, fun x hx y hy => by simp at hy; subst hy; exact fun e => m (e ▸ hx)⟩, (by
    intro hm; rcases List.mem_append.mp hm with hm | hm
    · exact R.low hm
    · exact lo (List.mem_singleton.mp hm).symm), fun p so' q => by
    by_cases hp : p < H.length
    · rw [List.getElem?_append_left hp] at q
      obtain ⟨b, x, e, t', g', z'⟩ := R.obj p so' q
      exact ⟨b, x, Pre.snoc _ _ _ _ e, t', g', z'.mono _ _ (LeT.refl _) (Pre.snoc _ _)⟩
    · have hp' : p = H.length := by
        have := (List.getElem?_eq_some_iff.mp q).1; simp at this; lia
      subst hp'
      simp at q; subst q
      exact ⟨a, o, by rw [← R.len]; simp, t, g, z⟩⟩
theorem pushCell (R : Rp c T ρ H h) {o : Obj} {so : SO} (z : CellRep c.prog c.w T (ρ ++ [h.objs.size]) so o) (hf : o.isFreed = false) : Rp c T (ρ ++ [h.objs.size]) (H ++ [so]) (h.push o) :=
  (R.push o).addCell R.fresh R.notρ R.lowSize (Heap.get?_push_size _ hf) z
theorem setCell (R : Rp c T ρ H h) {p : Nat} {a : Addr} {o : Obj} {so : SO} (e : ρ[p]? = some a) (k : ∀ b x, b ≠ a → h.get? b = some x → h'.get? b = some x) (g : h'.get? a = some o) (z : CellRep c.prog c.w T ρ so o) : Rp c T ρ (H.set p so) h' := by
  have t := R.notT (List.mem_iff_getElem?.mpr ⟨p, e⟩)
  refine ⟨R.top, fun b x q => k b x (neN t q) (R.base b x q), by simp [R.len], R.nodup, R.low, fun i so' q => ?_⟩
  by_cases hi : p = i
  · subst hi
    have hp : p < H.length := by rw [← R.len]; exact (List.getElem?_eq_some_iff.mp e).1
    first | exact sN (List.getElem?_set_self hp) q | exact sN q (List.getElem?_set_self hp) | (rw [List.getElem?_set_self hp] at q; cases q)
    exact ⟨a, o, e, t, g, z⟩
  · rw [List.getElem?_set_ne hi] at q
    obtain ⟨b, x, e', t', g', z'⟩ := R.obj i so' q
    refine ⟨b, x, e', t', k b x (fun y => ?_) g', z'⟩
    subst y
    have h1 := (List.getElem?_eq_some_iff.mp e).1
    exact hi ((List.getElem?_inj h1 R.nodup).mp (e.trans e'.symm))
theorem setSame (R : Rp c T ρ H h) {p : Nat} {a : Addr} {o : Obj} {so : SO} (e : ρ[p]? = some a) (k : Heap.SameBut a h h') (g : h'.get? a = some o) (z : CellRep c.prog c.w T ρ so o) : Rp c T ρ (H.set p so) h' :=
  R.setCell e (fun b x n q => (k.2 b n).trans q) g z
theorem setT (R : Rp c T ρ H h) {a : Addr} {o x : Obj} (t : T a = some x) (nt : ¬ IsTupO x) (n0 : c.h₀.get? a = none) (k : ∀ b x, b ≠ a → h.get? b = some x → h'.get? b = some x) (g : h'.get? a = some o) : Rp c (upd T a o) ρ H h' := by
  have lt : LeT T (upd T a o) := LeT.upd fun y e => sB t e (nt)
  refine ⟨fun b y e => ?_, fun b y e => ?_, R.len, R.nodup, R.low, fun p so q => ?_⟩
  · have : b ≠ a := neN n0 e
    rw [upd_ne this]; exact R.top b y e
  · by_cases q : b = a
    · subst q; rw [upd_self] at e; cases e; exact g
    · rw [upd_ne q] at e; exact k b y q (R.base b y e)
  · obtain ⟨b, y, e, t', g', z⟩ := R.obj p so q
    have : b ≠ a := fun w => by rw [w, t] at t'; cases t'
    exact ⟨b, y, e, by rw [upd_ne this]; exact t', k b y this g', z.mono _ _ lt (Pre.refl _)⟩
end Rp
noncomputable def Same (s s' : Shared) : Prop := s' = { s with heap := s'.heap, toks := s'.toks }
theorem Same.refl (s : Shared) : Same s s := rfl
theorem Same.trans {s s' s'' : Shared} (x : Same s s') (y : Same s' s'') : Same s s'' := by
  unfold Same at *; rw [y, x]
theorem Same.mk (s : Shared) (h : Heap) (t : Nat) : Same s { s with heap := h, toks := t } := rfl
theorem Same.heap (s : Shared) (h : Heap) : Same s { s with heap := h } := rfl
theorem Same.toks (s : Shared) (t : Nat) : Same s { s with toks := t } := rfl
inductive PV (c : Cx) (T : Tm) (ρ : List Addr) (s : Shared) (v : SV) (H' : Hp) (val : Value) (s' : Shared) : Prop
  | mk (T' : Tm) (ρ' : List Addr) (le : Le T T') (pre : Pre ρ ρ') (R : Rp c T' ρ' H' s'.heap) (V : Val T' ρ' v val) (q : Same s s')
inductive PVs (c : Cx) (T : Tm) (ρ : List Addr) (s : Shared) (vs : List SV) (H' : Hp) (vals : List Value) (s' : Shared) : Prop
  | mk (T' : Tm) (ρ' : List Addr) (le : Le T T') (pre : Pre ρ ρ') (R : Rp c T' ρ' H' s'.heap) (V : Vals T' ρ' vs vals) (q : Same s s')
inductive PB (c : Cx) (T : Tm) (ρ : List Addr) (s : Shared) (b : Bool) (H' : Hp) (b' : Bool) (s' : Shared) : Prop
  | mk (T' : Tm) (ρ' : List Addr) (le : Le T T') (pre : Pre ρ ρ') (R : Rp c T' ρ' H' s'.heap) (V : b' = b) (q : Same s s')
inductive PU (c : Cx) (T : Tm) (ρ : List Addr) (s : Shared) (H' : Hp) (s' : Shared) : Prop
  | mk (T' : Tm) (ρ' : List Addr) (le : Le T T') (pre : Pre ρ ρ') (R : Rp c T' ρ' H' s'.heap) (q : Same s s')
theorem PV.el {c : Cx} {T : Tm} {ρ : List Addr} {s : Shared} {v : SV} {H' : Hp} {val : Value} {s' : Shared} {P : Prop} (h : PV c T ρ s v H' val s') (k : ∀ T' ρ', Le T T' → Pre ρ ρ' → Rp c T' ρ' H' s'.heap → Val T' ρ' v val → Same s s' → P) : P := let ⟨a, b, x, y, z, u, w⟩ := h; k a b x y z u w
theorem PVs.el {c : Cx} {T : Tm} {ρ : List Addr} {s : Shared} {v : List SV} {H' : Hp} {val : List Value} {s' : Shared} {P : Prop} (h : PVs c T ρ s v H' val s') (k : ∀ T' ρ', Le T T' → Pre ρ ρ' → Rp c T' ρ' H' s'.heap → Vals T' ρ' v val → Same s s' → P) : P := let ⟨a, b, x, y, z, u, w⟩ := h; k a b x y z u w
inductive OI {α β : Type} (o : Option α) (f : α → Option β) (r : β) : Prop
  | mk (a : α) (e1 : o = some a) (e : f a = some r)
inductive BI {α β : Type} (o : Option (α × Hp)) (f : α × Hp → Option β) (r : β) : Prop
  | mk (a : α) (H : Hp) (e1 : o = some (a, H)) (e : f (a, H) = some r)
inductive TI {α γ β : Type} (o : Option (α × γ × Hp)) (f : α × γ × Hp → Option β) (r : β) : Prop
  | mk (a : α) (l : γ) (H : Hp) (e1 : o = some (a, l, H)) (e : f (a, l, H) = some r)
section
variable {α β γ : Type} {r : β}
theorem oIn {o : Option α} {f : α → Option β} (h : o.bind f = some r) : OI o f r := by
  cases o with
  | none => exact nS h
  | some a => exact ⟨a, rfl, h⟩
theorem bIn {o : Option (α × Hp)} {f : α × Hp → Option β} (h : o.bind f = some r) : BI o f r := by
  cases o with
  | none => exact nS h
  | some a => exact ⟨a.1, a.2, rfl, h⟩
theorem tIn {o : Option (α × γ × Hp)} {f : α × γ × Hp → Option β} (h : o.bind f = some r) : TI o f r := by
  cases o with
  | none => exact nS h
  | some a => exact ⟨a.1, a.2.1, a.2.2, rfl, h⟩
theorem oE {o : Option α} {f : α → Option β} {P : Prop} (h : o.bind f = some r) (k : ∀ a, o = some a → f a = some r → P) : P := let ⟨a, x, y⟩ := oIn h; k a x y
theorem bE {o : Option (α × Hp)} {f : α × Hp → Option β} {P : Prop} (h : o.bind f = some r) (k : ∀ a H, o = some (a, H) → f (a, H) = some r → P) : P := let ⟨a, H, x, y⟩ := bIn h; k a H x y
theorem tE {o : Option (α × γ × Hp)} {f : α × γ × Hp → Option β} {P : Prop} (h : o.bind f = some r) (k : ∀ a l H, o = some (a, l, H) → f (a, l, H) = some r → P) : P := let ⟨a, l, H, x, y⟩ := tIn h; k a l H x y
theorem sI2 {a b : α} {H H' : Hp} (e : some (a, H) = some (b, H')) : b = a ∧ H' = H := by cases e; exact ⟨rfl, rfl⟩
@[elab_as_elim] theorem sE2 {a b : α} {H H' : Hp} {P : α → Hp → Prop} (e : some (a, H) = some (b, H')) (p : P a H) : P b H' := by cases e; exact p
@[elab_as_elim] theorem sE3 {a b : α} {l l' : γ} {H H' : Hp} {P : α → γ → Hp → Prop} (e : some (a, l, H) = some (b, l', H')) (p : P a l H) : P b l' H' := by cases e; exact p
end
theorem iteI {β : Type} {c : Prop} [Decidable c] {x y : Option β} {r : β} (h : (if c then x else y) = some r) : (c ∧ x = some r) ∨ (¬ c ∧ y = some r) := by
  by_cases hc : c
  · exact .inl ⟨hc, by rw [if_pos hc] at h; exact h⟩
  · exact .inr ⟨hc, by rw [if_neg hc] at h; exact h⟩
theorem optI {β : Type} {o : Option SV} {f : SV → β} {r : Option β} (h : (match o with | some v => some (some (f v)) | none => some none) = some r) : (∃ v, o = some v ∧ some (f v) = r) ∨ (o = none ∧ none = r) := by
  cases o with
  | none => exact .inr ⟨rfl, Option.some.inj h⟩
  | some v => exact .inl ⟨v, rfl, Option.some.inj h⟩
theorem obI {β : Type} {o : Option SV} {g : SV → Option β} {r : β} (h : (match o with | some v => g v | none => none) = some r) : ∃ v, o = some v ∧ g v = some r := by
  cases o with
  | none => exact nS h
  | some v => exact ⟨v, rfl, h⟩
theorem ifI {β : Type} {c : Prop} [Decidable c] {x : Option β} {r : β} (h : (if c then x else none) = some r) : c ∧ x = some r := by
  by_cases hc : c
  · exact ⟨hc, by rw [if_pos hc] at h; exact h⟩
  · rw [if_neg hc] at h; exact nS h
inductive LI {β : Type} (o : Option SO) (g : List SV → Option β) (r : β) : Prop
  | mk (xs : List SV) (hp : o = some (.lst xs)) (hl : xs.length < 1000000) (e : g xs = some r)
theorem lI {β : Type} {o : Option SO} {g : List SV → Option β} {r : β} (h : (match o with | some (.lst xs) => if xs.length < 1000000 then g xs else none | _ => none) = some r) : LI o g r := by
  rcases o with _ | so
  · exact nS h
  · cases so with
    | lst xs =>
      exact ⟨xs, rfl, (ifI h).1, (ifI h).2⟩
    | _ => exact nS h
theorem refI {β : Type} {o : SV} {g : Nat → Option β} {r : β} (h : (match o with | .ref p => g p | _ => none) = some r) : ∃ p, o = .ref p ∧ g p = some r := by
  cases o with
  | ref p => exact ⟨p, rfl, h⟩
  | _ => exact nS h
theorem dII {β : Type} {o : Option SO} {g : List (Int × SV) → Option β} {r : β} (h : (match o with | some (.dI es) => g es | _ => none) = some r) : ∃ es, o = some (.dI es) ∧ g es = some r := by
  rcases o with _ | so
  · exact nS h
  · cases so with
    | dI es => exact ⟨es, rfl, h⟩
    | _ => exact nS h
theorem dSI {β : Type} {o : Option SO} {g : List (Str × SV) → Option β} {r : β} (h : (match o with | some (.dS es) => g es | _ => none) = some r) : ∃ es, o = some (.dS es) ∧ g es = some r := by
  rcases o with _ | so
  · exact nS h
  · cases so with
    | dS es => exact ⟨es, rfl, h⟩
    | _ => exact nS h
theorem dTI {β : Type} {o : Option SO} {k : Option (List Int)} {g : List (List Int × SV) → List Int → Option β} {r : β} (h : (match o, k with | some (.dT es), some ks => g es ks | _, _ => none) = some r) : ∃ es ks, o = some (.dT es) ∧ k = some ks ∧ g es ks = some r := by
  rcases o with _ | so
  · exact nS h
  · cases so with
    | dT es =>
      cases k with
      | none => exact nS h
      | some ks => exact ⟨es, ks, rfl, rfl, h⟩
    | _ => exact nS h
theorem lstI {β : Type} {o : Option SO} {g : List SV → Option β} {r : β} (h : (match o with | some (.lst xs) => g xs | _ => none) = some r) : ∃ xs, o = some (.lst xs) ∧ g xs = some r := by
  rcases o with _ | so
  · exact nS h
  · cases so with
    | lst xs => exact ⟨xs, rfl, h⟩
    | _ => exact nS h
theorem iteN {prog : Program} {w : World} {A : Around} {α : Type} {c : Prop} [Decidable c] {a b : Sem α} {Q : α → Shared → Prop} {E : Value → Shared → Prop} {s : Shared} (hc : ¬ c) (h : wpAny (model prog w) A b Q E s) : wpAny (model prog w) A (if c then a else b) Q E s := by rw [if_neg hc]; exact h
theorem iteP {prog : Program} {w : World} {A : Around} {α : Type} {c : Prop} [Decidable c] {a b : Sem α} {Q : α → Shared → Prop} {E : Value → Shared → Prop} {s : Shared} (hc : c) (h : wpAny (model prog w) A a Q E s) : wpAny (model prog w) A (if c then a else b) Q E s := by rw [if_pos hc]; exact h
section
variable {β : Type} {o : Option SO} {r : β} {P : Prop}
theorem ifE {c : Prop} [Decidable c] {x : Option β} (h : (if c then x else none) = some r) (k : c → x = some r → P) : P := k (ifI h).1 (ifI h).2
theorem lE {g : List SV → Option β} (h : (match o with | some (.lst xs) => if xs.length < 1000000 then g xs else none | _ => none) = some r) (k : ∀ xs, o = some (.lst xs) → xs.length < 1000000 → g xs = some r → P) : P := let ⟨a, x, y, z⟩ := lI h; k a x y z
theorem lstE {g : List SV → Option β} (h : (match o with | some (.lst xs) => g xs | _ => none) = some r) (k : ∀ xs, o = some (.lst xs) → g xs = some r → P) : P := let ⟨a, x, y⟩ := lstI h; k a x y
theorem dIE {g : List (Int × SV) → Option β} (h : (match o with | some (.dI es) => g es | _ => none) = some r) (k : ∀ es, o = some (.dI es) → g es = some r → P) : P := let ⟨a, x, y⟩ := dII h; k a x y
theorem dSE {g : List (Str × SV) → Option β} (h : (match o with | some (.dS es) => g es | _ => none) = some r) (k : ∀ es, o = some (.dS es) → g es = some r → P) : P := let ⟨a, x, y⟩ := dSI h; k a x y
end
theorem hid {A : Prop} (h : ∀ G : Prop, (A → G) → G) : A := h A id
noncomputable def NoE : Value → Shared → Prop := fun _ _ => False
section
variable {c : Cx} {T T1 : Tm} {ρ ρ1 : List Addr} {s s1 s' : Shared} {v : SV} {H' : Hp} {val : Value} {b b' : Bool} {vs : List SV} {vals : List Value}
theorem PV.from (h : PV c T1 ρ1 s1 v H' val s') (t : Le T T1) (r : Pre ρ ρ1) (q : Same s s1) : PV c T ρ s v H' val s' := by
  obtain ⟨T', ρ', a, b, d, e, f⟩ := h; exact ⟨T', ρ', t.trans a, r.trans b, d, e, q.trans f⟩
theorem PB.from (h : PB c T1 ρ1 s1 b H' b' s') (t : Le T T1) (r : Pre ρ ρ1) (q : Same s s1) : PB c T ρ s b H' b' s' := by
  obtain ⟨T', ρ', a, b, d, e, f⟩ := h; exact ⟨T', ρ', t.trans a, r.trans b, d, e, q.trans f⟩
theorem PV.now (R : Rp c T ρ H' s'.heap) (V : Val T ρ v val) (q : Same s s') : PV c T ρ s v H' val s' := ⟨T, ρ, Le.refl _, Pre.refl _, R, V, q⟩
end
end Mine.Internal
end
section
open PySem PySem.W PyProof.Rows
open PyProof.Rows.LCg (NsObj ns_obj)
namespace Mine.Internal
structure EnvOK (sc : Scope) (env : Env) : Prop where
  scope : env.scope = sc
  kind : sc.kind = .function
  glob : env.globals = mainGlobals
  bi : env.builtins = builtinsNs
noncomputable def NameIs (env : Env) (T : Tm) (x : Str) (val : Value) : Prop :=
  (env.kindOf x = some .local ∧ ∃ o m, T env.locals = some o ∧ NsObj o m ∧ m x = some val) ∨
  ((env.kindOf x = some .cell ∨ env.kindOf x = some .free) ∧ ∃ a o, env.cells.lookup x = some a ∧ T a = some o ∧ o.data = .cell (some val))
theorem NameIs.mono {env : Env} {T T' : Tm} {x : Str} {val : Value} (h : NameIs env T x val) (t : Le T T') : NameIs env T' x val := by
  rcases h with ⟨k, o, m, e, r⟩ | ⟨k, a, o, l, e, r⟩
  · exact .inl ⟨k, o, m, t _ _ e, r⟩
  · exact .inr ⟨k, a, o, l, t _ _ e, r⟩
noncomputable abbrev Loc := List (Option SV)
noncomputable def LocOK (env : Env) (T : Tm) (ρ : List Addr) (vars : List Str) (loc : Loc) : Prop :=
  ∀ (i : Nat) (x : Str) (v : SV), vars[i]? = some x → loc[i]? = some (some v) → ∃ val, NameIs env T x val ∧ Val T ρ v val
theorem LocOK.mono {env : Env} {T T' : Tm} {ρ ρ' : List Addr} {vars : List Str} {loc : Loc} (h : LocOK env T ρ vars loc) (t : Le T T') (r : Pre ρ ρ') : LocOK env T' ρ' vars loc :=
  fun i x v a b => by obtain ⟨val, n, q⟩ := h i x v a b; exact ⟨val, n.mono t, q.mono t.t r⟩
noncomputable def Room (k : Nat) (A : Around) : Prop := A.depth + 4 * k ≤ 990 ∧ A.units + 16 * k ≤ 9000
theorem Room.line {k : Nat} {A : Around} (h : Room k A) : A.units + 80 < cLine := by
  have h2 := h.2
  have e : cLine = 9900 := rfl
  lia
noncomputable abbrev D (α : Type) := Loc → Hp → Option (α × Hp)
noncomputable def Ev (c : Cx) (k : Nat) (sc : Scope) (vars : List Str) (t : Env → Sem Value) (d : D SV) : Prop :=
  ∀ ⦃A : Around⦄ ⦃env : Env⦄ ⦃T : Tm⦄ ⦃ρ : List Addr⦄ ⦃H : Hp⦄ ⦃loc : Loc⦄ ⦃s : Shared⦄ ⦃v : SV⦄ ⦃H' : Hp⦄, A.handled = none → Room k A → EnvOK sc env → Rp c T ρ H s.heap → LocOK env T ρ vars loc →
    d loc H = some (v, H') → wpAny (model c.prog c.w) A (t env) (PV c T ρ s v H') NoE s
noncomputable abbrev ES (c : Cx) (k : Nat) (sc : Scope) (vars : List Str) (e : Expr) (d : D SV) : Prop := Ev c k sc vars (fun env => eval e env) d
noncomputable def ET (c : Cx) (k : Nat) (sc : Scope) (vars : List Str) (e : Expr) (d : D Bool) : Prop :=
  ∀ ⦃A : Around⦄ ⦃env : Env⦄ ⦃T : Tm⦄ ⦃ρ : List Addr⦄ ⦃H : Hp⦄ ⦃loc : Loc⦄ ⦃s : Shared⦄ ⦃v : Bool⦄ ⦃H' : Hp⦄, A.handled = none → Room k A → EnvOK sc env → Rp c T ρ H s.heap → LocOK env T ρ vars loc →
    d loc H = some (v, H') → wpAny (model c.prog c.w) A (isTrue e env (eval e env)) (PB c T ρ s v H') NoE s
noncomputable def EL (c : Cx) (k : Nat) (sc : Scope) (vars : List Str) (es : List Expr) (d : D (List SV)) : Prop :=
  ∀ ⦃A : Around⦄ ⦃env : Env⦄ ⦃T : Tm⦄ ⦃ρ : List Addr⦄ ⦃H : Hp⦄ ⦃loc : Loc⦄ ⦃s : Shared⦄ ⦃vs : List SV⦄ ⦃H' : Hp⦄ (pos : Pos), A.handled = none → Room k A → EnvOK sc env → Rp c T ρ H s.heap → LocOK env T ρ vars loc →
    d loc H = some (vs, H') → wpAny (model c.prog c.w) A (spliced (backTo pos (starEach es env))) (PVs c T ρ s vs H') NoE s
section
variable {c : Cx} {k : Nat} {sc : Scope} {vars : List Str}
noncomputable def dVal (v : SV) : D SV := fun _ H => some (v, H)
noncomputable def dLoc (i : Nat) : D SV := fun loc H => match loc[i]? with | some (some v) => some (v, H) | _ => none
noncomputable def dBin (f : SV → SV → Option SV) (dl dr : D SV) : D SV := fun loc H => (dl loc H).bind fun (a, H) => (dr loc H).bind fun (b, H) => (f a b).bind fun v => some (v, H)
noncomputable def dUn (f : SV → Option SV) (d : D SV) : D SV := fun loc H => (d loc H).bind fun (a, H) => (f a).bind fun v => some (v, H)
noncomputable def dCmp (f : Hp → SV → SV → Option Bool) (dl dr : D SV) : D Bool := fun loc H => (dl loc H).bind fun (a, H) => (dr loc H).bind fun (b, H) => (f H a b).bind fun v => some (v, H)
noncomputable def dB (d : D Bool) : D SV := fun loc H => (d loc H).bind fun (b, H) => some (.bool b, H)
noncomputable def dIf {α : Type} (t : D Bool) (a b : D α) : D α := fun loc H => (t loc H).bind fun (x, H) => if x then a loc H else b loc H
noncomputable def truth (H : Hp) : SV → Option Bool
  | .bool b => some b
  | .ref p => match H[p]? with
    | some (.lst xs) => if xs.length < 1000000 then some (!xs.isEmpty) else none
    | _ => none
  | _ => none
noncomputable def dTruth (d : D SV) : D Bool := fun loc H => (d loc H).bind fun (a, H) => (truth H a).bind fun b => some (b, H)
noncomputable def dNot (d : D Bool) : D Bool := fun loc H => (d loc H).bind fun (a, H) => some (!a, H)
noncomputable def dAnd (a b : D Bool) : D Bool := fun loc H => (a loc H).bind fun (x, H) => if x then b loc H else some (false, H)
noncomputable def dOr (a b : D Bool) : D Bool := fun loc H => (a loc H).bind fun (x, H) => if x then some (true, H) else b loc H
noncomputable def dNil : D (List SV) := fun _ H => some ([], H)
noncomputable def dCons (d : D SV) (ds : D (List SV)) : D (List SV) := fun loc H => (d loc H).bind fun (a, H) => (ds loc H).bind fun (as, H) => some (a :: as, H)
noncomputable def dTup (ds : D (List SV)) : D SV := fun loc H => (ds loc H).bind fun (as, H) => if as.length < 1000000 then some (.tup as, H) else none
noncomputable def dLst (ds : D (List SV)) : D SV := fun loc H => (ds loc H).bind fun (as, H) => if as.length < 1000000 then some (.ref H.length, H ++ [.lst as]) else none
theorem ES.int {i : Int} {n : Nat} {pos : Pos} : ES c k sc vars (.Constant (.int i) n pos) (dVal (.int i)) := fun A env T ρ H loc s v H' hh hr he R L e => by
  refine sE2 e ?_
  exact wpAny_Constant_int (PV.now R (.int _ _) rfl)
theorem ES.str {x : Str} {n : Nat} {pos : Pos} : ES c k sc vars (.Constant (.str x) n pos) (dVal (.str x)) := fun A env T ρ H loc s v H' hh hr he R L e => by
  refine sE2 e ?_
  exact wpAny_Constant_str (PV.now R (.str _ _) rfl)
theorem ES.none {n : Nat} {pos : Pos} : ES c k sc vars (.Constant .none n pos) (dVal .none) := fun A env T ρ H loc s v H' hh hr he R L e => by
  refine sE2 e ?_
  exact wpAny_Constant_none (PV.now R .none rfl)
theorem ES.bool {b : Bool} {n : Nat} {pos : Pos} : ES c k sc vars (.Constant (.bool b) n pos) (dVal (.bool b)) := fun A env T ρ H loc s v H' hh hr he R L e => by
  refine sE2 e ?_
  exact wpAny_Constant_bool (PV.now R (.bool _) rfl)
theorem name_is {env : Env} {T : Tm} {ρ : List Addr} {H : Hp} {s : Shared} {A : Around} {x : Str} {pos : Pos} {val : Value} {Q : Value → Shared → Prop} (hk : env.scope.kind = .function) (R : Rp c T ρ H s.heap) (n : NameIs env T x val) (h : Q val s)
    (hd : (x == ("__debug__" : Str)) = false) (hc : (x == ("__classdict__" : Str)) = false) : wpAny (model c.prog c.w) A (eval (.Name x pos) env) Q NoE s := by
  rcases n with ⟨kd, o, m, e, q, hv⟩ | ⟨kd | kd, a, o, l, e, q⟩
  · exact wpAny_Name (wpAny_loadName_local hk kd (q.ns (R.base _ _ e)) hv h) hd
  · exact wpAny_Name (wpAny_loadName_cell hk kd l ⟨o, R.base _ _ e, q⟩ h) hd
  · exact wpAny_Name (wpAny_loadName_free hk kd l ⟨o, R.base _ _ e, q⟩ h hc) hd
theorem dLoc_inv {i : Nat} {loc : Loc} {H H' : Hp} {v : SV} (e : dLoc i loc H = some (v, H')) : loc[i]? = some (some v) ∧ H' = H := by
  unfold dLoc at e
  generalize loc[i]? = x at e ⊢
  rcases x with _ | _ | w
  · exact nS e
  · exact nS e
  · exact sE2 (P := fun v H' => some (some w) = some (some v) ∧ H' = H) e ⟨rfl, rfl⟩
theorem ES.loc {x : Str} {pos : Pos} (i : Nat) (hv : vars[i]? = some x) (hd : (x == ("__debug__" : Str) || x == ("__classdict__" : Str)) = false) : ES c k sc vars (.Name x pos) (dLoc i) := fun A env T ρ H loc s v H' hh hr he R L e => by
  obtain ⟨q, rfl⟩ := dLoc_inv e
  obtain ⟨val, n, z⟩ := L i x v hv q
  exact name_is (he.scope ▸ he.kind) R n (PV.now R z rfl) (Bool.or_eq_false_iff.mp hd).1 (Bool.or_eq_false_iff.mp hd).2
noncomputable def GV (c : Cx) (v : SV) (val : Value) : Prop := ∀ T ρ, (∀ a o, c.h₀.get? a = some o → T a = some o) → Val T ρ v val
theorem glob_is {env : Env} {T : Tm} {ρ : List Addr} {H : Hp} {s : Shared} {A : Around} {x : Str} {pos : Pos} {val : Value} {Q : Value → Shared → Prop} (he : EnvOK sc env) (R : Rp c T ρ H s.heap) (hx : sc.names.lookup x = some .globalImplicit)
    (hv : nsIn c.K mainGlobals x = some (some val)) (h : Q val s) (hd : (x == ("__debug__" : Str)) = false) : wpAny (model c.prog c.w) A (eval (.Name x pos) env) Q NoE s :=
  Calls.Name_function_global (he.scope ▸ he.kind) (by unfold Env.kindOf; rw [he.scope]; exact hx) (Calls.loadGlobal_global (env := env) (he.glob ▸ R.read.g) (mg_of c.kin c.top.g hv) h) hd
theorem ES.glob {x : Str} {pos : Pos} (v : SV) {val : Value} (hx : sc.names.lookup x = some .globalImplicit) (hv : nsIn c.K mainGlobals x = some (some val)) (g : GV c v val) (hd : (x == ("__debug__" : Str)) = false) :
    ES c k sc vars (.Name x pos) (dVal v) := fun A env T ρ H loc s v H' hh hr he R L e => by
  refine sE2 e ?_
  exact glob_is he R hx hv (PV.now R (g _ _ R.top) rfl) hd
theorem GV.int (i : Int) (t : Tok) : GV c (.int i) (.int i t) := fun _ _ _ => .int _ _
noncomputable def OpOK (c : Cx) (k : Nat) (op : Operator) (f : SV → SV → Option SV) : Prop :=
  ∀ ⦃A : Around⦄ ⦃T : Tm⦄ ⦃ρ : List Addr⦄ ⦃H : Hp⦄ ⦃s : Shared⦄ ⦃a b v : SV⦄ ⦃va vb : Value⦄, A.handled = none → Room k A → Rp c T ρ H s.heap → Val T ρ a va → Val T ρ b vb → f a b = some v →
    wpAny (model c.prog c.w) A (binaryOp op va vb) (PV c T ρ s v H) NoE s
theorem ES.bin {l r : Expr} {op : Operator} {pos : Pos} {f : SV → SV → Option SV} {dl dr : D SV} (hl : ES c k sc vars l dl) (hr : ES c k sc vars r dr) (ho : OpOK c k op f) : ES c k sc vars (.BinOp l op r pos) (dBin f dl dr) := fun A env T ρ H loc s v H' hh hm he R L e => by
  refine bE e fun a H1 e1 ez => ?_; clear e
  refine bE ez fun b H2 e2 ez => ?_
  refine oE ez fun v' e3 ez => ?_
  refine sE2 ez ?_
  refine wpAny_BinOp (wpAny_mono (hl hh hm he R L e1) (fun va s1 p1 => ?_) fun _ _ x => x)
  refine p1.el fun T1 ρ1 t1 r1 R1 V1 q1 => ?_
  refine wpAny_mono (hr hh hm he R1 (L.mono t1 r1) e2) (fun vb s2 p2 => ?_) fun _ _ x => x
  refine p2.el fun T2 ρ2 t2 r2 R2 V2 q2 => ?_
  exact wpAny_mono (ho hh hm R2 (V1.mono t2.t r2) V2 e3) (fun _ _ z => z.from (t1.trans t2) (r1.trans r2) (q1.trans q2)) fun _ _ x => x
noncomputable def opAdd : SV → SV → Option SV
  | .int a, .int b => some (.int (a + b))
  | .tup a, .tup b => if a.length + b.length < 1000000 then some (.tup (a ++ b)) else none
  | _, _ => none
noncomputable def opSub : SV → SV → Option SV
  | .int a, .int b => some (.int (a - b))
  | _, _ => none
noncomputable def opMul : SV → SV → Option SV
  | .int a, .int b => if a.natAbs < 4294967296 then some (.int (a * b)) else none
  | _, _ => none
noncomputable def opMod : SV → SV → Option SV
  | .int a, .int b => if 0 < b then some (.int (a % b)) else none
  | _, _ => none
noncomputable def opDiv : SV → SV → Option SV
  | .int a, .int b => if 0 < b ∧ b < 100000 then some (.int (a / b)) else none
  | _, _ => none
noncomputable def opNeg : SV → Option SV
  | .int a => some (.int (-a))
  | _ => none
theorem Val.int_inv {T : Tm} {ρ : List Addr} {i : Int} {v : Value} (h : Val T ρ (.int i) v) : ∃ t, v = .int i t := by cases h; exact ⟨_, rfl⟩
theorem Val.str_inv {T : Tm} {ρ : List Addr} {x : Str} {v : Value} (h : Val T ρ (.str x) v) : ∃ t, v = .str x t := by cases h; exact ⟨_, rfl⟩
theorem Val.tup_inv {T : Tm} {ρ : List Addr} {xs : List SV} {v : Value} (h : Val T ρ (.tup xs) v) : ∃ a vs n, v = .ref a ∧ T a = some { cls := .type "tuple", data := .seq vs.toArray n } ∧ Vals T ρ xs vs := by cases h with | tup e r => exact ⟨_, _, _, rfl, e, r⟩
theorem Val.ref_inv {T : Tm} {ρ : List Addr} {p : Nat} {v : Value} (h : Val T ρ (.ref p) v) : ∃ a, v = .ref a ∧ ρ[p]? = some a := by cases h with | ref e => exact ⟨_, rfl, e⟩
section
variable {T : Tm} {ρ : List Addr} {v : Value} {P : Value → Prop}
@[elab_as_elim] theorem Val.intE {i : Int} (h : Val T ρ (.int i) v) (k : ∀ t, P (.int i t)) : P v := by cases h; exact k _
@[elab_as_elim] theorem Val.strE {x : Str} (h : Val T ρ (.str x) v) (k : ∀ t, P (.str x t)) : P v := by cases h; exact k _
@[elab_as_elim] theorem Val.refE {p : Nat} (h : Val T ρ (.ref p) v) (k : ∀ a, ρ[p]? = some a → P (.ref a)) : P v := by cases h with | ref e => exact k _ e
end
theorem PV.newTup {T : Tm} {ρ : List Addr} {H : Hp} {s : Shared} {xs : List SV} {vs : List Value} (R : Rp c T ρ H s.heap) (V : Vals T ρ xs vs) :
    PV c T ρ s (.tup xs) H (.ref s.heap.objs.size) { s with heap := s.heap.push { cls := .type "tuple", data := .seq vs.toArray } } :=
  ⟨upd T s.heap.objs.size { cls := .type "tuple", data := .seq vs.toArray }, ρ, Le.upd R.fresh, Pre.refl _, R.pushT _ rfl, .tup (n := 0) (upd_self ..) (V.mono (Le.upd R.fresh).t (Pre.refl _)), rfl⟩
theorem PV.newLst {T : Tm} {ρ : List Addr} {H : Hp} {s : Shared} {xs : List SV} {vs : List Value} (R : Rp c T ρ H s.heap) (V : Vals T ρ xs vs) :
    PV c T ρ s (.ref H.length) (H ++ [.lst xs]) (.ref s.heap.objs.size) { s with heap := s.heap.push { cls := .type "list", data := .seq vs.toArray } } :=
  ⟨T, ρ ++ [s.heap.objs.size], Le.refl _, Pre.snoc _ _, R.pushCell ⟨_, 0, rfl, V.mono (LeT.refl _) (Pre.snoc _ _)⟩ rfl, .ref (by rw [← R.len]; simp), rfl⟩
theorem mulOk {a b : Int} (h : a.natAbs < 4294967296) : IntMulOk a b := IntMulOk.of_left (by
  unfold Builtin.Int.intBits
  split
  · lia
  · have : a.natAbs.log2 < 32 := (Nat.log2_lt (by rename_i h; simp at h; lia)).mpr h
    lia)
theorem OpOK.add : OpOK c k .Add opAdd := fun A T ρ H s a b v va vb hh hr R Va Vb e => by
  cases a with
  | int x =>
    cases b with
    | int y =>
      obtain rfl := Option.some.inj e
      obtain ⟨t, rfl⟩ := Va.int_inv; obtain ⟨u, rfl⟩ := Vb.int_inv
      exact PyProof.Rows.add_int (PV.now R (.int _ _) rfl)
    | _ => exact nS e
  | tup xs =>
    cases b with
    | tup ys =>
      refine ifE e fun hl e => ?_
      obtain rfl := Option.some.inj e
      obtain ⟨a, vs, n, rfl, ta, Vs⟩ := Va.tup_inv; obtain ⟨b, ws, n2, rfl, tb, Ws⟩ := Vb.tup_inv
      have l1 := Vs.length; have l2 := Ws.length
      have ha := R.base _ _ ta; have hb := R.base _ _ tb
      by_cases hv : vs = []
      · subst hv; cases Vs
        exact concat_meets ⟨_, ha, rfl⟩ ⟨_, hb, rfl⟩ noFill_tuple_add seq_tuple_add PySem.F.slot_tuple_add PySem.F.entry_tuple_add (PySem.F.args_tuple_add_2 _ _)
          (tuple_addW0 a b _ _ n n2 none none #[] #[] (by simp)) ⟨ha, hb, PV.now R (by simpa using Vb) rfl⟩
      · by_cases hw : ws = []
        · subst hw; cases Ws
          exact concat_meets ⟨_, ha, rfl⟩ ⟨_, hb, rfl⟩ noFill_tuple_add seq_tuple_add PySem.F.slot_tuple_add PySem.F.entry_tuple_add (PySem.F.args_tuple_add_2 _ _)
            (tuple_addW1 a b _ _ n n2 none none #[] #[] (by simpa using hv) (by simp)) ⟨ha, hb, PV.now R (by simpa using Va) rfl⟩
        · refine concat_meets ⟨_, ha, rfl⟩ ⟨_, hb, rfl⟩ noFill_tuple_add seq_tuple_add PySem.F.slot_tuple_add PySem.F.entry_tuple_add (PySem.F.args_tuple_add_2 _ _)
            (tuple_addW2 a b _ _ n n2 none none #[] #[] (by simpa using hv) (by simpa using hw) (by rw [List.size_toArray, List.size_toArray]; unfold sizeLine; lia)) ⟨ha, hb, ?_⟩
          have e2 : vs.toArray ++ ws.toArray = (vs ++ ws).toArray := by simp
          rw [e2]
          exact PV.newTup R (Vs.append Ws)
    | _ => exact nS e
  | _ => exact nS e
theorem OpOK.sub : OpOK c k .Sub opSub := fun A T ρ H s a b v va vb hh hr R Va Vb e => by
  cases a with
  | int x =>
    cases b with
    | int y =>
      obtain rfl := Option.some.inj e
      obtain ⟨t, rfl⟩ := Va.int_inv; obtain ⟨u, rfl⟩ := Vb.int_inv
      exact PyProof.Rows.sub_int (PV.now R (.int _ _) rfl)
    | _ => exact nS e
  | _ => exact nS e
theorem OpOK.mul : OpOK c k .Mult opMul := fun A T ρ H s a b v va vb hh hr R Va Vb e => by
  cases a with
  | int x =>
    cases b with
    | int y =>
      refine ifE e fun hl e => ?_
      obtain rfl := Option.some.inj e
      obtain ⟨t, rfl⟩ := Va.int_inv; obtain ⟨u, rfl⟩ := Vb.int_inv
      exact PyProof.Rows.mul_int (PV.now R (.int _ _) rfl) (mulOk hl)
    | _ => exact nS e
  | _ => exact nS e
theorem OpOK.mod : OpOK c k .Mod opMod := fun A T ρ H s a b v va vb hh hr R Va Vb e => by
  cases a with
  | int x =>
    cases b with
    | int y =>
      refine ifE e fun hl e => ?_
      obtain rfl := Option.some.inj e
      obtain ⟨t, rfl⟩ := Va.int_inv; obtain ⟨u, rfl⟩ := Vb.int_inv
      refine PyProof.Rows.mod_int (by lia) ?_
      rw [Int.fmod_eq_emod_of_nonneg _ (by lia)]
      exact PV.now R (.int _ _) rfl
    | _ => exact nS e
  | _ => exact nS e
theorem OpOK.div : OpOK c k .FloorDiv opDiv := fun A T ρ H s a b v va vb hh hr R Va Vb e => by
  cases a with
  | int x =>
    cases b with
    | int y =>
      refine ifE e fun hl e => ?_
      obtain rfl := Option.some.inj e
      obtain ⟨t, rfl⟩ := Va.int_inv; obtain ⟨u, rfl⟩ := Vb.int_inv
      refine PyProof.Rows.floordiv_int (by lia) ?_ (.inl (PyProof.noPylong_small (by lia)))
      rw [Int.fdiv_eq_ediv_of_nonneg _ (by lia)]
      exact PV.now R (.int _ _) rfl
    | _ => exact nS e
  | _ => exact nS e
theorem ES.neg {x : Expr} {pos : Pos} {d : D SV} (h : ES c k sc vars x d) : ES c k sc vars (.UnaryOp .USub x pos) (dUn opNeg d) := fun A env T ρ H loc s v H' hh hm he R L e => by
  refine bE e fun a H1 e1 ez => ?_; clear e
  refine oE ez fun v' e3 ez => ?_
  refine sE2 ez ?_
  refine wpAny_UnaryOp (wpAny_mono (h hh hm he R L e1) (fun va s1 p1 => ?_) fun _ _ x => x)
  refine p1.el fun T1 ρ1 t1 r1 R1 V1 q1 => ?_
  cases a with
  | int x =>
    obtain rfl := Option.some.inj e3
    refine V1.intE fun t => ?_
    exact PyProof.Rows.neg_int (PV.from (PV.now R1 (.int _ _) rfl) t1 r1 q1)
  | _ => exact nS e3
theorem EL.nil : EL c k sc vars [] dNil := fun A env T ρ H loc s v H' pos hh hm he R L e => by
  refine sE2 e ?_
  exact wpAny_items_nil ⟨T, ρ, Le.refl _, Pre.refl _, R, .nil, rfl⟩
theorem EL.cons {e : Expr} {es : List Expr} {d : D SV} {ds : D (List SV)} (h : ES c k sc vars e d) (hs : EL c k sc vars es ds) (hst : ∀ env, starEach (e :: es) env = (false, eval e env) :: starEach es env) : EL c k sc vars (e :: es) (dCons d ds) := fun A env T ρ H loc s v H' pos hh hm he R L e => by
  refine bE e fun a H1 e1 ez => ?_; clear e
  refine bE ez fun b H2 e2 ez => ?_
  refine sE2 ez ?_
  refine wpAny_items_cons (wpAny_mono (h hh hm he R L e1) (fun va s1 p1 => ?_) fun _ _ x => x) (hst env)
  refine p1.el fun T1 ρ1 t1 r1 R1 V1 q1 => ?_
  refine wpAny_mono (hs pos hh hm he R1 (L.mono t1 r1) e2) (fun vb s2 p2 => ?_) fun _ _ x => x
  refine p2.el fun T2 ρ2 t2 r2 R2 V2 q2 => ?_
  exact ⟨T2, ρ2, t1.trans t2, r1.trans r2, R2, .cons (V1.mono t2.t r2) V2, q1.trans q2⟩
theorem dOne {d : D SV} {loc : Loc} {H H' : Hp} {v : SV} (e : d loc H = some (v, H')) : dCons d dNil loc H = some ([v], H') := by
  unfold dCons; rw [e]; rfl
theorem ES.tuple {es : List Expr} {n : Nat} {pos : Pos} {ds : D (List SV)} (hs : EL c k sc vars es ds) : ES c k sc vars (.Tuple es n pos) (dTup ds) := fun A env T ρ H loc s v H' hh hm he R L e => by
  refine bE e fun a H1 e1 e2 => ?_; clear e
  refine ifE e2 fun hl e2 => ?_
  refine sE2 e2 ?_
  refine wpAny_Tuple (wpAny_mono (hs pos hh hm he R L e1) (fun va s1 p1 => ?_) fun _ _ x => x)
  refine p1.el fun T1 ρ1 t1 r1 R1 V1 q1 => ?_
  exact ⟨by rw [← V1.length]; unfold sizeLine; lia, (PV.newTup R1 V1).from t1 r1 q1⟩
theorem ES.list {es : List Expr} {pos : Pos} {ds : D (List SV)} (hs : EL c k sc vars es ds) : ES c k sc vars (.List es pos) (dLst ds) := fun A env T ρ H loc s v H' hh hm he R L e => by
  refine bE e fun a H1 e1 e2 => ?_; clear e
  refine ifE e2 fun hl e2 => ?_
  refine sE2 e2 ?_
  refine wpAny_List (wpAny_mono (hs pos hh hm he R L e1) (fun va s1 p1 => ?_) fun _ _ x => x)
  refine p1.el fun T1 ρ1 t1 r1 R1 V1 q1 => ?_
  exact ⟨by rw [← V1.length]; unfold sizeLine; lia, (PV.newLst R1 V1).from t1 r1 q1⟩
end
end Mine.Internal
end
section
open PySem PySem.W PyProof.Rows
open PyProof.Rows.LCg (NsObj ns_obj)
namespace Mine.Internal
mutual
noncomputable def pyD : SV → Option PyData
  | .none => some .none
  | .int i => some (.int i)
  | .str x => if PyData.strOk x then some (.str x) else none
  | .tup xs => (pyDs xs).map PyData.tuple
  | .bool _ => none
  | .ref _ => none
noncomputable def pyDs : List SV → Option (List PyData)
  | [] => some []
  | x :: xs => (pyD x).bind fun d => (pyDs xs).map fun ds => d :: ds
end
noncomputable def toD (H : Hp) (v : SV) : Option PyData := match v with
  | .ref p => match H[p]? with
    | some (.lst xs) => (pyDs xs).map PyData.list
    | _ => none
  | v => pyD v
noncomputable def shp (d : PyData) : Bool := SeqAt.shaped d
section
variable {c : Cx} {k : Nat} {sc : Scope} {vars : List Str}
mutual
theorem pyD_reads {T : Tm} {ρ : List Addr} {h : Heap} (hb : ∀ a o, T a = some o → h.get? a = some o) : ∀ {v : SV} {val : Value} {d : PyData}, Val T ρ v val → pyD v = some d → ∃ as, Reads h val d as
  | _, _, _, .none, e => by obtain rfl := Option.some.inj e; exact ⟨_, Reads.none⟩
  | _, _, _, .bool b, e => nS e
  | _, _, _, .int i t, e => by obtain rfl := Option.some.inj e; exact ⟨_, Reads.int i t⟩
  | _, _, _, .str x t, e => by
    obtain rfl := Option.some.inj (ifI e).2
    exact ⟨_, Reads.str x t⟩
  | _, _, _, .ref _, e => nS e
  | _, _, _, .tup ta r, e => by
    obtain ⟨ds, e3, rfl⟩ := Option.map_eq_some_iff.mp e
    obtain ⟨as, q⟩ := pyDs_reads hb r e3
    exact ⟨as, reads_tuple_at (hb _ _ ta) rfl rfl (by simpa using q)⟩
theorem pyDs_reads {T : Tm} {ρ : List Addr} {h : Heap} (hb : ∀ a o, T a = some o → h.get? a = some o) : ∀ {vs : List SV} {vals : List Value} {ds : List PyData}, Vals T ρ vs vals → pyDs vs = some ds → ∃ as, ReadsAll h vals ds as
  | _, _, _, .nil, e => by obtain rfl := Option.some.inj e; exact ⟨_, ReadsAll.nil⟩
  | _, _, _, .cons hd r, e => by
    refine oE e fun d e1 e => ?_
    obtain ⟨ds, e2, rfl⟩ := Option.map_eq_some_iff.mp e
    obtain ⟨as, q⟩ := pyD_reads hb hd e1
    obtain ⟨bs, p⟩ := pyDs_reads hb r e2
    exact ⟨_, ReadsAll.cons q p⟩
end
theorem toD_reads {T : Tm} {ρ : List Addr} {H : Hp} {h : Heap} {v : SV} {val : Value} {d : PyData} (R : Rp c T ρ H h) (V : Val T ρ v val) (e : toD H v = some d) : ∃ as, Reads h val d as := by
  cases v with
  | ref p =>
    refine V.refE fun a ra => ?_
    refine lstE e fun xs hp e => ?_
    refine R.lstE ra hp fun vs n g Vs => ?_
    obtain ⟨ds, e3, rfl⟩ := Option.map_eq_some_iff.mp e
    obtain ⟨as, q⟩ := pyDs_reads R.base Vs e3
    exact ⟨_, reads_list_at g rfl rfl q⟩
  | _ => exact pyD_reads R.base V e
noncomputable def CmpOK (c : Cx) (k : Nat) (op : CmpOp) (f : Hp → SV → SV → Option Bool) : Prop :=
  ∀ ⦃A : Around⦄ ⦃T : Tm⦄ ⦃ρ : List Addr⦄ ⦃H : Hp⦄ ⦃s : Shared⦄ ⦃a b : SV⦄ ⦃va vb : Value⦄ ⦃r : Bool⦄ ⦃Q : Value → Shared → Prop⦄, A.handled = none → Room k A → Rp c T ρ H s.heap → Val T ρ a va → Val T ρ b vb → f H a b = some r →
    (∀ tk, Q (.bool r) { s with toks := tk }) → wpAny (model c.prog c.w) A (compareOp op va vb) Q NoE s
theorem ES.cmp {l r : Expr} {op : CmpOp} {pos : Pos} {f : Hp → SV → SV → Option Bool} {dl dr : D SV} (hl : ES c k sc vars l dl) (hr : ES c k sc vars r dr) (ho : CmpOK c k op f) (hm : behindInMarks op r = false) : ES c k sc vars (.Compare l [op] [r] pos) (dB (dCmp f dl dr)) := fun A env T ρ H loc s v H' hh hk he R L e => by
  refine bE e fun b' H3 e ez => ?_
  refine sE2 ez ?_; clear ez
  refine bE e fun a H1 e1 ez => ?_; clear e
  refine bE ez fun b H2 e2 ez => ?_
  refine oE ez fun v' e3 ez => ?_
  refine sE2 ez ?_
  refine wpAny_Compare1 (wpAny_mono (hl hh hk he R L e1) (fun va s1 p1 => ?_) fun _ _ x => x) hm
  refine p1.el fun T1 ρ1 t1 r1 R1 V1 q1 => ?_
  refine wpAny_mono (hr hh hk he R1 (L.mono t1 r1) e2) (fun vb s2 p2 => ?_) fun _ _ x => x
  refine p2.el fun T2 ρ2 t2 r2 R2 V2 q2 => ?_
  exact ho hh hk R2 (V1.mono t2.t r2) V2 e3 fun tk => ⟨T2, ρ2, t1.trans t2, r1.trans r2, R2, .bool _, (q1.trans q2).trans rfl⟩
theorem ET.cmp {l r : Expr} {op : CmpOp} {pos : Pos} {f : Hp → SV → SV → Option Bool} {dl dr : D SV} (hl : ES c k sc vars l dl) (hr : ES c k sc vars r dr) (ho : CmpOK c k op f) (hm : behindInMarks op r = false) : ET c k sc vars (.Compare l [op] [r] pos) (dCmp f dl dr) := fun A env T ρ H loc s v H' hh hk he R L e => by
  refine bE e fun a H1 e1 ez => ?_; clear e
  refine bE ez fun b H2 e2 ez => ?_
  refine oE ez fun v' e3 ez => ?_
  refine sE2 ez ?_
  refine wpAny_isTrue_Compare1 (wpAny_mono (hl hh hk he R L e1) (fun va s1 p1 => ?_) fun _ _ x => x) hm
  refine p1.el fun T1 ρ1 t1 r1 R1 V1 q1 => ?_
  refine wpAny_mono (hr hh hk he R1 (L.mono t1 r1) e2) (fun vb s2 p2 => ?_) fun _ _ x => x
  refine p2.el fun T2 ρ2 t2 r2 R2 V2 q2 => ?_
  exact ho hh hk R2 (V1.mono t2.t r2) V2 e3 fun tk => wpAny_truthy_bool ⟨T2, ρ2, t1.trans t2, r1.trans r2, R2, rfl, (q1.trans q2).trans rfl⟩
noncomputable def cmpII (g : Int → Int → Bool) (_ : Hp) : SV → SV → Option Bool
  | .int a, .int b => some (g a b)
  | _, _ => none
theorem CmpOK.eqI : CmpOK c k .Eq (cmpII (· == ·)) := fun A T ρ H s a b va vb r Q hh hr R Va Vb e h => by
  cases a with
  | int x =>
    cases b with
    | int y =>
      obtain rfl := Option.some.inj e
      obtain ⟨t, rfl⟩ := Va.int_inv; obtain ⟨u, rfl⟩ := Vb.int_inv
      exact PyProof.Rows.eq_int (h _)
    | _ => exact nS e
  | _ => exact nS e
theorem CmpOK.ltI : CmpOK c k .Lt (cmpII fun a b => decide (a < b)) := fun A T ρ H s a b va vb r Q hh hr R Va Vb e h => by
  cases a with
  | int x =>
    cases b with
    | int y =>
      obtain rfl := Option.some.inj e
      obtain ⟨t, rfl⟩ := Va.int_inv; obtain ⟨u, rfl⟩ := Vb.int_inv
      exact PyProof.Rows.lt_int (h _)
    | _ => exact nS e
  | _ => exact nS e
theorem CmpOK.gtI : CmpOK c k .Gt (cmpII fun a b => decide (b < a)) := fun A T ρ H s a b va vb r Q hh hr R Va Vb e h => by
  cases a with
  | int x =>
    cases b with
    | int y =>
      obtain rfl := Option.some.inj e
      obtain ⟨t, rfl⟩ := Va.int_inv; obtain ⟨u, rfl⟩ := Vb.int_inv
      exact PyProof.Rows.gt_int (h _)
    | _ => exact nS e
  | _ => exact nS e
theorem CmpOK.geI : CmpOK c k .GtE (cmpII fun a b => decide (b ≤ a)) := fun A T ρ H s a b va vb r Q hh hr R Va Vb e h => by
  cases a with
  | int x =>
    cases b with
    | int y =>
      obtain rfl := Option.some.inj e
      obtain ⟨t, rfl⟩ := Va.int_inv; obtain ⟨u, rfl⟩ := Vb.int_inv
      exact PyProof.Rows.ge_int (h _)
    | _ => exact nS e
  | _ => exact nS e
noncomputable def cmpSS (_ : Hp) : SV → SV → Option Bool
  | .str a, .str b => some (a == b)
  | _, _ => none
theorem CmpOK.eqS : CmpOK c k .Eq cmpSS := fun A T ρ H s a b va vb r Q hh hr R Va Vb e h => by
  cases a with
  | str x =>
    cases b with
    | str y =>
      obtain rfl := Option.some.inj e
      obtain ⟨t, rfl⟩ := Va.str_inv; obtain ⟨u, rfl⟩ := Vb.str_inv
      exact PyProof.Rows.eq_str (h _)
    | _ => exact nS e
  | _ => exact nS e
noncomputable def isN : SV → Bool
  | .none => true
  | _ => false
noncomputable def cmpIsNone (_ : Hp) (a : SV) : SV → Option Bool
  | .none => some (isN a)
  | _ => none
theorem isN_ok {T : Tm} {ρ : List Addr} {a : SV} {va : Value} (V : Val T ρ a va) : (va == Value.none) = isN a := by
  cases V <;> first | rfl | exact beq_eq_false_iff_ne.mpr (by intro x; cases x)
theorem CmpOK.isNone : CmpOK c k .Is cmpIsNone := fun A T ρ H s a b va vb r Q hh hr R Va Vb e h => by
  cases b with
  | none =>
    cases Vb
    obtain rfl := Option.some.inj e
    refine PySem.is_none ?_
    rw [isN_ok Va]; exact h _
  | _ => exact nS e
noncomputable def cmpD (neg : Bool) (H : Hp) (a b : SV) : Option Bool := (toD H a).bind fun d => (toD H b).bind fun e => if shp d && shp e then some (neg ^^ PyData.eqv d e) else none
theorem CmpOK.eqD : CmpOK c k .Eq (cmpD false) := fun A T ρ H s a b va vb r Q hh hr R Va Vb e h => by
  refine oE e fun d e1 ez => ?_; clear e
  obtain ⟨f, e2, e3⟩ := oIn ez; clear ez
  try dsimp only at e3
  refine ifE e3 fun hs e3 => ?_
  rw [Bool.and_eq_true] at hs
  simp only [Option.some.injEq] at e3
  obtain ⟨as, r1⟩ := toD_reads R Va e1; obtain ⟨bs, r2⟩ := toD_reads R Vb e2
  refine PyProof.Rows.eq_dataH r1 r2 hs.1 hs.2 (by have := hr.line; lia) ?_
  have : PyData.eqv d f = r := by rw [← e3]; simp
  rw [this]; exact h _
theorem CmpOK.neD : CmpOK c k .NotEq (cmpD true) := fun A T ρ H s a b va vb r Q hh hr R Va Vb e h => by
  refine oE e fun d e1 ez => ?_; clear e
  obtain ⟨f, e2, e3⟩ := oIn ez; clear ez
  try dsimp only at e3
  refine ifE e3 fun hs e3 => ?_
  rw [Bool.and_eq_true] at hs
  simp only [Option.some.injEq] at e3
  obtain ⟨as, r1⟩ := toD_reads R Va e1; obtain ⟨bs, r2⟩ := toD_reads R Vb e2
  refine PyProof.Rows.ne_dataH r1 r2 hs.1 hs.2 (by have := hr.line; lia) ?_
  have : (!PyData.eqv d f) = r := by rw [← e3]; simp
  rw [this]; exact h _
noncomputable def intsOf : List SV → Option (List Int)
  | [] => some []
  | .int i :: r => (intsOf r).map (i :: ·)
  | _ :: _ => none
noncomputable def cmpIn (H : Hp) (a b : SV) : Option Bool := match a, b with
  | .int i, .tup xs => (intsOf xs).map fun l => l.any (· == i)
  | .int i, .ref p => match H[p]? with
    | some (.lst xs) => (intsOf xs).map fun l => l.any (· == i)
    | _ => none
  | _, _ => none
theorem ints_reads {T : Tm} {ρ : List Addr} {h : Heap} : ∀ {xs : List SV} {vs : List Value} {l : List Int}, Vals T ρ xs vs → intsOf xs = some l → ∃ as, ReadsAll h vs (l.map PyData.int) as := by
  intro xs
  induction xs with
  | nil => intro vs l V e; cases V; obtain rfl := Option.some.inj e; exact ⟨_, ReadsAll.nil⟩
  | cons x xs ih =>
    intro vs l V e
    cases V with
    | cons h r =>
      cases x with
      | int i =>
        obtain ⟨l', e3, rfl⟩ := Option.map_eq_some_iff.mp e
        refine h.intE fun t => ?_
        obtain ⟨as, q⟩ := ih r e3
        exact ⟨_, ReadsAll.cons (Reads.int _ _) q⟩
      | _ => exact nS e
theorem ints_lay (l : List Int) : PyData.canLayAll0 (l.map PyData.int) = true := by
  induction l with
  | nil => rfl
  | cons i l ih => simp [PyData.canLayAll0, PyData.canLay0, ih]
theorem ints_any (l : List Int) (i : Int) : (l.map PyData.int).any (fun y => PyData.eqv y (.int i)) = l.any (· == i) := by
  induction l with
  | nil => rfl
  | cons j l ih => simp [PyData.eqv, ih]
theorem CmpOK.inI : CmpOK c k .In cmpIn := fun A T ρ H s a b va vb r Q hh hr R Va Vb e h => by
  have room : ∀ n m, m ≤ 1 → A.units + 1 + min n m < cLine := fun n m hm => by
    have := hr.line; have := Nat.min_le_right n m; lia
  cases a with
  | int i =>
    refine Va.intE fun t => ?_
    cases b with
    | tup xs =>
      obtain ⟨l, e3, rfl⟩ := Option.map_eq_some_iff.mp e
      obtain ⟨a, vs, n, rfl, ta, Vs⟩ := Vb.tup_inv
      obtain ⟨as, q⟩ := ints_reads (h := s.heap) Vs e3
      refine SeqAt.in_tuple_reads (reads_tuple_at (R.base _ _ ta) rfl rfl (by simpa using q)) (Reads.int _ _) (ints_lay l) rfl (room _ _ (Nat.zero_le _)) ?_
      rw [ints_any]; exact h _
    | ref p =>
      refine lstE e fun xs hp e => ?_
      obtain ⟨l, e3, rfl⟩ := Option.map_eq_some_iff.mp e
      refine Vb.refE fun a ra => ?_
      refine R.lstE ra hp fun vs n g Vs => ?_
      obtain ⟨as, q⟩ := ints_reads (h := s.heap) Vs e3
      refine SeqAt.in_list_reads (reads_list_at g rfl rfl q) (Reads.int _ _) (ints_lay l) rfl (room _ _ (Nat.zero_le _)) ?_
      rw [ints_any]; exact h _
    | _ => exact nS e
  | _ => exact nS e
end
end Mine.Internal
end
section
open PySem PySem.W PyProof.Rows
open PyProof.Rows.LCg (NsObj ns_obj)
namespace Mine.Internal
section
variable {c : Cx} {k : Nat} {sc : Scope} {vars : List Str}
theorem truthy_ok {A : Around} {T : Tm} {ρ : List Addr} {H : Hp} {s : Shared} {v : SV} {val : Value} {b : Bool} {Q : Bool → Shared → Prop} (R : Rp c T ρ H s.heap) (V : Val T ρ v val) (e : truth H v = some b) (h : ∀ tk, Q b { s with toks := tk }) :
    wpAny (model c.prog c.w) A (truthy val) Q NoE s := by
  cases v with
  | bool x => obtain rfl := Option.some.inj e; cases V; exact wpAny_truthy_bool (h _)
  | ref p =>
    refine lE e fun xs hp hl e => ?_
    obtain rfl := Option.some.inj e
    refine V.refE fun a ra => ?_
    refine R.lstE ra hp fun vs n g Vs => ?_
    have l := Vs.length
    refine wpAny_truthy_list (PySem.IsL.isList g) (by have : vs.size = vs.toList.length := rfl
                                                      lia) ?_
    have : vs.isEmpty = xs.isEmpty := by
      rcases vs with ⟨vs⟩
      cases Vs <;> rfl
    rw [this]; exact h _
  | _ => exact nS e
theorem ET.val {e : Expr} {d : D SV} (h : ES c k sc vars e d) (he : ∀ env whole, isTrue e env whole = (do let v ← whole; standAt e.pos; holding [v] (truthy v))) : ET c k sc vars e (dTruth d) := fun A env T ρ H loc s v H' hh hk hE R L e => by
  refine bE e fun a H1 e1 ez => ?_; clear e
  refine oE ez fun b e2 ez => ?_
  refine sE2 ez ?_
  refine wpAny_isTrue_value (wpAny_mono (h hh hk hE R L e1) (fun va s1 p1 => ?_) fun _ _ x => x) (he env _)
  refine p1.el fun T1 ρ1 t1 r1 R1 V1 q1 => ?_
  exact truthy_ok R1 V1 e2 fun tk => ⟨T1, ρ1, t1, r1, R1, rfl, q1.trans rfl⟩
theorem ET.not {e : Expr} {pos : Pos} {d : D Bool} (h : ET c k sc vars e d) : ET c k sc vars (.UnaryOp .Not e pos) (dNot d) := fun A env T ρ H loc s v H' hh hk hE R L e => by
  refine bE e fun a H1 e1 ez => ?_; clear e
  refine sE2 ez ?_
  refine wpAny_isTrue_Not (wpAny_mono (h hh hk hE R L e1) (fun va s1 p1 => ?_) fun _ _ x => x)
  obtain ⟨T1, ρ1, t1, r1, R1, rfl, q1⟩ := p1
  exact ⟨T1, ρ1, t1, r1, R1, rfl, q1⟩
theorem ET.and {a b : Expr} {pos : Pos} {da db : D Bool} (ha : ET c k sc vars a da) (hb : ET c k sc vars b db) : ET c k sc vars (.BoolOp .And [a, b] pos) (dAnd da db) := fun A env T ρ H loc s v H' hh hk hE R L e => by
  refine bE e fun x H1 e1 e2 => ?_; clear e
  try dsimp only at e2
  refine wpAny_isTrue_BoolOp (wpAny_allTrue_And_cons (wpAny_mono (ha hh hk hE R L e1) (fun va s1 p1 => ?_) fun _ _ x => x))
  obtain ⟨T1, ρ1, t1, r1, R1, rfl, q1⟩ := p1
  cases va with
  | true =>
    refine wpAny_allTrue_And_cons (wpAny_mono (hb hh hk hE R1 (L.mono t1 r1) e2) (fun vb s2 p2 => ?_) fun _ _ x => x)
    have p3 := p2.from t1 r1 q1
    obtain ⟨T2, ρ2, t2, r2, R2, rfl, q2⟩ := p3
    cases vb with
    | true => exact wpAny_allTrue_And_nil ⟨T2, ρ2, t2, r2, R2, rfl, q2⟩
    | false => exact ⟨T2, ρ2, t2, r2, R2, rfl, q2⟩
  | false =>
    refine sE2 e2 ?_
    exact ⟨T1, ρ1, t1, r1, R1, rfl, q1⟩
theorem ET.or {a b : Expr} {pos : Pos} {da db : D Bool} (ha : ET c k sc vars a da) (hb : ET c k sc vars b db) : ET c k sc vars (.BoolOp .Or [a, b] pos) (dOr da db) := fun A env T ρ H loc s v H' hh hk hE R L e => by
  refine bE e fun x H1 e1 e2 => ?_; clear e
  try dsimp only at e2
  refine wpAny_isTrue_BoolOp (wpAny_allTrue_Or_cons (wpAny_mono (ha hh hk hE R L e1) (fun va s1 p1 => ?_) fun _ _ x => x))
  obtain ⟨T1, ρ1, t1, r1, R1, rfl, q1⟩ := p1
  cases va with
  | false =>
    refine wpAny_allTrue_Or_cons (wpAny_mono (hb hh hk hE R1 (L.mono t1 r1) e2) (fun vb s2 p2 => ?_) fun _ _ x => x)
    have p3 := p2.from t1 r1 q1
    obtain ⟨T2, ρ2, t2, r2, R2, rfl, q2⟩ := p3
    cases vb with
    | false => exact wpAny_allTrue_Or_nil ⟨T2, ρ2, t2, r2, R2, rfl, q2⟩
    | true => exact ⟨T2, ρ2, t2, r2, R2, rfl, q2⟩
  | true =>
    refine sE2 e2 ?_
    exact ⟨T1, ρ1, t1, r1, R1, rfl, q1⟩
theorem ES.or {a b : Expr} {pos : Pos} {da db : D Bool} (ha : ES c k sc vars a (dB da)) (hb : ES c k sc vars b (dB db)) : ES c k sc vars (.BoolOp .Or [a, b] pos) (dB (dOr da db)) := fun A env T ρ H loc s v H' hh hk hE R L e => by
  refine bE e fun y H2 e ez => ?_
  refine sE2 ez ?_; clear ez
  refine bE e fun x H1 e1 e2 => ?_; clear e
  refine wpAny_Or2 (wpAny_mono (ha (v := .bool x) (H' := H1) hh hk hE R L (by unfold dB; rw [e1]; rfl)) (fun va s1 p1 => ?_) fun _ _ x => x)
  refine p1.el fun T1 ρ1 t1 r1 R1 V1 q1 => ?_
  cases V1
  refine wpAny_truthy_bool ?_
  cases x with
  | true =>
    refine sE2 e2 ?_
    exact ⟨T1, ρ1, t1, r1, R1, .bool _, q1⟩
  | false =>
    refine wpAny_mono (hb (v := .bool y) hh hk hE R1 (L.mono t1 r1) (by unfold dB; rw [show db loc H1 = _ from e2]; rfl)) (fun vb s2 p2 => p2.from t1 r1 q1) fun _ _ x => x
theorem ES.ifx {t a b : Expr} {pos : Pos} {dt : D Bool} {da db : D SV} (ht : ET c k sc vars t dt) (ha : ES c k sc vars a da) (hb : ES c k sc vars b db) : ES c k sc vars (.IfExp t a b pos) (dIf dt da db) := fun A env T ρ H loc s v H' hh hk hE R L e => by
  refine bE e fun x H1 e1 e2 => ?_; clear e
  try dsimp only at e2
  refine IfExp_ (wpAny_mono (ht hh hk hE R L e1) (fun va s1 p1 => ?_) fun _ _ x => x)
  obtain ⟨T1, ρ1, t1, r1, R1, rfl, q1⟩ := p1
  cases va with
  | true =>
    exact wpAny_mono (ha hh hk hE R1 (L.mono t1 r1) e2) (fun vb s2 p2 => p2.from t1 r1 q1) fun _ _ x => x
  | false =>
    exact wpAny_mono (hb hh hk hE R1 (L.mono t1 r1) e2) (fun vb s2 p2 => p2.from t1 r1 q1) fun _ _ x => x
noncomputable def AttrOK (c : Cx) (C : Addr) (name : Str) : Prop := plainGet c.K C name = true ∧ hasDictIn c.K C = true ∧ ∃ attr, findIn c.K (.ref C) name = some attr ∧ noGet c.K attr = true
noncomputable def fld (H : Hp) (C : Addr) (name : Str) : SV → Option SV
  | .ref p => match H[p]? with
    | some (.inst C' d) => if C' = C then (match H[d]? with | some (.flds fs) => fs.lookup name | _ => none) else none
    | _ => none
  | _ => none
noncomputable def dAttr (C : Addr) (name : Str) (d : D SV) : D SV := fun loc H => (d loc H).bind fun (a, H) => (fld H C name a).bind fun v => some (v, H)
theorem strKeys_noRef {es : Array DictEntry} (h : StrKeys es) : es.toList.any (·.refKey) = false := by
  rw [List.any_eq_false]
  intro e he
  obtain ⟨n, t, q⟩ := h e (by simpa using he)
  simp [DictEntry.refKey, q]
theorem lookIn_flds {o : Obj} {es : Array DictEntry} {ep : Nat} (hd : o.data = .dict es ep) (hk : StrKeys es) (name : Str) : lookIn name o = some (nsFind es name) := by
  unfold lookIn
  rw [hd]
  dsimp only
  rw [strKeys_noRef hk]
  unfold nsFind findBy
  rw [← Array.find?_toList]
  cases es.toList.find? (·.key.isStr name) with
  | none => rfl
  | some e => rfl
theorem Val.handed {T : Tm} {ρ : List Addr} {v : SV} {val : Value} (h : Val T ρ v val) : handedIn val = true := by cases h <;> rfl
theorem Rp.inst {T : Tm} {ρ : List Addr} {H : Hp} {h : Heap} {p d : Nat} {C a : Addr} {fs : List (Str × SV)} (R : Rp c T ρ H h) (ra : ρ[p]? = some a) (hp : H[p]? = some (.inst C d)) (hd : H[d]? = some (.flds fs)) :
    ∃ dx od es ep, ρ[d]? = some dx ∧ InstAt h a (instObj C dx) C (some od) ∧ h.get? dx = some od ∧ od.data = .dict es ep ∧ StrKeys es ∧ FldRep T ρ fs (nsFind es) := by
  obtain ⟨_, o, g, dx, rd, rfl⟩ := R.atp ra hp
  obtain ⟨_, od, gd, es, ep, hod, hk, _, F⟩ := R.atp rd hd
  exact ⟨dx, od, es, ep, rd, ⟨g, rfl, rfl, gd⟩, gd, hod, hk, F⟩
theorem fld_inv {H : Hp} {C : Addr} {name : Str} {a v : SV} (e : fld H C name a = some v) : ∃ p dd fs, a = .ref p ∧ H[p]? = some (.inst C dd) ∧ H[dd]? = some (.flds fs) ∧ fs.lookup name = some v := by
  cases a with
  | ref p =>
    unfold fld at e; dsimp only at e
    generalize hp : H[p]? = x at e
    rcases x with _ | so
    · exact nS e
    cases so with
    | inst C' dd =>
      obtain ⟨rfl, e'⟩ := ifI e
      clear e
      generalize hx : H[dd]? = x at e'
      rcases x with _ | so
      · exact nS e'
      cases so with
      | flds fs => exact ⟨p, dd, fs, rfl, hp, hx, e'⟩
      | _ => exact nS e'
    | _ => exact nS e
  | _ => exact nS e
theorem ES.attr {o : Expr} {name : Str} {pos : Pos} {d : D SV} {C : Addr} (h : ES c k sc vars o d) (hA : AttrOK c C name)
    (he : ∀ env, eval (.Attribute o name pos) env = (do
      let v ← eval o env
      standAt pos.atName
      let r ← holding [v] (getAttr v name true)
      letTemporaryGo o v r
      pure r)) : ES c k sc vars (.Attribute o name pos) (dAttr C name d) := fun A env T ρ H loc s v H' hh hk hE R L e => by
  refine bE e fun a H1 e1 ez => ?_; clear e
  refine oE ez fun v' e2 ez => ?_
  refine sE2 ez ?_
  refine Attribute_any_ (wpAny_mono (h hh hk hE R L e1) (fun va s1 p1 => ?_) fun _ _ x => x) (he env)
  refine p1.el fun T1 ρ1 t1 r1 R1 V1 q1 => ?_
  obtain ⟨p, dd, fs, rfl, hp, hd, e2⟩ := fld_inv e2
  refine V1.refE fun x ra => ?_
  obtain ⟨dx, od, es, ep, rd, I, gd, hod, hk', F⟩ := R1.inst ra hp hd
  have := F name
  rw [e2] at this
  obtain ⟨u, hu, Vu⟩ := this
  obtain ⟨g1, g2, attr, g3, g4⟩ := hA
  exact get_value R1.kin I (plainGet_of g1).1 (findObj_own g2 g3 g4 ((lookIn_flds hod hk' name).trans (congrArg some hu))) Vu.handed ⟨T1, ρ1, t1, r1, R1, Vu, q1.trans rfl⟩
end
end Mine.Internal
end
section
open PySem PySem.W PyProof.Rows
open PyProof.Rows.LCg (NsObj ns_obj)
namespace Mine.Internal
noncomputable def look {K α : Type} [DecidableEq K] (es : List (K × α)) (k : K) : Option α := (es.find? fun e => decide (e.1 = k)).map (·.2)
noncomputable def sto {K α : Type} [DecidableEq K] (es : List (K × α)) (k : K) (v : α) : List (K × α) :=
  if es.any (fun e => decide (e.1 = k)) then es.map (fun e => if e.1 = k then (e.1, v) else e) else es ++ [(k, v)]
section
variable {T : Tm} {ρ : List Addr} {K : Type} [DecidableEq K]
theorem KV.keys {es : List (K × SV)} {kvs : List (K × Value)} (h : KV T ρ es kvs) : es.map (·.1) = kvs.map (·.1) := by
  induction h with
  | nil => rfl
  | cons _ _ ih => simp [ih]
theorem KV.length {es : List (K × SV)} {kvs : List (K × Value)} (h : KV T ρ es kvs) : es.length = kvs.length := by
  have := congrArg List.length h.keys; simpa using this
theorem KV.any {es : List (K × SV)} {kvs : List (K × Value)} (h : KV T ρ es kvs) (k : K) : es.any (fun e => decide (e.1 = k)) = kvs.any (fun e => decide (e.1 = k)) := by
  induction h with
  | nil => rfl
  | cons _ _ ih => simp [ih]
theorem KV.look {es : List (K × SV)} {kvs : List (K × Value)} (h : KV T ρ es kvs) (k : K) : match look es k with
    | some v => ∃ val, valueAt kvs k = some val ∧ Val T ρ v val
    | none => valueAt kvs k = none := by
  induction h with
  | nil => simp [Mine.Internal.look, valueAt]
  | @cons k' x v es kvs hv _ ih =>
    simp only [Mine.Internal.look, valueAt, List.find?_cons] at ih ⊢
    by_cases e : k' = k
    · simp only [e, decide_true]; exact ⟨_, rfl, hv⟩
    · simp only [e, decide_false]; exact ih
theorem KV.getD {es : List (K × SV)} {kvs : List (K × Value)} (h : KV T ρ es kvs) (k : K) {d : SV} {vd : Value} (hd : Val T ρ d vd) : Val T ρ ((Mine.Internal.look es k).getD d) ((valueAt kvs k).getD vd) := by
  have q := h.look k
  cases hl : Mine.Internal.look es k with
  | none => rw [hl] at q; rw [q]; exact hd
  | some u => rw [hl] at q; obtain ⟨val, q, V⟩ := q; rw [q]; exact V
theorem KV.map {es : List (K × SV)} {kvs : List (K × Value)} (h : KV T ρ es kvs) {x : SV} {v : Value} (hv : Val T ρ x v) (k : K) :
    KV T ρ (es.map fun e => if e.1 = k then (e.1, x) else e) (kvs.map fun e => if e.1 = k then (e.1, v) else e) := by
  induction h with
  | nil => exact .nil
  | @cons k' y u es kvs hu _ ih =>
    rw [List.map_cons, List.map_cons]
    by_cases e : k' = k
    · rw [if_pos e, if_pos e]; exact .cons hv ih
    · rw [if_neg e, if_neg e]; exact .cons hu ih
theorem KV.snoc {es : List (K × SV)} {kvs : List (K × Value)} (h : KV T ρ es kvs) {x : SV} {v : Value} (hv : Val T ρ x v) (k : K) : KV T ρ (es ++ [(k, x)]) (kvs ++ [(k, v)]) := by
  induction h with
  | nil => exact .cons hv .nil
  | cons hu _ ih => exact .cons hu ih
theorem KV.sto {es : List (K × SV)} {kvs : List (K × Value)} (h : KV T ρ es kvs) {x : SV} {v : Value} (hv : Val T ρ x v) (k : K) : KV T ρ (sto es k x) (stored kvs k v) := by
  unfold Mine.Internal.sto stored
  rw [h.any]
  cases kvs.any fun e => decide (e.1 = k) with
  | true => exact h.map hv k
  | false => exact h.snoc hv k
end
section
variable {prog : Program} {w : World} {T : Tm} {ρ : List Addr}
theorem KT.length {es : List (List Int × SV)} {xs : List (List Int × Addr × Value)} (h : KT prog w T ρ es xs) : es.length = xs.length := by
  induction h with
  | nil => rfl
  | cons _ _ _ ih => simp [ih]
theorem KT.is {es : List (List Int × SV)} {xs : List (List Int × Addr × Value)} (h : KT prog w T ρ es xs) : ∀ x ∈ xs, TupKey prog w T x.1 x.2.1 := by
  induction h with
  | nil => intro x hx; simp at hx
  | cons hk _ _ ih => intro x hx; rcases List.mem_cons.mp hx with rfl | hx
                      · exact hk
                      · exact ih x hx
theorem KT.look {es : List (List Int × SV)} {xs : List (List Int × Addr × Value)} (h : KT prog w T ρ es xs) (k : List Int) : match look es k with
    | some v => ∃ val, (atKey xs k).map (·.2) = some val ∧ Val T ρ v val
    | none => atKey xs k = none := by
  induction h with
  | nil => simp [Mine.Internal.look, atKey]
  | @cons k' x a v es kvs _ hv _ ih =>
    simp only [Mine.Internal.look, atKey, List.find?_cons] at ih ⊢
    by_cases e : k' = k
    · simp only [e, decide_true]; exact ⟨_, rfl, hv⟩
    · simp only [e, decide_false]; exact ih
theorem KT.getD {es : List (List Int × SV)} {xs : List (List Int × Addr × Value)} (h : KT prog w T ρ es xs) (k : List Int) {d : SV} {vd : Value} (hd : Val T ρ d vd) : Val T ρ ((Mine.Internal.look es k).getD d) (((atKey xs k).map (·.2)).getD vd) := by
  have q := h.look k
  cases hl : Mine.Internal.look es k with
  | none => rw [hl] at q; rw [q]; exact hd
  | some u => rw [hl] at q; obtain ⟨val, q, V⟩ := q; rw [q]; exact V
theorem KT.snoc {es : List (List Int × SV)} {xs : List (List Int × Addr × Value)} (h : KT prog w T ρ es xs) {k : List Int} {a : Addr} {x : SV} {v : Value} (hk : TupKey prog w T k a) (hv : Val T ρ x v) : KT prog w T ρ (es ++ [(k, x)]) (xs ++ [(k, a, v)]) := by
  induction h with
  | nil => exact .cons hk hv .nil
  | cons h1 h2 _ ih => exact .cons h1 h2 ih
end
theorem seqIndex_in {j : Int} {n : Nat} (h0 : 0 ≤ j) (h : j.toNat < n) : seqIndex? j n = some j.toNat := by
  unfold seqIndex?
  have e1 : ¬ j < 0 := by lia
  simp only [e1, if_false]
  simp; lia
noncomputable def item (H : Hp) : SV → SV → Option SV
  | .tup xs, .int i => if 0 ≤ i ∧ i < 1000000 then xs[i.toNat]? else none
  | .ref p, .int i => match H[p]? with
    | some (.lst xs) => if 0 ≤ i ∧ i < 1000000 then xs[i.toNat]? else none
    | some (.dI es) => look es i
    | _ => none
  | _, _ => none
noncomputable def dSub (do' di : D SV) : D SV := fun loc H => (do' loc H).bind fun (o, H) => (di loc H).bind fun (i, H) => (item H o i).bind fun v => some (v, H)
section
variable {c : Cx} {k : Nat} {sc : Scope} {vars : List Str}
theorem Rp.dI {T : Tm} {ρ : List Addr} {H : Hp} {h : Heap} {p : Nat} {a : Addr} {es : List (Int × SV)} (R : Rp c T ρ H h) (ra : ρ[p]? = some a) (hp : H[p]? = some (.dI es)) : ∃ kvs, h.DictOf (intKind c.prog c.w) a kvs ∧ KV T ρ es kvs := by
  obtain ⟨_, o, g, x, ents, ep, kvs, hd, hk, hps, hn, V⟩ := R.atp ra hp
  exact ⟨kvs, ⟨o, ents, ep, g, x, hd, hk, hps, hn⟩, V⟩
theorem Rp.dS {T : Tm} {ρ : List Addr} {H : Hp} {h : Heap} {p : Nat} {a : Addr} {es : List (Str × SV)} (R : Rp c T ρ H h) (ra : ρ[p]? = some a) (hp : H[p]? = some (.dS es)) : ∃ kvs, h.DictOf (PySem.strKind c.prog c.w) a kvs ∧ KV T ρ es kvs := by
  obtain ⟨_, o, g, x, ents, ep, kvs, hd, hk, hps, hn, V⟩ := R.atp ra hp
  exact ⟨kvs, ⟨o, ents, ep, g, x, hd, hk, hps, hn⟩, V⟩
theorem TupKey.at {T : Tm} {ρ : List Addr} {H : Hp} {h : Heap} {ks : List Int} {a : Addr} (R : Rp c T ρ H h) (hk : TupKey c.prog c.w T ks a) : (tupleKind (intKind c.prog c.w)).is h ks a := by
  obtain ⟨o, items, n, t, hc, hd, hi⟩ := hk
  exact ⟨o, items, n, R.base _ _ t, hc, hd, hi⟩
theorem Rp.dT {T : Tm} {ρ : List Addr} {H : Hp} {h : Heap} {p : Nat} {a : Addr} {es : List (List Int × SV)} (R : Rp c T ρ H h) (ra : ρ[p]? = some a) (hp : H[p]? = some (.dT es)) : ∃ xs, h.DictOfH (tupleKind (intKind c.prog c.w)) a xs ∧ KT c.prog c.w T ρ es xs := by
  obtain ⟨_, o, g, x, ents, ep, xs, hd, he, hn, V⟩ := R.atp ra hp
  exact ⟨xs, ⟨o, ents, ep, g, x, hd, he, fun x hx => (V.is x hx).at R, hn⟩, V⟩
theorem intIs (i : Int) (t : Tok) : (intKind c.prog c.w).is i (.int i t) = true := by simp [intKind, Value.isInt]
theorem strIs (x : Str) (t : Tok) : (PySem.strKind c.prog c.w).is x (.str x t) = true := by simp [PySem.strKind, Value.isStrOf]
theorem Rp.ofI {T : Tm} {ρ : List Addr} {H : Hp} {h h' : Heap} {p : Nat} {a : Addr} {es : List (Int × SV)} {kvs : List (Int × Value)} (R : Rp c T ρ H h) (ra : ρ[p]? = some a) (k : Heap.SameBut a h h') (d : h'.DictOf (intKind c.prog c.w) a kvs) (V : KV T ρ es kvs) : Rp c T ρ (H.set p (.dI es)) h' := by
  obtain ⟨o, ents, ep, g, x, hd, hk, hps, hn⟩ := d
  exact R.setSame ra k g ⟨x, ents, ep, kvs, hd, hk, hps, hn, V⟩
theorem Rp.ofS {T : Tm} {ρ : List Addr} {H : Hp} {h h' : Heap} {p : Nat} {a : Addr} {es : List (Str × SV)} {kvs : List (Str × Value)} (R : Rp c T ρ H h) (ra : ρ[p]? = some a) (k : Heap.SameBut a h h') (d : h'.DictOf (PySem.strKind c.prog c.w) a kvs) (V : KV T ρ es kvs) : Rp c T ρ (H.set p (.dS es)) h' := by
  obtain ⟨o, ents, ep, g, x, hd, hk, hps, hn⟩ := d
  exact R.setSame ra k g ⟨x, ents, ep, kvs, hd, hk, hps, hn, V⟩
theorem Rp.ofT {T : Tm} {ρ : List Addr} {H : Hp} {h h' : Heap} {p : Nat} {a : Addr} {es : List (List Int × SV)} {xs : List (List Int × Addr × Value)} (R : Rp c T ρ H h) (ra : ρ[p]? = some a) (k : Heap.SameBut a h h') (d : h'.DictOfH (tupleKind (intKind c.prog c.w)) a xs) (V : KT c.prog c.w T ρ es xs) : Rp c T ρ (H.set p (.dT es)) h' := by
  obtain ⟨o, ents, ep, g, x, hd, he, _, hn⟩ := d
  exact R.setSame ra k g ⟨x, ents, ep, xs, hd, he, hn, V⟩
theorem item_ok {A : Around} {T : Tm} {ρ : List Addr} {H : Hp} {s : Shared} {o i v : SV} {vo vi : Value} {value slice : Expr} {Q : Value → Shared → Prop} (hs : ∀ o i, subscripted slice false o i = operate [o, i] (getItem o i)) (R : Rp c T ρ H s.heap) (Vo : Val T ρ o vo) (Vi : Val T ρ i vi) (e : item H o i = some v)
    (h : ∀ val tk, Val T ρ v val → Q val { s with toks := tk }) : wpAny (model c.prog c.w) A (subscriptTail value slice vo vi) Q NoE s := by
  cases o with
  | tup xs =>
    cases i with
    | int j =>
      refine ifE e fun hj e => ?_
      obtain ⟨a, vs, n, rfl, ta, Vs⟩ := Vo.tup_inv
      refine Vi.intE fun t => ?_
      obtain ⟨val, hv, V⟩ := Vs.get e
      have hlt := (List.getElem?_eq_some_iff.mp hv).1
      have g := R.base _ _ ta
      refine item_tupleT (j := j.toNat) ⟨_, g, rfl, n, rfl⟩ (by lia) (by lia) ?_ hv (h _ _ V) (hs _ _)
      exact seqIndex_in hj.1 hlt
    | _ => exact nS e
  | ref p =>
    cases i with
    | int j =>
      refine Vo.refE fun a ra => ?_
      refine Vi.intE fun t => ?_
      delta item at e
      dsimp only at e
      cases hp : H[p]? with
      | none => rw [hp] at e; exact nS e
      | some so =>
        rw [hp] at e
        cases so with
        | lst xs =>
          refine ifE e fun hj e => ?_
          refine R.lstE ra hp fun vs n g Vs => ?_
          obtain ⟨val, hv, V⟩ := Vs.get e
          have l : s.heap.IsList a vs := PySem.IsL.isList g
          exact tail_any l.typeIs slot_list_getitem.lookup (wpAny_getItem_list (x := val) l hj.1 (by lia) (by simpa using hv) (h _ _ V)) (hs _ _)
        | dI es =>
          have e : look es j = some v := e
          obtain ⟨kvs, d, V⟩ := R.dI ra hp
          have q := V.look j
          rw [e] at q
          obtain ⟨val, hv, Vv⟩ := q
          exact tail_any d.mapOf.typeIs slot_dict_getitem.lookup (wpAny_getItem_of (intIs j t) d.mapOf hv (h _ _ Vv)) (hs _ _)
        | _ => exact nS e
    | _ => exact nS e
  | _ => exact nS e
theorem ES.sub {o i : Expr} {pos : Pos} {do' di : D SV} (ho : ES c k sc vars o do') (hi : ES c k sc vars i di) (hs : ∀ o' i', subscripted i false o' i' = operate [o', i'] (getItem o' i')) : ES c k sc vars (.Subscript o i pos) (dSub do' di) := fun A env T ρ H loc s v H' hh hk hE R L e => by
  refine bE e fun a H1 e1 ez => ?_; clear e
  refine bE ez fun b H2 e2 ez => ?_
  refine oE ez fun v' e3 ez => ?_
  refine sE2 ez ?_
  refine Subscript_ (wpAny_mono (ho hh hk hE R L e1) (fun va s1 p1 => ?_) fun _ _ x => x)
  refine p1.el fun T1 ρ1 t1 r1 R1 V1 q1 => ?_
  refine wpAny_mono (hi hh hk hE R1 (L.mono t1 r1) e2) (fun vb s2 p2 => ?_) fun _ _ x => x
  refine p2.el fun T2 ρ2 t2 r2 R2 V2 q2 => ?_
  exact item_ok hs R2 (V1.mono t2.t r2) V2 e3 fun val tk V => ⟨T2, ρ2, t1.trans t2, r1.trans r2, R2, V, (q1.trans q2).trans rfl⟩
noncomputable def sliceL (n : Nat) (H : Hp) : SV → Option (SV × Hp)
  | .ref p => match H[p]? with
    | some (.lst xs) => if xs.length < 1000000 then some (.ref H.length, H ++ [.lst (xs.take n)]) else none
    | some (.frz xs _) => if xs.length < 1000000 then some (.ref H.length, H ++ [.lst (xs.take n)]) else none
    | _ => none
  | _ => none
noncomputable def dSliceL (n : Nat) (d : D SV) : D SV := fun loc H => (d loc H).bind fun (o, H) => sliceL n H o
theorem pick_take (its : Array Value) (n : Nat) : slicePick its none (some (n : Int)) none = (its.toList.take n).toArray := by
  rw [kms_pick_eq]
  congr 1
  unfold kms_pick kms_lo kms_hi
  simp only [List.drop_zero, Nat.sub_zero]
  rw [if_neg (by lia), Int.toNat_natCast]
  by_cases h : n ≤ its.toList.length
  · rw [Nat.min_eq_left h]
  · rw [Nat.min_eq_right (by lia), List.take_of_length_le (Nat.le_refl _), List.take_of_length_le (by lia)]
theorem sliceL_inv {n : Nat} {H H' : Hp} {o v : SV} (e : sliceL n H o = some (v, H')) : ∃ p xs, o = .ref p ∧ xs.length < 1000000 ∧ v = .ref H.length ∧ H' = H ++ [.lst (xs.take n)] ∧ (H[p]? = some (.lst xs) ∨ ∃ o2, H[p]? = some (.frz xs o2)) := by
  cases o with
  | ref p =>
    unfold sliceL at e; dsimp only at e
    generalize hp : H[p]? = x at e
    rcases x with _ | so
    · exact nS e
    cases so with
    | lst xs => obtain ⟨hl, e⟩ := ifI e; obtain ⟨rfl, rfl⟩ := sI2 e; exact ⟨p, xs, rfl, hl, rfl, rfl, .inl hp⟩
    | frz xs o2 => obtain ⟨hl, e⟩ := ifI e; obtain ⟨rfl, rfl⟩ := sI2 e; exact ⟨p, xs, rfl, hl, rfl, rfl, .inr ⟨o2, hp⟩⟩
    | _ => exact nS e
  | _ => exact nS e
theorem Rp.isList {T : Tm} {ρ : List Addr} {H : Hp} {h : Heap} {p : Nat} {a : Addr} {xs : List SV} (R : Rp c T ρ H h) (ra : ρ[p]? = some a) (hp : H[p]? = some (.lst xs) ∨ ∃ o2, H[p]? = some (.frz xs o2)) : ∃ vs : Array Value, h.IsList a vs ∧ Vals T ρ xs vs.toList := by
  rcases hp with hp | ⟨o2, hp⟩
  · obtain ⟨_, ob, g, vs, n', rfl, Vs⟩ := R.atp ra hp
    exact ⟨vs, PySem.IsL.isList g, Vs⟩
  · obtain ⟨_, ob, g, _, hcl, vs, n', hdt, Vs⟩ := R.atp ra hp
    exact ⟨vs, ⟨_, g, hcl, n', hdt⟩, Vs⟩
theorem sliceL_ok {A : Around} {T : Tm} {ρ : List Addr} {H : Hp} {s : Shared} {o v : SV} {H' : Hp} {vo : Value} {value slice : Expr} {n : Nat} {u : Tok} (hs : ∀ o' i', subscripted slice false o' i' = operate [i', o'] (getItem o' i')) (R : Rp c T ρ H s.heap) (Vo : Val T ρ o vo) (e : sliceL n H o = some (v, H')) :
    wpAny (model c.prog c.w) A (subscriptTail value slice vo (.ref s.heap.objs.size)) (PV c T ρ s v H') NoE { s with heap := s.heap.push { cls := .type "slice", data := .fields #[.none, .int (n : Int) u, .none] } } := by
  obtain ⟨p, xs, rfl, hlen, rfl, rfl, hp⟩ := sliceL_inv e
  refine Vo.refE fun a ra => ?_
  have R' := R.push { cls := .type "slice", data := .fields #[.none, .int (n : Int) u, .none] }
  obtain ⟨vs, l0, Vs⟩ := R.isList ra hp
  obtain ⟨_, g, hcl, n', hdt⟩ := l0
  have l : (s.heap.push { cls := .type "slice", data := .fields #[.none, .int (n : Int) u, .none] }).IsList a vs := ⟨_, Heap.get?_push_of_some _ g, hcl, n', hdt⟩
  have len := Vs.length
  refine tail_any (s := { s with heap := s.heap.push { cls := .type "slice", data := .fields #[.none, .int (n : Int) u, .none] } }) l.typeIs slot_list_getitem.lookup (wpAny_getItem_list_slice (s := { s with heap := s.heap.push { cls := .type "slice", data := .fields #[.none, .int (n : Int) u, .none] } }) l (Heap.IsSliceOf.new ..) .none (.int _ _) .none (by simp) ?_ ?_) (hs _ _)
  · rw [pick_take]
    exact (PV.newLst (s := { s with heap := s.heap.push { cls := .type "slice", data := .fields #[.none, .int (n : Int) u, .none] } }) R' (Vs.take n)).from (Le.refl _) (Pre.refl _) rfl
  · have : vs.size = vs.toList.length := rfl
    unfold sizeLine; lia
theorem ES.sliceL {o : Expr} {n : Nat} {kk : Nat} {cp sp pos : Pos} {d : D SV} (ho : ES c k sc vars o d) (hs : ∀ o' i', subscripted (.Slice Option.none (some (.Constant (.int (n : Int)) kk cp)) Option.none sp) false o' i' = operate [i', o'] (getItem o' i')) : ES c k sc vars (.Subscript o (.Slice Option.none (some (.Constant (.int (n : Int)) kk cp)) Option.none sp) pos) (dSliceL n d) := fun A env T ρ H loc s v H' hh hk hE R L e => by
  refine bE e fun a H1 e1 e2 => ?_; clear e
  try dsimp only at e2
  refine Subscript_ (wpAny_mono (ho hh hk hE R L e1) (fun va s1 p1 => ?_) fun _ _ x => x)
  refine p1.el fun T1 ρ1 t1 r1 R1 V1 q1 => ?_
  refine wpAny_Slice ?_
  show wpAny _ _ (pure Value.none) _ _ _
  refine wpAny_pure ?_
  show wpAny _ _ (eval (.Constant (.int (n : Int)) kk cp) env) _ _ _
  refine wpAny_Constant_int ?_
  show wpAny _ _ (pure Value.none) _ _ _
  refine wpAny_pure ?_
  have z := sliceL_ok (A := A) (value := o) (u := s1.toks) (s := { s1 with toks := s1.toks + 1 }) hs R1 V1 e2
  exact wpAny_mono z (fun _ _ p => p.from t1 r1 (q1.trans rfl)) fun _ _ x => x
end
end Mine.Internal
end
section
open PySem PySem.W PyProof.Rows
open PyProof.Rows.LCg (NsObj ns_obj)
namespace Mine.Internal
noncomputable abbrev Fn := List SV → Hp → Option (SV × Hp)
noncomputable def FS (c : Cx) (k : Nat) (f : Addr) (F : Fn) : Prop :=
  ∀ ⦃A : Around⦄ ⦃T : Tm⦄ ⦃ρ : List Addr⦄ ⦃H : Hp⦄ ⦃s : Shared⦄ ⦃svs : List SV⦄ ⦃vals : List Value⦄ ⦃v : SV⦄ ⦃H' : Hp⦄, A.handled = none → Room k A → Rp c T ρ H s.heap → Vals T ρ svs vals → F svs H = some (v, H') →
    codeAny (model c.prog c.w) A (.call (.ref f) ⟨vals, []⟩) (wants (PV c T ρ s v H') NoE) s
noncomputable def dCall (F : Fn) (ds : D (List SV)) : D SV := fun loc H => (ds loc H).bind fun (vs, H) => F vs H
noncomputable def isInst (C : Addr) (name : Str) (H : Hp) : SV → Bool
  | .ref p => match H[p]? with
    | some (.inst C' d) => C' == C && (match H[d]? with | some (.flds fs) => (fs.lookup name).isNone | _ => false)
    | _ => false
  | _ => false
noncomputable def dMeth (C : Addr) (name : Str) (F : Fn) (d : D SV) (ds : D (List SV)) : D SV := fun loc H => (d loc H).bind fun (o, H) => if isInst C name H o then (ds loc H).bind fun (vs, H) => F (o :: vs) H else none
noncomputable def fNew (C : Addr) (F : Fn) : Fn := fun vs H => (F (.ref (H.length + 1) :: vs) (H ++ [.flds [], .inst C H.length])).bind fun (r, H') => match r with | .none => some (.ref (H.length + 1), H') | _ => none
theorem isInst_inv {C : Addr} {name : Str} {H : Hp} {o : SV} (h : isInst C name H o = true) : ∃ p dd fs, o = .ref p ∧ H[p]? = some (.inst C dd) ∧ H[dd]? = some (.flds fs) ∧ fs.lookup name = none := by
  cases o with
  | ref p =>
    unfold isInst at h; dsimp only at h
    rcases e : H[p]? with _ | so
    · first | exact sN e h | exact sN h e | (rw [e] at h; cases h)
    rw [e] at h
    cases so with
    | inst C' dd =>
      dsimp only at h
      rw [Bool.and_eq_true] at h
      obtain ⟨hC, h⟩ := h
      rcases e2 : H[dd]? with _ | so
      · first | exact sN e2 h | exact sN h e2 | (rw [e2] at h; cases h)
      rw [e2] at h
      cases so with
      | flds fs => exact ⟨p, dd, fs, rfl, beq_iff_eq.mp hC ▸ e, e2, Option.isNone_iff_eq_none.mp h⟩
      | _ => cases h
    | _ => cases h
  | _ => cases h
theorem newI {C : Addr} {F : Fn} {vs : List SV} {H H' : Hp} {v : SV} (e : fNew C F vs H = some (v, H')) : F (.ref (H.length + 1) :: vs) (H ++ [.flds [], .inst C H.length]) = some (.none, H') ∧ v = .ref (H.length + 1) := by
  refine bE e fun r H1 e1 e2 => ?_
  cases r with
  | none => cases e2; exact ⟨e1, rfl⟩
  | _ => exact nS e2
section
variable {c : Cx} {k : Nat} {sc : Scope} {vars : List Str}
theorem back_plain {pos : Pos} {env : Env} : ∀ {es : List Expr}, (starEach es env).any (·.1) = false → (backTo pos (starEach es env)).any (·.1) = false := by
  intro es h
  unfold backTo
  rw [List.any_map]
  exact h
theorem evalArgs_none' {M : Model} {A : Around} {E : Value → Shared → Prop} {s : Shared} {f : Value} {Q : Args → Shared → Prop} (h : wpAny M A (spliced []) (fun vs s' => Q ⟨vs, []⟩ s') E s) : wpAny M A (evalArgs f true [] []) Q E s := by
  unfold evalArgs
  show wpAny M A (spliced [] >>= _) Q E s
  refine wpAny_bind (wpAny_mono h (fun vs s' h' => ?_) fun _ _ x => x)
  refine wpAny_holding ?_
  exact wpAny_bind (wpAny_pure (wpAny_bind (wpAny_pure (wpAny_pure h'))))
theorem star1 {e : Expr} {rest : List Expr} {env : Env} (hp : (starEach (e :: rest) env).any (·.1) = false) : starEach (e :: rest) env = (false, eval e env) :: starEach rest env ∧ (starEach rest env).any (·.1) = false := by
  have hs : starEach (e :: rest) env = (false, eval e env) :: starEach rest env := by
    cases e <;> first | rfl | exact Bool.noConfusion (show true = false from hp)
  exact ⟨hs, by rw [hs] at hp; exact hp⟩
theorem callWith_any {A : Around} {env : Env} {pos : Pos} {f : Value} {first : List Value} {args : List Expr} {s : Shared} {Q : Value → Shared → Prop} (hK : c.K.In s.heap) (hk : keepIn c.K f = true) (hp : ∀ env, (starEach args env).any (·.1) = false) (hl : args.length ≠ 0 ∨ True)
    (h : wpAny (model c.prog c.w) A (spliced (backTo pos (starEach args env))) (fun vs s₁ => c.K.In s₁.heap ∧ wpAny (model c.prog c.w) A (call f (first ++ vs)) Q NoE s₁) NoE s) :
    wpAny (model c.prog c.w) A (callWith pos f first (backTo pos (starEach args env)) []) Q NoE s := by
  cases args with
  | nil =>
    exact callWith_of (P := c.K.In) (by rfl) (keeps_K hk) (evalArgs_none' h)
  | cons e rest =>
    obtain ⟨hs, hr⟩ := star1 (hp env)
    exact callWith_K (h₀ := s.heap) hK hk h hs (back_plain hr)
theorem ES.call {f : Str} {p pos : Pos} {args : List Expr} {fa : Addr} {F : Fn} {ds : D (List SV)} (hx : sc.names.lookup f = some .globalImplicit) (hv : nsIn c.K mainGlobals f = some (some (.ref fa))) (hkp : keepIn c.K (.ref fa) = true) (hF : FS c k fa F) (hs : EL c k sc vars args ds)
    (hd : (f == ("__debug__" : Str)) = false) (hp : ∀ env, (starEach args env).any (·.1) = false) : ES c k sc vars (.Call (.Name f p) args [] pos) (dCall F ds) := fun A env T ρ H loc s v H' hh hk hE R L e => by
  refine bE e fun vs H1 e1 e2 => ?_; clear e
  try dsimp only at e2
  refine Call_Name rfl (glob_is hE R hx hv ?_ hd)
  refine callWith_any R.kin hkp hp (.inr trivial) (wpAny_mono (hs pos hh hk hE R L e1) (fun vals s1 p1 => ?_) fun _ _ x => x)
  refine p1.el fun T1 ρ1 t1 r1 R1 V1 q1 => ?_
  refine ⟨R1.kin, wpAny_call ?_⟩
  refine codeAny_mono (hF hh hk R1 V1 e2) fun r s' z => ?_
  rcases r with e | (v | _ | _ | _) <;> first | exact z | exact z.elim | exact PV.from z t1 r1 q1
noncomputable def MethOK (c : Cx) (C : Addr) (name : Str) (f : Addr) : Prop := plainGet c.K C name = true ∧ findIn c.K (.ref C) name = some (some (.ref f)) ∧ isFn c.K (.ref f) = true ∧ keepIn c.K (.ref f) = true
theorem ES.meth {o : Expr} {name : Str} {apos pos : Pos} {args : List Expr} {C fa : Addr} {F : Fn} {d : D SV} {ds : D (List SV)} (ho : ES c k sc vars o d) (hM : MethOK c C name fa) (hF : FS c k fa F) (hs : EL c k sc vars args ds)
    (hp : ∀ env, (starEach args env).any (·.1) = false) (pl : Env → Sem Bool)
    (he : ∀ env, eval (.Call (.Attribute o name apos) args [] pos) env = (do
      let ov ← eval o env
      standAt apos.atName
      let (f, first) ← holding [ov] (getMethod ov name (pl env))
      callWith pos f first (backTo pos (starEach args env)) [])) : ES c k sc vars (.Call (.Attribute o name apos) args [] pos) (dMeth C name F d ds) := fun A env T ρ H loc s v H' hh hk hE R L e => by
  refine bE e fun a H1 e1 e2 => ?_; clear e
  try dsimp only at e2
  refine ifE e2 fun hi ea => ?_; clear e2
  refine bE ea fun vs H2 e2 e3 => ?_; clear ea
  try dsimp only at e3
  refine MethodCall_ (pl := pl env) (wpAny_mono (ho hh hk hE R L e1) (fun va s1 p1 => ?_) fun _ _ x => x) (he env)
  refine p1.el fun T1 ρ1 t1 r1 R1 V1 q1 => ?_
  obtain ⟨p, dd, fs, rfl, hp', hd, hn⟩ := isInst_inv hi
  obtain ⟨x, rfl, ra⟩ := V1.ref_inv
  obtain ⟨dx, od, es, ep, rd, I, gd, hod, hk', Fl⟩ := R1.inst ra hp' hd
  have := Fl name
  rw [hn] at this
  obtain ⟨g1, g2, g3, g4⟩ := hM
  refine method_fn R1.kin I (plainGet_of g1).1 (plainGet_of g1).2 g2 (beq_iff_eq.mp g3) (by show (lookIn name od).map _ = _; rw [lookIn_flds hod hk' name, this]; rfl) ?_
  refine callWith_any R1.kin g4 hp (.inr trivial) (wpAny_mono (hs pos hh hk hE R1 (L.mono t1 r1) e2) (fun vals s2 p2 => ?_) fun _ _ x => x)
  refine p2.el fun T2 ρ2 t2 r2 R2 V2 q2 => ?_
  refine ⟨R2.kin, wpAny_call ?_⟩
  refine codeAny_mono (hF hh hk R2 (.cons (V1.mono t2.t r2) V2) e3) fun r s' z => ?_
  rcases r with e | (v | _ | _ | _) <;> first | exact z | exact z.elim | exact PV.from z (t1.trans t2) (r1.trans r2) (q1.trans q2)
noncomputable def MakeOK (c : Cx) (C fI : Addr) : Prop := makesIn c.K C = true ∧ findIn c.K (.ref C) "__init__" = some (some (.ref fI)) ∧ isFn c.K (.ref fI) = true
theorem FS.new {C fI : Addr} {F : Fn} (hM : MakeOK c C fI) (hF : FS c k fI F) : FS c (k + 1) C (fNew C F) := fun A T ρ H s svs vals v H' hh hk R V e => by
  obtain ⟨e1, rfl⟩ := newI e
  obtain ⟨m1, m2, m3⟩ := hM
  obtain ⟨hp, g, d, tk, os⟩ := s
  dsimp only at R
  have hA : (A.under (.builtin "type.__call__" ⟨.ref C :: vals, []⟩)).handled = none := hh
  have hW : (Code.builtin "type.__call__" ⟨.ref C :: vals, []⟩).weight = 1 := rfl
  have hU : (Code.builtin "type.__call__" ⟨.ref C :: vals, []⟩).cUnits ≤ 3 := by
    have e : (Code.builtin "type.__call__" ⟨.ref C :: vals, []⟩).cUnits = 1 := rfl
    lia
  have hk' : Room k (A.under (.builtin "type.__call__" ⟨.ref C :: vals, []⟩)) := by
    obtain ⟨h1, h2⟩ := hk
    refine ⟨?_, ?_⟩
    · show A.depth + (Code.builtin "type.__call__" ⟨.ref C :: vals, []⟩).weight + 4 * k ≤ 990
      rw [hW]; lia
    · show A.units + (Code.builtin "type.__call__" ⟨.ref C :: vals, []⟩).cUnits + 16 * k ≤ 9000
      lia
  have R1 : Rp c T (ρ ++ [hp.objs.size]) (H ++ [.flds []]) (hp.push emptyDict) := R.pushCell (so := .flds []) (o := emptyDict) ⟨#[], 0, rfl, (fun _ he => by simp at he), rfl, (fun x => by simp [nsFind, findBy])⟩ rfl
  have R2 : Rp c T (ρ ++ [hp.objs.size] ++ [(hp.push emptyDict).objs.size]) (H ++ [.flds []] ++ [.inst C H.length]) ((hp.push emptyDict).push (instObj C hp.objs.size)) := R1.pushCell (so := .inst C H.length) (o := instObj C hp.objs.size) ⟨hp.objs.size, by rw [← R.len]; simp, rfl⟩ rfl
  have pre : Pre ρ (ρ ++ [hp.objs.size] ++ [(hp.push emptyDict).objs.size]) := (Pre.snoc _ _).trans (Pre.snoc _ _)
  have Vx : Val T (ρ ++ [hp.objs.size] ++ [(hp.push emptyDict).objs.size]) (.ref (H.length + 1)) (.ref (hp.objs.size + 1)) := .ref (by rw [← R.len, Heap.size_push]; simp)
  refine make_core (makes_of R.kin m1) (looks_findIn R.kin m2) (fun self => bind_fn R.kin self (beq_iff_eq.mp m3)) (.inl rfl) ?_
  refine codeAny_mono (hF (s := ⟨(hp.push emptyDict).push (instObj C hp.objs.size), g, d, tk, os⟩) hA hk' R2 (.cons Vx (V.mono (LeT.refl _) pre)) (by simpa using e1)) fun r s' z => ?_
  rcases r with e | (v | _ | _ | _)
  · exact z
  · exact z
  · exact z
  · exact z
  · obtain ⟨T', ρ', a, b, R', V', q⟩ := z
    cases V'
    exact ⟨rfl, T', ρ', a, pre.trans b, R', Vx.mono a.t b, by unfold Same at q ⊢; rw [q]⟩
end
end Mine.Internal
end
section
open PySem PySem.W PyProof.Rows
open PyProof.Rows.LCg (NsObj ns_obj)
namespace Mine.Internal
set_option genInjectivity false in
inductive SF where
  | nxt
  | brk
  | cnt
  | ret (v : SV)
inductive FlRel (T : Tm) (ρ : List Addr) : SF → Flow → Prop
  | nxt : FlRel T ρ .nxt .next
  | brk : FlRel T ρ .brk .brk
  | cnt : FlRel T ρ .cnt .cont
  | ret {v : SV} {val : Value} : Val T ρ v val → FlRel T ρ (.ret v) (.ret val)
structure FrOK (env : Env) (T : Tm) (ρ : List Addr) (vars : List Str) (loc : Loc) : Prop where
  ns : ∃ o m, T env.locals = some o ∧ NsObj o m
  cells : ∀ x ∈ env.cells, ∃ o v, T x.2 = some o ∧ o.data = .cell v
  apart : env.cells.Pairwise fun x y => x.2 ≠ y.2
  nodup : vars.Nodup
  has : ∀ x, env.kindOf x = some .cell → (env.cells.lookup x).isSome = true
  loc : LocOK env T ρ vars loc
theorem FrOK.mono {env : Env} {T T' : Tm} {ρ ρ' : List Addr} {vars : List Str} {loc : Loc} (h : FrOK env T ρ vars loc) (t : Le T T') (r : Pre ρ ρ') : FrOK env T' ρ' vars loc :=
  ⟨let ⟨o, m, a, b⟩ := h.ns; ⟨o, m, t _ _ a, b⟩, fun x hx => let ⟨o, v, a, b⟩ := h.cells x hx; ⟨o, v, t _ _ a, b⟩, h.apart, h.nodup, h.has, h.loc.mono t r⟩
noncomputable def Own (env : Env) (T0 : Tm) : Prop := T0 env.locals = none ∧ ∀ x ∈ env.cells, T0 x.2 = none
noncomputable abbrev DS := Loc → Hp → Option (SF × Loc × Hp)
inductive PS (c : Cx) (T0 T : Tm) (ρ : List Addr) (env : Env) (vars : List Str) (s : Shared) (fl : SF) (loc' : Loc) (H' : Hp) (f : Flow) (s' : Shared) : Prop
  | mk (T' : Tm) (ρ' : List Addr) (le : Le T0 T') (lt : LeT T T') (pre : Pre ρ ρ') (R : Rp c T' ρ' H' s'.heap) (F : FrOK env T' ρ' vars loc') (fr : FlRel T' ρ' fl f) (q : Same s s')
theorem PS.from {c : Cx} {T0 T T1 : Tm} {ρ ρ1 : List Addr} {env : Env} {vars : List Str} {s s1 s' : Shared} {fl : SF} {loc' : Loc} {H' : Hp} {f : Flow} (h : PS c T0 T1 ρ1 env vars s1 fl loc' H' f s') (t : LeT T T1) (r : Pre ρ ρ1) (q : Same s s1) : PS c T0 T ρ env vars s fl loc' H' f s' := by
  obtain ⟨T', ρ', a, b, d, e, g, i, j⟩ := h
  exact ⟨T', ρ', a, t.trans b, r.trans d, e, g, i, q.trans j⟩
structure Inn (c : Cx) (k : Nat) (sc : Scope) (vars : List Str) (A : Around) (env : Env) (T0 T : Tm) (ρ : List Addr) (H : Hp) (loc : Loc) (s : Shared) : Prop where
  hh : A.handled = none
  room : Room k A
  eok : EnvOK sc env
  le : Le T0 T
  own : Own env T0
  top : ∀ a o, c.h₀.get? a = some o → T0 a = some o
  R : Rp c T ρ H s.heap
  fr : FrOK env T ρ vars loc
noncomputable def SJ (c : Cx) (k : Nat) (sc : Scope) (vars : List Str) (t : Env → Sem Flow) (d : DS) : Prop :=
  ∀ ⦃A : Around⦄ ⦃env : Env⦄ ⦃T0 T : Tm⦄ ⦃ρ : List Addr⦄ ⦃H : Hp⦄ ⦃loc : Loc⦄ ⦃s : Shared⦄ ⦃fl : SF⦄ ⦃loc' : Loc⦄ ⦃H' : Hp⦄, Inn c k sc vars A env T0 T ρ H loc s → d loc H = some (fl, loc', H') →
    wpAny (model c.prog c.w) A (t env) (PS c T0 T ρ env vars s fl loc' H') NoE s
noncomputable abbrev SX (c : Cx) (k : Nat) (sc : Scope) (vars : List Str) (st : Stmt) (d : DS) : Prop := SJ c k sc vars (exec st) d
noncomputable abbrev SS (c : Cx) (k : Nat) (sc : Scope) (vars : List Str) (st : List Stmt) (d : DS) : Prop := SJ c k sc vars (execs st) d
noncomputable def sFail : DS := fun _ _ => none
noncomputable def sNil : DS := fun loc H => some (.nxt, loc, H)
noncomputable def sCons (a b : DS) : DS := fun loc H => (a loc H).bind fun (f, loc, H) => match f with | .nxt => b loc H | f => some (f, loc, H)
noncomputable def setL (loc : Loc) (i : Nat) (v : SV) : Loc := loc.set i (some v)
noncomputable def sAssign (i : Nat) (d : D SV) : DS := fun loc H => (d loc H).bind fun (v, H) => if i < loc.length then some (.nxt, setL loc i v, H) else none
noncomputable def plainV : SV → Bool
  | .none => true
  | .int _ => true
  | .bool _ => true
  | .str _ => true
  | _ => false
noncomputable def sExpr (d : D SV) : DS := fun loc H => (d loc H).bind fun (v, H) => if plainV v then some (.nxt, loc, H) else none
noncomputable def sRet (d : D SV) : DS := fun loc H => (d loc H).bind fun (v, H) => some (.ret v, loc, H)
noncomputable def sRet0 : DS := fun loc H => some (.ret .none, loc, H)
noncomputable def sIf (t : D Bool) (a b : DS) : DS := fun loc H => (t loc H).bind fun (x, H) => if x then a loc H else b loc H
noncomputable def sBrk : DS := fun loc H => some (.brk, loc, H)
noncomputable def sCnt : DS := fun loc H => some (.cnt, loc, H)
section
variable {c : Cx} {k : Nat} {sc : Scope} {vars : List Str}
theorem SX.fail {st : Stmt} : SX c k sc vars st sFail := fun A env T0 T ρ H loc s fl loc' H' I e => by cases e
theorem SS.nil : SS c k sc vars [] sNil := fun A env T0 T ρ H loc s fl loc' H' I e => by
  refine sE3 e ?_
  exact wpAny_execs_nil ⟨T, ρ, I.le, LeT.refl _, Pre.refl _, I.R, I.fr, .nxt, rfl⟩
theorem SS.cons {st : Stmt} {rest : List Stmt} {a b : DS} (ha : SX c k sc vars st a) (hb : SS c k sc vars rest b) : SS c k sc vars (st :: rest) (sCons a b) := fun A env T0 T ρ H loc s fl loc' H' I e => by
  refine tE e fun f1 l1 H1 e1 e2 => ?_; clear e
  try dsimp only at e2
  refine wpAny_execs_cons (wpAny_mono (ha I e1) (fun f s1 p => ?_) fun _ _ x => x)
  obtain ⟨T1, ρ1, a1, b1, d1, R1, F1, G1, q1⟩ := p
  cases G1 with
  | nxt => exact wpAny_mono (hb ⟨I.hh, I.room, I.eok, a1, I.own, I.top, R1, F1⟩ e2) (fun f s2 p => p.from b1 d1 q1) fun _ _ x => x
  | brk => refine sE3 e2 ?_; exact ⟨T1, ρ1, a1, b1, d1, R1, F1, .brk, q1⟩
  | cnt => refine sE3 e2 ?_; exact ⟨T1, ρ1, a1, b1, d1, R1, F1, .cnt, q1⟩
  | ret V => refine sE3 e2 ?_; exact ⟨T1, ρ1, a1, b1, d1, R1, F1, .ret V, q1⟩
theorem notTup_dict {o : Obj} {m : Str → Option Value} (h : NsObj o m) : ¬ IsTupO o := by
  obtain ⟨es, ep, hd, _⟩ := h
  rintro ⟨_, items, n, h⟩; rw [hd] at h; cases h
theorem notTup_cell {o : Obj} {v : Option Value} (hd : o.data = .cell v) : ¬ IsTupO o := by
  rintro ⟨_, items, n, h⟩; rw [hd] at h; cases h
noncomputable def Stor (sc : Scope) (x : Str) : Prop := sc.names.lookup x = some .local ∨ sc.names.lookup x = some .cell
theorem store_ok {A : Around} {env : Env} {T0 T : Tm} {ρ : List Addr} {H : Hp} {loc : Loc} {s : Shared} {i : Nat} {x : Str} {v : SV} {val : Value} {Q : Unit → Shared → Prop} (hE : EnvOK sc env) (le : Le T0 T) (own : Own env T0) (top : ∀ a o, c.h₀.get? a = some o → T0 a = some o)
    (R : Rp c T ρ H s.heap) (fr : FrOK env T ρ vars loc) (hx : vars[i]? = some x) (hk : Stor sc x) (hi : i < loc.length) (V : Val T ρ v val)
    (h : ∀ T' s', Le T0 T' → LeT T T' → Rp c T' ρ H s'.heap → FrOK env T' ρ vars (setL loc i v) → Same s s' → Q () s') : wpAny (model c.prog c.w) A (storeName env x val) Q NoE s := by
  have hfun : env.scope.kind = .function := hE.scope ▸ hE.kind
  have n0 : ∀ a, T0 a = none → c.h₀.get? a = none := fun a ha => leN top ha
  obtain ⟨oL, m, tL, nL⟩ := fr.ns
  have locs : ∀ (T' : Tm), LeT T T' → (∀ y w, y ≠ x → NameIs env T y w → NameIs env T' y w) → NameIs env T' x val → LocOK env T' ρ vars (setL loc i v) := fun T' lt ky kx j y u hy hj => by
    unfold setL at hj
    by_cases hij : i = j
    · subst hij
      first | exact sN hx hy | exact sN hy hx | (rw [hx] at hy; cases hy)
      first | exact sN (List.getElem?_set_self hi) hj | exact sN hj (List.getElem?_set_self hi) | (rw [List.getElem?_set_self hi] at hj; cases hj)
      exact ⟨val, kx, V.mono lt (Pre.refl _)⟩
    · rw [List.getElem?_set_ne hij] at hj
      obtain ⟨w, n, z⟩ := fr.loc j y u hy hj
      refine ⟨w, ky y w (fun q => ?_) n, z.mono lt (Pre.refl _)⟩
      subst q
      exact hij ((List.getElem?_inj (List.getElem?_eq_some_iff.mp hx).1 fr.nodup).mp (hx.trans hy.symm))
  rcases hk with hk | hk
  · have hl : env.kindOf x = some .local := by unfold Env.kindOf; rw [hE.scope]; exact hk
    refine wpAny_storeName_local hl (nL.ns (R.base _ _ tL)) (fun h' hn hs => ?_) (by rw [hfun]; rfl)
    obtain ⟨o', g', n'⟩ := ns_obj hn
    have lt : LeT T (upd T env.locals o') := LeT.upd fun y e => sB tL e (notTup_dict nL)
    have cellNe : ∀ a o w, T a = some o → o.data = .cell w → a ≠ env.locals := fun a o w e d q => by
      subst q; rw [tL] at e; cases e; obtain ⟨es, ep, hd, _⟩ := nL; rw [hd] at d; cases d
    refine h (upd T env.locals o') _ (le.upd' own.1) lt (R.setT tL (notTup_dict nL) (n0 _ own.1) (fun b y n e => (hs.2 b n).trans e) g') ⟨⟨o', _, upd_self .., n'⟩, fun y hy => ?_, fr.apart, fr.nodup, fr.has, locs _ lt (fun y w hne n => ?_) (.inl ⟨hl, o', _, upd_self .., n', by simp⟩)⟩ rfl
    · obtain ⟨o, w, e, d⟩ := fr.cells y hy
      exact ⟨o, w, by rw [upd_ne (cellNe _ _ _ e d)]; exact e, d⟩
    · rcases n with ⟨kd, o, m2, e, q, hv⟩ | ⟨kd, a, o, l, e, q⟩
      · first | exact sN tL e | exact sN e tL | (rw [tL] at e; cases e)
        refine .inl ⟨kd, o', _, upd_self .., n', ?_⟩
        obtain ⟨es, ep, hd, _, hf⟩ := nL; obtain ⟨es2, ep2, hd2, _, hf2⟩ := q
        first | exact sN hd hd2 | exact sN hd2 hd | (rw [hd] at hd2; cases hd2)
        rw [if_neg hne, ← hf y, hf2 y]; exact hv
      · exact .inr ⟨kd, a, o, l, by rw [upd_ne (cellNe _ _ _ e q)]; exact e, q⟩
  · have hl : env.kindOf x = some .cell := by unfold Env.kindOf; rw [hE.scope]; exact hk
    obtain ⟨a, ha⟩ := Option.isSome_iff_exists.mp (fr.has x hl)
    have hmem := mem_of_lookup ha
    obtain ⟨o, w, e, d⟩ := fr.cells _ hmem
    refine wpAny_storeName_cell hfun hl ha ⟨o, R.base _ _ e, d⟩ fun h' hc hs => ?_
    obtain ⟨o', g', d'⟩ := hc
    have lt : LeT T (upd T a o') := LeT.upd fun y e' => by rw [e] at e'; cases e'; exact notTup_cell d
    have aL : env.locals ≠ a := fun q => by
      rw [q, e] at tL; cases tL; obtain ⟨es, ep, hd, _⟩ := nL; rw [hd] at d; cases d
    refine h (upd T a o') _ (le.upd' (own.2 _ hmem)) lt (R.setT e (notTup_cell d) (n0 _ (own.2 _ hmem)) (fun b y n e => (hs.2 b n).trans e) g') ⟨⟨oL, m, by rw [upd_ne aL]; exact tL, nL⟩, fun y hy => ?_, fr.apart, fr.nodup, fr.has, locs _ lt (fun y u hne n => ?_) (.inr ⟨.inl hl, a, o', ha, upd_self .., d'⟩)⟩ rfl
    · by_cases q : y.2 = a
      · exact ⟨o', _, by rw [q]; exact upd_self .., d'⟩
      · obtain ⟨o2, w2, e2, d2⟩ := fr.cells y hy
        exact ⟨o2, w2, by rw [upd_ne q]; exact e2, d2⟩
    · rcases n with ⟨kd, o2, m2, e2, q, hv⟩ | ⟨kd, b, o2, l, e2, q⟩
      · exact .inl ⟨kd, o2, m2, by rw [upd_ne aL]; exact e2, q, hv⟩
      · have : b ≠ a := fun z => hne (name_of_addr fr.apart (mem_of_lookup l) (z ▸ hmem))
        exact .inr ⟨kd, b, o2, l, by rw [upd_ne this]; exact e2, q⟩
end
end Mine.Internal
end
section
open PySem PySem.W PyProof.Rows
open PyProof.Rows.LCg (NsObj ns_obj)
namespace Mine.Internal
section
variable {c : Cx} {k : Nat} {sc : Scope} {vars : List Str}
theorem Inn.ev {A : Around} {env : Env} {T0 T : Tm} {ρ : List Addr} {H : Hp} {loc : Loc} {s : Shared} (I : Inn c k sc vars A env T0 T ρ H loc s) {t : Env → Sem Value} {d : D SV} {v : SV} {H1 : Hp} (h : Ev c k sc vars t d) (e : d loc H = some (v, H1)) : wpAny (model c.prog c.w) A (t env) (PV c T ρ s v H1) NoE s :=
  h I.hh I.room I.eok I.R I.fr.loc e
theorem Inn.next {A : Around} {env : Env} {T0 T T1 : Tm} {ρ ρ1 : List Addr} {H H1 : Hp} {loc : Loc} {s s1 : Shared} (I : Inn c k sc vars A env T0 T ρ H loc s) (t : Le T T1) (r : Pre ρ ρ1) (R : Rp c T1 ρ1 H1 s1.heap) : Inn c k sc vars A env T0 T1 ρ1 H1 loc s1 :=
  ⟨I.hh, I.room, I.eok, I.le.trans t, I.own, I.top, R, I.fr.mono t r⟩
theorem Inn.done {A : Around} {env : Env} {T0 T : Tm} {ρ : List Addr} {H : Hp} {loc : Loc} {s : Shared} (I : Inn c k sc vars A env T0 T ρ H loc s) {fl : SF} {f : Flow} (h : FlRel T ρ fl f) : PS c T0 T ρ env vars s fl loc H f s :=
  ⟨T, ρ, I.le, LeT.refl _, Pre.refl _, I.R, I.fr, h, rfl⟩
theorem Inn.store {A : Around} {env : Env} {T0 T : Tm} {ρ : List Addr} {H : Hp} {loc : Loc} {s : Shared} (I : Inn c k sc vars A env T0 T ρ H loc s) {i : Nat} {x : Str} {v : SV} {val : Value} {Q : Unit → Shared → Prop} (hx : vars[i]? = some x) (hk : Stor sc x) (hi : i < loc.length) (V : Val T ρ v val)
    (h : ∀ T' s', LeT T T' → Inn c k sc vars A env T0 T' ρ H (setL loc i v) s' → Same s s' → Q () s') : wpAny (model c.prog c.w) A (storeName env x val) Q NoE s :=
  store_ok I.eok I.le I.own I.top I.R I.fr hx hk hi V fun T' s' a b R F q => h T' s' b ⟨I.hh, I.room, I.eok, a, I.own, I.top, R, F⟩ q
theorem SX.assign {x : Str} {xp pos : Pos} {e : Expr} {d : D SV} (i : Nat) (h : ES c k sc vars e d) (hx : vars[i]? = some x) (hk : Stor sc x) (hs : ∀ env, swapsWith e (some (.Name x xp)) pos.line env = pure false) : SX c k sc vars (.Assign [.Name x xp] e pos) (sAssign i d) := fun A env T0 T ρ H loc s fl loc' H' I e => by
  refine bE e fun v H1 e1 e2 => ?_; clear e
  try dsimp only at e2
  refine ifE e2 fun hi e2 => ?_
  refine sE3 e2 ?_
  refine wpAny_Assign_Name (wpAny_mono (I.ev h e1) (fun val s1 p => ?_) fun _ _ x => x) (hs env)
  refine p.el fun T1 ρ1 t1 r1 R1 V1 q1 => ?_
  refine (I.next t1 r1 R1).store hx hk hi V1 fun T' s' lt I' q => (I'.done .nxt).from (t1.t.trans lt) r1 (q1.trans q)
theorem SX.expr {e : Expr} {pos : Pos} {d : D SV} (h : ES c k sc vars e d) (hs : ∀ env, swapsWith e none pos.line env = pure false) : SX c k sc vars (.Expr e pos) (sExpr d) := fun A env T0 T ρ H loc s fl loc' H' I e => by
  refine bE e fun v H1 e1 e2 => ?_; clear e
  try dsimp only at e2
  refine ifE e2 fun hp e2 => ?_
  refine sE3 e2 ?_
  refine wpAny_Expr (wpAny_mono (I.ev h e1) (fun val s1 p => ?_) fun _ _ x => x) (by unfold interactive; rw [I.eok.scope, I.eok.kind]; rfl) (hs env)
  refine p.el fun T1 ρ1 t1 r1 R1 V1 q1 => ?_
  have z := ((I.next t1 r1 R1).done .nxt).from t1.t r1 q1
  cases V1 <;> first | exact z | cases hp
theorem SX.ret {e : Expr} {pos : Pos} {d : D SV} (h : ES c k sc vars e d) : SX c k sc vars (.Return (some e) pos) (sRet d) := fun A env T0 T ρ H loc s fl loc' H' I e => by
  refine bE e fun v H1 e1 ez => ?_; clear e
  refine sE3 ez ?_
  refine wpAny_Return_some (wpAny_mono (I.ev h e1) (fun val s1 p => ?_) fun _ _ x => x)
  refine p.el fun T1 ρ1 t1 r1 R1 V1 q1 => ?_
  exact ((I.next t1 r1 R1).done (.ret V1)).from t1.t r1 q1
theorem SX.ret0 {pos : Pos} : SX c k sc vars (.Return none pos) sRet0 := fun A env T0 T ρ H loc s fl loc' H' I e => by
  simp only [sRet0, Option.some.injEq, Prod.mk.injEq] at e
  obtain ⟨rfl, rfl, rfl⟩ := e
  exact wpAny_Return_none (I.done (.ret .none))
theorem SX.brk {pos : Pos} : SX c k sc vars (.Break pos) sBrk := fun A env T0 T ρ H loc s fl loc' H' I e => by
  simp only [sBrk, Option.some.injEq, Prod.mk.injEq] at e
  obtain ⟨rfl, rfl, rfl⟩ := e
  exact wpAny_Break (I.done .brk)
theorem SX.cnt {pos : Pos} : SX c k sc vars (.Continue pos) sCnt := fun A env T0 T ρ H loc s fl loc' H' I e => by
  simp only [sCnt, Option.some.injEq, Prod.mk.injEq] at e
  obtain ⟨rfl, rfl, rfl⟩ := e
  exact wpAny_Continue (I.done .cnt)
theorem SX.iff {t : Expr} {a b : List Stmt} {pos : Pos} {dt : D Bool} {da db : DS} (ht : ET c k sc vars t dt) (ha : SS c k sc vars a da) (hb : SS c k sc vars b db) : SX c k sc vars (.If t a b pos) (sIf dt da db) := fun A env T0 T ρ H loc s fl loc' H' I e => by
  refine bE e fun x H1 e1 e2 => ?_; clear e
  try dsimp only at e2
  refine wpAny_If (wpAny_mono (ht I.hh I.room I.eok I.R I.fr.loc e1) (fun va s1 p1 => ?_) fun _ _ x => x)
  obtain ⟨T1, ρ1, t1, r1, R1, rfl, q1⟩ := p1
  cases va with
  | true =>
    exact wpAny_mono (ha (I.next t1 r1 R1) e2) (fun f s2 p => p.from t1.t r1 q1) fun _ _ x => x
  | false =>
    exact wpAny_mono (hb (I.next t1 r1 R1) e2) (fun f s2 p => p.from t1.t r1 q1) fun _ _ x => x
noncomputable def sWhile (t : D Bool) (b : DS) : Nat → DS
  | 0 => fun _ _ => none
  | W + 1 => fun loc H => (t loc H).bind fun (x, H) => if x then (b loc H).bind fun (f, loc, H) => match f with
      | .nxt => sWhile t b W loc H
      | .cnt => sWhile t b W loc H
      | .brk => some (.nxt, loc, H)
      | .ret v => some (.ret v, loc, H)
    else some (.nxt, loc, H)
inductive WJ (c : Cx) (k : Nat) (sc : Scope) (vars : List Str) (A : Around) (env : Env) (T0 T : Tm) (ρ : List Addr) (s : Shared) (F : Nat → DS) (r : SF × Loc × Hp) (n : Nat) (s1 : Shared) : Prop
  | mk (T1 : Tm) (ρ1 : List Addr) (H1 : Hp) (loc1 : Loc) (lt : LeT T T1) (pr : Pre ρ ρ1) (q : Same s s1) (I : Inn c k sc vars A env T0 T1 ρ1 H1 loc1 s1) (e : F n loc1 H1 = some r)
theorem SX.while {t : Expr} {b : List Stmt} {pos : Pos} {dt : D Bool} {db : DS} (ht : ET c k sc vars t dt) (hb : SS c k sc vars b db) (W : Nat) : SX c k sc vars (.While t b [] pos) (sWhile dt db W) := fun A env T0 T ρ H loc s fl loc' H' I e => by
  refine wpAny_While (codeAny_whileLoop (WJ c k sc vars A env T0 T ρ s (sWhile dt db) (fl, loc', H')) ?_ W ⟨T, ρ, H, loc, LeT.refl _, Pre.refl _, rfl, I, e⟩)
  rintro n s1 ⟨T1, ρ1, H1, loc1, lt, pr, q, I1, e1⟩
  cases n with
  | zero => exact nS e1
  | succ n =>
    obtain ⟨x, H2, e2, e3⟩ := bIn e1; clear e1
    try dsimp only at e3
    refine wpAny_mono (ht I1.hh I1.room I1.eok I1.R I1.fr.loc e2) (fun va s2 p => ?_) fun _ _ x => x.elim
    obtain ⟨T2, ρ2, t2, r2, R2, rfl, q2⟩ := p
    have I2 := I1.next t2 r2 R2
    cases va with
    | false =>
      refine sE3 e3 ?_
      exact wpAny_execs_nil ((I2.done .nxt).from (lt.trans t2.t) (pr.trans r2) (q.trans q2))
    | true =>
      refine tE (show (db loc1 H2).bind _ = some _ from e3) fun f l3 H3 e3 e4 => ?_
      refine wpAny_mono (hb I2 e3) (fun g s3 p => ?_) fun _ _ x => x.elim
      obtain ⟨T3, ρ3, a3, b3, d3, R3, F3, G3, q3⟩ := p
      have I3 : Inn c k sc vars A env T0 T3 ρ3 H3 l3 s3 := ⟨I.hh, I.room, I.eok, a3, I.own, I.top, R3, F3⟩
      have lt3 : LeT T T3 := (lt.trans t2.t).trans b3
      have pr3 : Pre ρ ρ3 := (pr.trans r2).trans d3
      have qq : Same s s3 := (q.trans q2).trans q3
      cases G3 with
      | nxt => exact ⟨n, Nat.lt_succ_self _, T3, ρ3, H3, l3, lt3, pr3, qq, I3, e4⟩
      | cnt => exact ⟨n, Nat.lt_succ_self _, T3, ρ3, H3, l3, lt3, pr3, qq, I3, e4⟩
      | brk =>
        refine sE3 e4 ?_
        exact (I3.done .nxt).from lt3 pr3 qq
      | ret V =>
        refine sE3 e4 ?_
        exact (I3.done (.ret V)).from lt3 pr3 qq
noncomputable def setLs : Loc → List Nat → List SV → Option Loc
  | loc, [], [] => some loc
  | loc, i :: is, v :: vs => if i < loc.length then setLs (setL loc i v) is vs else none
  | _, _, _ => none
noncomputable def sUnpack (is : List Nat) (d : D SV) : DS := fun loc H => (d loc H).bind fun (v, H) => match v with
  | .tup vs => (setLs loc is vs).bind fun loc => some (.nxt, loc, H)
  | _ => none
noncomputable abbrev Targ := Str × Pos × Nat
theorem setLs_len : ∀ {is : List Nat} {vs : List SV} {loc loc' : Loc}, setLs loc is vs = some loc' → is.length = vs.length := by
  intro is
  induction is with
  | nil => intro vs loc loc' e; cases vs with | nil => rfl | cons _ _ => exact nS e
  | cons i is ih =>
    intro vs loc loc' e
    cases vs with
    | nil => exact nS e
    | cons v vs => exact congrArg (· + 1) (ih (ifI e).2)
theorem assignEach_len (env : Env) : ∀ es : List Expr, (assignEach es env).length = es.length := by
  intro es
  induction es with
  | nil => rfl
  | cons e es ih => cases e <;> exact congrArg (· + 1) ih
theorem assign_names {A : Around} {env : Env} {T0 : Tm} {ρ : List Addr} {H : Hp} {Q : Unit → Shared → Prop} : ∀ {xs : List Targ} {vs : List SV} {vals : List Value} {T : Tm} {loc loc' : Loc} {s : Shared}, Inn c k sc vars A env T0 T ρ H loc s →
    (∀ x ∈ xs, vars[x.2.2]? = some x.1 ∧ Stor sc x.1) → Vals T ρ vs vals → setLs loc (xs.map (·.2.2)) vs = some loc' →
    (∀ T' s', LeT T T' → Inn c k sc vars A env T0 T' ρ H loc' s' → Same s s' → Q () s') → wpAny (model c.prog c.w) A (assignInOrder ((assignEach (xs.map fun t => Expr.Name t.1 t.2.1) env).map (·.2)) vals) Q NoE s := by
  intro xs
  induction xs with
  | nil =>
    intro vs vals T loc loc' s I hk V e h
    cases V with
    | nil => obtain rfl := Option.some.inj e; exact wpAny_pure (h _ _ (LeT.refl _) I rfl)
    | cons _ _ => exact nS e
  | cons x xs ih =>
    intro vs vals T loc loc' s I hk V e h
    obtain ⟨x, p, i⟩ := x
    cases V with
    | nil => exact nS e
    | @cons v val vs vals hv hvs =>
      refine ifE e fun hlt e => ?_
      show wpAny _ _ (assignInOrder (assign (.Name x p) env :: (assignEach (xs.map fun t => Expr.Name t.1 t.2.1) env).map (·.2)) (val :: vals)) _ _ _
      have z := hk (x, p, i) (by simp)
      refine wpAny_bind (wpAny_holding (PyProof.Rows.assign_Name (I.store z.1 z.2 hlt hv fun T' s' lt I' q => ?_)))
      exact ih I' (fun y hy => hk y (List.mem_cons_of_mem _ hy)) (hvs.mono lt (Pre.refl _)) e fun T'' s'' lt' I'' q' => h T'' s'' (lt.trans lt') I'' (q.trans q')
theorem tupI {β : Type} {o : SV} {g : List SV → Option β} {r : β} (h : (match o with | .tup vs => g vs | _ => none) = some r) : ∃ vs, o = .tup vs ∧ g vs = some r := by
  cases o with
  | tup vs => exact ⟨vs, rfl, h⟩
  | _ => exact nS h
theorem SX.unpack {es : List Expr} {n : Nat} {tp pos : Pos} {e : Expr} {d : D SV} (xs : List Targ) (h : ES c k sc vars e d) (he : es = xs.map fun t => Expr.Name t.1 t.2.1) (hk : ∀ x ∈ xs, vars[x.2.2]? = some x.1 ∧ Stor sc x.1)
    (hs : ∀ env, swapsWithSole [.Tuple es n tp] e pos.line env = pure false) (hw : ∀ env, swappedStores [.Tuple es n tp] e env = pure none) (hst : ∀ env, (assignEach es env).findIdx? (·.1) = none) : SX c k sc vars (.Assign [.Tuple es n tp] e pos) (sUnpack (xs.map (·.2.2)) d) := fun A env T0 T ρ H loc s fl loc' H' I e => by
  refine bE e fun v H1 e1 e2 => ?_; clear e
  try dsimp only at e2
  obtain ⟨vs, rfl, e2⟩ := tupI e2
  refine oE e2 fun l2 e2 ez => ?_
  refine sE3 ez ?_
  refine PyProof.Rows.Assign_Tuple (wpAny_mono (I.ev h e1) (fun val s1 p => ?_) fun _ _ x => x) (hs env) (hw env)
  refine p.el fun T1 ρ1 t1 r1 R1 V1 q1 => ?_
  obtain ⟨a, vals, m, rfl, ta, Vs⟩ := V1.tup_inv
  rw [PyProof.Rows.assign_Tuple]
  refine wpAny_bind (wpAny_standAt ?_)
  show wpAny _ _ (PySem.unpack _ _) _ _ _
  unfold PySem.unpack
  have hlen : (assignEach es env).length = vals.toArray.size := by
    have l1 := Vs.length
    have l3 := setLs_len e2
    rw [assignEach_len, List.size_toArray, he]
    simp at l3 ⊢; lia
  rw [hst env, hlen]
  refine wpAny_bind (wpAny_holding (unpackItems_tuple I.hh ⟨_, R1.base _ _ ta, rfl, m, rfl⟩ fun h' he' => ?_))
  have R2 : Rp c T1 ρ1 H1 h' := R1.grow fun b o e z => he' b o (fun q => by subst q; exact absurd (Heap.lt_size e) (Nat.lt_irrefl _)) e
  subst he
  refine assign_names (I.next (s1 := { s1 with heap := h' }) t1 r1 R2) hk (by simpa using Vs) e2 fun T' s' lt I' q => ?_
  exact (I'.done .nxt).from (t1.t.trans lt) r1 (q1.trans (by unfold Same at q ⊢; rw [q]))
end
end Mine.Internal
end
section
open PySem PySem.W PyProof.Rows Builtin Builtin.ObjectAttr
open PyProof.Rows.LCg (NsObj ns_obj)
namespace Mine.Internal
noncomputable def putF (x : Str) (v : SV) : List (Str × SV) → List (Str × SV)
  | [] => [(x, v)]
  | e :: r => if e.1 == x then (x, v) :: r else e :: putF x v r
theorem putF_nil {x : Str} {v : SV} : putF x v [] = [(x, v)] := rfl
theorem putF_cons {x : Str} {v : SV} {e : Str × SV} {r : List (Str × SV)} : putF x v (e :: r) = if e.1 == x then (x, v) :: r else e :: putF x v r := rfl
theorem putF_lookup (x y : Str) (v : SV) : ∀ fs, (putF x v fs).lookup y = if y = x then some v else fs.lookup y := by
  intro fs
  induction fs with
  | nil =>
    simp only [putF_nil, List.lookup_cons]
    by_cases h : y = x
    · subst h; simp
    · have : (y == x) = false := beq_eq_false_iff_ne.mpr h
      rw [this]; simp [h]
  | cons e r ih =>
    obtain ⟨z, u⟩ := e
    rw [putF_cons]
    by_cases hz : (z == x) = true
    · rw [if_pos hz]
      have := beq_iff_eq.mp hz; subst this
      by_cases h : y = z
      · subst h; simp [List.lookup_cons]
      · have : (y == z) = false := beq_eq_false_iff_ne.mpr h
        simp [List.lookup_cons, this, h]
    · rw [if_neg hz]
      simp only [List.lookup_cons, ih]
      by_cases h : y = z
      · subst h
        have hzx : ¬ y = x := fun q => hz (by rw [q]; exact beq_self_eq_true _)
        simp [hzx]
      · have : (y == z) = false := beq_eq_false_iff_ne.mpr h
        rw [this]
theorem putF_len (x : Str) (v : SV) : ∀ fs, (putF x v fs).length = if (fs.lookup x).isSome then fs.length else fs.length + 1 := by
  intro fs
  induction fs with
  | nil => rfl
  | cons e r ih =>
    obtain ⟨z, u⟩ := e
    rw [putF_cons]
    by_cases hz : (z == x) = true
    · have := beq_iff_eq.mp hz; subst this
      simp [List.lookup_cons]
    · rw [if_neg hz]
      have : (x == z) = false := beq_eq_false_iff_ne.mpr fun q => hz (by rw [q]; exact beq_self_eq_true _)
      simp only [List.length_cons, ih, List.lookup_cons, this]
      cases (r.lookup x).isSome <;> rfl
theorem putF_le (x : Str) (v : SV) (fs : List (Str × SV)) : (putF x v fs).length ≤ fs.length + 1 := by
  rw [putF_len]
  cases (fs.lookup x).isSome
  · exact Nat.le_refl _
  · exact Nat.le_succ _
section
variable {c : Cx} {k : Nat} {sc : Scope} {vars : List Str}
noncomputable def SetOK (c : Cx) (C : Addr) (name : Str) : Prop :=
  findIn c.K (.ref C) "__setattr__" = some (some (.builtin "object.__setattr__")) ∧ plainOver c.K C = true ∧ takerIn c.K C name = some none ∧ hasDictIn c.K C = true
noncomputable def setFld (H : Hp) (C : Addr) (name : Str) (v : SV) : SV → Option Hp
  | .ref p => match H[p]? with
    | some (.inst C' d) => if C' = C then (match H[d]? with | some (.flds fs) => if fs.length < 1000 then some (H.set d (.flds (putF name v fs))) else none | _ => none) else none
    | _ => none
  | _ => none
theorem put_key {T : Tm} {ρ : List Addr} {s : Shared} {name : Str} {v : SV} {val : Value} {fs : List (Str × SV)} {od : Obj} {es : Array DictEntry} {ep : Nat} (V : Val T ρ v val) (hod : od.data = .dict es ep) (hk' : StrKeys es) (hsz : es.size = fs.length) (Fl : FldRep T ρ fs (nsFind es)) :
    ∃ es' ep', (Obj.putName name (PyData.keyHash c.w.params name) (.str name (s.toks + 1)) val od).data = .dict es' ep' ∧ StrKeys es' ∧ es'.size = (putF name v fs).length ∧ FldRep T ρ (putF name v fs) (nsFind es') := by
  obtain ⟨oc, odi, oda, osl⟩ := od
  dsimp only at hod; subst hod
  have fin : ∀ es' : Array DictEntry, (∀ y, nsFind es' y = if y = name then some val else nsFind es y) → FldRep T ρ (putF name v fs) (nsFind es') := fun es' hf y => by
    rw [putF_lookup, hf y]
    by_cases hy : y = name
    · subst hy; simp only [if_true]; exact ⟨val, rfl, V⟩
    · simp only [hy, if_false]; exact Fl y
  cases hi : es.findIdx? (·.key.isStr name) with
  | some i =>
    have hfound : (fs.lookup name).isSome = true := by
      have q := Fl name
      cases hl : fs.lookup name with
      | some _ => rfl
      | none =>
        rw [hl] at q
        exfalso
        unfold nsFind at q
        rw [findBy_of_findIdx?, hi] at q
        have := (Array.findIdx?_eq_some_iff_findIdx_eq.mp hi).1
        simp [Array.getElem?_eq_getElem this] at q
    refine ⟨es.modify i (fun e => { e with val := val }), ep, by simp only [Obj.putName_eq, Obj.putNameByArray, hi], hk'.modify _ _, by rw [Array.size_modify, hsz, putF_len, hfound, if_pos rfl], fin _ fun y => ?_⟩
    exact findBy_modify (fun n v => v.isStr n) Value.isStr_inj es name y val i hi
  | none =>
    have hnot : (fs.lookup name).isSome = false := by
      have q := Fl name
      cases hl : fs.lookup name with
      | none => rfl
      | some _ =>
        rw [hl] at q
        obtain ⟨u, q, _⟩ := q
        unfold nsFind at q
        rw [findBy_of_findIdx?, hi] at q
        cases q
    refine ⟨es.push ⟨PyData.keyHash c.w.params name, .str name (s.toks + 1), val⟩, ep + 1, by simp only [Obj.putName_eq, Obj.putNameByArray, hi], hk'.push _ _ _ _, by rw [Array.size_push, hsz, putF_len, hnot, if_neg Bool.false_ne_true], fin _ fun y => ?_⟩
    exact findBy_push (fun n v => v.isStr n) es name y _ _ val (fun y => by
      show (name == y) = decide (y = name)
      by_cases h : y = name
      · subst h; simp
      · have : ¬ name = y := fun e => h e.symm
        simp [h, this]) hi
theorem setFld_inv {H H' : Hp} {C : Addr} {name : Str} {a v : SV} (e : setFld H C name v a = some H') : ∃ p dd fs, a = .ref p ∧ H[p]? = some (.inst C dd) ∧ H[dd]? = some (.flds fs) ∧ fs.length < 1000 ∧ H.set dd (.flds (putF name v fs)) = H' := by
  cases a with
  | ref p =>
    unfold setFld at e; dsimp only at e
    generalize hp : H[p]? = x at e
    rcases x with _ | so
    · exact nS e
    cases so with
    | inst C' dd =>
      obtain ⟨rfl, e'⟩ := ifI e
      clear e
      generalize hx : H[dd]? = x at e'
      rcases x with _ | so
      · exact nS e'
      cases so with
      | flds fs => exact ⟨p, dd, fs, rfl, hp, hx, (ifI e').1, Option.some.inj (ifI e').2⟩
      | _ => exact nS e'
    | _ => exact nS e
  | _ => exact nS e
theorem setAttr_ok {A : Around} {T : Tm} {ρ : List Addr} {H H' : Hp} {s : Shared} {C : Addr} {name : Str} {o v : SV} {vo val : Value} {Q : Unit → Shared → Prop} (hS : SetOK c C name) (R : Rp c T ρ H s.heap) (Vo : Val T ρ o vo) (V : Val T ρ v val) (e : setFld H C name v o = some H')
    (h : ∀ h' tk, Rp c T ρ H' h' → Q () { s with heap := h', toks := tk }) : wpAny (model c.prog c.w) A (setAttr vo name val) Q NoE s := by
  obtain ⟨p, dd, fs, rfl, hp, hd, hlen, rfl⟩ := setFld_inv e
  refine Vo.refE fun x ra => ?_
  obtain ⟨_, o, g, dx, rd, rfl⟩ := R.atp ra hp
  obtain ⟨_, od, gd, es, ep, hod, hk', hsz, Fl⟩ := R.atp rd hd
  have I : InstAt s.heap x (instObj C dx) C (some od) := ⟨g, rfl, rfl, gd⟩
  obtain ⟨s1, s2, s3, s4⟩ := hS
  obtain ⟨cd, hc, hd'⟩ := any_some s4
  refine set_plain R.kin I s1 (osa_open (s := { s with toks := s.toks + 1 }) R.kin I s2 s3 fun b => ?_)
  refine wpAny_bind (wpAny_pure (wpAny_bind (wpAny_bind (wpAny_loadPart (s := { s with toks := s.toks + 1 }) g (wpAny_bind ((looks_clsIn (M := model c.prog c.w) R.kin hc).here (s := { s with toks := s.toks + 1 }) ?_))))))
  rw [hd']
  refine wpAny_pure (a := some dx) (wpAny_bind (wpAny_pure (wpAny_bind ?_)))
  unfold nsSet
  refine wpAny_bind (wpAny_bind (wpAny_askSetting (wpAny_pure (wpAny_bind (wpAny_mkText (wpAny_bind (wpAny_loadPart (s := { s with toks := s.toks + 1 + 1 }) gd ?_)))))))
  rw [hod]
  dsimp only
  have hno : (!es.any (·.key.isStr name) && es.any (·.refKey)) = false := by
    have : es.any (·.refKey) = false := by rw [← Array.any_toList]; exact strKeys_noRef hk'
    rw [this, Bool.and_false]
  rw [aRefKeyMayBeTheName_at, hno]
  refine wpAny_updatePart (s := { s with toks := s.toks + 1 + 1 }) gd ?_
  have key := put_key (c := c) (s := s) (name := name) V hod hk' hsz Fl
  obtain ⟨es', ep', e1, e2, e3, e4⟩ := key
  have gd' := Heap.get?_update_self (Obj.putName name (PyData.keyHash c.w.params name) (.str name (s.toks + 1)) val) gd (Obj.isFreed_of_dict e1)
  refine wpAny_bind (wpAny_lookBehind gd' (by
    rw [e1]; refine pastItsLine_dict ?_
    have := putF_le name v fs; rw [e3, sizeLine_eq]; lia) ?_)
  exact wpAny_pure (h _ _ (R.setSame rd (Heap.SameBut.update ..) gd' ⟨es', ep', e1, e2, e3, e4⟩))
noncomputable def sSetAttr (C : Addr) (name : Str) (do' d : D SV) : DS := fun loc H => (d loc H).bind fun (v, H) => (do' loc H).bind fun (o, H) => (setFld H C name v o).bind fun H => some (.nxt, loc, H)
theorem SX.setAttr {o e : Expr} {name : Str} {ap pos : Pos} {C : Addr} {do' d : D SV} (ho : ES c k sc vars o do') (h : ES c k sc vars e d) (hS : SetOK c C name) (hs : ∀ env, swapsWith e (some (.Attribute o name ap)) pos.line env = pure false) : SX c k sc vars (.Assign [.Attribute o name ap] e pos) (sSetAttr C name do' d) := fun A env T0 T ρ H loc s fl loc' H' I e => by
  refine bE e fun v H1 e1 ez => ?_; clear e
  refine bE ez fun a H2 e2 ez => ?_
  refine oE ez fun H3 e3 ez => ?_
  refine sE3 ez ?_
  refine plainObj_wpAny_Assign_Attribute (wpAny_mono (I.ev h e1) (fun val s1 p => ?_) fun _ _ x => x) (hs env)
  refine p.el fun T1 ρ1 t1 r1 R1 V1 q1 => ?_
  have I1 := I.next t1 r1 R1
  refine wpAny_mono (I1.ev ho e2) (fun vo s2 p => ?_) fun _ _ x => x
  refine p.el fun T2 ρ2 t2 r2 R2 V2 q2 => ?_
  have I2 := I1.next t2 r2 R2
  refine setAttr_ok hS R2 V2 (V1.mono t2.t r2) e3 fun h' tk R3 => ?_
  exact ((I2.next (s1 := { s2 with heap := h', toks := tk }) (Le.refl _) (Pre.refl _) R3).done .nxt).from (t1.t.trans t2.t) (r1.trans r2) ((q1.trans q2).trans rfl)
noncomputable def setIt (H : Hp) (v : SV) : SV → SV → Option Hp
  | .ref p, .int i => match H[p]? with
    | some (.lst xs) => if 0 ≤ i ∧ i.toNat < xs.length ∧ i < 1000000 then some (H.set p (.lst (xs.set i.toNat v))) else none
    | some (.dI es) => if es.length < 1000000 then some (H.set p (.dI (sto es i v))) else none
    | _ => none
  | .ref p, .str x => match H[p]? with
    | some (.dS es) => if es.length < 1000000 then some (H.set p (.dS (sto es x v))) else none
    | _ => none
  | .ref p, .tup xs => match H[p]?, intsOf xs with
    | some (.dT es), some ks => if es.length < 1000000 ∧ (look es ks).isNone then some (H.set p (.dT (es ++ [(ks, v)]))) else none
    | _, _ => none
  | _, _ => none
theorem tupKey_of {T : Tm} {ρ : List Addr} {xs : List SV} {a : Addr} {vs : List Value} {n : Nat} {ks : List Int} (ta : T a = some { cls := .type "tuple", data := .seq vs.toArray n }) (V : Vals T ρ xs vs) (e : intsOf xs = some ks) : TupKey c.prog c.w T ks a := by
  refine ⟨_, _, n, ta, rfl, rfl, ?_⟩
  clear ta
  simp only
  induction xs generalizing vs ks with
  | nil => cases V; obtain rfl := Option.some.inj e; exact .nil
  | cons x xs ih =>
    cases V with
    | cons h r =>
      cases x with
      | int i =>
        obtain ⟨l', e3, rfl⟩ := Option.map_eq_some_iff.mp e
        refine h.intE fun t => ?_
        exact .cons (intIs _ _) (ih r e3)
      | _ => exact nS e
theorem setItem_ok {A : Around} {T : Tm} {ρ : List Addr} {H H' : Hp} {s : Shared} {o i v : SV} {vo vi val : Value} {Q : Unit → Shared → Prop} (hr : Room k A) (R : Rp c T ρ H s.heap) (Vo : Val T ρ o vo) (Vi : Val T ρ i vi) (V : Val T ρ v val) (e : setIt H v o i = some H')
    (h : ∀ h' tk, Rp c T ρ H' h' → Q () { s with heap := h', toks := tk }) : wpAny (model c.prog c.w) A (setItem vo vi val) Q NoE s := by
  cases o with
  | ref p =>
    refine Vo.refE fun a ra => ?_
    cases i with
    | int j =>
      refine Vi.intE fun t => ?_
      delta setIt at e
      dsimp only at e
      cases hp : H[p]? with
      | none => rw [hp] at e; exact nS e
      | some so =>
        rw [hp] at e
        cases so with
        | lst xs =>
          refine ifE e fun hj e => ?_
          obtain rfl := Option.some.inj e
          refine R.lstE ra hp fun vs n g Vs => ?_
          have len := Vs.length
          have lv : vs.toList.length = vs.size := Array.length_toList
          refine ki_setAt g hj.1 (by lia) (by lia) (h _ _ ?_)
          refine R.setSame ra (Heap.SameBut.update ..) (PySem.IsL.update g _) ⟨_, _, rfl, ?_⟩
          have := Vs.set V j.toNat
          simpa using this
        | dI es =>
          refine ifE e fun hl e => ?_
          obtain rfl := Option.some.inj e
          obtain ⟨kvs, d, KVs⟩ := R.dI ra hp
          refine wpAny_setItem_pairs (intIs j t) d (fun h' d' hs => h _ _ (R.ofI ra hs d' (KVs.sto V j))) ?_
          rw [← KVs.length, sizeLine_eq]; lia
        | _ => exact nS e
    | str x =>
      refine Vi.strE fun t => ?_
      refine dSE e fun es hp e => ?_
      refine ifE e fun hl e => ?_
      obtain rfl := Option.some.inj e
      obtain ⟨kvs, d, KVs⟩ := R.dS ra hp
      refine wpAny_setItem_pairs (strIs x t) d (fun h' d' hs => h _ _ (R.ofS ra hs d' (KVs.sto V x))) ?_
      rw [← KVs.length, sizeLine_eq]; lia
    | tup xs =>
      obtain ⟨b, vs, n, rfl, tb, Vs⟩ := Vi.tup_inv
      obtain ⟨es, ks, hp, hks, e⟩ := dTI e
      refine ifE e fun hl e => ?_
      obtain rfl := Option.some.inj e
      obtain ⟨xs', d, K⟩ := R.dT ra hp
      have key := tupKey_of (c := c) tb Vs hks
      have q := K.look ks
      rw [Option.isNone_iff_eq_none.mp hl.2] at q
      refine wpAny_setItem_heap (knd := tupleKind (intKind c.prog c.w)) (by have := hr.line; show A.units + 1 < cLine; lia) (key.at R) d (fun h' d' hs => h _ _ (R.ofT ra hs d' ?_)) ?_
      · rw [storedH_new q]; exact K.snoc key V
      · rw [← K.length, sizeLine_eq]; lia
    | _ => exact nS e
  | _ => exact nS e
noncomputable def sSetItem (do' di d : D SV) : DS := fun loc H => (d loc H).bind fun (v, H) => (do' loc H).bind fun (o, H) => (di loc H).bind fun (i, H) => (setIt H v o i).bind fun H => some (.nxt, loc, H)
theorem SX.setItem {o i e : Expr} {sp pos : Pos} {do' di d : D SV} (ho : ES c k sc vars o do') (hi : ES c k sc vars i di) (h : ES c k sc vars e d) (hs : ∀ env, swapsWith e (some (.Subscript o i sp)) pos.line env = pure false) : SX c k sc vars (.Assign [.Subscript o i sp] e pos) (sSetItem do' di d) := fun A env T0 T ρ H loc s fl loc' H' I e => by
  refine bE e fun v H1 e1 ez => ?_; clear e
  refine bE ez fun a H2 e2 ez => ?_
  refine bE ez fun b H3 e3 ez => ?_
  refine oE ez fun H4 e4 ez => ?_
  refine sE3 ez ?_
  refine wpAny_Assign_Subscript (wpAny_mono (I.ev h e1) (fun val s1 p => ?_) fun _ _ x => x) (hs env)
  refine p.el fun T1 ρ1 t1 r1 R1 V1 q1 => ?_
  have I1 := I.next t1 r1 R1
  refine wpAny_mono (I1.ev ho e2) (fun vo s2 p => ?_) fun _ _ x => x
  refine p.el fun T2 ρ2 t2 r2 R2 V2 q2 => ?_
  have I2 := I1.next t2 r2 R2
  refine wpAny_mono (I2.ev hi e3) (fun vi s3 p => ?_) fun _ _ x => x
  refine p.el fun T3 ρ3 t3 r3 R3 V3 q3 => ?_
  have I3 := I2.next t3 r3 R3
  refine setItem_ok I.room R3 (V2.mono t3.t r3) V3 ((V1.mono t2.t r2).mono t3.t r3) e4 fun h' tk R4 => ?_
  exact ((I3.next (s1 := { s3 with heap := h', toks := tk }) (Le.refl _) (Pre.refl _) R4).done .nxt).from ((t1.t.trans t2.t).trans t3.t) ((r1.trans r2).trans r3) (((q1.trans q2).trans q3).trans rfl)
end
end Mine.Internal
end
section
open PySem PySem.W PyProof.Rows
open PyProof.Rows.LCg (NsObj ns_obj)
namespace Mine.Internal
open Classical in
noncomputable def addM (T : Tm) (as : List Addr) (h : Heap) : Tm := fun a => if a ∈ as then h.get? a else T a
theorem addM_in {T : Tm} {as : List Addr} {h : Heap} {a : Addr} (m : a ∈ as) : addM T as h a = h.get? a := by simp [addM, m]
theorem addM_out {T : Tm} {as : List Addr} {h : Heap} {a : Addr} (m : a ∉ as) : addM T as h a = T a := by simp [addM, m]
section
variable {c : Cx} {k : Nat} {sc : Scope} {vars : List Str}
theorem Le.addM {T : Tm} {as : List Addr} {h : Heap} (n : ∀ a ∈ as, T a = none) : Le T (addM T as h) := fun a o e => by
  have : a ∉ as := fun m => by first | exact sN (n a m) e | exact sN e (n a m) | (rw [n a m] at e; cases e)
  rw [addM_out this]; exact e
theorem Rp.addM {T : Tm} {ρ : List Addr} {H : Hp} {h : Heap} {as : List Addr} (R : Rp c T ρ H h) (n : ∀ a ∈ as, T a = none) (nr : ∀ a ∈ as, a ∉ ρ) : Rp c (addM T as h) ρ H h :=
  ⟨fun a o e => Le.addM n _ _ (R.top a o e), fun a o e => by
    by_cases m : a ∈ as
    · rw [addM_in m] at e; exact e
    · rw [addM_out m] at e; exact R.base a o e, R.len, R.nodup, R.low, fun p so q => by
    obtain ⟨b, x, e, t', g', z⟩ := R.obj p so q
    have : b ∉ as := fun m => nr b m (List.mem_iff_getElem?.mpr ⟨p, e⟩)
    exact ⟨b, x, e, by rw [addM_out this]; exact t', g', z.mono _ _ (Le.addM n).t (Pre.refl _)⟩⟩
theorem bindL_out (kd : Str → Option NameKind) : ∀ (bs : List (Str × Value)) (m : Str → Option Value) (x : Str), x ∉ bs.map (·.1) → bindL kd bs m x = m x := by
  intro bs
  induction bs with
  | nil => intro m x _; rfl
  | cons b bs ih =>
    intro m x hx
    obtain ⟨y, v⟩ := b
    simp only [List.map_cons, List.mem_cons, not_or] at hx
    unfold bindL
    rw [ih _ _ hx.2]
    split
    · simp [hx.1]
    · rfl
theorem bindC_out (kd : Str → Option NameKind) : ∀ (bs : List (Str × Value)) (m : Str → Option Value) (x : Str), x ∉ bs.map (·.1) → bindC kd bs m x = m x := by
  intro bs
  induction bs with
  | nil => intro m x _; rfl
  | cons b bs ih =>
    intro m x hx
    obtain ⟨y, v⟩ := b
    simp only [List.map_cons, List.mem_cons, not_or] at hx
    unfold bindC
    rw [ih _ _ hx.2]
    split
    · rfl
    · simp [hx.1]
theorem bindL_at (kd : Str → Option NameKind) : ∀ (bs : List (Str × Value)) (m : Str → Option Value) (x : Str) (v : Value) (i : Nat), (bs.map (·.1)).Nodup → bs[i]? = some (x, v) → kd x = some .local → bindL kd bs m x = some v := by
  intro bs
  induction bs with
  | nil => intro m x v i _ h; simp at h
  | cons b bs ih =>
    intro m x v i hn h hk
    obtain ⟨y, u⟩ := b
    rw [List.map_cons, List.nodup_cons] at hn
    unfold bindL
    cases i with
    | zero =>
      simp at h; obtain ⟨rfl, rfl⟩ := h
      rw [bindL_out kd _ _ _ hn.1, if_pos hk]; simp
    | succ i => exact ih _ x v i hn.2 (by simpa using h) hk
theorem bindC_at (kd : Str → Option NameKind) : ∀ (bs : List (Str × Value)) (m : Str → Option Value) (x : Str) (v : Value) (i : Nat), (bs.map (·.1)).Nodup → bs[i]? = some (x, v) → kd x ≠ some .local → bindC kd bs m x = some v := by
  intro bs
  induction bs with
  | nil => intro m x v i _ h; simp at h
  | cons b bs ih =>
    intro m x v i hn h hk
    obtain ⟨y, u⟩ := b
    rw [List.map_cons, List.nodup_cons] at hn
    unfold bindC
    cases i with
    | zero =>
      simp at h; obtain ⟨rfl, rfl⟩ := h
      rw [bindC_out kd _ _ _ hn.1, if_neg hk]; simp
    | succ i => exact ih _ x v i hn.2 (by simpa using h) hk
noncomputable def fDef (n m : Nat) (d : DS) : Fn := fun svs H => if svs.length = n then (d (svs.map some ++ List.replicate m none) H).bind fun (f, _, H) => match f with
    | .ret v => some (v, H)
    | .nxt => some (.none, H)
    | _ => none
  else none
theorem Room.deeper {A : Around} {env : Env} (h : Room (k + 1) A) : Room k (A.deeper env) := by
  obtain ⟨h1, h2⟩ := h
  refine ⟨?_, ?_⟩
  · show A.depth + 1 + 4 * k ≤ 990; lia
  · show A.units + 3 + 16 * k ≤ 9000; lia
theorem Room.depth {A : Around} (h : Room k A) : A.depth < recursionLimit := by
  have h1 := h.1
  have : recursionLimit = 1000 := rfl
  lia
theorem FS.def {f : Addr} {name qual : Str} {params : Arguments} {body : List Stmt} {dV kV doc pm cdv ct oc : Value} {an od : Option Addr} {osl : Array (Option Value)} {d : DS} (xs ys : List Str)
    (ho : c.K.lookup f = some ⟨oc, od, .func (fnX name qual params body sc [] dV kV doc pm an cdv ct), osl⟩) (hcd : codeIn c.K cdv qual = true)
    (hb : ∀ s vals, c.K.In s.heap → vals.length = xs.length → BindsTo s (fnX name qual params body sc [] dV kV doc pm an cdv ct) ⟨vals, []⟩ (xs.zip vals))
    (hn : (xs ++ ys).Nodup) (hk : ∀ x ∈ xs, Stor sc x) (hcs : ((cellsFrom 0 sc.names []).map (·.1)).Nodup)
    (hkind : sc.kind = .function) (hco : sc.isCoroutine = false) (hg : sc.isGenerator = false)
    (h : SS c k sc (xs ++ ys) body d) : FS c (k + 1) f (fDef xs.length ys.length d) := fun A T ρ H s svs vals v H' hh hr R V e => by
  refine ifE e fun hlen ea => ?_; clear e
  refine tE ea fun fl l' H1 e1 e2 => ?_; clear ea
  try dsimp only at e2
  have lv : vals.length = xs.length := by rw [← V.length, hlen]
  refine codeAny_call_function hr.depth (R.kin _ _ ho) rfl hco hg rfl (codeRec_of R.kin hcd) (hb s vals R.kin lv _ _ _ _ ?_)
  have hnx : ((xs.zip vals).map (·.1)) = xs := List.map_fst_zip (Nat.le_of_eq lv.symm)
  have hmem : ∀ x ∈ xs.zip vals, x.1 ∈ xs := fun x hx => by rw [← hnx]; exact List.mem_map_of_mem hx
  refine wpAny_newFunctionEnv_cells hkind (fun x hx => ?_) fun env he s' X => ?_
  · rcases hk x.1 (hmem x hx) with q | q
    · exact .inl q
    · exact .inr ⟨q, cellsFrom_some _ _ _ (.inl q)⟩
  · have hns := X.toInCall.ns
    have hkeep := X.toInCall.keep
    have hsc : env.scope = sc := by rw [he]; rfl
    have hcells : env.cells = cellsFrom (s.heap.objs.size + 1) sc.names [] := by rw [he]; rfl
    have hL : env.locals = s.heap.objs.size := by rw [he]; rfl
    have hglob : env.globals = mainGlobals := by rw [he]; rfl
    have hbi : env.builtins = builtinsNs := by rw [he]; rfl
    have eok : EnvOK sc env := ⟨hsc, hkind, hglob, hbi⟩
    have fresh : ∀ a ∈ env.locals :: env.cells.map (·.2), s.heap.objs.size ≤ a := by
      intro a ha
      rcases List.mem_cons.mp ha with rfl | ha
      · rw [hL]; exact Nat.le_refl _
      · obtain ⟨x, hx, rfl⟩ := List.mem_map.mp ha
        have := X.above x.1 x.2 hx
        rw [hL] at this; exact Nat.le_of_lt this
    have tn : ∀ a ∈ env.locals :: env.cells.map (·.2), T a = none := fun a ha => by
      cases q : T a with
      | none => rfl
      | some o => exact absurd (Nat.lt_of_lt_of_le (Heap.lt_size (R.base _ _ q)) (fresh a ha)) (Nat.lt_irrefl _)
    have rn : ∀ a ∈ env.locals :: env.cells.map (·.2), a ∉ ρ := fun a ha m => absurd (Nat.lt_of_lt_of_le (R.lt m) (fresh a ha)) (Nat.lt_irrefl _)
    have R1 : Rp c T ρ H s'.heap := R.grow' hkeep
    have R2 := R1.addM tn rn
    obtain ⟨oL, gL, nL⟩ := ns_obj hns
    have names : env.cells.map (·.1) = (cellsFrom 0 sc.names []).map (·.1) := by rw [hcells]; exact cellsFrom_names sc.names _ _ [] [] rfl
    have hnd : (env.cells.map (·.1)).Nodup := by rw [names]; exact hcs
    have hloc : LocOK env (addM T (env.locals :: env.cells.map (·.2)) s'.heap) ρ (xs ++ ys) (svs.map some ++ List.replicate ys.length none) := by
      intro i x u hx hu
      by_cases hi : i < svs.length
      · rw [List.getElem?_append_left (hlen ▸ hi)] at hx
        rw [List.getElem?_append_left (by rw [List.length_map]; exact hi)] at hu
        have hu' : svs[i]? = some u := by simpa using hu
        obtain ⟨val, hval, Vv⟩ := V.get hu'
        have hz : (xs.zip vals)[i]? = some (x, val) := by
          rw [List.getElem?_zip_eq_some]; exact ⟨hx, hval⟩
        refine ⟨val, ?_, Vv.mono (Le.addM tn).t (Pre.refl _)⟩
        rcases hk x (List.mem_of_getElem? hx) with q | q
        · have hkd : env.kindOf x = some .local := by unfold Env.kindOf; rw [hsc]; exact q
          exact .inl ⟨hkd, oL, _, by rw [addM_in (by simp)]; exact gL, nL, bindL_at _ _ _ _ _ _ (by rw [hnx]; exact (List.nodup_append.mp hn).1) hz hkd⟩
        · have hkd : env.kindOf x = some .cell := by unfold Env.kindOf; rw [hsc]; exact q
          obtain ⟨a, ha⟩ := Option.isSome_iff_exists.mp (cellsFrom_some sc.names (s.heap.objs.size + 1) [] (.inl q))
          rw [← hcells] at ha
          obtain ⟨o, go, od'⟩ := X.cell x a ha
          refine .inr ⟨.inl hkd, a, o, ha, by rw [addM_in (by have := mem_of_lookup ha; simp; exact .inr ⟨x, this⟩)]; exact go, ?_⟩
          rw [od', bindC_at _ _ _ _ _ _ (by rw [hnx]; exact (List.nodup_append.mp hn).1) hz (by rw [hkd]; decide)]
      · exfalso
        rw [List.getElem?_append_right (by rw [List.length_map]; exact Nat.le_of_not_lt hi)] at hu
        have := List.mem_of_getElem? hu
        simp at this
    have fr : FrOK env (addM T (env.locals :: env.cells.map (·.2)) s'.heap) ρ (xs ++ ys) (svs.map some ++ List.replicate ys.length none) := by
      refine ⟨⟨oL, _, by rw [addM_in (by simp)]; exact gL, nL⟩, fun x hx => ?_, X.apart, hn, fun x hx => ?_, hloc⟩
      · obtain ⟨o, go, od'⟩ := X.cell x.1 x.2 (lookup_of_mem_nodup hnd hx)
        exact ⟨o, _, by rw [addM_in (by simp; exact .inr ⟨x.1, hx⟩)]; exact go, od'⟩
      · rw [hcells]
        refine cellsFrom_some _ _ _ (.inl ?_)
        unfold Env.kindOf at hx; rw [hsc] at hx; exact hx
    obtain ⟨h1, tk1, rfl⟩ := X.toInCall.same
    have inn : Inn c k sc (xs ++ ys) (A.deeper env) env T (addM T (env.locals :: env.cells.map (·.2)) h1) ρ H (svs.map some ++ List.replicate ys.length none) { s with heap := h1, toks := tk1 } :=
      ⟨hh, hr.deeper, eok, Le.addM tn, ⟨tn _ (by simp), fun x hx => tn _ (by simp; exact .inr ⟨x.1, hx⟩)⟩, R.top, R2, fr⟩
    refine ⟨R1.nolimit, codeAny_func (wpAny_mono (h inn e1) (fun f s2 p => ?_) fun _ _ x => x.elim)⟩
    obtain ⟨T3, ρ3, a3, b3, d3, R3, F3, G3, q3⟩ := p
    have fin : ∀ v val, Val T3 ρ3 v val → PV c T ρ s v H1 val s2 := fun v val Vv => ⟨T3, ρ3, a3, d3, R3, Vv, by unfold Same at q3 ⊢; rw [q3]⟩
    cases G3 with
    | nxt => refine sE2 e2 ?_; exact fin _ _ .none
    | brk => exact nS e2
    | cnt => exact nS e2
    | ret Vv => refine sE2 e2 ?_; exact fin _ _ Vv
end
end Mine.Internal
end
section
open PySem PySem.W PyProof.Rows
open PyProof.Rows.LCg (NsObj ns_obj)
namespace Mine.Internal
inductive Src where
  | lst (p i : Nat)
  | tup (xs : List SV) (i : Nat)
  | rng (x left step : Int)
  | rev (p : Nat) (i : Int)
inductive IterIs (T : Tm) (ρ : List Addr) : Src → Obj → Prop
  | lst {p i : Nat} {l : Addr} {o : Obj} : ρ[p]? = some l → o.cls = .type "list_iterator" → o.data = .fields #[.ref l, .int i 0] → IterIs T ρ (.lst p i) o
  | tup {xs : List SV} {vs : List Value} {a : Addr} {n i : Nat} {o : Obj} : T a = some { cls := .type "tuple", data := .seq vs.toArray n } → Vals T ρ xs vs → o.cls = .type "tuple_iterator" → o.data = .fields #[.ref a, .int i 0] → IterIs T ρ (.tup xs i) o
  | rng {x left step : Int} : IterIs T ρ (.rng x left step) { cls := .type "range_iterator", dict := none, data := .fields #[rawInt x, rawInt left, rawInt step], slots := #[] }
  | rev {p : Nat} {i : Int} {l : Addr} {o : Obj} : ρ[p]? = some l → o.cls = .type "list_reverseiterator" → o.data = .fields #[.ref l, rawInt i] → IterIs T ρ (.rev p i) o
theorem IterIs.mono {T T' : Tm} {ρ ρ' : List Addr} {src : Src} {o : Obj} (h : IterIs T ρ src o) (t : LeT T T') (r : Pre ρ ρ') : IterIs T' ρ' src o := by
  cases h with
  | lst a b d => exact .lst (r _ _ a) b d
  | tup a V b d => exact .tup (t _ _ a ⟨rfl, _, _, rfl⟩) (V.mono t r) b d
  | rng => exact .rng
  | rev a b d => exact .rev (r _ _ a) b d
theorem IterIs.fields {T : Tm} {ρ : List Addr} {src : Src} {o : Obj} (h : IterIs T ρ src o) : ∃ fs, o.data = .fields fs := by
  cases h with
  | lst a b d => exact ⟨_, d⟩
  | tup a V b d => exact ⟨_, d⟩
  | rng => exact ⟨_, rfl⟩
  | rev a b d => exact ⟨_, d⟩
theorem notTup_fields {o : Obj} (h : ∃ fs, o.data = .fields fs) : ¬ IsTupO o := by
  obtain ⟨fs, h⟩ := h; rintro ⟨_, items, n, q⟩; rw [h] at q; cases q
noncomputable def nextS (H : Hp) : Src → Option (Option (SV × Src))
  | .lst p i => match H[p]? with
    | some (.lst xs) => match xs[i]? with
      | some v => some (some (v, .lst p (i + 1)))
      | none => some none
    | _ => none
  | .tup xs i => match xs[i]? with
    | some v => some (some (v, .tup xs (i + 1)))
    | none => some none
  | .rng x left step => if 0 < left then some (some (.int x, .rng (x + step) (left - 1) step)) else some none
  | .rev p i => if i < 0 then (if i = -1 then some none else none) else match H[p]? with
    | some (.lst xs) => match xs[i.toNat]? with
      | some v => some (some (v, .rev p (i - 1)))
      | none => none
    | _ => none
noncomputable def LeF (T T' : Tm) : Prop := ∀ a o, T a = some o → (¬ ∃ fs, o.data = .fields fs) → T' a = some o
theorem LeF.t {T T' : Tm} (h : LeF T T') : LeT T T' := fun a o e ⟨_, items, n, q⟩ => h a o e fun ⟨fs, z⟩ => by first | exact sN q z | exact sN z q | (rw [q] at z; cases z)
noncomputable def del (T : Tm) (a : Addr) : Tm := fun b => if b = a then none else T b
theorem del_ne {T : Tm} {a b : Addr} (h : b ≠ a) : del T a b = T b := by simp [del, h]
theorem del_self {T : Tm} {a : Addr} : del T a a = none := by simp [del]
theorem LeF.del {T : Tm} {a : Addr} (h : ∀ o, T a = some o → ∃ fs, o.data = .fields fs) : LeF T (Mine.Internal.del T a) := fun b o e n => by
  have : b ≠ a := fun q => by subst q; exact n (h o e)
  rw [del_ne this]; exact e
theorem LeF.upd {T : Tm} {a : Addr} {o' : Obj} (h : ∀ o, T a = some o → ∃ fs, o.data = .fields fs) : LeF T (Mine.Internal.upd T a o') := fun b o e n => by
  have : b ≠ a := fun q => by subst q; exact n (h o e)
  rw [upd_ne this]; exact e
theorem FrOK.keep {env : Env} {T T' : Tm} {ρ : List Addr} {vars : List Str} {loc : Loc} (h : FrOK env T ρ vars loc) (t : LeF T T') : FrOK env T' ρ vars loc := by
  have nd : ∀ {o : Obj} {m : Str → Option Value}, NsObj o m → ¬ ∃ fs, o.data = .fields fs := fun ⟨_, _, e, _⟩ ⟨fs, q⟩ => by first | exact sN e q | exact sN q e | (rw [e] at q; cases q)
  have nc : ∀ {o : Obj} {v : Option Value}, o.data = .cell v → ¬ ∃ fs, o.data = .fields fs := fun e ⟨fs, q⟩ => by first | exact sN e q | exact sN q e | (rw [e] at q; cases q)
  refine ⟨?_, fun x hx => ?_, h.apart, h.nodup, h.has, fun i x v a b => ?_⟩
  · obtain ⟨o, m, a, b⟩ := h.ns; exact ⟨o, m, t _ _ a (nd b), b⟩
  · obtain ⟨o, v, a, b⟩ := h.cells x hx; exact ⟨o, v, t _ _ a (nc b), b⟩
  · obtain ⟨val, n, V⟩ := h.loc i x v a b
    refine ⟨val, ?_, V.mono t.t (Pre.refl _)⟩
    rcases n with ⟨k, o, m, e, q, r⟩ | ⟨k, a, o, l, e, q⟩
    · exact .inl ⟨k, o, m, t _ _ e (nd q), q, r⟩
    · exact .inr ⟨k, a, o, l, t _ _ e (nc q), q⟩
theorem FrOK.apartOf {env : Env} {T : Tm} {ρ : List Addr} {vars : List Str} {loc : Loc} (h : FrOK env T ρ vars loc) {a : Addr} (t : T a = none ∨ ∃ o, T a = some o ∧ ∃ fs, o.data = .fields fs) : env.locals ≠ a ∧ ∀ x ∈ env.cells, x.2 ≠ a := by
  refine ⟨fun q => ?_, fun x hx q => ?_⟩
  · obtain ⟨o, m, e, ⟨_, _, d, _⟩⟩ := h.ns
    rw [q] at e
    rcases t with t | ⟨o', t, fs, d'⟩ <;> rw [e] at t <;> cases t
    rw [d] at d'; cases d'
  · obtain ⟨o, v, e, d⟩ := h.cells x hx
    rw [q] at e
    rcases t with t | ⟨o', t, fs, d'⟩ <;> rw [e] at t <;> cases t
    rw [d] at d'; cases d'
section
variable {c : Cx} {k : Nat} {sc : Scope} {vars : List Str}
theorem Rp.del {T : Tm} {ρ : List Addr} {H : Hp} {h h' : Heap} {a : Addr} (R : Rp c T ρ H h) (n0 : c.h₀.get? a = none) (nt : ∀ o, T a = some o → ¬ IsTupO o) (hm : a ∉ ρ) (e : Heap.ExtBut a h h') : Rp c (Mine.Internal.del T a) ρ H h' := by
  have lt : LeT T (Mine.Internal.del T a) := fun b o q z => by
    have : b ≠ a := fun y => by subst y; exact nt _ q z
    rw [del_ne this]; exact q
  refine ⟨fun b o q => ?_, fun b o q => ?_, R.len, R.nodup, R.low, fun p so q => ?_⟩
  · have : b ≠ a := neN n0 q
    rw [del_ne this]; exact R.top b o q
  · by_cases y : b = a
    · subst y; rw [del_self] at q; cases q
    · rw [del_ne y] at q; exact e b o y (R.base b o q)
  · obtain ⟨b, o, m, t, g, z⟩ := R.obj p so q
    have hb : b ≠ a := fun y => hm (y ▸ List.mem_iff_getElem?.mpr ⟨p, m⟩)
    exact ⟨b, o, m, by rw [del_ne hb]; exact t, e b o hb g, z.mono _ _ lt (Pre.refl _)⟩
theorem next_ok {A : Around} {T : Tm} {ρ : List Addr} {H : Hp} {s : Shared} {src : Src} {it : Addr} {o : Obj} {r : Option (SV × Src)} {Q : Option Value → Shared → Prop} (hh : A.handled = none) (R : Rp c T ρ H s.heap) (n0 : c.h₀.get? it = none) (hT : T it = some o) (hI : IterIs T ρ src o) (e : nextS H src = some r)
    (hs : ∀ v src' val o' s', r = some (v, src') → Rp c (upd T it o') ρ H s'.heap → IterIs (upd T it o') ρ src' o' → Val (upd T it o') ρ v val → Same s s' → Q (some val) s')
    (he : ∀ s', r = none → Rp c (Mine.Internal.del T it) ρ H s'.heap → Same s s' → Q none s') : wpAny (model c.prog c.w) A (pyNext (.ref it)) Q NoE s := by
  have nt : ¬ IsTupO o := notTup_fields hI.fields
  have nt' : ∀ o', T it = some o' → ¬ IsTupO o' := fun o' q => sB hT q (nt)
  have hm : it ∉ ρ := fun m => by first | exact sN (R.notT m) hT | exact sN hT (R.notT m) | (rw [R.notT m] at hT; cases hT)
  have g := R.base _ _ hT
  have fin : ∀ h', Heap.ExtBut it s.heap h' → r = none → Q none { s with heap := h' } := fun h' x q => he _ q (R.del n0 nt' hm x) rfl
  have lt : ∀ o', LeT T (upd T it o') := fun o' => LeT.upd nt'
  have step : ∀ {h' : Heap} {o' : Obj} {tk : Nat} {v : SV} {src' : Src} {val : Value}, h'.get? it = some o' → Heap.SameBut it s.heap h' → r = some (v, src') → IterIs (upd T it o') ρ src' o' → Val T ρ v val → Q (some val) { s with heap := h', toks := tk } := fun {h' o' tk v src' val} g' sb q i V =>
    hs v src' val o' _ q (R.setT hT nt n0 (fun b x n e => (sb.2 b n).trans e) g') i (V.mono (lt _) (Pre.refl _)) rfl
  cases hI with
  | @lst p i l _ ra hc hd =>
    refine lstE e fun xs hp e => ?_
    refine R.lstE ra hp fun vs n gl Vs => ?_
    have hl : s.heap.IsList l vs := PySem.IsL.isList gl
    have hit : s.heap.IsListIter it l i := ⟨o, g, hc, hd⟩
    rcases optI (o := xs[i]?) (f := fun v => (v, Src.lst p (i + 1))) e with ⟨v, hv, e⟩ | ⟨hv, e⟩
    · obtain ⟨val, hval, V⟩ := Vs.get hv
      refine wpAny_pyNext_list_item hit hl (by simpa using hval) fun h' hit' sb => ?_
      obtain ⟨o', g', hc', hd'⟩ := hit'
      exact step (tk := s.toks) g' sb e.symm (.lst ra hc' hd') V
    · have := (Vs.none_iff i).mp hv
      exact wpAny_pyNext_list_end hh hit hl (by simpa using this) fun h' x => fin h' x e.symm
  | @tup xs vs a n i _ ta Vs hc hd =>
    have hl : s.heap.IsTuple a vs.toArray := ⟨_, R.base _ _ ta, rfl, n, rfl⟩
    have hit : s.heap.IsTupleIter it a i := ⟨o, g, hc, hd⟩
    rcases optI (o := xs[i]?) (f := fun v => (v, Src.tup xs (i + 1))) e with ⟨v, hv, e⟩ | ⟨hv, e⟩
    · obtain ⟨val, hval, V⟩ := Vs.get hv
      refine wpAny_pyNext_tuple_item hit hl (by simpa using hval) fun h' hit' sb => ?_
      obtain ⟨o', g', hc', hd'⟩ := hit'
      exact step (tk := s.toks) g' sb e.symm (.tup (lt _ _ _ ta ⟨rfl, _, _, rfl⟩) (Vs.mono (lt _) (Pre.refl _)) hc' hd') V
    · have := (Vs.none_iff i).mp hv
      exact wpAny_pyNext_tuple_end hh hit hl (by simpa using this) fun h' x => fin h' x e.symm
  | @rng x left st =>
    rcases iteI e with ⟨hl, e⟩ | ⟨hl, e⟩
    · exact wpAny_pyNext_range_item g hl fun h' hit' sb => step hit' sb (Option.some.inj e).symm .rng (.int _ _)
    · exact wpAny_pyNext_range_end hh g (Int.not_lt.mp hl) fun h' x => fin h' x (Option.some.inj e).symm
  | @rev p i l _ ra hc hd =>
    rcases iteI e with ⟨hi, e⟩ | ⟨hi, e⟩
    · obtain ⟨rfl, e⟩ := ifI e
      exact wpAny_pyNext_rev_end hh ⟨o, g, hc, hd⟩ fun h' x => fin h' x (Option.some.inj e).symm
    · obtain ⟨xs, hp, e⟩ := lstI e
      refine R.lstE ra hp fun vs n gl Vs => ?_
      have hl : s.heap.IsList l vs := PySem.IsL.isList gl
      obtain ⟨v, hv, e⟩ := obI (o := xs[i.toNat]?) (g := fun v => some (some (v, Src.rev p (i - 1)))) e
      obtain ⟨val, hval, V⟩ := Vs.get hv
      have ei : ((i.toNat : Nat) : Int) = i := Int.toNat_of_nonneg (Int.not_lt.mp hi)
      refine wpAny_pyNext_rev_item (i := i.toNat) (by rw [ei]; exact ⟨o, g, hc, hd⟩) hl (by simpa using hval) fun h' hit' sb => ?_
      rw [ei] at hit'
      obtain ⟨o', g', hc', hd'⟩ := hit'
      exact step (tk := s.toks) g' sb (Option.some.inj e).symm (.rev ra hc' hd') V
inductive PI (c : Cx) (T : Tm) (ρ : List Addr) (s : Shared) (src : Src) (H' : Hp) (val : Value) (s' : Shared) : Prop
  | mk (T' : Tm) (ρ' : List Addr) (it : Addr) (o : Obj) (le : Le T T') (pre : Pre ρ ρ') (R : Rp c T' ρ' H' s'.heap) (q : Same s s') (e : val = .ref it) (n : T it = none) (m : T' it = some o) (i : IterIs T' ρ' src o)
theorem PI.from {T T1 : Tm} {ρ ρ1 : List Addr} {s s1 s' : Shared} {src : Src} {H' : Hp} {val : Value} (h : PI c T1 ρ1 s1 src H' val s') (t : Le T T1) (r : Pre ρ ρ1) (q : Same s s1) : PI c T ρ s src H' val s' := by
  obtain ⟨T', ρ', it, o, a, b, R, q', e, n, m, i⟩ := h
  exact ⟨T', ρ', it, o, t.trans a, r.trans b, R, q.trans q', e, leN t n, m, i⟩
noncomputable def EI (c : Cx) (k : Nat) (sc : Scope) (vars : List Str) (e : Expr) (d : D Src) : Prop :=
  ∀ ⦃A : Around⦄ ⦃env : Env⦄ ⦃T : Tm⦄ ⦃ρ : List Addr⦄ ⦃H : Hp⦄ ⦃loc : Loc⦄ ⦃s : Shared⦄ ⦃v : Src⦄ ⦃H' : Hp⦄, A.handled = none → Room k A → EnvOK sc env → Rp c T ρ H s.heap → LocOK env T ρ vars loc →
    d loc H = some (v, H') → wpAny (model c.prog c.w) A (eval e env) (fun x s₁ => wpAny (model c.prog c.w) A (pyIter x) (PI c T ρ s v H') NoE s₁) NoE s
noncomputable def iterS (H : Hp) : SV → Option Src
  | .tup xs => some (.tup xs 0)
  | .ref p => match H[p]? with
    | some (.lst _) => some (.lst p 0)
    | _ => none
  | _ => none
noncomputable def dIter (d : D SV) : D Src := fun loc H => (d loc H).bind fun (v, H) => (iterS H v).bind fun r => some (r, H)
theorem PI.new {T : Tm} {ρ : List Addr} {H : Hp} {s : Shared} {src : Src} {o : Obj} {tk : Nat} (R : Rp c T ρ H s.heap) (hf : o.isFreed = false) (i : IterIs (upd T s.heap.objs.size o) ρ src o) : PI c T ρ s src H (.ref s.heap.objs.size) { s with heap := s.heap.push o, toks := tk } :=
  ⟨_, ρ, s.heap.objs.size, o, Le.upd R.fresh, Pre.refl _, R.pushT o hf, rfl, rfl, R.fresh, upd_self .., i⟩
theorem iterS_ok {A : Around} {T : Tm} {ρ : List Addr} {H : Hp} {s : Shared} {v : SV} {val : Value} {src : Src} (R : Rp c T ρ H s.heap) (V : Val T ρ v val) (e : iterS H v = some src) : wpAny (model c.prog c.w) A (pyIter val) (PI c T ρ s src H) NoE s := by
  cases v with
  | tup xs =>
    obtain rfl := Option.some.inj e
    obtain ⟨a, vs, n, rfl, ta, Vs⟩ := V.tup_inv
    have lt : LeT T (upd T s.heap.objs.size { cls := .type "tuple_iterator", data := .fields #[.ref a, .int 0 0] }) := (Le.upd R.fresh).t
    exact wpAny_pyIter_tuple (items := vs.toArray) ⟨_, R.base _ _ ta, rfl, n, rfl⟩ (PI.new (tk := s.toks) R rfl (.tup (lt _ _ ta ⟨rfl, _, _, rfl⟩) (Vs.mono lt (Pre.refl _)) rfl rfl))
  | ref p =>
    refine lstE e fun xs hp e => ?_
    obtain rfl := Option.some.inj e
    refine V.refE fun a ra => ?_
    refine R.lstE ra hp fun vs n gl Vs => ?_
    exact wpAny_pyIter_list (PySem.IsL.isList gl) (PI.new (tk := s.toks) R rfl (.lst ra rfl rfl))
  | _ => exact nS e
theorem EI.val {e : Expr} {d : D SV} (h : ES c k sc vars e d) : EI c k sc vars e (dIter d) := fun A env T ρ H loc s v H' hh hk hE R L e => by
  refine bE e fun a H1 e1 ez => ?_; clear e
  refine oE ez fun src e2 ez => ?_
  refine sE2 ez ?_
  refine wpAny_mono (h hh hk hE R L e1) (fun va s1 p1 => ?_) fun _ _ x => x
  refine p1.el fun T1 ρ1 t1 r1 R1 V1 q1 => ?_
  exact wpAny_mono (iterS_ok R1 V1 e2) (fun _ _ p => p.from t1 r1 q1) fun _ _ x => x
noncomputable def sForL (i : Nat) (b : DS) : Nat → Src → DS
  | 0, _ => fun _ _ => none
  | W + 1, src => fun loc H => (nextS H src).bind fun r => match r with
    | none => some (.nxt, loc, H)
    | some (v, src') => if i < loc.length then (b (setL loc i v) H).bind fun (f, loc, H) => match f with
        | .nxt => sForL i b W src' loc H
        | .cnt => sForL i b W src' loc H
        | .brk => some (.nxt, loc, H)
        | .ret v => some (.ret v, loc, H)
      else none
noncomputable def sFor (i : Nat) (di : D Src) (b : DS) (W : Nat) : DS := fun loc H => (di loc H).bind fun (src, H) => sForL i b W src loc H
theorem Inn.hold {A : Around} {env : Env} {T0 T : Tm} {ρ : List Addr} {H : Hp} {loc : Loc} {s : Shared} (I : Inn c k sc vars A env T0 T ρ H loc s) {it : Addr} {o : Obj} (n : T0 it = none) (hT : T it = some o) (hf : ∃ fs, o.data = .fields fs) : Inn c k sc vars A env (upd T0 it o) T ρ H loc s := by
  have ap := I.fr.apartOf (.inr ⟨o, hT, hf⟩)
  refine ⟨I.hh, I.room, I.eok, fun b x e => ?_, ⟨by rw [upd_ne ap.1]; exact I.own.1, fun x hx => by rw [upd_ne (ap.2 x hx)]; exact I.own.2 x hx⟩, fun b x e => Le.upd n _ _ (I.top b x e), I.R, I.fr⟩
  by_cases q : b = it
  · subst q; rw [upd_self] at e; cases e; exact hT
  · rw [upd_ne q] at e; exact I.le _ _ e
inductive NX (c : Cx) (T : Tm) (it : Addr) (ρ : List Addr) (H : Hp) (r : Option (SV × Src)) (s : Shared) : Option Value → Shared → Prop
  | item {v : SV} {src' : Src} {val : Value} {o' : Obj} {s' : Shared} (e : r = some (v, src')) (R : Rp c (upd T it o') ρ H s'.heap) (IS : IterIs (upd T it o') ρ src' o') (V : Val (upd T it o') ρ v val) (q : Same s s') : NX c T it ρ H r s (some val) s'
  | fin {s' : Shared} (e : r = none) (R : Rp c (Mine.Internal.del T it) ρ H s'.heap) (q : Same s s') : NX c T it ρ H r s none s'
inductive FJ (c : Cx) (k : Nat) (sc : Scope) (vars : List Str) (A : Around) (env : Env) (T0 T : Tm) (ρ : List Addr) (s : Shared) (it : Addr) (i : Nat) (db : DS) (fl : SF) (loc' : Loc) (H' : Hp) (n : Nat) (s3 : Shared) : Prop
  | mk (T3 : Tm) (ρ3 : List Addr) (H3 : Hp) (loc3 : Loc) (src3 : Src) (o3 : Obj) (lt : LeT T T3) (pr : Pre ρ ρ3) (q : Same s s3) (I : Inn c k sc vars A env T0 T3 ρ3 H3 loc3 s3) (m : T3 it = some o3) (IS : IterIs T3 ρ3 src3 o3) (e : sForL i db n src3 loc3 H3 = some (fl, loc', H'))
theorem SX.for {x : Str} {xp pos : Pos} {iter : Expr} {body : List Stmt} {di : D Src} {db : DS} (i : Nat) (hi : EI c k sc vars iter di) (hx : vars[i]? = some x) (hk : Stor sc x) (hb : SS c k sc vars body db) (hfold : ∀ env x, foldedSetIterable iter env x = pure x) (W : Nat) :
    SX c k sc vars (.For (.Name x xp) iter body [] pos) (sFor i di db W) := fun A env T0 T ρ H loc s fl loc' H' I e => by
  refine bE e fun src H1 e1 e2 => ?_
  refine wpAny_For (wpAny_mono (hi I.hh I.room I.eok I.R I.fr.loc e1) (fun xv s1 p1 => wpAny_mono p1 (fun it s2 p => ?_) fun _ _ x => x.elim) fun _ _ x => x.elim) (hfold env)
  obtain ⟨T1, ρ1, it, o, t1, r1, R1, q1, rfl, n1, m1, IS⟩ := p
  have n0 : T0 it = none := leN I.le n1
  have nh : c.h₀.get? it = none := leN I.top n0
  refine codeAny_forLoop (FJ c k sc vars A env T0 T ρ s it i db fl loc' H') (fun n s3 J => ?_) W ⟨T1, ρ1, H1, loc, src, o, t1.t, r1, q1, I.next t1 r1 R1, m1, IS, e2⟩
  obtain ⟨T3, ρ3, H3, loc3, src3, o3, lt, pr, q, I3, m3, IS3, e3⟩ := J
  cases n with
  | zero => exact nS e3
  | succ n =>
    refine oE e3 fun r e3 e4 => ?_
    have hf : ∀ o', T3 it = some o' → ∃ fs, o'.data = .fields fs := fun o' z => sB m3 z (IS3.fields)
    refine wpAny_mono (next_ok (Q := NX c T3 it ρ3 H3 r s3) I.hh I3.R nh m3 IS3 e3 (fun _ _ _ _ _ a b d e f => .item a b d e f) fun _ a b d => .fin a b d) (fun r' s4 p => ?_) fun _ _ x => x.elim
    cases p with
    | @item v src' val o4 _ hr R4 IS4 V4 q4 =>
      subst hr
      refine ifE e4 fun hlt e4 => ?_
      refine tE e4 fun f l5 H5 e5 e6 => ?_
      have lf : LeF T3 (upd T3 it o4) := LeF.upd hf
      have I4 : Inn c k sc vars A env T0 (upd T3 it o4) ρ3 H3 loc3 s4 := ⟨I.hh, I.room, I.eok, I3.le.upd' n0, I.own, I.top, R4, I3.fr.keep lf⟩
      have I4' := I4.hold n0 (upd_self ..) IS4.fields
      show wpAny _ _ _ _ _ _
      refine wpAny_mono (PyProof.Rows.assign_Name (I4'.store hx hk hlt V4 fun T5 s5 lt5 I5 q5 => ?_)) (fun _ _ h => h) fun _ _ x => x.elim
      refine wpAny_mono (hb I5 e5) (fun g s6 p => ?_) fun _ _ x => x.elim
      obtain ⟨T6, ρ6, a6, b6, d6, R6, F6, G6, q6⟩ := p
      have le6 : Le T0 T6 := (Le.upd n0).trans a6
      have I6 : Inn c k sc vars A env T0 T6 ρ6 H5 l5 s6 := ⟨I.hh, I.room, I.eok, le6, I.own, I.top, R6, F6⟩
      have lt6 : LeT (upd T3 it o4) T6 := lt5.trans b6
      have lt7 : LeT T T6 := (lt.trans lf.t).trans lt6
      have pr7 : Pre ρ ρ6 := pr.trans d6
      have qq : Same s s6 := ((q.trans q4).trans q5).trans q6
      have m6 : T6 it = some o4 := a6 _ _ (upd_self ..)
      cases G6 with
      | nxt => exact ⟨n, Nat.lt_succ_self _, T6, ρ6, H5, l5, _, _, lt7, pr7, qq, I6, m6, IS4.mono lt6 d6, e6⟩
      | cnt => exact ⟨n, Nat.lt_succ_self _, T6, ρ6, H5, l5, _, _, lt7, pr7, qq, I6, m6, IS4.mono lt6 d6, e6⟩
      | brk =>
        have ps : PS c T0 T ρ env vars s .nxt l5 H5 .next s6 := (I6.done .nxt).from lt7 pr7 qq
        exact sE3 (P := fun fl loc' H' => PS c T0 T ρ env vars s fl loc' H' .next s6) e6 ps
      | @ret v' _ V =>
        have ps := (I6.done (.ret V)).from lt7 pr7 qq
        exact sE3 (P := fun fl loc' H' => PS c T0 T ρ env vars s fl loc' H' _ s6) e6 ps
    | fin hr R4 q4 =>
      subst hr
      have lf : LeF T3 (del T3 it) := LeF.del hf
      have I4 : Inn c k sc vars A env T0 (del T3 it) ρ3 H3 loc3 s4 := ⟨I.hh, I.room, I.eok, fun b x z => by
        have : b ≠ it := neN n0 z
        rw [del_ne this]; exact I3.le _ _ z, I.own, I.top, R4, I3.fr.keep lf⟩
      have ps := (I4.done .nxt).from (lt.trans lf.t) pr (q.trans q4)
      exact wpAny_execs_nil (sE3 (P := fun fl loc' H' => PS c T0 T ρ env vars s fl loc' H' .next s4) e4 ps)
end
end Mine.Internal
end
section
open PySem PySem.W PyProof.Rows
open PyProof.Rows.LCg (NsObj ns_obj)
namespace Mine.Internal
section
variable {c : Cx} {k : Nat} {sc : Scope} {vars : List Str}
noncomputable def FB (c : Cx) (k : Nat) (f : Value) (F : Fn) : Prop :=
  ∀ ⦃A : Around⦄ ⦃T : Tm⦄ ⦃ρ : List Addr⦄ ⦃H : Hp⦄ ⦃s : Shared⦄ ⦃svs : List SV⦄ ⦃vals : List Value⦄ ⦃v : SV⦄ ⦃H' : Hp⦄, A.handled = none → Room k A → Rp c T ρ H s.heap → Vals T ρ svs vals → F svs H = some (v, H') →
    wpAny (model c.prog c.w) A (call f vals) (PV c T ρ s v H') NoE s
noncomputable def notRef : Value → Bool
  | .ref _ => false
  | _ => true
theorem keeperOf_notRef {f : Value} (h : notRef f = true) : keeperOf f = pure .machine := by
  cases f <;> first | rfl | cases h
theorem callWith_machine {A : Around} {env : Env} {pos : Pos} {f : Value} {first : List Value} {args : List Expr} {s : Shared} {Q : Value → Shared → Prop} (hf : notRef f = true) (hp : ∀ env, (starEach args env).any (·.1) = false)
    (h : wpAny (model c.prog c.w) A (spliced (backTo pos (starEach args env))) (fun vs s₁ => wpAny (model c.prog c.w) A (call f (first ++ vs)) Q NoE s₁) NoE s) :
    wpAny (model c.prog c.w) A (callWith pos f first (backTo pos (starEach args env)) []) Q NoE s := by
  have hk : ∀ h : Heap, True → ∃ k, (k = Keeper.frame ∨ k = Keeper.machine ∨ k = Keeper.boundFrame) ∧ Looks (model c.prog c.w) h (keeperOf f) k := fun h _ => ⟨.machine, .inr (.inl rfl), Looks.of_pure (keeperOf_notRef hf)⟩
  cases args with
  | nil =>
    exact callWith_of (P := fun _ => True) (by rfl) hk (evalArgs_none' (wpAny_mono h (fun vs s' x => ⟨trivial, x⟩) fun _ _ x => x))
  | cons e rest =>
    obtain ⟨hs, hr⟩ := star1 (hp env)
    rw [hs] at h ⊢
    exact callWith_of (P := fun _ => True) (by show ((false || (backTo pos (starEach rest env)).any (·.1)) || false) = false; rw [back_plain hr]; rfl) hk (Calls.evalArgs_plain (wpAny_mono h (fun vs s' x => ⟨trivial, x⟩) fun _ _ x => x))
theorem builtin_is {env : Env} {T : Tm} {ρ : List Addr} {H : Hp} {s : Shared} {A : Around} {x : Str} {pos : Pos} {val : Value} {Q : Value → Shared → Prop} (he : EnvOK sc env) (R : Rp c T ρ H s.heap) (hx : sc.names.lookup x = some .globalImplicit)
    (hv : nsIn c.K mainGlobals x = some none) (hb : bootBuiltins x = some val) (hn : x ≠ "__name__") (h : Q val s) (hd : (x == ("__debug__" : Str)) = false) : wpAny (model c.prog c.w) A (eval (.Name x pos) env) Q NoE s :=
  Calls.Name_function_global (he.scope ▸ he.kind) (by unfold Env.kindOf; rw [he.scope]; exact hx)
    (Calls.loadGlobal_builtin (env := env) (he.glob ▸ R.read.g) (mg_none_of c.kin c.top.g hv) (he.bi ▸ R.read.b) ((c.top.builtins x hn).trans hb) h) hd
theorem ES.callB {f : Str} {p pos : Pos} {args : List Expr} {fv : Value} {F : Fn} {ds : D (List SV)} (hx : sc.names.lookup f = some .globalImplicit) (hv : nsIn c.K mainGlobals f = some Option.none) (hb : bootBuiltins f = some fv) (hF : FB c k fv F) (hs : EL c k sc vars args ds)
    (hr : notRef fv = true) (hn : f ≠ "__name__") (hd : (f == ("__debug__" : Str)) = false) (hp : ∀ env, (starEach args env).any (·.1) = false) : ES c k sc vars (.Call (.Name f p) args [] pos) (dCall F ds) := fun A env T ρ H loc s v H' hh hk hE R L e => by
  refine bE e fun vs H1 e1 e2 => ?_; clear e
  try dsimp only at e2
  refine Call_Name rfl (builtin_is hE R hx hv hb hn ?_ hd)
  refine callWith_machine hr hp (wpAny_mono (hs pos hh hk hE R L e1) (fun vals s1 p1 => ?_) fun _ _ x => x)
  refine p1.el fun T1 ρ1 t1 r1 R1 V1 q1 => ?_
  exact wpAny_mono (hF hh hk R1 V1 e2) (fun _ _ z => z.from t1 r1 q1) fun _ _ x => x
theorem Vals.one_inv {T : Tm} {ρ : List Addr} {x : SV} {vs : List Value} (h : Vals T ρ [x] vs) : ∃ v, vs = [v] ∧ Val T ρ x v := by
  cases h with | cons a b => cases b; exact ⟨_, rfl, a⟩
theorem Vals.two_inv {T : Tm} {ρ : List Addr} {x y : SV} {vs : List Value} (h : Vals T ρ [x, y] vs) : ∃ v u, vs = [v, u] ∧ Val T ρ x v ∧ Val T ρ y u := by
  cases h with | cons a b => obtain ⟨u, rfl, d⟩ := b.one_inv; exact ⟨_, _, rfl, a, d⟩
theorem Vals.three_inv {T : Tm} {ρ : List Addr} {x y z : SV} {vs : List Value} (h : Vals T ρ [x, y, z] vs) : ∃ v u t, vs = [v, u, t] ∧ Val T ρ x v ∧ Val T ρ y u ∧ Val T ρ z t := by
  cases h with | cons a b => obtain ⟨u, t, rfl, b1, d⟩ := b.two_inv; exact ⟨_, _, _, rfl, a, b1, d⟩
noncomputable def fLen : Fn
  | [.ref p], H => match H[p]? with
    | some (.lst xs) => if xs.length < 1000000 then some (.int xs.length, H) else none
    | _ => none
  | [.tup xs], H => if xs.length < 1000000 then some (.int xs.length, H) else none
  | _, _ => none
theorem FB.len : FB c k (.builtin "len") fLen := fun A T ρ H s svs vals v H' hh hk R V e => by
  rcases svs with _ | ⟨o, l⟩
  · exact nS e
  cases o with
  | ref p =>
    rcases l with _ | ⟨_, _⟩
    · obtain ⟨val, rfl, W⟩ := V.one_inv
      refine lE e fun xs hp hl e => ?_
      refine sE2 e ?_
      refine W.refE fun a ra => ?_
      refine R.lstE ra hp fun vs n g Vs => ?_
      have len := Vs.length
      have lv : vs.toList.length = vs.size := Array.length_toList
      refine PyProof.Rows.len_list (PySem.IsL.isList g) (by lia) ?_
      rw [show ((vs.size : Nat) : Int) = ((xs.length : Nat) : Int) by lia]
      exact PV.now R (.int _ _) rfl
    · exact nS e
  | tup xs =>
    rcases l with _ | ⟨_, _⟩
    · obtain ⟨hl, e⟩ := ifI e
      refine sE2 e ?_
      obtain ⟨val, rfl, W⟩ := V.one_inv
      obtain ⟨a, vs, n, rfl, ta, Vs⟩ := W.tup_inv
      have len := Vs.length
      refine PyProof.Rows.len_tuple (items := vs.toArray) ⟨_, R.base _ _ ta, rfl, n, rfl⟩ (by rw [List.size_toArray]; lia) ?_
      rw [show ((vs.toArray.size : Nat) : Int) = ((xs.length : Nat) : Int) by rw [List.size_toArray]; lia]
      exact PV.now R (.int _ _) rfl
    · exact nS e
  | _ => exact nS e
noncomputable def fAbs : Fn
  | [.int a], H => some (.int (if a < 0 then -a else a), H)
  | _, _ => none
theorem FB.abs : FB c k (.builtin "abs") fAbs := fun A T ρ H s svs vals v H' hh hk R V e => by
  rcases svs with _ | ⟨o, l⟩
  · exact nS e
  cases o with
  | int a =>
    rcases l with _ | ⟨_, _⟩
    rotate_left
    · exact nS e
    refine sE2 e ?_
    obtain ⟨val, rfl, W⟩ := V.one_inv
    refine W.intE fun t => ?_
    exact call_abs_int fun u tk => PV.now R (.int _ _) rfl
  | _ => exact nS e
noncomputable def fTuple : Fn
  | [.tup xs], H => some (.tup xs, H)
  | [.ref p], H => match H[p]? with
    | some (.lst xs) => if xs.length < 1000000 then some (.tup xs, H) else none
    | _ => none
  | _, _ => none
theorem FB.tuple : FB c k (.type "tuple") fTuple := fun A T ρ H s svs vals v H' hh hk R V e => by
  rcases svs with _ | ⟨o, l⟩
  · exact nS e
  cases o with
  | ref p =>
    rcases l with _ | ⟨_, _⟩
    · obtain ⟨val, rfl, W⟩ := V.one_inv
      refine lE e fun xs hp hl e => ?_
      refine sE2 e ?_
      refine W.refE fun a ra => ?_
      refine R.lstE ra hp fun vs n g Vs => ?_
      have len := Vs.length
      have lv : vs.toList.length = vs.size := Array.length_toList
      refine call_tuple_list (PySem.IsL.isList g) (fun h' hkp => ?_) (by unfold sizeLine; lia)
      have R' := R.grow' hkp
      have z := PV.newTup (s := { s with heap := h' }) (vs := vs.toList) R' Vs
      exact z.from (Le.refl _) (Pre.refl _) rfl
    · exact nS e
  | tup xs =>
    rcases l with _ | ⟨_, _⟩
    rotate_left
    · exact nS e
    refine sE2 e ?_
    obtain ⟨val, rfl, W⟩ := V.one_inv
    have V' := W
    obtain ⟨a, vs, n, rfl, ta, Vs⟩ := W.tup_inv
    exact call_tuple_tup (items := vs.toArray) ⟨_, R.base _ _ ta, rfl, n, rfl⟩ (PV.now R V' rfl)
  | _ => exact nS e
noncomputable def rangeS : List SV → Option Src
  | [.int n] => if n < 1000000 ∧ -1000000 < n then some (.rng 0 (if 0 < n then n else 0) 1) else none
  | [.int a, .int b, .int st] => if st = -1 ∧ a < 1000000 ∧ -1000000 < a ∧ b < 1000000 ∧ -1000000 < b then some (.rng a (if a > b then a - b else 0) (-1)) else none
  | _ => none
noncomputable def dRange (ds : D (List SV)) : D Src := fun loc H => (ds loc H).bind fun (vs, H) => (rangeS vs).bind fun r => some (r, H)
theorem rangeS_inv {vs : List SV} {src : Src} (e : rangeS vs = some src) : (∃ n, vs = [.int n] ∧ (n < 1000000 ∧ -1000000 < n) ∧ src = .rng 0 (if 0 < n then n else 0) 1) ∨ ∃ a b, vs = [.int a, .int b, .int (-1)] ∧ (a < 1000000 ∧ -1000000 < a ∧ b < 1000000 ∧ -1000000 < b) ∧ src = .rng a (if a > b then a - b else 0) (-1) := by
  rcases vs with _ | ⟨o, l⟩
  · exact nS e
  cases o with
  | int n =>
    rcases l with _ | ⟨b, l⟩
    · exact .inl ⟨n, rfl, (ifI e).1, (Option.some.inj (ifI e).2).symm⟩
    · cases b with
      | int b =>
        rcases l with _ | ⟨st, l⟩
        · exact nS e
        cases st with
        | int st =>
          rcases l with _ | ⟨_, _⟩
          rotate_left
          · exact nS e
          obtain ⟨hb, e'⟩ := ifI e
          obtain ⟨rfl, hb⟩ := hb
          exact .inr ⟨n, b, rfl, hb, (Option.some.inj e').symm⟩
        | _ => exact nS e
      | _ => exact nS e
  | _ => exact nS e
theorem EI.range {p pos : Pos} {args : List Expr} {ds : D (List SV)} (hx : sc.names.lookup (Str.ofString "range") = some .globalImplicit) (hv : nsIn c.K mainGlobals (Str.ofString "range") = some none) (hs : EL c k sc vars args ds) (hp : ∀ env, (starEach args env).any (·.1) = false) : EI c k sc vars (.Call (.Name "range" p) args [] pos) (dRange ds) := fun A env T ρ H loc s v H' hh hk hE R L e => by
  refine bE e fun vs H1 e1 ez => ?_; clear e
  refine oE ez fun src e2 ez => ?_
  refine sE2 ez ?_
  refine Call_Name rfl (builtin_is hE R hx hv Boot.«range» (by decide) ?_ (by decide))
  refine callWith_machine (f := .type "range") rfl hp (wpAny_mono (hs pos hh hk hE R L e1) (fun vals s1 p1 => ?_) fun _ _ x => x)
  refine p1.el fun T1 ρ1 t1 r1 R1 V1 q1 => ?_
  show wpAny _ _ (call (.type "range") vals) _ _ _
  rcases rangeS_inv e2 with ⟨n, rfl, hb, rfl⟩ | ⟨n, b, rfl, hb, rfl⟩
  · obtain ⟨val, rfl, W⟩ := V1.one_inv
    refine W.intE fun t => ?_
    refine call_range_1 ?_
    refine wpAny_pyIter_range (IsRange.new ..) (small_one (by decide) (by decide) (by lia) (by lia)) ?_
    rw [rangeSize_one, Int.sub_zero]
    exact (PI.new (s := { s1 with heap := s1.heap.push _, toks := s1.toks + 1 + 1 }) (tk := s1.toks + 1 + 1) (R1.push _) rfl .rng).from t1 r1 (q1.trans rfl)
  · obtain ⟨va, vb, vc, rfl, Va, Vb, Vc⟩ := V1.three_inv
    refine Va.intE fun t => ?_
    refine Vb.intE fun u => ?_
    refine Vc.intE fun x => ?_
    refine call_range_3 (by decide) ?_ (Or.inl (PyProof.noPylong_small (by decide)))
    refine wpAny_pyIter_range (IsRange.new ..) (small_down (by lia) (by lia) (by lia) (by lia)) ?_
    rw [rangeSize_down]
    exact (PI.new (s := { s1 with heap := s1.heap.push _, toks := s1.toks }) (tk := s1.toks) (R1.push _) rfl .rng).from t1 r1 (q1.trans rfl)
noncomputable def revS (H : Hp) : SV → Option Src
  | .ref p => match H[p]? with
    | some (.lst xs) => some (.rev p ((xs.length : Int) - 1))
    | _ => none
  | _ => none
noncomputable def dRev (d : D SV) : D Src := fun loc H => (d loc H).bind fun (v, H) => (revS H v).bind fun r => some (r, H)
theorem EI.rev {p pos : Pos} {x : Expr} {d : D SV} (hx : sc.names.lookup (Str.ofString "reversed") = some .globalImplicit) (hv : nsIn c.K mainGlobals (Str.ofString "reversed") = some none) (h : ES c k sc vars x d) (hp : ∀ env, starEach [x] env = [(false, eval x env)]) : EI c k sc vars (.Call (.Name "reversed" p) [x] [] pos) (dRev d) := fun A env T ρ H loc s v H' hh hk hE R L e => by
  refine bE e fun v H1 e1 ez => ?_; clear e
  refine oE ez fun src e2 ez => ?_
  refine sE2 ez ?_
  refine Call_Name rfl (builtin_is hE R hx hv Boot.«reversed» (by decide) ?_ (by decide))
  have hs : EL c k sc vars [x] (dCons d dNil) := EL.cons h EL.nil hp
  refine callWith_machine (f := .type "reversed") rfl (fun env => by rw [hp]; rfl) (wpAny_mono (hs pos hh hk hE R L (vs := [v]) (H' := H1) (dOne e1)) (fun vals s1 p1 => ?_) fun _ _ x => x)
  refine p1.el fun T1 ρ1 t1 r1 R1 V1 q1 => ?_
  show wpAny _ _ (call (.type "reversed") vals) _ _ _
  obtain ⟨val, rfl, W1⟩ := V1.one_inv
  obtain ⟨q, rfl, e2⟩ := refI e2
  refine lstE e2 fun xs hq e2 => ?_
  obtain rfl := Option.some.inj e2
  refine W1.refE fun a ra => ?_
  refine R1.lstE ra hq fun vs n g Vs => ?_
  have len := Vs.length
  have lv : vs.toList.length = vs.size := Array.length_toList
  refine call_reversed_list (PySem.IsL.isList g) ?_
  rw [← lv, ← len]
  refine wpAny_pyIter_revIter (l := a) (i := (xs.length : Int) - 1) ⟨_, Heap.get?_push_size _ rfl, rfl, rfl⟩ ?_
  exact (PI.new (s := s1) (tk := s1.toks) R1 rfl (.rev ra rfl rfl)).from t1 r1 q1
end
end Mine.Internal
end
section
open PySem PySem.W PyProof.Rows
open PyProof.Rows.LCg (NsObj ns_obj)
namespace Mine.Internal
theorem adjust_upto (b n : Nat) (hb : b ≤ n) : Builtin.Slice.sliceAdjust none (some (b : Int)) 1 (n : Int) = (0, (b : Int)) := by
  unfold Builtin.Slice.sliceAdjust
  have h1 : ¬ ((1 : Int) < 0) := by lia
  have h2 : ¬ ((b : Int) < 0) := by lia
  simp only [h1, h2, if_false]
  congr 1
  lia
theorem places_upto (b : Nat) : Builtin.Slice.slicePlaces 0 (b : Int) 1 = b := by
  unfold Builtin.Slice.slicePlaces
  have h1 : (1 : Int) > 0 := by lia
  simp only [h1, if_true, Int.ediv_one]
  by_cases h : (0 : Int) < b
  · rw [if_pos h]; lia
  · rw [if_neg h]; lia
section
variable {prog : Program} {w : World} {A : Around} {E : Value → Shared → Prop} {s : Shared}
theorem sliceApplied_upto {sl : Addr} {b n : Nat} {u : Tok} {Q : Int × Int × Nat → Shared → Prop} (hs : s.heap.IsSliceOf sl .none (.int b u) .none) (hb : b ≤ n) (h : Q (0, 1, b) s) :
    wpAny (model prog w) A (Builtin.Slice.sliceApplied (.ref sl) (pure (n : Int))) Q E s := by
  obtain ⟨os, hos, hcs, hds⟩ := id hs
  unfold Builtin.Slice.sliceApplied Builtin.Slice.sliceFields
  refine wpAny_bind (wpAny_bind (wpAny_field hos hds (x := .none) rfl (wpAny_bind (wpAny_field hos hds (x := .int b u) rfl (wpAny_bind (wpAny_field hos hds (x := .none) rfl (wpAny_pure ?_)))))))
  refine wpAny_bind (slicePart_none ?_)
  show wpAny _ _ (if ((1 : Int) == 0) = true then _ else _) _ _ s
  rw [if_neg (by decide)]
  refine wpAny_bind (slicePart_none (wpAny_bind (slicePart_int (wpAny_bind (wpAny_pure ?_)))))
  show wpAny _ _ (match Builtin.Slice.sliceAdjust none (some (b : Int)) 1 (n : Int) with | (lo, hi) => pure (lo, (1 : Int), Builtin.Slice.slicePlaces lo hi 1)) _ _ s
  rw [adjust_upto b n hb]
  show wpAny _ _ (pure ((0 : Int), (1 : Int), Builtin.Slice.slicePlaces 0 (b : Int) 1)) _ _ s
  rw [places_upto b]
  exact wpAny_pure h
theorem pick_upto (xs : Array Value) (b : Nat) : ((List.range b).filterMap fun (k : Nat) => xs[((0 : Int) + (k : Int) * 1).toNat]?).toArray = (xs.toList.take b).toArray := by
  have e : (fun (k : Nat) => xs[((0 : Int) + (k : Int) * 1).toNat]?) = fun k => xs[0 + k]? := by
    funext k
    have : ((0 : Int) + (k : Int) * 1).toNat = 0 + k := by lia
    rw [this]
  rw [e]
  have := pick_run xs 0 b
  rw [List.filterMap_map] at this
  have e2 : ((fun x => xs[x]?) ∘ fun x => 0 + x) = fun k => xs[0 + k]? := rfl
  rw [e2] at this
  rw [this]; simp
theorem getItem_tuple_upto {t sl : Addr} {items : Array Value} {b : Nat} {u : Tok} {Q : Value → Shared → Prop} (ht : IsTup s.heap t items) (hs : s.heap.IsSliceOf sl .none (.int b u) .none) (hb : b ≤ items.size)
    (hsame : b = items.size → Q (.ref t) s) (h : b ≠ items.size → Q (.ref s.heap.objs.size) { s with heap := s.heap.push { cls := .type "tuple", data := .seq (items.toList.take b).toArray } })
    (hsz : items.size ≤ sizeLine) : wpAny (model prog w) A (getItem (.ref t) (.ref sl)) Q E s := by
  have hcut : sizeOk (.seq (items.toList.take b).toArray) := by
    show (items.toList.take b).toArray.size ≤ sizeLine
    rw [List.size_toArray, List.length_take, Array.length_toList]
    lia
  obtain ⟨os, hos, hcs, hds⟩ := id hs
  have hTs : s.TypeIs (.ref sl) "slice" := ⟨os, hos, hcs⟩
  unfold getItem
  try with_reducible refine wpAny_holding ?_
  first | refine wpAny_bind (wpAny_pure ?_) | skip
  refine wpAny_bind (wpAny_sequenceKey ht.typeIs (by decide) ?_)
  refine wpAny_bind (wpAny_callSpecial?_slot (name := Str.ofString "__getitem__") ht.typeIs slot_tuple_getitem
    (wpAny_call_entry slot_tuple_getitem ht.typeIs entry_tuple_getitem ?_ (args_tuple_getitem _ _)))
  show wpAny _ _ (Builtin.Tuple.tupleItemsOf (.ref t) >>= _) _ _ s
  refine wpAny_bind (tupleItemsOf_ ht ?_)
  refine wpAny_bind (wpAny_typeOf hTs ?_)
  rw [if_pos (by decide)]
  refine wpAny_bind (sliceApplied_upto hs hb ?_)
  show wpAny _ _ (if ((0 : Int) == 0 && (1 : Int) == 1 && b == items.size) = true then _ else _) _ _ s
  by_cases he : b = items.size
  · rw [if_pos (by simp [he])]
    refine wpAny_bind (m := Builtin.Tuple.tupleIsExact _) ?_
    unfold Builtin.Tuple.tupleIsExact
    refine wpAny_bind (wpAny_typeOf ht.typeIs (wpAny_pure ?_))
    rw [if_pos (by decide)]
    exact wpAny_bind (wpAny_rule (wpAny_pure ⟨_, rfl, wpAny_pure (hsame he)⟩))
  · have h := h he
    rw [if_neg (by simp [he]), pick_upto items b]
    first
      | exact wpAny_bind (m := Builtin.Tuple.tupleExact _) (wpAny_newObj_type (wpAny_pure ⟨_, rfl, wpAny_pure h⟩) hcut)
      | exact wpAny_bind (m := Builtin.Tuple.tupleExact _) (wpAny_newObj_type (wpAny_bind (wpAny_pure (wpAny_pure ⟨_, rfl, wpAny_pure h⟩))) hcut)
      | exact wpAny_bind (wpAny_bind (m := Builtin.Tuple.tupleExact _) (wpAny_newObj_type (wpAny_pure (wpAny_pure ⟨_, rfl, wpAny_pure h⟩)) hcut))
      | exact wpAny_bind (wpAny_bind (m := Builtin.Tuple.tupleExact _) (wpAny_newObj_type (wpAny_pure ⟨_, rfl, wpAny_pure h⟩) hcut))
end
noncomputable def sliceT (n : Nat) : SV → Option SV
  | .tup xs => if n ≤ xs.length ∧ xs.length < 1000000 then some (.tup (xs.take n)) else none
  | _ => none
section
variable {c : Cx} {k : Nat} {sc : Scope} {vars : List Str}
theorem sliceT_ok {A : Around} {T : Tm} {ρ : List Addr} {H : Hp} {s : Shared} {o v : SV} {vo : Value} {value slice : Expr} {n : Nat} {u : Tok} (hs : ∀ o' i', subscripted slice false o' i' = operate [i', o'] (getItem o' i')) (R : Rp c T ρ H s.heap) (Vo : Val T ρ o vo) (e : sliceT n o = some v) :
    wpAny (model c.prog c.w) A (subscriptTail value slice vo (.ref s.heap.objs.size)) (PV c T ρ s v H) NoE { s with heap := s.heap.push { cls := .type "slice", data := .fields #[.none, .int (n : Int) u, .none] } } := by
  obtain ⟨xs, rfl, e⟩ := tupI e
  refine ifE e fun hn e => ?_
  obtain rfl := Option.some.inj e
  obtain ⟨a, vs, m, rfl, ta, Vs⟩ := Vo.tup_inv
  have len := Vs.length
  have R' := R.push { cls := .type "slice", data := .fields #[.none, .int (n : Int) u, .none] }
  have g' := R'.base _ _ ta
  have hT : IsTup (s.heap.push { cls := .type "slice", data := .fields #[.none, .int (n : Int) u, .none] }) a vs.toArray := ⟨_, g', rfl, m, rfl⟩
  refine tail_any (s := { s with heap := s.heap.push { cls := .type "slice", data := .fields #[.none, .int (n : Int) u, .none] } }) hT.typeIs slot_tuple_getitem.lookup (getItem_tuple_upto (s := { s with heap := s.heap.push { cls := .type "slice", data := .fields #[.none, .int (n : Int) u, .none] } }) hT (Heap.IsSliceOf.new ..) (by rw [List.size_toArray]; lia) (fun he => ?_) (fun he => ?_) (by rw [List.size_toArray]; unfold sizeLine; lia)) (hs _ _)
  · have : xs.take n = xs := List.take_of_length_le (by rw [List.size_toArray] at he; lia)
    rw [this]
    exact ⟨T, ρ, Le.refl _, Pre.refl _, R', .tup ta Vs, rfl⟩
  · exact (PV.newTup (s := { s with heap := s.heap.push { cls := .type "slice", data := .fields #[.none, .int (n : Int) u, .none] } }) R' (Vs.take n)).from (Le.refl _) (Pre.refl _) rfl
theorem ES.sliceT {o : Expr} {n : Nat} {kk : Nat} {cp sp pos : Pos} {d : D SV} (ho : ES c k sc vars o d) (hs : ∀ o' i', subscripted (.Slice Option.none (some (.Constant (.int (n : Int)) kk cp)) Option.none sp) false o' i' = operate [i', o'] (getItem o' i')) : ES c k sc vars (.Subscript o (.Slice Option.none (some (.Constant (.int (n : Int)) kk cp)) Option.none sp) pos) (dUn (Mine.Internal.sliceT n) d) := fun A env T ρ H loc s v H' hh hk hE R L e => by
  refine bE e fun a H1 e1 ez => ?_; clear e
  refine oE ez fun v' e2 ez => ?_
  refine sE2 ez ?_
  refine Subscript_ (wpAny_mono (ho hh hk hE R L e1) (fun va s1 p1 => ?_) fun _ _ x => x)
  refine p1.el fun T1 ρ1 t1 r1 R1 V1 q1 => ?_
  refine wpAny_Slice ?_
  show wpAny _ _ (pure Value.none) _ _ _
  refine wpAny_pure ?_
  show wpAny _ _ (eval (.Constant (.int (n : Int)) kk cp) env) _ _ _
  refine wpAny_Constant_int ?_
  show wpAny _ _ (pure Value.none) _ _ _
  refine wpAny_pure ?_
  have z := sliceT_ok (A := A) (value := o) (u := s1.toks) (s := { s1 with toks := s1.toks + 1 }) hs R1 V1 e2
  exact wpAny_mono z (fun _ _ p => p.from t1 r1 (q1.trans rfl)) fun _ _ x => x
noncomputable def tyOf (H : Hp) : SV → Option String
  | .ref p => match H[p]? with
    | some (.lst _) => some "list"
    | some (.dI _) => some "dict"
    | some (.dS _) => some "dict"
    | some (.dT _) => some "dict"
    | _ => none
  | _ => none
theorem Rp.tyOf {T : Tm} {ρ : List Addr} {H : Hp} {s : Shared} {v : SV} {val : Value} {ty : String} (R : Rp c T ρ H s.heap) (V : Val T ρ v val) (e : Mine.Internal.tyOf H v = some ty) : s.TypeIs val ty ∧ ∀ a, val = .ref a → ∃ o, s.heap.get? a = some o ∧ o.dict = none := by
  cases v with
  | ref p =>
    refine V.refE fun a ra => ?_
    unfold Mine.Internal.tyOf at e; dsimp only at e
    generalize hp : H[p]? = x at e
    rcases x with _ | so
    · exact nS e
    obtain ⟨_, o, g, x⟩ := R.atp ra hp
    have key : o.cls = .type ty ∧ o.dict = none := by
      cases so with
      | lst xs => obtain rfl := Option.some.inj e; obtain ⟨vs, n, rfl, _⟩ := x; exact ⟨rfl, rfl⟩
      | dI es => obtain rfl := Option.some.inj e; obtain ⟨x, _⟩ := x; exact ⟨x.1, x.2.1⟩
      | dS es => obtain rfl := Option.some.inj e; obtain ⟨x, _⟩ := x; exact ⟨x.1, x.2.1⟩
      | dT es => obtain rfl := Option.some.inj e; obtain ⟨x, _⟩ := x; exact ⟨x.1, x.2.1⟩
      | _ => exact nS e
    exact ⟨⟨o, g, key.1⟩, fun b q => by obtain rfl := Value.ref.inj q; exact ⟨o, g, key.2⟩⟩
  | _ => exact nS e
noncomputable def dMethB (ty : String) (F : Fn) (d : D SV) (ds : D (List SV)) : D SV := fun loc H => (d loc H).bind fun (o, H) => if tyOf H o = some ty then (ds loc H).bind fun (vs, H) => F (o :: vs) H else none
structure MB (ty : String) (name : Str) (id : String) : Prop where
  pa : PlainAttrs ty
  slot : Slot ty name id
  ty : typeOf (.builtin id) = pure (.type "method_descriptor")
theorem ES.methB {ty : String} {o : Expr} {name : Str} {id : String} {apos pos : Pos} {args : List Expr} {F : Fn} {d : D SV} {ds : D (List SV)} (ho : ES c k sc vars o d) (hM : MB ty name id) (hF : FB c k (.builtin id) F) (hs : EL c k sc vars args ds)
    (hp : ∀ env, (starEach args env).any (·.1) = false) (pl : Env → Sem Bool)
    (he : ∀ env, eval (.Call (.Attribute o name apos) args [] pos) env = (do
      let ov ← eval o env
      standAt apos.atName
      let (f, first) ← holding [ov] (getMethod ov name (pl env))
      callWith pos f first (backTo pos (starEach args env)) [])) : ES c k sc vars (.Call (.Attribute o name apos) args [] pos) (dMethB ty F d ds) := fun A env T ρ H loc s v H' hh hk hE R L e => by
  refine bE e fun a H1 e1 e2 => ?_; clear e
  try dsimp only at e2
  refine ifE e2 fun hi e2 => ?_
  refine bE e2 fun vs H2 e2 e3 => ?_
  try dsimp only at e3
  refine MethodCall_ (pl := pl env) (wpAny_mono (ho hh hk hE R L e1) (fun va s1 p1 => ?_) fun _ _ x => x) (he env)
  refine p1.el fun T1 ρ1 t1 r1 R1 V1 q1 => ?_
  obtain ⟨g1, g2⟩ := R1.tyOf V1 hi
  refine getMethod_builtin g1 hM.pa hM.slot hM.ty g2 ?_
  refine callWith_machine (f := .builtin id) rfl hp (wpAny_mono (hs pos hh hk hE R1 (L.mono t1 r1) e2) (fun vals s2 p2 => ?_) fun _ _ x => x)
  refine p2.el fun T2 ρ2 t2 r2 R2 V2 q2 => ?_
  exact wpAny_mono (hF hh hk R2 (.cons (V1.mono t2.t r2) V2) e3) (fun _ _ z => z.from (t1.trans t2) (r1.trans r2) (q1.trans q2)) fun _ _ x => x
theorem MB.append : MB "list" (Str.ofString "append") "list.append" := ⟨PySem.F.plainAttrs_list, PySem.F.slot_list_append, PySem.F.type_list_append⟩
theorem MB.pop : MB "list" (Str.ofString "pop") "list.pop" := ⟨PySem.F.plainAttrs_list, PySem.F.slot_list_pop, PySem.F.type_list_pop⟩
theorem MB.reverse : MB "list" (Str.ofString "reverse") "list.reverse" := ⟨PySem.F.plainAttrs_list, PySem.F.slot_list_reverse, PySem.F.type_list_reverse⟩
theorem MB.get : MB "dict" (Str.ofString "get") "dict.get" := ⟨PySem.F.plainAttrs_dict, PySem.F.slot_dict_get, PySem.F.type_dict_get⟩
theorem MB.setdefault : MB "dict" (Str.ofString "setdefault") "dict.setdefault" := ⟨PySem.F.plainAttrs_dict, PySem.F.slot_dict_setdefault, PySem.F.type_dict_setdefault⟩
theorem PV.setLst {T : Tm} {ρ : List Addr} {H : Hp} {s : Shared} {p : Nat} {a : Addr} {vs : Array Value} {n : Nat} {f : Array Value → Array Value} {ys : List SV} {v : SV} {val : Value} (R : Rp c T ρ H s.heap) (ra : ρ[p]? = some a) (g : s.heap.get? a = some { cls := .type "list", data := .seq vs n })
    (Vs : Vals T ρ ys (f vs).toList) (V : Val T ρ v val) : PV c T ρ s v (H.set p (.lst ys)) val { s with heap := s.heap.update a (Obj.mapSeq f) } :=
  ⟨T, ρ, Le.refl _, Pre.refl _, R.setSame ra (Heap.SameBut.update ..) (PySem.IsL.update g f) ⟨_, _, rfl, Vs⟩, V, rfl⟩
noncomputable def fAppend : Fn
  | [.ref p, v], H => match H[p]? with
    | some (.lst xs) => if xs.length < 1000000 then some (.none, H.set p (.lst (xs ++ [v]))) else none
    | _ => none
  | _, _ => none
theorem FB.append : FB c k (.builtin "list.append") fAppend := fun A T ρ H s svs vals v H' hh hk R V e => by
  rcases svs with _ | ⟨o, l⟩
  · exact nS e
  cases o with
  | ref p =>
    rcases l with _ | ⟨x, _ | ⟨_, _⟩⟩
    · exact nS e
    · obtain ⟨xs, hp, hl, e⟩ := lI e
      refine sE2 e ?_
      obtain ⟨vo, vx, rfl, Vo, Vx⟩ := V.two_inv
      refine Vo.refE fun a ra => ?_
      refine R.lstE ra hp fun vs n g Vs => ?_
      have len := Vs.length
      have lv : vs.toList.length = vs.size := Array.length_toList
      refine call_meets PySem.F.slot_list_append ⟨_, g, rfl⟩ PySem.F.entry_list_append (PySem.F.args_list_append_2 _ _) (PySem.list_append a vs n vx (by unfold sizeLine; lia)) ⟨g, ?_⟩
      exact PV.setLst (f := fun x => x.push vx) R ra g (by simpa using Vs.append (.one Vx)) .none
    · exact nS e
  | _ => exact nS e
noncomputable def fPop : Fn
  | [.ref p], H => match H[p]? with
    | some (.lst xs) => if xs.length < 1000000 then match xs.getLast? with
      | some v => some (v, H.set p (.lst xs.dropLast))
      | none => none else none
    | _ => none
  | _, _ => none
theorem FB.pop : FB c k (.builtin "list.pop") fPop := fun A T ρ H s svs vals v H' hh hk R V e => by
  rcases svs with _ | ⟨o, l⟩
  · exact nS e
  cases o with
  | ref p =>
    rcases l with _ | ⟨_, _⟩
    · obtain ⟨xs, hp, hl, e⟩ := lI e
      obtain ⟨x, hx, e⟩ := obI (o := xs.getLast?) (g := fun v => some (v, H.set p (.lst xs.dropLast))) e
      refine sE2 e ?_
      obtain ⟨vo, rfl, Vo⟩ := V.one_inv
      refine Vo.refE fun a ra => ?_
      refine R.lstE ra hp fun vs n g Vs => ?_
      have len := Vs.length
      have lv : vs.toList.length = vs.size := Array.length_toList
      rw [List.getLast?_eq_getElem?] at hx
      obtain ⟨val, hval, Vx⟩ := Vs.get hx
      have hval' : vs[vs.size - 1]? = some val := by
        rw [← lv, ← len]; simpa using hval
      refine call_meets PySem.F.slot_list_pop ⟨_, g, rfl⟩ PySem.F.entry_list_pop (PySem.F.args_list_pop_1 _) (PySem.MeetsSeq.list_pop_last a vs n val hval' (by unfold sizeLine; lia)) ⟨g, ?_⟩
      refine PV.setLst (f := fun xs => xs.eraseIdxIfInBounds (vs.size - 1)) R ra g ?_ Vx
      have : (vs.eraseIdxIfInBounds (vs.size - 1)).toList = vs.toList.dropLast := by
        have hlt : vs.size - 1 < vs.size := (Array.getElem?_eq_some_iff.mp hval').1
        unfold Array.eraseIdxIfInBounds
        rw [dif_pos hlt, Array.toList_eraseIdx, ← lv, List.eraseIdx_length_sub_one]
      rw [this]; exact Vs.dropLast
    · exact nS e
  | _ => exact nS e
noncomputable def fReverse : Fn
  | [.ref p], H => match H[p]? with
    | some (.lst xs) => if xs.length < 1000000 then some (.none, H.set p (.lst xs.reverse)) else none
    | _ => none
  | _, _ => none
theorem FB.reverse : FB c k (.builtin "list.reverse") fReverse := fun A T ρ H s svs vals v H' hh hk R V e => by
  rcases svs with _ | ⟨o, l⟩
  · exact nS e
  cases o with
  | ref p =>
    rcases l with _ | ⟨_, _⟩
    · obtain ⟨xs, hp, hl, e⟩ := lI e
      refine sE2 e ?_
      obtain ⟨vo, rfl, Vo⟩ := V.one_inv
      refine Vo.refE fun a ra => ?_
      refine R.lstE ra hp fun vs n g Vs => ?_
      have len := Vs.length
      have lv : vs.toList.length = vs.size := Array.length_toList
      refine call_meets PySem.F.slot_list_reverse ⟨_, g, rfl⟩ PySem.F.entry_list_reverse (PySem.F.args_list_reverse_1 _) (PySem.AutoSeq1.list_reverse_list_0 a vs n (by unfold sizeLine; lia)) ⟨g, ?_⟩
      exact PV.setLst (f := fun x => x.reverse) R ra g (by simpa using Vs.reverse) .none
    · exact nS e
  | _ => exact nS e
noncomputable def fGet : Fn
  | [.ref p, .str x, dflt], H => match H[p]? with
    | some (.dS es) => some ((look es x).getD dflt, H)
    | _ => none
  | [.ref p, .tup xs, dflt], H => match H[p]?, intsOf xs with
    | some (.dT es), some ks => some ((look es ks).getD dflt, H)
    | _, _ => none
  | _, _ => none
theorem FB.get : FB c k (.builtin "dict.get") fGet := fun A T ρ H s svs vals v H' hh hk R V e => by
  rcases svs with _ | ⟨o, l⟩
  · exact nS e
  cases o with
  | ref p =>
    rcases l with _ | ⟨x, l⟩
    · exact nS e
    cases x with
    | str x =>
      rcases l with _ | ⟨dflt, _ | ⟨_, _⟩⟩
      · exact nS e
      rotate_left
      · exact nS e
      refine dSE e fun es hp e => ?_
      refine sE2 e ?_
      obtain ⟨vo, vx, vd, rfl, Vo, Vx, Vd⟩ := V.three_inv
      refine Vo.refE fun a ra => ?_
      refine Vx.strE fun t => ?_
      obtain ⟨kvs, d, KVs⟩ := R.dS ra hp
      exact call_meetsIn PySem.F.slot_dict_get d.mapOf.typeIs PySem.F.entry_dict_get (PySem.F.args_dict_get_3 _ _ _) (meets_dict_get_default (PySem.strKind c.prog c.w) a (strIs x t) (R.notMods ra) vd) ⟨_, d.mapOf, PV.now R (KVs.getD x Vd) rfl⟩
    | tup xs =>
      rcases l with _ | ⟨dflt, _ | ⟨_, _⟩⟩
      · exact nS e
      rotate_left
      · exact nS e
      obtain ⟨es, ks, hp, hks, e⟩ := dTI e
      refine sE2 e ?_
      obtain ⟨vo, vx, vd, rfl, Vo, Vx, Vd⟩ := V.three_inv
      refine Vo.refE fun a ra => ?_
      obtain ⟨b, vs, n, rfl, tb, Vs⟩ := Vx.tup_inv
      obtain ⟨xs', d, K⟩ := R.dT ra hp
      have key := tupKey_of (c := c) tb Vs hks
      exact call_meetsIn PySem.F.slot_dict_get d.typeIs PySem.F.entry_dict_get (PySem.F.args_dict_get_3 _ _ _) (meetsH_dict_get_default (tupleKind (intKind c.prog c.w)) a b (R.notMods ra) vd) ⟨by have := hk.line; show A.units + 1 < cLine; lia, ks, xs', key.at R, d, PV.now R (K.getD ks Vd) rfl⟩
    | _ => exact nS e
  | _ => exact nS e
noncomputable def fSetdefault : Fn
  | [.ref p, .int i, dflt], H => match H[p]? with
    | some (.dI es) => if es.length < 1000000 then match look es i with
      | some v => some (v, H)
      | none => some (dflt, H.set p (.dI (sto es i dflt))) else none
    | _ => none
  | _, _ => none
theorem FB.setdefault : FB c k (.builtin "dict.setdefault") fSetdefault := fun A T ρ H s svs vals v H' hh hk R V e => by
  rcases svs with _ | ⟨o, l⟩
  · exact nS e
  cases o with
  | ref p =>
    rcases l with _ | ⟨i, l⟩
    · exact nS e
    cases i with
    | int i =>
      rcases l with _ | ⟨dflt, _ | ⟨_, _⟩⟩
      · exact nS e
      rotate_left
      · exact nS e
      refine dIE e fun es hp e => ?_
      refine ifE e fun hlen e => ?_
      obtain ⟨vo, vx, vd, rfl, Vo, Vx, Vd⟩ := V.three_inv
      refine Vo.refE fun a ra => ?_
      refine Vx.intE fun t => ?_
      obtain ⟨kvs, d, KVs⟩ := R.dI ra hp
      have q := KVs.look i
      refine call_meetsIn PySem.F.slot_dict_setdefault d.mapOf.typeIs PySem.F.entry_dict_setdefault (PySem.F.args_dict_setdefault_3 _ _ _) (kt_meets_setdefault (intKind c.prog c.w) a (intIs i t) (R.notMods ra) vd) ⟨kvs, d, ?_, fun u hu => ?_, fun hu h' d' hs => ?_⟩
      · rw [← KVs.length, sizeLine_eq]; lia
      · cases hl : look es i with
        | some u' =>
          rw [hl] at q e
          obtain ⟨val, q, V'⟩ := q
          obtain rfl := Option.some.inj (hu.symm.trans q)
          refine sE2 e ?_
          exact PV.now R V' rfl
        | none =>
          rw [hl] at q; exact sN q hu
      · cases hl : look es i with
        | some u' =>
          rw [hl] at q
          obtain ⟨val, q, V'⟩ := q
          exact sN hu q
        | none =>
          rw [hl] at e
          refine sE2 e ?_
          exact PV.now (R.ofI ra hs d' (KVs.sto Vd i)) Vd rfl
    | _ => exact nS e
  | _ => exact nS e
set_option genInjectivity false in
inductive DK where
  | I
  | S
  | T
noncomputable def DK.so : DK → SO
  | .I => .dI []
  | .S => .dS []
  | .T => .dT []
noncomputable def dEmpty (κ : DK) : D SV := fun _ H => some (.ref H.length, H ++ [κ.so])
theorem ES.empty {pos : Pos} (κ : DK) : ES c k sc vars (.Dict [] [] pos) (dEmpty κ) := fun A env T ρ H loc s v H' hh hk hE R L e => by
  refine sE2 e ?_
  refine wpAny_Dict_empty ?_
  refine ⟨T, ρ ++ [s.heap.objs.size], Le.refl _, Pre.snoc _ _, R.pushCell ?_ (by cases κ <;> rfl), .ref (by rw [← R.len]; exact List.getElem?_concat_length), rfl⟩
  cases κ with
  | I => exact ⟨⟨rfl, rfl, rfl⟩, #[], 0, [], rfl, fun _ h => by simp at h, .nil, by simp, .nil⟩
  | S => exact ⟨⟨rfl, rfl, rfl⟩, #[], 0, [], rfl, fun _ h => by simp at h, .nil, by simp, .nil⟩
  | T => exact ⟨⟨rfl, rfl, rfl⟩, #[], 0, [], rfl, rfl, by simp, .nil⟩
noncomputable def cmpNotIn (H : Hp) (a b : SV) : Option Bool := match a, b with
  | .int i, .ref p => match H[p]? with
    | some (.dI es) => some (!(look es i).isSome)
    | _ => none
  | _, _ => none
theorem CmpOK.notIn : CmpOK c k .NotIn cmpNotIn := fun A T ρ H s a b va vb r Q hh hr R Va Vb e h => by
  cases a with
  | int i =>
    cases b with
    | ref p =>
      refine dIE e fun es hp e => ?_
      obtain rfl := Option.some.inj e
      refine Va.intE fun t => ?_
      refine Vb.refE fun a ra => ?_
      obtain ⟨kvs, d, KVs⟩ := R.dI ra hp
      refine wpAny_notIn_of (intIs i t) (R.notMods ra) d.mapOf ?_
      have q := KVs.look i
      cases hl : look es i with
      | none => rw [hl] at q h; rw [q]; exact h _
      | some u => rw [hl] at q h; obtain ⟨val, q, V'⟩ := q; rw [q]; exact h _
    | _ => exact nS e
  | _ => exact nS e
end
end Mine.Internal
end
section
open PySem PySem.W PyProof.Rows
open PyProof.Rows.LCg (NsObj ns_obj)
namespace Mine.Internal
noncomputable def relab (scope sc : Scope) : Scope := { scope with names := scope.names.map fun (n, k) => if (k == .free && sc.kind == .function && sc.names.lookup n == some .cell) then (n, .cell) else (n, k) }
theorem relab_eq {scope sc : Scope} {env : Env} (h : env.scope = sc) : relabel scope env = relab scope sc := by
  unfold relabel relab Env.kindOf; rw [h]
structure CompOK (sc scope : Scope) (vars : List Str) (x : Str) (ys : List Str) (idx : List Nat) : Prop where
  kind : scope.kind = .function
  noCell : ∀ y ∈ scope.names, y.2 ≠ .cell
  names : ∀ y ∈ scope.names, y.2 = .local → scope.names.lookup y.1 = some .local
  hx : scope.names.lookup x = some .local
  len : ys.length = idx.length
  at' : ∀ (j : Nat) (y : Str), ys[j]? = some y → sc.names.lookup y = some .cell ∧ (relab scope sc).names.lookup y = some .cell ∧ (y, NameKind.free) ∈ scope.names ∧ ∃ i, idx[j]? = some i ∧ vars[i]? = some y
  free : ∀ y ∈ scope.names, y.2 = .free → y.1 ∈ ys
  out : x ∉ ys
noncomputable def compOK (sc scope : Scope) (vars : List Str) (x : Str) (ys : List Str) (idx : List Nat) : Bool :=
  scope.kind == .function && scope.names.all (fun y => y.2 != .cell) && scope.names.all (fun y => y.2 != .local || scope.names.lookup y.1 == some .local) && scope.names.lookup x == some .local && ys.length == idx.length &&
  (ys.zip idx).all (fun y => sc.names.lookup y.1 == some .cell && (relab scope sc).names.lookup y.1 == some .cell && scope.names.contains (y.1, NameKind.free) && vars[y.2]? == some y.1) &&
  scope.names.all (fun y => y.2 != .free || ys.contains y.1) && !ys.contains x
theorem CompOK.of {sc scope : Scope} {vars : List Str} {x : Str} {ys : List Str} {idx : List Nat} (h : compOK sc scope vars x ys idx = true) : CompOK sc scope vars x ys idx := by
  unfold compOK at h
  simp only [Bool.and_eq_true, List.all_eq_true, Bool.or_eq_true, bne_iff_ne, beq_iff_eq, Bool.not_eq_true', List.contains_eq_mem, decide_eq_true_eq, decide_eq_false_iff_not] at h
  obtain ⟨⟨⟨⟨⟨⟨⟨h1, h2⟩, h3⟩, h4⟩, h5⟩, h6⟩, h7⟩, h8⟩ := h
  refine ⟨h1, h2, fun y hy e => ?_, h4, h5, fun j y hj => ?_, fun y hy e => ?_, h8⟩
  · rcases h3 y hy with q | q
    · exact absurd e q
    · exact q
  · have hlt : j < idx.length := by rw [← h5]; exact (List.getElem?_eq_some_iff.mp hj).1
    have hi : idx[j]? = some idx[j] := List.getElem?_eq_getElem hlt
    have hz : (y, idx[j]) ∈ ys.zip idx := List.mem_iff_getElem?.mpr ⟨j, by rw [List.getElem?_zip_eq_some]; exact ⟨hj, hi⟩⟩
    obtain ⟨⟨⟨a, b⟩, d⟩, e⟩ := h6 _ hz
    exact ⟨a, b, d, _, hi, e⟩
  · rcases h7 y hy with q | q
    · exact absurd e q
    · exact q
noncomputable def closL (cells : List (Str × Addr)) : List (Str × NameKind) → List (Str × Addr) → List (Str × Addr)
  | [], acc => acc
  | (n, k) :: r, acc => if k == .free then match cells.lookup n with
      | some a => closL cells r ((n, a) :: acc)
      | none => closL cells r acc
    else closL cells r acc
theorem closL_step {cells : List (Str × Addr)} {n : Str} {k : NameKind} {r : List (Str × NameKind)} {acc : List (Str × Addr)} : closL cells ((n, k) :: r) acc = closL cells r acc ∨ ∃ a, cells.lookup n = some a ∧ closL cells ((n, k) :: r) acc = closL cells r ((n, a) :: acc) := by
  show (if k == .free then (match cells.lookup n with | some a => closL cells r ((n, a) :: acc) | none => closL cells r acc) else closL cells r acc) = _ ∨ ∃ a, cells.lookup n = some a ∧ (if k == .free then (match cells.lookup n with | some a => closL cells r ((n, a) :: acc) | none => closL cells r acc) else closL cells r acc) = _
  cases k == .free with
  | false => exact .inl rfl
  | true =>
    cases cells.lookup n with
    | none => exact .inl rfl
    | some a => exact .inr ⟨a, rfl, rfl⟩
theorem closL_free {cells : List (Str × Addr)} {n : Str} {r : List (Str × NameKind)} {acc : List (Str × Addr)} {a : Addr} (h : cells.lookup n = some a) : closL cells ((n, .free) :: r) acc = closL cells r ((n, a) :: acc) := by
  show (match cells.lookup n with | some a => closL cells r ((n, a) :: acc) | none => closL cells r acc) = _
  rw [h]
theorem closL_not {cells : List (Str × Addr)} {n : Str} {k : NameKind} {r : List (Str × NameKind)} {acc : List (Str × Addr)} (h : (k == NameKind.free) = false) : closL cells ((n, k) :: r) acc = closL cells r acc := by
  show (if k == .free then (match cells.lookup n with | some a => closL cells r ((n, a) :: acc) | none => closL cells r acc) else closL cells r acc) = _
  rw [h]; rfl
theorem closL_mem {cells : List (Str × Addr)} : ∀ (ns : List (Str × NameKind)) (acc : List (Str × Addr)), (∀ p ∈ acc, cells.lookup p.1 = some p.2) → ∀ p ∈ closL cells ns acc, cells.lookup p.1 = some p.2 := by
  intro ns
  induction ns with
  | nil => intro acc h p hp; exact h p hp
  | cons y r ih =>
    obtain ⟨n, k⟩ := y
    intro acc h p hp
    rcases closL_step (cells := cells) (n := n) (k := k) (r := r) (acc := acc) with e | ⟨a, ha, e⟩ <;> rw [e] at hp
    · exact ih _ h p hp
    · refine ih _ (fun q hq => ?_) p hp
      rcases List.mem_cons.mp hq with rfl | hq
      · exact ha
      · exact h q hq
theorem closL_acc {cells : List (Str × Addr)} : ∀ (ns : List (Str × NameKind)) (acc : List (Str × Addr)) (p : Str × Addr), p ∈ acc → p ∈ closL cells ns acc := by
  intro ns
  induction ns with
  | nil => intro acc p h; exact h
  | cons y r ih =>
    obtain ⟨n, k⟩ := y
    intro acc p h
    rcases closL_step (cells := cells) (n := n) (k := k) (r := r) (acc := acc) with e | ⟨a, ha, e⟩ <;> rw [e]
    · exact ih _ _ h
    · exact ih _ _ (List.mem_cons_of_mem _ h)
theorem closL_has {cells : List (Str × Addr)} {y : Str} {a : Addr} (ha : cells.lookup y = some a) : ∀ (ns : List (Str × NameKind)) (acc : List (Str × Addr)), (y, NameKind.free) ∈ ns → (y, a) ∈ closL cells ns acc := by
  intro ns
  induction ns with
  | nil => intro acc h; exact nomatch h
  | cons z r ih =>
    obtain ⟨n, k⟩ := z
    intro acc h
    rcases List.mem_cons.mp h with e | h
    · cases e
      show (y, a) ∈ (match cells.lookup y with | some a => closL cells r ((y, a) :: acc) | none => closL cells r acc)
      rw [ha]
      exact closL_acc _ _ _ (List.mem_cons_self ..)
    · rcases closL_step (cells := cells) (n := n) (k := k) (r := r) (acc := acc) with e | ⟨a, ha, e⟩ <;> rw [e] <;> exact ih _ h
theorem lookup_all {α : Type} : ∀ {l : List (Str × α)} {y : Str} {a : α}, (y, a) ∈ l → (∀ p ∈ l, p.1 = y → p.2 = a) → l.lookup y = some a := by
  intro l
  induction l with
  | nil => intro y a h; simp at h
  | cons p r ih =>
    intro y a h hall
    obtain ⟨z, b⟩ := p
    rw [List.lookup_cons]
    by_cases e : y = z
    · subst e
      have : b = a := hall (y, b) (by simp) rfl
      simp [this]
    · have : (y == z) = false := beq_eq_false_iff_ne.mpr e
      rw [this]
      refine ih ?_ fun p hp => hall p (List.mem_cons_of_mem _ hp)
      rcases List.mem_cons.mp h with q | q
      · cases q; exact absurd rfl e
      · exact q
theorem closure_is {env : Env} : ∀ (ns : List (Str × NameKind)) (acc : List (Str × Addr)), (∀ y ∈ ns, y.2 = .free → ∃ a, env.cells.lookup y.1 = some a) →
    (forIn ns acc fun (x : Str × NameKind) (cs : List (Str × Addr)) => (do
      let (name, kind) := x
      if kind == .free then pure (ForInStep.yield ((name, ← cellOf env name) :: cs)) else pure (ForInStep.yield cs) : Sem (ForInStep (List (Str × Addr))))) = pure (closL env.cells ns acc) := by
  intro ns
  induction ns with
  | nil => intro acc _; rfl
  | cons y r ih =>
    obtain ⟨n, k⟩ := y
    intro acc h
    rw [List.forIn_cons]
    by_cases hk : k = .free
    · subst hk
      obtain ⟨a, ha⟩ := h (n, .free) (by simp) rfl
      have e : cellOf env n = pure a := by unfold cellOf; rw [ha]
      have ha' : env.cells.lookup n = some a := ha
      simp only [beq_self_eq_true, if_true, e, closL_free ha']
      exact ih _ fun z hz => h z (List.mem_cons_of_mem _ hz)
    · have hk' : (k == NameKind.free) = false := beq_eq_false_iff_ne.mpr hk
      simp only [hk', Bool.false_eq_true, if_false, closL_not hk']
      exact ih _ fun z hz => h z (List.mem_cons_of_mem _ hz)
theorem closureFor_is {env : Env} {scope : Scope} (h : ∀ y ∈ scope.names, y.2 = .free → ∃ a, env.cells.lookup y.1 = some a) : closureFor scope env = pure (closL env.cells scope.names []) := by
  have := closure_is (env := env) scope.names [] h
  unfold closureFor
  exact (congrArg (fun m => m >>= fun s => pure s) this).trans rfl
noncomputable def frees (loc : Loc) : List Nat → Option Loc
  | [] => some []
  | i :: r => match loc[i]? with
    | some (some v) => (frees loc r).map (some v :: ·)
    | _ => none
theorem ssE {β : Type} {o : Option (Option SV)} {g : SV → Option β} {r : β} {P : Prop} (h : (match o with | some (some v) => g v | _ => none) = some r) (k : ∀ v, o = some (some v) → g v = some r → P) : P := by
  rcases o with _ | _ | v
  · exact nS h
  · exact nS h
  · exact k v rfl h
theorem frees_at {loc : Loc} : ∀ {idx : List Nat} {fv : Loc}, frees loc idx = some fv → fv.length = idx.length ∧ ∀ (j i : Nat), idx[j]? = some i → ∃ v, fv[j]? = some (some v) ∧ loc[i]? = some (some v) := by
  intro idx
  induction idx with
  | nil => intro fv h; obtain rfl := Option.some.inj h; exact ⟨rfl, fun j i e => nS e⟩
  | cons i r ih =>
    intro fv h
    refine ssE (o := loc[i]?) (g := fun v => (frees loc r).map (some v :: ·)) h fun v hv h => ?_
    obtain ⟨g, hg, rfl⟩ := Option.map_eq_some_iff.mp h
    obtain ⟨a, b⟩ := ih hg
    refine ⟨congrArg (· + 1) a, fun j i' e => ?_⟩
    cases j with
    | zero => obtain rfl := Option.some.inj e; exact ⟨v, rfl, hv⟩
    | succ j => exact b j i' e
noncomputable def dCompL (dt : D Bool) (de : D SV) (fv : Loc) : Nat → Src → List SV → Hp → Option (List SV × Hp)
  | 0, _, _, _ => none
  | W + 1, src, acc, H => (nextS H src).bind fun r => match r with
    | none => some (acc, H)
    | some (v, src') => (dt (some v :: fv) H).bind fun (b, H) => if b then (de (some v :: fv) H).bind fun (y, H) => if acc.length < 1000000 then dCompL dt de fv W src' (acc ++ [y]) H else none else dCompL dt de fv W src' acc H
noncomputable def dComp (di : D Src) (dt : D Bool) (de : D SV) (idx : List Nat) (W : Nat) : D SV := fun loc H => (di loc H).bind fun (src, H) => (frees loc idx).bind fun fv => (dCompL dt de fv W src [] H).bind fun (acc, H) => some (.ref H.length, H ++ [.lst acc])
noncomputable def dTrue : D Bool := fun _ H => some (true, H)
section
variable {c : Cx} {k : Nat} {sc : Scope} {vars : List Str}
theorem self_ok {A : Around} {T : Tm} {ρ : List Addr} {H : Hp} {s : Shared} {src : Src} {it : Addr} {o : Obj} {Q : Value → Shared → Prop} {E : Value → Shared → Prop} (R : Rp c T ρ H s.heap) (hT : T it = some o) (hI : IterIs T ρ src o) (h : Q (.ref it) s) : wpAny (model c.prog c.w) A (pyIter (.ref it)) Q E s := by
  have g := R.base _ _ hT
  cases hI with
  | lst ra hc hd => exact wpAny_pyIter_listiter ⟨_, g, hc, hd⟩ h
  | tup ta V hc hd => exact wpAny_pyIter_tupleiter ⟨_, g, hc, hd⟩ h
  | rng => exact wpAny_pyIter_rangeiter g h
  | rev ra hc hd => exact wpAny_pyIter_revIter ⟨_, g, hc, hd⟩ h
noncomputable def CT (c : Cx) (k : Nat) (sc : Scope) (vars : List Str) (ifs : List Expr) (d : D Bool) : Prop :=
  ∀ ⦃A : Around⦄ ⦃env : Env⦄ ⦃T : Tm⦄ ⦃ρ : List Addr⦄ ⦃H : Hp⦄ ⦃loc : Loc⦄ ⦃s : Shared⦄ ⦃v : Bool⦄ ⦃H' : Hp⦄, A.handled = none → Room k A → EnvOK sc env → Rp c T ρ H s.heap → LocOK env T ρ vars loc →
    d loc H = some (v, H') → wpAny (model c.prog c.w) A (forIn ifs true fun e r => if r = true then do let ok ← isTrue e env (eval e env); pure (ForInStep.yield ok) else pure (ForInStep.yield r)) (PB c T ρ s v H') NoE s
theorem CT.nil : CT c k sc vars [] dTrue := fun A env T ρ H loc s v H' hh hk hE R L e => by
  refine sE2 e ?_
  exact wpAny_tests_nil ⟨T, ρ, Le.refl _, Pre.refl _, R, rfl, rfl⟩
theorem CT.one {e : Expr} {d : D Bool} (h : ET c k sc vars e d) : CT c k sc vars [e] d := fun A env T ρ H loc s v H' hh hk hE R L e => by
  exact wpAny_tests_one (h hh hk hE R L e)
noncomputable def CFin (c : Cx) (A : Around) (T : Tm) (ρ : List Addr) (s : Shared) (v : SV) (H' : Hp) (use : Option (Value → Sem Unit)) (Q : Value → Shared → Prop) : Prop :=
  ∀ T' ρ' s' C D oC m acc vs n H1, Le T T' → Pre ρ ρ' → Rp c T' ρ' H1 s'.heap → Same s s' → T C = none → T D = none → D ≠ sysModules → C ≠ D → T' C = some oC → NsObj oC m → T' D = some { cls := .type "list", data := .seq vs n } → Vals T' ρ' acc vs.toList →
      v = .ref H1.length → H' = H1 ++ [.lst acc] → compPost (model c.prog c.w) A NoE use Q (.ref D) C (.ok .next) s'
inductive CellAt (env : Env) (T : Tm) (ρ : List Addr) (fv : Loc) (j : Nat) (y : Str) : Prop
  | mk (a : Addr) (o : Obj) (val : Value) (u : SV) (l : env.cells.lookup y = some a) (t : T a = some o) (d : o.data = .cell (some val)) (V : Val T ρ u val) (f : fv[j]? = some (some u))
theorem cells_at {scope : Scope} {x : Str} {ys : List Str} {idx : List Nat} {env : Env} {T : Tm} {ρ : List Addr} {loc fv : Loc} (hC : CompOK sc scope vars x ys idx) (hE : EnvOK sc env) (L : LocOK env T ρ vars loc) (e2 : frees loc idx = some fv) : ∀ (j : Nat) (y : Str), ys[j]? = some y → CellAt env T ρ fv j y := fun j y hy => by
  obtain ⟨fl, fa⟩ := frees_at e2
  obtain ⟨a1, a2, a3, i, a4, a5⟩ := hC.at' j y hy
  obtain ⟨u, f1, f2⟩ := fa j i a4
  obtain ⟨val, n, V⟩ := L i y u a5 f2
  rcases n with ⟨kd, _⟩ | ⟨_, a, o, l, t, d⟩
  · exfalso; unfold Env.kindOf at kd; rw [hE.scope, a1] at kd; cases kd
  · exact ⟨a, o, val, u, l, t, d, V, f1⟩
theorem clos_at {scope : Scope} {x : Str} {ys : List Str} {idx : List Nat} {env : Env} {T : Tm} {ρ : List Addr} {fv : Loc} (hC : CompOK sc scope vars x ys idx) (cellAt : ∀ (j : Nat) (y : Str), ys[j]? = some y → CellAt env T ρ fv j y) : closureFor scope env = pure (closL env.cells scope.names []) := closureFor_is fun y hy hf => by
  obtain ⟨j, hj⟩ := List.mem_iff_getElem?.mp (hC.free y hy hf)
  obtain ⟨a, o, val, u, l, _⟩ := cellAt j _ hj
  exact ⟨a, l⟩
theorem loc_comp {scope : Scope} {x : Str} {ys : List Str} {idx : List Nat} {env : Env} {T T5 : Tm} {ρ ρ' : List Addr} {fv : Loc} {C : Addr} {o5 : Obj} {v : SV} {val : Value} {m : Str → Option Value} (hC : CompOK sc scope vars x ys idx) (hE : EnvOK sc env) (cellAt : ∀ (j : Nat) (y : Str), ys[j]? = some y → CellAt env T ρ fv j y)
    (le5 : Le T T5) (pre : Pre ρ ρ') (mC5 : T5 C = some o5) (ns5 : NsObj o5 m) (hm : m x = some val) (V : Val T5 ρ' v val) : LocOK (compEnvC scope (closL env.cells scope.names []) C env) T5 ρ' (x :: ys) (some v :: fv) := by
  intro j y u hy hu
  cases j with
  | zero =>
    simp at hy hu; subst hy; subst hu
    exact ⟨val, .inl ⟨lookup_relabel_local hC.hx, o5, _, mC5, ns5, hm⟩, V⟩
  | succ j =>
    simp only [List.getElem?_cons_succ] at hy hu
    obtain ⟨a, o, val', u', l, t, d, Vu, fu⟩ := cellAt j y hy
    first | exact sN hu fu | exact sN fu hu | (rw [hu] at fu; cases fu)
    obtain ⟨a1, a2, a3, _⟩ := hC.at' j y hy
    refine ⟨val', .inr ⟨.inl ?_, a, o, ?_, le5 _ _ t, d⟩, Vu.mono le5.t pre⟩
    · show (relabel scope env).names.lookup y = some .cell
      rw [relab_eq hE.scope]; exact a2
    · show (closL env.cells scope.names []).lookup y = some a
      refine lookup_all (closL_has l _ _ a3) fun p hp hpy => ?_
      have := closL_mem scope.names [] (by simp) p hp
      rw [hpy, l] at this; cases this; rfl
theorem env_comp {scope : Scope} {x : Str} {ys : List Str} {idx : List Nat} {env : Env} {C : Addr} (hC : CompOK sc scope vars x ys idx) (hE : EnvOK sc env) : EnvOK (relab scope sc) (compEnvC scope (closL env.cells scope.names []) C env) := ⟨relab_eq hE.scope, hC.kind, hE.glob, hE.bi⟩
inductive CI (c : Cx) (T : Tm) (ρ : List Addr) (s : Shared) (dt : D Bool) (de : D SV) (fv : Loc) (acc : List SV) (H2 : Hp) (I C D : Addr) (n : Nat) (s' : Shared) : Prop
  | mk (T' : Tm) (ρ' : List Addr) (H' : Hp) (src' : Src) (o' oC' : Obj) (m : Str → Option Value) (vs : Array Value) (nn : Nat) (acc' : List SV) (le : Le T T') (pre : Pre ρ ρ') (q : Same s s') (R : Rp c T' ρ' H' s'.heap) (mI : T' I = some o') (IS : IterIs T' ρ' src' o') (mC : T' C = some oC') (ns : NsObj oC' m) (mD : T' D = some { cls := .type "list", data := .seq vs nn }) (V : Vals T' ρ' acc' vs.toList) (e : dCompL dt de fv n src' acc' H' = some (acc, H2))
structure CAp (c : Cx) (T : Tm) (I C D : Addr) : Prop where
  nI : T I = none
  nC : T C = none
  nD : T D = none
  IC : I ≠ C
  ID : I ≠ D
  CD : C ≠ D
  lo : D ≠ sysModules
  h0 : ∀ a, T a = none → c.h₀.get? a = none
theorem CI.app {T T7 : Tm} {ρ ρ7 : List Addr} {s s7 : Shared} {dt : D Bool} {de : D SV} {fv : Loc} {acc : List SV} {H2 H6 : Hp} {I C D : Addr} {n nn : Nat} {src : Src} {o4 o5 : Obj} {m : Str → Option Value} {vs : Array Value} {acc' : List SV} {y : SV} {vy : Value} {A : Around} (ap : CAp c T I C D)
    (le : Le T T7) (pre : Pre ρ ρ7) (q : Same s s7) (R7 : Rp c T7 ρ7 H6 s7.heap) (mI : T7 I = some o4) (IS : IterIs T7 ρ7 src o4) (mC : T7 C = some o5) (ns : NsObj o5 m) (mD : T7 D = some { cls := .type "list", data := .seq vs nn }) (Vs : Vals T7 ρ7 acc' vs.toList) (V : Val T7 ρ7 y vy)
    (hlen : acc'.length < 1000000) (e : dCompL dt de fv n src (acc' ++ [y]) H6 = some (acc, H2)) {P : Shared → Prop} (hP : ∀ s', CI c T ρ s dt de fv acc H2 I C D n s' → P s') :
    wpAny (model c.prog c.w) A (PySem.call (.builtin "list.append") [.ref D, vy]) (fun _ s5 => P s5) NoE s7 := by
  have g7 := R7.base _ _ mD
  have len := Vs.length
  have lv : vs.toList.length = vs.size := Array.length_toList
  have ntD : ¬ IsTupO ({ cls := .type "list", data := .seq vs nn } : Obj) := fun z => by have := z.1; simp at this
  refine call_meets PySem.F.slot_list_append ⟨_, g7, rfl⟩ PySem.F.entry_list_append (PySem.F.args_list_append_2 _ _) (PySem.list_append D vs nn vy (by unfold sizeLine; lia)) ⟨g7, hP _ ?_⟩
  have g8 := PySem.IsL.update g7 (fun x => x.push vy)
  have lt8 : LeT T7 (upd T7 D { cls := .type "list", data := .seq (vs.push vy) (if (vs.push vy).size == vs.size then nn else nn + 1) }) := LeT.upd fun z e => sB mD e (ntD)
  have R8 := R7.setT mD ntD (ap.h0 _ ap.nD) (fun b x n e => (Heap.get?_update_other _ _ (Ne.symm n)).trans e) g8
  refine ⟨_, ρ7, H6, src, o4, o5, m, _, _, acc' ++ [y], le.upd' ap.nD, pre, q.trans rfl, R8, ?_, IS.mono lt8 (Pre.refl _), ?_, ns, upd_self .., ?_, e⟩
  · rw [upd_ne ap.ID]; exact mI
  · rw [upd_ne ap.CD]; exact mC
  · have := (Vs.append (.one V)).mono lt8 (Pre.refl _)
    simpa using this
theorem comp_loop {elt iter : Expr} {x : Str} {px pos : Pos} {ifs : List Expr} {scope : Scope} {ys : List Str} {idx : List Nat} {dt : D Bool} {de : D SV}
    (hC : CompOK sc scope vars x ys idx) (ht : CT c k (relab scope sc) (x :: ys) ifs dt) (he : ES c k (relab scope sc) (x :: ys) elt de)
    {A : Around} {env : Env} {T : Tm} {ρ : List Addr} {s : Shared} {fv : Loc} {acc : List SV} {H2 : Hp} {I C D : Addr} {v : SV} {Hv : Hp} {use : Option (Value → Sem Unit)} {Q : Value → Shared → Prop} (hh : A.handled = none) (hk : Room k A) (hE : EnvOK sc env)
    (cellAt : ∀ (j : Nat) (y : Str), ys[j]? = some y → CellAt env T ρ fv j y) (ap : CAp c T I C D) (fin : CFin c A T ρ s v Hv use Q) (ev : v = .ref H2.length) (eH : Hv = H2 ++ [.lst acc]) {n : Nat} {s' : Shared} (J : CI c T ρ s dt de fv acc H2 I C D n s') :
    codeAny (model c.prog c.w) A (.compLoop (.ListComp elt [⟨.Name x px, iter, ifs, 0⟩] scope pos) 0 (.ref I) (.ref D) (compEnvC scope (closL env.cells scope.names []) C env)) (compPost (model c.prog c.w) A NoE use Q (.ref D) C) s' := by
  refine codeAny_compLoop_tests (CI c T ρ s dt de fv acc H2 I C D) (fun n s' J => ?_) n J
  have hEC := env_comp (C := C) hC hE
  obtain ⟨T', ρ', H', src', o', oC', m, vs, nn, acc', le', pre', q', R', mI', IS', mC', ns', mD', Vs', e'⟩ := J
  cases n with
  | zero => exact nS e'
  | succ n =>
    refine oE e' fun r en e' => ?_
    have hf : ∀ o'', T' I = some o'' → ∃ fs, o''.data = .fields fs := fun o'' z => sB mI' z (IS'.fields)
    refine wpAny_mono (next_ok (Q := NX c T' I ρ' H' r s') hh R' (ap.h0 _ ap.nI) mI' IS' en (fun _ _ _ _ _ a b d e f => .item a b d e f) fun _ a b d => .fin a b d) (fun r' s4 p => ?_) fun _ _ x => x.elim
    cases p with
    | @item v src'' val o4 _ hr R4 IS4 V4 q4 =>
      subst hr
      obtain ⟨b, H5, e5, e6⟩ := bIn e'; clear e'
      have lf : LeF T' (upd T' I o4) := LeF.upd hf
      have mC4 : upd T' I o4 C = some oC' := by rw [upd_ne (Ne.symm ap.IC)]; exact mC'
      have mD4 : upd T' I o4 D = some { cls := .type "list", data := .seq vs nn } := by rw [upd_ne (Ne.symm ap.ID)]; exact mD'
      have mI4 : upd T' I o4 I = some o4 := upd_self ..
      have le4 : Le T (upd T' I o4) := le'.upd' ap.nI
      have Vs4 := Vs'.mono lf.t (Pre.refl ρ')
      show wpAny _ _ _ _ _ _
      refine PyProof.Rows.assign_Name (wpAny_storeName_local (lookup_relabel_local hC.hx) (ns'.ns (R4.base _ _ mC4)) (fun h' hn' hs' => ?_) (by simp [compEnvC, relabel, hC.kind]))
      obtain ⟨o5, g5, ns5⟩ := ns_obj hn'
      have R5 : Rp c (upd (upd T' I o4) C o5) ρ' H' h' := R4.setT mC4 (notTup_dict ns') (ap.h0 _ ap.nC) (fun b x n e => (hs'.2 b n).trans e) g5
      have lt5 : LeT (upd T' I o4) (upd (upd T' I o4) C o5) := LeT.upd fun y e => sB mC4 e (notTup_dict ns')
      have le5 : Le T (upd (upd T' I o4) C o5) := le4.upd' ap.nC
      have mC5 : upd (upd T' I o4) C o5 C = some o5 := upd_self ..
      have mI5 : upd (upd T' I o4) C o5 I = some o4 := by rw [upd_ne ap.IC]; exact mI4
      have mD5 : upd (upd T' I o4) C o5 D = some { cls := .type "list", data := .seq vs nn } := by rw [upd_ne (Ne.symm ap.CD)]; exact mD4
      have V5 := V4.mono lt5 (Pre.refl ρ')
      have Vs5 := Vs4.mono lt5 (Pre.refl ρ')
      have IS5 := IS4.mono lt5 (Pre.refl ρ')
      have LC := loc_comp hC hE cellAt le5 pre' mC5 ns5 (by simp) V5
      refine wpAny_mono (ht (s := { s4 with heap := h', toks := s4.toks + 1 }) hh hk hEC R5 LC e5) (fun ok s6 p6 => ?_) fun _ _ x => x.elim
      obtain ⟨T6, ρ6, t6, r6, R6, rfl, q6⟩ := p6
      have le6 : Le T T6 := le5.trans t6
      have qq : Same s s6 := (q'.trans q4).trans (Same.trans (s' := { s4 with heap := h', toks := s4.toks + 1 }) rfl q6)
      cases ok with
      | false =>
        exact ⟨n, Nat.lt_succ_self _, T6, ρ6, H5, src'', o4, o5, _, vs, nn, acc', le6, pre'.trans r6, qq, R6, t6 _ _ mI5, IS5.mono t6.t r6, t6 _ _ mC5, ns5, t6 _ _ mD5, Vs5.mono t6.t r6, e6⟩
      | true =>
        refine bE e6 fun y H6 e6 e7 => ?_
        refine wpAny_mono (he hh hk hEC R6 (LC.mono t6 r6) e6) (fun vy s7 p7 => ?_) fun _ _ x => x.elim
        refine p7.el fun T7 ρ7 t7 r7 R7 V7 q7 => ?_
        refine ifE e7 fun hlen e7 => ?_
        exact wpAny_mono (CI.app ap (le6.trans t7) ((pre'.trans r6).trans r7) (qq.trans q7) R7 (t7 _ _ (t6 _ _ mI5)) (IS5.mono (t6.trans t7).t (r6.trans r7)) (t7 _ _ (t6 _ _ mC5)) ns5 (t7 _ _ (t6 _ _ mD5)) ((Vs5.mono t6.t r6).mono t7.t r7) V7 hlen e7 fun s' J => ⟨n, Nat.lt_succ_self _, J⟩) (fun _ _ h => h) fun _ _ x => x.elim
    | fin hr R4 q4 =>
      subst hr
      obtain ⟨ea, eb⟩ := sI2 e'
      have lf : LeF T' (del T' I) := LeF.del hf
      refine fin (del T' I) ρ' s4 C D oC' m acc' vs nn H' (fun b w z => ?_) pre' R4 (q'.trans q4) ap.nC ap.nD ap.lo ap.CD ?_ ns' ?_ (Vs'.mono lf.t (Pre.refl _)) (by rw [ev, eb]) (by rw [eH, ea, eb])
      · have : b ≠ I := neN ap.nI z
        rw [del_ne this]; exact le' _ _ z
      · rw [del_ne (Ne.symm ap.IC)]; exact mC'
      · rw [del_ne (Ne.symm ap.ID)]; exact mD'
theorem comp_made {T T1 : Tm} {ρ1 : List Addr} {H1 : Hp} {h h₁ : Heap} {I : Addr} {oI : Obj} {src : Src} {ns : Str → Option Value} (top : ∀ a o, c.h₀.get? a = some o → T a = some o) (t1 : Le T T1) (R1 : Rp c T1 ρ1 H1 h) (nI : T I = none) (mI : T1 I = some oI) (IS : IterIs T1 ρ1 src oI)
    (hns : h₁.Ns (h.push ({ cls := .type "list", dict := none, data := .seq ([] : List Value).toArray } : Obj)).objs.size ns) (hsb : ∀ b o, (h.push ({ cls := .type "list", dict := none, data := .seq ([] : List Value).toArray } : Obj)).get? b = some o → h₁.get? b = some o) :
    ∃ T3 oC, CAp c T I (h.push ({ cls := .type "list", dict := none, data := .seq ([] : List Value).toArray } : Obj)).objs.size h.objs.size ∧ Le T1 T3 ∧ Rp c T3 ρ1 H1 h₁ ∧ T3 (h.push ({ cls := .type "list", dict := none, data := .seq ([] : List Value).toArray } : Obj)).objs.size = some oC ∧ NsObj oC ns ∧ T3 h.objs.size = some { cls := .type "list", data := .seq ([] : List Value).toArray } := by
  have R2 := R1.pushT ({ cls := .type "list", dict := none, data := .seq ([] : List Value).toArray } : Obj) rfl
  have t2 : Le T1 (upd T1 h.objs.size ({ cls := .type "list", dict := none, data := .seq ([] : List Value).toArray } : Obj)) := Le.upd R1.fresh
  have mD : upd T1 h.objs.size ({ cls := .type "list", dict := none, data := .seq ([] : List Value).toArray } : Obj) h.objs.size = some ({ cls := .type "list", dict := none, data := .seq ([] : List Value).toArray } : Obj) := upd_self ..
  have nD1 : T1 h.objs.size = none := R1.fresh
  have loD := R1.lowSize
  generalize upd T1 h.objs.size ({ cls := .type "list", dict := none, data := .seq ([] : List Value).toArray } : Obj) = T2 at R2 t2 mD
  generalize h.objs.size = D at mD nD1 loD ⊢
  generalize h.push ({ cls := .type "list", dict := none, data := .seq ([] : List Value).toArray } : Obj) = hp at R2 hns hsb ⊢
  obtain ⟨oC, gC, nsC⟩ := ns_obj hns
  have R3a : Rp c T2 ρ1 H1 h₁ := R2.grow' hsb
  have nC2 : T2 hp.objs.size = none := R2.fresh
  have tnone : ∀ a, T1 a = none → T a = none := fun a ha => leN t1 ha
  refine ⟨_, oC, ⟨nI, tnone _ ?_, tnone _ nD1, fun q => ?_, fun q => ?_, fun q => ?_, loD, fun a ha => ?_⟩, t2.trans (Le.upd nC2), R3a.addT nC2 R2.notρ gC, upd_self .., nsC, Le.upd nC2 _ _ mD⟩
  · exact leN t2 nC2
  · exact sN (q ▸ nC2) (t2 _ _ mI)
  · exact sN (q ▸ nD1) mI
  · exact sN nC2 (q ▸ mD)
  · exact leN top ha
theorem comp_core {elt iter : Expr} {x : Str} {px pos pos' : Pos} {ifs : List Expr} {scope : Scope} {ys : List Str} {idx : List Nat} {di : D Src} {dt : D Bool} {de : D SV} {W : Nat}
    (hC : CompOK sc scope vars x ys idx) (hi : EI c k sc vars iter di) (ht : CT c k (relab scope sc) (x :: ys) ifs dt) (he : ES c k (relab scope sc) (x :: ys) elt de) (hfold : ∀ env x, foldedSetIterable iter env x = pure x)
    {A : Around} {env : Env} {T : Tm} {ρ : List Addr} {H : Hp} {loc : Loc} {s : Shared} {v : SV} {H' : Hp} {use : Option (Value → Sem Unit)} {Q : Value → Shared → Prop} (hh : A.handled = none) (hk : Room k A) (hE : EnvOK sc env) (R : Rp c T ρ H s.heap) (L : LocOK env T ρ vars loc)
    (e : dComp di dt de idx W loc H = some (v, H')) (fin : CFin c A T ρ s v H' use Q) :
    wpAny (model c.prog c.w) A (comprehension (.ListComp elt [⟨.Name x px, iter, ifs, 0⟩] scope pos) scope env pos' (newList []) false (eval iter env) use) Q NoE s := by
  refine bE e fun src H1 e1 e => ?_
  refine oE e fun fv e2 e => ?_
  refine bE e fun acc H2 e3 e => ?_
  obtain ⟨ev, eH⟩ := sI2 e
  have cellAt := cells_at hC hE L e2
  refine wpAny_comprehension_free (use := use) rfl (hfold env) (clos_at hC cellAt) hC.kind hC.names (wpAny_mono (hi hh hk hE R L e1) (fun xv s1 p1 => wpAny_mono p1 (fun it s2 p => ?_) fun _ _ x => x.elim) fun _ _ x => x.elim)
  obtain ⟨T1, ρ1, I, oI, t1, r1, R1, q1, rfl, nI, mI, IS⟩ := p
  refine wpAny_newObj_type (wpAny_newFunctionEnv hC.noCell (by intro y hy; simp at hy) (fun h₁ hns hsb => ?_) hC.kind)
  dsimp only at hns hsb ⊢
  obtain ⟨T3, oC, ap, t3, R3, mC, nsC, mD⟩ := comp_made R.top t1 R1 nI mI IS hns fun b o e => by
    rw [hsb.2 b (Nat.ne_of_lt (Heap.lt_size e))]; exact Heap.get?_push_of_some _ e
  have loop := comp_loop (elt := elt) (iter := iter) (px := px) (pos := pos) (s' := { s2 with heap := h₁, toks := s2.toks + ([] : List (Str × Value)).length }) hC ht he hh hk hE cellAt ap fin ev eH ⟨T3, ρ1, H1, src, oI, oC, _, _, _, [], t1.trans t3, r1, q1.trans rfl, R3, t3 _ _ mI, IS.mono t3.t (Pre.refl _), mC, nsC, mD, .nil, e3⟩
  exact codeAny_compStart_list loop (self_ok (s := { s2 with heap := h₁, toks := s2.toks + ([] : List (Str × Value)).length }) R3 (t3 _ _ mI) (IS.mono t3.t (Pre.refl _)) loop)
theorem Rp.toCell {T : Tm} {ρ : List Addr} {H : Hp} {h : Heap} {D : Addr} {vs : Array Value} {n : Nat} {acc : List SV} (R : Rp c T ρ H h) (n0 : c.h₀.get? D = none) (lo : D ≠ sysModules) (mD : T D = some { cls := .type "list", data := .seq vs n }) (V : Vals T ρ acc vs.toList) : Rp c (Mine.Internal.del T D) (ρ ++ [D]) (H ++ [.lst acc]) h := by
  have nt : ∀ o, T D = some o → ¬ IsTupO o := fun o e => sB mD e (fun z => by have := z.1; simp at this)
  have hm : D ∉ ρ := fun m => by first | exact sN (R.notT m) mD | exact sN mD (R.notT m) | (rw [R.notT m] at mD; cases mD)
  have lt : LeT T (Mine.Internal.del T D) := fun b o q z => by
    have : b ≠ D := fun y => by subst y; exact nt _ q z
    rw [del_ne this]; exact q
  exact (R.del n0 nt hm (Heap.ExtBut.refl _ _)).addCell del_self hm lo (R.base _ _ mD) ⟨vs, n, rfl, V.mono lt (Pre.snoc _ _)⟩
theorem ES.comp {elt iter : Expr} {x : Str} {px pos : Pos} {ifs : List Expr} {scope : Scope} {di : D Src} {dt : D Bool} {de : D SV} (ys : List Str) (idx : List Nat) (W : Nat)
    (hC : compOK sc scope vars x ys idx = true) (hi : EI c k sc vars iter di) (ht : CT c k (relab scope sc) (x :: ys) ifs dt) (he : ES c k (relab scope sc) (x :: ys) elt de) (hfold : ∀ env x, foldedSetIterable iter env x = pure x) :
    ES c k sc vars (.ListComp elt [⟨.Name x px, iter, ifs, 0⟩] scope pos) (dComp di dt de idx W) := fun A env T ρ H loc s v H' hh hk hE R L e => by
  show wpAny _ _ (eval (.ListComp elt [⟨.Name x px, iter, ifs, 0⟩] scope pos) env) _ _ _
  rw [eval_ListComp]
  refine comp_core (CompOK.of hC) hi ht he hfold hh hk hE R L e fun T' ρ' s' C D oC m acc vs n H1 le pre R' q nC nD lo CD mC nsC mD V ev eH => ?_
  subst ev; subst eH
  refine ⟨m, nsC.ns (R'.base _ _ mC), fun h' hs => ?_⟩
  have h0 : ∀ a, T a = Option.none → c.h₀.get? a = Option.none := fun a ha => leN R.top ha
  have nt : ∀ o, T' C = some o → ¬ IsTupO o := fun o e => sB mC e (notTup_dict nsC)
  have hm : C ∉ ρ' := fun z => by first | exact sN (R'.notT z) mC | exact sN mC (R'.notT z) | (rw [R'.notT z] at mC; cases mC)
  have lt : LeT T' (del T' C) := fun b o q z => by
    have : b ≠ C := fun y => by subst y; exact nt _ q z
    rw [del_ne this]; exact q
  have R2 := R'.del (h0 _ nC) nt hm hs.extBut
  have R3 := R2.toCell (h0 _ nD) lo (by rw [del_ne (Ne.symm CD)]; exact mD) (V.mono lt (Pre.refl _))
  refine ⟨_, _, fun b o z => ?_, pre.trans (Pre.snoc _ _), R3, .ref (by rw [← R'.len]; simp), q.trans rfl⟩
  have h1 : b ≠ C := neN nC z
  have h2 : b ≠ D := neN nD z
  rw [del_ne h2, del_ne h1]; exact le _ _ z
end
end Mine.Internal
end
section
open PySem PySem.W PyProof.Rows
open PyProof.Rows.LCg (NsObj ns_obj)
open PySem.Calls
namespace Mine.Internal
theorem r_owner : Manifest.owners.lookup (String.ofList ['d', 'e', 's', 'r', 'e', 'v', 'e', 'r'].reverse) = some Manifest.sig_reversed := by kernel_rfl
theorem r_slot_next : Slot "reversed" "__next__" "reversed.__next__" :=
  .of (owner := "reversed") (n := "__next__") (by rw [typeLookup_type, builtinLookup_eq_fast]; kernel_rfl) (by decide +kernel) (by decide +kernel) (by decide +kernel)
    (by first | exact .inl (by decide +kernel) | exact .inr (by decide +kernel)) (by rw [isSubtype_type]; kernel_rfl)
theorem r_entry_next : entryFor table "reversed.__next__" = some Builtin.«reversed.__next__» := entryFor_of_tree (by kernel_rfl)
theorem r_args_next (a : Value) : argsOk "reversed.__next__" ⟨[a], []⟩ := by
  unfold argsOk; rw [signature?_of (id := "reversed.__next__") (n := ['_', '_', 't', 'x', 'e', 'n', '_', '_']) (o := ['d', 'e', 's', 'r', 'e', 'v', 'e', 'r']) (by kernel_rfl) r_owner]; kernel_rfl
theorem r_slot_iter : Slot "reversed" "__iter__" "reversed.__iter__" :=
  .of (owner := "reversed") (n := "__iter__") (by rw [typeLookup_type, builtinLookup_eq_fast]; kernel_rfl) (by decide +kernel) (by decide +kernel) (by decide +kernel)
    (by first | exact .inl (by decide +kernel) | exact .inr (by decide +kernel)) (by rw [isSubtype_type]; kernel_rfl)
theorem r_args_iter (a : Value) : argsOk "reversed.__iter__" ⟨[a], []⟩ := by
  unfold argsOk; rw [signature?_of (id := "reversed.__iter__") (n := ['_', '_', 'r', 'e', 't', 'i', '_', '_']) (o := ['d', 'e', 's', 'r', 'e', 'v', 'e', 'r']) (by kernel_rfl) r_owner]; kernel_rfl
theorem r_entry_iter : entryFor table "reversed.__iter__" = some Builtin.«dict_keyiterator.__iter__» :=
  entryFor_alias (id' := "dict_keyiterator.__iter__") (by kernel_rfl) (by first | rfl | decide +kernel | (unfold String.splitOn; simp +decide [String.splitOnAux])) (by decide +kernel) (by kernel_rfl)
theorem r_slot_hint : Slot "reversed" "__length_hint__" "reversed.__length_hint__" :=
  .of (owner := "reversed") (n := "__length_hint__") (by rw [typeLookup_type, builtinLookup_eq_fast]; kernel_rfl) (by decide +kernel) (by decide +kernel) (by decide +kernel)
    (by first | exact .inl (by decide +kernel) | exact .inr (by decide +kernel)) (by rw [isSubtype_type]; kernel_rfl)
theorem r_entry_hint : entryFor table "reversed.__length_hint__" = some Builtin.«reversed.__length_hint__» := entryFor_of_tree (by kernel_rfl)
theorem r_args_hint (a : Value) : argsOk "reversed.__length_hint__" ⟨[a], []⟩ := by
  unfold argsOk; rw [signature?_of (id := "reversed.__length_hint__") (n := ['_', '_', 't', 'n', 'i', 'h', '_', 'h', 't', 'g', 'n', 'e', 'l', '_', '_']) (o := ['d', 'e', 's', 'r', 'e', 'v', 'e', 'r']) (by kernel_rfl) r_owner]; kernel_rfl
theorem r_slot_init : Slot "reversed" "__init__" "object.__init__" :=
  .of (owner := "object") (n := "__init__") (by rw [typeLookup_type, builtinLookup_eq_fast]; kernel_rfl) (by decide +kernel) (by decide +kernel) (by decide +kernel)
    (by first | exact .inl (by decide +kernel) | exact .inr (by decide +kernel)) (by rw [isSubtype_type]; kernel_rfl)
theorem r_called : TypeCalled "reversed" "reversed.__new__" "object.__init__" :=
  ⟨by decide +kernel, PySem.F.create_reversed, ⟨_, _, PySem.F.mro_reversed⟩, PySem.F.made_reversed, PySem.F.plain_reversed_new, PySem.F.sub_reversed_self, r_slot_init⟩
theorem r_no_len : typeLookup (.type "reversed") "__len__" = pure none := by rw [typeLookup_type, builtinLookup_eq_fast]; kernel_rfl
theorem t_no_reversed : typeLookup (.type "tuple") "__reversed__" = pure none := by rw [typeLookup_type, builtinLookup_eq_fast]; kernel_rfl
theorem lri_no_len : typeLookup (.type "list_reverseiterator") "__len__" = pure none := by rw [typeLookup_type, builtinLookup_eq_fast]; kernel_rfl
theorem lri_hint : typeLookup (.type "list_reverseiterator") "__length_hint__" = pure (some (.builtin "list_reverseiterator.__length_hint__")) := by rw [typeLookup_type, builtinLookup_eq_fast]; kernel_rfl
noncomputable def rtObj (t : Addr) (i : Int) : Obj := { cls := .type "reversed", data := .fields #[.ref t, rawInt i] }
noncomputable def IsRevT (h : Heap) (a t : Addr) (i : Int) : Prop := ∃ o, h.get? a = some o ∧ o.cls = .type "reversed" ∧ o.data = .fields #[.ref t, rawInt i]
section
variable {prog : Program} {w : World} {A : Around} {E : Value → Shared → Prop} {s : Shared}
theorem IsRevT.typeIs {a t : Addr} {i : Int} (x : IsRevT s.heap a t i) : s.TypeIs (.ref a) "reversed" := let ⟨o, ho, hc, _⟩ := x; ⟨o, ho, hc⟩
theorem IsRevT.at {h h' : Heap} {a t : Addr} {i : Int} (x : IsRevT h a t i) (e : ∀ o, h.get? a = some o → h'.get? a = some o) : IsRevT h' a t i := let ⟨o, ho, r⟩ := x; ⟨o, e _ ho, r⟩
theorem call_reversed_tuple {t : Addr} {items : Array Value} {Q : Value → Shared → Prop} (ht : IsTup s.heap t items) (hfit : (items.size : Int) < 2 ^ 63)
    (h : ∀ tk, Q (.ref s.heap.objs.size) { s with heap := s.heap.push (rtObj t ((items.size : Int) - 1)), toks := tk }) : wpAny (model prog w) A (PySem.call (.type "reversed") [.ref t]) Q E s := by
  refine callType_codes (Q₁ := fun obj s₁ => obj = .ref s.heap.objs.size ∧ ∃ tk, s₁ = { s with heap := s.heap.push (rtObj t ((items.size : Int) - 1)), toks := tk }) r_called (PySem.F.typeCall_reversed_1 _) PySem.F.entry_object_init ?_ ?_
  · refine codeAny_of_tree ?_
    show wpAny _ A.in1.in1 (do checkBuiltinCall "reversed.__new__" ⟨[.type "reversed", .ref t], []⟩; again (.builtin "reversed.__new__" ⟨[.type "reversed", .ref t], []⟩)) _ _ s
    refine wpAny_bind (wpAny_of_eq (PySem.F.newCall_reversed_1 _) (wpAny_pure ⟨plainId_quiet PySem.F.plain_reversed_new _, codeAny_builtin PySem.F.entry_reversed_new ?_⟩))
    rw [Around.under_plainId PySem.F.plain_reversed_new _]
    unfold Builtin.«reversed.__new__»
    refine wpAny_bind (wpAny_of_eq (newClass_reversed _) ?_)
    try dsimp only
    refine wpAny_bind (wpAny_of_eq (a := ()) (by first | rfl | kernel_rfl) ?_)
    refine wpAny_bind (wpAny_of_eq (a := ()) (by first | rfl | kernel_rfl) ?_)
    try dsimp only
    refine wpAny_bind (wpAny_specialOf ht.typeIs t_no_reversed ?_)
    try dsimp only
    refine wpAny_bind ?_
    show wpAny _ _ (isInstance (.ref t) (.type "dict") >>= _) _ _ _
    refine wpAny_bind (wpAny_isInstance (T := "tuple") (b := false) ht.typeIs (by rw [isSubtype_type]; kernel_rfl) ?_)
    try simp only [Bool.false_eq_true, if_false]
    try refine wpAny_pure ?_
    show wpAny _ _ (specialOf (.ref t) "__getitem__" >>= _) _ _ _
    refine wpAny_bind (wpAny_specialOf ht.typeIs slot_tuple_getitem.lookup ?_)
    refine wpAny_of_eq (a := true) (by first | rfl | kernel_rfl | (simp; done)) ?_
    try dsimp only
    rw [if_neg (by decide)]
    refine wpAny_bind (len_tuple ht hfit ?_)
    refine wpAny_bind (m := asInt? _) (wpAny_pure ?_)
    try dsimp only
    refine wpAny_bind (m := Builtin.SmallTypes.newRecord (.type "reversed") [.ref t, rawInt ((items.size : Int) - 1)]) ?_
    show wpAny _ _ (newObj (.type "reversed") (.fields #[.ref t, rawInt ((items.size : Int) - 1)])) _ _ _
    refine wpAny_newObj_type ?_
    exact wpAny_pure ⟨rfl, _, rfl⟩
  · rintro obj s₁ ⟨rfl, tk, rfl⟩
    exact ⟨⟨_, Heap.get?_push_size _ rfl, rfl⟩, PySem.F.args_object_init_2 _ _, object_init_meets (T := "reversed") r_slot_init.lookup PySem.F.made_reversed (by decide) prog w A.in1 _ _ ⟨⟨_, Heap.get?_push_size _ rfl, rfl⟩, rfl, h tk⟩⟩
theorem wpAny_pyIter_revT {it t : Addr} {i : Int} {Q : Value → Shared → Prop} (hit : IsRevT s.heap it t i) (h : Q (.ref it) s) : wpAny (model prog w) A (pyIter (.ref it)) Q E s := by
  refine wpAny_pyIter_slot hit.typeIs r_slot_iter (wpAny_call_entry r_slot_iter hit.typeIs r_entry_iter ?_ (r_args_iter _))
  show wpAny _ _ (ret (.ref it)) _ _ s
  exact wpAny_pure ⟨_, rfl, "reversed", _, hit.typeIs, r_slot_next.lookup, h⟩
theorem wpAny_pyNext_revT_item {it t : Addr} {i : Nat} {items : Array Value} {x : Value} {Q : Option Value → Shared → Prop} (hit : IsRevT s.heap it t (i : Int)) (ht : IsTup s.heap t items) (hx : items[i]? = some x) (hb : (i : Int) < 2 ^ 63)
    (hQ : ∀ h' tk, IsRevT h' it t ((i : Int) - 1) → Heap.SameBut it s.heap h' → Q (some x) { s with heap := h', toks := tk }) : wpAny (model prog w) A (pyNext (.ref it)) Q E s := by
  obtain ⟨o, ho, hc, hd⟩ := id hit
  unfold pyNext
  refine wpAny_bind (wpAny_attempt (wpAny_callSpecial?_slot (name := Str.ofString "__next__") hit.typeIs r_slot_next
    (wpAny_call_entry r_slot_next hit.typeIs r_entry_next ?_ (r_args_next _))))
  unfold Builtin.«reversed.__next__»
  refine wpAny_bind (wpAny_of_eq (a := (Value.ref it, [])) rfl ?_)
  try dsimp only
  refine wpAny_bind (wpAny_field ho hd (x := .ref t) rfl ?_)
  refine wpAny_bind (wpAny_field ho hd (x := rawInt (i : Int)) rfl ?_)
  show wpAny _ _ (if (i : Int) < 0 then _ else _) _ _ s
  rw [if_neg (by lia)]
  show wpAny _ _ (specialOf (.ref t) "__getitem__" >>= _) _ _ s
  refine wpAny_bind (wpAny_specialOf ht.typeIs slot_tuple_getitem.lookup ?_)
  try dsimp only [Option.isNone_some]
  rw [if_neg (by decide)]
  refine wpAny_bind (wpAny_mkInt ?_)
  have hlt := (Array.getElem?_eq_some_iff.mp hx).1
  refine wpAny_bind (wpAny_attempt (getItem_tuple (x := x) (j := i) ht (by lia) hb (by rw [seqIndex_in (by lia) (by simpa using hlt)]; simp) hx ?_))
  try dsimp only
  refine wpAny_bind (wpAny_field ho hd (x := rawInt (i : Int)) rfl ?_)
  try dsimp only
  refine wpAny_bind (wpAny_setField ho hd (by simp) ?_)
  refine wpAny_pure ⟨x, rfl, wpAny_pure (hQ _ _ ?_ (Heap.SameBut.update ..))⟩
  exact ⟨_, Heap.get?_update_self _ ho (Obj.isFreed_of_fields (Obj.data_mapFields hd _)), (Obj.cls_mapFields ..).trans hc, by
    rw [Obj.data_mapFields hd]; simp⟩
theorem wpAny_pyNext_revT_end {it t : Addr} {Q : Option Value → Shared → Prop} (hh : A.handled = none) (hit : IsRevT s.heap it t (-1))
    (hQ : ∀ h', Heap.ExtBut it s.heap h' → Q none { s with heap := h' }) : wpAny (model prog w) A (pyNext (.ref it)) Q E s := by
  obtain ⟨o, ho, hc, hd⟩ := id hit
  unfold pyNext
  refine wpAny_bind (wpAny_attempt (wpAny_callSpecial?_slot (name := Str.ofString "__next__") hit.typeIs r_slot_next
    (wpAny_call_entry r_slot_next hit.typeIs r_entry_next ?_ (r_args_next _))))
  unfold Builtin.«reversed.__next__»
  refine wpAny_bind (wpAny_of_eq (a := (Value.ref it, [])) rfl ?_)
  try dsimp only
  refine wpAny_bind (wpAny_field ho hd (x := .ref t) rfl ?_)
  refine wpAny_bind (wpAny_field ho hd (x := rawInt (-1)) rfl ?_)
  show wpAny _ _ (if (-1 : Int) < 0 then _ else _) _ _ s
  rw [if_pos (by decide)]
  refine wpAny_bind (wpAny_rule ?_)
  refine wpAny_bind ?_
  show wpAny _ _ (setField (.ref it) 1 (rawInt (-1)) >>= fun _ => setField (.ref it) 0 .none) _ _ _
  refine wpAny_bind (wpAny_setField ho hd (by simp) ?_)
  have ho2 := Heap.get?_update_self (Obj.mapFields fun x => x.setIfInBounds 1 (rawInt (-1))) ho (Obj.isFreed_of_fields (Obj.data_mapFields hd _))
  refine wpAny_setField ho2 (Obj.data_mapFields hd _) (by simp) ?_
  first
  | show wpAny _ _ (newExc (.type "StopIteration") [] >>= _) _ _ _
  | (refine wpAny_bind ?_; show wpAny _ _ (newExc (.type "StopIteration") [] >>= _) _ _ _)
  refine wpAny_bind ?_
  simp only [newExc, newTuple]
  refine wpAny_bind (wpAny_newObj_type ?_ (by size_fits))
  refine wpAny_bind (m := firstArgMember _ _) (wpAny_of_eq (a := Value.none) (by first | rfl | (simp only [firstArgMember]; rfl)) ?_)
  refine wpAny_newObj_type ?_ (by size_fits)
  delta raiseNew
  refine wpAny_bind (wpAny_handled ?_)
  first | rw [show A.in1.handled = none from hh] | rw [hh]
  refine wpAny_bind (wpAny_pure (wpAny_throw ?_))
  refine wpAny_bind (wpAny_isInstance (T := "StopIteration") (b := true) ⟨_, Heap.get?_push_size _ rfl, rfl⟩ isSubtype_stop ?_)
  exact wpAny_pure (hQ _ ((((Heap.SameBut.update ..).extBut.trans (Heap.SameBut.update ..).extBut).push _).push _))
theorem hint_revT {r t : Addr} {items : Array Value} {Q : Bool → Shared → Prop} (hit : IsRevT s.heap r t ((items.size : Int) - 1)) (ht : IsTup s.heap t items) (hsz : items.size < 1000000) (h : ∀ b tk, Q b { s with toks := tk }) : wpAny (model prog w) A (Builtin.List.listLengthHint (.ref r)) Q E s := by
  unfold Builtin.List.listLengthHint
  obtain ⟨o, ho, hc, hd⟩ := id hit
  refine wpAny_bind (wpAny_specialOf hit.typeIs r_no_len ?_)
  try dsimp only
  refine iteN (by decide) ?_
  refine iteN (by decide) ?_
  refine wpAny_bind (wpAny_specialOf hit.typeIs r_slot_hint.lookup ?_)
  try dsimp only
  generalize hid : ("reversed.__length_hint__" : String) = id0
  rw [show splitId id0 = some ("reversed", "__length_hint__") from by subst hid; decide +kernel]
  subst hid
  refine wpAny_bind (wpAny_isInstance (T := "reversed") (b := true) hit.typeIs (by rw [isSubtype_type]; kernel_rfl) ?_)
  refine iteN (by decide) ?_
  refine iteN (by decide +kernel) ?_
  refine wpAny_bind (wpAny_rule ?_)
  refine wpAny_bind (wpAny_of_eq (r_slot_hint.bind _) ?_)
  try dsimp only
  refine wpAny_bind (wpAny_attempt (wpAny_call_entry r_slot_hint hit.typeIs r_entry_hint ?_ (r_args_hint _)))
  unfold Builtin.«reversed.__length_hint__»
  refine wpAny_bind (wpAny_of_eq (a := Value.ref r) rfl ?_)
  try dsimp only
  refine wpAny_bind (wpAny_field ho hd (x := .ref t) rfl ?_)
  show wpAny _ _ (if (Value.ref t == Value.none) = true then _ else _) _ _ _
  rw [if_neg (show ¬ ((Value.ref t == Value.none) = true) from by intro hh; simp at hh)]
  refine wpAny_bind (len_tuple ht (by lia) ?_)
  refine wpAny_bind (m := asInt? _) (wpAny_pure ?_)
  try dsimp only
  refine wpAny_bind (wpAny_field ho hd (x := rawInt ((items.size : Int) - 1)) rfl ?_)
  show wpAny _ _ (if (items.size : Int) < (items.size : Int) - 1 + 1 then _ else _) _ _ _
  rw [if_neg (by lia)]
  refine wpAny_bind (wpAny_mkInt (wpAny_pure ⟨_, rfl, ?_⟩))
  try dsimp only
  refine wpAny_bind (m := asInt? _) (wpAny_pure ?_)
  try dsimp only
  have hf : Builtin.List.listFitsIndex ((items.size : Int) - 1 + 1) = true := by
    unfold Builtin.List.listFitsIndex; simp; lia
  have htl : Builtin.List.listTooLong (((items.size : Int) - 1 + 1).toNat) = false := by simp [Builtin.List.listTooLong, sizeLine]; lia
  refine iteN (by rw [hf]; decide) ?_
  refine iteN (by lia) ?_
  refine iteN (by rw [htl]; decide) ?_
  exact wpAny_pure (h _ _)
end
end Mine.Internal
end
section
open PySem PySem.W PyProof.Rows
open PyProof.Rows.LCg (NsObj ns_obj)
open PySem.Calls
namespace Mine.Internal
noncomputable def ins (x : Int) : List Int → List Int
  | [] => [x]
  | y :: r => if x ≤ y then x :: y :: r else y :: ins x r
noncomputable def isort : List Int → List Int
  | [] => []
  | x :: r => ins x (isort r)
theorem ins_perm (x : Int) : ∀ l, (ins x l).Perm (x :: l)
  | [] => .refl _
  | y :: r => by
    unfold ins
    split
    · exact .refl _
    · exact ((ins_perm x r).cons y).trans (.swap x y r)
theorem isort_perm : ∀ l, (isort l).Perm l
  | [] => .refl _
  | x :: r => (ins_perm x _).trans ((isort_perm r).cons x)
theorem ins_sorted (x : Int) : ∀ l, l.Pairwise (· ≤ ·) → (ins x l).Pairwise (· ≤ ·)
  | [], _ => by simp [ins]
  | y :: r, h => by
    rw [List.pairwise_cons] at h
    unfold ins
    split
    · rename_i hxy
      refine List.pairwise_cons.mpr ⟨fun z hz => ?_, List.pairwise_cons.mpr h⟩
      rcases List.mem_cons.mp hz with rfl | hz
      · exact hxy
      · exact Int.le_trans hxy (h.1 z hz)
    · rename_i hxy
      refine List.pairwise_cons.mpr ⟨fun z hz => ?_, ins_sorted x r h.2⟩
      rcases List.mem_cons.mp ((ins_perm x r).mem_iff.mp hz) with rfl | hz
      · lia
      · exact h.1 z hz
theorem isort_sorted : ∀ l, (isort l).Pairwise (· ≤ ·)
  | [] => .nil
  | x :: r => ins_sorted x _ (isort_sorted r)
section
variable {c : Cx} {k : Nat} {sc : Scope} {vars : List Str}
theorem IntsAre.vals {T : Tm} {ρ : List Addr} {vs : List Value} {ns : List Int} (h : IntsAre vs ns) : Vals T ρ (ns.map SV.int) vs := by
  induction h with
  | nil => exact .nil
  | cons _ _ _ ih => exact .cons (.int _ _) ih
theorem KV.intKeys {T : Tm} {ρ : List Addr} {es : List (Int × SV)} {kvs : List (Int × Value)} (h : KV T ρ es kvs) : kvs.map (·.1) = es.map (·.1) := h.keys.symm
theorem ints_of_keys {kvs : List (Int × Value)} : ∀ {vs : List Value}, vs.length = kvs.length → (∀ (j : Nat) (v : Value), vs[j]? = some v → ∃ k x, kvs[j]? = some (k, x) ∧ (intKind c.prog c.w).is k v = true) → IntsAre vs (kvs.map (·.1)) := by
  induction kvs with
  | nil => intro vs h _; have : vs = [] := List.eq_nil_of_length_eq_zero (by simpa using h)
           subst this; exact .nil
  | cons p r ih =>
    intro vs h hv
    cases vs with
    | nil => simp at h
    | cons v vs =>
      obtain ⟨k, x, e, hk⟩ := hv 0 v rfl
      simp at e; subst e
      have hk' : ∃ t, v = .int k t := by
        cases v <;> simp [intKind, Value.isInt] at hk
        rename_i i t; subst hk; exact ⟨t, rfl⟩
      obtain ⟨t, rfl⟩ := hk'
      exact .cons _ _ (ih (by simpa using h) fun j u hu => by simpa using hv (j + 1) u (by simpa using hu))
noncomputable def fSorted : Fn
  | [.ref p], H => match H[p]? with
    | some (.dI es) => if es.length < 64 then some (.ref H.length, H ++ [.lst ((isort (es.map (·.1))).map SV.int)]) else none
    | _ => none
  | _, _ => none
theorem FB.sorted : FB c k (.builtin "sorted") fSorted := fun A T ρ H s svs vals v H' hh hk R V e => by
  rcases svs with _ | ⟨o, l⟩
  · exact nS e
  cases o with
  | ref p =>
    rcases l with _ | ⟨_, _⟩
    rotate_left
    · exact nS e
    refine dIE e fun es hp e => ?_
    refine ifE e fun hl e => ?_
    refine sE2 e ?_
    obtain ⟨val, rfl, W⟩ := V.one_inv
    refine W.refE fun a ra => ?_
    obtain ⟨kvs, d, KVs⟩ := R.dI ra hp
    obtain ⟨ep, hat⟩ := d.dictAt
    have len := KVs.length
    refine call_function_entry kind_sorted plain_sorted entry_sorted (args_sorted1 _) ?_
    unfold Builtin.«sorted»
    refine wpAny_bind (m := checkCount "sorted" 1 1 _) (wpAny_pure ?_)
    refine wpAny_bind (kdu_collect (A := A.in1) (kdl_dict (knd := intKind c.prog c.w) (kvs := kvs) (ep := ep) (R.notMods ra)) hh hat (by rw [sizeLine_eq]; lia) fun h' tk acc hk hacc => ?_)
    have hlen : acc.toList.length = kvs.length := by rw [Array.length_toList]; exact hacc.1
    refine wpAny_bind (wpAny_newList ?_ (by rw [hlen, sizeLine_eq]; lia))
    have hI : IntsAre acc.toList (kvs.map (·.1)) := ints_of_keys (c := c) hlen fun j v e => hacc.2 j v (by rw [← Array.getElem?_toList]; exact e)
    have hg : (h'.push { cls := .type "list", data := .seq acc.toList.toArray }).get? h'.objs.size = some (seqObj "list" acc.toList.toArray 0) := Heap.get?_push_size _ rfl
    refine wpAny_bind (wpAny_holding (wpAny_call_entry slot_list_sort ⟨_, hg, rfl⟩ entry_list_sort (list_sort_tree hg hI (by lia) fun out ns' a1 a2 a3 => ?_) (args_list_sort _)))
    refine ⟨_, rfl, wpAny_pure ⟨_, rfl, ?_⟩⟩
    obtain ⟨e, he⟩ := sortedHeap_at (vs := acc.toList) (out := out) hg
    have hns : ns' = isort (es.map (·.1)) := lks_uniq (a2.trans (by rw [KVs.intKeys]; exact (isort_perm _).symm)) a3 (isort_sorted _)
    have R1 : Rp c T ρ H h' := R.grow' hk
    have R2 : Rp c T ρ H (sortedHeap (h'.push { cls := .type "list", data := .seq acc.toList.toArray }) h'.objs.size acc.toList out) := R1.grow' fun b o eb => by
      have hb := Heap.lt_size eb
      rw [sortedHeap_old (Nat.ne_of_lt hb) (by rw [Heap.size_push]; exact Nat.lt_succ_of_lt hb)]
      exact Heap.get?_push_of_some _ eb
    have R3 : Rp c T (ρ ++ [h'.objs.size]) (H ++ [.lst ((isort (es.map (·.1))).map SV.int)]) (sortedHeap (h'.push { cls := .type "list", data := .seq acc.toList.toArray }) h'.objs.size acc.toList out) :=
      R2.addCell (R1.fresh) (R1.notρ) (R1.lowSize) he ⟨out, e, rfl, by rw [← hns]; exact IntsAre.vals a1⟩
    exact ⟨T, _, Le.refl _, Pre.snoc _ _, R3, .ref (by rw [← R.len]; simp), rfl⟩
  | _ => exact nS e
noncomputable def repN : SV → Hp → Option (SV × Hp)
  | .int n, H => if 0 ≤ n ∧ n < 1000000 then some (.ref H.length, H ++ [.lst (List.replicate n.toNat .none)]) else none
  | _, _ => none
noncomputable def dRepN (d : D SV) : D SV := fun loc H => (d loc H).bind fun (v, H) => repN v H
theorem vals_none {T : Tm} {ρ : List Addr} : ∀ n, Vals T ρ (List.replicate n SV.none) (List.replicate n Value.none)
  | 0 => .nil
  | n + 1 => .cons .none (vals_none n)
theorem ES.repN {nn : Nat} {cp lp pos : Pos} {e : Expr} {d : D SV} (h : ES c k sc vars e d) (hst : ∀ env, starEach [.Constant .none nn cp] env = [(false, eval (.Constant .none nn cp) env)]) : ES c k sc vars (.BinOp (.List [.Constant .none nn cp] lp) .Mult e pos) (dRepN d) := fun A env T ρ H loc s v H' hh hk hE R L e => by
  refine bE e fun a H1 e1 e2 => ?_; clear e
  try dsimp only at e2
  have hL : EL c k sc vars [.Constant .none nn cp] (dCons (dVal .none) dNil) := EL.cons ES.none EL.nil hst
  refine wpAny_BinOp (wpAny_List (wpAny_mono (hL lp hh hk hE R L (vs := [.none]) (H' := H) rfl) (fun vl s0 p0 => ?_) fun _ _ x => x))
  refine p0.el fun T0 ρ0 t0 r0 R0 V0 q0 => ?_
  obtain ⟨vn, rfl, Vn⟩ := V0.one_inv
  cases Vn
  refine ⟨by simp [sizeLine], ?_⟩
  generalize ho : ({ cls := .type "list", data := .seq [Value.none].toArray } : Obj) = o
  have R0' := R0.push o
  have hD0 : (s0.heap.push o).get? s0.heap.objs.size = some o := Heap.get?_push_size _ (by rw [← ho]; rfl)
  have RT := R0.pushT o (by rw [← ho]; rfl)
  refine wpAny_mono (h (s := { s0 with heap := s0.heap.push o }) hh hk hE RT (L.mono (t0.trans (Le.upd R0.fresh)) r0) e1) (fun va s1 p1 => ?_) fun _ _ x => x
  refine p1.el fun T1 ρ1 t1 r1 R1 V1 q1 => ?_
  cases a with
  | int n =>
    refine ifE e2 fun hn e2 => ?_
    refine sE2 e2 ?_
    refine V1.intE fun t => ?_
    have hl : s1.heap.get? s0.heap.objs.size = some { cls := .type "list", dict := Option.none, data := .seq #[.none] 0, slots := #[] } := by
      rw [R1.base _ _ (t1 _ _ (upd_self ..)), ← ho]
    have hm : n.toNat < 1000000 := by lia
    have hz : (#[Value.none] : Array Value).size = 1 := rfl
    have f1 : ¬ (!Builtin.List.listFitsIndex n) = true := by simp [Builtin.List.listFitsIndex]; lia
    have f2 : ¬ (#[Value.none] : Array Value).size * n.toNat > (2 ^ 63 - 1) / 8 := by rw [hz]; lia
    have f3 : ¬ Builtin.List.listTooLong ((#[Value.none] : Array Value).size * n.toNat) = true := by rw [hz]; simp [Builtin.List.listTooLong, sizeLine]; lia
    refine wpAny_binaryOp_repeat_ref (T := "list") (U := "int") (by decide) ⟨_, hl, rfl⟩ (fun s' => typeIs_int s' n t) noFill_list_mul PySem.F.fills_int_mul PySem.F.slot_int_rmul repeat_list PySem.F.slot_int_index.lookup
      (call_meets PySem.F.slot_int_rmul (typeIs_int s1 n t) PySem.F.entry_int_rmul (PySem.F.args_int_rmul_2 _ _) (int___rmul___int_list n t _ _ 0)
        ⟨hl, rfl, ⟨_, hl, rfl⟩, call_meets PySem.F.slot_list_mul ⟨_, hl, rfl⟩ PySem.F.entry_list_mul (PySem.F.args_list_mul_2 _ _)
          (PySem.AutoListH.list___mul___list_int_3 s0.heap.objs.size #[Value.none] 0 n t f1 f2 f3)
          ⟨hl, ?_⟩⟩)
    rw [listMul_foldl_if]
    have e3 : (List.replicate n.toNat (#[Value.none] : Array Value).toList).flatten = List.replicate n.toNat Value.none := by
      generalize n.toNat = m
      induction m with
      | zero => rfl
      | succ m ih => rw [List.replicate_succ, List.flatten_cons, ih]; rfl
    rw [e3]
    exact (PV.newLst (s := s1) (R1) (vals_none n.toNat)).from ((t0.trans (Le.upd R0.fresh)).trans t1) (r0.trans r1) (q0.trans (Same.trans (s' := { s0 with heap := s0.heap.push o }) rfl q1))
  | _ => exact nS e2
end
end Mine.Internal
end
section
open PySem PySem.W PyProof.Rows
open PyProof.Rows.LCg (NsObj ns_obj)
open PySem.Calls
namespace Mine.Internal
section
variable {c : Cx} {k : Nat} {sc : Scope} {vars : List Str}
theorem FrOK.del {env : Env} {T : Tm} {ρ : List Addr} {vars : List Str} {loc : Loc} {a : Addr} (h : FrOK env T ρ vars loc) (ne : env.locals ≠ a ∧ ∀ x ∈ env.cells, x.2 ≠ a) (lt : LeT T (Mine.Internal.del T a)) : FrOK env (Mine.Internal.del T a) ρ vars loc := by
  refine ⟨?_, fun x hx => ?_, h.apart, h.nodup, h.has, fun i x v e1 e2 => ?_⟩
  · obtain ⟨o, m, e, n⟩ := h.ns; exact ⟨o, m, by rw [del_ne ne.1]; exact e, n⟩
  · obtain ⟨o, v, e, d⟩ := h.cells x hx; exact ⟨o, v, by rw [del_ne (ne.2 x hx)]; exact e, d⟩
  · obtain ⟨val, n, V⟩ := h.loc i x v e1 e2
    refine ⟨val, ?_, V.mono lt (Pre.refl _)⟩
    rcases n with ⟨kd, o, m, e, q, r⟩ | ⟨kd, b, o, l, e, q⟩
    · exact .inl ⟨kd, o, m, by rw [del_ne ne.1]; exact e, q, r⟩
    · exact .inr ⟨kd, b, o, l, by rw [del_ne (ne.2 _ (mem_of_lookup l))]; exact e, q⟩
theorem FrOK.off {env : Env} {T : Tm} {ρ : List Addr} {vars : List Str} {loc : Loc} {a : Addr} (h : FrOK env T ρ vars loc) (n : T a = none) : env.locals ≠ a ∧ ∀ x ∈ env.cells, x.2 ≠ a := h.apartOf (.inl n)
theorem Inn.hold' {A : Around} {env : Env} {T0 T : Tm} {ρ : List Addr} {H : Hp} {loc : Loc} {s : Shared} (I : Inn c k sc vars A env T0 T ρ H loc s) {a : Addr} {o : Obj} (n : T0 a = none) (hT : T a = some o) (ap : env.locals ≠ a ∧ ∀ x ∈ env.cells, x.2 ≠ a) : Inn c k sc vars A env (upd T0 a o) T ρ H loc s := by
  refine ⟨I.hh, I.room, I.eok, fun b x e => ?_, ⟨by rw [upd_ne ap.1]; exact I.own.1, fun x hx => by rw [upd_ne (ap.2 x hx)]; exact I.own.2 x hx⟩, fun b x e => Le.upd n _ _ (I.top b x e), I.R, I.fr⟩
  by_cases q : b = a
  · subst q; rw [upd_self] at e; cases e; exact hT
  · rw [upd_ne q] at e; exact I.le _ _ e
noncomputable def CE (c : Cx) (k : Nat) (sc : Scope) (vars : List Str) (e : Expr) (scope : Scope) (iter : Expr) (d : D SV) : Prop :=
  ∀ ⦃A : Around⦄ ⦃env : Env⦄ ⦃T : Tm⦄ ⦃ρ : List Addr⦄ ⦃H : Hp⦄ ⦃loc : Loc⦄ ⦃s : Shared⦄ ⦃v : SV⦄ ⦃H' : Hp⦄ ⦃use : Option (Value → Sem Unit)⦄ ⦃Q : Value → Shared → Prop⦄ (pos' : Pos), A.handled = none → Room k A → EnvOK sc env → Rp c T ρ H s.heap → LocOK env T ρ vars loc →
    d loc H = some (v, H') →
    CFin c A T ρ s v H' use Q →
    wpAny (model c.prog c.w) A (comprehension e scope env pos' (newList []) false (eval iter env) use) Q NoE s
theorem CE.comp {elt iter : Expr} {x : Str} {px pos : Pos} {ifs : List Expr} {scope : Scope} {di : D Src} {dt : D Bool} {de : D SV} (ys : List Str) (idx : List Nat) (W : Nat)
    (hC : compOK sc scope vars x ys idx = true) (hi : EI c k sc vars iter di) (ht : CT c k (relab scope sc) (x :: ys) ifs dt) (he : ES c k (relab scope sc) (x :: ys) elt de) (hfold : ∀ env x, foldedSetIterable iter env x = pure x) :
    CE c k sc vars (.ListComp elt [⟨.Name x px, iter, ifs, 0⟩] scope pos) scope iter (dComp di dt de idx W) := fun A env T ρ H loc s v H' use Q pos' hh hk hE R L e fin =>
  comp_core (CompOK.of hC) hi ht he hfold hh hk hE R L e fin
theorem SX.assignComp {elt iter : Expr} {x y : Str} {px py pos spos : Pos} {ifs : List Expr} {scope : Scope} {d : D SV} (i : Nat) (h : CE c k sc vars (.ListComp elt [⟨.Name x px, iter, ifs, 0⟩] scope pos) scope iter d)
    (hx : vars[i]? = some y) (hk : Stor sc y) (hsw : ∀ env, env.scope = sc → swapsWith (.ListComp elt [⟨.Name x px, iter, ifs, 0⟩] scope pos) (some (.Name y py)) spos.line env = pure true) : SX c k sc vars (.Assign [.Name y py] (.ListComp elt [⟨.Name x px, iter, ifs, 0⟩] scope pos) spos) (sAssign i d) := fun A env T0 T ρ H loc s fl loc' H' I e => by
  refine bE e fun v H1 e1 e2 => ?_; clear e
  try dsimp only at e2
  refine ifE e2 fun hi e2 => ?_
  refine sE3 e2 ?_
  rw [exec_Assign_Name_used _ _ _ _ (hsw env I.eok.scope)]
  refine wpAny_bind (wpAny_standAt (wpAny_bind ?_))
  show wpAny _ A (do let _ ← comprehension (.ListComp elt [⟨.Name x px, iter, ifs, 0⟩] scope pos) scope env _ (newList []) false (eval iter env) (some (PySem.assign (.Name y py) env))) _ _ s
  refine wpAny_bind (wpAny_mono (h (use := some (PySem.assign (.Name y py) env)) (Q := fun _ s' => PS c T0 T ρ env vars s .nxt (setL loc i v) H1 .next s') _ I.hh I.room I.eok I.R I.fr.loc e1 ?_) (fun _ s' hq => wpAny_pure (wpAny_pure hq)) fun _ _ e => e)
  intro T' ρ' s' C D oC m acc vs n H2 le pre R' q nC nD lo CD mC nsC mD V ev eH
  subst ev; subst eH
  have t0 : ∀ a, T a = none → T0 a = none := fun a ha => leN I.le ha
  have h0 : ∀ a, T a = none → c.h₀.get? a = none := fun a ha => leN I.R.top ha
  have I1 : Inn c k sc vars A env T0 T' ρ' H2 loc s' := I.next le pre R'
  have offD := I.fr.off nD
  have offC := I.fr.off nC
  have ltD : LeT T' (del T' D) := fun b o z w => by
    have : b ≠ D := fun y => by subst y; rw [mD] at z; cases z; have := w.1; simp at this
    rw [del_ne this]; exact z
  have R2 := R'.toCell (h0 _ nD) lo mD V
  have I2 : Inn c k sc vars A env T0 (del T' D) (ρ' ++ [D]) (H2 ++ [.lst acc]) loc s' := ⟨I.hh, I.room, I.eok, fun b o z => by
    have : b ≠ D := neN (t0 _ nD) z
    rw [del_ne this]; exact I1.le _ _ z, I.own, I.top, R2, (I1.fr.del offD ltD).mono (Le.refl _) (Pre.snoc _ _)⟩
  have mC2 : del T' D C = some oC := by rw [del_ne CD]; exact mC
  have I3 := I2.hold' (t0 _ nC) mC2 offC
  show wpAny _ _ (PySem.assign (.Name y py) env (.ref D)) _ _ _
  refine PyProof.Rows.assign_Name (I3.store hx hk hi (v := .ref H2.length) (.ref (by rw [← R'.len]; simp)) fun T4 s4 lt4 I4 q4 => ?_)
  have mC4 : T4 C = some oC := I4.le _ _ (upd_self ..)
  refine ⟨m, nsC.ns (I4.R.base _ _ mC4), fun h' hs => ?_⟩
  have ntC : ∀ o, T4 C = some o → ¬ IsTupO o := fun o e => sB mC4 e (notTup_dict nsC)
  have hm : C ∉ (ρ' ++ [D]) := fun z => by first | exact sN (I4.R.notT z) mC4 | exact sN mC4 (I4.R.notT z) | (rw [I4.R.notT z] at mC4; cases mC4)
  have lt : LeT T4 (del T4 C) := fun b o z w => by
    have : b ≠ C := fun y => by subst y; exact ntC _ z w
    rw [del_ne this]; exact z
  have R5 := I4.R.del (h' := h') (h0 _ nC) ntC hm hs.extBut
  have I5 : Inn c k sc vars A env T0 (del T4 C) (ρ' ++ [D]) (H2 ++ [.lst acc]) (setL loc i (.ref H2.length)) { s4 with heap := h' } := ⟨I.hh, I.room, I.eok, fun b o z => by
    have : b ≠ C := neN (t0 _ nC) z
    rw [del_ne this]; exact I4.le _ _ (Le.upd (t0 _ nC) _ _ z), I.own, I.top, R5, I4.fr.del offC lt⟩
  exact (I5.done .nxt).from (((le.t.trans ltD).trans lt4).trans lt) (pre.trans (Pre.snoc _ _)) ((q.trans q4).trans rfl)
noncomputable def RT (c : Cx) (k : Nat) (sc : Scope) (vars : List Str) (ifs : List Expr) (bt : Loc → Hp → Option Bool) : Prop :=
  ∀ ⦃A : Around⦄ ⦃env : Env⦄ ⦃T : Tm⦄ ⦃ρ : List Addr⦄ ⦃H : Hp⦄ ⦃loc : Loc⦄ ⦃s : Shared⦄ ⦃b : Bool⦄, A.handled = none → Room k A → EnvOK sc env → Rp c T ρ H s.heap → LocOK env T ρ vars loc →
    bt loc H = some b → wpAny (model c.prog c.w) A (forIn ifs true fun e r => if r = true then do let ok ← isTrue e env (eval e env); pure (ForInStep.yield ok) else pure (ForInStep.yield r)) (fun b' s' => b' = b ∧ ∃ tk, s' = { s with toks := tk }) NoE s
noncomputable def dFilt (bt : Loc → Hp → Option Bool) (fv : Loc) (H : Hp) : List Int → Option (List SV)
  | [] => some []
  | i :: r => (bt (some (.int i) :: fv) H).bind fun b => (dFilt bt fv H r).map fun l => if b then .int i :: l else l
noncomputable def dCompK (d : D SV) (bt : Loc → Hp → Option Bool) (idx : List Nat) : D SV := fun loc H => (d loc H).bind fun (v, H) => match v with
  | .ref p => match H[p]? with
    | some (.dI es) => if es.length < 1000000 then (frees loc idx).bind fun fv => (dFilt bt fv H (es.map (·.1))).bind fun l => some (.ref H.length, H ++ [.lst l]) else none
    | _ => none
  | _ => none
inductive KI (c : Cx) (T T1 : Tm) (ρ1 : List Addr) (H1 : Hp) (s : Shared) (bt : Loc → Hp → Option Bool) (fv : Loc) (kl : List Int) (acc : List SV) (kvs : List (Int × Value)) (ep : Nat) (I da C D : Addr) (n : Nat) (s' : Shared) : Prop
  | mk (T' : Tm) (i : Nat) (oC' : Obj) (m : Str → Option Value) (vs : Array Value) (nn : Nat) (acc' rest : List SV) (hn : n = kvs.length + 1 - i) (hi : i ≤ kvs.length) (le : Le T T') (le1 : Le T1 T') (q : Same s s') (R : Rp c T' ρ1 H1 s'.heap) (nI : T' I = none)
      (st : s'.heap.IsKeyIter I da i kvs.length ep ∧ s'.heap.DictAt (intKind c.prog c.w) da kvs ep) (mC : T' C = some oC') (ns : NsObj oC' m) (mD : T' D = some { cls := .type "list", data := .seq vs nn }) (V : Vals T' ρ1 acc' vs.toList) (al : acc'.length ≤ i) (er : dFilt bt fv H1 (kl.drop i) = some rest) (ea : acc' ++ rest = acc)
structure KAp (c : Cx) (T T1 : Tm) (ρ1 : List Addr) (I da C D : Addr) : Prop where
  nC : T C = none
  nD : T D = none
  nC1 : T1 C = none
  nD1 : T1 D = none
  IC : I ≠ C
  ID : I ≠ D
  CD : C ≠ D
  dC : da ≠ C
  dD : da ≠ D
  nρ : I ∉ ρ1
  lo : D ≠ sysModules
  h0 : ∀ a, T a = none → c.h₀.get? a = none
theorem iter_rep {T' : Tm} {ρ1 : List Addr} {H1 : Hp} {h h2 : Heap} {I : Addr} (R : Rp c T' ρ1 H1 h) (nI : T' I = none) (nρ : I ∉ ρ1) (k2 : ∀ b o, b ∉ [I] → h.get? b = some o → h2.get? b = some o) : Rp c T' ρ1 H1 h2 :=
  R.grow fun b o e z => k2 b o (fun hb => by
    have : b = I := by simpa using hb
    subst this
    rcases z with z | z
    · first | exact sN nI z | exact sN z nI | (rw [nI] at z; cases z)
    · exact nρ z) e
theorem keys_app {T T1 T5 : Tm} {ρ1 : List Addr} {H1 : Hp} {s s5 : Shared} {bt : Loc → Hp → Option Bool} {fv : Loc} {kl : List Int} {acc acc' l' : List SV} {kvs : List (Int × Value)} {ep : Nat} {I da C D : Addr} {i nn : Nat} {o5 : Obj} {m : Str → Option Value} {vs : Array Value} {ki : Int} {t : Tok} {A : Around} (hh : A.handled = none) (ap : KAp c T T1 ρ1 I da C D)
    (hne : da ≠ I) (hlt : i < kvs.length) (hkl : kvs.length < 1000000) (le : Le T T5) (le1 : Le T1 T5) (q : Same s s5) (R5 : Rp c T5 ρ1 H1 s5.heap) (nI : T5 I = none) (st : s5.heap.IsKeyIter I da (i + 1) kvs.length ep ∧ s5.heap.DictAt (intKind c.prog c.w) da kvs ep) (mC : T5 C = some o5) (ns : NsObj o5 m) (mD : T5 D = some { cls := .type "list", data := .seq vs nn }) (Vs : Vals T5 ρ1 acc' vs.toList)
    (al : acc'.length ≤ i) (el : dFilt bt fv H1 (kl.drop (i + 1)) = some l') (ea : acc' ++ .int ki :: l' = acc) {P : Shared → Prop} (hP : ∀ s', KI c T T1 ρ1 H1 s bt fv kl acc kvs ep I da C D (kvs.length + 1 - (i + 1)) s' → P s') :
    wpAny (model c.prog c.w) A (PySem.call (.builtin "list.append") [.ref D, .int ki t]) (fun _ s5 => P s5) NoE s5 := by
  have IW := Walks.dictKeys (prog := c.prog) (w := c.w) (knd := intKind c.prog c.w) hh I da hne kvs ep
  have g7 := R5.base _ _ mD
  have len := Vs.length
  have lv : vs.toList.length = vs.size := Array.length_toList
  have ntD : ¬ IsTupO ({ cls := .type "list", data := .seq vs nn } : Obj) := fun z => by have := z.1; simp at this
  refine call_meets PySem.F.slot_list_append ⟨_, g7, rfl⟩ PySem.F.entry_list_append (PySem.F.args_list_append_2 _ _) (PySem.list_append D vs nn (.int ki t) (by unfold sizeLine; lia)) ⟨g7, hP _ ?_⟩
  have g8 := PySem.IsL.update g7 (fun x => x.push (.int ki t))
  have lt8 : LeT T5 (upd T5 D { cls := .type "list", data := .seq (vs.push (.int ki t)) (if (vs.push (.int ki t)).size == vs.size then nn else nn + 1) }) := LeT.upd fun z e => sB mD e (ntD)
  have R8 := R5.setT mD ntD (ap.h0 _ ap.nD) (fun b x n e => (Heap.get?_update_other _ _ (Ne.symm n)).trans e) g8
  refine ⟨_, i + 1, o5, m, _, _, acc' ++ [.int ki], l', rfl, hlt, le.upd' ap.nD, le1.upd' ap.nD1, q.trans rfl, R8, ?_, ?_, ?_, ns, upd_self .., ?_, by simp; lia, el, by simpa using ea⟩
  · rw [upd_ne ap.ID]; exact nI
  · exact IW.frame _ _ _ st fun b hb o e => (Heap.get?_update_other _ _ (fun q => by
      have q' : D = b := q
      rcases List.mem_cons.mp hb with hb | hb
      · exact ap.ID (hb.symm.trans q'.symm)
      · exact ap.dD ((List.mem_singleton.mp hb).symm.trans q'.symm))).trans e
  · rw [upd_ne ap.CD]; exact mC
  · have := (Vs.append (.one (.int ki t))).mono lt8 (Pre.refl _)
    simpa using this
theorem keys_loop {iter : Expr} {x : Str} {px ex pos : Pos} {ifs : List Expr} {scope : Scope} {bt : Loc → Hp → Option Bool} {ys : List Str} {idx : List Nat}
    (hC : CompOK sc scope vars x ys idx) (ht : RT c k (relab scope sc) (x :: ys) ifs bt) (hd : (x == ("__debug__" : Str) || x == ("__classdict__" : Str)) = false)
    {A : Around} {env : Env} {T T1 : Tm} {ρ ρ1 : List Addr} {H1 : Hp} {s : Shared} {fv : Loc} {kl : List Int} {acc : List SV} {kvs : List (Int × Value)} {ep : Nat} {I da C D : Addr} {v : SV} {Hv : Hp} {use : Option (Value → Sem Unit)} {Q : Value → Shared → Prop} (hh : A.handled = none) (hk : Room k A) (hE : EnvOK sc env)
    (cellAt : ∀ (j : Nat) (y : Str), ys[j]? = some y → CellAt env T ρ fv j y) (r1 : Pre ρ ρ1) (ap : KAp c T T1 ρ1 I da C D) (hne : da ≠ I) (hkv : ∀ (i : Nat) (p : Int × Value), kvs[i]? = some p → kl[i]? = some p.1) (hkl : kl.length = kvs.length) (hl : kvs.length < 1000000) (fin : CFin c A T ρ s v Hv use Q) (ev : v = .ref H1.length) (eH : Hv = H1 ++ [.lst acc]) {n : Nat} {s' : Shared} (J : KI c T T1 ρ1 H1 s bt fv kl acc kvs ep I da C D n s') :
    codeAny (model c.prog c.w) A (.compLoop (.ListComp (.Name x ex) [⟨.Name x px, iter, ifs, 0⟩] scope pos) 0 (.ref I) (.ref D) (compEnvC scope (closL env.cells scope.names []) C env)) (compPost (model c.prog c.w) A NoE use Q (.ref D) C) s' := by
  refine codeAny_compLoop_tests (KI c T T1 ρ1 H1 s bt fv kl acc kvs ep I da C D) (fun n s' J => ?_) n J
  have IW := Walks.dictKeys (prog := c.prog) (w := c.w) (knd := intKind c.prog c.w) hh I da hne kvs ep
  have hEC := env_comp (C := C) hC hE
  obtain ⟨T', i, oC', m, vs, nn, acc', rest, hn, hi', le', le1', q', R', nI', st', mC', ns', mD', Vs', al, er, ea⟩ := J
  by_cases hlt : i < kvs.length
  · refine IW.item i _ _ _ hlt st' fun v h2 tk2 hv st2 k2 => ?_
    obtain ⟨ki, kx, hkv', hki⟩ := hv
    have hv' : ∃ t, v = .int ki t := by
      cases v <;> simp [intKind, Value.isInt] at hki
      subst hki; exact ⟨_, rfl⟩
    obtain ⟨t, rfl⟩ := hv'
    have hkey : kl[i]? = some ki := hkv i _ hkv'
    have hdrop : kl.drop i = ki :: kl.drop (i + 1) := by
      have hil : i < kl.length := (List.getElem?_eq_some_iff.mp hkey).1
      rw [List.drop_eq_getElem_cons hil]
      congr 1
      rw [List.getElem?_eq_getElem hil] at hkey; exact Option.some.inj hkey
    rw [hdrop] at er
    refine oE er fun b eb er => ?_
    obtain ⟨l', el, erest⟩ := Option.map_eq_some_iff.mp er
    have R4 : Rp c T' ρ1 H1 h2 := iter_rep R' nI' ap.nρ k2
    show wpAny _ _ _ _ _ _
    refine wpAny_assign_Name (wpAny_storeName_local (lookup_relabel_local hC.hx) (ns'.ns (R4.base _ _ mC')) (fun h3 hn3 hs3 => ?_) (by simp [compEnvC, relabel, hC.kind]))
    obtain ⟨o5, g5, ns5⟩ := ns_obj hn3
    have R5 : Rp c (upd T' C o5) ρ1 H1 h3 := R4.setT mC' (notTup_dict ns') (ap.h0 _ ap.nC) (fun b x n e => (hs3.2 b n).trans e) g5
    have lt5 : LeT T' (upd T' C o5) := LeT.upd fun y e => sB mC' e (notTup_dict ns')
    have le5 : Le T (upd T' C o5) := le'.upd' ap.nC
    have le15 : Le T1 (upd T' C o5) := le1'.upd' ap.nC1
    have mC5 : upd T' C o5 C = some o5 := upd_self ..
    have mD5 : upd T' C o5 D = some { cls := .type "list", data := .seq vs nn } := by rw [upd_ne (Ne.symm ap.CD)]; exact mD'
    have nI5 : upd T' C o5 I = none := by rw [upd_ne ap.IC]; exact nI'
    have Vs5 := Vs'.mono lt5 (Pre.refl ρ1)
    have st5 := IW.frame (i + 1) h2 h3 st2 fun b hb o e => hs3.extBut b o (fun q => by
      have q' : b = C := q
      rcases List.mem_cons.mp hb with hb | hb
      · exact ap.IC (hb.symm.trans q')
      · exact ap.dC ((List.mem_singleton.mp hb).symm.trans q')) e
    have LC := loc_comp (v := .int ki) hC hE cellAt le5 r1 mC5 ns5 (by simp) (.int ki t)
    refine wpAny_mono (ht (s := { s' with heap := h3, toks := tk2 + 1 }) hh hk hEC R5 LC eb) (fun ok s6 p6 => ?_) fun _ _ x => x.elim
    obtain ⟨rfl, tk6, rfl⟩ := p6
    cases ok with
    | false => exact ⟨kvs.length + 1 - (i + 1), by lia, _, i + 1, o5, _, vs, nn, acc', l', rfl, hlt, le5, le15, q'.trans rfl, R5, nI5, st5, mC5, ns5, mD5, Vs5, Nat.le_succ_of_le al, el, by rw [show l' = rest from erest]; exact ea⟩
    | true =>
      refine wpAny_mono (name_is (Q := fun v s'' => v = .int ki t ∧ s'' = { s' with heap := h3, toks := tk6 }) (val := .int ki t) (env := compEnvC scope (closL env.cells scope.names []) C env) (s := { s' with heap := h3, toks := tk6 }) hC.kind R5 (.inl ⟨lookup_relabel_local hC.hx, o5, _, mC5, ns5, by simp⟩) ⟨rfl, rfl⟩ (Bool.or_eq_false_iff.mp hd).1 (Bool.or_eq_false_iff.mp hd).2) (fun v s'' p => ?_) fun _ _ x => x.elim
      obtain ⟨rfl, rfl⟩ := p
      exact wpAny_mono (keys_app (s5 := { s' with heap := h3, toks := tk6 }) hh ap hne hlt hl le5 le15 (q'.trans rfl) R5 nI5 st5 mC5 ns5 mD5 Vs5 al el (by rw [show SV.int ki :: l' = rest from erest]; exact ea) fun s' J => ⟨_, by lia, J⟩) (fun _ _ h => h) fun _ _ x => x.elim
  · obtain rfl : i = kvs.length := Nat.le_antisymm hi' (Nat.le_of_not_lt hlt)
    refine IW.done _ _ _ st' fun h2 tk2 k2 => ?_
    rw [List.drop_eq_nil_iff.mpr (Nat.le_of_eq hkl)] at er
    cases er
    exact fin T' ρ1 { s' with heap := h2, toks := tk2 } C D oC' m acc' vs nn H1 le' r1 (iter_rep R' nI' ap.nρ k2) (q'.trans rfl) ap.nC ap.nD ap.lo ap.CD mC' ns' mD' Vs' ev (by rw [eH, ← ea, List.append_nil])
theorem keys_made {T T1 : Tm} {ρ1 : List Addr} {H1 : Hp} {h hp h₁ : Heap} {I da : Addr} {ns : Str → Option Value} (top : ∀ a o, c.h₀.get? a = some o → T a = some o) (t1 : Le T T1) (R1 : Rp c T1 ρ1 H1 h) (dlt : da < h.objs.size) (hI : I = h.objs.size) (hhp : ∃ o, hp = h.push o) (R1' : Rp c T1 ρ1 H1 hp)
    (hns : h₁.Ns (hp.push ({ cls := .type "list", dict := none, data := .seq ([] : List Value).toArray } : Obj)).objs.size ns) (up23 : ∀ b o, (hp.push ({ cls := .type "list", dict := none, data := .seq ([] : List Value).toArray } : Obj)).get? b = some o → h₁.get? b = some o) :
    ∃ T3 oC, KAp c T T1 ρ1 I da (hp.push ({ cls := .type "list", dict := none, data := .seq ([] : List Value).toArray } : Obj)).objs.size hp.objs.size ∧ T3 I = none ∧ Le T1 T3 ∧ Rp c T3 ρ1 H1 h₁ ∧ T3 (hp.push ({ cls := .type "list", dict := none, data := .seq ([] : List Value).toArray } : Obj)).objs.size = some oC ∧ NsObj oC ns ∧ T3 hp.objs.size = some { cls := .type "list", data := .seq ([] : List Value).toArray } := by
  have R2 := R1'.pushT ({ cls := .type "list", dict := none, data := .seq ([] : List Value).toArray } : Obj) rfl
  have t2 : Le T1 (upd T1 hp.objs.size ({ cls := .type "list", dict := none, data := .seq ([] : List Value).toArray } : Obj)) := Le.upd R1'.fresh
  have mD : upd T1 hp.objs.size ({ cls := .type "list", dict := none, data := .seq ([] : List Value).toArray } : Obj) hp.objs.size = some ({ cls := .type "list", dict := none, data := .seq ([] : List Value).toArray } : Obj) := upd_self ..
  have nD1 : T1 hp.objs.size = none := R1'.fresh
  have loD := R1'.lowSize
  have nI : T1 I = none := hI ▸ R1.fresh
  have nIρ : I ∉ ρ1 := hI ▸ R1.notρ
  have sz : hp.objs.size = h.objs.size + 1 := by obtain ⟨o, rfl⟩ := hhp; exact Heap.size_push ..
  have sz2 : (hp.push ({ cls := .type "list", dict := none, data := .seq ([] : List Value).toArray } : Obj)).objs.size = hp.objs.size + 1 := Heap.size_push ..
  have ID : I ≠ hp.objs.size := by lia
  have nI2 : upd T1 hp.objs.size ({ cls := .type "list", dict := none, data := .seq ([] : List Value).toArray } : Obj) I = none := by rw [upd_ne ID]; exact nI
  generalize upd T1 hp.objs.size ({ cls := .type "list", dict := none, data := .seq ([] : List Value).toArray } : Obj) = T2 at R2 t2 mD nI2
  generalize hp.push ({ cls := .type "list", dict := none, data := .seq ([] : List Value).toArray } : Obj) = hp2 at R2 hns up23 sz2 ⊢
  obtain ⟨oC, gC, nsC⟩ := ns_obj hns
  have R3a : Rp c T2 ρ1 H1 h₁ := R2.grow' up23
  have nC2 : T2 hp2.objs.size = none := R2.fresh
  have tnone : ∀ a, T1 a = none → T a = none := fun a ha => leN t1 ha
  have nC1 : T1 hp2.objs.size = none := leN t2 nC2
  refine ⟨_, oC, ⟨tnone _ nC1, tnone _ nD1, nC1, nD1, by lia, ID, by lia, by lia, by lia, nIρ, loD, fun a ha => ?_⟩, ?_, t2.trans (Le.upd nC2), R3a.addT nC2 R2.notρ gC, upd_self .., nsC, Le.upd nC2 _ _ mD⟩
  · exact leN top ha
  · rw [upd_ne (by lia)]; exact nI2
theorem CE.keys {iter : Expr} {x : Str} {px ex pos : Pos} {ifs : List Expr} {scope : Scope} {di : D SV} {bt : Loc → Hp → Option Bool} (ys : List Str) (idx : List Nat)
    (hC' : compOK sc scope vars x ys idx = true) (hi : ES c k sc vars iter di) (ht : RT c k (relab scope sc) (x :: ys) ifs bt) (hd : (x == ("__debug__" : Str) || x == ("__classdict__" : Str)) = false) (hfold : ∀ env x, foldedSetIterable iter env x = pure x) :
    CE c k sc vars (.ListComp (.Name x ex) [⟨.Name x px, iter, ifs, 0⟩] scope pos) scope iter (dCompK di bt idx) := fun A env T ρ H loc s v H' use Q pos' hh hk hE R L e fin => by
  have hC := CompOK.of hC'
  refine bE e fun u H1 e1 e => ?_
  obtain ⟨p, rfl, e⟩ := refI e
  refine dIE e fun es hp e => ?_
  refine ifE e fun hlen e => ?_
  refine oE e fun fv e2 e => ?_
  refine oE e fun acc e3 e => ?_
  obtain ⟨ev, eH⟩ := sI2 e
  have cellAt := cells_at hC hE L e2
  refine wpAny_comprehension_free (use := use) rfl (hfold env) (clos_at hC cellAt) hC.kind hC.names (wpAny_mono (hi hh hk hE R L e1) (fun xv s1 p1 => ?_) fun _ _ x => x.elim)
  refine p1.el fun T1 ρ1 t1 r1 R1 V1 q1 => ?_
  refine V1.refE fun da ra => ?_
  obtain ⟨kvs, dd, KVs⟩ := R1.dI ra hp
  obtain ⟨ep, hat⟩ := dd.dictAt
  have klen := KVs.length
  refine wpAny_pyIter_dict (R1.notMods ra) hat ?_
  have dlt : da < s1.heap.objs.size := R1.lt (List.mem_iff_getElem?.mpr ⟨p, ra⟩)
  have R1' : Rp c T1 ρ1 H1 (s1.heap.push { cls := .type "dict_keyiterator", data := .fields #[.ref da, .int 0 0, .int kvs.length 0, .int ep 0] }) := R1.push _
  have IW := Walks.dictKeys (prog := c.prog) (w := c.w) (knd := intKind c.prog c.w) hh s1.heap.objs.size da (Nat.ne_of_lt dlt) kvs ep
  have st0 : (s1.heap.push { cls := .type "dict_keyiterator", data := .fields #[.ref da, .int 0 0, .int kvs.length 0, .int ep 0] }).IsKeyIter s1.heap.objs.size da 0 kvs.length ep ∧ (s1.heap.push { cls := .type "dict_keyiterator", data := .fields #[.ref da, .int 0 0, .int kvs.length 0, .int ep 0] }).DictAt (intKind c.prog c.w) da kvs ep :=
    ⟨⟨_, Heap.get?_push_size _ rfl, rfl, rfl⟩, hat.at' fun o e => Heap.get?_push_of_some _ e⟩
  refine wpAny_newObj_type (wpAny_newFunctionEnv hC.noCell (by intro y hy; simp at hy) (fun h₁ hns hsb => ?_) hC.kind)
  dsimp only at hns hsb ⊢
  have up : ∀ b o, ((s1.heap.push { cls := .type "dict_keyiterator", data := .fields #[.ref da, .int 0 0, .int kvs.length 0, .int ep 0] }).push ({ cls := .type "list", dict := none, data := .seq ([] : List Value).toArray } : Obj)).get? b = some o → h₁.get? b = some o := fun b o e => by
    rw [hsb.2 b (Nat.ne_of_lt (Heap.lt_size e))]; exact Heap.get?_push_of_some _ e
  obtain ⟨T3, oC, ap, nI3, t3, R3, mC, nsC, mD⟩ := keys_made R.top t1 R1 dlt rfl ⟨_, rfl⟩ R1' hns up
  have st1 := IW.frame 0 _ _ st0 fun b _ o e => up b o (Heap.get?_push_of_some _ e)
  have loop := keys_loop (iter := iter) (px := px) (ex := ex) (pos := pos) (s' := { s1 with heap := h₁, toks := s1.toks + ([] : List (Str × Value)).length }) hC ht hd hh hk hE cellAt r1 ap (Nat.ne_of_lt dlt) (kl := es.map (fun x => x.1)) (fun i p hp => by rw [KVs.keys, List.getElem?_map, hp]; rfl) (by rw [List.length_map]; lia) (by lia) fin ev eH
    ⟨T3, 0, oC, _, _, _, [], acc, rfl, Nat.zero_le _, t1.trans t3, t3, q1.trans rfl, R3, nI3, st1, mC, nsC, mD, .nil, Nat.zero_le _, by rw [List.drop_zero]; exact e3, rfl⟩
  exact codeAny_compStart_list loop (IW.self 0 _ _ _ st1 loop)
end
end Mine.Internal
end
section
open PySem PySem.W PyProof.Rows
open PyProof.Rows.LCg (NsObj ns_obj)
open PySem.Calls
namespace Mine.Internal
theorem ty_int_type : typeOf (.type "int") = pure (.type "type") := by kernel_rfl
theorem int_sub_int : isSubtype (.type "int") (.type "int") = pure true := by rw [isSubtype_type]; kernel_rfl
theorem tup_sub_int : isSubtype (.type "tuple") (.type "int") = pure false := by rw [isSubtype_type]; kernel_rfl
section
variable {c : Cx} {k : Nat} {sc : Scope} {vars : List Str}
noncomputable def isIntV : SV → Option Bool
  | .int _ => some true
  | .tup _ => some false
  | _ => none
noncomputable def tIsInt (jd ji : Nat) : Loc → Hp → Option Bool := fun loc H => match loc[jd]?, loc[ji]? with
  | some (some (.ref p)), some (some (.int i)) => match H[p]? with
    | some (.dI es) => (look es i).bind isIntV
    | _ => none
  | _, _ => none
theorem isIntV_inv {u : SV} {b : Bool} (e : isIntV u = some b) : (∃ i, u = .int i ∧ b = true) ∨ ∃ xs, u = .tup xs ∧ b = false := by
  cases u with
  | int i => exact .inl ⟨i, rfl, (Option.some.inj e).symm⟩
  | tup xs => exact .inr ⟨xs, rfl, (Option.some.inj e).symm⟩
  | _ => exact nS e
theorem tIsInt_inv {jd ji : Nat} {loc : Loc} {H : Hp} {b : Bool} (e : tIsInt jd ji loc H = some b) : ∃ p i es u, loc[jd]? = some (some (.ref p)) ∧ loc[ji]? = some (some (.int i)) ∧ H[p]? = some (.dI es) ∧ look es i = some u ∧ isIntV u = some b := by
  unfold tIsInt at e
  generalize loc[jd]? = x at e ⊢
  generalize loc[ji]? = y at e ⊢
  rcases x with _ | _ | x
  · exact nS e
  · exact nS e
  cases x with
  | ref p =>
    rcases y with _ | _ | y
    · exact nS e
    · exact nS e
    cases y with
    | int i =>
      refine dIE e fun es h3 e => ?_
      refine oE e fun u eu ei => ?_
      exact ⟨p, i, es, u, rfl, rfl, h3, eu, ei⟩
    | _ => exact nS e
  | _ => exact nS e
theorem RT.isInt {f d i t : Str} {fp dp ip tp sp pos : Pos} (jd ji : Nat) (hf : f = Str.ofString "isinstance") (ht : t = Str.ofString "int") (hx : sc.names.lookup f = some .globalImplicit) (hx2 : sc.names.lookup t = some .globalImplicit) (hv : nsIn c.K mainGlobals f = some none) (hv2 : nsIn c.K mainGlobals t = some none)
    (hd : vars[jd]? = some d) (hi : vars[ji]? = some i) (hdd : (d == ("__debug__" : Str) || d == ("__classdict__" : Str)) = false) (hii : (i == ("__debug__" : Str) || i == ("__classdict__" : Str)) = false)
    (hs : ∀ o' i', subscripted (.Name i ip) false o' i' = operate [o', i'] (getItem o' i'))
    (he : ∀ env whole, isTrue (.Call (.Name f fp) [.Subscript (.Name d dp) (.Name i ip) sp, .Name t tp] [] pos) env whole = (do let v ← whole; standAt pos; holding [v] (truthy v))) :
    RT c k sc vars [.Call (.Name f fp) [.Subscript (.Name d dp) (.Name i ip) sp, .Name t tp] [] pos] (tIsInt jd ji) := fun A env T ρ H loc s b hh hk hE R L e => by
  subst hf; subst ht
  obtain ⟨p, j, es, u, e1, e2, hpp, eu, ei⟩ := tIsInt_inv e; clear e
  obtain ⟨vd, nd, Vd⟩ := L jd d _ hd e1
  obtain ⟨vi, ni, Vi⟩ := L ji i _ hi e2
  have hkf : env.scope.kind = .function := hE.scope ▸ hE.kind
  refine wpAny_tests_one (wpAny_isTrue_value ?_ (he env _))
  refine Call_Name rfl (builtin_is hE R hx hv Boot.«isinstance» (by decide) ?_ (by decide))
  refine callWith_machine (f := .builtin "isinstance") rfl (fun env => rfl) ?_
  refine wpAny_items_cons ?_ rfl
  refine Subscript_ (name_is hkf R nd ?_ (Bool.or_eq_false_iff.mp hdd).1 (Bool.or_eq_false_iff.mp hdd).2)
  refine name_is hkf R ni ?_ (Bool.or_eq_false_iff.mp hii).1 (Bool.or_eq_false_iff.mp hii).2
  refine item_ok hs R Vd Vi (v := u) (by delta item; dsimp only; rw [hpp]; exact eu) fun val tk Vu => ?_
  refine wpAny_items_cons (builtin_is (s := { s with toks := tk }) hE R hx2 hv2 Boot.«int» (by decide) ?_ (by decide)) rfl
  refine wpAny_items_nil ?_
  show wpAny _ _ (PySem.call (.builtin "isinstance") [val, .type "int"]) _ _ _
  rcases isIntV_inv ei with ⟨m, rfl, rfl⟩ | ⟨xs, rfl, rfl⟩
  · obtain ⟨t, rfl⟩ := Vu.int_inv
    exact call_isinstance_yes (typeIs_int _ _ _) ty_int_type int_sub_int (wpAny_truthy_bool ⟨rfl, _, rfl⟩)
  · obtain ⟨a, vs, n, rfl, ta, Vs⟩ := Vu.tup_inv
    exact call_isinstance (isinstance_false_tuple (by decide) ty_int_type tup_sub_int) ⟨⟨_, R.base _ _ ta, rfl⟩, wpAny_truthy_bool ⟨rfl, _, rfl⟩⟩
end
section
variable {prog : Program} {w : World} {A : Around} {E : Value → Shared → Prop} {s : Shared}
theorem Walks.shift {I : Addr} {fp wr : List Addr} {n : Nat} {P : Nat → Value → Prop} {St : Nat → Heap → Prop} (W : Walks prog w A I fp wr n P St) (items : Array Value) :
    Walks prog w A I fp wr (items.size + n) (fun j v => if j < items.size then items[j]? = some v else P (j - items.size) v) (fun j h => items.size ≤ j ∧ St (j - items.size) h) where
  sub := W.sub
  frame := fun i h h' x hk => ⟨x.1, W.frame _ _ _ x.2 hk⟩
  item := fun i s Q E hi x hQ => W.item (i - items.size) s Q E (by lia) x.2 fun v h' tk hP st hk => hQ v h' tk (by rw [if_neg (by lia)]; exact hP) ⟨by lia, by rw [show i + 1 - items.size = i - items.size + 1 by lia]; exact st⟩ hk
  done := fun s Q E x hQ => W.done s Q E (by rw [show items.size + n - items.size = n by lia] at x; exact x.2) hQ
  self := fun i s Q E x hQ => W.self _ s Q E x.2 hQ
theorem Walks.revT (hh : A.handled = none) (I t : Addr) (hne : t ≠ I) (items : Array Value) (hb : items.size < 1000000) :
    Walks prog w A I [I, t] [I] items.size (fun i v => items[items.size - 1 - i]? = some v) (fun i h => i ≤ items.size ∧ IsRevT h I t ((items.size : Int) - 1 - (i : Int)) ∧ h.IsTuple t items) where
  sub := fun b hb => by simp at hb; simp [hb]
  frame := fun _ _ _ x hk => ⟨x.1, x.2.1.at fun o e => hk I (by simp) o e, let ⟨o, ho, r⟩ := x.2.2; ⟨o, hk t (by simp) o ho, r⟩⟩
  item := fun i s Q E hi x hQ => by
    have e : (items.size : Int) - 1 - (i : Int) = ((items.size - 1 - i : Nat) : Int) := by lia
    have hit := x.2.1
    rw [e] at hit
    have hx : items[items.size - 1 - i]? = some (items[items.size - 1 - i]'(by lia)) := Array.getElem?_eq_getElem (by lia)
    refine wpAny_pyNext_revT_item hit x.2.2 hx (by lia) fun h' tk hit' hs' => ?_
    have e2 : ((items.size - 1 - i : Nat) : Int) - 1 = (items.size : Int) - 1 - ((i + 1 : Nat) : Int) := by lia
    rw [e2] at hit'
    exact hQ _ h' tk hx ⟨hi, hit', let ⟨o, ho, r⟩ := x.2.2; ⟨o, (hs'.2 t hne).trans ho, r⟩⟩ fun b o hb eo => hs'.extBut b o (fun h => hb (by simp [h])) eo
  done := fun s Q E x hQ => by
    have e : (items.size : Int) - 1 - (items.size : Int) = -1 := by lia
    have hit := x.2.1
    rw [e] at hit
    exact wpAny_pyNext_revT_end hh hit fun h' he' => hQ h' s.toks fun b o hb eo => he' b o (fun h => hb (by simp [h])) eo
  self := fun _ _ _ _ x hQ => wpAny_pyIter_revT x.2.1 hQ
theorem extendWith_rev {R : Result → Shared → Prop} {S I t : Addr} {ty : String} {items mine : Array Value} {c₀ : Nat} {res : Value} {St : Nat → Heap → Prop} (hh : A.handled = none)
    (W : Walks prog w A.in1 I [I, t] [I] items.size (fun i v => items[items.size - 1 - i]? = some v) St) (st : St 0 s.heap)
    (hT : s.TypeIs (.ref I) ty) (nl : (Value.type ty == Value.type "list") = false) (nt : (Value.type ty == Value.type "tuple") = false)
    (hit : ∀ (E : Value → Shared → Prop) (Q : Value → Shared → Prop), Q (.ref I) s → wpAny (model prog w) A.in1 (pyIter (.ref I)) Q E s)
    (hint : ∀ (E : Value → Shared → Prop) (Q : Bool → Shared → Prop), (∀ b tk, Q b { s with toks := tk }) → wpAny (model prog w) A.in1 (Builtin.List.listLengthHint (.ref I)) Q E s)
    (hSI : S ≠ I) (hSt : S ≠ t) (hS : s.heap.get? S = some { cls := .type "list", data := .seq mine c₀ }) (hz : mine.size + items.size < 1000000)
    (hR : ∀ h' tk acc c', (∀ b o, b ≠ S → b ≠ I → s.heap.get? b = some o → h'.get? b = some o) → h'.get? S = some { cls := .type "list", dict := none, data := .seq acc c', slots := #[] } → acc.toList = mine.toList ++ items.toList.reverse → R (.ok (.ret res)) { s with heap := h', toks := tk }) :
    wpAny (model prog w) A.in1 (Builtin.List.listExtendWith (.ref S) (.ref I) res)
      (fun fin s' => match fin with | .done f => R (.ok f) s' | .again c' => c'.quiet = true ∧ codeAny (model prog w) A c' R s') (fun e s' => R (.error e) s') s := by
  have hSf : S ∉ [I, t] := by simp only [List.mem_cons, List.not_mem_nil, or_false, not_or]; exact ⟨hSI, hSt⟩
  have key : ∀ (h : Heap) (c₁ tk : Nat), St 0 h → (∀ b o, b ≠ S → s.heap.get? b = some o → h.get? b = some o) →
      h.get? S = some { cls := .type "list", data := .seq mine c₁ } → codeAny (model prog w) A (.builtin "list.extend.loop" ⟨[.ref S, .ref I, res], []⟩) R { s with heap := h, toks := tk } := by
    intro h c₁ tk hst hk hS₁
    refine codeAny_extend_loopS (Walks.shift W mine).toS (by rw [sizeLine_eq]; lia) S hSf res items.size mine.size _ mine c₁ (by lia) (by lia) ⟨Nat.le_refl _, by rw [Nat.sub_self]; exact hst⟩ hS₁ ⟨rfl, fun j v e => ?_⟩ fun s' acc' c' hm hS' hacc => ?_
    · show (if j < mine.size then _ else _)
      rw [if_pos (Array.getElem?_eq_some_iff.mp e).1]; exact e
    rw [Moved.eq_with hm]
    refine hR s'.heap s'.toks acc' c' (fun b o hb hbI e => hm.heap b o (fun hmem => ?_) (hk b o hb e)) hS' ?_
    · rcases List.mem_cons.mp hmem with e' | hmem
      · exact hb e'
      · exact hbI (List.mem_singleton.mp hmem)
    · refine List.ext_getElem? fun j => ?_
      by_cases hj : j < acc'.size
      · have h1 : acc'[j]? = some acc'[j] := Array.getElem?_eq_getElem hj
        have h2 := hacc.2 j _ h1
        have hsz := hacc.1
        change (if j < mine.size then mine[j]? = some acc'[j] else items[items.size - 1 - (j - mine.size)]? = some acc'[j]) at h2
        rw [Array.getElem?_toList, h1]
        by_cases hjm : j < mine.size
        · rw [if_pos hjm] at h2
          rw [List.getElem?_append_left (by simpa using hjm), Array.getElem?_toList, h2]
        · rw [if_neg hjm] at h2
          rw [List.getElem?_append_right (by simpa using Nat.le_of_not_lt hjm), List.getElem?_reverse (by simp; lia)]
          rw [Array.length_toList, Array.getElem?_toList, Array.length_toList, h2]
      · have hsz := hacc.1
        rw [List.getElem?_eq_none (by simpa using Nat.le_of_not_lt hj), List.getElem?_eq_none (by simp; lia)]
  unfold Builtin.List.listExtendWith
  refine wpAny_bind (wpAny_typeOf (T := ty) hT ?_)
  have h1 : Builtin.List.listSameRef (.ref S) (.ref I) = false := by simp [Builtin.List.listSameRef, hSI]
  simp only [h1, nl, nt, Bool.or_false, Bool.false_eq_true, if_false]
  refine wpAny_bind (hit _ _ ?_)
  refine wpAny_bind (wpAny_holding (hint _ _ fun b tk => ?_))
  refine wpAny_ite_split (fun _ => ?_) (fun _ => wpAny_pure ⟨plainId_quiet PySem.F.plain_extend_loop _, key _ c₀ _ st (fun b o _ e => e) hS⟩)
  refine wpAny_bind (wpAny_rule ?_)
  refine wpAny_bind ?_
  show wpAny _ _ (updateSeq S (·.push .none) >>= fun _ => updateSeq S (·.pop)) _ _ _
  refine wpAny_bind (wpAny_updateSeq hS rfl (hz := by rw [sizeLine_eq]; lia) (_hz' := by rw [Array.size_push, sizeLine_eq]; lia) ?_)
  have hS₂ := Heap.get?_update_self (Obj.mapSeq (·.push Value.none)) hS rfl
  refine wpAny_updateSeq hS₂ rfl (hz := by rw [Array.size_push, sizeLine_eq]; lia) (_hz' := by rw [Array.size_pop, Array.size_push, sizeLine_eq]; lia) ?_
  have hS₃ := Heap.get?_update_self (Obj.mapSeq (·.pop)) hS₂ rfl
  have e3 : (mine.push Value.none).pop = mine := Array.pop_push
  refine wpAny_pure ⟨plainId_quiet PySem.F.plain_extend_loop _, key _ _ _ ?_ (fun b o hb e => ?_) (by rw [hS₃]; simp only [Obj.mapSeq, e3]; rfl)⟩
  · refine W.frame 0 _ _ st fun b hb o e => ?_
    have hbS : b ≠ S := fun h => hSf (h ▸ hb)
    exact (Heap.get?_update_other _ _ (Ne.symm hbS)).trans ((Heap.get?_update_other _ _ (Ne.symm hbS)).trans e)
  · exact (Heap.get?_update_other _ _ (Ne.symm hb)).trans ((Heap.get?_update_other _ _ (Ne.symm hb)).trans e)
end
end Mine.Internal
end
section
open PySem PySem.W PyProof.Rows
open PyProof.Rows.LCg (NsObj ns_obj)
open PySem.Calls
namespace Mine.Internal
section
variable {c : Cx} {k : Nat} {sc : Scope} {vars : List Str}
theorem MB.extend : MB "list" (Str.ofString "extend") "list.extend" := ⟨PySem.F.plainAttrs_list, PySem.F.slot_list_extend, PySem.F.type_list_extend⟩
noncomputable def extRev (o x : SV) (H : Hp) : Option (SV × Hp) := match o, x with
  | .ref p, .tup ys => match H[p]? with
    | some (.lst xs) => if xs.length + ys.length < 1000000 then some (.none, H.set p (.lst (xs ++ ys.reverse))) else none
    | _ => none
  | _, _ => none
noncomputable def dExtRev (do' dx : D SV) : D SV := fun loc H => (do' loc H).bind fun (o, H) => if tyOf H o = some "list" then (dx loc H).bind fun (x, H) => extRev o x H else none
theorem ES.extRev {o x : Expr} {name f : Str} {apos fp cp pos : Pos} {do' dx : D SV} (hn : name = Str.ofString "extend") (hf : f = Str.ofString "reversed") (hx : sc.names.lookup f = some .globalImplicit) (hv : nsIn c.K mainGlobals f = some Option.none) (ho : ES c k sc vars o do') (hxd : ES c k sc vars x dx) (pl : Env → Sem Bool)
    (hst : ∀ env, starEach [x] env = [(false, eval x env)])
    (he : ∀ env, eval (.Call (.Attribute o name apos) [.Call (.Name f fp) [x] [] cp] [] pos) env = (do
      let ov ← eval o env
      standAt apos.atName
      let (f', first) ← holding [ov] (getMethod ov name (pl env))
      callWith pos f' first (backTo pos (starEach [.Call (.Name f fp) [x] [] cp] env)) [])) : ES c k sc vars (.Call (.Attribute o name apos) [.Call (.Name f fp) [x] [] cp] [] pos) (dExtRev do' dx) := fun A env T ρ H loc s v H' hh hk hE R L e => by
  subst hn; subst hf
  refine bE e fun a H1 e1 e2 => ?_; clear e
  try dsimp only at e2
  refine ifE e2 fun hi e2 => ?_
  refine bE e2 fun y H2 e2 e3 => ?_
  try dsimp only at e3
  refine MethodCall_ (pl := pl env) (wpAny_mono (ho hh hk hE R L e1) (fun va s1 p1 => ?_) fun _ _ x => x) (he env)
  refine p1.el fun T1 ρ1 t1 r1 R1 V1 q1 => ?_
  obtain ⟨g1, g2⟩ := R1.tyOf V1 hi
  refine getMethod_builtin g1 MB.extend.pa MB.extend.slot MB.extend.ty g2 ?_
  refine callWith_machine (f := .builtin "list.extend") rfl (fun env => rfl) ?_
  refine wpAny_items_cons ?_ rfl
  refine Call_Name rfl (builtin_is hE R1 hx hv Boot.«reversed» (by decide) ?_ (by decide))
  have hs : EL c k sc vars [x] (dCons dx dNil) := EL.cons hxd EL.nil hst
  refine callWith_machine (f := .type "reversed") rfl (fun env => by rw [hst]; rfl) (wpAny_mono (hs cp hh hk hE R1 (L.mono t1 r1) (vs := [y]) (H' := H2) (dOne e2)) (fun vals s2 p2 => ?_) fun _ _ x => x)
  refine p2.el fun T2 ρ2 t2 r2 R2 V2 q2 => ?_
  obtain ⟨val, rfl, W2⟩ := V2.one_inv
  show wpAny _ _ (PySem.call (.type "reversed") [val]) _ _ _
  have V1' := V1.mono t2.t r2
  cases a with
  | ref p =>
    cases y with
    | tup ys =>
      refine lstE e3 fun xs hp e3 => ?_
      refine ifE e3 fun hlen e3 => ?_
      refine sE2 e3 ?_
      obtain ⟨t, ws, nt, rfl, tt, Ws⟩ := W2.tup_inv
      refine V1'.refE fun l rl => ?_
      refine R2.lstE rl hp fun vs n gl Vs => ?_
      have l1 := Vs.length; have l2 := Ws.length
      have lv : vs.toList.length = vs.size := Array.length_toList
      have gt := R2.base _ _ tt
      have htup : IsTup s2.heap t ws.toArray := ⟨_, gt, rfl, nt, rfl⟩
      refine call_reversed_tuple htup (by rw [List.size_toArray]; lia) fun tk => ?_
      refine wpAny_items_nil ?_
      show wpAny _ _ (PySem.call (.builtin "list.extend") [.ref l, .ref s2.heap.objs.size]) _ _ _
      have gl' := Heap.get?_push_of_some (rtObj t ((ws.toArray.size : Int) - 1)) gl
      have lI : l ≠ s2.heap.objs.size := Nat.ne_of_lt (Heap.lt_size gl)
      have tI : t ≠ s2.heap.objs.size := Nat.ne_of_lt (Heap.lt_size gt)
      have lt : l ≠ t := fun q => by rw [q, gt] at gl; simp at gl
      have hws : ws.toArray.size = ws.length := List.size_toArray ..
      have hrev : IsRevT (s2.heap.push (rtObj t ((ws.toArray.size : Int) - 1))) s2.heap.objs.size t ((ws.toArray.size : Int) - 1) := ⟨_, Heap.get?_push_size _ rfl, rfl, rfl⟩
      have htup' : IsTup (s2.heap.push (rtObj t ((ws.toArray.size : Int) - 1))) t ws.toArray := ⟨_, Heap.get?_push_of_some _ gt, rfl, nt, rfl⟩
      have hT : ({ s2 with heap := s2.heap.push (rtObj t ((ws.toArray.size : Int) - 1)), toks := tk } : Shared).TypeIs (.ref l) "list" := ⟨_, gl', rfl⟩
      refine wpAny_call (codeAny_call_builtin PySem.F.slot_list_extend.plain PySem.F.entry_list_extend (PySem.F.slot_list_extend.check _ _ _ _ _ _ _ _ hT (PySem.F.args_list_extend_2 _ _) ?_))
      refine extendWith_rev (res := .none) (R := wants (PV c T ρ s .none (H2.set p (.lst (xs ++ ys.reverse)))) NoE) (s := { s2 with heap := s2.heap.push (rtObj t ((ws.toArray.size : Int) - 1)), toks := tk }) hh (Walks.revT (A := A.in1) hh _ t tI ws.toArray (by rw [List.size_toArray]; lia)) ⟨Nat.zero_le _, by simpa using hrev, htup'⟩ hrev.typeIs (by decide) (by decide) (fun E Q h => wpAny_pyIter_revT hrev h) (fun E Q h => hint_revT hrev htup' (by rw [List.size_toArray]; lia) h) lI lt gl' (by lia) (fun h' tk' acc c' hk' hS hacc => ?_)
      have R3 : Rp c T2 ρ2 (H2.set p (.lst (xs ++ ys.reverse))) h' := R2.setCell rl (fun b x nb eb => hk' b x nb (Nat.ne_of_lt (Heap.lt_size eb)) (Heap.get?_push_of_some _ eb)) hS ⟨acc, c', rfl, by rw [hacc]; exact Vs.append (by simpa using Ws.reverse)⟩
      exact ⟨T2, ρ2, t1.trans t2, r1.trans r2, R3, .none, (q1.trans q2).trans rfl⟩
    | _ => exact nS e3
  | _ => exact nS e3
noncomputable def listRev (x : SV) (H : Hp) : Option (SV × Hp) := match x with
  | .ref p => match H[p]? with
    | some (.lst xs) => if xs.length < 1000000 then some (.ref H.length, H ++ [.lst xs.reverse]) else none
    | _ => none
  | _ => none
noncomputable def dListRev (dx : D SV) : D SV := fun loc H => (dx loc H).bind fun (x, H) => listRev x H
theorem hint_lri {A : Around} {s : Shared} {E : Value → Shared → Prop} {r l : Addr} {i : Int} {Q : Bool → Shared → Prop} (hit : s.heap.IsRevIter r l i) (h : ∀ b tk, Q b { s with toks := tk }) : wpAny (model c.prog c.w) A (Builtin.List.listLengthHint (.ref r)) Q E s := by
  unfold Builtin.List.listLengthHint
  refine wpAny_bind (wpAny_specialOf hit.typeIs lri_no_len ?_)
  try dsimp only
  refine iteN (by decide) ?_
  refine iteN (by decide) ?_
  refine wpAny_bind (wpAny_specialOf hit.typeIs lri_hint ?_)
  try dsimp only
  generalize hid : ("list_reverseiterator.__length_hint__" : String) = id0
  rw [show splitId id0 = some ("list_reverseiterator", "__length_hint__") from by subst hid; decide +kernel]
  subst hid
  refine wpAny_bind (wpAny_isInstance (T := "list_reverseiterator") (b := true) hit.typeIs (by rw [isSubtype_type]; kernel_rfl) ?_)
  refine iteN (by decide) ?_
  refine iteP (by decide +kernel) ?_
  refine iteN (by decide) ?_
  exact wpAny_pure (h _ _)
theorem ES.listRev {x : Expr} {g f : Str} {gp fp cp pos : Pos} {dx : D SV} (hg : g = Str.ofString "list") (hf : f = Str.ofString "reversed") (hx : sc.names.lookup f = some .globalImplicit) (hv : nsIn c.K mainGlobals f = some Option.none) (hx2 : sc.names.lookup g = some .globalImplicit) (hv2 : nsIn c.K mainGlobals g = some Option.none) (hxd : ES c k sc vars x dx)
    (hst : ∀ env, starEach [x] env = [(false, eval x env)]) : ES c k sc vars (.Call (.Name g gp) [.Call (.Name f fp) [x] [] cp] [] pos) (dListRev dx) := fun A env T ρ H loc s v H' hh hk hE R L e => by
  subst hg; subst hf
  refine bE e fun y H1 e1 e2 => ?_; clear e
  try dsimp only at e2
  refine Call_Name rfl (builtin_is hE R hx2 hv2 Boot.«list» (by decide) ?_ (by decide))
  refine callWith_machine (f := .type "list") rfl (fun env => rfl) ?_
  refine wpAny_items_cons ?_ rfl
  refine Call_Name rfl (builtin_is hE R hx hv Boot.«reversed» (by decide) ?_ (by decide))
  have hs : EL c k sc vars [x] (dCons dx dNil) := EL.cons hxd EL.nil hst
  refine callWith_machine (f := .type "reversed") rfl (fun env => by rw [hst]; rfl) (wpAny_mono (hs cp hh hk hE R L (vs := [y]) (H' := H1) (dOne e1)) (fun vals s1 p1 => ?_) fun _ _ x => x)
  refine p1.el fun T1 ρ1 t1 r1 R1 V1 q1 => ?_
  obtain ⟨val, rfl, W1⟩ := V1.one_inv
  show wpAny _ _ (PySem.call (.type "reversed") [val]) _ _ _
  cases y with
  | ref p =>
    refine lE e2 fun xs hp hlen e2 => ?_
    refine sE2 e2 ?_
    refine W1.refE fun l rl => ?_
    refine R1.lstE rl hp fun vs n gl Vs => ?_
    have l1 := Vs.length
    have lv : vs.toList.length = vs.size := Array.length_toList
    refine call_reversed_list (PySem.IsL.isList gl) ?_
    refine wpAny_items_nil ?_
    show wpAny _ _ (PySem.call (.type "list") [.ref s1.heap.objs.size]) _ _ _
    have llt := Heap.lt_size gl
    have R2 := R1.push (revObj l ((vs.size : Int) - 1))
    have gl2 := Heap.get?_push_of_some (revObj l ((vs.size : Int) - 1)) gl
    have hI2 : (s1.heap.push (revObj l ((vs.size : Int) - 1))).IsRevIter s1.heap.objs.size l ((vs.size : Int) - 1) := ⟨_, Heap.get?_push_size _ rfl, rfl, rfl⟩
    generalize hI : s1.heap.objs.size = I at *
    generalize hh2 : s1.heap.push (revObj l ((vs.size : Int) - 1)) = hp2 at *
    have hIlt : I < hp2.objs.size := by obtain ⟨o, ho, _⟩ := hI2; exact Heap.lt_size ho
    refine callType_codes (s := { s1 with heap := hp2 }) (Q₁ := fun obj s₁ => obj = .ref hp2.objs.size ∧ s₁ = { s1 with heap := hp2.push { cls := .type "list", data := .seq #[] } }) PySem.F.called_list (PySem.F.typeCall_list_1 _) PySem.F.entry_list_init
      (code_list_new _ ⟨rfl, rfl⟩) fun obj s₁ h₁ => ?_
    obtain ⟨rfl, rfl⟩ := h₁
    have hS : (hp2.push { cls := .type "list", data := .seq #[] }).get? hp2.objs.size = some { cls := .type "list", data := .seq #[] } := Heap.get?_push_size _ rfl
    refine ⟨⟨_, hS, rfl⟩, PySem.F.args_list_init_2 _ _, ?_⟩
    have fS := R2.fresh
    have nS := R2.notρ
    have loS := R2.lowSize
    have R3 := R2.push { cls := .type "list", data := .seq #[] }
    have gl3 := Heap.get?_push_of_some { cls := .type "list", data := .seq #[] } gl2
    have up3 : ∀ b o, hp2.get? b = some o → (hp2.push { cls := .type "list", data := .seq #[] }).get? b = some o := fun b o e => Heap.get?_push_of_some _ e
    have hI3 := hI2.at fun o e => up3 I o e
    have IS : I ≠ hp2.objs.size := Nat.ne_of_lt hIlt
    have lS : l ≠ hp2.objs.size := Nat.ne_of_lt (Nat.lt_trans llt hIlt)
    have lI : l ≠ I := Nat.ne_of_lt llt
    generalize hSS : hp2.objs.size = S at *
    generalize hh3 : hp2.push { cls := .type "list", data := .seq #[] } = hp3 at *
    show wpAny _ _ (do let old ← Builtin.List.listItems (.ref S); Builtin.List.listUpdate (.ref S) (fun _ => #[]); letGo old.toList.reverse; Builtin.List.listExtendWith (.ref S) (.ref I) .none) _ _ { s1 with heap := hp3 }
    refine wpAny_bind ?_
    unfold Builtin.List.listItems
    refine wpAny_bind (wpAny_seqItems hS rfl (wpAny_pure ?_))
    show wpAny _ _ (updateSeq S (fun _ => #[]) >>= fun _ => letGo (#[] : Array Value).toList.reverse >>= fun _ => Builtin.List.listExtendWith (.ref S) (.ref I) .none) _ _ { s1 with heap := hp3 }
    refine wpAny_bind (wpAny_updateSeq hS rfl ?_)
    have hS₂ := Heap.get?_update_self (Obj.mapSeq (fun _ => (#[] : Array Value))) hS rfl
    have oth : ∀ b o, b ≠ S → hp3.get? b = some o → (hp3.update S (Obj.mapSeq (fun _ => (#[] : Array Value)))).get? b = some o :=
      fun b o hb e => (Heap.get?_update_other _ _ (Ne.symm hb)).trans e
    refine wpAny_bind (wpAny_letGo ?_)
    have hI4 := hI3.at fun o e => oth I o IS e
    have gl4 := oth l _ lS gl3
    refine extendWith_rev (A := A.in1) (mine := #[]) (s := { s1 with heap := hp3.update S (Obj.mapSeq (fun _ => (#[] : Array Value))) }) hh (Walks.listRev (A := A.in1.in1) hh I l lI vs) ⟨Nat.zero_le _, by simpa using hI4, PySem.IsL.isList gl4⟩ hI4.typeIs (by decide) (by decide) (fun E Q h => wpAny_pyIter_revIter hI4 h) (fun E Q h => hint_lri hI4 h) (Ne.symm IS) (Ne.symm lS) hS₂ (by simp; lia) (fun h' tk' acc c' hk' hS' hacc => ?_)
    have R4 : Rp c T1 ρ1 H1 h' := R1.grow' fun b o e => by
      have hb : b < I := hI ▸ Heap.lt_size e
      have e2 : hp2.get? b = some o := by rw [← hh2]; exact Heap.get?_push_of_some _ e
      exact hk' b o (Nat.ne_of_lt (Nat.lt_trans hb hIlt)) (Nat.ne_of_lt hb) (oth b o (Nat.ne_of_lt (Nat.lt_trans hb hIlt)) (up3 b o e2))
    have R5 := R4.addCell fS nS loS hS' (so := .lst xs.reverse) ⟨acc, c', rfl, by rw [hacc]; simpa using (Vs.reverse.mono (LeT.refl _) (Pre.snoc ρ1 S))⟩
    exact ⟨rfl, T1, _, t1, r1.trans (Pre.snoc _ _), R5, .ref (by rw [← R1.len]; simp), q1.trans rfl⟩
  | _ => exact nS e2
end
end Mine.Internal
end
section
open PySem PySem.W PyProof.Rows
namespace Mine.Internal
noncomputable def sNIL : SV := .tup [.str (Str.ofString "a"), .int 0]
theorem FS.up {c : Cx} {k k' : Nat} {f : Addr} {F : Fn} (h : FS c k f F) (le : k ≤ k') : FS c k' f F := fun A T ρ H s svs vals v H' hh hk R V e =>
  h hh ⟨by have := hk.1; omega, by have := hk.2; omega⟩ R V e
noncomputable def d_fixed_atoms : DS :=
  (sCons (sRet (dTup (dCons (dVal (.str (Str.ofString "[]"))) (dCons (dVal (.str (Str.ofString "."))) (dCons (dVal (.str (Str.ofString "{}"))) (dCons (dVal (.str (Str.ofString "-"))) (dCons (dVal (.str (Str.ofString "+"))) (dCons (dVal (.str (Str.ofString "*"))) (dCons (dVal (.str (Str.ofString "/"))) (dCons (dVal (.str (Str.ofString ","))) (dCons (dVal (.str (Str.ofString "|"))) (dCons (dVal (.str (Str.ofString ";"))) (dCons (dVal (.str (Str.ofString "->"))) (dCons (dVal (.str (Str.ofString "\\+"))) (dCons (dVal (.str (Str.ofString ":-"))) (dCons (dVal (.str (Str.ofString "?-"))) (dCons (dVal (.str (Str.ofString "-->"))) (dCons (dVal (.str (Str.ofString "!"))) (dCons (dVal (.str (Str.ofString "true"))) (dCons (dVal (.str (Str.ofString "fail"))) (dCons (dVal (.str (Str.ofString "false"))) (dCons (dVal (.str (Str.ofString "call"))) (dCons (dVal (.str (Str.ofString "="))) (dCons (dVal (.str (Str.ofString "^"))) (dCons (dVal (.str (Str.ofString "error"))) (dCons (dVal (.str (Str.ofString ""))) (dCons (dVal (.str (Str.ofString "end_of_file"))) (dCons (dVal (.str (Str.ofString "system"))) (dCons (dVal (.str (Str.ofString "$VAR"))) (dCons (dVal (.str (Str.ofString "catch"))) (dCons (dVal (.str (Str.ofString "throw"))) dNil)))))))))))))))))))))))))))))))
  sNil)
noncomputable def F_fixed_atoms : Fn := fDef 0 0 d_fixed_atoms
noncomputable def d_fixed_functors : DS :=
  (sCons (sRet (dTup (dCons (dTup (dCons (dVal (.str (Str.ofString "."))) (dCons (dVal (.int 2)) dNil))) (dCons (dTup (dCons (dVal (.str (Str.ofString ","))) (dCons (dVal (.int 2)) dNil))) (dCons (dTup (dCons (dVal (.str (Str.ofString ";"))) (dCons (dVal (.int 2)) dNil))) (dCons (dTup (dCons (dVal (.str (Str.ofString "->"))) (dCons (dVal (.int 2)) dNil))) (dCons (dTup (dCons (dVal (.str (Str.ofString "\\+"))) (dCons (dVal (.int 1)) dNil))) (dCons (dTup (dCons (dVal (.str (Str.ofString ":-"))) (dCons (dVal (.int 2)) dNil))) (dCons (dTup (dCons (dVal (.str (Str.ofString ":-"))) (dCons (dVal (.int 1)) dNil))) (dCons (dTup (dCons (dVal (.str (Str.ofString "?-"))) (dCons (dVal (.int 1)) dNil))) (dCons (dTup (dCons (dVal (.str (Str.ofString "-->"))) (dCons (dVal (.int 2)) dNil))) (dCons (dTup (dCons (dVal (.str (Str.ofString "{}"))) (dCons (dVal (.int 1)) dNil))) (dCons (dTup (dCons (dVal (.str (Str.ofString "="))) (dCons (dVal (.int 2)) dNil))) (dCons (dTup (dCons (dVal (.str (Str.ofString "^"))) (dCons (dVal (.int 2)) dNil))) (dCons (dTup (dCons (dVal (.str (Str.ofString "-"))) (dCons (dVal (.int 1)) dNil))) (dCons (dTup (dCons (dVal (.str (Str.ofString "-"))) (dCons (dVal (.int 2)) dNil))) (dCons (dTup (dCons (dVal (.str (Str.ofString "+"))) (dCons (dVal (.int 2)) dNil))) (dCons (dTup (dCons (dVal (.str (Str.ofString "/"))) (dCons (dVal (.int 2)) dNil))) (dCons (dTup (dCons (dVal (.str (Str.ofString "error"))) (dCons (dVal (.int 2)) dNil))) (dCons (dTup (dCons (dVal (.str (Str.ofString "$VAR"))) (dCons (dVal (.int 1)) dNil))) (dCons (dTup (dCons (dVal (.str (Str.ofString "catch"))) (dCons (dVal (.int 3)) dNil))) (dCons (dTup (dCons (dVal (.str (Str.ofString "throw"))) (dCons (dVal (.int 1)) dNil))) (dCons (dTup (dCons (dVal (.str (Str.ofString "!"))) (dCons (dVal (.int 0)) dNil))) (dCons (dTup (dCons (dVal (.str (Str.ofString "true"))) (dCons (dVal (.int 0)) dNil))) (dCons (dTup (dCons (dVal (.str (Str.ofString "fail"))) (dCons (dVal (.int 0)) dNil))) (dCons (dTup (dCons (dVal (.str (Str.ofString "false"))) (dCons (dVal (.int 0)) dNil))) (dCons (dTup (dCons (dVal (.str (Str.ofString "call"))) (dCons (dVal (.int 1)) dNil))) (dCons (dTup (dCons (dVal (.str (Str.ofString "call"))) (dCons (dVal (.int 2)) dNil))) (dCons (dTup (dCons (dVal (.str (Str.ofString "call"))) (dCons (dVal (.int 3)) dNil))) (dCons (dTup (dCons (dVal (.str (Str.ofString "call"))) (dCons (dVal (.int 4)) dNil))) (dCons (dTup (dCons (dVal (.str (Str.ofString "call"))) (dCons (dVal (.int 5)) dNil))) (dCons (dTup (dCons (dVal (.str (Str.ofString "call"))) (dCons (dVal (.int 6)) dNil))) (dCons (dTup (dCons (dVal (.str (Str.ofString "call"))) (dCons (dVal (.int 7)) dNil))) (dCons (dTup (dCons (dVal (.str (Str.ofString "call"))) (dCons (dVal (.int 8)) dNil))) dNil))))))))))))))))))))))))))))))))))
  sNil)
noncomputable def F_fixed_functors : Fn := fDef 0 0 d_fixed_functors
noncomputable def d_Symbols_atom : DS :=
  (sCons (sAssign 2 (dMethB "dict" fGet (dAttr 154 (Str.ofString "atom_numbers") (dLoc 0)) (dCons (dLoc 1) (dCons (dUn opNeg (dVal (.int 1))) dNil))))
  (sCons (sIf (dCmp (cmpII fun a b => decide (b ≤ a)) (dLoc 2) (dVal (.int 0))) (sCons (sRet (dLoc 2))
  sNil) sNil)
  (sCons (sAssign 3 (dCall fLen (dCons (dAttr 154 (Str.ofString "texts") (dLoc 0)) dNil)))
  (sCons (sExpr (dMethB "list" fAppend (dAttr 154 (Str.ofString "texts") (dLoc 0)) (dCons (dLoc 1) dNil)))
  (sCons (sSetItem (dAttr 154 (Str.ofString "atom_numbers") (dLoc 0)) (dLoc 1) (dLoc 3))
  (sCons (sRet (dLoc 3))
  sNil))))))
noncomputable def F_Symbols_atom : Fn := fDef 2 2 d_Symbols_atom
noncomputable def d_Symbols_functor : DS :=
  (sCons (sAssign 3 (dTup (dCons (dLoc 1) (dCons (dLoc 2) dNil))))
  (sCons (sAssign 4 (dMethB "dict" fGet (dAttr 154 (Str.ofString "functor_numbers") (dLoc 0)) (dCons (dLoc 3) (dCons (dUn opNeg (dVal (.int 1))) dNil))))
  (sCons (sIf (dCmp (cmpII fun a b => decide (b ≤ a)) (dLoc 4) (dVal (.int 0))) (sCons (sRet (dLoc 4))
  sNil) sNil)
  (sCons (sAssign 5 (dCall fLen (dCons (dAttr 154 (Str.ofString "functors") (dLoc 0)) dNil)))
  (sCons (sExpr (dMethB "list" fAppend (dAttr 154 (Str.ofString "functors") (dLoc 0)) (dCons (dLoc 3) dNil)))
  (sCons (sSetItem (dAttr 154 (Str.ofString "functor_numbers") (dLoc 0)) (dLoc 3) (dLoc 5))
  (sCons (sRet (dLoc 5))
  sNil)))))))
noncomputable def F_Symbols_functor : Fn := fDef 3 3 d_Symbols_functor
noncomputable def d_Symbols_func : DS :=
  (sCons (sRet (dMeth 154 (Str.ofString "functor") (F_Symbols_functor) (dLoc 0) (dCons (dMeth 154 (Str.ofString "atom") (F_Symbols_atom) (dLoc 0) (dCons (dLoc 1) dNil)) (dCons (dLoc 2) dNil))))
  sNil)
noncomputable def F_Symbols_func : Fn := fDef 3 0 d_Symbols_func
noncomputable def d_Symbols_name : DS :=
  (sCons (sRet (dSub (dSub (dAttr 154 (Str.ofString "functors") (dLoc 0)) (dLoc 1)) (dVal (.int 0))))
  sNil)
noncomputable def F_Symbols_name : Fn := fDef 2 0 d_Symbols_name
noncomputable def d_Symbols_init : DS :=
  (sCons (sSetAttr 154 (Str.ofString "texts") (dLoc 0) (dLst dNil))
  (sCons (sSetAttr 154 (Str.ofString "atom_numbers") (dLoc 0) (dEmpty .S))
  (sCons (sSetAttr 154 (Str.ofString "functors") (dLoc 0) (dLst dNil))
  (sCons (sSetAttr 154 (Str.ofString "functor_numbers") (dLoc 0) (dEmpty .T))
  (sCons (sFor 1 (dIter (dCall (F_fixed_atoms) dNil)) (sCons (sExpr (dMeth 154 (Str.ofString "atom") (F_Symbols_atom) (dLoc 0) (dCons (dLoc 1) dNil)))
  sNil) 3000)
  (sCons (sFor 2 (dIter (dCall (F_fixed_functors) dNil)) (sCons (sExpr (dMeth 154 (Str.ofString "func") (F_Symbols_func) (dLoc 0) (dCons (dSub (dLoc 2) (dVal (.int 0))) (dCons (dSub (dLoc 2) (dVal (.int 1))) dNil))))
  sNil) 3000)
  sNil))))))
noncomputable def F_Symbols_init : Fn := fDef 1 2 d_Symbols_init
noncomputable def d_var : DS :=
  (sCons (sRet (dTup (dCons (dVal (.str (Str.ofString "v"))) (dCons (dLoc 0) dNil))))
  sNil)
noncomputable def F_var : Fn := fDef 1 0 d_var
noncomputable def d_atom : DS :=
  (sCons (sRet (dTup (dCons (dVal (.str (Str.ofString "a"))) (dCons (dLoc 0) dNil))))
  sNil)
noncomputable def F_atom : Fn := fDef 1 0 d_atom
noncomputable def d_struct : DS :=
  (sCons (sRet (dTup (dCons (dVal (.str (Str.ofString "s"))) (dCons (dLoc 0) (dCons (dCall fTuple (dCons (dLoc 1) dNil)) dNil)))))
  sNil)
noncomputable def F_struct : Fn := fDef 2 0 d_struct
noncomputable def d_list_term : DS :=
  (sCons (sAssign 2 (dIf (dCmp cmpIsNone (dLoc 1) (dVal .none)) (dVal sNIL) (dLoc 1)))
  (sCons (sFor 3 (dRev (dLoc 0)) (sCons (sAssign 2 (dTup (dCons (dVal (.str (Str.ofString "s"))) (dCons (dVal (.int 0)) (dCons (dTup (dCons (dLoc 3) (dCons (dLoc 2) dNil))) dNil)))))
  sNil) 3000)
  (sCons (sRet (dLoc 2))
  sNil)))
noncomputable def F_list_term : Fn := fDef 2 2 d_list_term
noncomputable def d_list_items : DS :=
  (sCons (sAssign 1 (dLst dNil))
  (sCons (sWhile (dAnd (dCmp cmpSS (dSub (dLoc 0) (dVal (.int 0))) (dVal (.str (Str.ofString "s")))) (dCmp (cmpII (· == ·)) (dSub (dLoc 0) (dVal (.int 1))) (dVal (.int 0)))) (sCons (sExpr (dMethB "list" fAppend (dLoc 1) (dCons (dSub (dSub (dLoc 0) (dVal (.int 2))) (dVal (.int 0))) dNil)))
  (sCons (sAssign 0 (dSub (dSub (dLoc 0) (dVal (.int 2))) (dVal (.int 1))))
  sNil)) 3000)
  (sCons (sRet (dTup (dCons (dLoc 1) (dCons (dLoc 0) dNil))))
  sNil)))
noncomputable def F_list_items : Fn := fDef 1 1 d_list_items
noncomputable def d_is_callable : DS :=
  (sCons (sRet (dB (dOr (dCmp cmpSS (dSub (dLoc 0) (dVal (.int 0))) (dVal (.str (Str.ofString "a")))) (dCmp cmpSS (dSub (dLoc 0) (dVal (.int 0))) (dVal (.str (Str.ofString "s")))))))
  sNil)
noncomputable def F_is_callable : Fn := fDef 1 0 d_is_callable
noncomputable def d_functor_in : DS :=
  (sCons (sIf (dCmp cmpSS (dSub (dLoc 1) (dVal (.int 0))) (dVal (.str (Str.ofString "a")))) (sCons (sRet (dMeth 154 (Str.ofString "functor") (F_Symbols_functor) (dLoc 0) (dCons (dSub (dLoc 1) (dVal (.int 1))) (dCons (dVal (.int 0)) dNil))))
  sNil) sNil)
  (sCons (sRet (dSub (dLoc 1) (dVal (.int 1))))
  sNil))
noncomputable def F_functor_in : Fn := fDef 2 0 d_functor_in
noncomputable def d_arguments : DS :=
  (sCons (sIf (dCmp cmpSS (dSub (dLoc 0) (dVal (.int 0))) (dVal (.str (Str.ofString "s")))) (sCons (sRet (dSub (dLoc 0) (dVal (.int 2))))
  sNil) sNil)
  (sCons (sRet (dTup dNil))
  sNil))
noncomputable def F_arguments : Fn := fDef 1 0 d_arguments
noncomputable def d_variables_of : DS :=
  (sCons (sAssign 1 (dEmpty .I))
  (sCons (sAssign 2 (dLst dNil))
  (sCons (sAssign 3 (dListRev (dLoc 0)))
  (sCons (sWhile (dTruth (dLoc 3)) (sCons (sAssign 4 (dMethB "list" fPop (dLoc 3) dNil))
  (sCons (sIf (dCmp cmpSS (dSub (dLoc 4) (dVal (.int 0))) (dVal (.str (Str.ofString "v")))) (sCons (sIf (dCmp cmpNotIn (dSub (dLoc 4) (dVal (.int 1))) (dLoc 1)) (sCons (sSetItem (dLoc 1) (dSub (dLoc 4) (dVal (.int 1))) (dVal (.bool true)))
  (sCons (sExpr (dMethB "list" fAppend (dLoc 2) (dCons (dSub (dLoc 4) (dVal (.int 1))) dNil)))
  sNil)) sNil)
  sNil) (sCons (sIf (dCmp cmpSS (dSub (dLoc 4) (dVal (.int 0))) (dVal (.str (Str.ofString "s")))) (sCons (sExpr (dExtRev (dLoc 3) (dSub (dLoc 4) (dVal (.int 2)))))
  sNil) sNil)
  sNil))
  sNil)) 3000)
  (sCons (sRet (dLoc 2))
  sNil)))))
noncomputable def F_variables_of : Fn := fDef 1 4 d_variables_of
noncomputable def d_variables : DS :=
  (sCons (sRet (dCall (F_variables_of) (dCons (dLst (dCons (dLoc 0) dNil)) dNil)))
  sNil)
noncomputable def F_variables : Fn := fDef 1 0 d_variables
noncomputable def d_conjunction : DS :=
  (sCons (sIf (dCmp (cmpII (· == ·)) (dCall fLen (dCons (dLoc 0) dNil)) (dVal (.int 0))) (sCons (sRet (dTup (dCons (dVal (.str (Str.ofString "a"))) (dCons (dVal (.int 16)) dNil))))
  sNil) sNil)
  (sCons (sAssign 1 (dSub (dLoc 0) (dBin opSub (dCall fLen (dCons (dLoc 0) dNil)) (dVal (.int 1)))))
  (sCons (sFor 2 (dRange (dCons (dBin opSub (dCall fLen (dCons (dLoc 0) dNil)) (dVal (.int 2))) (dCons (dUn opNeg (dVal (.int 1))) (dCons (dUn opNeg (dVal (.int 1))) dNil)))) (sCons (sAssign 1 (dTup (dCons (dVal (.str (Str.ofString "s"))) (dCons (dVal (.int 1)) (dCons (dTup (dCons (dSub (dLoc 0) (dLoc 2)) (dCons (dLoc 1) dNil))) dNil)))))
  sNil) 3000)
  (sCons (sRet (dLoc 1))
  sNil))))
noncomputable def F_conjunction : Fn := fDef 1 2 d_conjunction
noncomputable def d_Fresh_init : DS :=
  (sCons (sSetAttr 290 (Str.ofString "next") (dLoc 0) (dLoc 1))
  sNil)
noncomputable def F_Fresh_init : Fn := fDef 2 0 d_Fresh_init
noncomputable def d_Fresh_number : DS :=
  (sCons (sAssign 1 (dAttr 290 (Str.ofString "next") (dLoc 0)))
  (sCons (sSetAttr 290 (Str.ofString "next") (dLoc 0) (dBin opAdd (dLoc 1) (dVal (.int 1))))
  (sCons (sRet (dLoc 1))
  sNil)))
noncomputable def F_Fresh_number : Fn := fDef 1 1 d_Fresh_number
noncomputable def d_right_spine : DS :=
  (sCons (sAssign 2 (dLst dNil))
  (sCons (sWhile (dAnd (dCmp cmpSS (dSub (dLoc 0) (dVal (.int 0))) (dVal (.str (Str.ofString "s")))) (dCmp cmpIn (dSub (dLoc 0) (dVal (.int 1))) (dLoc 1))) (sCons (sExpr (dMethB "list" fAppend (dLoc 2) (dCons (dSub (dSub (dLoc 0) (dVal (.int 2))) (dVal (.int 0))) dNil)))
  (sCons (sAssign 0 (dSub (dSub (dLoc 0) (dVal (.int 2))) (dVal (.int 1))))
  sNil)) 3000)
  (sCons (sExpr (dMethB "list" fAppend (dLoc 2) (dCons (dLoc 0) dNil)))
  (sCons (sRet (dLoc 2))
  sNil))))
noncomputable def F_right_spine : Fn := fDef 2 1 d_right_spine
noncomputable def d_GrammarVariables_init : DS :=
  (sCons (sSetAttr 325 (Str.ofString "fresh") (dLoc 0) (dLoc 1))
  (sCons (sSetAttr 325 (Str.ofString "used") (dLoc 0) (dLoc 2))
  sNil))
noncomputable def F_GrammarVariables_init : Fn := fDef 3 0 d_GrammarVariables_init
noncomputable def d_GrammarVariables_variable : DS :=
  (sCons (sAssign 1 (dMeth 290 (Str.ofString "number") (F_Fresh_number) (dAttr 325 (Str.ofString "fresh") (dLoc 0)) dNil))
  (sCons (sWhile (dCmp cmpIn (dLoc 1) (dAttr 325 (Str.ofString "used") (dLoc 0))) (sCons (sAssign 1 (dMeth 290 (Str.ofString "number") (F_Fresh_number) (dAttr 325 (Str.ofString "fresh") (dLoc 0)) dNil))
  sNil) 3000)
  (sCons (sRet (dCall (F_var) (dCons (dLoc 1) dNil)))
  sNil)))
noncomputable def F_GrammarVariables_variable : Fn := fDef 1 1 d_GrammarVariables_variable
noncomputable def d_nonterminal : DS :=
  (sCons (sAssign 4 (dCall (F_functor_in) (dCons (dLoc 0) (dCons (dLoc 1) dNil))))
  (sCons (sAssign 5 (dBin opAdd (dCall (F_arguments) (dCons (dLoc 1) dNil)) (dTup (dCons (dLoc 2) (dCons (dLoc 3) dNil)))))
  (sCons (sRet (dCall (F_struct) (dCons (dMeth 154 (Str.ofString "functor") (F_Symbols_functor) (dLoc 0) (dCons (dMeth 154 (Str.ofString "name") (F_Symbols_name) (dLoc 0) (dCons (dLoc 4) dNil)) (dCons (dCall fLen (dCons (dLoc 5) dNil)) dNil))) (dCons (dLoc 5) dNil))))
  sNil)))
noncomputable def F_nonterminal : Fn := fDef 4 2 d_nonterminal
noncomputable def d_terminals : DS :=
  (sCons (sUnpack [4, 5] (dCall (F_list_items) (dCons (dLoc 1) dNil)))
  (sCons (sIf (dCmp cmpSS (dSub (dLoc 5) (dVal (.int 0))) (dVal (.str (Str.ofString "v")))) (sCons sFail
  sNil) sNil)
  (sCons (sIf (dCmp (cmpD true) (dLoc 5) (dCall (F_atom) (dCons (dVal (.int 0)) dNil))) (sCons sFail
  sNil) sNil)
  (sCons (sRet (dCall (F_struct) (dCons (dVal (.int 10)) (dCons (dTup (dCons (dLoc 2) (dCons (dCall (F_list_term) (dCons (dLoc 4) (dCons (dLoc 3) dNil))) dNil))) dNil))))
  sNil))))
noncomputable def F_terminals : Fn := fDef 4 2 d_terminals
noncomputable def d_plain_goal : DS :=
  (sCons (sAssign 4 (dCall (F_struct) (dCons (dVal (.int 10)) (dCons (dTup (dCons (dLoc 2) (dCons (dLoc 3) dNil))) dNil))))
  (sCons (sIf (dCmp cmpSS (dSub (dLoc 1) (dVal (.int 0))) (dVal (.str (Str.ofString "v")))) (sCons (sRet (dCall (F_struct) (dCons (dMeth 154 (Str.ofString "func") (F_Symbols_func) (dLoc 0) (dCons (dVal (.str (Str.ofString "phrase"))) (dCons (dVal (.int 3)) dNil))) (dCons (dTup (dCons (dLoc 1) (dCons (dLoc 2) (dCons (dLoc 3) dNil)))) dNil))))
  sNil) sNil)
  (sCons (sIf (dCmp cmpSS (dSub (dLoc 1) (dVal (.int 0))) (dVal (.str (Str.ofString "i")))) (sCons sFail
  sNil) sNil)
  (sCons (sIf (dCmp cmpSS (dSub (dLoc 1) (dVal (.int 0))) (dVal (.str (Str.ofString "a")))) (sCons (sIf (dCmp (cmpII (· == ·)) (dSub (dLoc 1) (dVal (.int 1))) (dVal (.int 0))) (sCons (sRet (dLoc 4))
  sNil) sNil)
  (sCons (sIf (dCmp (cmpII (· == ·)) (dSub (dLoc 1) (dVal (.int 1))) (dVal (.int 15))) (sCons (sRet (dCall (F_conjunction) (dCons (dLst (dCons (dLoc 1) (dCons (dLoc 4) dNil))) dNil)))
  sNil) sNil)
  (sCons (sRet (dCall (F_nonterminal) (dCons (dLoc 0) (dCons (dLoc 1) (dCons (dLoc 2) (dCons (dLoc 3) dNil))))))
  sNil))) sNil)
  (sCons (sAssign 5 (dSub (dLoc 1) (dVal (.int 1))))
  (sCons (sIf (dCmp (cmpII (· == ·)) (dLoc 5) (dVal (.int 0))) (sCons (sRet (dCall (F_terminals) (dCons (dLoc 0) (dCons (dLoc 1) (dCons (dLoc 2) (dCons (dLoc 3) dNil))))))
  sNil) sNil)
  (sCons (sIf (dCmp (cmpII (· == ·)) (dLoc 5) (dVal (.int 9))) (sCons (sRet (dCall (F_conjunction) (dCons (dLst (dCons (dSub (dSub (dLoc 1) (dVal (.int 2))) (dVal (.int 0))) (dCons (dLoc 4) dNil))) dNil)))
  sNil) sNil)
  (sCons (sRet (dCall (F_nonterminal) (dCons (dLoc 0) (dCons (dLoc 1) (dCons (dLoc 2) (dCons (dLoc 3) dNil))))))
  sNil))))))))
noncomputable def F_plain_goal : Fn := fDef 4 2 d_plain_goal
noncomputable def d_GrammarTree_init : DS :=
  (sCons (sSetAttr 379 (Str.ofString "nodes") (dLoc 0) (dLst (dCons (dTup (dCons (dVal (.str (Str.ofString "goal"))) (dCons (dLoc 1) dNil))) dNil)))
  (sCons (sSetAttr 379 (Str.ofString "waiting") (dLoc 0) (dLst (dCons (dTup (dCons (dVal (.int 0)) (dCons (dLoc 1) (dCons (dLoc 2) (dCons (dLoc 3) dNil))))) dNil)))
  sNil))
noncomputable def F_GrammarTree_init : Fn := fDef 4 0 d_GrammarTree_init
noncomputable def d_GrammarTree_hold : DS :=
  (sCons (sAssign 3 (dLst dNil))
  (sCons (sFor 4 (dIter (dLoc 2)) (sCons (sExpr (dMethB "list" fAppend (dLoc 3) (dCons (dCall fLen (dCons (dAttr 379 (Str.ofString "nodes") (dLoc 0)) dNil)) dNil)))
  (sCons (sExpr (dMethB "list" fAppend (dAttr 379 (Str.ofString "nodes") (dLoc 0)) (dCons (dTup (dCons (dVal (.str (Str.ofString "goal"))) (dCons (dSub (dLoc 4) (dVal (.int 0))) dNil))) dNil)))
  sNil)) 3000)
  (sCons (sFor 5 (dRange (dCons (dBin opSub (dCall fLen (dCons (dLoc 2) dNil)) (dVal (.int 1))) (dCons (dUn opNeg (dVal (.int 1))) (dCons (dUn opNeg (dVal (.int 1))) dNil)))) (sCons (sExpr (dMethB "list" fAppend (dAttr 379 (Str.ofString "waiting") (dLoc 0)) (dCons (dBin opAdd (dTup (dCons (dSub (dLoc 3) (dLoc 5)) dNil)) (dSub (dLoc 2) (dLoc 5))) dNil)))
  sNil) 3000)
  (sCons (sRet (dTup (dCons (dLoc 1) (dCons (dLoc 3) dNil))))
  sNil))))
noncomputable def F_GrammarTree_hold : Fn := fDef 3 3 d_GrammarTree_hold
noncomputable def d_GrammarTree_goal : DS :=
  (sCons (sAssign 1 (dRepN (dCall fLen (dCons (dAttr 379 (Str.ofString "nodes") (dLoc 0)) dNil))))
  (sCons (sFor 2 (dRange (dCons (dBin opSub (dCall fLen (dCons (dAttr 379 (Str.ofString "nodes") (dLoc 0)) dNil)) (dVal (.int 1))) (dCons (dUn opNeg (dVal (.int 1))) (dCons (dUn opNeg (dVal (.int 1))) dNil)))) (sCons (sUnpack [3, 4] (dSub (dAttr 379 (Str.ofString "nodes") (dLoc 0)) (dLoc 2)))
  (sCons (sIf (dCmp cmpSS (dLoc 3) (dVal (.str (Str.ofString "goal")))) (sCons (sSetItem (dLoc 1) (dLoc 2) (dLoc 4))
  (sCons sCnt
  sNil)) sNil)
  (sCons (sAssign 5 (dComp (dIter (dLoc 4)) dTrue (dSub (dLoc 1) (dLoc 0)) [1] 3000))
  (sCons (sIf (dCmp cmpSS (dLoc 3) (dVal (.str (Str.ofString "and")))) (sCons (sSetItem (dLoc 1) (dLoc 2) (dCall (F_conjunction) (dCons (dLoc 5) dNil)))
  sNil) (sCons (sIf (dCmp cmpSS (dLoc 3) (dVal (.str (Str.ofString "then")))) (sCons (sSetItem (dLoc 1) (dLoc 2) (dCall (F_struct) (dCons (dVal (.int 3)) (dCons (dTup (dCons (dSub (dLoc 5) (dVal (.int 0))) (dCons (dSub (dLoc 5) (dVal (.int 1))) dNil))) dNil))))
  sNil) (sCons (sIf (dCmp cmpSS (dLoc 3) (dVal (.str (Str.ofString "not")))) (sCons (sSetItem (dLoc 1) (dLoc 2) (dCall (F_struct) (dCons (dVal (.int 4)) (dCons (dTup (dCons (dSub (dLoc 5) (dVal (.int 0))) dNil)) dNil))))
  sNil) (sCons (sAssign 6 (dMethB "list" fPop (dLoc 5) dNil))
  (sCons (sWhile (dTruth (dLoc 5)) (sCons (sAssign 6 (dCall (F_struct) (dCons (dVal (.int 2)) (dCons (dTup (dCons (dMethB "list" fPop (dLoc 5) dNil) (dCons (dLoc 6) dNil))) dNil))))
  sNil) 3000)
  (sCons (sSetItem (dLoc 1) (dLoc 2) (dLoc 6))
  sNil))))
  sNil))
  sNil))
  sNil)))) 3000)
  (sCons (sRet (dSub (dLoc 1) (dVal (.int 0))))
  sNil)))
noncomputable def F_GrammarTree_goal : Fn := fDef 1 6 d_GrammarTree_goal
noncomputable def d_grammar_part : DS :=
  (sCons (sIf (dCmp cmpSS (dSub (dLoc 1) (dVal (.int 0))) (dVal (.str (Str.ofString "s")))) (sCons (sAssign 6 (dMeth 154 (Str.ofString "functor") (F_Symbols_functor) (dLoc 0) (dCons (dVal (.int 8)) (dCons (dVal (.int 2)) dNil))))
  (sCons (sAssign 7 (dSub (dLoc 1) (dVal (.int 1))))
  (sCons (sIf (dCmp (cmpII (· == ·)) (dLoc 7) (dVal (.int 1))) (sCons (sAssign 8 (dLst dNil))
  (sCons (sAssign 9 (dLoc 2))
  (sCons (sAssign 10 (dCall (F_right_spine) (dCons (dLoc 1) (dCons (dTup (dCons (dVal (.int 1)) dNil)) dNil))))
  (sCons (sFor 11 (dRange (dCons (dCall fLen (dCons (dLoc 10) dNil)) dNil)) (sCons (sAssign 12 (dLoc 3))
  (sCons (sIf (dCmp (cmpII fun a b => decide (a < b)) (dBin opAdd (dLoc 11) (dVal (.int 1))) (dCall fLen (dCons (dLoc 10) dNil))) (sCons (sAssign 12 (dMeth 325 (Str.ofString "variable") (F_GrammarVariables_variable) (dLoc 4) dNil))
  sNil) sNil)
  (sCons (sExpr (dMethB "list" fAppend (dLoc 8) (dCons (dTup (dCons (dSub (dLoc 10) (dLoc 11)) (dCons (dLoc 9) (dCons (dLoc 12) dNil)))) dNil)))
  (sCons (sAssign 9 (dLoc 12))
  sNil)))) 3000)
  (sCons (sRet (dMeth 379 (Str.ofString "hold") (F_GrammarTree_hold) (dLoc 5) (dCons (dVal (.str (Str.ofString "and"))) (dCons (dLoc 8) dNil))))
  sNil))))) sNil)
  (sCons (sIf (dOr (dCmp (cmpII (· == ·)) (dLoc 7) (dVal (.int 2))) (dCmp (cmpII (· == ·)) (dLoc 7) (dLoc 6))) (sCons (sRet (dMeth 379 (Str.ofString "hold") (F_GrammarTree_hold) (dLoc 5) (dCons (dVal (.str (Str.ofString "or"))) (dCons (dComp (dIter (dCall (F_right_spine) (dCons (dLoc 1) (dCons (dTup (dCons (dVal (.int 2)) (dCons (dLoc 6) dNil))) dNil)))) dTrue (dTup (dCons (dLoc 0) (dCons (dLoc 1) (dCons (dLoc 2) dNil)))) [2, 3] 3000) dNil))))
  sNil) sNil)
  (sCons (sIf (dCmp (cmpII (· == ·)) (dLoc 7) (dVal (.int 3))) (sCons (sAssign 13 (dMeth 325 (Str.ofString "variable") (F_GrammarVariables_variable) (dLoc 4) dNil))
  (sCons (sRet (dMeth 379 (Str.ofString "hold") (F_GrammarTree_hold) (dLoc 5) (dCons (dVal (.str (Str.ofString "then"))) (dCons (dLst (dCons (dTup (dCons (dSub (dSub (dLoc 1) (dVal (.int 2))) (dVal (.int 0))) (dCons (dLoc 2) (dCons (dLoc 13) dNil)))) (dCons (dTup (dCons (dSub (dSub (dLoc 1) (dVal (.int 2))) (dVal (.int 1))) (dCons (dLoc 13) (dCons (dLoc 3) dNil)))) dNil))) dNil))))
  sNil)) sNil)
  (sCons (sIf (dCmp (cmpII (· == ·)) (dLoc 7) (dVal (.int 4))) (sCons (sAssign 14 (dMeth 325 (Str.ofString "variable") (F_GrammarVariables_variable) (dLoc 4) dNil))
  (sCons (sAssign 15 (dCall fLen (dCons (dAttr 379 (Str.ofString "nodes") (dLoc 5)) dNil)))
  (sCons (sExpr (dMethB "list" fAppend (dAttr 379 (Str.ofString "nodes") (dLoc 5)) (dCons (dTup (dCons (dVal (.str (Str.ofString "goal"))) (dCons (dLoc 1) dNil))) dNil)))
  (sCons (sExpr (dMethB "list" fAppend (dAttr 379 (Str.ofString "nodes") (dLoc 5)) (dCons (dTup (dCons (dVal (.str (Str.ofString "goal"))) (dCons (dCall (F_struct) (dCons (dVal (.int 10)) (dCons (dTup (dCons (dLoc 2) (dCons (dLoc 3) dNil))) dNil))) dNil))) dNil)))
  (sCons (sSetItem (dAttr 379 (Str.ofString "nodes") (dLoc 5)) (dLoc 15) (dMeth 379 (Str.ofString "hold") (F_GrammarTree_hold) (dLoc 5) (dCons (dVal (.str (Str.ofString "not"))) (dCons (dLst (dCons (dTup (dCons (dSub (dSub (dLoc 1) (dVal (.int 2))) (dVal (.int 0))) (dCons (dLoc 2) (dCons (dLoc 14) dNil)))) dNil)) dNil))))
  (sCons (sRet (dTup (dCons (dVal (.str (Str.ofString "and"))) (dCons (dLst (dCons (dLoc 15) (dCons (dBin opAdd (dLoc 15) (dVal (.int 1))) dNil))) dNil))))
  sNil)))))) sNil)
  sNil)))))) sNil)
  (sCons (sRet (dTup (dCons (dVal (.str (Str.ofString "goal"))) (dCons (dCall (F_plain_goal) (dCons (dLoc 0) (dCons (dLoc 1) (dCons (dLoc 2) (dCons (dLoc 3) dNil))))) dNil))))
  sNil))
noncomputable def F_grammar_part : Fn := fDef 6 10 d_grammar_part
noncomputable def d_grammar_body : DS :=
  (sCons (sAssign 5 (dCall (fNew 379 F_GrammarTree_init) (dCons (dLoc 1) (dCons (dLoc 2) (dCons (dLoc 3) dNil)))))
  (sCons (sWhile (dTruth (dAttr 379 (Str.ofString "waiting") (dLoc 5))) (sCons (sUnpack [6, 7, 8, 9] (dMethB "list" fPop (dAttr 379 (Str.ofString "waiting") (dLoc 5)) dNil))
  (sCons (sSetItem (dAttr 379 (Str.ofString "nodes") (dLoc 5)) (dLoc 6) (dCall (F_grammar_part) (dCons (dLoc 0) (dCons (dLoc 7) (dCons (dLoc 8) (dCons (dLoc 9) (dCons (dLoc 4) (dCons (dLoc 5) dNil))))))))
  sNil)) 3000)
  (sCons (sRet (dMeth 379 (Str.ofString "goal") (F_GrammarTree_goal) (dLoc 5) dNil))
  sNil)))
noncomputable def F_grammar_body : Fn := fDef 5 5 d_grammar_body
noncomputable def d_translate_grammar : DS :=
  (sCons (sIf (dOr (dCmp (cmpD true) (dSub (dLoc 1) (dVal (.int 0))) (dVal (.str (Str.ofString "s")))) (dCmp (cmpD true) (dSub (dLoc 1) (dVal (.int 1))) (dVal (.int 8)))) (sCons (sRet (dLoc 1))
  sNil) sNil)
  (sCons (sAssign 3 (dCall (fNew 325 F_GrammarVariables_init) (dCons (dLoc 2) (dCons (dCall (F_variables) (dCons (dLoc 1) dNil)) dNil))))
  (sCons (sUnpack [4, 5] (dSub (dLoc 1) (dVal (.int 2))))
  (sCons (sAssign 6 (dVal .none))
  (sCons (sIf (dAnd (dCmp cmpSS (dSub (dLoc 4) (dVal (.int 0))) (dVal (.str (Str.ofString "s")))) (dCmp (cmpII (· == ·)) (dSub (dLoc 4) (dVal (.int 1))) (dVal (.int 1)))) (sCons (sUnpack [4, 6] (dSub (dLoc 4) (dVal (.int 2))))
  sNil) sNil)
  (sCons (sIf (dCmp cmpSS (dSub (dLoc 4) (dVal (.int 0))) (dVal (.str (Str.ofString "v")))) (sCons sFail
  sNil) sNil)
  (sCons (sIf (dNot (dTruth (dCall (F_is_callable) (dCons (dLoc 4) dNil)))) (sCons sFail
  sNil) sNil)
  (sCons (sAssign 7 (dMeth 325 (Str.ofString "variable") (F_GrammarVariables_variable) (dLoc 3) dNil))
  (sCons (sAssign 8 (dMeth 325 (Str.ofString "variable") (F_GrammarVariables_variable) (dLoc 3) dNil))
  (sCons (sAssign 9 (dCall (F_nonterminal) (dCons (dLoc 0) (dCons (dLoc 4) (dCons (dLoc 7) (dCons (dLoc 8) dNil))))))
  (sCons (sIf (dCmp cmpIsNone (dLoc 6) (dVal .none)) (sCons (sRet (dCall (F_struct) (dCons (dVal (.int 5)) (dCons (dTup (dCons (dLoc 9) (dCons (dCall (F_grammar_body) (dCons (dLoc 0) (dCons (dLoc 5) (dCons (dLoc 7) (dCons (dLoc 8) (dCons (dLoc 3) dNil)))))) dNil))) dNil))))
  sNil) sNil)
  (sCons (sAssign 10 (dMeth 325 (Str.ofString "variable") (F_GrammarVariables_variable) (dLoc 3) dNil))
  (sCons (sAssign 11 (dCall (F_grammar_body) (dCons (dLoc 0) (dCons (dLoc 5) (dCons (dLoc 7) (dCons (dLoc 10) (dCons (dLoc 3) dNil)))))))
  (sCons (sAssign 12 (dCall (F_terminals) (dCons (dLoc 0) (dCons (dLoc 6) (dCons (dLoc 8) (dCons (dLoc 10) dNil))))))
  (sCons (sRet (dCall (F_struct) (dCons (dVal (.int 5)) (dCons (dTup (dCons (dLoc 9) (dCons (dCall (F_conjunction) (dCons (dLst (dCons (dLoc 11) (dCons (dLoc 12) dNil))) dNil)) dNil))) dNil))))
  sNil)))))))))))))))
noncomputable def F_translate_grammar : Fn := fDef 3 10 d_translate_grammar
noncomputable def d_law_coins : DS :=
  (sCons (sAssign 1 (dLst dNil))
  (sCons (sFor 2 (dIter (dSliceL 60 (dLoc 0))) (sCons (sAssign 3 (dCall fAbs (dCons (dLoc 2) dNil)))
  (sCons (sFor 4 (dRange (dCons (dVal (.int 20)) dNil)) (sCons (sExpr (dMethB "list" fAppend (dLoc 1) (dCons (dBin opMod (dLoc 3) (dVal (.int 1000))) dNil)))
  (sCons (sAssign 3 (dBin opDiv (dLoc 3) (dVal (.int 1000))))
  (sCons (sIf (dCmp (cmpII (· == ·)) (dLoc 3) (dVal (.int 0))) (sCons sBrk
  sNil) sNil)
  sNil))) 3000)
  (sCons (sIf (dCmp (cmpII fun a b => decide (b < a)) (dCall fLen (dCons (dLoc 1) dNil)) (dVal (.int 90))) (sCons sBrk
  sNil) sNil)
  sNil))) 3000)
  (sCons (sExpr (dMethB "list" fReverse (dLoc 1) dNil))
  (sCons (sRet (dLoc 1))
  sNil))))
noncomputable def F_law_coins : Fn := fDef 1 4 d_law_coins
noncomputable def d_law_coin : DS :=
  (sCons (sRet (dIf (dCmp (cmpD true) (dLoc 0) (dLst dNil)) (dBin opMod (dMethB "list" fPop (dLoc 0) dNil) (dLoc 1)) (dVal (.int 0))))
  sNil)
noncomputable def F_law_coin : Fn := fDef 2 0 d_law_coin
noncomputable def d_law_shown (Fr : Fn) : DS :=
  (sCons (sIf (dCmp cmpSS (dSub (dLoc 0) (dVal (.int 0))) (dVal (.str (Str.ofString "v")))) (sCons (sExpr (dMethB "list" fAppend (dLoc 2) (dCons (dMethB "dict" fSetdefault (dLoc 1) (dCons (dSub (dLoc 0) (dVal (.int 1))) (dCons (dCall fLen (dCons (dLoc 2) dNil)) dNil))) dNil)))
  (sCons sRet0
  sNil)) sNil)
  (sCons (sExpr (dMethB "list" fAppend (dLoc 2) (dCons (dUn (sliceT 2) (dLoc 0)) dNil)))
  (sCons (sFor 3 (dIter (dIf (dCmp cmpSS (dSub (dLoc 0) (dVal (.int 0))) (dVal (.str (Str.ofString "s")))) (dSub (dLoc 0) (dVal (.int 2))) (dTup dNil))) (sCons (sExpr (dCall (Fr) (dCons (dLoc 3) (dCons (dLoc 1) (dCons (dLoc 2) dNil)))))
  sNil) 3000)
  sNil)))
noncomputable def F_law_shown : Nat → Fn
  | 0 => fun _ _ => none
  | n + 1 => fDef 3 1 (d_law_shown (F_law_shown n))
noncomputable def d_law_other (Fr : Fn) : DS :=
  (sCons (sIf (dCmp cmpSS (dSub (dLoc 0) (dVal (.int 0))) (dVal (.str (Str.ofString "s")))) (sCons (sRet (dTup (dCons (dVal (.str (Str.ofString "s"))) (dCons (dSub (dLoc 0) (dVal (.int 1))) (dCons (dCall fTuple (dCons (dComp (dIter (dSub (dLoc 0) (dVal (.int 2)))) dTrue (dCall (Fr) (dCons (dLoc 0) (dCons (dLoc 1) (dCons (dLoc 2) dNil)))) [1, 2] 3000) dNil)) dNil)))))
  sNil) sNil)
  (sCons (sRet (dIf (dCmp cmpSS (dSub (dLoc 0) (dVal (.int 0))) (dVal (.str (Str.ofString "v")))) (dTup (dCons (dVal (.str (Str.ofString "v"))) (dCons (dBin opAdd (dBin opMul (dSub (dLoc 0) (dVal (.int 1))) (dLoc 1)) (dLoc 2)) dNil))) (dLoc 0)))
  sNil))
noncomputable def F_law_other : Nat → Fn
  | 0 => fun _ _ => none
  | n + 1 => fDef 3 0 (d_law_other (F_law_other n))
noncomputable def d_law_texts : DS :=
  (sCons (sAssign 1 (dTup (dCons (dVal (.str (Str.ofString "a"))) (dCons (dVal (.int 0)) dNil))))
  (sCons (sFor 2 (dRange (dCons (dBin opAdd (dVal (.int 1)) (dCall (F_law_coin) (dCons (dLoc 0) (dCons (dVal (.int 2)) dNil)))) dNil)) (sCons (sAssign 1 (dTup (dCons (dVal (.str (Str.ofString "s"))) (dCons (dVal (.int 0)) (dCons (dTup (dCons (dSub (dLst (dCons (dTup (dCons (dVal (.str (Str.ofString "i"))) (dCons (dVal (.int 1)) dNil))) (dCons (dTup (dCons (dVal (.str (Str.ofString "v"))) (dCons (dVal (.int 3)) dNil))) dNil))) (dCall (F_law_coin) (dCons (dLoc 0) (dCons (dVal (.int 2)) dNil)))) (dCons (dLoc 1) dNil))) dNil)))))
  sNil) 3000)
  (sCons (sRet (dLoc 1))
  sNil)))
noncomputable def F_law_texts : Fn := fDef 1 2 d_law_texts
noncomputable def d_law_rule_part (Fr : Fn) : DS :=
  (sCons (sAssign 3 (dCall (F_law_coin) (dCons (dLoc 0) (dCons (dIf (dCmp (cmpII fun a b => decide (b < a)) (dLoc 2) (dVal (.int 0))) (dVal (.int 11)) (dVal (.int 6))) dNil))))
  (sCons (sIf (dCmp (cmpII (· == ·)) (dLoc 3) (dVal (.int 0))) (sCons (sRet (dCall (F_law_texts) (dCons (dLoc 0) dNil)))
  sNil) sNil)
  (sCons (sIf (dOr (dCmp (cmpII (· == ·)) (dLoc 3) (dVal (.int 1))) (dCmp (cmpII (· == ·)) (dLoc 3) (dVal (.int 2)))) (sCons (sRet (dTup (dCons (dVal (.str (Str.ofString "s"))) (dCons (dMeth 154 (Str.ofString "func") (F_Symbols_func) (dLoc 1) (dCons (dVal (.str (Str.ofString "p"))) (dCons (dLoc 3) dNil))) (dCons (dCall fTuple (dCons (dComp (dRange (dCons (dLoc 3) dNil)) dTrue (dTup (dCons (dVal (.str (Str.ofString "v"))) (dCons (dCall (F_law_coin) (dCons (dLoc 1) (dCons (dVal (.int 4)) dNil))) dNil))) [0] 3000) dNil)) dNil)))))
  sNil) sNil)
  (sCons (sIf (dCmp (cmpII fun a b => decide (a < b)) (dLoc 3) (dVal (.int 6))) (sCons (sRet (dSub (dLst (dCons (dTup (dCons (dVal (.str (Str.ofString "v"))) (dCons (dCall (F_law_coin) (dCons (dLoc 0) (dCons (dVal (.int 4)) dNil))) dNil))) (dCons (dTup (dCons (dVal (.str (Str.ofString "a"))) (dCons (dVal (.int 15)) dNil))) (dCons (dTup (dCons (dVal (.str (Str.ofString "s"))) (dCons (dVal (.int 9)) (dCons (dTup (dCons (dTup (dCons (dVal (.str (Str.ofString "v"))) (dCons (dVal (.int 2)) dNil))) dNil)) dNil)))) dNil)))) (dBin opSub (dLoc 3) (dVal (.int 3)))))
  sNil) sNil)
  (sCons (sAssign 4 (dCall (Fr) (dCons (dLoc 0) (dCons (dLoc 1) (dCons (dBin opSub (dLoc 2) (dVal (.int 1))) dNil)))))
  (sCons (sIf (dCmp (cmpII (· == ·)) (dLoc 3) (dVal (.int 6))) (sCons (sRet (dTup (dCons (dVal (.str (Str.ofString "s"))) (dCons (dVal (.int 4)) (dCons (dTup (dCons (dLoc 4) dNil)) dNil)))))
  sNil) sNil)
  (sCons (sAssign 5 (dSub (dLst (dCons (dVal (.int 1)) (dCons (dVal (.int 1)) (dCons (dVal (.int 2)) (dCons (dVal (.int 3)) dNil))))) (dBin opSub (dLoc 3) (dVal (.int 7)))))
  (sCons (sRet (dTup (dCons (dVal (.str (Str.ofString "s"))) (dCons (dLoc 5) (dCons (dTup (dCons (dLoc 4) (dCons (dCall (Fr) (dCons (dLoc 0) (dCons (dLoc 1) (dCons (dBin opSub (dLoc 2) (dVal (.int 1))) dNil)))) dNil))) dNil)))))
  sNil))))))))
noncomputable def F_law_rule_part : Nat → Fn
  | 0 => fun _ _ => none
  | n + 1 => fDef 3 3 (d_law_rule_part (F_law_rule_part n))
noncomputable def d_law_clause_line : DS :=
  (sCons (sAssign 4 (dEmpty .I))
  (sCons (sFor 5 (dIter (dLoc 1)) (sCons (sSetItem (dLoc 4) (dBin opAdd (dBin opMul (dLoc 5) (dLoc 2)) (dLoc 3)) (dTup (dCons (dVal (.str (Str.ofString "own"))) (dCons (dLoc 5) dNil))))
  sNil) 3000)
  (sCons (sAssign 6 (dLst dNil))
  (sCons (sExpr (dCall (F_law_shown 130) (dCons (dLoc 0) (dCons (dLoc 4) (dCons (dLoc 6) dNil)))))
  (sCons (sAssign 7 (dCompK (dLoc 4) (tIsInt 1 0) [4]))
  (sCons (sRet (dTup (dCons (dLoc 6) (dCons (dLoc 7) dNil))))
  sNil))))))
noncomputable def F_law_clause_line : Fn := fDef 4 4 d_law_clause_line
noncomputable def d_law : DS :=
  (sCons (sAssign 1 (dCall (F_law_coins) (dCons (dLoc 0) dNil)))
  (sCons (sAssign 2 (dCall (fNew 154 F_Symbols_init) dNil))
  (sCons (sAssign 3 (dCall (F_law_coin) (dCons (dLoc 1) (dCons (dVal (.int 6)) dNil))))
  (sCons (sAssign 4 (dCall (F_law_coin) (dCons (dLoc 1) (dCons (dVal (.int 3)) dNil))))
  (sCons (sAssign 5 (dCall fTuple (dCons (dComp (dRange (dCons (dLoc 4) dNil)) dTrue (dTup (dCons (dVal (.str (Str.ofString "v"))) (dCons (dCall (F_law_coin) (dCons (dLoc 1) (dCons (dVal (.int 4)) dNil))) dNil))) [1] 3000) dNil)))
  (sCons (sAssign 6 (dIf (dCmp (cmpII fun a b => decide (b < a)) (dLoc 4) (dVal (.int 0))) (dTup (dCons (dVal (.str (Str.ofString "s"))) (dCons (dMeth 154 (Str.ofString "func") (F_Symbols_func) (dLoc 2) (dCons (dVal (.str (Str.ofString "p"))) (dCons (dLoc 4) dNil))) (dCons (dLoc 5) dNil)))) (dTup (dCons (dVal (.str (Str.ofString "a"))) (dCons (dMeth 154 (Str.ofString "atom") (F_Symbols_atom) (dLoc 2) (dCons (dVal (.str (Str.ofString "p"))) dNil)) dNil)))))
  (sCons (sIf (dCmp (cmpII (· == ·)) (dCall (F_law_coin) (dCons (dLoc 1) (dCons (dVal (.int 3)) dNil))) (dVal (.int 2))) (sCons (sAssign 6 (dTup (dCons (dVal (.str (Str.ofString "s"))) (dCons (dVal (.int 1)) (dCons (dTup (dCons (dLoc 6) (dCons (dCall (F_law_texts) (dCons (dLoc 1) dNil)) dNil))) dNil)))))
  sNil) sNil)
  (sCons (sAssign 7 (dTup (dCons (dVal (.str (Str.ofString "s"))) (dCons (dVal (.int 8)) (dCons (dTup (dCons (dLoc 6) (dCons (dCall (F_law_rule_part 130) (dCons (dLoc 1) (dCons (dLoc 2) (dCons (dVal (.int 3)) dNil)))) dNil))) dNil)))))
  (sCons (sAssign 8 (dCall (F_law_coin) (dCons (dLoc 1) (dCons (dVal (.int 6)) dNil))))
  (sCons (sAssign 9 (dBin opAdd (dVal (.int 1)) (dCall (F_law_coin) (dCons (dLoc 1) (dCons (dVal (.int 5)) dNil)))))
  (sCons (sAssign 10 (dCall (F_law_coin) (dCons (dLoc 1) (dCons (dVal (.int 20)) dNil))))
  (sCons (sAssign 11 (dCall (F_law_other 130) (dCons (dLoc 7) (dCons (dLoc 9) (dCons (dLoc 10) dNil)))))
  (sCons (sAssign 12 (dEmpty .I))
  (sCons (sExpr (dCall (F_law_shown 130) (dCons (dLoc 7) (dCons (dLoc 12) (dCons (dLst dNil) dNil)))))
  (sCons (sAssign 13 (dCall fSorted (dCons (dLoc 12) dNil)))
  (sCons (sAssign 14 (dCall (fNew 290 F_Fresh_init) (dCons (dLoc 3) dNil)))
  (sCons (sAssign 15 (dCall (F_law_clause_line) (dCons (dCall (F_translate_grammar) (dCons (dLoc 2) (dCons (dLoc 7) (dCons (dLoc 14) dNil)))) (dCons (dLoc 13) (dCons (dVal (.int 1)) (dCons (dVal (.int 0)) dNil))))))
  (sCons (sAssign 16 (dCall (F_law_clause_line) (dCons (dCall (F_translate_grammar) (dCons (dLoc 2) (dCons (dLoc 11) (dCons (dCall (fNew 290 F_Fresh_init) (dCons (dLoc 8) dNil)) dNil)))) (dCons (dLoc 13) (dCons (dLoc 9) (dCons (dLoc 10) dNil))))))
  (sCons (sAssign 17 (dCall (F_law_clause_line) (dCons (dCall (F_translate_grammar) (dCons (dLoc 2) (dCons (dLoc 11) (dCons (dLoc 14) dNil)))) (dCons (dLoc 13) (dCons (dLoc 9) (dCons (dLoc 10) dNil))))))
  (sCons (sIf (dOr (dCmp (cmpD true) (dSub (dLoc 16) (dVal (.int 0))) (dSub (dLoc 15) (dVal (.int 0)))) (dCmp (cmpD true) (dSub (dLoc 17) (dVal (.int 0))) (dSub (dLoc 15) (dVal (.int 0))))) (sCons (sRet (dVal (.bool false)))
  sNil) sNil)
  (sCons (sRet (dB (dCmp (cmpD false) (dComp (dIter (dSub (dLoc 17) (dVal (.int 1)))) (dCmp cmpIn (dLoc 0) (dSub (dLoc 1) (dVal (.int 1)))) (dLoc 0) [15] 3000) (dLst dNil))))
  sNil)))))))))))))))))))))
noncomputable def F_law : Fn := fDef 1 17 d_law
end Mine.Internal
end
section
open PySem PySem.W PyProof.Rows
namespace Mine.Internal
theorem filled : (PySem.Challenge.rw_sa0150_01, hd.heap_39) = (PySem.Challenge.rw_sa0150_01, hd.heap_39) := by
  k_fill
  rfl
noncomputable def AllL : Nat → (List Value → Prop) → Prop
  | 0, P => P []
  | n + 1, P => ∀ a, AllL n fun l => P (a :: l)
theorem allL_of : ∀ {n : Nat} {P : List Value → Prop}, AllL n P → ∀ vals : List Value, vals.length = n → P vals
  | 0, P, h, [], _ => h
  | n + 1, P, h, a :: l, e => allL_of (P := fun l => P (a :: l)) (h a) l (Nat.succ.inj e)
theorem stor {sc : Scope} {x : Str} (h : (sc.names.lookup x == some .local || sc.names.lookup x == some .cell) = true) : Stor sc x := by
  unfold Stor
  rw [Bool.or_eq_true, beq_iff_eq, beq_iff_eq] at h
  exact h
noncomputable def okDef (sc : Scope) (xs ys : List Str) : Bool :=
  decide (xs ++ ys).Nodup && xs.all (fun x => sc.names.lookup x == some .local || sc.names.lookup x == some .cell) && decide ((cellsFrom 0 sc.names []).map (·.1)).Nodup && sc.kind == .function && !sc.isCoroutine && !sc.isGenerator
section
variable {c : Cx} {k : Nat} {sc : Scope}
theorem FS.mk2 {f : Addr} {name qual : Str} {params : Arguments} {body : List Stmt} {dV kV doc pm cdv ct oc : Value} {an od : Option Addr} {osl : Array (Option Value)} {d : DS} (xs ys : List Str)
    (ho : c.K.lookup f = some ⟨oc, od, .func (fnX name qual params body sc [] dV kV doc pm an cdv ct), osl⟩) (hcd : codeIn c.K cdv qual = true)
    (hb : ∀ s, c.K.In s.heap → AllL xs.length fun vals => BindsTo s (fnX name qual params body sc [] dV kV doc pm an cdv ct) ⟨vals, []⟩ (xs.zip vals))
    (hok : okDef sc xs ys = true) (h : SS c k sc (xs ++ ys) body d) : FS c (k + 1) f (fDef xs.length ys.length d) := by
  unfold okDef at hok
  simp only [Bool.and_eq_true, decide_eq_true_eq, List.all_eq_true, Bool.not_eq_true', beq_iff_eq] at hok
  obtain ⟨⟨⟨⟨⟨h1, h2⟩, h3⟩, h4⟩, h5⟩, h6⟩ := hok
  exact FS.def xs ys ho hcd (fun s vals X e => allL_of (hb s X) vals e) h1 (fun x hx => stor (h2 x hx)) h3 h4 h5 h6 h
end
section
variable {c : Cx} {P : Params}
theorem gv_NIL (hK : c.K = hd.heap_39 P) : GV c sNIL (.ref 159) := by
  intro T ρ h
  have e : ∃ o, c.K.lookup 159 = some o := ⟨_, by rw [hK]; k_is⟩
  have e2 : ∃ n t u, c.K.lookup 159 = some { cls := .type "tuple", data := .seq [Value.str (Str.ofString "a") t, Value.int 0 u].toArray n } := ⟨_, _, _, by rw [hK]; k_is⟩
  obtain ⟨n, t, u, e2⟩ := e2
  exact .tup (h _ _ (c.kin _ _ e2)) (.cons (.str _ _) (.cons (.int _ _) .nil))
theorem att_Symbols_atom_numbers (hK : c.K = hd.heap_39 P) : AttrOK c 154 (Str.ofString "atom_numbers") := ⟨(by rw [hK]; k_is), (by rw [hK]; k_is), _, (by rw [hK]; k_is), (by rw [hK]; k_is)⟩
theorem att_Symbols_texts (hK : c.K = hd.heap_39 P) : AttrOK c 154 (Str.ofString "texts") := ⟨(by rw [hK]; k_is), (by rw [hK]; k_is), _, (by rw [hK]; k_is), (by rw [hK]; k_is)⟩
theorem att_Symbols_functor_numbers (hK : c.K = hd.heap_39 P) : AttrOK c 154 (Str.ofString "functor_numbers") := ⟨(by rw [hK]; k_is), (by rw [hK]; k_is), _, (by rw [hK]; k_is), (by rw [hK]; k_is)⟩
theorem att_Symbols_functors (hK : c.K = hd.heap_39 P) : AttrOK c 154 (Str.ofString "functors") := ⟨(by rw [hK]; k_is), (by rw [hK]; k_is), _, (by rw [hK]; k_is), (by rw [hK]; k_is)⟩
theorem att_Fresh_next (hK : c.K = hd.heap_39 P) : AttrOK c 290 (Str.ofString "next") := ⟨(by rw [hK]; k_is), (by rw [hK]; k_is), _, (by rw [hK]; k_is), (by rw [hK]; k_is)⟩
theorem att_GrammarVariables_used (hK : c.K = hd.heap_39 P) : AttrOK c 325 (Str.ofString "used") := ⟨(by rw [hK]; k_is), (by rw [hK]; k_is), _, (by rw [hK]; k_is), (by rw [hK]; k_is)⟩
theorem att_GrammarVariables_fresh (hK : c.K = hd.heap_39 P) : AttrOK c 325 (Str.ofString "fresh") := ⟨(by rw [hK]; k_is), (by rw [hK]; k_is), _, (by rw [hK]; k_is), (by rw [hK]; k_is)⟩
theorem att_GrammarTree_waiting (hK : c.K = hd.heap_39 P) : AttrOK c 379 (Str.ofString "waiting") := ⟨(by rw [hK]; k_is), (by rw [hK]; k_is), _, (by rw [hK]; k_is), (by rw [hK]; k_is)⟩
theorem att_GrammarTree_nodes (hK : c.K = hd.heap_39 P) : AttrOK c 379 (Str.ofString "nodes") := ⟨(by rw [hK]; k_is), (by rw [hK]; k_is), _, (by rw [hK]; k_is), (by rw [hK]; k_is)⟩
theorem met_Symbols_atom (hK : c.K = hd.heap_39 P) : MethOK c 154 (Str.ofString "atom") 88 := ⟨(by rw [hK]; k_is), (by rw [hK]; k_is), (by rw [hK]; k_is), (by rw [hK]; k_is)⟩
theorem met_Symbols_functor (hK : c.K = hd.heap_39 P) : MethOK c 154 (Str.ofString "functor") 102 := ⟨(by rw [hK]; k_is), (by rw [hK]; k_is), (by rw [hK]; k_is), (by rw [hK]; k_is)⟩
theorem met_Symbols_func (hK : c.K = hd.heap_39 P) : MethOK c 154 (Str.ofString "func") 109 := ⟨(by rw [hK]; k_is), (by rw [hK]; k_is), (by rw [hK]; k_is), (by rw [hK]; k_is)⟩
theorem met_Fresh_number (hK : c.K = hd.heap_39 P) : MethOK c 290 (Str.ofString "number") 287 := ⟨(by rw [hK]; k_is), (by rw [hK]; k_is), (by rw [hK]; k_is), (by rw [hK]; k_is)⟩
theorem met_Symbols_name (hK : c.K = hd.heap_39 P) : MethOK c 154 (Str.ofString "name") 116 := ⟨(by rw [hK]; k_is), (by rw [hK]; k_is), (by rw [hK]; k_is), (by rw [hK]; k_is)⟩
theorem met_GrammarTree_hold (hK : c.K = hd.heap_39 P) : MethOK c 379 (Str.ofString "hold") 371 := ⟨(by rw [hK]; k_is), (by rw [hK]; k_is), (by rw [hK]; k_is), (by rw [hK]; k_is)⟩
theorem met_GrammarVariables_variable (hK : c.K = hd.heap_39 P) : MethOK c 325 (Str.ofString "variable") 322 := ⟨(by rw [hK]; k_is), (by rw [hK]; k_is), (by rw [hK]; k_is), (by rw [hK]; k_is)⟩
theorem met_GrammarTree_goal (hK : c.K = hd.heap_39 P) : MethOK c 379 (Str.ofString "goal") 376 := ⟨(by rw [hK]; k_is), (by rw [hK]; k_is), (by rw [hK]; k_is), (by rw [hK]; k_is)⟩
theorem mak_GrammarTree (hK : c.K = hd.heap_39 P) : MakeOK c 379 364 := ⟨(by rw [hK]; k_is), (by rw [hK]; k_is), (by rw [hK]; k_is)⟩
theorem mak_GrammarVariables (hK : c.K = hd.heap_39 P) : MakeOK c 325 315 := ⟨(by rw [hK]; k_is), (by rw [hK]; k_is), (by rw [hK]; k_is)⟩
theorem mak_Fresh (hK : c.K = hd.heap_39 P) : MakeOK c 290 280 := ⟨(by rw [hK]; k_is), (by rw [hK]; k_is), (by rw [hK]; k_is)⟩
theorem mak_Symbols (hK : c.K = hd.heap_39 P) : MakeOK c 154 81 := ⟨(by rw [hK]; k_is), (by rw [hK]; k_is), (by rw [hK]; k_is)⟩
theorem set_Symbols_functor_numbers (hK : c.K = hd.heap_39 P) : SetOK c 154 (Str.ofString "functor_numbers") := ⟨(by rw [hK]; k_is), (by rw [hK]; k_is), (by rw [hK]; k_is), (by rw [hK]; k_is)⟩
theorem set_Symbols_functors (hK : c.K = hd.heap_39 P) : SetOK c 154 (Str.ofString "functors") := ⟨(by rw [hK]; k_is), (by rw [hK]; k_is), (by rw [hK]; k_is), (by rw [hK]; k_is)⟩
theorem set_Symbols_atom_numbers (hK : c.K = hd.heap_39 P) : SetOK c 154 (Str.ofString "atom_numbers") := ⟨(by rw [hK]; k_is), (by rw [hK]; k_is), (by rw [hK]; k_is), (by rw [hK]; k_is)⟩
theorem set_Symbols_texts (hK : c.K = hd.heap_39 P) : SetOK c 154 (Str.ofString "texts") := ⟨(by rw [hK]; k_is), (by rw [hK]; k_is), (by rw [hK]; k_is), (by rw [hK]; k_is)⟩
theorem set_Fresh_next (hK : c.K = hd.heap_39 P) : SetOK c 290 (Str.ofString "next") := ⟨(by rw [hK]; k_is), (by rw [hK]; k_is), (by rw [hK]; k_is), (by rw [hK]; k_is)⟩
theorem set_GrammarVariables_used (hK : c.K = hd.heap_39 P) : SetOK c 325 (Str.ofString "used") := ⟨(by rw [hK]; k_is), (by rw [hK]; k_is), (by rw [hK]; k_is), (by rw [hK]; k_is)⟩
theorem set_GrammarVariables_fresh (hK : c.K = hd.heap_39 P) : SetOK c 325 (Str.ofString "fresh") := ⟨(by rw [hK]; k_is), (by rw [hK]; k_is), (by rw [hK]; k_is), (by rw [hK]; k_is)⟩
theorem set_GrammarTree_waiting (hK : c.K = hd.heap_39 P) : SetOK c 379 (Str.ofString "waiting") := ⟨(by rw [hK]; k_is), (by rw [hK]; k_is), (by rw [hK]; k_is), (by rw [hK]; k_is)⟩
theorem set_GrammarTree_nodes (hK : c.K = hd.heap_39 P) : SetOK c 379 (Str.ofString "nodes") := ⟨(by rw [hK]; k_is), (by rw [hK]; k_is), (by rw [hK]; k_is), (by rw [hK]; k_is)⟩
theorem fs_fixed_atoms (hK : c.K = hd.heap_39 P) : FS c (0 + 1) 60 F_fixed_atoms := by
  unfold F_fixed_atoms
  apply FS.mk2 (c := c) [] []
  case ho => rw [hK]; k_is
  case hcd => rw [hK]; k_is
  case hb => exact fun _ _ => BindsTo.of_eq (by rfl)
  case hok => decide
  case h =>
    unfold d_fixed_atoms
    exact (SS.cons (SX.ret (ES.tuple (EL.cons ES.str (EL.cons ES.str (EL.cons ES.str (EL.cons ES.str (EL.cons ES.str (EL.cons ES.str (EL.cons ES.str (EL.cons ES.str (EL.cons ES.str (EL.cons ES.str (EL.cons ES.str (EL.cons ES.str (EL.cons ES.str (EL.cons ES.str (EL.cons ES.str (EL.cons ES.str (EL.cons ES.str (EL.cons ES.str (EL.cons ES.str (EL.cons ES.str (EL.cons ES.str (EL.cons ES.str (EL.cons ES.str (EL.cons ES.str (EL.cons ES.str (EL.cons ES.str (EL.cons ES.str (EL.cons ES.str (EL.cons ES.str EL.nil (by intro _; rfl)) (by intro _; rfl)) (by intro _; rfl)) (by intro _; rfl)) (by intro _; rfl)) (by intro _; rfl)) (by intro _; rfl)) (by intro _; rfl)) (by intro _; rfl)) (by intro _; rfl)) (by intro _; rfl)) (by intro _; rfl)) (by intro _; rfl)) (by intro _; rfl)) (by intro _; rfl)) (by intro _; rfl)) (by intro _; rfl)) (by intro _; rfl)) (by intro _; rfl)) (by intro _; rfl)) (by intro _; rfl)) (by intro _; rfl)) (by intro _; rfl)) (by intro _; rfl)) (by intro _; rfl)) (by intro _; rfl)) (by intro _; rfl)) (by intro _; rfl)) (by intro _; rfl))))
  SS.nil)
theorem fs_fixed_functors (hK : c.K = hd.heap_39 P) : FS c (0 + 1) 67 F_fixed_functors := by
  unfold F_fixed_functors
  apply FS.mk2 (c := c) [] []
  case ho => rw [hK]; k_is
  case hcd => rw [hK]; k_is
  case hb => exact fun _ _ => BindsTo.of_eq (by rfl)
  case hok => decide
  case h =>
    unfold d_fixed_functors
    exact (SS.cons (SX.ret (ES.tuple (EL.cons (ES.tuple (EL.cons ES.str (EL.cons ES.int EL.nil (by intro _; rfl)) (by intro _; rfl))) (EL.cons (ES.tuple (EL.cons ES.str (EL.cons ES.int EL.nil (by intro _; rfl)) (by intro _; rfl))) (EL.cons (ES.tuple (EL.cons ES.str (EL.cons ES.int EL.nil (by intro _; rfl)) (by intro _; rfl))) (EL.cons (ES.tuple (EL.cons ES.str (EL.cons ES.int EL.nil (by intro _; rfl)) (by intro _; rfl))) (EL.cons (ES.tuple (EL.cons ES.str (EL.cons ES.int EL.nil (by intro _; rfl)) (by intro _; rfl))) (EL.cons (ES.tuple (EL.cons ES.str (EL.cons ES.int EL.nil (by intro _; rfl)) (by intro _; rfl))) (EL.cons (ES.tuple (EL.cons ES.str (EL.cons ES.int EL.nil (by intro _; rfl)) (by intro _; rfl))) (EL.cons (ES.tuple (EL.cons ES.str (EL.cons ES.int EL.nil (by intro _; rfl)) (by intro _; rfl))) (EL.cons (ES.tuple (EL.cons ES.str (EL.cons ES.int EL.nil (by intro _; rfl)) (by intro _; rfl))) (EL.cons (ES.tuple (EL.cons ES.str (EL.cons ES.int EL.nil (by intro _; rfl)) (by intro _; rfl))) (EL.cons (ES.tuple (EL.cons ES.str (EL.cons ES.int EL.nil (by intro _; rfl)) (by intro _; rfl))) (EL.cons (ES.tuple (EL.cons ES.str (EL.cons ES.int EL.nil (by intro _; rfl)) (by intro _; rfl))) (EL.cons (ES.tuple (EL.cons ES.str (EL.cons ES.int EL.nil (by intro _; rfl)) (by intro _; rfl))) (EL.cons (ES.tuple (EL.cons ES.str (EL.cons ES.int EL.nil (by intro _; rfl)) (by intro _; rfl))) (EL.cons (ES.tuple (EL.cons ES.str (EL.cons ES.int EL.nil (by intro _; rfl)) (by intro _; rfl))) (EL.cons (ES.tuple (EL.cons ES.str (EL.cons ES.int EL.nil (by intro _; rfl)) (by intro _; rfl))) (EL.cons (ES.tuple (EL.cons ES.str (EL.cons ES.int EL.nil (by intro _; rfl)) (by intro _; rfl))) (EL.cons (ES.tuple (EL.cons ES.str (EL.cons ES.int EL.nil (by intro _; rfl)) (by intro _; rfl))) (EL.cons (ES.tuple (EL.cons ES.str (EL.cons ES.int EL.nil (by intro _; rfl)) (by intro _; rfl))) (EL.cons (ES.tuple (EL.cons ES.str (EL.cons ES.int EL.nil (by intro _; rfl)) (by intro _; rfl))) (EL.cons (ES.tuple (EL.cons ES.str (EL.cons ES.int EL.nil (by intro _; rfl)) (by intro _; rfl))) (EL.cons (ES.tuple (EL.cons ES.str (EL.cons ES.int EL.nil (by intro _; rfl)) (by intro _; rfl))) (EL.cons (ES.tuple (EL.cons ES.str (EL.cons ES.int EL.nil (by intro _; rfl)) (by intro _; rfl))) (EL.cons (ES.tuple (EL.cons ES.str (EL.cons ES.int EL.nil (by intro _; rfl)) (by intro _; rfl))) (EL.cons (ES.tuple (EL.cons ES.str (EL.cons ES.int EL.nil (by intro _; rfl)) (by intro _; rfl))) (EL.cons (ES.tuple (EL.cons ES.str (EL.cons ES.int EL.nil (by intro _; rfl)) (by intro _; rfl))) (EL.cons (ES.tuple (EL.cons ES.str (EL.cons ES.int EL.nil (by intro _; rfl)) (by intro _; rfl))) (EL.cons (ES.tuple (EL.cons ES.str (EL.cons ES.int EL.nil (by intro _; rfl)) (by intro _; rfl))) (EL.cons (ES.tuple (EL.cons ES.str (EL.cons ES.int EL.nil (by intro _; rfl)) (by intro _; rfl))) (EL.cons (ES.tuple (EL.cons ES.str (EL.cons ES.int EL.nil (by intro _; rfl)) (by intro _; rfl))) (EL.cons (ES.tuple (EL.cons ES.str (EL.cons ES.int EL.nil (by intro _; rfl)) (by intro _; rfl))) (EL.cons (ES.tuple (EL.cons ES.str (EL.cons ES.int EL.nil (by intro _; rfl)) (by intro _; rfl))) EL.nil (by intro _; rfl)) (by intro _; rfl)) (by intro _; rfl)) (by intro _; rfl)) (by intro _; rfl)) (by intro _; rfl)) (by intro _; rfl)) (by intro _; rfl)) (by intro _; rfl)) (by intro _; rfl)) (by intro _; rfl)) (by intro _; rfl)) (by intro _; rfl)) (by intro _; rfl)) (by intro _; rfl)) (by intro _; rfl)) (by intro _; rfl)) (by intro _; rfl)) (by intro _; rfl)) (by intro _; rfl)) (by intro _; rfl)) (by intro _; rfl)) (by intro _; rfl)) (by intro _; rfl)) (by intro _; rfl)) (by intro _; rfl)) (by intro _; rfl)) (by intro _; rfl)) (by intro _; rfl)) (by intro _; rfl)) (by intro _; rfl)) (by intro _; rfl))))
  SS.nil)
theorem fs_Symbols_atom (hK : c.K = hd.heap_39 P) : FS c (0 + 1) 88 F_Symbols_atom := by
  unfold F_Symbols_atom
  apply FS.mk2 (c := c) [(Str.ofString "self"), (Str.ofString "text")] [(Str.ofString "found"), (Str.ofString "number")]
  case ho => rw [hK]; k_is
  case hcd => rw [hK]; k_is
  case hb => exact fun _ _ a0 a1 => BindsTo.of_eq (by rfl)
  case hok => decide
  case h =>
    unfold d_Symbols_atom
    exact (SS.cons (SX.assign 2 (ES.methB (ES.attr (ES.loc 0 (by rfl) (by rfl)) (att_Symbols_atom_numbers hK) (by intro _; rfl)) MB.get FB.get (EL.cons (ES.loc 1 (by rfl) (by rfl)) (EL.cons (ES.neg ES.int) EL.nil (by intro _; rfl)) (by intro _; rfl)) (by intro _; rfl) _ (by intro _; rfl)) (by rfl) (stor (by rfl)) (by intro _; rfl))
  (SS.cons (SX.iff (ET.cmp (ES.loc 2 (by rfl) (by rfl)) ES.int CmpOK.geI (by rfl)) (SS.cons (SX.ret (ES.loc 2 (by rfl) (by rfl)))
  SS.nil) SS.nil)
  (SS.cons (SX.assign 3 (ES.callB (by rfl) (by rw [hK]; k_is) Boot.«len» FB.len (EL.cons (ES.attr (ES.loc 0 (by rfl) (by rfl)) (att_Symbols_texts hK) (by intro _; rfl)) EL.nil (by intro _; rfl)) (by rfl) (by decide) (by rfl) (by intro _; rfl)) (by rfl) (stor (by rfl)) (by intro _; rfl))
  (SS.cons (SX.expr (ES.methB (ES.attr (ES.loc 0 (by rfl) (by rfl)) (att_Symbols_texts hK) (by intro _; rfl)) MB.append FB.append (EL.cons (ES.loc 1 (by rfl) (by rfl)) EL.nil (by intro _; rfl)) (by intro _; rfl) _ (by intro _; rfl)) (by intro _; rfl))
  (SS.cons (SX.setItem (ES.attr (ES.loc 0 (by rfl) (by rfl)) (att_Symbols_atom_numbers hK) (by intro _; rfl)) (ES.loc 1 (by rfl) (by rfl)) (ES.loc 3 (by rfl) (by rfl)) (by intro _; rfl))
  (SS.cons (SX.ret (ES.loc 3 (by rfl) (by rfl)))
  SS.nil))))))
theorem fs_Symbols_functor (hK : c.K = hd.heap_39 P) : FS c (0 + 1) 102 F_Symbols_functor := by
  unfold F_Symbols_functor
  apply FS.mk2 (c := c) [(Str.ofString "self"), (Str.ofString "atom"), (Str.ofString "arity")] [(Str.ofString "key"), (Str.ofString "found"), (Str.ofString "number")]
  case ho => rw [hK]; k_is
  case hcd => rw [hK]; k_is
  case hb => exact fun _ _ a0 a1 a2 => BindsTo.of_eq (by rfl)
  case hok => decide
  case h =>
    unfold d_Symbols_functor
    exact (SS.cons (SX.assign 3 (ES.tuple (EL.cons (ES.loc 1 (by rfl) (by rfl)) (EL.cons (ES.loc 2 (by rfl) (by rfl)) EL.nil (by intro _; rfl)) (by intro _; rfl))) (by rfl) (stor (by rfl)) (by intro _; rfl))
  (SS.cons (SX.assign 4 (ES.methB (ES.attr (ES.loc 0 (by rfl) (by rfl)) (att_Symbols_functor_numbers hK) (by intro _; rfl)) MB.get FB.get (EL.cons (ES.loc 3 (by rfl) (by rfl)) (EL.cons (ES.neg ES.int) EL.nil (by intro _; rfl)) (by intro _; rfl)) (by intro _; rfl) _ (by intro _; rfl)) (by rfl) (stor (by rfl)) (by intro _; rfl))
  (SS.cons (SX.iff (ET.cmp (ES.loc 4 (by rfl) (by rfl)) ES.int CmpOK.geI (by rfl)) (SS.cons (SX.ret (ES.loc 4 (by rfl) (by rfl)))
  SS.nil) SS.nil)
  (SS.cons (SX.assign 5 (ES.callB (by rfl) (by rw [hK]; k_is) Boot.«len» FB.len (EL.cons (ES.attr (ES.loc 0 (by rfl) (by rfl)) (att_Symbols_functors hK) (by intro _; rfl)) EL.nil (by intro _; rfl)) (by rfl) (by decide) (by rfl) (by intro _; rfl)) (by rfl) (stor (by rfl)) (by intro _; rfl))
  (SS.cons (SX.expr (ES.methB (ES.attr (ES.loc 0 (by rfl) (by rfl)) (att_Symbols_functors hK) (by intro _; rfl)) MB.append FB.append (EL.cons (ES.loc 3 (by rfl) (by rfl)) EL.nil (by intro _; rfl)) (by intro _; rfl) _ (by intro _; rfl)) (by intro _; rfl))
  (SS.cons (SX.setItem (ES.attr (ES.loc 0 (by rfl) (by rfl)) (att_Symbols_functor_numbers hK) (by intro _; rfl)) (ES.loc 3 (by rfl) (by rfl)) (ES.loc 5 (by rfl) (by rfl)) (by intro _; rfl))
  (SS.cons (SX.ret (ES.loc 5 (by rfl) (by rfl)))
  SS.nil)))))))
theorem fs_Symbols_func (hK : c.K = hd.heap_39 P) : FS c (1 + 1) 109 F_Symbols_func := by
  unfold F_Symbols_func
  apply FS.mk2 (c := c) [(Str.ofString "self"), (Str.ofString "text"), (Str.ofString "arity")] []
  case ho => rw [hK]; k_is
  case hcd => rw [hK]; k_is
  case hb => exact fun _ _ a0 a1 a2 => BindsTo.of_eq (by rfl)
  case hok => decide
  case h =>
    unfold d_Symbols_func
    exact (SS.cons (SX.ret (ES.meth (ES.loc 0 (by rfl) (by rfl)) (met_Symbols_functor hK) ((fs_Symbols_functor hK).up (by omega)) (EL.cons (ES.meth (ES.loc 0 (by rfl) (by rfl)) (met_Symbols_atom hK) ((fs_Symbols_atom hK).up (by omega)) (EL.cons (ES.loc 1 (by rfl) (by rfl)) EL.nil (by intro _; rfl)) (by intro _; rfl) _ (by intro _; rfl)) (EL.cons (ES.loc 2 (by rfl) (by rfl)) EL.nil (by intro _; rfl)) (by intro _; rfl)) (by intro _; rfl) _ (by intro _; rfl)))
  SS.nil)
theorem fs_Symbols_name (hK : c.K = hd.heap_39 P) : FS c (0 + 1) 116 F_Symbols_name := by
  unfold F_Symbols_name
  apply FS.mk2 (c := c) [(Str.ofString "self"), (Str.ofString "functor")] []
  case ho => rw [hK]; k_is
  case hcd => rw [hK]; k_is
  case hb => exact fun _ _ a0 a1 => BindsTo.of_eq (by rfl)
  case hok => decide
  case h =>
    unfold d_Symbols_name
    exact (SS.cons (SX.ret (ES.sub (ES.sub (ES.attr (ES.loc 0 (by rfl) (by rfl)) (att_Symbols_functors hK) (by intro _; rfl)) (ES.loc 1 (by rfl) (by rfl)) (by intro _ _; rfl)) ES.int (by intro _ _; rfl)))
  SS.nil)
theorem fs_Symbols_init (hK : c.K = hd.heap_39 P) : FS c (2 + 1) 81 F_Symbols_init := by
  unfold F_Symbols_init
  apply FS.mk2 (c := c) [(Str.ofString "self")] [(Str.ofString "text"), (Str.ofString "row")]
  case ho => rw [hK]; k_is
  case hcd => rw [hK]; k_is
  case hb => exact fun _ _ a0 => BindsTo.of_eq (by rfl)
  case hok => decide
  case h =>
    unfold d_Symbols_init
    exact (SS.cons (SX.setAttr (ES.loc 0 (by rfl) (by rfl)) (ES.list EL.nil) (set_Symbols_texts hK) (by intro _; rfl))
  (SS.cons (SX.setAttr (ES.loc 0 (by rfl) (by rfl)) (ES.empty .S) (set_Symbols_atom_numbers hK) (by intro _; rfl))
  (SS.cons (SX.setAttr (ES.loc 0 (by rfl) (by rfl)) (ES.list EL.nil) (set_Symbols_functors hK) (by intro _; rfl))
  (SS.cons (SX.setAttr (ES.loc 0 (by rfl) (by rfl)) (ES.empty .T) (set_Symbols_functor_numbers hK) (by intro _; rfl))
  (SS.cons (SX.for 1 (EI.val (ES.call (by rfl) (by rw [hK]; k_is) (by rw [hK]; k_is) ((fs_fixed_atoms hK).up (by omega)) EL.nil (by rfl) (by intro _; rfl))) (by rfl) (stor (by rfl)) (SS.cons (SX.expr (ES.meth (ES.loc 0 (by rfl) (by rfl)) (met_Symbols_atom hK) ((fs_Symbols_atom hK).up (by omega)) (EL.cons (ES.loc 1 (by rfl) (by rfl)) EL.nil (by intro _; rfl)) (by intro _; rfl) _ (by intro _; rfl)) (by intro _; rfl))
  SS.nil) (by intro _ _; rfl) 3000)
  (SS.cons (SX.for 2 (EI.val (ES.call (by rfl) (by rw [hK]; k_is) (by rw [hK]; k_is) ((fs_fixed_functors hK).up (by omega)) EL.nil (by rfl) (by intro _; rfl))) (by rfl) (stor (by rfl)) (SS.cons (SX.expr (ES.meth (ES.loc 0 (by rfl) (by rfl)) (met_Symbols_func hK) ((fs_Symbols_func hK).up (by omega)) (EL.cons (ES.sub (ES.loc 2 (by rfl) (by rfl)) ES.int (by intro _ _; rfl)) (EL.cons (ES.sub (ES.loc 2 (by rfl) (by rfl)) ES.int (by intro _ _; rfl)) EL.nil (by intro _; rfl)) (by intro _; rfl)) (by intro _; rfl) _ (by intro _; rfl)) (by intro _; rfl))
  SS.nil) (by intro _ _; rfl) 3000)
  SS.nil))))))
theorem fs_var (hK : c.K = hd.heap_39 P) : FS c (0 + 1) 166 F_var := by
  unfold F_var
  apply FS.mk2 (c := c) [(Str.ofString "number")] []
  case ho => rw [hK]; k_is
  case hcd => rw [hK]; k_is
  case hb => exact fun _ _ a0 => BindsTo.of_eq (by rfl)
  case hok => decide
  case h =>
    unfold d_var
    exact (SS.cons (SX.ret (ES.tuple (EL.cons ES.str (EL.cons (ES.loc 0 (by rfl) (by rfl)) EL.nil (by intro _; rfl)) (by intro _; rfl))))
  SS.nil)
theorem fs_atom (hK : c.K = hd.heap_39 P) : FS c (0 + 1) 173 F_atom := by
  unfold F_atom
  apply FS.mk2 (c := c) [(Str.ofString "number")] []
  case ho => rw [hK]; k_is
  case hcd => rw [hK]; k_is
  case hb => exact fun _ _ a0 => BindsTo.of_eq (by rfl)
  case hok => decide
  case h =>
    unfold d_atom
    exact (SS.cons (SX.ret (ES.tuple (EL.cons ES.str (EL.cons (ES.loc 0 (by rfl) (by rfl)) EL.nil (by intro _; rfl)) (by intro _; rfl))))
  SS.nil)
theorem fs_struct (hK : c.K = hd.heap_39 P) : FS c (0 + 1) 180 F_struct := by
  unfold F_struct
  apply FS.mk2 (c := c) [(Str.ofString "functor"), (Str.ofString "args")] []
  case ho => rw [hK]; k_is
  case hcd => rw [hK]; k_is
  case hb => exact fun _ _ a0 a1 => BindsTo.of_eq (by rfl)
  case hok => decide
  case h =>
    unfold d_struct
    exact (SS.cons (SX.ret (ES.tuple (EL.cons ES.str (EL.cons (ES.loc 0 (by rfl) (by rfl)) (EL.cons (ES.callB (by rfl) (by rw [hK]; k_is) Boot.«tuple» FB.tuple (EL.cons (ES.loc 1 (by rfl) (by rfl)) EL.nil (by intro _; rfl)) (by rfl) (by decide) (by rfl) (by intro _; rfl)) EL.nil (by intro _; rfl)) (by intro _; rfl)) (by intro _; rfl))))
  SS.nil)
theorem fs_list_term (hK : c.K = hd.heap_39 P) : FS c (0 + 1) 188 F_list_term := by
  unfold F_list_term
  apply FS.mk2 (c := c) [(Str.ofString "items"), (Str.ofString "tail")] [(Str.ofString "result"), (Str.ofString "item")]
  case ho => rw [hK]; k_is
  case hcd => rw [hK]; k_is
  case hb => exact fun _ X a0 a1 => BindsTo.of_defaults rfl (X _ _ (by rw [hK]; k_is)) rfl rfl rfl
  case hok => decide
  case h =>
    unfold d_list_term
    exact (SS.cons (SX.assign 2 (ES.ifx (ET.cmp (ES.loc 1 (by rfl) (by rfl)) ES.none CmpOK.isNone (by rfl)) (ES.glob sNIL (by rfl) (by rw [hK]; k_is) (gv_NIL hK) (by rfl)) (ES.loc 1 (by rfl) (by rfl))) (by rfl) (stor (by rfl)) (by intro _; rfl))
  (SS.cons (SX.for 3 (EI.rev (by rfl) (by rw [hK]; k_is) (ES.loc 0 (by rfl) (by rfl)) (by intro _; rfl)) (by rfl) (stor (by rfl)) (SS.cons (SX.assign 2 (ES.tuple (EL.cons ES.str (EL.cons (ES.glob (.int 0) (by rfl) (by rw [hK]; k_is) (GV.int _ _) (by rfl)) (EL.cons (ES.tuple (EL.cons (ES.loc 3 (by rfl) (by rfl)) (EL.cons (ES.loc 2 (by rfl) (by rfl)) EL.nil (by intro _; rfl)) (by intro _; rfl))) EL.nil (by intro _; rfl)) (by intro _; rfl)) (by intro _; rfl))) (by rfl) (stor (by rfl)) (by intro _; rfl))
  SS.nil) (by intro _ _; rfl) 3000)
  (SS.cons (SX.ret (ES.loc 2 (by rfl) (by rfl)))
  SS.nil)))
theorem fs_list_items (hK : c.K = hd.heap_39 P) : FS c (0 + 1) 195 F_list_items := by
  unfold F_list_items
  apply FS.mk2 (c := c) [(Str.ofString "term")] [(Str.ofString "items")]
  case ho => rw [hK]; k_is
  case hcd => rw [hK]; k_is
  case hb => exact fun _ _ a0 => BindsTo.of_eq (by rfl)
  case hok => decide
  case h =>
    unfold d_list_items
    exact (SS.cons (SX.assign 1 (ES.list EL.nil) (by rfl) (stor (by rfl)) (by intro _; rfl))
  (SS.cons (SX.while (ET.and (ET.cmp (ES.sub (ES.loc 0 (by rfl) (by rfl)) ES.int (by intro _ _; rfl)) ES.str CmpOK.eqS (by rfl)) (ET.cmp (ES.sub (ES.loc 0 (by rfl) (by rfl)) ES.int (by intro _ _; rfl)) (ES.glob (.int 0) (by rfl) (by rw [hK]; k_is) (GV.int _ _) (by rfl)) CmpOK.eqI (by rfl))) (SS.cons (SX.expr (ES.methB (ES.loc 1 (by rfl) (by rfl)) MB.append FB.append (EL.cons (ES.sub (ES.sub (ES.loc 0 (by rfl) (by rfl)) ES.int (by intro _ _; rfl)) ES.int (by intro _ _; rfl)) EL.nil (by intro _; rfl)) (by intro _; rfl) _ (by intro _; rfl)) (by intro _; rfl))
  (SS.cons (SX.assign 0 (ES.sub (ES.sub (ES.loc 0 (by rfl) (by rfl)) ES.int (by intro _ _; rfl)) ES.int (by intro _ _; rfl)) (by rfl) (stor (by rfl)) (by intro _; rfl))
  SS.nil)) 3000)
  (SS.cons (SX.ret (ES.tuple (EL.cons (ES.loc 1 (by rfl) (by rfl)) (EL.cons (ES.loc 0 (by rfl) (by rfl)) EL.nil (by intro _; rfl)) (by intro _; rfl))))
  SS.nil)))
theorem fs_is_callable (hK : c.K = hd.heap_39 P) : FS c (0 + 1) 202 F_is_callable := by
  unfold F_is_callable
  apply FS.mk2 (c := c) [(Str.ofString "term")] []
  case ho => rw [hK]; k_is
  case hcd => rw [hK]; k_is
  case hb => exact fun _ _ a0 => BindsTo.of_eq (by rfl)
  case hok => decide
  case h =>
    unfold d_is_callable
    exact (SS.cons (SX.ret (ES.or (ES.cmp (ES.sub (ES.loc 0 (by rfl) (by rfl)) ES.int (by intro _ _; rfl)) ES.str CmpOK.eqS (by rfl)) (ES.cmp (ES.sub (ES.loc 0 (by rfl) (by rfl)) ES.int (by intro _ _; rfl)) ES.str CmpOK.eqS (by rfl))))
  SS.nil)
theorem fs_functor_in (hK : c.K = hd.heap_39 P) : FS c (1 + 1) 209 F_functor_in := by
  unfold F_functor_in
  apply FS.mk2 (c := c) [(Str.ofString "symbols"), (Str.ofString "term")] []
  case ho => rw [hK]; k_is
  case hcd => rw [hK]; k_is
  case hb => exact fun _ _ a0 a1 => BindsTo.of_eq (by rfl)
  case hok => decide
  case h =>
    unfold d_functor_in
    exact (SS.cons (SX.iff (ET.cmp (ES.sub (ES.loc 1 (by rfl) (by rfl)) ES.int (by intro _ _; rfl)) ES.str CmpOK.eqS (by rfl)) (SS.cons (SX.ret (ES.meth (ES.loc 0 (by rfl) (by rfl)) (met_Symbols_functor hK) ((fs_Symbols_functor hK).up (by omega)) (EL.cons (ES.sub (ES.loc 1 (by rfl) (by rfl)) ES.int (by intro _ _; rfl)) (EL.cons ES.int EL.nil (by intro _; rfl)) (by intro _; rfl)) (by intro _; rfl) _ (by intro _; rfl)))
  SS.nil) SS.nil)
  (SS.cons (SX.ret (ES.sub (ES.loc 1 (by rfl) (by rfl)) ES.int (by intro _ _; rfl)))
  SS.nil))
theorem fs_arguments (hK : c.K = hd.heap_39 P) : FS c (0 + 1) 216 F_arguments := by
  unfold F_arguments
  apply FS.mk2 (c := c) [(Str.ofString "term")] []
  case ho => rw [hK]; k_is
  case hcd => rw [hK]; k_is
  case hb => exact fun _ _ a0 => BindsTo.of_eq (by rfl)
  case hok => decide
  case h =>
    unfold d_arguments
    exact (SS.cons (SX.iff (ET.cmp (ES.sub (ES.loc 0 (by rfl) (by rfl)) ES.int (by intro _ _; rfl)) ES.str CmpOK.eqS (by rfl)) (SS.cons (SX.ret (ES.sub (ES.loc 0 (by rfl) (by rfl)) ES.int (by intro _ _; rfl)))
  SS.nil) SS.nil)
  (SS.cons (SX.ret (ES.tuple EL.nil))
  SS.nil))
theorem fs_variables_of (hK : c.K = hd.heap_39 P) : FS c (0 + 1) 230 F_variables_of := by
  unfold F_variables_of
  apply FS.mk2 (c := c) [(Str.ofString "terms")] [(Str.ofString "seen"), (Str.ofString "result"), (Str.ofString "todo"), (Str.ofString "term")]
  case ho => rw [hK]; k_is
  case hcd => rw [hK]; k_is
  case hb => exact fun _ _ a0 => BindsTo.of_eq (by rfl)
  case hok => decide
  case h =>
    unfold d_variables_of
    exact (SS.cons (SX.assign 1 (ES.empty .I) (by rfl) (stor (by rfl)) (by intro _; rfl))
  (SS.cons (SX.assign 2 (ES.list EL.nil) (by rfl) (stor (by rfl)) (by intro _; rfl))
  (SS.cons (SX.assign 3 (ES.listRev rfl rfl (by rfl) (by rw [hK]; k_is) (by rfl) (by rw [hK]; k_is) (ES.loc 0 (by rfl) (by rfl)) (by intro _; rfl)) (by rfl) (stor (by rfl)) (by intro _; rfl))
  (SS.cons (SX.while (ET.val (ES.loc 3 (by rfl) (by rfl)) (by intro _ _; rfl)) (SS.cons (SX.assign 4 (ES.methB (ES.loc 3 (by rfl) (by rfl)) MB.pop FB.pop EL.nil (by intro _; rfl) _ (by intro _; rfl)) (by rfl) (stor (by rfl)) (by intro _; rfl))
  (SS.cons (SX.iff (ET.cmp (ES.sub (ES.loc 4 (by rfl) (by rfl)) ES.int (by intro _ _; rfl)) ES.str CmpOK.eqS (by rfl)) (SS.cons (SX.iff (ET.cmp (ES.sub (ES.loc 4 (by rfl) (by rfl)) ES.int (by intro _ _; rfl)) (ES.loc 1 (by rfl) (by rfl)) CmpOK.notIn (by rfl)) (SS.cons (SX.setItem (ES.loc 1 (by rfl) (by rfl)) (ES.sub (ES.loc 4 (by rfl) (by rfl)) ES.int (by intro _ _; rfl)) ES.bool (by intro _; rfl))
  (SS.cons (SX.expr (ES.methB (ES.loc 2 (by rfl) (by rfl)) MB.append FB.append (EL.cons (ES.sub (ES.loc 4 (by rfl) (by rfl)) ES.int (by intro _ _; rfl)) EL.nil (by intro _; rfl)) (by intro _; rfl) _ (by intro _; rfl)) (by intro _; rfl))
  SS.nil)) SS.nil)
  SS.nil) (SS.cons (SX.iff (ET.cmp (ES.sub (ES.loc 4 (by rfl) (by rfl)) ES.int (by intro _ _; rfl)) ES.str CmpOK.eqS (by rfl)) (SS.cons (SX.expr (ES.extRev rfl rfl (by rfl) (by rw [hK]; k_is) (ES.loc 3 (by rfl) (by rfl)) (ES.sub (ES.loc 4 (by rfl) (by rfl)) ES.int (by intro _ _; rfl)) _ (by intro _; rfl) (by intro _; rfl)) (by intro _; rfl))
  SS.nil) SS.nil)
  SS.nil))
  SS.nil)) 3000)
  (SS.cons (SX.ret (ES.loc 2 (by rfl) (by rfl)))
  SS.nil)))))
theorem fs_variables (hK : c.K = hd.heap_39 P) : FS c (1 + 1) 223 F_variables := by
  unfold F_variables
  apply FS.mk2 (c := c) [(Str.ofString "term")] []
  case ho => rw [hK]; k_is
  case hcd => rw [hK]; k_is
  case hb => exact fun _ _ a0 => BindsTo.of_eq (by rfl)
  case hok => decide
  case h =>
    unfold d_variables
    exact (SS.cons (SX.ret (ES.call (by rfl) (by rw [hK]; k_is) (by rw [hK]; k_is) ((fs_variables_of hK).up (by omega)) (EL.cons (ES.list (EL.cons (ES.loc 0 (by rfl) (by rfl)) EL.nil (by intro _; rfl))) EL.nil (by intro _; rfl)) (by rfl) (by intro _; rfl)))
  SS.nil)
theorem fs_conjunction (hK : c.K = hd.heap_39 P) : FS c (0 + 1) 237 F_conjunction := by
  unfold F_conjunction
  apply FS.mk2 (c := c) [(Str.ofString "goals")] [(Str.ofString "result"), (Str.ofString "place")]
  case ho => rw [hK]; k_is
  case hcd => rw [hK]; k_is
  case hb => exact fun _ _ a0 => BindsTo.of_eq (by rfl)
  case hok => decide
  case h =>
    unfold d_conjunction
    exact (SS.cons (SX.iff (ET.cmp (ES.callB (by rfl) (by rw [hK]; k_is) Boot.«len» FB.len (EL.cons (ES.loc 0 (by rfl) (by rfl)) EL.nil (by intro _; rfl)) (by rfl) (by decide) (by rfl) (by intro _; rfl)) ES.int CmpOK.eqI (by rfl)) (SS.cons (SX.ret (ES.tuple (EL.cons ES.str (EL.cons (ES.glob (.int 16) (by rfl) (by rw [hK]; k_is) (GV.int _ _) (by rfl)) EL.nil (by intro _; rfl)) (by intro _; rfl))))
  SS.nil) SS.nil)
  (SS.cons (SX.assign 1 (ES.sub (ES.loc 0 (by rfl) (by rfl)) (ES.bin (ES.callB (by rfl) (by rw [hK]; k_is) Boot.«len» FB.len (EL.cons (ES.loc 0 (by rfl) (by rfl)) EL.nil (by intro _; rfl)) (by rfl) (by decide) (by rfl) (by intro _; rfl)) ES.int OpOK.sub) (by intro _ _; rfl)) (by rfl) (stor (by rfl)) (by intro _; rfl))
  (SS.cons (SX.for 2 (EI.range (by rfl) (by rw [hK]; k_is) (EL.cons (ES.bin (ES.callB (by rfl) (by rw [hK]; k_is) Boot.«len» FB.len (EL.cons (ES.loc 0 (by rfl) (by rfl)) EL.nil (by intro _; rfl)) (by rfl) (by decide) (by rfl) (by intro _; rfl)) ES.int OpOK.sub) (EL.cons (ES.neg ES.int) (EL.cons (ES.neg ES.int) EL.nil (by intro _; rfl)) (by intro _; rfl)) (by intro _; rfl)) (by intro _; rfl)) (by rfl) (stor (by rfl)) (SS.cons (SX.assign 1 (ES.tuple (EL.cons ES.str (EL.cons (ES.glob (.int 1) (by rfl) (by rw [hK]; k_is) (GV.int _ _) (by rfl)) (EL.cons (ES.tuple (EL.cons (ES.sub (ES.loc 0 (by rfl) (by rfl)) (ES.loc 2 (by rfl) (by rfl)) (by intro _ _; rfl)) (EL.cons (ES.loc 1 (by rfl) (by rfl)) EL.nil (by intro _; rfl)) (by intro _; rfl))) EL.nil (by intro _; rfl)) (by intro _; rfl)) (by intro _; rfl))) (by rfl) (stor (by rfl)) (by intro _; rfl))
  SS.nil) (by intro _ _; rfl) 3000)
  (SS.cons (SX.ret (ES.loc 1 (by rfl) (by rfl)))
  SS.nil))))
theorem fs_Fresh_init (hK : c.K = hd.heap_39 P) : FS c (0 + 1) 280 F_Fresh_init := by
  unfold F_Fresh_init
  apply FS.mk2 (c := c) [(Str.ofString "self"), (Str.ofString "first")] []
  case ho => rw [hK]; k_is
  case hcd => rw [hK]; k_is
  case hb => exact fun _ X a0 a1 => BindsTo.of_defaults rfl (X _ _ (by rw [hK]; k_is)) rfl rfl rfl
  case hok => decide
  case h =>
    unfold d_Fresh_init
    exact (SS.cons (SX.setAttr (ES.loc 0 (by rfl) (by rfl)) (ES.loc 1 (by rfl) (by rfl)) (set_Fresh_next hK) (by intro _; rfl))
  SS.nil)
theorem fs_Fresh_number (hK : c.K = hd.heap_39 P) : FS c (0 + 1) 287 F_Fresh_number := by
  unfold F_Fresh_number
  apply FS.mk2 (c := c) [(Str.ofString "self")] [(Str.ofString "n")]
  case ho => rw [hK]; k_is
  case hcd => rw [hK]; k_is
  case hb => exact fun _ _ a0 => BindsTo.of_eq (by rfl)
  case hok => decide
  case h =>
    unfold d_Fresh_number
    exact (SS.cons (SX.assign 1 (ES.attr (ES.loc 0 (by rfl) (by rfl)) (att_Fresh_next hK) (by intro _; rfl)) (by rfl) (stor (by rfl)) (by intro _; rfl))
  (SS.cons (SX.setAttr (ES.loc 0 (by rfl) (by rfl)) (ES.bin (ES.loc 1 (by rfl) (by rfl)) ES.int OpOK.add) (set_Fresh_next hK) (by intro _; rfl))
  (SS.cons (SX.ret (ES.loc 1 (by rfl) (by rfl)))
  SS.nil)))
theorem fs_right_spine (hK : c.K = hd.heap_39 P) : FS c (0 + 1) 301 F_right_spine := by
  unfold F_right_spine
  apply FS.mk2 (c := c) [(Str.ofString "term"), (Str.ofString "functors")] [(Str.ofString "parts")]
  case ho => rw [hK]; k_is
  case hcd => rw [hK]; k_is
  case hb => exact fun _ _ a0 a1 => BindsTo.of_eq (by rfl)
  case hok => decide
  case h =>
    unfold d_right_spine
    exact (SS.cons (SX.assign 2 (ES.list EL.nil) (by rfl) (stor (by rfl)) (by intro _; rfl))
  (SS.cons (SX.while (ET.and (ET.cmp (ES.sub (ES.loc 0 (by rfl) (by rfl)) ES.int (by intro _ _; rfl)) ES.str CmpOK.eqS (by rfl)) (ET.cmp (ES.sub (ES.loc 0 (by rfl) (by rfl)) ES.int (by intro _ _; rfl)) (ES.loc 1 (by rfl) (by rfl)) CmpOK.inI (by rfl))) (SS.cons (SX.expr (ES.methB (ES.loc 2 (by rfl) (by rfl)) MB.append FB.append (EL.cons (ES.sub (ES.sub (ES.loc 0 (by rfl) (by rfl)) ES.int (by intro _ _; rfl)) ES.int (by intro _ _; rfl)) EL.nil (by intro _; rfl)) (by intro _; rfl) _ (by intro _; rfl)) (by intro _; rfl))
  (SS.cons (SX.assign 0 (ES.sub (ES.sub (ES.loc 0 (by rfl) (by rfl)) ES.int (by intro _ _; rfl)) ES.int (by intro _ _; rfl)) (by rfl) (stor (by rfl)) (by intro _; rfl))
  SS.nil)) 3000)
  (SS.cons (SX.expr (ES.methB (ES.loc 2 (by rfl) (by rfl)) MB.append FB.append (EL.cons (ES.loc 0 (by rfl) (by rfl)) EL.nil (by intro _; rfl)) (by intro _; rfl) _ (by intro _; rfl)) (by intro _; rfl))
  (SS.cons (SX.ret (ES.loc 2 (by rfl) (by rfl)))
  SS.nil))))
theorem fs_GrammarVariables_init (hK : c.K = hd.heap_39 P) : FS c (0 + 1) 315 F_GrammarVariables_init := by
  unfold F_GrammarVariables_init
  apply FS.mk2 (c := c) [(Str.ofString "self"), (Str.ofString "fresh"), (Str.ofString "used")] []
  case ho => rw [hK]; k_is
  case hcd => rw [hK]; k_is
  case hb => exact fun _ _ a0 a1 a2 => BindsTo.of_eq (by rfl)
  case hok => decide
  case h =>
    unfold d_GrammarVariables_init
    exact (SS.cons (SX.setAttr (ES.loc 0 (by rfl) (by rfl)) (ES.loc 1 (by rfl) (by rfl)) (set_GrammarVariables_fresh hK) (by intro _; rfl))
  (SS.cons (SX.setAttr (ES.loc 0 (by rfl) (by rfl)) (ES.loc 2 (by rfl) (by rfl)) (set_GrammarVariables_used hK) (by intro _; rfl))
  SS.nil))
theorem fs_GrammarVariables_variable (hK : c.K = hd.heap_39 P) : FS c (1 + 1) 322 F_GrammarVariables_variable := by
  unfold F_GrammarVariables_variable
  apply FS.mk2 (c := c) [(Str.ofString "self")] [(Str.ofString "k")]
  case ho => rw [hK]; k_is
  case hcd => rw [hK]; k_is
  case hb => exact fun _ _ a0 => BindsTo.of_eq (by rfl)
  case hok => decide
  case h =>
    unfold d_GrammarVariables_variable
    exact (SS.cons (SX.assign 1 (ES.meth (ES.attr (ES.loc 0 (by rfl) (by rfl)) (att_GrammarVariables_fresh hK) (by intro _; rfl)) (met_Fresh_number hK) ((fs_Fresh_number hK).up (by omega)) EL.nil (by intro _; rfl) _ (by intro _; rfl)) (by rfl) (stor (by rfl)) (by intro _; rfl))
  (SS.cons (SX.while (ET.cmp (ES.loc 1 (by rfl) (by rfl)) (ES.attr (ES.loc 0 (by rfl) (by rfl)) (att_GrammarVariables_used hK) (by intro _; rfl)) CmpOK.inI (by rfl)) (SS.cons (SX.assign 1 (ES.meth (ES.attr (ES.loc 0 (by rfl) (by rfl)) (att_GrammarVariables_fresh hK) (by intro _; rfl)) (met_Fresh_number hK) ((fs_Fresh_number hK).up (by omega)) EL.nil (by intro _; rfl) _ (by intro _; rfl)) (by rfl) (stor (by rfl)) (by intro _; rfl))
  SS.nil) 3000)
  (SS.cons (SX.ret (ES.call (by rfl) (by rw [hK]; k_is) (by rw [hK]; k_is) ((fs_var hK).up (by omega)) (EL.cons (ES.loc 1 (by rfl) (by rfl)) EL.nil (by intro _; rfl)) (by rfl) (by intro _; rfl)))
  SS.nil)))
theorem fs_nonterminal (hK : c.K = hd.heap_39 P) : FS c (2 + 1) 343 F_nonterminal := by
  unfold F_nonterminal
  apply FS.mk2 (c := c) [(Str.ofString "symbols"), (Str.ofString "term"), (Str.ofString "first"), (Str.ofString "last")] [(Str.ofString "f"), (Str.ofString "args")]
  case ho => rw [hK]; k_is
  case hcd => rw [hK]; k_is
  case hb => exact fun _ _ a0 a1 a2 a3 => BindsTo.of_eq (by rfl)
  case hok => decide
  case h =>
    unfold d_nonterminal
    exact (SS.cons (SX.assign 4 (ES.call (by rfl) (by rw [hK]; k_is) (by rw [hK]; k_is) ((fs_functor_in hK).up (by omega)) (EL.cons (ES.loc 0 (by rfl) (by rfl)) (EL.cons (ES.loc 1 (by rfl) (by rfl)) EL.nil (by intro _; rfl)) (by intro _; rfl)) (by rfl) (by intro _; rfl)) (by rfl) (stor (by rfl)) (by intro _; rfl))
  (SS.cons (SX.assign 5 (ES.bin (ES.call (by rfl) (by rw [hK]; k_is) (by rw [hK]; k_is) ((fs_arguments hK).up (by omega)) (EL.cons (ES.loc 1 (by rfl) (by rfl)) EL.nil (by intro _; rfl)) (by rfl) (by intro _; rfl)) (ES.tuple (EL.cons (ES.loc 2 (by rfl) (by rfl)) (EL.cons (ES.loc 3 (by rfl) (by rfl)) EL.nil (by intro _; rfl)) (by intro _; rfl))) OpOK.add) (by rfl) (stor (by rfl)) (by intro _; rfl))
  (SS.cons (SX.ret (ES.call (by rfl) (by rw [hK]; k_is) (by rw [hK]; k_is) ((fs_struct hK).up (by omega)) (EL.cons (ES.meth (ES.loc 0 (by rfl) (by rfl)) (met_Symbols_functor hK) ((fs_Symbols_functor hK).up (by omega)) (EL.cons (ES.meth (ES.loc 0 (by rfl) (by rfl)) (met_Symbols_name hK) ((fs_Symbols_name hK).up (by omega)) (EL.cons (ES.loc 4 (by rfl) (by rfl)) EL.nil (by intro _; rfl)) (by intro _; rfl) _ (by intro _; rfl)) (EL.cons (ES.callB (by rfl) (by rw [hK]; k_is) Boot.«len» FB.len (EL.cons (ES.loc 5 (by rfl) (by rfl)) EL.nil (by intro _; rfl)) (by rfl) (by decide) (by rfl) (by intro _; rfl)) EL.nil (by intro _; rfl)) (by intro _; rfl)) (by intro _; rfl) _ (by intro _; rfl)) (EL.cons (ES.loc 5 (by rfl) (by rfl)) EL.nil (by intro _; rfl)) (by intro _; rfl)) (by rfl) (by intro _; rfl)))
  SS.nil)))
theorem fs_terminals (hK : c.K = hd.heap_39 P) : FS c (1 + 1) 350 F_terminals := by
  unfold F_terminals
  apply FS.mk2 (c := c) [(Str.ofString "symbols"), (Str.ofString "term"), (Str.ofString "first"), (Str.ofString "last")] [(Str.ofString "items"), (Str.ofString "tail")]
  case ho => rw [hK]; k_is
  case hcd => rw [hK]; k_is
  case hb => exact fun _ _ a0 a1 a2 a3 => BindsTo.of_eq (by rfl)
  case hok => decide
  case h =>
    unfold d_terminals
    exact (SS.cons (SX.unpack [((Str.ofString "items"), _, 4), ((Str.ofString "tail"), _, 5)] (ES.call (by rfl) (by rw [hK]; k_is) (by rw [hK]; k_is) ((fs_list_items hK).up (by omega)) (EL.cons (ES.loc 1 (by rfl) (by rfl)) EL.nil (by intro _; rfl)) (by rfl) (by intro _; rfl)) rfl (by intro x hx; simp only [List.mem_cons, List.not_mem_nil, or_false] at hx; rcases hx with rfl | rfl <;> exact ⟨by rfl, (stor (by rfl))⟩) (by intro _; rfl) (by intro _; rfl) (by intro _; rfl))
  (SS.cons (SX.iff (ET.cmp (ES.sub (ES.loc 5 (by rfl) (by rfl)) ES.int (by intro _ _; rfl)) ES.str CmpOK.eqS (by rfl)) (SS.cons SX.fail
  SS.nil) SS.nil)
  (SS.cons (SX.iff (ET.cmp (ES.loc 5 (by rfl) (by rfl)) (ES.call (by rfl) (by rw [hK]; k_is) (by rw [hK]; k_is) ((fs_atom hK).up (by omega)) (EL.cons (ES.glob (.int 0) (by rfl) (by rw [hK]; k_is) (GV.int _ _) (by rfl)) EL.nil (by intro _; rfl)) (by rfl) (by intro _; rfl)) CmpOK.neD (by rfl)) (SS.cons SX.fail
  SS.nil) SS.nil)
  (SS.cons (SX.ret (ES.call (by rfl) (by rw [hK]; k_is) (by rw [hK]; k_is) ((fs_struct hK).up (by omega)) (EL.cons (ES.glob (.int 10) (by rfl) (by rw [hK]; k_is) (GV.int _ _) (by rfl)) (EL.cons (ES.tuple (EL.cons (ES.loc 2 (by rfl) (by rfl)) (EL.cons (ES.call (by rfl) (by rw [hK]; k_is) (by rw [hK]; k_is) ((fs_list_term hK).up (by omega)) (EL.cons (ES.loc 4 (by rfl) (by rfl)) (EL.cons (ES.loc 3 (by rfl) (by rfl)) EL.nil (by intro _; rfl)) (by intro _; rfl)) (by rfl) (by intro _; rfl)) EL.nil (by intro _; rfl)) (by intro _; rfl))) EL.nil (by intro _; rfl)) (by intro _; rfl)) (by rfl) (by intro _; rfl)))
  SS.nil))))
theorem fs_plain_goal (hK : c.K = hd.heap_39 P) : FS c (3 + 1) 402 F_plain_goal := by
  unfold F_plain_goal
  apply FS.mk2 (c := c) [(Str.ofString "symbols"), (Str.ofString "term"), (Str.ofString "first"), (Str.ofString "last")] [(Str.ofString "same"), (Str.ofString "f")]
  case ho => rw [hK]; k_is
  case hcd => rw [hK]; k_is
  case hb => exact fun _ _ a0 a1 a2 a3 => BindsTo.of_eq (by rfl)
  case hok => decide
  case h =>
    unfold d_plain_goal
    exact (SS.cons (SX.assign 4 (ES.call (by rfl) (by rw [hK]; k_is) (by rw [hK]; k_is) ((fs_struct hK).up (by omega)) (EL.cons (ES.glob (.int 10) (by rfl) (by rw [hK]; k_is) (GV.int _ _) (by rfl)) (EL.cons (ES.tuple (EL.cons (ES.loc 2 (by rfl) (by rfl)) (EL.cons (ES.loc 3 (by rfl) (by rfl)) EL.nil (by intro _; rfl)) (by intro _; rfl))) EL.nil (by intro _; rfl)) (by intro _; rfl)) (by rfl) (by intro _; rfl)) (by rfl) (stor (by rfl)) (by intro _; rfl))
  (SS.cons (SX.iff (ET.cmp (ES.sub (ES.loc 1 (by rfl) (by rfl)) ES.int (by intro _ _; rfl)) ES.str CmpOK.eqS (by rfl)) (SS.cons (SX.ret (ES.call (by rfl) (by rw [hK]; k_is) (by rw [hK]; k_is) ((fs_struct hK).up (by omega)) (EL.cons (ES.meth (ES.loc 0 (by rfl) (by rfl)) (met_Symbols_func hK) ((fs_Symbols_func hK).up (by omega)) (EL.cons ES.str (EL.cons ES.int EL.nil (by intro _; rfl)) (by intro _; rfl)) (by intro _; rfl) _ (by intro _; rfl)) (EL.cons (ES.tuple (EL.cons (ES.loc 1 (by rfl) (by rfl)) (EL.cons (ES.loc 2 (by rfl) (by rfl)) (EL.cons (ES.loc 3 (by rfl) (by rfl)) EL.nil (by intro _; rfl)) (by intro _; rfl)) (by intro _; rfl))) EL.nil (by intro _; rfl)) (by intro _; rfl)) (by rfl) (by intro _; rfl)))
  SS.nil) SS.nil)
  (SS.cons (SX.iff (ET.cmp (ES.sub (ES.loc 1 (by rfl) (by rfl)) ES.int (by intro _ _; rfl)) ES.str CmpOK.eqS (by rfl)) (SS.cons SX.fail
  SS.nil) SS.nil)
  (SS.cons (SX.iff (ET.cmp (ES.sub (ES.loc 1 (by rfl) (by rfl)) ES.int (by intro _ _; rfl)) ES.str CmpOK.eqS (by rfl)) (SS.cons (SX.iff (ET.cmp (ES.sub (ES.loc 1 (by rfl) (by rfl)) ES.int (by intro _ _; rfl)) (ES.glob (.int 0) (by rfl) (by rw [hK]; k_is) (GV.int _ _) (by rfl)) CmpOK.eqI (by rfl)) (SS.cons (SX.ret (ES.loc 4 (by rfl) (by rfl)))
  SS.nil) SS.nil)
  (SS.cons (SX.iff (ET.cmp (ES.sub (ES.loc 1 (by rfl) (by rfl)) ES.int (by intro _ _; rfl)) (ES.glob (.int 15) (by rfl) (by rw [hK]; k_is) (GV.int _ _) (by rfl)) CmpOK.eqI (by rfl)) (SS.cons (SX.ret (ES.call (by rfl) (by rw [hK]; k_is) (by rw [hK]; k_is) ((fs_conjunction hK).up (by omega)) (EL.cons (ES.list (EL.cons (ES.loc 1 (by rfl) (by rfl)) (EL.cons (ES.loc 4 (by rfl) (by rfl)) EL.nil (by intro _; rfl)) (by intro _; rfl))) EL.nil (by intro _; rfl)) (by rfl) (by intro _; rfl)))
  SS.nil) SS.nil)
  (SS.cons (SX.ret (ES.call (by rfl) (by rw [hK]; k_is) (by rw [hK]; k_is) ((fs_nonterminal hK).up (by omega)) (EL.cons (ES.loc 0 (by rfl) (by rfl)) (EL.cons (ES.loc 1 (by rfl) (by rfl)) (EL.cons (ES.loc 2 (by rfl) (by rfl)) (EL.cons (ES.loc 3 (by rfl) (by rfl)) EL.nil (by intro _; rfl)) (by intro _; rfl)) (by intro _; rfl)) (by intro _; rfl)) (by rfl) (by intro _; rfl)))
  SS.nil))) SS.nil)
  (SS.cons (SX.assign 5 (ES.sub (ES.loc 1 (by rfl) (by rfl)) ES.int (by intro _ _; rfl)) (by rfl) (stor (by rfl)) (by intro _; rfl))
  (SS.cons (SX.iff (ET.cmp (ES.loc 5 (by rfl) (by rfl)) (ES.glob (.int 0) (by rfl) (by rw [hK]; k_is) (GV.int _ _) (by rfl)) CmpOK.eqI (by rfl)) (SS.cons (SX.ret (ES.call (by rfl) (by rw [hK]; k_is) (by rw [hK]; k_is) ((fs_terminals hK).up (by omega)) (EL.cons (ES.loc 0 (by rfl) (by rfl)) (EL.cons (ES.loc 1 (by rfl) (by rfl)) (EL.cons (ES.loc 2 (by rfl) (by rfl)) (EL.cons (ES.loc 3 (by rfl) (by rfl)) EL.nil (by intro _; rfl)) (by intro _; rfl)) (by intro _; rfl)) (by intro _; rfl)) (by rfl) (by intro _; rfl)))
  SS.nil) SS.nil)
  (SS.cons (SX.iff (ET.cmp (ES.loc 5 (by rfl) (by rfl)) (ES.glob (.int 9) (by rfl) (by rw [hK]; k_is) (GV.int _ _) (by rfl)) CmpOK.eqI (by rfl)) (SS.cons (SX.ret (ES.call (by rfl) (by rw [hK]; k_is) (by rw [hK]; k_is) ((fs_conjunction hK).up (by omega)) (EL.cons (ES.list (EL.cons (ES.sub (ES.sub (ES.loc 1 (by rfl) (by rfl)) ES.int (by intro _ _; rfl)) ES.int (by intro _ _; rfl)) (EL.cons (ES.loc 4 (by rfl) (by rfl)) EL.nil (by intro _; rfl)) (by intro _; rfl))) EL.nil (by intro _; rfl)) (by rfl) (by intro _; rfl)))
  SS.nil) SS.nil)
  (SS.cons (SX.ret (ES.call (by rfl) (by rw [hK]; k_is) (by rw [hK]; k_is) ((fs_nonterminal hK).up (by omega)) (EL.cons (ES.loc 0 (by rfl) (by rfl)) (EL.cons (ES.loc 1 (by rfl) (by rfl)) (EL.cons (ES.loc 2 (by rfl) (by rfl)) (EL.cons (ES.loc 3 (by rfl) (by rfl)) EL.nil (by intro _; rfl)) (by intro _; rfl)) (by intro _; rfl)) (by intro _; rfl)) (by rfl) (by intro _; rfl)))
  SS.nil))))))))
theorem fs_GrammarTree_init (hK : c.K = hd.heap_39 P) : FS c (0 + 1) 364 F_GrammarTree_init := by
  unfold F_GrammarTree_init
  apply FS.mk2 (c := c) [(Str.ofString "self"), (Str.ofString "term"), (Str.ofString "first"), (Str.ofString "last")] []
  case ho => rw [hK]; k_is
  case hcd => rw [hK]; k_is
  case hb => exact fun _ _ a0 a1 a2 a3 => BindsTo.of_eq (by rfl)
  case hok => decide
  case h =>
    unfold d_GrammarTree_init
    exact (SS.cons (SX.setAttr (ES.loc 0 (by rfl) (by rfl)) (ES.list (EL.cons (ES.tuple (EL.cons ES.str (EL.cons (ES.loc 1 (by rfl) (by rfl)) EL.nil (by intro _; rfl)) (by intro _; rfl))) EL.nil (by intro _; rfl))) (set_GrammarTree_nodes hK) (by intro _; rfl))
  (SS.cons (SX.setAttr (ES.loc 0 (by rfl) (by rfl)) (ES.list (EL.cons (ES.tuple (EL.cons ES.int (EL.cons (ES.loc 1 (by rfl) (by rfl)) (EL.cons (ES.loc 2 (by rfl) (by rfl)) (EL.cons (ES.loc 3 (by rfl) (by rfl)) EL.nil (by intro _; rfl)) (by intro _; rfl)) (by intro _; rfl)) (by intro _; rfl))) EL.nil (by intro _; rfl))) (set_GrammarTree_waiting hK) (by intro _; rfl))
  SS.nil))
theorem fs_GrammarTree_hold (hK : c.K = hd.heap_39 P) : FS c (0 + 1) 371 F_GrammarTree_hold := by
  unfold F_GrammarTree_hold
  apply FS.mk2 (c := c) [(Str.ofString "self"), (Str.ofString "word"), (Str.ofString "parts")] [(Str.ofString "places"), (Str.ofString "part"), (Str.ofString "at")]
  case ho => rw [hK]; k_is
  case hcd => rw [hK]; k_is
  case hb => exact fun _ _ a0 a1 a2 => BindsTo.of_eq (by rfl)
  case hok => decide
  case h =>
    unfold d_GrammarTree_hold
    exact (SS.cons (SX.assign 3 (ES.list EL.nil) (by rfl) (stor (by rfl)) (by intro _; rfl))
  (SS.cons (SX.for 4 (EI.val (ES.loc 2 (by rfl) (by rfl))) (by rfl) (stor (by rfl)) (SS.cons (SX.expr (ES.methB (ES.loc 3 (by rfl) (by rfl)) MB.append FB.append (EL.cons (ES.callB (by rfl) (by rw [hK]; k_is) Boot.«len» FB.len (EL.cons (ES.attr (ES.loc 0 (by rfl) (by rfl)) (att_GrammarTree_nodes hK) (by intro _; rfl)) EL.nil (by intro _; rfl)) (by rfl) (by decide) (by rfl) (by intro _; rfl)) EL.nil (by intro _; rfl)) (by intro _; rfl) _ (by intro _; rfl)) (by intro _; rfl))
  (SS.cons (SX.expr (ES.methB (ES.attr (ES.loc 0 (by rfl) (by rfl)) (att_GrammarTree_nodes hK) (by intro _; rfl)) MB.append FB.append (EL.cons (ES.tuple (EL.cons ES.str (EL.cons (ES.sub (ES.loc 4 (by rfl) (by rfl)) ES.int (by intro _ _; rfl)) EL.nil (by intro _; rfl)) (by intro _; rfl))) EL.nil (by intro _; rfl)) (by intro _; rfl) _ (by intro _; rfl)) (by intro _; rfl))
  SS.nil)) (by intro _ _; rfl) 3000)
  (SS.cons (SX.for 5 (EI.range (by rfl) (by rw [hK]; k_is) (EL.cons (ES.bin (ES.callB (by rfl) (by rw [hK]; k_is) Boot.«len» FB.len (EL.cons (ES.loc 2 (by rfl) (by rfl)) EL.nil (by intro _; rfl)) (by rfl) (by decide) (by rfl) (by intro _; rfl)) ES.int OpOK.sub) (EL.cons (ES.neg ES.int) (EL.cons (ES.neg ES.int) EL.nil (by intro _; rfl)) (by intro _; rfl)) (by intro _; rfl)) (by intro _; rfl)) (by rfl) (stor (by rfl)) (SS.cons (SX.expr (ES.methB (ES.attr (ES.loc 0 (by rfl) (by rfl)) (att_GrammarTree_waiting hK) (by intro _; rfl)) MB.append FB.append (EL.cons (ES.bin (ES.tuple (EL.cons (ES.sub (ES.loc 3 (by rfl) (by rfl)) (ES.loc 5 (by rfl) (by rfl)) (by intro _ _; rfl)) EL.nil (by intro _; rfl))) (ES.sub (ES.loc 2 (by rfl) (by rfl)) (ES.loc 5 (by rfl) (by rfl)) (by intro _ _; rfl)) OpOK.add) EL.nil (by intro _; rfl)) (by intro _; rfl) _ (by intro _; rfl)) (by intro _; rfl))
  SS.nil) (by intro _ _; rfl) 3000)
  (SS.cons (SX.ret (ES.tuple (EL.cons (ES.loc 1 (by rfl) (by rfl)) (EL.cons (ES.loc 3 (by rfl) (by rfl)) EL.nil (by intro _; rfl)) (by intro _; rfl))))
  SS.nil))))
theorem fs_GrammarTree_goal (hK : c.K = hd.heap_39 P) : FS c (1 + 1) 376 F_GrammarTree_goal := by
  unfold F_GrammarTree_goal
  apply FS.mk2 (c := c) [(Str.ofString "self")] [(Str.ofString "goals"), (Str.ofString "place"), (Str.ofString "word"), (Str.ofString "held"), (Str.ofString "inner"), (Str.ofString "done")]
  case ho => rw [hK]; k_is
  case hcd => rw [hK]; k_is
  case hb => exact fun _ _ a0 => BindsTo.of_eq (by rfl)
  case hok => decide
  case h =>
    unfold d_GrammarTree_goal
    exact (SS.cons (SX.assign 1 (ES.repN (ES.callB (by rfl) (by rw [hK]; k_is) Boot.«len» FB.len (EL.cons (ES.attr (ES.loc 0 (by rfl) (by rfl)) (att_GrammarTree_nodes hK) (by intro _; rfl)) EL.nil (by intro _; rfl)) (by rfl) (by decide) (by rfl) (by intro _; rfl)) (by intro _; rfl)) (by rfl) (stor (by rfl)) (by intro _; rfl))
  (SS.cons (SX.for 2 (EI.range (by rfl) (by rw [hK]; k_is) (EL.cons (ES.bin (ES.callB (by rfl) (by rw [hK]; k_is) Boot.«len» FB.len (EL.cons (ES.attr (ES.loc 0 (by rfl) (by rfl)) (att_GrammarTree_nodes hK) (by intro _; rfl)) EL.nil (by intro _; rfl)) (by rfl) (by decide) (by rfl) (by intro _; rfl)) ES.int OpOK.sub) (EL.cons (ES.neg ES.int) (EL.cons (ES.neg ES.int) EL.nil (by intro _; rfl)) (by intro _; rfl)) (by intro _; rfl)) (by intro _; rfl)) (by rfl) (stor (by rfl)) (SS.cons (SX.unpack [((Str.ofString "word"), _, 3), ((Str.ofString "held"), _, 4)] (ES.sub (ES.attr (ES.loc 0 (by rfl) (by rfl)) (att_GrammarTree_nodes hK) (by intro _; rfl)) (ES.loc 2 (by rfl) (by rfl)) (by intro _ _; rfl)) rfl (by intro x hx; simp only [List.mem_cons, List.not_mem_nil, or_false] at hx; rcases hx with rfl | rfl <;> exact ⟨by rfl, (stor (by rfl))⟩) (by intro _; rfl) (by intro _; rfl) (by intro _; rfl))
  (SS.cons (SX.iff (ET.cmp (ES.loc 3 (by rfl) (by rfl)) ES.str CmpOK.eqS (by rfl)) (SS.cons (SX.setItem (ES.loc 1 (by rfl) (by rfl)) (ES.loc 2 (by rfl) (by rfl)) (ES.loc 4 (by rfl) (by rfl)) (by intro _; rfl))
  (SS.cons SX.cnt
  SS.nil)) SS.nil)
  (SS.cons (SX.assignComp 5 (CE.comp [(Str.ofString "goals")] [1] 3000 (by rfl) (EI.val (ES.loc 4 (by rfl) (by rfl))) CT.nil (ES.sub (ES.loc 1 (by rfl) (by rfl)) (ES.loc 0 (by rfl) (by rfl)) (by intro _ _; rfl)) (by intro _ _; rfl)) (by rfl) (stor (by rfl)) (by intro env h; cases env; cases h; rfl))
  (SS.cons (SX.iff (ET.cmp (ES.loc 3 (by rfl) (by rfl)) ES.str CmpOK.eqS (by rfl)) (SS.cons (SX.setItem (ES.loc 1 (by rfl) (by rfl)) (ES.loc 2 (by rfl) (by rfl)) (ES.call (by rfl) (by rw [hK]; k_is) (by rw [hK]; k_is) ((fs_conjunction hK).up (by omega)) (EL.cons (ES.loc 5 (by rfl) (by rfl)) EL.nil (by intro _; rfl)) (by rfl) (by intro _; rfl)) (by intro _; rfl))
  SS.nil) (SS.cons (SX.iff (ET.cmp (ES.loc 3 (by rfl) (by rfl)) ES.str CmpOK.eqS (by rfl)) (SS.cons (SX.setItem (ES.loc 1 (by rfl) (by rfl)) (ES.loc 2 (by rfl) (by rfl)) (ES.call (by rfl) (by rw [hK]; k_is) (by rw [hK]; k_is) ((fs_struct hK).up (by omega)) (EL.cons (ES.glob (.int 3) (by rfl) (by rw [hK]; k_is) (GV.int _ _) (by rfl)) (EL.cons (ES.tuple (EL.cons (ES.sub (ES.loc 5 (by rfl) (by rfl)) ES.int (by intro _ _; rfl)) (EL.cons (ES.sub (ES.loc 5 (by rfl) (by rfl)) ES.int (by intro _ _; rfl)) EL.nil (by intro _; rfl)) (by intro _; rfl))) EL.nil (by intro _; rfl)) (by intro _; rfl)) (by rfl) (by intro _; rfl)) (by intro _; rfl))
  SS.nil) (SS.cons (SX.iff (ET.cmp (ES.loc 3 (by rfl) (by rfl)) ES.str CmpOK.eqS (by rfl)) (SS.cons (SX.setItem (ES.loc 1 (by rfl) (by rfl)) (ES.loc 2 (by rfl) (by rfl)) (ES.call (by rfl) (by rw [hK]; k_is) (by rw [hK]; k_is) ((fs_struct hK).up (by omega)) (EL.cons (ES.glob (.int 4) (by rfl) (by rw [hK]; k_is) (GV.int _ _) (by rfl)) (EL.cons (ES.tuple (EL.cons (ES.sub (ES.loc 5 (by rfl) (by rfl)) ES.int (by intro _ _; rfl)) EL.nil (by intro _; rfl))) EL.nil (by intro _; rfl)) (by intro _; rfl)) (by rfl) (by intro _; rfl)) (by intro _; rfl))
  SS.nil) (SS.cons (SX.assign 6 (ES.methB (ES.loc 5 (by rfl) (by rfl)) MB.pop FB.pop EL.nil (by intro _; rfl) _ (by intro _; rfl)) (by rfl) (stor (by rfl)) (by intro _; rfl))
  (SS.cons (SX.while (ET.val (ES.loc 5 (by rfl) (by rfl)) (by intro _ _; rfl)) (SS.cons (SX.assign 6 (ES.call (by rfl) (by rw [hK]; k_is) (by rw [hK]; k_is) ((fs_struct hK).up (by omega)) (EL.cons (ES.glob (.int 2) (by rfl) (by rw [hK]; k_is) (GV.int _ _) (by rfl)) (EL.cons (ES.tuple (EL.cons (ES.methB (ES.loc 5 (by rfl) (by rfl)) MB.pop FB.pop EL.nil (by intro _; rfl) _ (by intro _; rfl)) (EL.cons (ES.loc 6 (by rfl) (by rfl)) EL.nil (by intro _; rfl)) (by intro _; rfl))) EL.nil (by intro _; rfl)) (by intro _; rfl)) (by rfl) (by intro _; rfl)) (by rfl) (stor (by rfl)) (by intro _; rfl))
  SS.nil) 3000)
  (SS.cons (SX.setItem (ES.loc 1 (by rfl) (by rfl)) (ES.loc 2 (by rfl) (by rfl)) (ES.loc 6 (by rfl) (by rfl)) (by intro _; rfl))
  SS.nil))))
  SS.nil))
  SS.nil))
  SS.nil)))) (by intro _ _; rfl) 3000)
  (SS.cons (SX.ret (ES.sub (ES.loc 1 (by rfl) (by rfl)) ES.int (by intro _ _; rfl)))
  SS.nil)))
theorem fs_grammar_part (hK : c.K = hd.heap_39 P) : FS c (4 + 1) 395 F_grammar_part := by
  unfold F_grammar_part
  apply FS.mk2 (c := c) [(Str.ofString "symbols"), (Str.ofString "term"), (Str.ofString "first"), (Str.ofString "last"), (Str.ofString "new"), (Str.ofString "tree")] [(Str.ofString "bar"), (Str.ofString "f"), (Str.ofString "parts"), (Str.ofString "here"), (Str.ofString "spine"), (Str.ofString "at"), (Str.ofString "there"), (Str.ofString "middle"), (Str.ofString "end"), (Str.ofString "place")]
  case ho => rw [hK]; k_is
  case hcd => rw [hK]; k_is
  case hb => exact fun _ _ a0 a1 a2 a3 a4 a5 => BindsTo.of_eq (by rfl)
  case hok => decide
  case h =>
    unfold d_grammar_part
    exact (SS.cons (SX.iff (ET.cmp (ES.sub (ES.loc 1 (by rfl) (by rfl)) ES.int (by intro _ _; rfl)) ES.str CmpOK.eqS (by rfl)) (SS.cons (SX.assign 6 (ES.meth (ES.loc 0 (by rfl) (by rfl)) (met_Symbols_functor hK) ((fs_Symbols_functor hK).up (by omega)) (EL.cons (ES.glob (.int 8) (by rfl) (by rw [hK]; k_is) (GV.int _ _) (by rfl)) (EL.cons ES.int EL.nil (by intro _; rfl)) (by intro _; rfl)) (by intro _; rfl) _ (by intro _; rfl)) (by rfl) (stor (by rfl)) (by intro _; rfl))
  (SS.cons (SX.assign 7 (ES.sub (ES.loc 1 (by rfl) (by rfl)) ES.int (by intro _ _; rfl)) (by rfl) (stor (by rfl)) (by intro _; rfl))
  (SS.cons (SX.iff (ET.cmp (ES.loc 7 (by rfl) (by rfl)) (ES.glob (.int 1) (by rfl) (by rw [hK]; k_is) (GV.int _ _) (by rfl)) CmpOK.eqI (by rfl)) (SS.cons (SX.assign 8 (ES.list EL.nil) (by rfl) (stor (by rfl)) (by intro _; rfl))
  (SS.cons (SX.assign 9 (ES.loc 2 (by rfl) (by rfl)) (by rfl) (stor (by rfl)) (by intro _; rfl))
  (SS.cons (SX.assign 10 (ES.call (by rfl) (by rw [hK]; k_is) (by rw [hK]; k_is) ((fs_right_spine hK).up (by omega)) (EL.cons (ES.loc 1 (by rfl) (by rfl)) (EL.cons (ES.tuple (EL.cons (ES.glob (.int 1) (by rfl) (by rw [hK]; k_is) (GV.int _ _) (by rfl)) EL.nil (by intro _; rfl))) EL.nil (by intro _; rfl)) (by intro _; rfl)) (by rfl) (by intro _; rfl)) (by rfl) (stor (by rfl)) (by intro _; rfl))
  (SS.cons (SX.for 11 (EI.range (by rfl) (by rw [hK]; k_is) (EL.cons (ES.callB (by rfl) (by rw [hK]; k_is) Boot.«len» FB.len (EL.cons (ES.loc 10 (by rfl) (by rfl)) EL.nil (by intro _; rfl)) (by rfl) (by decide) (by rfl) (by intro _; rfl)) EL.nil (by intro _; rfl)) (by intro _; rfl)) (by rfl) (stor (by rfl)) (SS.cons (SX.assign 12 (ES.loc 3 (by rfl) (by rfl)) (by rfl) (stor (by rfl)) (by intro _; rfl))
  (SS.cons (SX.iff (ET.cmp (ES.bin (ES.loc 11 (by rfl) (by rfl)) ES.int OpOK.add) (ES.callB (by rfl) (by rw [hK]; k_is) Boot.«len» FB.len (EL.cons (ES.loc 10 (by rfl) (by rfl)) EL.nil (by intro _; rfl)) (by rfl) (by decide) (by rfl) (by intro _; rfl)) CmpOK.ltI (by rfl)) (SS.cons (SX.assign 12 (ES.meth (ES.loc 4 (by rfl) (by rfl)) (met_GrammarVariables_variable hK) ((fs_GrammarVariables_variable hK).up (by omega)) EL.nil (by intro _; rfl) _ (by intro _; rfl)) (by rfl) (stor (by rfl)) (by intro _; rfl))
  SS.nil) SS.nil)
  (SS.cons (SX.expr (ES.methB (ES.loc 8 (by rfl) (by rfl)) MB.append FB.append (EL.cons (ES.tuple (EL.cons (ES.sub (ES.loc 10 (by rfl) (by rfl)) (ES.loc 11 (by rfl) (by rfl)) (by intro _ _; rfl)) (EL.cons (ES.loc 9 (by rfl) (by rfl)) (EL.cons (ES.loc 12 (by rfl) (by rfl)) EL.nil (by intro _; rfl)) (by intro _; rfl)) (by intro _; rfl))) EL.nil (by intro _; rfl)) (by intro _; rfl) _ (by intro _; rfl)) (by intro _; rfl))
  (SS.cons (SX.assign 9 (ES.loc 12 (by rfl) (by rfl)) (by rfl) (stor (by rfl)) (by intro _; rfl))
  SS.nil)))) (by intro _ _; rfl) 3000)
  (SS.cons (SX.ret (ES.meth (ES.loc 5 (by rfl) (by rfl)) (met_GrammarTree_hold hK) ((fs_GrammarTree_hold hK).up (by omega)) (EL.cons ES.str (EL.cons (ES.loc 8 (by rfl) (by rfl)) EL.nil (by intro _; rfl)) (by intro _; rfl)) (by intro _; rfl) _ (by intro _; rfl)))
  SS.nil))))) SS.nil)
  (SS.cons (SX.iff (ET.or (ET.cmp (ES.loc 7 (by rfl) (by rfl)) (ES.glob (.int 2) (by rfl) (by rw [hK]; k_is) (GV.int _ _) (by rfl)) CmpOK.eqI (by rfl)) (ET.cmp (ES.loc 7 (by rfl) (by rfl)) (ES.loc 6 (by rfl) (by rfl)) CmpOK.eqI (by rfl))) (SS.cons (SX.ret (ES.meth (ES.loc 5 (by rfl) (by rfl)) (met_GrammarTree_hold hK) ((fs_GrammarTree_hold hK).up (by omega)) (EL.cons ES.str (EL.cons (ES.comp [(Str.ofString "first"), (Str.ofString "last")] [2, 3] 3000 (by rfl) (EI.val (ES.call (by rfl) (by rw [hK]; k_is) (by rw [hK]; k_is) ((fs_right_spine hK).up (by omega)) (EL.cons (ES.loc 1 (by rfl) (by rfl)) (EL.cons (ES.tuple (EL.cons (ES.glob (.int 2) (by rfl) (by rw [hK]; k_is) (GV.int _ _) (by rfl)) (EL.cons (ES.loc 6 (by rfl) (by rfl)) EL.nil (by intro _; rfl)) (by intro _; rfl))) EL.nil (by intro _; rfl)) (by intro _; rfl)) (by rfl) (by intro _; rfl))) CT.nil (ES.tuple (EL.cons (ES.loc 0 (by rfl) (by rfl)) (EL.cons (ES.loc 1 (by rfl) (by rfl)) (EL.cons (ES.loc 2 (by rfl) (by rfl)) EL.nil (by intro _; rfl)) (by intro _; rfl)) (by intro _; rfl))) (by intro _ _; rfl)) EL.nil (by intro _; rfl)) (by intro _; rfl)) (by intro _; rfl) _ (by intro _; rfl)))
  SS.nil) SS.nil)
  (SS.cons (SX.iff (ET.cmp (ES.loc 7 (by rfl) (by rfl)) (ES.glob (.int 3) (by rfl) (by rw [hK]; k_is) (GV.int _ _) (by rfl)) CmpOK.eqI (by rfl)) (SS.cons (SX.assign 13 (ES.meth (ES.loc 4 (by rfl) (by rfl)) (met_GrammarVariables_variable hK) ((fs_GrammarVariables_variable hK).up (by omega)) EL.nil (by intro _; rfl) _ (by intro _; rfl)) (by rfl) (stor (by rfl)) (by intro _; rfl))
  (SS.cons (SX.ret (ES.meth (ES.loc 5 (by rfl) (by rfl)) (met_GrammarTree_hold hK) ((fs_GrammarTree_hold hK).up (by omega)) (EL.cons ES.str (EL.cons (ES.list (EL.cons (ES.tuple (EL.cons (ES.sub (ES.sub (ES.loc 1 (by rfl) (by rfl)) ES.int (by intro _ _; rfl)) ES.int (by intro _ _; rfl)) (EL.cons (ES.loc 2 (by rfl) (by rfl)) (EL.cons (ES.loc 13 (by rfl) (by rfl)) EL.nil (by intro _; rfl)) (by intro _; rfl)) (by intro _; rfl))) (EL.cons (ES.tuple (EL.cons (ES.sub (ES.sub (ES.loc 1 (by rfl) (by rfl)) ES.int (by intro _ _; rfl)) ES.int (by intro _ _; rfl)) (EL.cons (ES.loc 13 (by rfl) (by rfl)) (EL.cons (ES.loc 3 (by rfl) (by rfl)) EL.nil (by intro _; rfl)) (by intro _; rfl)) (by intro _; rfl))) EL.nil (by intro _; rfl)) (by intro _; rfl))) EL.nil (by intro _; rfl)) (by intro _; rfl)) (by intro _; rfl) _ (by intro _; rfl)))
  SS.nil)) SS.nil)
  (SS.cons (SX.iff (ET.cmp (ES.loc 7 (by rfl) (by rfl)) (ES.glob (.int 4) (by rfl) (by rw [hK]; k_is) (GV.int _ _) (by rfl)) CmpOK.eqI (by rfl)) (SS.cons (SX.assign 14 (ES.meth (ES.loc 4 (by rfl) (by rfl)) (met_GrammarVariables_variable hK) ((fs_GrammarVariables_variable hK).up (by omega)) EL.nil (by intro _; rfl) _ (by intro _; rfl)) (by rfl) (stor (by rfl)) (by intro _; rfl))
  (SS.cons (SX.assign 15 (ES.callB (by rfl) (by rw [hK]; k_is) Boot.«len» FB.len (EL.cons (ES.attr (ES.loc 5 (by rfl) (by rfl)) (att_GrammarTree_nodes hK) (by intro _; rfl)) EL.nil (by intro _; rfl)) (by rfl) (by decide) (by rfl) (by intro _; rfl)) (by rfl) (stor (by rfl)) (by intro _; rfl))
  (SS.cons (SX.expr (ES.methB (ES.attr (ES.loc 5 (by rfl) (by rfl)) (att_GrammarTree_nodes hK) (by intro _; rfl)) MB.append FB.append (EL.cons (ES.tuple (EL.cons ES.str (EL.cons (ES.loc 1 (by rfl) (by rfl)) EL.nil (by intro _; rfl)) (by intro _; rfl))) EL.nil (by intro _; rfl)) (by intro _; rfl) _ (by intro _; rfl)) (by intro _; rfl))
  (SS.cons (SX.expr (ES.methB (ES.attr (ES.loc 5 (by rfl) (by rfl)) (att_GrammarTree_nodes hK) (by intro _; rfl)) MB.append FB.append (EL.cons (ES.tuple (EL.cons ES.str (EL.cons (ES.call (by rfl) (by rw [hK]; k_is) (by rw [hK]; k_is) ((fs_struct hK).up (by omega)) (EL.cons (ES.glob (.int 10) (by rfl) (by rw [hK]; k_is) (GV.int _ _) (by rfl)) (EL.cons (ES.tuple (EL.cons (ES.loc 2 (by rfl) (by rfl)) (EL.cons (ES.loc 3 (by rfl) (by rfl)) EL.nil (by intro _; rfl)) (by intro _; rfl))) EL.nil (by intro _; rfl)) (by intro _; rfl)) (by rfl) (by intro _; rfl)) EL.nil (by intro _; rfl)) (by intro _; rfl))) EL.nil (by intro _; rfl)) (by intro _; rfl) _ (by intro _; rfl)) (by intro _; rfl))
  (SS.cons (SX.setItem (ES.attr (ES.loc 5 (by rfl) (by rfl)) (att_GrammarTree_nodes hK) (by intro _; rfl)) (ES.loc 15 (by rfl) (by rfl)) (ES.meth (ES.loc 5 (by rfl) (by rfl)) (met_GrammarTree_hold hK) ((fs_GrammarTree_hold hK).up (by omega)) (EL.cons ES.str (EL.cons (ES.list (EL.cons (ES.tuple (EL.cons (ES.sub (ES.sub (ES.loc 1 (by rfl) (by rfl)) ES.int (by intro _ _; rfl)) ES.int (by intro _ _; rfl)) (EL.cons (ES.loc 2 (by rfl) (by rfl)) (EL.cons (ES.loc 14 (by rfl) (by rfl)) EL.nil (by intro _; rfl)) (by intro _; rfl)) (by intro _; rfl))) EL.nil (by intro _; rfl))) EL.nil (by intro _; rfl)) (by intro _; rfl)) (by intro _; rfl) _ (by intro _; rfl)) (by intro _; rfl))
  (SS.cons (SX.ret (ES.tuple (EL.cons ES.str (EL.cons (ES.list (EL.cons (ES.loc 15 (by rfl) (by rfl)) (EL.cons (ES.bin (ES.loc 15 (by rfl) (by rfl)) ES.int OpOK.add) EL.nil (by intro _; rfl)) (by intro _; rfl))) EL.nil (by intro _; rfl)) (by intro _; rfl))))
  SS.nil)))))) SS.nil)
  SS.nil)))))) SS.nil)
  (SS.cons (SX.ret (ES.tuple (EL.cons ES.str (EL.cons (ES.call (by rfl) (by rw [hK]; k_is) (by rw [hK]; k_is) ((fs_plain_goal hK).up (by omega)) (EL.cons (ES.loc 0 (by rfl) (by rfl)) (EL.cons (ES.loc 1 (by rfl) (by rfl)) (EL.cons (ES.loc 2 (by rfl) (by rfl)) (EL.cons (ES.loc 3 (by rfl) (by rfl)) EL.nil (by intro _; rfl)) (by intro _; rfl)) (by intro _; rfl)) (by intro _; rfl)) (by rfl) (by intro _; rfl)) EL.nil (by intro _; rfl)) (by intro _; rfl))))
  SS.nil))
theorem fs_grammar_body (hK : c.K = hd.heap_39 P) : FS c (5 + 1) 390 F_grammar_body := by
  unfold F_grammar_body
  apply FS.mk2 (c := c) [(Str.ofString "symbols"), (Str.ofString "term"), (Str.ofString "first"), (Str.ofString "last"), (Str.ofString "new")] [(Str.ofString "tree"), (Str.ofString "place"), (Str.ofString "part"), (Str.ofString "here"), (Str.ofString "there")]
  case ho => rw [hK]; k_is
  case hcd => rw [hK]; k_is
  case hb => exact fun _ _ a0 a1 a2 a3 a4 => BindsTo.of_eq (by rfl)
  case hok => decide
  case h =>
    unfold d_grammar_body
    exact (SS.cons (SX.assign 5 (ES.call (by rfl) (by rw [hK]; k_is) (by rw [hK]; k_is) ((FS.new (mak_GrammarTree hK) (fs_GrammarTree_init hK)).up (by omega)) (EL.cons (ES.loc 1 (by rfl) (by rfl)) (EL.cons (ES.loc 2 (by rfl) (by rfl)) (EL.cons (ES.loc 3 (by rfl) (by rfl)) EL.nil (by intro _; rfl)) (by intro _; rfl)) (by intro _; rfl)) (by rfl) (by intro _; rfl)) (by rfl) (stor (by rfl)) (by intro _; rfl))
  (SS.cons (SX.while (ET.val (ES.attr (ES.loc 5 (by rfl) (by rfl)) (att_GrammarTree_waiting hK) (by intro _; rfl)) (by intro _ _; rfl)) (SS.cons (SX.unpack [((Str.ofString "place"), _, 6), ((Str.ofString "part"), _, 7), ((Str.ofString "here"), _, 8), ((Str.ofString "there"), _, 9)] (ES.methB (ES.attr (ES.loc 5 (by rfl) (by rfl)) (att_GrammarTree_waiting hK) (by intro _; rfl)) MB.pop FB.pop EL.nil (by intro _; rfl) _ (by intro _; rfl)) rfl (by intro x hx; simp only [List.mem_cons, List.not_mem_nil, or_false] at hx; rcases hx with rfl | rfl | rfl | rfl <;> exact ⟨by rfl, (stor (by rfl))⟩) (by intro _; rfl) (by intro _; rfl) (by intro _; rfl))
  (SS.cons (SX.setItem (ES.attr (ES.loc 5 (by rfl) (by rfl)) (att_GrammarTree_nodes hK) (by intro _; rfl)) (ES.loc 6 (by rfl) (by rfl)) (ES.call (by rfl) (by rw [hK]; k_is) (by rw [hK]; k_is) ((fs_grammar_part hK).up (by omega)) (EL.cons (ES.loc 0 (by rfl) (by rfl)) (EL.cons (ES.loc 7 (by rfl) (by rfl)) (EL.cons (ES.loc 8 (by rfl) (by rfl)) (EL.cons (ES.loc 9 (by rfl) (by rfl)) (EL.cons (ES.loc 4 (by rfl) (by rfl)) (EL.cons (ES.loc 5 (by rfl) (by rfl)) EL.nil (by intro _; rfl)) (by intro _; rfl)) (by intro _; rfl)) (by intro _; rfl)) (by intro _; rfl)) (by intro _; rfl)) (by rfl) (by intro _; rfl)) (by intro _; rfl))
  SS.nil)) 3000)
  (SS.cons (SX.ret (ES.meth (ES.loc 5 (by rfl) (by rfl)) (met_GrammarTree_goal hK) ((fs_GrammarTree_goal hK).up (by omega)) EL.nil (by intro _; rfl) _ (by intro _; rfl)))
  SS.nil)))
theorem fs_translate_grammar (hK : c.K = hd.heap_39 P) : FS c (6 + 1) 336 F_translate_grammar := by
  unfold F_translate_grammar
  apply FS.mk2 (c := c) [(Str.ofString "symbols"), (Str.ofString "term"), (Str.ofString "fresh")] [(Str.ofString "new"), (Str.ofString "head"), (Str.ofString "body"), (Str.ofString "pushback"), (Str.ofString "first"), (Str.ofString "last"), (Str.ofString "new_head"), (Str.ofString "middle"), (Str.ofString "goal"), (Str.ofString "back")]
  case ho => rw [hK]; k_is
  case hcd => rw [hK]; k_is
  case hb => exact fun _ _ a0 a1 a2 => BindsTo.of_eq (by rfl)
  case hok => decide
  case h =>
    unfold d_translate_grammar
    exact (SS.cons (SX.iff (ET.or (ET.cmp (ES.sub (ES.loc 1 (by rfl) (by rfl)) ES.int (by intro _ _; rfl)) ES.str CmpOK.neD (by rfl)) (ET.cmp (ES.sub (ES.loc 1 (by rfl) (by rfl)) ES.int (by intro _ _; rfl)) (ES.glob (.int 8) (by rfl) (by rw [hK]; k_is) (GV.int _ _) (by rfl)) CmpOK.neD (by rfl))) (SS.cons (SX.ret (ES.loc 1 (by rfl) (by rfl)))
  SS.nil) SS.nil)
  (SS.cons (SX.assign 3 (ES.call (by rfl) (by rw [hK]; k_is) (by rw [hK]; k_is) ((FS.new (mak_GrammarVariables hK) (fs_GrammarVariables_init hK)).up (by omega)) (EL.cons (ES.loc 2 (by rfl) (by rfl)) (EL.cons (ES.call (by rfl) (by rw [hK]; k_is) (by rw [hK]; k_is) ((fs_variables hK).up (by omega)) (EL.cons (ES.loc 1 (by rfl) (by rfl)) EL.nil (by intro _; rfl)) (by rfl) (by intro _; rfl)) EL.nil (by intro _; rfl)) (by intro _; rfl)) (by rfl) (by intro _; rfl)) (by rfl) (stor (by rfl)) (by intro _; rfl))
  (SS.cons (SX.unpack [((Str.ofString "head"), _, 4), ((Str.ofString "body"), _, 5)] (ES.sub (ES.loc 1 (by rfl) (by rfl)) ES.int (by intro _ _; rfl)) rfl (by intro x hx; simp only [List.mem_cons, List.not_mem_nil, or_false] at hx; rcases hx with rfl | rfl <;> exact ⟨by rfl, (stor (by rfl))⟩) (by intro _; rfl) (by intro _; rfl) (by intro _; rfl))
  (SS.cons (SX.assign 6 ES.none (by rfl) (stor (by rfl)) (by intro _; rfl))
  (SS.cons (SX.iff (ET.and (ET.cmp (ES.sub (ES.loc 4 (by rfl) (by rfl)) ES.int (by intro _ _; rfl)) ES.str CmpOK.eqS (by rfl)) (ET.cmp (ES.sub (ES.loc 4 (by rfl) (by rfl)) ES.int (by intro _ _; rfl)) (ES.glob (.int 1) (by rfl) (by rw [hK]; k_is) (GV.int _ _) (by rfl)) CmpOK.eqI (by rfl))) (SS.cons (SX.unpack [((Str.ofString "head"), _, 4), ((Str.ofString "pushback"), _, 6)] (ES.sub (ES.loc 4 (by rfl) (by rfl)) ES.int (by intro _ _; rfl)) rfl (by intro x hx; simp only [List.mem_cons, List.not_mem_nil, or_false] at hx; rcases hx with rfl | rfl <;> exact ⟨by rfl, (stor (by rfl))⟩) (by intro _; rfl) (by intro _; rfl) (by intro _; rfl))
  SS.nil) SS.nil)
  (SS.cons (SX.iff (ET.cmp (ES.sub (ES.loc 4 (by rfl) (by rfl)) ES.int (by intro _ _; rfl)) ES.str CmpOK.eqS (by rfl)) (SS.cons SX.fail
  SS.nil) SS.nil)
  (SS.cons (SX.iff (ET.not (ET.val (ES.call (by rfl) (by rw [hK]; k_is) (by rw [hK]; k_is) ((fs_is_callable hK).up (by omega)) (EL.cons (ES.loc 4 (by rfl) (by rfl)) EL.nil (by intro _; rfl)) (by rfl) (by intro _; rfl)) (by intro _ _; rfl))) (SS.cons SX.fail
  SS.nil) SS.nil)
  (SS.cons (SX.assign 7 (ES.meth (ES.loc 3 (by rfl) (by rfl)) (met_GrammarVariables_variable hK) ((fs_GrammarVariables_variable hK).up (by omega)) EL.nil (by intro _; rfl) _ (by intro _; rfl)) (by rfl) (stor (by rfl)) (by intro _; rfl))
  (SS.cons (SX.assign 8 (ES.meth (ES.loc 3 (by rfl) (by rfl)) (met_GrammarVariables_variable hK) ((fs_GrammarVariables_variable hK).up (by omega)) EL.nil (by intro _; rfl) _ (by intro _; rfl)) (by rfl) (stor (by rfl)) (by intro _; rfl))
  (SS.cons (SX.assign 9 (ES.call (by rfl) (by rw [hK]; k_is) (by rw [hK]; k_is) ((fs_nonterminal hK).up (by omega)) (EL.cons (ES.loc 0 (by rfl) (by rfl)) (EL.cons (ES.loc 4 (by rfl) (by rfl)) (EL.cons (ES.loc 7 (by rfl) (by rfl)) (EL.cons (ES.loc 8 (by rfl) (by rfl)) EL.nil (by intro _; rfl)) (by intro _; rfl)) (by intro _; rfl)) (by intro _; rfl)) (by rfl) (by intro _; rfl)) (by rfl) (stor (by rfl)) (by intro _; rfl))
  (SS.cons (SX.iff (ET.cmp (ES.loc 6 (by rfl) (by rfl)) ES.none CmpOK.isNone (by rfl)) (SS.cons (SX.ret (ES.call (by rfl) (by rw [hK]; k_is) (by rw [hK]; k_is) ((fs_struct hK).up (by omega)) (EL.cons (ES.glob (.int 5) (by rfl) (by rw [hK]; k_is) (GV.int _ _) (by rfl)) (EL.cons (ES.tuple (EL.cons (ES.loc 9 (by rfl) (by rfl)) (EL.cons (ES.call (by rfl) (by rw [hK]; k_is) (by rw [hK]; k_is) ((fs_grammar_body hK).up (by omega)) (EL.cons (ES.loc 0 (by rfl) (by rfl)) (EL.cons (ES.loc 5 (by rfl) (by rfl)) (EL.cons (ES.loc 7 (by rfl) (by rfl)) (EL.cons (ES.loc 8 (by rfl) (by rfl)) (EL.cons (ES.loc 3 (by rfl) (by rfl)) EL.nil (by intro _; rfl)) (by intro _; rfl)) (by intro _; rfl)) (by intro _; rfl)) (by intro _; rfl)) (by rfl) (by intro _; rfl)) EL.nil (by intro _; rfl)) (by intro _; rfl))) EL.nil (by intro _; rfl)) (by intro _; rfl)) (by rfl) (by intro _; rfl)))
  SS.nil) SS.nil)
  (SS.cons (SX.assign 10 (ES.meth (ES.loc 3 (by rfl) (by rfl)) (met_GrammarVariables_variable hK) ((fs_GrammarVariables_variable hK).up (by omega)) EL.nil (by intro _; rfl) _ (by intro _; rfl)) (by rfl) (stor (by rfl)) (by intro _; rfl))
  (SS.cons (SX.assign 11 (ES.call (by rfl) (by rw [hK]; k_is) (by rw [hK]; k_is) ((fs_grammar_body hK).up (by omega)) (EL.cons (ES.loc 0 (by rfl) (by rfl)) (EL.cons (ES.loc 5 (by rfl) (by rfl)) (EL.cons (ES.loc 7 (by rfl) (by rfl)) (EL.cons (ES.loc 10 (by rfl) (by rfl)) (EL.cons (ES.loc 3 (by rfl) (by rfl)) EL.nil (by intro _; rfl)) (by intro _; rfl)) (by intro _; rfl)) (by intro _; rfl)) (by intro _; rfl)) (by rfl) (by intro _; rfl)) (by rfl) (stor (by rfl)) (by intro _; rfl))
  (SS.cons (SX.assign 12 (ES.call (by rfl) (by rw [hK]; k_is) (by rw [hK]; k_is) ((fs_terminals hK).up (by omega)) (EL.cons (ES.loc 0 (by rfl) (by rfl)) (EL.cons (ES.loc 6 (by rfl) (by rfl)) (EL.cons (ES.loc 8 (by rfl) (by rfl)) (EL.cons (ES.loc 10 (by rfl) (by rfl)) EL.nil (by intro _; rfl)) (by intro _; rfl)) (by intro _; rfl)) (by intro _; rfl)) (by rfl) (by intro _; rfl)) (by rfl) (stor (by rfl)) (by intro _; rfl))
  (SS.cons (SX.ret (ES.call (by rfl) (by rw [hK]; k_is) (by rw [hK]; k_is) ((fs_struct hK).up (by omega)) (EL.cons (ES.glob (.int 5) (by rfl) (by rw [hK]; k_is) (GV.int _ _) (by rfl)) (EL.cons (ES.tuple (EL.cons (ES.loc 9 (by rfl) (by rfl)) (EL.cons (ES.call (by rfl) (by rw [hK]; k_is) (by rw [hK]; k_is) ((fs_conjunction hK).up (by omega)) (EL.cons (ES.list (EL.cons (ES.loc 11 (by rfl) (by rfl)) (EL.cons (ES.loc 12 (by rfl) (by rfl)) EL.nil (by intro _; rfl)) (by intro _; rfl))) EL.nil (by intro _; rfl)) (by rfl) (by intro _; rfl)) EL.nil (by intro _; rfl)) (by intro _; rfl))) EL.nil (by intro _; rfl)) (by intro _; rfl)) (by rfl) (by intro _; rfl)))
  SS.nil)))))))))))))))
theorem fs_law_coins (hK : c.K = hd.heap_39 P) : FS c (0 + 1) 409 F_law_coins := by
  unfold F_law_coins
  apply FS.mk2 (c := c) [(Str.ofString "script")] [(Str.ofString "coins"), (Str.ofString "cell"), (Str.ofString "left"), (Str.ofString "lap")]
  case ho => rw [hK]; k_is
  case hcd => rw [hK]; k_is
  case hb => exact fun _ _ a0 => BindsTo.of_eq (by rfl)
  case hok => decide
  case h =>
    unfold d_law_coins
    exact (SS.cons (SX.assign 1 (ES.list EL.nil) (by rfl) (stor (by rfl)) (by intro _; rfl))
  (SS.cons (SX.for 2 (EI.val (ES.sliceL (n := 60) (ES.loc 0 (by rfl) (by rfl)) (by intro _ _; rfl))) (by rfl) (stor (by rfl)) (SS.cons (SX.assign 3 (ES.callB (by rfl) (by rw [hK]; k_is) Boot.«abs» FB.abs (EL.cons (ES.loc 2 (by rfl) (by rfl)) EL.nil (by intro _; rfl)) (by rfl) (by decide) (by rfl) (by intro _; rfl)) (by rfl) (stor (by rfl)) (by intro _; rfl))
  (SS.cons (SX.for 4 (EI.range (by rfl) (by rw [hK]; k_is) (EL.cons ES.int EL.nil (by intro _; rfl)) (by intro _; rfl)) (by rfl) (stor (by rfl)) (SS.cons (SX.expr (ES.methB (ES.loc 1 (by rfl) (by rfl)) MB.append FB.append (EL.cons (ES.bin (ES.loc 3 (by rfl) (by rfl)) ES.int OpOK.mod) EL.nil (by intro _; rfl)) (by intro _; rfl) _ (by intro _; rfl)) (by intro _; rfl))
  (SS.cons (SX.assign 3 (ES.bin (ES.loc 3 (by rfl) (by rfl)) ES.int OpOK.div) (by rfl) (stor (by rfl)) (by intro _; rfl))
  (SS.cons (SX.iff (ET.cmp (ES.loc 3 (by rfl) (by rfl)) ES.int CmpOK.eqI (by rfl)) (SS.cons SX.brk
  SS.nil) SS.nil)
  SS.nil))) (by intro _ _; rfl) 3000)
  (SS.cons (SX.iff (ET.cmp (ES.callB (by rfl) (by rw [hK]; k_is) Boot.«len» FB.len (EL.cons (ES.loc 1 (by rfl) (by rfl)) EL.nil (by intro _; rfl)) (by rfl) (by decide) (by rfl) (by intro _; rfl)) ES.int CmpOK.gtI (by rfl)) (SS.cons SX.brk
  SS.nil) SS.nil)
  SS.nil))) (by intro _ _; rfl) 3000)
  (SS.cons (SX.expr (ES.methB (ES.loc 1 (by rfl) (by rfl)) MB.reverse FB.reverse EL.nil (by intro _; rfl) _ (by intro _; rfl)) (by intro _; rfl))
  (SS.cons (SX.ret (ES.loc 1 (by rfl) (by rfl)))
  SS.nil))))
theorem fs_law_coin (hK : c.K = hd.heap_39 P) : FS c (0 + 1) 416 F_law_coin := by
  unfold F_law_coin
  apply FS.mk2 (c := c) [(Str.ofString "coins"), (Str.ofString "sides")] []
  case ho => rw [hK]; k_is
  case hcd => rw [hK]; k_is
  case hb => exact fun _ _ a0 a1 => BindsTo.of_eq (by rfl)
  case hok => decide
  case h =>
    unfold d_law_coin
    exact (SS.cons (SX.ret (ES.ifx (ET.cmp (ES.loc 0 (by rfl) (by rfl)) (ES.list EL.nil) CmpOK.neD (by rfl)) (ES.bin (ES.methB (ES.loc 0 (by rfl) (by rfl)) MB.pop FB.pop EL.nil (by intro _; rfl) _ (by intro _; rfl)) (ES.loc 1 (by rfl) (by rfl)) OpOK.mod) ES.int))
  SS.nil)
theorem fs_law_shown_step {n : Nat} {Fr : Fn} (hK : c.K = hd.heap_39 P) (hrec : FS c (n + 0) 423 Fr) : FS c (n + 1 + 0) 423 (fDef 3 1 (d_law_shown Fr)) := by
  rw [show n + 1 + 0 = (n + 0) + 1 by omega]
  apply FS.mk2 (c := c) [(Str.ofString "term"), (Str.ofString "numbers"), (Str.ofString "line")] [(Str.ofString "part")]
  case ho => rw [hK]; k_is
  case hcd => rw [hK]; k_is
  case hb => exact fun _ _ a0 a1 a2 => BindsTo.of_eq (by rfl)
  case hok => decide
  case h =>
    unfold d_law_shown
    exact (SS.cons (SX.iff (ET.cmp (ES.sub (ES.loc 0 (by rfl) (by rfl)) ES.int (by intro _ _; rfl)) ES.str CmpOK.eqS (by rfl)) (SS.cons (SX.expr (ES.methB (ES.loc 2 (by rfl) (by rfl)) MB.append FB.append (EL.cons (ES.methB (ES.loc 1 (by rfl) (by rfl)) MB.setdefault FB.setdefault (EL.cons (ES.sub (ES.loc 0 (by rfl) (by rfl)) ES.int (by intro _ _; rfl)) (EL.cons (ES.callB (by rfl) (by rw [hK]; k_is) Boot.«len» FB.len (EL.cons (ES.loc 2 (by rfl) (by rfl)) EL.nil (by intro _; rfl)) (by rfl) (by decide) (by rfl) (by intro _; rfl)) EL.nil (by intro _; rfl)) (by intro _; rfl)) (by intro _; rfl) _ (by intro _; rfl)) EL.nil (by intro _; rfl)) (by intro _; rfl) _ (by intro _; rfl)) (by intro _; rfl))
  (SS.cons SX.ret0
  SS.nil)) SS.nil)
  (SS.cons (SX.expr (ES.methB (ES.loc 2 (by rfl) (by rfl)) MB.append FB.append (EL.cons (ES.sliceT (n := 2) (ES.loc 0 (by rfl) (by rfl)) (by intro _ _; rfl)) EL.nil (by intro _; rfl)) (by intro _; rfl) _ (by intro _; rfl)) (by intro _; rfl))
  (SS.cons (SX.for 3 (EI.val (ES.ifx (ET.cmp (ES.sub (ES.loc 0 (by rfl) (by rfl)) ES.int (by intro _ _; rfl)) ES.str CmpOK.eqS (by rfl)) (ES.sub (ES.loc 0 (by rfl) (by rfl)) ES.int (by intro _ _; rfl)) (ES.tuple EL.nil))) (by rfl) (stor (by rfl)) (SS.cons (SX.expr (ES.call (by rfl) (by rw [hK]; k_is) (by rw [hK]; k_is) hrec (EL.cons (ES.loc 3 (by rfl) (by rfl)) (EL.cons (ES.loc 1 (by rfl) (by rfl)) (EL.cons (ES.loc 2 (by rfl) (by rfl)) EL.nil (by intro _; rfl)) (by intro _; rfl)) (by intro _; rfl)) (by rfl) (by intro _; rfl)) (by intro _; rfl))
  SS.nil) (by intro _ _; rfl) 3000)
  SS.nil)))
theorem fs_law_shown {n : Nat} (hK : c.K = hd.heap_39 P) : FS c (n + 0) 423 (F_law_shown n) := by
  induction n with
  | zero => intro A T ρ H s svs vals v H' _ _ _ _ e; cases e
  | succ n ih => exact fs_law_shown_step hK ih
theorem fs_law_other_step {n : Nat} {Fr : Fn} (hK : c.K = hd.heap_39 P) (hrec : FS c (n + 0) 428 Fr) : FS c (n + 1 + 0) 428 (fDef 3 0 (d_law_other Fr)) := by
  rw [show n + 1 + 0 = (n + 0) + 1 by omega]
  apply FS.mk2 (c := c) [(Str.ofString "term"), (Str.ofString "times"), (Str.ofString "plus")] []
  case ho => rw [hK]; k_is
  case hcd => rw [hK]; k_is
  case hb => exact fun _ _ a0 a1 a2 => BindsTo.of_eq (by rfl)
  case hok => decide
  case h =>
    unfold d_law_other
    exact (SS.cons (SX.iff (ET.cmp (ES.sub (ES.loc 0 (by rfl) (by rfl)) ES.int (by intro _ _; rfl)) ES.str CmpOK.eqS (by rfl)) (SS.cons (SX.ret (ES.tuple (EL.cons ES.str (EL.cons (ES.sub (ES.loc 0 (by rfl) (by rfl)) ES.int (by intro _ _; rfl)) (EL.cons (ES.callB (by rfl) (by rw [hK]; k_is) Boot.«tuple» FB.tuple (EL.cons (ES.comp [(Str.ofString "times"), (Str.ofString "plus")] [1, 2] 3000 (by rfl) (EI.val (ES.sub (ES.loc 0 (by rfl) (by rfl)) ES.int (by intro _ _; rfl))) CT.nil (ES.call (by rfl) (by rw [hK]; k_is) (by rw [hK]; k_is) hrec (EL.cons (ES.loc 0 (by rfl) (by rfl)) (EL.cons (ES.loc 1 (by rfl) (by rfl)) (EL.cons (ES.loc 2 (by rfl) (by rfl)) EL.nil (by intro _; rfl)) (by intro _; rfl)) (by intro _; rfl)) (by rfl) (by intro _; rfl)) (by intro _ _; rfl)) EL.nil (by intro _; rfl)) (by rfl) (by decide) (by rfl) (by intro _; rfl)) EL.nil (by intro _; rfl)) (by intro _; rfl)) (by intro _; rfl))))
  SS.nil) SS.nil)
  (SS.cons (SX.ret (ES.ifx (ET.cmp (ES.sub (ES.loc 0 (by rfl) (by rfl)) ES.int (by intro _ _; rfl)) ES.str CmpOK.eqS (by rfl)) (ES.tuple (EL.cons ES.str (EL.cons (ES.bin (ES.bin (ES.sub (ES.loc 0 (by rfl) (by rfl)) ES.int (by intro _ _; rfl)) (ES.loc 1 (by rfl) (by rfl)) OpOK.mul) (ES.loc 2 (by rfl) (by rfl)) OpOK.add) EL.nil (by intro _; rfl)) (by intro _; rfl))) (ES.loc 0 (by rfl) (by rfl))))
  SS.nil))
theorem fs_law_other {n : Nat} (hK : c.K = hd.heap_39 P) : FS c (n + 0) 428 (F_law_other n) := by
  induction n with
  | zero => intro A T ρ H s svs vals v H' _ _ _ _ e; cases e
  | succ n ih => exact fs_law_other_step hK ih
theorem fs_law_texts (hK : c.K = hd.heap_39 P) : FS c (1 + 1) 435 F_law_texts := by
  unfold F_law_texts
  apply FS.mk2 (c := c) [(Str.ofString "coins")] [(Str.ofString "made"), (Str.ofString "lap")]
  case ho => rw [hK]; k_is
  case hcd => rw [hK]; k_is
  case hb => exact fun _ _ a0 => BindsTo.of_eq (by rfl)
  case hok => decide
  case h =>
    unfold d_law_texts
    exact (SS.cons (SX.assign 1 (ES.tuple (EL.cons ES.str (EL.cons (ES.glob (.int 0) (by rfl) (by rw [hK]; k_is) (GV.int _ _) (by rfl)) EL.nil (by intro _; rfl)) (by intro _; rfl))) (by rfl) (stor (by rfl)) (by intro _; rfl))
  (SS.cons (SX.for 2 (EI.range (by rfl) (by rw [hK]; k_is) (EL.cons (ES.bin ES.int (ES.call (by rfl) (by rw [hK]; k_is) (by rw [hK]; k_is) ((fs_law_coin hK).up (by omega)) (EL.cons (ES.loc 0 (by rfl) (by rfl)) (EL.cons ES.int EL.nil (by intro _; rfl)) (by intro _; rfl)) (by rfl) (by intro _; rfl)) OpOK.add) EL.nil (by intro _; rfl)) (by intro _; rfl)) (by rfl) (stor (by rfl)) (SS.cons (SX.assign 1 (ES.tuple (EL.cons ES.str (EL.cons (ES.glob (.int 0) (by rfl) (by rw [hK]; k_is) (GV.int _ _) (by rfl)) (EL.cons (ES.tuple (EL.cons (ES.sub (ES.list (EL.cons (ES.tuple (EL.cons ES.str (EL.cons ES.int EL.nil (by intro _; rfl)) (by intro _; rfl))) (EL.cons (ES.tuple (EL.cons ES.str (EL.cons ES.int EL.nil (by intro _; rfl)) (by intro _; rfl))) EL.nil (by intro _; rfl)) (by intro _; rfl))) (ES.call (by rfl) (by rw [hK]; k_is) (by rw [hK]; k_is) ((fs_law_coin hK).up (by omega)) (EL.cons (ES.loc 0 (by rfl) (by rfl)) (EL.cons ES.int EL.nil (by intro _; rfl)) (by intro _; rfl)) (by rfl) (by intro _; rfl)) (by intro _ _; rfl)) (EL.cons (ES.loc 1 (by rfl) (by rfl)) EL.nil (by intro _; rfl)) (by intro _; rfl))) EL.nil (by intro _; rfl)) (by intro _; rfl)) (by intro _; rfl))) (by rfl) (stor (by rfl)) (by intro _; rfl))
  SS.nil) (by intro _ _; rfl) 3000)
  (SS.cons (SX.ret (ES.loc 1 (by rfl) (by rfl)))
  SS.nil)))
theorem fs_law_rule_part_step {n : Nat} {Fr : Fn} (hK : c.K = hd.heap_39 P) (hrec : FS c (n + 2) 440 Fr) : FS c (n + 1 + 2) 440 (fDef 3 3 (d_law_rule_part Fr)) := by
  rw [show n + 1 + 2 = (n + 2) + 1 by omega]
  apply FS.mk2 (c := c) [(Str.ofString "coins"), (Str.ofString "signs"), (Str.ofString "deep")] [(Str.ofString "way"), (Str.ofString "left"), (Str.ofString "joint")]
  case ho => rw [hK]; k_is
  case hcd => rw [hK]; k_is
  case hb => exact fun _ _ a0 a1 a2 => BindsTo.of_eq (by rfl)
  case hok => decide
  case h =>
    unfold d_law_rule_part
    exact (SS.cons (SX.assign 3 (ES.call (by rfl) (by rw [hK]; k_is) (by rw [hK]; k_is) ((fs_law_coin hK).up (by omega)) (EL.cons (ES.loc 0 (by rfl) (by rfl)) (EL.cons (ES.ifx (ET.cmp (ES.loc 2 (by rfl) (by rfl)) ES.int CmpOK.gtI (by rfl)) ES.int ES.int) EL.nil (by intro _; rfl)) (by intro _; rfl)) (by rfl) (by intro _; rfl)) (by rfl) (stor (by rfl)) (by intro _; rfl))
  (SS.cons (SX.iff (ET.cmp (ES.loc 3 (by rfl) (by rfl)) ES.int CmpOK.eqI (by rfl)) (SS.cons (SX.ret (ES.call (by rfl) (by rw [hK]; k_is) (by rw [hK]; k_is) ((fs_law_texts hK).up (by omega)) (EL.cons (ES.loc 0 (by rfl) (by rfl)) EL.nil (by intro _; rfl)) (by rfl) (by intro _; rfl)))
  SS.nil) SS.nil)
  (SS.cons (SX.iff (ET.or (ET.cmp (ES.loc 3 (by rfl) (by rfl)) ES.int CmpOK.eqI (by rfl)) (ET.cmp (ES.loc 3 (by rfl) (by rfl)) ES.int CmpOK.eqI (by rfl))) (SS.cons (SX.ret (ES.tuple (EL.cons ES.str (EL.cons (ES.meth (ES.loc 1 (by rfl) (by rfl)) (met_Symbols_func hK) ((fs_Symbols_func hK).up (by omega)) (EL.cons ES.str (EL.cons (ES.loc 3 (by rfl) (by rfl)) EL.nil (by intro _; rfl)) (by intro _; rfl)) (by intro _; rfl) _ (by intro _; rfl)) (EL.cons (ES.callB (by rfl) (by rw [hK]; k_is) Boot.«tuple» FB.tuple (EL.cons (ES.comp [(Str.ofString "coins")] [0] 3000 (by rfl) (EI.range (by rfl) (by rw [hK]; k_is) (EL.cons (ES.loc 3 (by rfl) (by rfl)) EL.nil (by intro _; rfl)) (by intro _; rfl)) CT.nil (ES.tuple (EL.cons ES.str (EL.cons (ES.call (by rfl) (by rw [hK]; k_is) (by rw [hK]; k_is) ((fs_law_coin hK).up (by omega)) (EL.cons (ES.loc 1 (by rfl) (by rfl)) (EL.cons ES.int EL.nil (by intro _; rfl)) (by intro _; rfl)) (by rfl) (by intro _; rfl)) EL.nil (by intro _; rfl)) (by intro _; rfl))) (by intro _ _; rfl)) EL.nil (by intro _; rfl)) (by rfl) (by decide) (by rfl) (by intro _; rfl)) EL.nil (by intro _; rfl)) (by intro _; rfl)) (by intro _; rfl))))
  SS.nil) SS.nil)
  (SS.cons (SX.iff (ET.cmp (ES.loc 3 (by rfl) (by rfl)) ES.int CmpOK.ltI (by rfl)) (SS.cons (SX.ret (ES.sub (ES.list (EL.cons (ES.tuple (EL.cons ES.str (EL.cons (ES.call (by rfl) (by rw [hK]; k_is) (by rw [hK]; k_is) ((fs_law_coin hK).up (by omega)) (EL.cons (ES.loc 0 (by rfl) (by rfl)) (EL.cons ES.int EL.nil (by intro _; rfl)) (by intro _; rfl)) (by rfl) (by intro _; rfl)) EL.nil (by intro _; rfl)) (by intro _; rfl))) (EL.cons (ES.tuple (EL.cons ES.str (EL.cons (ES.glob (.int 15) (by rfl) (by rw [hK]; k_is) (GV.int _ _) (by rfl)) EL.nil (by intro _; rfl)) (by intro _; rfl))) (EL.cons (ES.tuple (EL.cons ES.str (EL.cons (ES.glob (.int 9) (by rfl) (by rw [hK]; k_is) (GV.int _ _) (by rfl)) (EL.cons (ES.tuple (EL.cons (ES.tuple (EL.cons ES.str (EL.cons ES.int EL.nil (by intro _; rfl)) (by intro _; rfl))) EL.nil (by intro _; rfl))) EL.nil (by intro _; rfl)) (by intro _; rfl)) (by intro _; rfl))) EL.nil (by intro _; rfl)) (by intro _; rfl)) (by intro _; rfl))) (ES.bin (ES.loc 3 (by rfl) (by rfl)) ES.int OpOK.sub) (by intro _ _; rfl)))
  SS.nil) SS.nil)
  (SS.cons (SX.assign 4 (ES.call (by rfl) (by rw [hK]; k_is) (by rw [hK]; k_is) hrec (EL.cons (ES.loc 0 (by rfl) (by rfl)) (EL.cons (ES.loc 1 (by rfl) (by rfl)) (EL.cons (ES.bin (ES.loc 2 (by rfl) (by rfl)) ES.int OpOK.sub) EL.nil (by intro _; rfl)) (by intro _; rfl)) (by intro _; rfl)) (by rfl) (by intro _; rfl)) (by rfl) (stor (by rfl)) (by intro _; rfl))
  (SS.cons (SX.iff (ET.cmp (ES.loc 3 (by rfl) (by rfl)) ES.int CmpOK.eqI (by rfl)) (SS.cons (SX.ret (ES.tuple (EL.cons ES.str (EL.cons (ES.glob (.int 4) (by rfl) (by rw [hK]; k_is) (GV.int _ _) (by rfl)) (EL.cons (ES.tuple (EL.cons (ES.loc 4 (by rfl) (by rfl)) EL.nil (by intro _; rfl))) EL.nil (by intro _; rfl)) (by intro _; rfl)) (by intro _; rfl))))
  SS.nil) SS.nil)
  (SS.cons (SX.assign 5 (ES.sub (ES.list (EL.cons (ES.glob (.int 1) (by rfl) (by rw [hK]; k_is) (GV.int _ _) (by rfl)) (EL.cons (ES.glob (.int 1) (by rfl) (by rw [hK]; k_is) (GV.int _ _) (by rfl)) (EL.cons (ES.glob (.int 2) (by rfl) (by rw [hK]; k_is) (GV.int _ _) (by rfl)) (EL.cons (ES.glob (.int 3) (by rfl) (by rw [hK]; k_is) (GV.int _ _) (by rfl)) EL.nil (by intro _; rfl)) (by intro _; rfl)) (by intro _; rfl)) (by intro _; rfl))) (ES.bin (ES.loc 3 (by rfl) (by rfl)) ES.int OpOK.sub) (by intro _ _; rfl)) (by rfl) (stor (by rfl)) (by intro _; rfl))
  (SS.cons (SX.ret (ES.tuple (EL.cons ES.str (EL.cons (ES.loc 5 (by rfl) (by rfl)) (EL.cons (ES.tuple (EL.cons (ES.loc 4 (by rfl) (by rfl)) (EL.cons (ES.call (by rfl) (by rw [hK]; k_is) (by rw [hK]; k_is) hrec (EL.cons (ES.loc 0 (by rfl) (by rfl)) (EL.cons (ES.loc 1 (by rfl) (by rfl)) (EL.cons (ES.bin (ES.loc 2 (by rfl) (by rfl)) ES.int OpOK.sub) EL.nil (by intro _; rfl)) (by intro _; rfl)) (by intro _; rfl)) (by rfl) (by intro _; rfl)) EL.nil (by intro _; rfl)) (by intro _; rfl))) EL.nil (by intro _; rfl)) (by intro _; rfl)) (by intro _; rfl))))
  SS.nil))))))))
theorem fs_law_rule_part {n : Nat} (hK : c.K = hd.heap_39 P) : FS c (n + 2) 440 (F_law_rule_part n) := by
  induction n with
  | zero => intro A T ρ H s svs vals v H' _ _ _ _ e; cases e
  | succ n ih => exact fs_law_rule_part_step hK ih
theorem fs_law_clause_line (hK : c.K = hd.heap_39 P) : FS c (130 + 1) 445 F_law_clause_line := by
  unfold F_law_clause_line
  apply FS.mk2 (c := c) [(Str.ofString "clause"), (Str.ofString "own_ones"), (Str.ofString "times"), (Str.ofString "plus")] [(Str.ofString "numbers"), (Str.ofString "number"), (Str.ofString "line"), (Str.ofString "added")]
  case ho => rw [hK]; k_is
  case hcd => rw [hK]; k_is
  case hb => exact fun _ _ a0 a1 a2 a3 => BindsTo.of_eq (by rfl)
  case hok => decide
  case h =>
    unfold d_law_clause_line
    exact (SS.cons (SX.assign 4 (ES.empty .I) (by rfl) (stor (by rfl)) (by intro _; rfl))
  (SS.cons (SX.for 5 (EI.val (ES.loc 1 (by rfl) (by rfl))) (by rfl) (stor (by rfl)) (SS.cons (SX.setItem (ES.loc 4 (by rfl) (by rfl)) (ES.bin (ES.bin (ES.loc 5 (by rfl) (by rfl)) (ES.loc 2 (by rfl) (by rfl)) OpOK.mul) (ES.loc 3 (by rfl) (by rfl)) OpOK.add) (ES.tuple (EL.cons ES.str (EL.cons (ES.loc 5 (by rfl) (by rfl)) EL.nil (by intro _; rfl)) (by intro _; rfl))) (by intro _; rfl))
  SS.nil) (by intro _ _; rfl) 3000)
  (SS.cons (SX.assign 6 (ES.list EL.nil) (by rfl) (stor (by rfl)) (by intro _; rfl))
  (SS.cons (SX.expr (ES.call (by rfl) (by rw [hK]; k_is) (by rw [hK]; k_is) ((fs_law_shown (n := 130) hK).up (by omega)) (EL.cons (ES.loc 0 (by rfl) (by rfl)) (EL.cons (ES.loc 4 (by rfl) (by rfl)) (EL.cons (ES.loc 6 (by rfl) (by rfl)) EL.nil (by intro _; rfl)) (by intro _; rfl)) (by intro _; rfl)) (by rfl) (by intro _; rfl)) (by intro _; rfl))
  (SS.cons (SX.assignComp 7 (CE.keys [(Str.ofString "numbers")] [4] (by rfl) (ES.loc 4 (by rfl) (by rfl)) (RT.isInt 1 0 rfl rfl (by rfl) (by rfl) (by rw [hK]; k_is) (by rw [hK]; k_is) (by rfl) (by rfl) (by rfl) (by rfl) (by intro _ _; rfl) (by intro _ _; rfl)) (by rfl) (by intro _ _; rfl)) (by rfl) (stor (by rfl)) (by intro env h; cases env; cases h; rfl))
  (SS.cons (SX.ret (ES.tuple (EL.cons (ES.loc 6 (by rfl) (by rfl)) (EL.cons (ES.loc 7 (by rfl) (by rfl)) EL.nil (by intro _; rfl)) (by intro _; rfl))))
  SS.nil))))))
theorem fs_law (hK : c.K = hd.heap_39 P) : FS c (132 + 1) 450 F_law := by
  unfold F_law
  apply FS.mk2 (c := c) [(Str.ofString "script")] [(Str.ofString "coins"), (Str.ofString "signs"), (Str.ofString "one_first"), (Str.ofString "many"), (Str.ofString "args"), (Str.ofString "left"), (Str.ofString "rule"), (Str.ofString "two_first"), (Str.ofString "times"), (Str.ofString "plus"), (Str.ofString "second"), (Str.ofString "shown"), (Str.ofString "own_ones"), (Str.ofString "counter"), (Str.ofString "first_line"), (Str.ofString "next_line"), (Str.ofString "third_line")]
  case ho => rw [hK]; k_is
  case hcd => rw [hK]; k_is
  case hb => exact fun _ _ a0 => BindsTo.of_eq (by rfl)
  case hok => decide
  case h =>
    unfold d_law
    exact (SS.cons (SX.assign 1 (ES.call (by rfl) (by rw [hK]; k_is) (by rw [hK]; k_is) ((fs_law_coins hK).up (by omega)) (EL.cons (ES.loc 0 (by rfl) (by rfl)) EL.nil (by intro _; rfl)) (by rfl) (by intro _; rfl)) (by rfl) (stor (by rfl)) (by intro _; rfl))
  (SS.cons (SX.assign 2 (ES.call (by rfl) (by rw [hK]; k_is) (by rw [hK]; k_is) ((FS.new (mak_Symbols hK) (fs_Symbols_init hK)).up (by omega)) EL.nil (by rfl) (by intro _; rfl)) (by rfl) (stor (by rfl)) (by intro _; rfl))
  (SS.cons (SX.assign 3 (ES.call (by rfl) (by rw [hK]; k_is) (by rw [hK]; k_is) ((fs_law_coin hK).up (by omega)) (EL.cons (ES.loc 1 (by rfl) (by rfl)) (EL.cons ES.int EL.nil (by intro _; rfl)) (by intro _; rfl)) (by rfl) (by intro _; rfl)) (by rfl) (stor (by rfl)) (by intro _; rfl))
  (SS.cons (SX.assign 4 (ES.call (by rfl) (by rw [hK]; k_is) (by rw [hK]; k_is) ((fs_law_coin hK).up (by omega)) (EL.cons (ES.loc 1 (by rfl) (by rfl)) (EL.cons ES.int EL.nil (by intro _; rfl)) (by intro _; rfl)) (by rfl) (by intro _; rfl)) (by rfl) (stor (by rfl)) (by intro _; rfl))
  (SS.cons (SX.assign 5 (ES.callB (by rfl) (by rw [hK]; k_is) Boot.«tuple» FB.tuple (EL.cons (ES.comp [(Str.ofString "coins")] [1] 3000 (by rfl) (EI.range (by rfl) (by rw [hK]; k_is) (EL.cons (ES.loc 4 (by rfl) (by rfl)) EL.nil (by intro _; rfl)) (by intro _; rfl)) CT.nil (ES.tuple (EL.cons ES.str (EL.cons (ES.call (by rfl) (by rw [hK]; k_is) (by rw [hK]; k_is) ((fs_law_coin hK).up (by omega)) (EL.cons (ES.loc 1 (by rfl) (by rfl)) (EL.cons ES.int EL.nil (by intro _; rfl)) (by intro _; rfl)) (by rfl) (by intro _; rfl)) EL.nil (by intro _; rfl)) (by intro _; rfl))) (by intro _ _; rfl)) EL.nil (by intro _; rfl)) (by rfl) (by decide) (by rfl) (by intro _; rfl)) (by rfl) (stor (by rfl)) (by intro _; rfl))
  (SS.cons (SX.assign 6 (ES.ifx (ET.cmp (ES.loc 4 (by rfl) (by rfl)) ES.int CmpOK.gtI (by rfl)) (ES.tuple (EL.cons ES.str (EL.cons (ES.meth (ES.loc 2 (by rfl) (by rfl)) (met_Symbols_func hK) ((fs_Symbols_func hK).up (by omega)) (EL.cons ES.str (EL.cons (ES.loc 4 (by rfl) (by rfl)) EL.nil (by intro _; rfl)) (by intro _; rfl)) (by intro _; rfl) _ (by intro _; rfl)) (EL.cons (ES.loc 5 (by rfl) (by rfl)) EL.nil (by intro _; rfl)) (by intro _; rfl)) (by intro _; rfl))) (ES.tuple (EL.cons ES.str (EL.cons (ES.meth (ES.loc 2 (by rfl) (by rfl)) (met_Symbols_atom hK) ((fs_Symbols_atom hK).up (by omega)) (EL.cons ES.str EL.nil (by intro _; rfl)) (by intro _; rfl) _ (by intro _; rfl)) EL.nil (by intro _; rfl)) (by intro _; rfl)))) (by rfl) (stor (by rfl)) (by intro _; rfl))
  (SS.cons (SX.iff (ET.cmp (ES.call (by rfl) (by rw [hK]; k_is) (by rw [hK]; k_is) ((fs_law_coin hK).up (by omega)) (EL.cons (ES.loc 1 (by rfl) (by rfl)) (EL.cons ES.int EL.nil (by intro _; rfl)) (by intro _; rfl)) (by rfl) (by intro _; rfl)) ES.int CmpOK.eqI (by rfl)) (SS.cons (SX.assign 6 (ES.tuple (EL.cons ES.str (EL.cons (ES.glob (.int 1) (by rfl) (by rw [hK]; k_is) (GV.int _ _) (by rfl)) (EL.cons (ES.tuple (EL.cons (ES.loc 6 (by rfl) (by rfl)) (EL.cons (ES.call (by rfl) (by rw [hK]; k_is) (by rw [hK]; k_is) ((fs_law_texts hK).up (by omega)) (EL.cons (ES.loc 1 (by rfl) (by rfl)) EL.nil (by intro _; rfl)) (by rfl) (by intro _; rfl)) EL.nil (by intro _; rfl)) (by intro _; rfl))) EL.nil (by intro _; rfl)) (by intro _; rfl)) (by intro _; rfl))) (by rfl) (stor (by rfl)) (by intro _; rfl))
  SS.nil) SS.nil)
  (SS.cons (SX.assign 7 (ES.tuple (EL.cons ES.str (EL.cons (ES.glob (.int 8) (by rfl) (by rw [hK]; k_is) (GV.int _ _) (by rfl)) (EL.cons (ES.tuple (EL.cons (ES.loc 6 (by rfl) (by rfl)) (EL.cons (ES.call (by rfl) (by rw [hK]; k_is) (by rw [hK]; k_is) ((fs_law_rule_part (n := 130) hK).up (by omega)) (EL.cons (ES.loc 1 (by rfl) (by rfl)) (EL.cons (ES.loc 2 (by rfl) (by rfl)) (EL.cons ES.int EL.nil (by intro _; rfl)) (by intro _; rfl)) (by intro _; rfl)) (by rfl) (by intro _; rfl)) EL.nil (by intro _; rfl)) (by intro _; rfl))) EL.nil (by intro _; rfl)) (by intro _; rfl)) (by intro _; rfl))) (by rfl) (stor (by rfl)) (by intro _; rfl))
  (SS.cons (SX.assign 8 (ES.call (by rfl) (by rw [hK]; k_is) (by rw [hK]; k_is) ((fs_law_coin hK).up (by omega)) (EL.cons (ES.loc 1 (by rfl) (by rfl)) (EL.cons ES.int EL.nil (by intro _; rfl)) (by intro _; rfl)) (by rfl) (by intro _; rfl)) (by rfl) (stor (by rfl)) (by intro _; rfl))
  (SS.cons (SX.assign 9 (ES.bin ES.int (ES.call (by rfl) (by rw [hK]; k_is) (by rw [hK]; k_is) ((fs_law_coin hK).up (by omega)) (EL.cons (ES.loc 1 (by rfl) (by rfl)) (EL.cons ES.int EL.nil (by intro _; rfl)) (by intro _; rfl)) (by rfl) (by intro _; rfl)) OpOK.add) (by rfl) (stor (by rfl)) (by intro _; rfl))
  (SS.cons (SX.assign 10 (ES.call (by rfl) (by rw [hK]; k_is) (by rw [hK]; k_is) ((fs_law_coin hK).up (by omega)) (EL.cons (ES.loc 1 (by rfl) (by rfl)) (EL.cons ES.int EL.nil (by intro _; rfl)) (by intro _; rfl)) (by rfl) (by intro _; rfl)) (by rfl) (stor (by rfl)) (by intro _; rfl))
  (SS.cons (SX.assign 11 (ES.call (by rfl) (by rw [hK]; k_is) (by rw [hK]; k_is) ((fs_law_other (n := 130) hK).up (by omega)) (EL.cons (ES.loc 7 (by rfl) (by rfl)) (EL.cons (ES.loc 9 (by rfl) (by rfl)) (EL.cons (ES.loc 10 (by rfl) (by rfl)) EL.nil (by intro _; rfl)) (by intro _; rfl)) (by intro _; rfl)) (by rfl) (by intro _; rfl)) (by rfl) (stor (by rfl)) (by intro _; rfl))
  (SS.cons (SX.assign 12 (ES.empty .I) (by rfl) (stor (by rfl)) (by intro _; rfl))
  (SS.cons (SX.expr (ES.call (by rfl) (by rw [hK]; k_is) (by rw [hK]; k_is) ((fs_law_shown (n := 130) hK).up (by omega)) (EL.cons (ES.loc 7 (by rfl) (by rfl)) (EL.cons (ES.loc 12 (by rfl) (by rfl)) (EL.cons (ES.list EL.nil) EL.nil (by intro _; rfl)) (by intro _; rfl)) (by intro _; rfl)) (by rfl) (by intro _; rfl)) (by intro _; rfl))
  (SS.cons (SX.assign 13 (ES.callB (by rfl) (by rw [hK]; k_is) Boot.«sorted» FB.sorted (EL.cons (ES.loc 12 (by rfl) (by rfl)) EL.nil (by intro _; rfl)) (by rfl) (by decide) (by rfl) (by intro _; rfl)) (by rfl) (stor (by rfl)) (by intro _; rfl))
  (SS.cons (SX.assign 14 (ES.call (by rfl) (by rw [hK]; k_is) (by rw [hK]; k_is) ((FS.new (mak_Fresh hK) (fs_Fresh_init hK)).up (by omega)) (EL.cons (ES.loc 3 (by rfl) (by rfl)) EL.nil (by intro _; rfl)) (by rfl) (by intro _; rfl)) (by rfl) (stor (by rfl)) (by intro _; rfl))
  (SS.cons (SX.assign 15 (ES.call (by rfl) (by rw [hK]; k_is) (by rw [hK]; k_is) ((fs_law_clause_line hK).up (by omega)) (EL.cons (ES.call (by rfl) (by rw [hK]; k_is) (by rw [hK]; k_is) ((fs_translate_grammar hK).up (by omega)) (EL.cons (ES.loc 2 (by rfl) (by rfl)) (EL.cons (ES.loc 7 (by rfl) (by rfl)) (EL.cons (ES.loc 14 (by rfl) (by rfl)) EL.nil (by intro _; rfl)) (by intro _; rfl)) (by intro _; rfl)) (by rfl) (by intro _; rfl)) (EL.cons (ES.loc 13 (by rfl) (by rfl)) (EL.cons ES.int (EL.cons ES.int EL.nil (by intro _; rfl)) (by intro _; rfl)) (by intro _; rfl)) (by intro _; rfl)) (by rfl) (by intro _; rfl)) (by rfl) (stor (by rfl)) (by intro _; rfl))
  (SS.cons (SX.assign 16 (ES.call (by rfl) (by rw [hK]; k_is) (by rw [hK]; k_is) ((fs_law_clause_line hK).up (by omega)) (EL.cons (ES.call (by rfl) (by rw [hK]; k_is) (by rw [hK]; k_is) ((fs_translate_grammar hK).up (by omega)) (EL.cons (ES.loc 2 (by rfl) (by rfl)) (EL.cons (ES.loc 11 (by rfl) (by rfl)) (EL.cons (ES.call (by rfl) (by rw [hK]; k_is) (by rw [hK]; k_is) ((FS.new (mak_Fresh hK) (fs_Fresh_init hK)).up (by omega)) (EL.cons (ES.loc 8 (by rfl) (by rfl)) EL.nil (by intro _; rfl)) (by rfl) (by intro _; rfl)) EL.nil (by intro _; rfl)) (by intro _; rfl)) (by intro _; rfl)) (by rfl) (by intro _; rfl)) (EL.cons (ES.loc 13 (by rfl) (by rfl)) (EL.cons (ES.loc 9 (by rfl) (by rfl)) (EL.cons (ES.loc 10 (by rfl) (by rfl)) EL.nil (by intro _; rfl)) (by intro _; rfl)) (by intro _; rfl)) (by intro _; rfl)) (by rfl) (by intro _; rfl)) (by rfl) (stor (by rfl)) (by intro _; rfl))
  (SS.cons (SX.assign 17 (ES.call (by rfl) (by rw [hK]; k_is) (by rw [hK]; k_is) ((fs_law_clause_line hK).up (by omega)) (EL.cons (ES.call (by rfl) (by rw [hK]; k_is) (by rw [hK]; k_is) ((fs_translate_grammar hK).up (by omega)) (EL.cons (ES.loc 2 (by rfl) (by rfl)) (EL.cons (ES.loc 11 (by rfl) (by rfl)) (EL.cons (ES.loc 14 (by rfl) (by rfl)) EL.nil (by intro _; rfl)) (by intro _; rfl)) (by intro _; rfl)) (by rfl) (by intro _; rfl)) (EL.cons (ES.loc 13 (by rfl) (by rfl)) (EL.cons (ES.loc 9 (by rfl) (by rfl)) (EL.cons (ES.loc 10 (by rfl) (by rfl)) EL.nil (by intro _; rfl)) (by intro _; rfl)) (by intro _; rfl)) (by intro _; rfl)) (by rfl) (by intro _; rfl)) (by rfl) (stor (by rfl)) (by intro _; rfl))
  (SS.cons (SX.iff (ET.or (ET.cmp (ES.sub (ES.loc 16 (by rfl) (by rfl)) ES.int (by intro _ _; rfl)) (ES.sub (ES.loc 15 (by rfl) (by rfl)) ES.int (by intro _ _; rfl)) CmpOK.neD (by rfl)) (ET.cmp (ES.sub (ES.loc 17 (by rfl) (by rfl)) ES.int (by intro _ _; rfl)) (ES.sub (ES.loc 15 (by rfl) (by rfl)) ES.int (by intro _ _; rfl)) CmpOK.neD (by rfl))) (SS.cons (SX.ret ES.bool)
  SS.nil) SS.nil)
  (SS.cons (SX.ret (ES.cmp (ES.comp [(Str.ofString "first_line")] [15] 3000 (by rfl) (EI.val (ES.sub (ES.loc 17 (by rfl) (by rfl)) ES.int (by intro _ _; rfl))) (CT.one (ET.cmp (ES.loc 0 (by rfl) (by rfl)) (ES.sub (ES.loc 1 (by rfl) (by rfl)) ES.int (by intro _ _; rfl)) CmpOK.inI (by rfl))) (ES.loc 0 (by rfl) (by rfl)) (by intro _ _; rfl)) (ES.list EL.nil) CmpOK.eqD (by rfl)))
  SS.nil)))))))))))))))))))))
end
end Mine.Internal
end
section
open PySem PySem.W PyProof.Rows
namespace Mine.Internal
theorem Ns.less {h hb : Heap} {ax a : Addr} {its : Array Value} {m : Str → Option Value} (hk : ∀ b, b ≠ ax → hb.get? b = h.get? b) (hl : h.IsList ax its) (n : h.Ns a m) : hb.Ns a m := by
  obtain ⟨o, es, ep, e, d, r⟩ := n
  have : a ≠ ax := fun q => by
    subst q
    obtain ⟨o', e', _, n', d'⟩ := hl
    rw [e] at e'; cases e'; rw [d] at d'; cases d'
  exact ⟨o, es, ep, (hk a this).trans e, d, r⟩
theorem gone (h : Heap) (ax : Addr) : ∃ hb : Heap, hb.get? ax = none ∧ ∀ b, b ≠ ax → hb.get? b = h.get? b := by
  refine ⟨h.update ax fun o => ⟨o.cls, o.dict, .freed, o.slots⟩, ?_, fun b hb => Heap.get?_update_other h _ (Ne.symm hb)⟩
  cases h with
  | mk objs l =>
    show (match (objs.modify ax fun o => ⟨o.cls, o.dict, .freed, o.slots⟩)[ax]? with | some ⟨_, _, .freed, _⟩ => none | o => o) = none
    rw [Array.getElem?_modify, if_pos rfl]
    cases objs[ax]? with
    | none => rfl
    | some o => rfl
theorem noList (P : Params) : ((hd.heap_39 P).all fun p => p.2.cls != .type "list") = true := by rfl
theorem lookup_mem {K : Frag} {a : Addr} {o : Obj} : K.lookup a = some o → (a, o) ∈ K := by
  induction K with
  | nil => intro e; cases e
  | cons p r ih =>
    obtain ⟨b, x⟩ := p
    intro e
    rw [List.lookup_cons] at e
    split at e
    · rename_i q; cases e; rw [beq_iff_eq.mp q]; exact List.mem_cons_self
    · exact List.mem_cons_of_mem _ (ih e)
theorem join (plain : ∀ (ns : List Int) (o : Obj), ns.length ≤ 63 → ∃ H', F_law [.ref 0] [.frz (ns.map .int) o] = some (.bool true, H') ∧ H'[0]? = some (.frz (ns.map .int) o)) : PySem.Challenge.rw_sa0150_01.Holds := by
  refine hd ?_
  k_fill
  intro w s₀ s₁ mg mb G Y fa o pm cd doc dV kV ho hd hcd hD hmg hg args vals as hpre hlay hrd hwl hlo
  have KX := kIn_of Y
  have X := (Ground.X G).1
  have hlo' := hlo
  have hrd' := hrd
  refine Ground.open G ?_
  intro T B D TE TW
  clear X B D TE TW hd hcd hD ho
  wrow_args hpre hlay hrd hwl hlo
  rename_i ns _ _ _ _ _ asx _ ax vs _ hL _ _ r0 hI _ hlen _
  have TR := topRead_of T
  have hfa : fa = 450 := by
    have e : nsIn (hd.heap_39 w.params) mainGlobals (Str.ofString "law") = some (some (.ref 450)) := by k_is
    have e2 := mg_of KX TR.g e
    have e3 : mg (Str.ofString "law") = some (.ref fa) := hmg
    first | exact sN e2 e3 | exact sN e3 e2 | (rw [e2] at e3; cases e3); rfl
  subst hfa
  obtain ⟨hb, hbn, hbk⟩ := gone s₁.heap ax
  obtain ⟨oL, gL, cL, nL, dL⟩ := id hL
  have down : ∀ a o, hb.get? a = some o → s₁.heap.get? a = some o := fun a o e => by
    have : a ≠ ax := neN hbn e
    rw [← hbk a this]; exact e
  have lo : ax ≠ sysModules := fun q => by
    have hm : ax ∈ asx := by cases r0 <;> simp
    have := hlo' ax (List.mem_append_left _ hm)
    rw [q] at this; simp at this
  let c : Cx := { prog := PySem.Challenge.rw_sa0150_01.row.prog, w := w, h₀ := hb, K := hd.heap_39 w.params, mg := mg, mb := mb, p := hd.view_39, loose := looseW hd.view_39 [Str.ofString "NIL", Str.ofString "list_term"]
                  kin := fun a o e => by
                    have g := KX a o e
                    have : a ≠ ax := fun q => by
                      subst q
                      first | exact sN gL g | exact sN g gL | (rw [gL] at g; cases g)
                      have z := List.all_eq_true.mp (noList w.params) _ (lookup_mem e)
                      rw [cL] at z
                      simp at z
                    rw [hbk a this]; exact g
                  top := ⟨Ns.less hbk hL TR.g, Ns.less hbk hL TR.b, let ⟨mc, n, e⟩ := TR.nolimit; ⟨mc, Ns.less hbk hL n, e⟩, TR.builtins, TR.free⟩
                  mods := by
                    obtain ⟨mc, n, _⟩ := TR.nolimit
                    obtain ⟨o, _, _, e, _⟩ := Ns.less hbk hL n
                    exact ⟨o, e⟩ }
  have R : Rp c hb.get? [ax] [.frz (ns.map .int) oL] s₁.heap := by
    refine ⟨fun _ _ e => e, down, rfl, by simp, by simpa using Ne.symm lo, fun p so e => ?_⟩
    cases p with
    | zero =>
      simp at e; subst e
      exact ⟨ax, oL, rfl, hbn, gL, rfl, cL, _, nL, dL, by simpa using IntsAre.vals hI⟩
    | succ p => simp at e
  obtain ⟨H', eF, eH⟩ := plain ns oL (by omega)
  have room : Room 133 callerA := ⟨by decide, by decide⟩
  refine wpAny_call (codeAny_mono ((fs_law (c := c) (P := w.params) rfl).up (k' := 133) (by decide) rfl room R (.cons (.ref rfl) .nil) eF) fun r s' z => ?_)
  rcases r with e | (v | _ | _ | _)
  · exact z.elim
  · exact z.elim
  · exact z.elim
  · exact z.elim
  · obtain ⟨T', ρ', le, pre, R', V, q⟩ := z
    cases V
    refine GoodW.toG ⟨.inl ⟨.bool true, .bool true, [], rfl, ?_, .bool _, ?_, ?_⟩, ?_, ?_, ?_⟩
    · intro cls; rfl
    · wrow_post
    · intro _; exact ⟨List.nodup_nil, fun a ha => by cases ha⟩
    · intro b ob e
      by_cases hbx : b = ax
      · subst hbx
        obtain ⟨a, o', e1, _, g', z⟩ := R'.obj 0 _ eH
        have e2 := pre 0 b rfl
        first | exact sN e1 e2 | exact sN e2 e1 | (rw [e1] at e2; cases e2)
        first | exact sN gL e | exact sN e gL | (rw [gL] at e; cases e)
        rw [g', z.1]
      · exact R'.top' b ob ((hbk b hbx).trans e)
    · rw [q]
    · rw [q]; exact hg
end Mine.Internal
end
section
open PySem PySem.W PyProof.Rows
namespace Mine.Internal
structure Ok {α : Type} (o : Option (α × Hp)) (Q : α → Hp → Prop) : Prop where
  out : match o with | some (v, H) => Q v H | none => False
structure OkS (o : Option (SF × Loc × Hp)) (Q : SF → Loc → Hp → Prop) : Prop where
  out : match o with | some (f, l, H) => Q f l H | none => False
theorem ok_iff {α : Type} {o : Option (α × Hp)} {Q : α → Hp → Prop} : Ok o Q ↔ ∃ v H', o = some (v, H') ∧ Q v H' := by
  rcases o with _ | ⟨v, H⟩
  · exact ⟨fun h => h.out.elim, fun ⟨_, _, e, _⟩ => by cases e⟩
  · exact ⟨fun h => ⟨v, H, rfl, h.out⟩, fun ⟨_, _, e, q⟩ => by cases e; exact ⟨q⟩⟩
theorem Ok.imp {α : Type} {o : Option (α × Hp)} {Q Q' : α → Hp → Prop} (h : Ok o Q) (k : ∀ v H', Q v H' → Q' v H') : Ok o Q' := by
  rcases o with _ | ⟨v, H⟩
  · exact ⟨h.out⟩
  · exact ⟨k _ _ h.out⟩
theorem OkS.imp {o : Option (SF × Loc × Hp)} {Q Q' : SF → Loc → Hp → Prop} (h : OkS o Q) (k : ∀ f l H', Q f l H' → Q' f l H') : OkS o Q' := by
  rcases o with _ | ⟨f, l, H⟩
  · exact ⟨h.out⟩
  · exact ⟨k _ _ _ h.out⟩
section
variable {α β : Type} {H : Hp} {loc : Loc} {Q : α → Hp → Prop} {QS : SF → Loc → Hp → Prop}
theorem ok_some {v : α} : Ok (some (v, H)) Q ↔ Q v H := ⟨fun h => h.out, fun h => ⟨h⟩⟩
theorem oks_some {f : SF} : OkS (some (f, loc, H)) QS ↔ QS f loc H := ⟨fun h => h.out, fun h => ⟨h⟩⟩
theorem ok_bind {o : Option (β × Hp)} {f : β × Hp → Option (α × Hp)} (h : Ok o fun v H => Ok (f (v, H)) Q) : Ok (o.bind f) Q := by
  rcases o with _ | ⟨v, H⟩
  · exact h.out.elim
  · exact h.out
theorem ok_bindO {o : Option β} {f : β → Option (α × Hp)} (h : ∃ v, o = some v ∧ Ok (f v) Q) : Ok (o.bind f) Q := by
  obtain ⟨v, rfl, h⟩ := h; exact h
theorem oks_bind {o : Option (β × Hp)} {f : β × Hp → Option (SF × Loc × Hp)} (h : Ok o fun v H => OkS (f (v, H)) QS) : OkS (o.bind f) QS := by
  rcases o with _ | ⟨v, H⟩
  · exact h.out.elim
  · exact h.out
theorem oks_bindS {o : Option (SF × Loc × Hp)} {f : SF × Loc × Hp → Option (SF × Loc × Hp)} (h : OkS o fun g l H => OkS (f (g, l, H)) QS) : OkS (o.bind f) QS := by
  rcases o with _ | ⟨g, l, H⟩
  · exact h.out.elim
  · exact h.out
theorem oks_bindO {o : Option β} {f : β → Option (SF × Loc × Hp)} (h : ∃ v, o = some v ∧ OkS (f v) QS) : OkS (o.bind f) QS := by
  obtain ⟨v, rfl, h⟩ := h; exact h
theorem ok_bindS {o : Option (SF × Loc × Hp)} {f : SF × Loc × Hp → Option (α × Hp)} (h : OkS o fun g l H => Ok (f (g, l, H)) Q) : Ok (o.bind f) Q := by
  rcases o with _ | ⟨g, l, H⟩
  · exact h.out.elim
  · exact h.out
end
noncomputable def bo {α : Type} : Option α → (α → Prop) → Prop
  | some v, Q => Q v
  | none, _ => False
noncomputable def cb : Bool → Prop → Prop
  | true, P => P
  | false, _ => False
noncomputable def upk : SV → (List SV → Prop) → Prop
  | .tup xs, P => P xs
  | _, _ => False
noncomputable def lk : Loc → Nat → (SV → Prop) → Prop
  | [], _, _ => False
  | c :: l, n, Q => match n with
    | 0 => (match c with
      | some v => Q v
      | none => False)
    | n + 1 => lk l n Q
noncomputable def inb : Loc → Nat → Prop → Prop
  | _ :: _, 0, P => P
  | _ :: l, n + 1, P => inb l n P
  | [], _, _ => False
theorem ltb {a m n : Nat} (h : a < m) (e : Nat.ble m n = true) : a < n := Nat.lt_of_lt_of_le h (Nat.le_of_ble_eq_true e)
theorem lt_k {d k n : Nat} (h : d + (k + 1) = n) : d < n := h ▸ Nat.lt_add_of_pos_right (Nat.succ_pos k)
theorem ad_k {d k n : Nat} (h : d + (k + 1) = n) : d + 1 + k = n := by rw [← h, Nat.add_assoc, Nat.add_comm 1]
theorem nk {n a b : Nat} (h : Nat.beq a b = false) : n + a ≠ n + b := fun e => Nat.ne_of_beq_eq_false h (Nat.add_left_cancel e)
theorem bo_ex {α : Type} {o : Option α} {Q : α → Prop} (h : bo o Q) : ∃ v, o = some v ∧ Q v := by
  cases o with
  | none => exact h.elim
  | some v => exact ⟨v, rfl, h⟩
theorem bo_im {α : Type} {o : Option α} {Q R : α → Prop} (h : bo o Q) (k : ∀ v, Q v → R v) : ∃ v, o = some v ∧ R v := let ⟨v, e, q⟩ := bo_ex h; ⟨v, e, k v q⟩
theorem lk_ex : ∀ {l : Loc} {n : Nat} {Q : SV → Prop}, lk l n Q → ∃ v, l[n]? = some (some v) ∧ Q v
  | some v :: _, 0, Q, h => ⟨v, rfl, h⟩
  | none :: _, 0, _, h => False.elim h
  | _ :: l, n + 1, Q, h => lk_ex (l := l) (n := n) h
  | [], _, _, h => False.elim h
theorem inb_lt : ∀ {l : Loc} {n : Nat} {P : Prop}, inb l n P → n < l.length ∧ P
  | _ :: _, 0, P, h => ⟨Nat.succ_pos _, h⟩
  | _ :: l, n + 1, P, h => let ⟨a, b⟩ := inb_lt (l := l) h; ⟨Nat.succ_lt_succ a, b⟩
  | [], _, _, h => by cases h
theorem lkI : ∀ {l : Loc} {n : Nat} {v : SV} {Q : SV → Prop}, l[n]? = some (some v) → lk l n Q = Q v
  | some v :: _, 0, _, _, e => by cases e; rfl
  | none :: _, 0, _, _, e => by cases e
  | _ :: l, n + 1, v, Q, e => lkI (l := l) (n := n) e
  | [], _, _, _, e => by cases e
theorem boI {α : Type} {o : Option α} {v : α} {Q : α → Prop} (e : o = some v) (h : Q v) : bo o Q := by rw [e]; exact h
theorem boC {α : Type} {o : Option α} {R Q : α → Prop} (h : ∃ v, o = some v ∧ R v) (k : ∀ v, R v → Q v) : bo o Q := let ⟨_, e, r⟩ := h; boI e (k _ r)
noncomputable abbrev WD (α : Type) := Loc → Hp → (α → Hp → Prop) → Prop
noncomputable abbrev WS := Loc → Hp → (SF → Loc → Hp → Prop) → Prop
noncomputable def runW {α : Type} (w : WD α) (loc : Loc) (H : Hp) (Q : α → Hp → Prop) : Prop := w loc H Q
noncomputable def runS (w : WS) (loc : Loc) (H : Hp) (Q : SF → Loc → Hp → Prop) : Prop := w loc H Q
class IsW {α : Type} (d : D α) (w : outParam (WD α)) : Prop where
  snd : ∀ {loc : Loc} {H : Hp} {Q : α → Hp → Prop}, w loc H Q → Ok (d loc H) Q
class IsWS (d : DS) (w : outParam WS) : Prop where
  snd : ∀ {loc : Loc} {H : Hp} {Q : SF → Loc → Hp → Prop}, w loc H Q → OkS (d loc H) Q
theorem IsW.run {α : Type} {d : D α} {w : WD α} [IsW d w] {loc : Loc} {H : Hp} {Q : α → Hp → Prop} (h : runW w loc H Q) : Ok (d loc H) Q := IsW.snd h
theorem IsWS.run {d : DS} {w : WS} [IsWS d w] {loc : Loc} {H : Hp} {Q : SF → Loc → Hp → Prop} (h : runS w loc H Q) : OkS (d loc H) Q := IsWS.snd h
section
variable {a b c e d o i : D SV} {wa wb wc we wd wo wi : WD SV} {ds : D (List SV)} {wl : WD (List SV)} {t u : D Bool} {wt wu : WD Bool}
instance {v : SV} : IsW (dVal v) (fun _ H Q => Q v H) := ⟨fun h => ⟨h⟩⟩
instance {i : Nat} : IsW (dLoc i) (fun loc H Q => lk loc i fun v => Q v H) := ⟨fun h => by obtain ⟨v, e, q⟩ := lk_ex h; unfold dLoc; rw [e]; exact ⟨q⟩⟩
instance : IsW dNil (fun _ H Q => Q [] H) := ⟨fun h => ⟨h⟩⟩
instance [IsW d wd] [IsW ds wl] : IsW (dCons d ds) (fun loc H Q => wd loc H fun v H => wl loc H fun vs H => Q (v :: vs) H) := ⟨fun h => ok_bind ((IsW.snd h).imp fun _ _ h => ok_bind ((IsW.snd h).imp fun _ _ h => ⟨h⟩))⟩
theorem ok_tupW {n : Nat} (h0 : Nat.ble n 99 = true) {loc : Loc} {H : Hp} {Q : SV → Hp → Prop} (h : Ok (ds loc H) fun vs H => vs.length = n ∧ Q (.tup vs) H) : Ok (dTup ds loc H) Q :=
  ok_bind (h.imp fun vs H ⟨e, q⟩ => by
    have := Nat.le_of_ble_eq_true h0
    show Ok (if vs.length < 1000000 then _ else _) Q
    rw [if_pos (by lia)]; exact ⟨q⟩)
theorem ok_lstW {n : Nat} (h0 : Nat.ble n 99 = true) {loc : Loc} {H : Hp} {Q : SV → Hp → Prop} (h : Ok (ds loc H) fun vs H => vs.length = n ∧ Q (.ref H.length) (H ++ [.lst vs])) : Ok (dLst ds loc H) Q :=
  ok_bind (h.imp fun vs H ⟨e, q⟩ => by
    have := Nat.le_of_ble_eq_true h0
    show Ok (if vs.length < 1000000 then _ else _) Q
    rw [if_pos (by lia)]; exact ⟨q⟩)
theorem okc {n : Nat} {loc : Loc} {H : Hp} {Q : List SV → Hp → Prop} (h : Ok (d loc H) fun v H => Ok (ds loc H) fun vs H => vs.length = n ∧ Q (v :: vs) H) : Ok (dCons d ds loc H) fun vs H => vs.length = n + 1 ∧ Q vs H :=
  ok_bind (h.imp fun _ _ h => ok_bind (h.imp fun _ _ ⟨e, q⟩ => ⟨by rw [List.length_cons, e], q⟩))
theorem okn {loc : Loc} {H : Hp} {Q : List SV → Hp → Prop} (h : Q [] H) : Ok (dNil loc H) fun vs H => vs.length = 0 ∧ Q vs H := ⟨⟨rfl, h⟩⟩
instance  : IsW (dTup dNil) (fun loc H Q => Q (.tup []) H) := ⟨fun h => ok_tupW (n := 0) rfl (okn h)⟩
instance [IsW a wa] : IsW (dTup (dCons a dNil)) (fun loc H Q => wa loc H fun va H => Q (.tup [va]) H) := ⟨fun h => ok_tupW (n := 1) rfl (okc ((IsW.snd h).imp fun _ _ h => okn h))⟩
instance [IsW a wa] [IsW b wb] : IsW (dTup (dCons a (dCons b dNil))) (fun loc H Q => wa loc H fun va H => wb loc H fun vb H => Q (.tup [va, vb]) H) := ⟨fun h => ok_tupW (n := 2) rfl (okc ((IsW.snd h).imp fun _ _ h => okc ((IsW.snd h).imp fun _ _ h => okn h)))⟩
instance [IsW a wa] [IsW b wb] [IsW c wc] : IsW (dTup (dCons a (dCons b (dCons c dNil)))) (fun loc H Q => wa loc H fun va H => wb loc H fun vb H => wc loc H fun vc H => Q (.tup [va, vb, vc]) H) := ⟨fun h => ok_tupW (n := 3) rfl (okc ((IsW.snd h).imp fun _ _ h => okc ((IsW.snd h).imp fun _ _ h => okc ((IsW.snd h).imp fun _ _ h => okn h))))⟩
instance [IsW a wa] [IsW b wb] [IsW c wc] [IsW e we] : IsW (dTup (dCons a (dCons b (dCons c (dCons e dNil))))) (fun loc H Q => wa loc H fun va H => wb loc H fun vb H => wc loc H fun vc H => we loc H fun ve H => Q (.tup [va, vb, vc, ve]) H) := ⟨fun h => ok_tupW (n := 4) rfl (okc ((IsW.snd h).imp fun _ _ h => okc ((IsW.snd h).imp fun _ _ h => okc ((IsW.snd h).imp fun _ _ h => okc ((IsW.snd h).imp fun _ _ h => okn h)))))⟩
instance  : IsW (dLst dNil) (fun loc H Q => Q (.ref H.length) (H ++ [.lst []])) := ⟨fun h => ok_lstW (n := 0) rfl (okn h)⟩
instance [IsW a wa] : IsW (dLst (dCons a dNil)) (fun loc H Q => wa loc H fun va H => Q (.ref H.length) (H ++ [.lst [va]])) := ⟨fun h => ok_lstW (n := 1) rfl (okc ((IsW.snd h).imp fun _ _ h => okn h))⟩
instance [IsW a wa] [IsW b wb] : IsW (dLst (dCons a (dCons b dNil))) (fun loc H Q => wa loc H fun va H => wb loc H fun vb H => Q (.ref H.length) (H ++ [.lst [va, vb]])) := ⟨fun h => ok_lstW (n := 2) rfl (okc ((IsW.snd h).imp fun _ _ h => okc ((IsW.snd h).imp fun _ _ h => okn h)))⟩
instance [IsW a wa] [IsW b wb] [IsW c wc] : IsW (dLst (dCons a (dCons b (dCons c dNil)))) (fun loc H Q => wa loc H fun va H => wb loc H fun vb H => wc loc H fun vc H => Q (.ref H.length) (H ++ [.lst [va, vb, vc]])) := ⟨fun h => ok_lstW (n := 3) rfl (okc ((IsW.snd h).imp fun _ _ h => okc ((IsW.snd h).imp fun _ _ h => okc ((IsW.snd h).imp fun _ _ h => okn h))))⟩
instance [IsW a wa] [IsW b wb] [IsW c wc] [IsW e we] : IsW (dLst (dCons a (dCons b (dCons c (dCons e dNil))))) (fun loc H Q => wa loc H fun va H => wb loc H fun vb H => wc loc H fun vc H => we loc H fun ve H => Q (.ref H.length) (H ++ [.lst [va, vb, vc, ve]])) := ⟨fun h => ok_lstW (n := 4) rfl (okc ((IsW.snd h).imp fun _ _ h => okc ((IsW.snd h).imp fun _ _ h => okc ((IsW.snd h).imp fun _ _ h => okc ((IsW.snd h).imp fun _ _ h => okn h)))))⟩
instance {f : SV → SV → Option SV} [IsW a wa] [IsW b wb] : IsW (dBin f a b) (fun loc H Q => wa loc H fun x H => wb loc H fun y H => bo (f x y) fun v => Q v H) :=
  ⟨fun h => ok_bind ((IsW.snd h).imp fun _ _ h => ok_bind ((IsW.snd h).imp fun _ _ h => ok_bindO (bo_im h fun _ q => ⟨q⟩)))⟩
instance {f : SV → Option SV} [IsW a wa] : IsW (dUn f a) (fun loc H Q => wa loc H fun x H => bo (f x) fun v => Q v H) := ⟨fun h => ok_bind ((IsW.snd h).imp fun _ _ h => ok_bindO (bo_im h fun _ q => ⟨q⟩))⟩
instance {f : Hp → SV → SV → Option Bool} [IsW a wa] [IsW b wb] : IsW (dCmp f a b) (fun loc H Q => wa loc H fun x H => wb loc H fun y H => bo (f H x y) fun v => Q v H) :=
  ⟨fun h => ok_bind ((IsW.snd h).imp fun _ _ h => ok_bind ((IsW.snd h).imp fun _ _ h => ok_bindO (bo_im h fun _ q => ⟨q⟩)))⟩
instance [IsW t wt] : IsW (dB t) (fun loc H Q => wt loc H fun b H => Q (.bool b) H) := ⟨fun h => ok_bind ((IsW.snd (d := t) h).imp fun _ _ h => ⟨h⟩)⟩
theorem if_cond {α : Type} {x : Bool} {p q : Option (α × Hp)} {P R : Prop} {Q : α → Hp → Prop} (h : cond x P R) (hp : P → Ok p Q) (hq : R → Ok q Q) : Ok (if x = true then p else q) Q := by cases x <;> simp_all
theorem ifs_cond {x : Bool} {p q : Option (SF × Loc × Hp)} {P R : Prop} {Q : SF → Loc → Hp → Prop} (h : cond x P R) (hp : P → OkS p Q) (hq : R → OkS q Q) : OkS (if x = true then p else q) Q := by cases x <;> simp_all
instance {α : Type} {a b : D α} {wa wb : WD α} [IsW t wt] [IsW a wa] [IsW b wb] : IsW (dIf t a b) (fun loc H Q => wt loc H fun x H => cond x (wa loc H Q) (wb loc H Q)) :=
  ⟨fun h => ok_bind ((IsW.snd (d := t) h).imp fun _ _ h => if_cond h IsW.snd IsW.snd)⟩
instance [IsW d wd] : IsW (dTruth d) (fun loc H Q => wd loc H fun v H => bo (truth H v) fun b => Q b H) := ⟨fun h => ok_bind ((IsW.snd h).imp fun _ _ h => ok_bindO (bo_im h fun _ q => ⟨q⟩))⟩
instance [IsW t wt] : IsW (dNot t) (fun loc H Q => wt loc H fun b H => Q (!b) H) := ⟨fun h => ok_bind ((IsW.snd (d := t) h).imp fun _ _ h => ⟨h⟩)⟩
instance [IsW t wt] [IsW u wu] : IsW (dAnd t u) (fun loc H Q => wt loc H fun x H => cond x (wu loc H Q) (Q false H)) :=
  ⟨fun h => ok_bind ((IsW.snd (d := t) h).imp fun _ _ h => if_cond h IsW.snd fun h => ⟨h⟩)⟩
instance [IsW t wt] [IsW u wu] : IsW (dOr t u) (fun loc H Q => wt loc H fun x H => cond x (Q true H) (wu loc H Q)) :=
  ⟨fun h => ok_bind ((IsW.snd (d := t) h).imp fun _ _ h => if_cond h (fun h => ⟨h⟩) IsW.snd)⟩
instance [IsW o wo] [IsW i wi] : IsW (dSub o i) (fun loc H Q => wo loc H fun x H => wi loc H fun y H => bo (item H x y) fun v => Q v H) :=
  ⟨fun h => ok_bind ((IsW.snd h).imp fun _ _ h => ok_bind ((IsW.snd h).imp fun _ _ h => ok_bindO (bo_im h fun _ q => ⟨q⟩)))⟩
instance {C : Addr} {name : Str} [IsW d wd] : IsW (dAttr C name d) (fun loc H Q => wd loc H fun x H => bo (fld H C name x) fun v => Q v H) := ⟨fun h => ok_bind ((IsW.snd h).imp fun _ _ h => ok_bindO (bo_im h fun _ q => ⟨q⟩))⟩
instance {F : Fn} [IsW ds wl] : IsW (dCall F ds) (fun loc H Q => wl loc H fun vs H => Ok (F vs H) Q) := ⟨fun h => ok_bind (IsW.snd (d := ds) h)⟩
instance {C : Addr} {name : Str} {F : Fn} [IsW d wd] [IsW ds wl] : IsW (dMeth C name F d ds) (fun loc H Q => wd loc H fun o H => isInst C name H o = true ∧ wl loc H fun vs H => Ok (F (o :: vs) H) Q) :=
  ⟨fun h => ok_bind ((IsW.snd h).imp fun o H ⟨e, h⟩ => by
    show Ok (if isInst C name H o then _ else _) _
    rw [if_pos e]; exact ok_bind (IsW.snd h))⟩
instance {ty : String} {F : Fn} [IsW d wd] [IsW ds wl] : IsW (dMethB ty F d ds) (fun loc H Q => wd loc H fun o H => tyOf H o = some ty ∧ wl loc H fun vs H => Ok (F (o :: vs) H) Q) :=
  ⟨fun h => ok_bind ((IsW.snd h).imp fun o H ⟨e, h⟩ => by
    show Ok (if tyOf H o = some ty then _ else _) _
    rw [if_pos e]; exact ok_bind (IsW.snd h))⟩
instance {κ : DK} : IsW (dEmpty κ) (fun _ H Q => Q (.ref H.length) (H ++ [κ.so])) := ⟨fun h => ⟨h⟩⟩
instance [IsW d wd] : IsW (dRepN d) (fun loc H Q => wd loc H fun v H => Ok (repN v H) Q) := ⟨fun h => ok_bind (IsW.snd (d := d) h)⟩
instance [IsW d wd] : IsW (dListRev d) (fun loc H Q => wd loc H fun v H => Ok (listRev v H) Q) := ⟨fun h => ok_bind (IsW.snd (d := d) h)⟩
instance [IsW a wa] [IsW b wb] : IsW (dExtRev a b) (fun loc H Q => wa loc H fun o H => tyOf H o = some "list" ∧ wb loc H fun x H => Ok (extRev o x H) Q) :=
  ⟨fun h => ok_bind ((IsW.snd h).imp fun o H ⟨e, h⟩ => by
    show Ok (if tyOf H o = some "list" then _ else _) _
    rw [if_pos e]; exact ok_bind (IsW.snd h))⟩
instance {n : Nat} [IsW d wd] : IsW (dSliceL n d) (fun loc H Q => wd loc H fun v H => Ok (sliceL n H v) Q) := ⟨fun h => ok_bind (IsW.snd (d := d) h)⟩
instance [IsW d wd] : IsW (dIter d) (fun loc H Q => wd loc H fun v H => bo (iterS H v) fun r => Q r H) := ⟨fun h => ok_bind ((IsW.snd h).imp fun _ _ h => ok_bindO (bo_im h fun _ q => ⟨q⟩))⟩
instance [IsW ds wl] : IsW (dRange ds) (fun loc H Q => wl loc H fun v H => bo (rangeS v) fun r => Q r H) := ⟨fun h => ok_bind ((IsW.snd h).imp fun _ _ h => ok_bindO (bo_im h fun _ q => ⟨q⟩))⟩
instance [IsW d wd] : IsW (dRev d) (fun loc H Q => wd loc H fun v H => bo (revS H v) fun r => Q r H) := ⟨fun h => ok_bind ((IsW.snd h).imp fun _ _ h => ok_bindO (bo_im h fun _ q => ⟨q⟩))⟩
instance : IsW dTrue (fun _ H Q => Q true H) := ⟨fun h => ⟨h⟩⟩
instance {di : D Src} {dt : D Bool} {de : D SV} {idx : List Nat} {W : Nat} : IsW (dComp di dt de idx W) (fun loc H Q => Ok (dComp di dt de idx W loc H) Q) := ⟨fun h => h⟩
instance {bt : Loc → Hp → Option Bool} {idx : List Nat} : IsW (dCompK d bt idx) (fun loc H Q => Ok (dCompK d bt idx loc H) Q) := ⟨fun h => h⟩
end
noncomputable def seqQ (y : DS) (Q : SF → Loc → Hp → Prop) (f : SF) (l : Loc) (H : Hp) : Prop := match f with
  | .nxt => OkS (y l H) Q
  | .brk => Q .brk l H
  | .cnt => Q .cnt l H
  | .ret v => Q (.ret v) l H
section
variable {d o i : D SV} {wd wo wi : WD SV} {t : D Bool} {wt : WD Bool} {x y : DS} {wx wy : WS}
instance : IsWS sNil (fun loc H Q => Q .nxt loc H) := ⟨fun h => ⟨h⟩⟩
instance [IsWS x wx] : IsWS (sCons x y) (fun loc H Q => wx loc H (seqQ y Q)) :=
  ⟨fun h => oks_bindS ((IsWS.snd h).imp fun f l H h => by cases f <;> first | exact h | exact ⟨h⟩)⟩
instance {W : Nat} : IsWS (sCons (sWhile t x W) y) (fun loc H Q => OkS (sWhile t x W loc H) (seqQ y Q)) :=
  ⟨fun h => oks_bindS (h.imp fun f l H h => by cases f <;> first | exact h | exact ⟨h⟩)⟩
instance {i : Nat} [IsW d wd] : IsWS (sAssign i d) (fun loc H Q => wd loc H fun v H => inb loc i (Q .nxt (loc.set i (some v)) H)) :=
  ⟨fun h => oks_bind ((IsW.snd h).imp fun v H h => by
    have := inb_lt h
    show OkS (if _ < _ then _ else _) _
    rw [if_pos this.1]; exact ⟨this.2⟩)⟩
instance [IsW d wd] : IsWS (sExpr d) (fun loc H Q => wd loc H fun v H => cb (plainV v) (Q .nxt loc H)) :=
  ⟨fun h => oks_bind ((IsW.snd h).imp fun v H h => by
    show OkS (if plainV v then _ else _) _
    cases e : plainV v with
    | false => rw [e] at h; exact h.elim
    | true => rw [e] at h; exact ⟨h⟩)⟩
instance [IsW d wd] : IsWS (sRet d) (fun loc H Q => wd loc H fun v H => Q (.ret v) loc H) := ⟨fun h => oks_bind ((IsW.snd (d := d) h).imp fun _ _ h => ⟨h⟩)⟩
instance : IsWS sRet0 (fun loc H Q => Q (.ret .none) loc H) := ⟨fun h => ⟨h⟩⟩
instance : IsWS sBrk (fun loc H Q => Q .brk loc H) := ⟨fun h => ⟨h⟩⟩
instance : IsWS sCnt (fun loc H Q => Q .cnt loc H) := ⟨fun h => ⟨h⟩⟩
instance : IsWS sFail (fun _ _ _ => False) := ⟨False.elim⟩
instance [IsW t wt] [IsWS x wx] [IsWS y wy] : IsWS (sIf t x y) (fun loc H Q => wt loc H fun b H => cond b (wx loc H Q) (wy loc H Q)) :=
  ⟨fun h => oks_bind ((IsW.snd (d := t) h).imp fun _ _ h => ifs_cond h IsWS.snd IsWS.snd)⟩
instance {is : List Nat} [IsW d wd] : IsWS (sUnpack is d) (fun loc H Q => wd loc H fun v H => upk v fun vs => bo (setLs loc is vs) fun l => Q .nxt l H) :=
  ⟨fun h => oks_bind ((IsW.snd h).imp fun v H h => by
    cases v <;> first | exact h.elim | exact oks_bindO (bo_im h fun _ q => ⟨q⟩))⟩
instance {C : Addr} {name : Str} [IsW d wd] [IsW o wo] : IsWS (sSetAttr C name o d) (fun loc H Q => wd loc H fun v H => wo loc H fun a H => bo (setFld H C name v a) fun H2 => Q .nxt loc H2) :=
  ⟨fun h => oks_bind ((IsW.snd h).imp fun _ _ h => oks_bind ((IsW.snd h).imp fun _ _ h => oks_bindO (bo_im h fun _ q => ⟨q⟩)))⟩
instance [IsW d wd] [IsW o wo] [IsW i wi] : IsWS (sSetItem o i d) (fun loc H Q => wd loc H fun v H => wo loc H fun a H => wi loc H fun j H => bo (setIt H v a j) fun H2 => Q .nxt loc H2) :=
  ⟨fun h => oks_bind ((IsW.snd h).imp fun _ _ h => oks_bind ((IsW.snd h).imp fun _ _ h => oks_bind ((IsW.snd h).imp fun _ _ h => oks_bindO (bo_im h fun _ q => ⟨q⟩))))⟩
instance {j : Nat} {di : D Src} {wi : WD Src} {W : Nat} [IsW di wi] : IsWS (sFor j di x W) (fun loc H Q => wi loc H fun src H => OkS (sForL j x W src loc H) Q) := ⟨fun h => oks_bind (IsW.snd (d := di) h)⟩
end
noncomputable def retQ (Q : SV → Hp → Prop) (f : SF) (_ : Loc) (H : Hp) : Prop := match f with | .ret v => Q v H | .nxt => Q .none H | .brk => False | .cnt => False
theorem ok_fn {n m : Nat} {d : DS} {w : WS} [IsWS d w] {svs : List SV} {H : Hp} {Q : SV → Hp → Prop} (e : svs.length = n) (h : runS w (svs.map some ++ List.replicate m none) H (retQ Q)) : Ok (fDef n m d svs H) Q := by
  unfold fDef
  rw [if_pos e]
  exact ok_bindS ((IsWS.snd h).imp fun f l H h => by cases f <;> exact ⟨h⟩)
section
variable {H : Hp} {loc : Loc}
section
variable {Q : SF → Loc → Hp → Prop} {t : D Bool} {x y : DS}
noncomputable def loopQ (J : Loc → Hp → Prop) (Q : SF → Loc → Hp → Prop) (f : SF) (l : Loc) (H : Hp) : Prop := match f with
  | .nxt => J l H
  | .cnt => J l H
  | .brk => Q .nxt l H
  | .ret v => Q (.ret v) l H
theorem loopQ_nxt {J : Loc → Hp → Prop} {l : Loc} : loopQ J Q .nxt l H ↔ J l H := Iff.rfl
theorem loopQ_cnt {J : Loc → Hp → Prop} {l : Loc} : loopQ J Q .cnt l H ↔ J l H := Iff.rfl
theorem loopQ_brk {J : Loc → Hp → Prop} {l : Loc} : loopQ J Q .brk l H ↔ Q .nxt l H := Iff.rfl
theorem loopQ_ret {J : Loc → Hp → Prop} {l : Loc} {v : SV} : loopQ J Q (.ret v) l H ↔ Q (.ret v) l H := Iff.rfl
theorem oks_while {wt : WD Bool} {wx : WS} [IsW t wt] [IsWS x wx] (J : Nat → Loc → Hp → Prop) (step : ∀ n l H, J n l H → runW wt l H fun b H => cond b (runS wx l H (loopQ (fun l H => ∃ m, m < n ∧ J m l H) Q)) (Q .nxt l H)) :
    ∀ {W n : Nat} {l : Loc} {H : Hp}, n < W → J n l H → OkS (sWhile t x W l H) Q := by
  intro W
  induction W with
  | zero => intro n l H h; lia
  | succ W ih =>
    intro n l H h hJ
    show OkS (((t l H).bind fun (b, H) => if b then (x l H).bind fun (f, loc, H) => match f with
      | .nxt => sWhile t x W loc H
      | .cnt => sWhile t x W loc H
      | .brk => some (.nxt, loc, H)
      | .ret v => some (.ret v, loc, H)
      else some (.nxt, l, H))) Q
    refine oks_bind ((IsW.snd (d := t) (step n l H hJ)).imp fun b H' q => ?_)
    cases b with
    | false => exact ⟨q⟩
    | true =>
      refine oks_bindS ((IsWS.snd (d := x) q).imp fun f l H q => ?_)
      cases f with
      | nxt => obtain ⟨m, hm, q⟩ := q; exact ih (by lia) q
      | cnt => obtain ⟨m, hm, q⟩ := q; exact ih (by lia) q
      | brk => exact ⟨q⟩
      | ret v => exact ⟨q⟩
theorem oks_whileJ {wt : WD Bool} {wx : WS} [IsW t wt] [IsWS x wx] (J0 : Nat → Loc → Hp → Prop) (step : ∀ J : Nat → Loc → Hp → Prop, (∀ {n l H}, J0 n l H → J n l H) → ∀ n l H, J0 n l H → runW wt l H fun b H => cond b (runS wx l H (loopQ (fun l H => ∃ m, m < n ∧ J m l H) Q)) (Q .nxt l H))
    {W n : Nat} {l : Loc} {H : Hp} (h : n < W) (hJ : J0 n l H) : OkS (sWhile t x W l H) Q := oks_while J0 (step J0 fun h => h) h hJ
theorem oks_forL {j : Nat} (J : Nat → Src → Loc → Hp → Prop) (fin : ∀ src l H, J 0 src l H → nextS H src = some none ∧ Q .nxt l H)
    (step : ∀ n src l H, J (n + 1) src l H → ∃ v src', nextS H src = some (some (v, src')) ∧ j < l.length ∧ OkS (x (l.set j (some v)) H) (loopQ (fun l H => J n src' l H) Q)) :
    ∀ {W n : Nat} {src : Src} {l : Loc} {H : Hp}, n < W → J n src l H → OkS (sForL j x W src l H) Q := by
  intro W
  induction W with
  | zero => intro n src l H h; lia
  | succ W ih =>
    intro n src l H h hJ
    unfold sForL
    refine oks_bindO ?_
    cases n with
    | zero =>
      obtain ⟨e, q⟩ := fin src l H hJ
      exact ⟨none, e, oks_some.mpr q⟩
    | succ n =>
      obtain ⟨v, src', e, hj, q⟩ := step n src l H hJ
      refine ⟨_, e, ?_⟩
      simp only [hj, if_true]
      refine oks_bindS (q.imp fun f l H q => ?_)
      cases f with
      | nxt => exact ih (by lia) q
      | cnt => exact ih (by lia) q
      | brk => exact oks_some.mpr q
      | ret v => exact oks_some.mpr q
end
end
theorem oks_forLJ {j : Nat} (J0 : Nat → Src → Loc → Hp → Prop) (fin : ∀ src l H, J0 0 src l H → nextS H src = some none ∧ Q .nxt l H)
    (step : ∀ J : Nat → Src → Loc → Hp → Prop, (∀ {n src l H}, J0 n src l H → J n src l H) → ∀ n src l H, J0 (n + 1) src l H → ∃ v src', nextS H src = some (some (v, src')) ∧ j < l.length ∧ OkS (x (l.set j (some v)) H) (loopQ (fun l H => J n src' l H) Q))
    {W n : Nat} {src : Src} {l : Loc} {H : Hp} (h : n < W) (hJ : J0 n src l H) : OkS (sForL j x W src l H) Q := oks_forL J0 fin (step J0 fun h => h) h hJ
theorem ok_compL {dt : D Bool} {de : D SV} {wt : WD Bool} {we : WD SV} [IsW dt wt] [IsW de we] {fv : Loc} {Q : List SV → Hp → Prop} (J : Nat → Src → List SV → Hp → Prop) (fin : ∀ src acc H, J 0 src acc H → nextS H src = some none ∧ Q acc H)
    (step : ∀ n src acc H, J (n + 1) src acc H → ∃ v src', nextS H src = some (some (v, src')) ∧ runW wt (some v :: fv) H fun b H => cond b (runW we (some v :: fv) H fun y H => acc.length < 1000000 ∧ J n src' (acc ++ [y]) H) (J n src' acc H)) :
    ∀ {W n : Nat} {src : Src} {acc : List SV} {H : Hp}, n < W → J n src acc H → Ok (dCompL dt de fv W src acc H) Q := by
  intro W
  induction W with
  | zero => intro n src acc H h; lia
  | succ W ih =>
    intro n src acc H h hJ
    unfold dCompL
    refine ok_bindO ?_
    cases n with
    | zero =>
      obtain ⟨e, q⟩ := fin src acc H hJ
      exact ⟨none, e, ⟨q⟩⟩
    | succ n =>
      obtain ⟨v, src', e, q⟩ := step n src acc H hJ
      refine ⟨_, e, ?_⟩
      refine ok_bind ((IsW.snd (d := dt) q).imp fun b H q => ?_)
      cases b with
      | false => exact ih (by lia) q
      | true =>
        refine ok_bind ((IsW.snd (d := de) q).imp fun y H ⟨hl, q⟩ => ?_)
        simp only [hl, if_true]
        exact ih (by lia) q
theorem ok_compLJ {dt : D Bool} {de : D SV} {wt : WD Bool} {we : WD SV} [IsW dt wt] [IsW de we] {fv : Loc} {Q : List SV → Hp → Prop} (J0 : Nat → Src → List SV → Hp → Prop) (fin : ∀ src acc H, J0 0 src acc H → nextS H src = some none ∧ Q acc H)
    (step : ∀ J : Nat → Src → List SV → Hp → Prop, (∀ {n src acc H}, J0 n src acc H → J n src acc H) → ∀ n src acc H, J0 (n + 1) src acc H → ∃ v src', nextS H src = some (some (v, src')) ∧ runW wt (some v :: fv) H fun b H => cond b (runW we (some v :: fv) H fun y H => acc.length < 1000000 ∧ J n src' (acc ++ [y]) H) (J n src' acc H))
    {W n : Nat} {src : Src} {acc : List SV} {H : Hp} (h : n < W) (hJ : J0 n src acc H) : Ok (dCompL dt de fv W src acc H) Q := ok_compL J0 fin (step J0 fun h => h) h hJ
theorem ok_comp {di : D Src} {wi : WD Src} [IsW di wi] {dt : D Bool} {de : D SV} {idx : List Nat} {W : Nat} {loc : Loc} {H : Hp} {Q : SV → Hp → Prop} (h : runW wi loc H fun src H => bo (frees loc idx) fun fv => Ok (dCompL dt de fv W src [] H) fun acc H => Q (.ref H.length) (H ++ [.lst acc])) : Ok (dComp di dt de idx W loc H) Q :=
  ok_bind ((IsW.snd h).imp fun src H h => ok_bindO (let ⟨fv, e, q⟩ := bo_ex h; ⟨fv, e, ok_bind (q.imp fun _ _ h => ⟨h⟩)⟩))
theorem ok_new {C : Addr} {F : Fn} {vs : List SV} {H : Hp} {Q : SV → Hp → Prop} : Ok (fNew C F vs H) Q ↔ Ok (F (.ref (H.length + 1) :: vs) (H ++ [.flds [], .inst C H.length])) fun r H' => r = .none ∧ Q (.ref (H.length + 1)) H' := by
  unfold fNew
  generalize F (.ref (H.length + 1) :: vs) (H ++ [.flds [], .inst C H.length]) = o
  rcases o with _ | ⟨v, H'⟩
  · exact ⟨fun h => ⟨h.out⟩, fun h => ⟨h.out⟩⟩
  · rw [ok_some]
    cases v with
    | none => exact ⟨fun h => ⟨rfl, h.out⟩, fun h => ⟨h.2⟩⟩
    | bool b => exact ⟨fun h => h.out.elim, fun h => by cases h.1⟩
    | int b => exact ⟨fun h => h.out.elim, fun h => by cases h.1⟩
    | str b => exact ⟨fun h => h.out.elim, fun h => by cases h.1⟩
    | tup b => exact ⟨fun h => h.out.elim, fun h => by cases h.1⟩
    | ref b => exact ⟨fun h => h.out.elim, fun h => by cases h.1⟩
structure Kp (ch : Nat → Prop) (H H' : Hp) : Prop where
  len : H.length ≤ H'.length
  keep : ∀ p so, H[p]? = some so → ¬ ch p → H'[p]? = some so
noncomputable def no : Nat → Prop := fun _ => False
theorem Kp.refl {ch : Nat → Prop} {H : Hp} : Kp ch H H := ⟨Nat.le_refl _, fun _ _ e _ => e⟩
theorem Kp.trans {ch ch' c2 : Nat → Prop} {H H' H'' : Hp} (x : Kp ch H H') (y : Kp ch' H' H'') (h1 : ∀ p, p < H.length → ch p → c2 p) (h2 : ∀ p, p < H.length → ch' p → c2 p) : Kp c2 H H'' :=
  ⟨Nat.le_trans x.len y.len, fun p so e n => by
    have hp := (List.getElem?_eq_some_iff.mp e).1
    exact y.keep p so (x.keep p so e fun q => n (h1 p hp q)) fun q => n (h2 p hp q)⟩
theorem Kp.mono {ch c2 : Nat → Prop} {H H' : Hp} (x : Kp ch H H') (h : ∀ p, p < H.length → ch p → c2 p) : Kp c2 H H' :=
  ⟨x.len, fun p so e n => x.keep p so e fun q => n (h p (List.getElem?_eq_some_iff.mp e).1 q)⟩
theorem Kp.app {ch : Nat → Prop} {H G : Hp} : Kp ch H (H ++ G) :=
  ⟨by simp, fun p so e _ => by rw [List.getElem?_append_left (List.getElem?_eq_some_iff.mp e).1]; exact e⟩
theorem Kp.set {ch : Nat → Prop} {H : Hp} {p : Nat} {so : SO} (h : ch p) : Kp ch H (H.set p so) :=
  ⟨by simp, fun q so' e n => by
    have : p ≠ q := fun z => n (z ▸ h)
    rw [List.getElem?_set_ne this]; exact e⟩
theorem set_at {H : Hp} {p : Nat} {so so' : SO} (h : H[p]? = some so) : (H.set p so')[p]? = some so' := by
  rw [List.getElem?_set_self (List.getElem?_eq_some_iff.mp h).1]
theorem app_at {H : Hp} {so : SO} : (H ++ [so])[H.length]? = some so := by simp
theorem app_old {H G : Hp} {p : Nat} {so : SO} (h : H[p]? = some so) : (H ++ G)[p]? = some so := by
  rw [List.getElem?_append_left (List.getElem?_eq_some_iff.mp h).1]; exact h
theorem at_lt {H : Hp} {p : Nat} {so : SO} (h : H[p]? = some so) : p < H.length := (List.getElem?_eq_some_iff.mp h).1
section
variable {H : Hp} {x y z : SV} {r : List SV}
theorem qr30 : item H (.tup (x :: r)) (.int 0) = some x := rfl
theorem qr31 : item H (.tup (x :: y :: r)) (.int 1) = some y := rfl
theorem qr32 : item H (.tup (x :: y :: z :: r)) (.int 2) = some z := rfl
theorem item_lst {p : Nat} {xs : List SV} {i : Int} (hp : H[p]? = some (.lst xs)) (h0 : 0 ≤ i) (h1 : i < 1000000) : item H (.ref p) (.int i) = xs[i.toNat]? := by
  show (match H[p]? with | some (.lst xs) => if 0 ≤ i ∧ i < 1000000 then xs[i.toNat]? else none | some (.dI es) => look es i | _ => none) = _
  rw [hp]; exact if_pos ⟨h0, h1⟩
theorem intsOf_map : ∀ us : List Int, intsOf (us.map SV.int) = some us
  | [] => rfl
  | a :: r => by show (intsOf (r.map SV.int)).map (fun l => a :: l) = _; rw [intsOf_map r]; rfl
theorem fr_one {loc : Loc} {i : Nat} {v : SV} (h : loc[i]? = some (some v)) : frees loc [i] = some [some v] := by
  show (match loc[i]? with | some (some v) => (some ([] : Loc)).map (fun l => some v :: l) | _ => none) = _
  rw [h]; rfl
theorem fld_at {C : Addr} {p d : Nat} {name : Str} {fs : List (Str × SV)} (hi : H[p]? = some (.inst C d)) (hf : H[d]? = some (.flds fs)) : fld H C name (.ref p) = fs.lookup name := by
  show (match H[p]? with | some (.inst C' d) => if C' = C then (match H[d]? with | some (.flds fs) => fs.lookup name | _ => none) else none | _ => none) = _
  rw [hi]
  show (if C = C then (match H[d]? with | some (.flds fs) => fs.lookup name | _ => none) else none) = _
  rw [if_pos rfl, hf]
theorem is_at {C : Addr} {p d : Nat} {name : Str} {fs : List (Str × SV)} (hi : H[p]? = some (.inst C d)) (hf : H[d]? = some (.flds fs)) (hn : (fs.lookup name).isNone = true) : isInst C name H (.ref p) = true := by
  show (match H[p]? with | some (.inst C' d) => C' == C && (match H[d]? with | some (.flds fs) => (fs.lookup name).isNone | _ => false) | _ => false) = _
  rw [hi]
  show (C == C && (match H[d]? with | some (.flds fs) => (fs.lookup name).isNone | _ => false)) = _
  rw [hf, beq_self_eq_true]; exact hn
theorem sf_at {C : Addr} {p d : Nat} {name : Str} {fs : List (Str × SV)} {v : SV} (hi : H[p]? = some (.inst C d)) (hf : H[d]? = some (.flds fs)) (hl : fs.length < 1000) : setFld H C name v (.ref p) = some (H.set d (.flds (putF name v fs))) := by
  show (match H[p]? with | some (.inst C' d) => if C' = C then (match H[d]? with | some (.flds fs) => if fs.length < 1000 then some (H.set d (.flds (putF name v fs))) else none | _ => none) else none | _ => none) = _
  rw [hi]
  show (if C = C then (match H[d]? with | some (.flds fs) => if fs.length < 1000 then some (H.set d (.flds (putF name v fs))) else none | _ => none) else none) = _
  rw [if_pos rfl, hf]
  exact if_pos hl
theorem nL {xs : List SV} {p i : Nat} {v : SV} (hp : H[p]? = some (.lst xs)) (hx : xs[i]? = some v) : nextS H (.lst p i) = some (some (v, .lst p (i + 1))) := by
  show (match H[p]? with | some (.lst xs) => (match xs[i]? with | some v => some (some (v, Src.lst p (i + 1))) | none => some none) | _ => none) = _
  rw [hp]
  show (match xs[i]? with | some v => some (some (v, Src.lst p (i + 1))) | none => some none) = _
  rw [hx]
theorem nLe {xs : List SV} {p i : Nat} (hp : H[p]? = some (.lst xs)) (hx : xs[i]? = none) : nextS H (.lst p i) = some none := by
  show (match H[p]? with | some (.lst xs) => (match xs[i]? with | some v => some (some (v, Src.lst p (i + 1))) | none => some none) | _ => none) = _
  rw [hp]
  show (match xs[i]? with | some v => some (some (v, Src.lst p (i + 1))) | none => some none) = _
  rw [hx]
theorem nT {xs : List SV} {i : Nat} {v : SV} (hx : xs[i]? = some v) : nextS H (.tup xs i) = some (some (v, .tup xs (i + 1))) := by
  show (match xs[i]? with | some v => some (some (v, Src.tup xs (i + 1))) | none => some none) = _
  rw [hx]
theorem nTe {xs : List SV} {i : Nat} (hx : xs[i]? = none) : nextS H (.tup xs i) = some none := by
  show (match xs[i]? with | some v => some (some (v, Src.tup xs (i + 1))) | none => some none) = _
  rw [hx]
theorem item_l {p : Nat} {xs : List SV} {i : Int} (hp : H[p]? = some (.lst xs)) (h : decide (0 ≤ i ∧ i < 1000000) = true) : item H (.ref p) (.int i) = xs[i.toNat]? := item_lst hp (of_decide_eq_true h).1 (of_decide_eq_true h).2
theorem item_n {p k : Nat} {xs : List SV} (hp : H[p]? = some (.lst xs)) (h : k < 1000000) : item H (.ref p) (.int (k : Int)) = xs[k]? := item_lst hp (Int.natCast_nonneg k) (Int.ofNat_lt.mpr h)
end
section
variable {α β : Type} {a : α} {l : List α} {b : β}
theorem qr0 {f : α → β} : (a :: l).map f = f a :: l.map f := rfl
theorem qr1 {f : α → β} : ([] : List α).map f = [] := rfl
theorem qr2 {n : Nat} : List.replicate (n + 1) a = a :: List.replicate n a := rfl
theorem qr3 : List.replicate 0 a = [] := rfl
theorem qr4 {m : List α} : (a :: l) ++ m = a :: (l ++ m) := rfl
theorem qr5 {m : List α} : [] ++ m = m := rfl
theorem qr6 {c : α} : (a :: l).set 0 c = c :: l := rfl
theorem qr7 {c : α} {n : Nat} : (a :: l).set (n + 1) c = a :: l.set n c := rfl
theorem qa9 {v : α} {H : Hp} {Q : α → Hp → Prop} : Ok (some (v, H)) Q = Q v H := propext ok_some
theorem qb1 {v : α} {Q : α → Prop} : bo (some v) Q = Q v := rfl
theorem qr8 {P : Prop} : cb true P = P := rfl
theorem qr9 {xs : List SV} {P : List SV → Prop} : upk (.tup xs) P = P xs := rfl
theorem qr10 {v : SV} {l : Loc} {Q : SV → Prop} : lk (some v :: l) 0 Q = Q v := rfl
theorem qr11 {c : Option SV} {l : Loc} {n : Nat} {Q : SV → Prop} : lk (c :: l) (n + 1) Q = lk l n Q := rfl
theorem qr12 {c : Option SV} {l : Loc} {P : Prop} : inb (c :: l) 0 P = P := rfl
theorem qr13 {c : Option SV} {l : Loc} {n : Nat} {P : Prop} : inb (c :: l) (n + 1) P = inb l n P := rfl
theorem qr14 {x y : β} : cond true x y = x := rfl
theorem qr15 {x y : β} : cond false x y = y := rfl
end
section
variable {w : DS} {Q : SF → Loc → Hp → Prop} {J : Loc → Hp → Prop} {R : SV → Hp → Prop} {l : Loc} {H : Hp} {v : SV}
theorem qr16 : seqQ w Q .nxt l H = OkS (w l H) Q := rfl
theorem qr17 : seqQ w Q (.ret v) l H = Q (.ret v) l H := rfl
theorem qr18 : seqQ w Q .brk l H = Q .brk l H := rfl
theorem qr19 : seqQ w Q .cnt l H = Q .cnt l H := rfl
theorem qr20 : retQ R (.ret v) l H = R v H := rfl
theorem qr21 : retQ R .nxt l H = R .none H := rfl
theorem qr22 : loopQ J Q .nxt l H = J l H := rfl
theorem qr23 : loopQ J Q .cnt l H = J l H := rfl
theorem qr24 : loopQ J Q .brk l H = Q .nxt l H := rfl
theorem qr25 : loopQ J Q (.ret v) l H = Q (.ret v) l H := rfl
end
theorem qr26 {α : Type} {a : α} {l : List α} : (a :: l).length = l.length + 1 := rfl
theorem qr27 {α : Type} : ([] : List α).length = 0 := rfl
theorem qr28 {α : Type} {w : WD α} {loc : Loc} {H : Hp} {Q : α → Hp → Prop} : runW w loc H Q = w loc H Q := rfl
theorem qr29 {w : WS} {loc : Loc} {H : Hp} {Q : SF → Loc → Hp → Prop} : runS w loc H Q = w loc H Q := rfl
section
variable {H : Hp} {p : Nat} {xs : List SV} {v : SV}
theorem wLen (hp : H[p]? = some (.lst xs)) (hl : xs.length < 1000000) : fLen [.ref p] H = some (.int xs.length, H) := by show (match H[p]? with | some (.lst xs) => if xs.length < 1000000 then some (SV.int xs.length, H) else none | _ => none) = _; rw [hp]; exact if_pos hl
theorem wApp (hp : H[p]? = some (.lst xs)) (hl : xs.length < 1000000) : fAppend [.ref p, v] H = some (.none, H.set p (.lst (xs ++ [v]))) := by show (match H[p]? with | some (.lst xs) => if xs.length < 1000000 then some (SV.none, H.set p (.lst (xs ++ [v]))) else none | _ => none) = _; rw [hp]; exact if_pos hl
theorem wPop (hp : H[p]? = some (.lst (xs ++ [v]))) (hl : (xs ++ [v]).length < 1000000) : fPop [.ref p] H = some (v, H.set p (.lst xs)) := by
  have e1 : (xs ++ [v]).getLast? = some v := by simp
  have e2 : (xs ++ [v]).dropLast = xs := by simp
  show (match H[p]? with | some (.lst xs) => if xs.length < 1000000 then match xs.getLast? with | some v => some (v, H.set p (.lst xs.dropLast)) | none => none else none | _ => none) = _; rw [hp]; exact (if_pos hl).trans (by rw [e1, e2])
theorem wRevL (hp : H[p]? = some (.lst xs)) (hl : xs.length < 1000000) : fReverse [.ref p] H = some (.none, H.set p (.lst xs.reverse)) := by show (match H[p]? with | some (.lst xs) => if xs.length < 1000000 then some (SV.none, H.set p (.lst xs.reverse)) else none | _ => none) = _; rw [hp]; exact if_pos hl
theorem wTr (hp : H[p]? = some (.lst xs)) (hl : xs.length < 1000000) : truth H (.ref p) = some (!xs.isEmpty) := by show (match H[p]? with | some (.lst xs) => if xs.length < 1000000 then some (!xs.isEmpty) else none | _ => none) = _; rw [hp]; exact if_pos hl
theorem wTup (hp : H[p]? = some (.lst xs)) (hl : xs.length < 1000000) : fTuple [.ref p] H = some (.tup xs, H) := by show (match H[p]? with | some (.lst xs) => if xs.length < 1000000 then some (SV.tup xs, H) else none | _ => none) = _; rw [hp]; exact if_pos hl
theorem wExt {ys : List SV} (hp : H[p]? = some (.lst xs)) (hl : xs.length + ys.length < 1000000) : extRev (.ref p) (.tup ys) H = some (.none, H.set p (.lst (xs ++ ys.reverse))) := by show (match H[p]? with | some (.lst xs) => if xs.length + ys.length < 1000000 then some (SV.none, H.set p (.lst (xs ++ ys.reverse))) else none | _ => none) = _; rw [hp]; exact if_pos hl
theorem wTyL (hp : H[p]? = some (.lst xs)) : tyOf H (.ref p) = some "list" := by show (match H[p]? with | some (.lst _) => some "list" | some (.dI _) => some "dict" | some (.dS _) => some "dict" | some (.dT _) => some "dict" | _ => none) = _; rw [hp]
theorem wTyI {es : List (Int × SV)} (hp : H[p]? = some (.dI es)) : tyOf H (.ref p) = some "dict" := by show (match H[p]? with | some (.lst _) => some "list" | some (.dI _) => some "dict" | some (.dS _) => some "dict" | some (.dT _) => some "dict" | _ => none) = _; rw [hp]
theorem wTyS {es : List (Str × SV)} (hp : H[p]? = some (.dS es)) : tyOf H (.ref p) = some "dict" := by show (match H[p]? with | some (.lst _) => some "list" | some (.dI _) => some "dict" | some (.dS _) => some "dict" | some (.dT _) => some "dict" | _ => none) = _; rw [hp]
theorem wTyT {es : List (List Int × SV)} (hp : H[p]? = some (.dT es)) : tyOf H (.ref p) = some "dict" := by show (match H[p]? with | some (.lst _) => some "list" | some (.dI _) => some "dict" | some (.dS _) => some "dict" | some (.dT _) => some "dict" | _ => none) = _; rw [hp]
theorem wIt (hp : H[p]? = some (.lst xs)) : iterS H (.ref p) = some (.lst p 0) := by show (match H[p]? with | some (.lst _) => some (Src.lst p 0) | _ => none) = _; rw [hp]
theorem addT {ys : List SV} (h : xs.length + ys.length < 1000000) : opAdd (.tup xs) (.tup ys) = some (.tup (xs ++ ys)) := if_pos h
theorem wLenT (h : xs.length < 1000000) : fLen [.tup xs] H = some (.int xs.length, H) := if_pos h
theorem wTupT : fTuple [.tup xs] H = some (.tup xs, H) := rfl
theorem wItT : iterS H (.tup xs) = some (.tup xs 0) := rfl
theorem wRevS (hp : H[p]? = some (.lst xs)) : revS H (.ref p) = some (.rev p ((xs.length : Int) - 1)) := by show (match H[p]? with | some (.lst xs) => some (Src.rev p ((xs.length : Int) - 1)) | _ => none) = _; rw [hp]
theorem wNotIn {es : List (Int × SV)} {i : Int} (hp : H[p]? = some (.dI es)) : cmpNotIn H (.int i) (.ref p) = some (!(look es i).isSome) := by show (match H[p]? with | some (.dI es) => some (!(look es i).isSome) | _ => none) = _; rw [hp]
theorem wIn {i : Int} (hp : H[p]? = some (.lst xs)) : cmpIn H (.int i) (.ref p) = (intsOf xs).map fun l => l.any (· == i) := by show (match H[p]? with | some (.lst xs) => (intsOf xs).map fun (l : List Int) => l.any (· == i) | _ => none) = _; rw [hp]
theorem wSetL {i : Int} (hp : H[p]? = some (.lst xs)) (c : 0 ≤ i ∧ i.toNat < xs.length ∧ i < 1000000) : setIt H v (.ref p) (.int i) = some (H.set p (.lst (xs.set i.toNat v))) := by show (match H[p]? with | some (.lst xs) => if 0 ≤ i ∧ i.toNat < xs.length ∧ i < 1000000 then some (H.set p (.lst (xs.set i.toNat v))) else none | some (.dI es) => if es.length < 1000000 then some (H.set p (.dI (sto es i v))) else none | _ => none) = _; rw [hp]; exact if_pos c
theorem wSetI {es : List (Int × SV)} {i : Int} (hp : H[p]? = some (.dI es)) (hl : es.length < 1000000) : setIt H v (.ref p) (.int i) = some (H.set p (.dI (sto es i v))) := by show (match H[p]? with | some (.lst xs) => if 0 ≤ i ∧ i.toNat < xs.length ∧ i < 1000000 then some (H.set p (.lst (xs.set i.toNat v))) else none | some (.dI es) => if es.length < 1000000 then some (H.set p (.dI (sto es i v))) else none | _ => none) = _; rw [hp]; exact if_pos hl
theorem wSetS {es : List (Str × SV)} {x : Str} (hp : H[p]? = some (.dS es)) (hl : es.length < 1000000) : setIt H v (.ref p) (.str x) = some (H.set p (.dS (sto es x v))) := by show (match H[p]? with | some (.dS es) => if es.length < 1000000 then some (H.set p (.dS (sto es x v))) else none | _ => none) = _; rw [hp]; exact if_pos hl
theorem wSetT {es : List (List Int × SV)} {ks : List Int} (hp : H[p]? = some (.dT es)) (hk : intsOf xs = some ks) (hl : es.length < 1000000 ∧ (look es ks).isNone) : setIt H v (.ref p) (.tup xs) = some (H.set p (.dT (es ++ [(ks, v)]))) := by show (match H[p]?, intsOf xs with | some (.dT es), some ks => if es.length < 1000000 ∧ (look es ks).isNone then some (H.set p (.dT (es ++ [(ks, v)]))) else none | _, _ => none) = _; rw [hp, hk]; exact if_pos hl
theorem wGetS {es : List (Str × SV)} {x : Str} (hp : H[p]? = some (.dS es)) : fGet [.ref p, .str x, v] H = some ((look es x).getD v, H) := by show (match H[p]? with | some (.dS es) => some ((look es x).getD v, H) | _ => none) = _; rw [hp]
theorem wGetT {es : List (List Int × SV)} {ks : List Int} (hp : H[p]? = some (.dT es)) (hk : intsOf xs = some ks) : fGet [.ref p, .tup xs, v] H = some ((look es ks).getD v, H) := by show (match H[p]?, intsOf xs with | some (.dT es), some ks => some ((look es ks).getD v, H) | _, _ => none) = _; rw [hp, hk]
theorem wSome {es : List (Int × SV)} {i : Int} {u : SV} (hp : H[p]? = some (.dI es)) (hl : es.length < 1000000) (hk : look es i = some u) : fSetdefault [.ref p, .int i, v] H = some (u, H) := by show (match H[p]? with | some (.dI es) => if es.length < 1000000 then match look es i with | some v => some (v, H) | none => some (v, H.set p (.dI (sto es i v))) else none | _ => none) = _; rw [hp]; exact (if_pos hl).trans (by rw [hk])
theorem wNone {es : List (Int × SV)} {i : Int} (hp : H[p]? = some (.dI es)) (hl : es.length < 1000000) (hk : look es i = none) : fSetdefault [.ref p, .int i, v] H = some (v, H.set p (.dI (sto es i v))) := by show (match H[p]? with | some (.dI es) => if es.length < 1000000 then match look es i with | some v => some (v, H) | none => some (v, H.set p (.dI (sto es i v))) else none | _ => none) = _; rw [hp]; exact (if_pos hl).trans (by rw [hk])
theorem rng3 {a b st : Int} : rangeS [.int a, .int b, .int st] = if st = -1 ∧ a < 1000000 ∧ -1000000 < a ∧ b < 1000000 ∧ -1000000 < b then some (.rng a (if a > b then a - b else 0) (-1)) else none := rfl
theorem rng1 {a : Int} : rangeS [.int a] = if a < 1000000 ∧ -1000000 < a then some (.rng 0 (if 0 < a then a else 0) 1) else none := rfl
theorem pvN : plainV .none = true := rfl
theorem cII {g : Int → Int → Bool} {a b : Int} : cmpII g H (.int a) (.int b) = some (g a b) := rfl
theorem mulF {a b : Int} (h : a.natAbs < 4294967296) : opMul (.int a) (.int b) = some (.int (a * b)) := if_pos h
theorem subF {a b : Int} : opSub (.int a) (.int b) = some (.int (a - b)) := rfl
theorem addF {a b : Int} : opAdd (.int a) (.int b) = some (.int (a + b)) := rfl
theorem negF {a : Int} : opNeg (.int a) = some (.int (-a)) := rfl
theorem absF {a : Int} : fAbs [.int a] H = some (.int (if a < 0 then -a else a), H) := rfl
theorem cinT : cmpIsNone H (.tup xs) .none = some false := rfl
end
theorem evA : type_of% (And.intro @true_and (And.intro @and_true (And.intro @Option.some.injEq.{0} (And.intro @exists_eq_left'.{1} (And.intro @exists_eq_left.{1} (And.intro @Bool.false_eq_true (And.intro @Bool.true_eq_false (And.intro @if_true.{1} (And.intro @if_false.{1} (And.intro @List.append_nil.{0} (And.intro @ok_new (And.intro @qa9 @qb1)))))))))))) := (And.intro @true_and (And.intro @and_true (And.intro @Option.some.injEq.{0} (And.intro @exists_eq_left'.{1} (And.intro @exists_eq_left.{1} (And.intro @Bool.false_eq_true (And.intro @Bool.true_eq_false (And.intro @if_true.{1} (And.intro @if_false.{1} (And.intro @List.append_nil.{0} (And.intro @ok_new (And.intro @qa9 @qb1))))))))))))
set_option synthInstance.maxSize 100000
set_option synthInstance.maxHeartbeats 2000000
set_option maxHeartbeats 2000000
local macro_rules | `(tactic| walk_at "ev") => do
  let ids := (Array.range 33).map fun i => Lean.mkIdent (.mkSimple s!"qr{i}")
  `(tactic| first
    | ((with_reducible refine ok_fn ?_ ?_); exact rfl)
    | ((with_reducible refine ok_new.mpr (ok_fn ?_ ?_)); exact rfl)
    | with_reducible refine IsWS.run ?_
    | dsimp only [$[$ids:ident],*])
theorem tg1 {H : Hp} : cmpSS H (.str (Str.ofString "a")) (.str (Str.ofString "a")) = some true := rfl
theorem tg2 {H : Hp} : cmpSS H (.str (Str.ofString "a")) (.str (Str.ofString "v")) = some false := rfl
theorem tg3 {H : Hp} : cmpSS H (.str (Str.ofString "a")) (.str (Str.ofString "i")) = some false := rfl
theorem tg4 {H : Hp} : cmpSS H (.str (Str.ofString "a")) (.str (Str.ofString "s")) = some false := rfl
theorem tg5 {H : Hp} : cmpSS H (.str (Str.ofString "v")) (.str (Str.ofString "a")) = some false := rfl
theorem tg6 {H : Hp} : cmpSS H (.str (Str.ofString "v")) (.str (Str.ofString "v")) = some true := rfl
theorem tg7 {H : Hp} : cmpSS H (.str (Str.ofString "v")) (.str (Str.ofString "i")) = some false := rfl
theorem tg8 {H : Hp} : cmpSS H (.str (Str.ofString "v")) (.str (Str.ofString "s")) = some false := rfl
theorem tg9 {H : Hp} : cmpSS H (.str (Str.ofString "i")) (.str (Str.ofString "a")) = some false := rfl
theorem tg10 {H : Hp} : cmpSS H (.str (Str.ofString "i")) (.str (Str.ofString "v")) = some false := rfl
theorem tg11 {H : Hp} : cmpSS H (.str (Str.ofString "i")) (.str (Str.ofString "i")) = some true := rfl
theorem tg12 {H : Hp} : cmpSS H (.str (Str.ofString "i")) (.str (Str.ofString "s")) = some false := rfl
theorem tg13 {H : Hp} : cmpSS H (.str (Str.ofString "s")) (.str (Str.ofString "a")) = some false := rfl
theorem tg14 {H : Hp} : cmpSS H (.str (Str.ofString "s")) (.str (Str.ofString "v")) = some false := rfl
theorem tg15 {H : Hp} : cmpSS H (.str (Str.ofString "s")) (.str (Str.ofString "i")) = some false := rfl
theorem tg16 {H : Hp} : cmpSS H (.str (Str.ofString "s")) (.str (Str.ofString "s")) = some true := rfl
theorem evB : type_of% (And.intro @tg1 (And.intro @tg2 (And.intro @tg3 (And.intro @tg4 (And.intro @tg5 (And.intro @tg6 (And.intro @tg7 (And.intro @tg8 (And.intro @tg9 (And.intro @tg10 (And.intro @tg11 (And.intro @tg12 (And.intro @tg13 (And.intro @tg14 (And.intro @tg15 @tg16))))))))))))))) := (And.intro @tg1 (And.intro @tg2 (And.intro @tg3 (And.intro @tg4 (And.intro @tg5 (And.intro @tg6 (And.intro @tg7 (And.intro @tg8 (And.intro @tg9 (And.intro @tg10 (And.intro @tg11 (And.intro @tg12 (And.intro @tg13 (And.intro @tg14 (And.intro @tg15 @tg16)))))))))))))))
inductive Fu where
  | n (k : Int)
  | p (m : Nat)
  | ph
inductive Tr (X : Type) where
  | a (n : Int)
  | i (n : Int)
  | v (x : X)
  | s (f : Fu) (l : List (Tr X))
section
variable {X : Type}
mutual
noncomputable def enc (ρ : Fu → Int) (ι : X → Int) : Tr X → SV
  | .a n => .tup [.str (Str.ofString "a"), .int n]
  | .i n => .tup [.str (Str.ofString "i"), .int n]
  | .v x => .tup [.str (Str.ofString "v"), .int (ι x)]
  | .s f l => .tup [.str (Str.ofString "s"), .int (ρ f), .tup (encs ρ ι l)]
noncomputable def encs (ρ : Fu → Int) (ι : X → Int) : List (Tr X) → List SV
  | [] => []
  | t :: r => enc ρ ι t :: encs ρ ι r
end
theorem enc_1 {X : Type} {ρ : Fu → Int} {ι : X → Int} (n) : enc ρ ι (.a n) = .tup [.str (Str.ofString "a"), .int n] := rfl
theorem enc_2 {X : Type} {ρ : Fu → Int} {ι : X → Int} (n) : enc ρ ι (.i n) = .tup [.str (Str.ofString "i"), .int n] := rfl
theorem enc_3 {X : Type} {ρ : Fu → Int} {ι : X → Int} (x) : enc ρ ι (.v x) = .tup [.str (Str.ofString "v"), .int (ι x)] := rfl
theorem enc_4 {X : Type} {ρ : Fu → Int} {ι : X → Int} (f) (l) : enc ρ ι (.s f l) = .tup [.str (Str.ofString "s"), .int (ρ f), .tup (encs ρ ι l)] := rfl
theorem encs_1 {X : Type} {ρ : Fu → Int} {ι : X → Int} : encs ρ ι [] = [] := rfl
theorem encs_2 {X : Type} {ρ : Fu → Int} {ι : X → Int} (t) (r) : encs ρ ι (t :: r) = enc ρ ι t :: encs ρ ι r := rfl
theorem encs_map (ρ : Fu → Int) (ι : X → Int) : ∀ l : List (Tr X), encs ρ ι l = l.map (enc ρ ι)
  | [] => rfl
  | t :: r => by rw [encs_2, encs_map ρ ι r]; rfl
theorem sp_var {H : Hp} {k : Int} {Q : SV → Hp → Prop} (h : Q (.tup [.str (Str.ofString "v"), .int k]) H) : Ok (F_var [.int k] H) Q := by
  unfold F_var d_var
  (try with_reducible refine IsW.run ?_); (repeat (first | walk_at "ev" | simp only [evA, evB, reduceCtorEq, Nat.reduceAdd, Nat.reduceLT, Nat.reduceLeDiff]))
  exact h
theorem sp_atom {H : Hp} {k : Int} {Q : SV → Hp → Prop} (h : Q (.tup [.str (Str.ofString "a"), .int k]) H) : Ok (F_atom [.int k] H) Q := by
  unfold F_atom d_atom
  (try with_reducible refine IsW.run ?_); (repeat (first | walk_at "ev" | simp only [evA, evB, reduceCtorEq, Nat.reduceAdd, Nat.reduceLT, Nat.reduceLeDiff]))
  exact h
theorem sp_struct {H : Hp} {f : SV} {xs : List SV} {Q : SV → Hp → Prop} (h : Q (.tup [.str (Str.ofString "s"), f, .tup xs]) H) : Ok (F_struct [f, .tup xs] H) Q := by
  unfold F_struct d_struct
  (try with_reducible refine IsW.run ?_); (repeat (first | walk_at "ev" | simp only [wTupT, evA, evB, reduceCtorEq, Nat.reduceAdd, Nat.reduceLT, Nat.reduceLeDiff]))
  exact h
end
noncomputable def rs (f : Int) (xs : List SV) (t : SV) : SV := xs.foldr (fun x r => .tup [.str (Str.ofString "s"), .int f, .tup [x, r]]) t
theorem rs_cons {f : Int} {x : SV} {xs : List SV} {t : SV} : rs f (x :: xs) t = .tup [.str (Str.ofString "s"), .int f, .tup [x, rs f xs t]] := rfl
theorem rs_nil {f : Int} {t : SV} : rs f [] t = t := rfl
theorem drop_at {α : Type} {xs : List α} {n : Nat} {x : α} (h : xs[n]? = some x) : xs.drop n = x :: xs.drop (n + 1) := by
  obtain ⟨hn, e⟩ := List.getElem?_eq_some_iff.mp h
  rw [List.drop_eq_getElem_cons hn, e]
theorem app_set {H : Hp} {x y : SO} : (H ++ [x]).set H.length y = H ++ [y] := by simp
theorem app_len {H : Hp} {x : SO} : (H ++ [x]).length = H.length + 1 := by simp
theorem fapp {H : Hp} {ys : List SV} {v : SV} (hy : ys.length < 1000000) : fAppend [.ref H.length, v] (H ++ [.lst ys]) = some (.none, H ++ [.lst (ys ++ [v])]) := by
  rw [wApp app_at hy, app_set]
theorem tyapp {H : Hp} {ys : List SV} : tyOf (H ++ [.lst ys]) (.ref H.length) = some "list" := wTyL app_at
theorem sp_list_term {H : Hp} {p : Nat} {xs tl : List SV} {Q : SV → Hp → Prop} (hp : H[p]? = some (.lst xs)) (hl : xs.length < 3000) (h : Q (rs 0 xs (.tup tl)) H) : Ok (F_list_term [.ref p, .tup tl] H) Q := by
  unfold F_list_term d_list_term
  (try with_reducible refine IsW.run ?_); (repeat (first | walk_at "ev" | simp only [cinT, wRevS hp, evA, evB, reduceCtorEq, Nat.reduceAdd, Nat.reduceLT, Nat.reduceLeDiff]))
  (try with_reducible refine IsW.run ?_); (repeat (first | walk_at "ev" | simp only [evA, evB, reduceCtorEq, Nat.reduceAdd, Nat.reduceLT, Nat.reduceLeDiff]))
  refine oks_forLJ (fun n src l H' => H' = H ∧ src = .rev p ((n : Int) - 1) ∧ n ≤ xs.length ∧ ∃ z, l = [some (.ref p), some (.tup tl), some (rs 0 (xs.drop n) (.tup tl)), z]) ?_ ?_ hl ⟨rfl, rfl, Nat.le_refl _, none, by rw [List.drop_length]; rfl⟩
  · rintro src l H' ⟨rfl, rfl, _, z, rfl⟩
    refine ⟨rfl, ?_⟩
    (try with_reducible refine IsW.run ?_); (repeat (first | walk_at "ev" | simp only [evA, evB, reduceCtorEq, Nat.reduceAdd, Nat.reduceLT, Nat.reduceLeDiff]))
    exact h
  · rintro J mk n src l H' ⟨rfl, rfl, hn, z, rfl⟩
    have hx : xs[n]? = some xs[n] := List.getElem?_eq_getElem (by lia)
    refine ⟨xs[n], .rev p ((n : Int) - 1), ?_, by simp, ?_⟩
    · simp only [nextS, hp]
      rw [if_neg (by lia)]
      have : (((n + 1 : Nat) : Int) - 1).toNat = n := by lia
      rw [this, hx]
      simp
    · (try with_reducible refine IsW.run ?_); (repeat (first | walk_at "ev" | simp only [evA, evB, reduceCtorEq, Nat.reduceAdd, Nat.reduceLT, Nat.reduceLeDiff]))
      exact mk ⟨rfl, rfl, by lia, _, by rw [drop_at hx]; rfl⟩
theorem sp_list_items {H : Hp} {xs : List SV} {Q : SV → Hp → Prop} (hl : xs.length < 2900) (h : Q (.tup [.ref H.length, sNIL]) (H ++ [.lst xs])) : Ok (F_list_items [rs 0 xs sNIL] H) Q := by
  unfold F_list_items d_list_items
  (try with_reducible refine IsW.run ?_); (repeat (first | walk_at "ev" | simp only [evA, evB, reduceCtorEq, Nat.reduceAdd, Nat.reduceLT, Nat.reduceLeDiff]))
  (try with_reducible refine IsW.run ?_); (repeat (first | walk_at "ev" | simp only [evA, evB, reduceCtorEq, Nat.reduceAdd, Nat.reduceLT, Nat.reduceLeDiff]))
  refine oks_whileJ (fun n l H' => ∃ ys zs, H' = H ++ [.lst ys] ∧ ys ++ zs = xs ∧ l = [some (rs 0 zs sNIL), some (.ref H.length)] ∧ n = zs.length) ?_ (n := xs.length) (by lia) ⟨[], xs, rfl, rfl, rfl, rfl⟩
  rintro J mk n l H' ⟨ys, zs, rfl, e, rfl, rfl⟩
  cases zs with
  | nil =>
    rw [List.append_nil] at e
    (try with_reducible refine IsW.run ?_); (repeat (first | walk_at "ev" | simp only [rs_nil, sNIL, evA, evB, reduceCtorEq, Nat.reduceAdd, Nat.reduceLT, Nat.reduceLeDiff]))
    rw [e]
    exact h
  | cons x zs =>
    have hy : ys.length < 1000000 := by have := congrArg List.length e; simp at this; lia
    (try with_reducible refine IsW.run ?_); (repeat (first | walk_at "ev" | simp only [rs_cons, cII, tyapp, fapp hy, pvN, beq_self_eq_true, evA, evB, reduceCtorEq, Nat.reduceAdd, Nat.reduceLT, Nat.reduceLeDiff]))
    exact ⟨zs.length, Nat.lt_succ_self _, mk ⟨ys ++ [x], zs, rfl, by rw [List.append_assoc]; exact e, rfl, rfl⟩⟩
theorem any_of {H : Hp} {fs : List Int} {f : Int} : cmpIn H (.int f) (.tup (fs.map SV.int)) = some (fs.any (· == f)) := by
  show (intsOf (fs.map SV.int)).map (fun l => l.any (· == f)) = _
  rw [intsOf_map]; rfl
theorem enc_tag {X : Type} (ρ : Fu → Int) (ι : X → Int) (t : Tr X) : (∃ g r, enc ρ ι t = .tup (.str g :: r) ∧ (g == Str.ofString "s") = false) ∨ ∃ g l, t = .s g l ∧ enc ρ ι t = .tup [.str (Str.ofString "s"), .int (ρ g), .tup (encs ρ ι l)] := by
  cases t with
  | a n => exact .inl ⟨_, _, rfl, rfl⟩
  | v n => exact .inl ⟨_, _, rfl, rfl⟩
  | i n => exact .inl ⟨_, _, rfl, rfl⟩
  | s g l => exact .inr ⟨g, l, rfl, rfl⟩
theorem sp_right_spine {X : Type} {ρ : Fu → Int} {ι : X → Int} {H : Hp} {f : Int} {fs : List Int} {xs : List SV} {t : Tr X} {Q : SV → Hp → Prop} (hl : xs.length < 2900) (hf : fs.any (· == f) = true) (ht : ∀ g l, t = .s g l → fs.any (· == ρ g) = false) (h : Q (.ref H.length) (H ++ [.lst (xs ++ [enc ρ ι t])])) :
    Ok (F_right_spine [rs f xs (enc ρ ι t), .tup (fs.map SV.int)] H) Q := by
  unfold F_right_spine d_right_spine
  (try with_reducible refine IsW.run ?_); (repeat (first | walk_at "ev" | simp only [evA, evB, reduceCtorEq, Nat.reduceAdd, Nat.reduceLT, Nat.reduceLeDiff]))
  (try with_reducible refine IsW.run ?_); (repeat (first | walk_at "ev" | simp only [evA, evB, reduceCtorEq, Nat.reduceAdd, Nat.reduceLT, Nat.reduceLeDiff]))
  refine oks_whileJ (fun n l H' => ∃ ys zs, H' = H ++ [.lst ys] ∧ ys ++ zs = xs ∧ l = [some (rs f zs (enc ρ ι t)), some (.tup (fs.map SV.int)), some (.ref H.length)] ∧ n = zs.length) ?_ (n := xs.length) (by lia) ⟨[], xs, rfl, rfl, rfl, rfl⟩
  rintro J mk n l H' ⟨ys, zs, rfl, e, rfl, rfl⟩
  cases zs with
  | nil =>
    rw [List.append_nil] at e
    rw [← e] at h hl
    have hy : ys.length < 1000000 := by lia
    rw [rs_nil]
    rcases enc_tag ρ ι t with ⟨g, r, e1, e2⟩ | ⟨g, l, e1, e2⟩
    · rw [e1] at h ⊢
      have cm : ∀ H : Hp, cmpSS H (.str g) (.str (Str.ofString "s")) = some false := fun _ => congrArg some e2
      (try with_reducible refine IsW.run ?_); (repeat (first | walk_at "ev" | simp only [cm, tyapp, fapp hy, pvN, evA, evB, reduceCtorEq, Nat.reduceAdd, Nat.reduceLT, Nat.reduceLeDiff]))
      exact h
    · have := ht g l e1
      rw [e2] at h ⊢
      (try with_reducible refine IsW.run ?_); (repeat (first | walk_at "ev" | simp only [any_of, this, tyapp, fapp hy, pvN, evA, evB, reduceCtorEq, Nat.reduceAdd, Nat.reduceLT, Nat.reduceLeDiff]))
      exact h
  | cons x zs =>
    have hy : ys.length < 1000000 := by have := congrArg List.length e; simp at this; lia
    (try with_reducible refine IsW.run ?_); (repeat (first | walk_at "ev" | simp only [rs_cons, any_of, hf, tyapp, fapp hy, pvN, evA, evB, reduceCtorEq, Nat.reduceAdd, Nat.reduceLT, Nat.reduceLeDiff]))
    exact ⟨zs.length, Nat.lt_succ_self _, mk ⟨ys ++ [x], zs, rfl, by rw [List.append_assoc]; exact e, rfl, rfl⟩⟩
theorem ap0 {H L : Hp} {x : SO} : (H ++ x :: L)[H.length]? = some x := by simp
theorem apk {H L : Hp} {k : Nat} : (H ++ L)[H.length + k]? = L[k]? := by
  rw [List.getElem?_append_right (Nat.le_add_right _ _), Nat.add_sub_cancel_left]
theorem apset0 {H L : Hp} {x y : SO} : (H ++ x :: L).set H.length y = H ++ y :: L := by simp
theorem apsetk {H L : Hp} {k : Nat} {y : SO} : (H ++ L).set (H.length + k) y = H ++ L.set k y := by
  rw [List.set_append_right _ _ (Nat.le_add_right _ _), Nat.add_sub_cancel_left]
theorem len_ref {H : Hp} {p n : Nat} {xs : List SV} (hp : H[p]? = some (.lst xs)) (e : xs.length = n) (hl : n < 1000000) : fLen [.ref p] H = some (.int (n : Int), H) := by
  rw [wLen hp (by rw [e]; exact hl), e]
theorem sp_conjunction {H : Hp} {p : Nat} {ys : List SV} {z : SV} {Q : SV → Hp → Prop} (hp : H[p]? = some (.lst (ys ++ [z]))) (hl : ys.length < 2900) (h : Q (rs 1 ys z) H) : Ok (F_conjunction [.ref p] H) Q := by
  have el : fLen [.ref p] H = some (.int ((ys.length + 1 : Nat) : Int), H) := len_ref hp (by simp) (by lia)
  have z0 : ((((ys.length + 1 : Nat) : Int)) == (0 : Int)) = false := by rw [beq_eq_false_iff_ne]; lia
  have i1 : item H (.ref p) (.int (((ys.length + 1 : Nat) : Int) - 1)) = some z := by
    rw [show (((ys.length + 1 : Nat) : Int) - 1) = ((ys.length : Nat) : Int) by rw [Int.natCast_add]; exact Int.add_sub_cancel _ _, item_n hp (ltb hl rfl), List.getElem?_concat_length]
  have r1 : rangeS [.int (((ys.length + 1 : Nat) : Int) - 2), .int (-1), .int (-1)] = some (.rng ((ys.length : Int) - 1) (ys.length : Int) (-1)) := by
    rw [rng3, if_pos (by lia)]
    congr 2
    · lia
    · split <;> lia
  unfold F_conjunction d_conjunction
  (try with_reducible refine IsW.run ?_); (repeat (first | walk_at "ev" | simp only [el, cII, z0, subF, negF, i1, r1, evA, evB, reduceCtorEq, Nat.reduceAdd, Nat.reduceLT, Nat.reduceLeDiff]))
  (try with_reducible refine IsW.run ?_); (repeat (first | walk_at "ev" | simp only [evA, evB, reduceCtorEq, Nat.reduceAdd, Nat.reduceLT, Nat.reduceLeDiff]))
  refine oks_forLJ (fun n src l H' => H' = H ∧ src = .rng ((n : Int) - 1) (n : Int) (-1) ∧ n ≤ ys.length ∧ ∃ w, l = [some (.ref p), some (rs 1 (ys.drop n) z), w]) ?_ ?_ (n := ys.length) (by lia) ⟨rfl, rfl, Nat.le_refl _, none, by rw [List.drop_length]; rfl⟩
  · rintro src l H' ⟨rfl, rfl, _, w, rfl⟩
    refine ⟨rfl, ?_⟩
    (try with_reducible refine IsW.run ?_); (repeat (first | walk_at "ev" | simp only [evA, evB, reduceCtorEq, Nat.reduceAdd, Nat.reduceLT, Nat.reduceLeDiff]))
    exact h
  · rintro J mk n src l H' ⟨rfl, rfl, hn, w, rfl⟩
    have hx : ys[n]? = some ys[n] := List.getElem?_eq_getElem (by lia)
    have i2 : item H' (.ref p) (.int (n : Int)) = some ys[n] := by
      rw [item_n hp (by lia), List.getElem?_append_left (by lia), hx]
    refine ⟨.int (n : Int), .rng ((n : Int) - 1) (n : Int) (-1), ?_, by simp, ?_⟩
    · simp only [nextS]
      rw [if_pos (by lia)]
      simp only [Option.some.injEq, Prod.mk.injEq, SV.int.injEq, Src.rng.injEq, true_and, and_true]
      lia
    · (try with_reducible refine IsW.run ?_); (repeat (first | walk_at "ev" | simp only [i2, evA, evB, reduceCtorEq, Nat.reduceAdd, Nat.reduceLT, Nat.reduceLeDiff]))
      exact mk ⟨rfl, rfl, by lia, some (.int (n : Int)), by rw [drop_at hx]; rfl⟩
section
variable {X : Type}
mutual
noncomputable def sz : Tr X → Nat
  | .a _ => 1
  | .i _ => 1
  | .v _ => 1
  | .s _ l => 1 + szs l
noncomputable def szs : List (Tr X) → Nat
  | [] => 0
  | t :: r => sz t + szs r
end
theorem sz_1 (n) : sz (.a n : Tr X) = 1 := rfl
theorem sz_2 (n) : sz (.i n : Tr X) = 1 := rfl
theorem sz_3 (x) : sz (.v x : Tr X) = 1 := rfl
theorem sz_4 (f) (l) : sz (.s f l : Tr X) = 1 + szs l := rfl
theorem szs_1 : szs ([] : List (Tr X)) = 0 := rfl
theorem szs_2 (t) (r) : szs (t :: r : List (Tr X)) = sz t + szs r := rfl
mutual
noncomputable def vrs : Tr X → List X
  | .a _ => []
  | .i _ => []
  | .v x => [x]
  | .s _ l => vrss l
noncomputable def vrss : List (Tr X) → List X
  | [] => []
  | t :: r => vrs t ++ vrss r
end
theorem vrs_1 (n) : vrs (.a n : Tr X) = [] := rfl
theorem vrs_2 (n) : vrs (.i n : Tr X) = [] := rfl
theorem vrs_3 (x) : vrs (.v x : Tr X) = [x] := rfl
theorem vrs_4 (f) (l) : vrs (.s f l : Tr X) = vrss l := rfl
theorem vrss_1 : vrss ([] : List (Tr X)) = [] := rfl
theorem vrss_2 (t) (r) : vrss (t :: r : List (Tr X)) = vrs t ++ vrss r := rfl
theorem szs_app : ∀ {l m : List (Tr X)}, szs (l ++ m) = szs l + szs m
  | [], m => by simp [szs_1, szs_2]
  | t :: r, m => by simp [szs_1, szs_2, szs_app (l := r)]; lia
theorem vrss_app : ∀ {l m : List (Tr X)}, vrss (l ++ m) = vrss l ++ vrss m
  | [], m => by simp [vrss_1, vrss_2]
  | t :: r, m => by simp [vrss_1, vrss_2, vrss_app (l := r)]
theorem szs_rev : ∀ {l : List (Tr X)}, szs l.reverse = szs l
  | [] => rfl
  | t :: r => by rw [List.reverse_cons, szs_app, szs_rev]; simp [szs_1, szs_2]; lia
theorem vrss_rev {x : X} : ∀ {l : List (Tr X)}, x ∈ vrss l.reverse ↔ x ∈ vrss l
  | [] => Iff.rfl
  | t :: r => by rw [List.reverse_cons, vrss_app]; simp [vrss_1, vrss_2, vrss_rev (l := r), or_comm]
theorem szs_len : ∀ {l : List (Tr X)}, l.length ≤ szs l
  | [] => Nat.le_refl _
  | t :: r => by have := szs_len (l := r); cases t <;> simp [szs_1, szs_2, sz_1, sz_2, sz_3, sz_4] <;> lia
theorem sz_pos {t : Tr X} : 0 < sz t := by cases t <;> simp [sz_1, sz_2, sz_3, sz_4]; lia
theorem encs_app {ρ : Fu → Int} {ι : X → Int} : ∀ {l m : List (Tr X)}, encs ρ ι (l ++ m) = encs ρ ι l ++ encs ρ ι m
  | [], m => rfl
  | t :: r, m => by simp [encs_1, encs_2, encs_app (l := r)]
theorem encs_rev {ρ : Fu → Int} {ι : X → Int} : ∀ {l : List (Tr X)}, encs ρ ι l.reverse = (encs ρ ι l).reverse
  | [] => rfl
  | t :: r => by rw [List.reverse_cons, encs_app, encs_rev]; simp [encs_1, encs_2]
theorem encs_len {ρ : Fu → Int} {ι : X → Int} : ∀ {l : List (Tr X)}, (encs ρ ι l).length = l.length
  | [] => rfl
  | t :: r => by simp [encs_1, encs_2, encs_len (l := r)]
end
theorem look_isSome {es : List (Int × SV)} {j : Int} : (look es j).isSome = es.any fun e => decide (e.1 = j) := by
  unfold look
  rw [Option.isSome_map]
  induction es with
  | nil => rfl
  | cons e r ih => rw [List.find?_cons, List.any_cons, ← ih]; cases h : decide (e.1 = j) <;> simp
theorem sto_look {es : List (Int × SV)} {k j : Int} {v : SV} : (look (sto es k v) j).isSome = (decide (j = k) || (look es j).isSome) := by
  rw [look_isSome, look_isSome]
  unfold sto
  split
  · rename_i h
    rw [List.any_map]
    by_cases hj : j = k
    · subst hj
      simp only [decide_true, Bool.true_or]
      obtain ⟨e, he, hk⟩ := List.any_eq_true.mp h
      have hk := of_decide_eq_true hk
      exact List.any_eq_true.mpr ⟨e, he, by simp [hk]⟩
    · simp only [hj, decide_false, Bool.false_or]
      congr 1
      funext e
      by_cases he : e.1 = k <;> simp [he]
  · rename_i h
    rw [List.any_append]
    by_cases hj : j = k
    · subst hj; simp
    · have : k ≠ j := fun q => hj q.symm
      simp [hj, this]
theorem sto_len {es : List (Int × SV)} {k : Int} {v : SV} : (sto es k v).length ≤ es.length + 1 := by
  unfold sto
  cases es.any fun e => decide (e.1 = k)
  · exact Nat.le_of_eq List.length_append
  · exact Nat.le_trans (Nat.le_of_eq (List.length_map _)) (Nat.le_succ _)
theorem enc_tag2 {X : Type} (ρ : Fu → Int) (ι : X → Int) (t : Tr X) : (∃ z g, enc ρ ι t = .tup [.str g, z] ∧ (∀ H : Hp, cmpSS H (.str g) (.str (Str.ofString "v")) = some false ∧ cmpSS H (.str g) (.str (Str.ofString "s")) = some false) ∧ vrs t = []) ∨ (∃ x, t = .v x) ∨ ∃ g l, t = .s g l := by
  cases t with
  | a n => exact .inl ⟨_, _, rfl, fun _ => ⟨rfl, rfl⟩, rfl⟩
  | i n => exact .inl ⟨_, _, rfl, fun _ => ⟨rfl, rfl⟩, rfl⟩
  | v n => exact .inr (.inl ⟨n, rfl⟩)
  | s g l => exact .inr (.inr ⟨g, l, rfl⟩)
noncomputable def VH {X : Type} (ρ : Fu → Int) (ι : X → Int) (H : Hp) (t : Tr X) (es : List (Int × SV)) (vs : List Int) (ts : List (Tr X)) : Hp := H ++ [.lst [enc ρ ι t], .dI es, .lst (vs.map .int), .lst (encs ρ ι ts)]
section
variable {X : Type} {ρ : Fu → Int} {ι : X → Int} {H : Hp} {t u : Tr X} {es : List (Int × SV)} {vs : List Int} {ts us l : List (Tr X)}
theorem va1 : (VH ρ ι H t es vs ts)[H.length + 1]? = some (.dI es) := apk
theorem va2 : (VH ρ ι H t es vs ts)[H.length + 2]? = some (.lst (vs.map .int)) := apk
theorem va3 : (VH ρ ι H t es vs ts)[H.length + 3]? = some (.lst (encs ρ ι ts)) := apk
theorem vh0 : truth (VH ρ ι H t es vs []) (.ref (H.length + 3)) = some false := wTr va3 (by simp [encs_1, encs_2])
theorem encs_lt (hl : szs ts < 2900) : (encs ρ ι ts).length < 1000000 := by
  rw [encs_len]; have := szs_len (l := ts); lia
theorem vh1 (hl : szs (us ++ [u]) < 2900) : truth (VH ρ ι H t es vs (us ++ [u])) (.ref (H.length + 3)) = some true := by
  rw [wTr va3 (encs_lt hl), encs_app]; cases encs ρ ι us <;> rfl
theorem vh2 (hl : szs (us ++ [u]) < 2900) : fPop [.ref (H.length + 3)] (VH ρ ι H t es vs (us ++ [u])) = some (enc ρ ι u, VH ρ ι H t es vs us) := by
  have e : encs ρ ι (us ++ [u]) = encs ρ ι us ++ [enc ρ ι u] := encs_app
  have h3 : (VH ρ ι H t es vs (us ++ [u]))[H.length + 3]? = some (.lst (encs ρ ι us ++ [enc ρ ι u])) := by rw [va3, e]
  rw [wPop h3 (by rw [← e]; exact encs_lt hl)]
  unfold VH; rw [apsetk]; rfl
theorem vh3 : tyOf (VH ρ ι H t es vs ts) (.ref (H.length + 3)) = some "list" := wTyL va3
theorem vh4 : tyOf (VH ρ ι H t es vs ts) (.ref (H.length + 2)) = some "list" := wTyL va2
theorem vh5 {k : Int} {b : Bool} (h2 : ∀ k, (look es k).isSome = decide (k ∈ vs)) (hb : decide (k ∈ vs) = b) : cmpNotIn (VH ρ ι H t es vs ts) (.int k) (.ref (H.length + 1)) = some (!b) := by
  rw [wNotIn va1, h2, hb]
theorem vh6 {k : Int} (hes : es.length < 2900) : setIt (VH ρ ι H t es vs ts) (.bool true) (.ref (H.length + 1)) (.int k) = some (VH ρ ι H t (sto es k (.bool true)) vs ts) := by
  rw [wSetI va1 (by lia)]; unfold VH; rw [apsetk]; rfl
theorem vh7 {k : Int} (hvs : vs.length < 2900) : fAppend [.ref (H.length + 2), .int k] (VH ρ ι H t es vs ts) = some (.none, VH ρ ι H t es (vs ++ [k]) ts) := by
  rw [wApp va2 (by rw [List.length_map]; lia)]; unfold VH; rw [apsetk, List.map_append]; rfl
theorem vh8 (hl : szs us + szs l < 2900) : extRev (.ref (H.length + 3)) (.tup (encs ρ ι l)) (VH ρ ι H t es vs us) = some (.none, VH ρ ι H t es vs (us ++ l.reverse)) := by
  have hl2 : (encs ρ ι us).length + (encs ρ ι l).length < 1000000 := by
    rw [encs_len, encs_len]; have := szs_len (l := us); have := szs_len (l := l); lia
  rw [wExt va3 hl2]; unfold VH; rw [apsetk, encs_app, encs_rev]; rfl
inductive VJ (ρ : Fu → Int) (ι : X → Int) (H : Hp) (t : Tr X) (n : Nat) (l : Loc) (H' : Hp) : Prop
  | mk (es : List (Int × SV)) (vs : List Int) (ts : List (Tr X)) (w : Option SV) (eH : H' = VH ρ ι H t es vs ts) (h1 : ∀ k : Int, (k ∈ vs ∨ ∃ x ∈ vrss ts, ι x = k) ↔ ∃ x ∈ vrs t, ι x = k) (h2 : ∀ k, (look es k).isSome = decide (k ∈ vs)) (h3 : es.length + szs ts ≤ sz t) (h4 : vs.length + szs ts ≤ sz t)
      (el : l = [some (.ref H.length), some (.ref (H.length + 1)), some (.ref (H.length + 2)), some (.ref (H.length + 3)), w]) (en : n = szs ts)
theorem vin (h1 : ∀ k : Int, (k ∈ vs ∨ ∃ x ∈ vrss (us ++ [u]), ι x = k) ↔ ∃ x ∈ vrs t, ι x = k) (k : Int) : (k ∈ vs ∨ ∃ x ∈ vrss us, ι x = k) ∨ (∃ x ∈ vrs u, ι x = k) ↔ ∃ x ∈ vrs t, ι x = k := by
  rw [← h1 k, vrss_app]
  simp only [vrss_1, vrss_2, List.append_nil, List.mem_append, or_and_right, exists_or, or_assoc]
theorem vin0 (h1 : ∀ k : Int, (k ∈ vs ∨ ∃ x ∈ vrss (us ++ [u]), ι x = k) ↔ ∃ x ∈ vrs t, ι x = k) (hu : vrs u = []) (k : Int) : (k ∈ vs ∨ ∃ x ∈ vrss us, ι x = k) ↔ ∃ x ∈ vrs t, ι x = k := by
  rw [← vin h1 k, hu]; simp
theorem vin1 {y : X} (h1 : ∀ k : Int, (k ∈ vs ∨ ∃ x ∈ vrss (us ++ [.v y]), ι x = k) ↔ ∃ x ∈ vrs t, ι x = k) (hx : ι y ∈ vs) (k : Int) : (k ∈ vs ∨ ∃ x ∈ vrss us, ι x = k) ↔ ∃ x ∈ vrs t, ι x = k := by
  rw [← vin h1 k]
  simp only [vrs_1, vrs_2, vrs_3, vrs_4, List.mem_singleton, exists_eq_left]
  constructor
  · exact Or.inl
  · rintro (h | rfl)
    · exact h
    · exact Or.inl hx
theorem vin2 {y : X} (h1 : ∀ k : Int, (k ∈ vs ∨ ∃ x ∈ vrss (us ++ [.v y]), ι x = k) ↔ ∃ x ∈ vrs t, ι x = k) (k : Int) : (k ∈ vs ++ [ι y] ∨ ∃ x ∈ vrss us, ι x = k) ↔ ∃ x ∈ vrs t, ι x = k := by
  rw [← vin h1 k]
  simp only [vrs_1, vrs_2, vrs_3, vrs_4, List.mem_singleton, exists_eq_left, List.mem_append]
  constructor
  · rintro ((h | rfl) | h)
    · exact Or.inl (Or.inl h)
    · exact Or.inr rfl
    · exact Or.inl (Or.inr h)
  · rintro ((h | h) | rfl)
    · exact Or.inl (Or.inl h)
    · exact Or.inr h
    · exact Or.inl (Or.inr rfl)
theorem vin3 {g : Fu} (h1 : ∀ k : Int, (k ∈ vs ∨ ∃ x ∈ vrss (us ++ [.s g l]), ι x = k) ↔ ∃ x ∈ vrs t, ι x = k) (k : Int) : (k ∈ vs ∨ ∃ x ∈ vrss (us ++ l.reverse), ι x = k) ↔ ∃ x ∈ vrs t, ι x = k := by
  rw [← vin h1 k, vrss_app]
  simp only [vrs_1, vrs_2, vrs_3, vrs_4, List.mem_append, vrss_rev, or_and_right, exists_or, or_assoc]
theorem vlk {x : X} (h2 : ∀ k, (look es k).isSome = decide (k ∈ vs)) (k : Int) : (look (sto es (ι x) (.bool true)) k).isSome = decide (k ∈ vs ++ [ι x]) := by
  rw [sto_look, h2 k]
  by_cases hk : k = ι x <;> simp [hk]
end
theorem sp_variables {X : Type} {ρ : Fu → Int} {ι : X → Int} {H : Hp} {t : Tr X} {Q : SV → Hp → Prop} (hs : sz t < 2900)
    (h : ∀ (es : List (Int × SV)) (vs : List Int), (∀ k : Int, k ∈ vs ↔ ∃ x ∈ vrs t, ι x = k) → vs.length ≤ sz t → Q (.ref (H.length + 2)) (H ++ [.lst [enc ρ ι t], .dI es, .lst (vs.map .int), .lst []])) : Ok (F_variables [enc ρ ι t] H) Q := by
  unfold F_variables d_variables
  (try with_reducible refine IsW.run ?_); (repeat (first | walk_at "ev" | simp only [evA, evB, reduceCtorEq, Nat.reduceAdd, Nat.reduceLT, Nat.reduceLeDiff]))
  unfold F_variables_of d_variables_of
  (try with_reducible refine IsW.run ?_); (repeat (first | walk_at "ev" | simp only [List.append_assoc, List.length_append, Nat.zero_add, DK.so, listRev, ap0, List.reverse_cons, List.reverse_nil, evA, evB, reduceCtorEq, Nat.reduceAdd, Nat.reduceLT, Nat.reduceLeDiff]))
  (try with_reducible refine IsW.run ?_); (repeat (first | walk_at "ev" | simp only [evA, evB, reduceCtorEq, Nat.reduceAdd, Nat.reduceLT, Nat.reduceLeDiff]))
  refine oks_whileJ (VJ ρ ι H t) ?_ (n := sz t) (by lia) ⟨[], [], [t], none, by simp [VH, encs_1, encs_2], by simp [vrss_1, vrss_2], by simp [look], by simp [szs_1, szs_2], by simp [szs_1, szs_2], by simp, by simp [szs_1, szs_2]⟩
  rintro J mk n l H' ⟨es, vs, ts, w, rfl, h1, h2, h3, h4, rfl, rfl⟩
  rcases List.eq_nil_or_concat ts with rfl | ⟨us, u, rfl⟩
  · have et := vh0 (ρ := ρ) (ι := ι) (H := H) (t := t) (es := es) (vs := vs)
    (try with_reducible refine IsW.run ?_); (repeat (first | walk_at "ev" | simp only [et, evA, evB, reduceCtorEq, Nat.reduceAdd, Nat.reduceLT, Nat.reduceLeDiff]))
    refine h es vs (fun k => ?_) (by simp [szs_1, szs_2] at h4; exact h4)
    rw [← h1 k]; simp [vrss_1, vrss_2]
  · rw [List.concat_eq_append] at *
    have hz : szs (us ++ [u]) = szs us + sz u := by rw [szs_app]; simp [szs_1, szs_2]
    have hlt : szs (us ++ [u]) < 2900 := Nat.lt_of_le_of_lt (Nat.le_trans (Nat.le_add_left _ _) h3) hs
    have ha : szs us < szs (us ++ [u]) := hz ▸ Nat.lt_add_of_pos_right sz_pos
    have hb : es.length + szs us ≤ sz t := Nat.le_trans (Nat.add_le_add_left (Nat.le_of_lt ha) _) h3
    have hc : vs.length + szs us ≤ sz t := Nat.le_trans (Nat.add_le_add_left (Nat.le_of_lt ha) _) h4
    (try with_reducible refine IsW.run ?_); (repeat (first | walk_at "ev" | simp only [vh1 hlt, vh3, vh2 hlt, evA, evB, reduceCtorEq, Nat.reduceAdd, Nat.reduceLT, Nat.reduceLeDiff]))
    rcases enc_tag2 ρ ι u with ⟨z, g, e1, e2, e3⟩ | ⟨x, rfl⟩ | ⟨g, l, rfl⟩
    · rw [e1]
      (try with_reducible refine IsW.run ?_); (repeat (first | walk_at "ev" | simp only [e2, evA, evB, reduceCtorEq, Nat.reduceAdd, Nat.reduceLT, Nat.reduceLeDiff]))
      exact ⟨szs us, ha, mk ⟨es, vs, us, _, rfl, vin0 h1 e3, h2, hb, hc, rfl, rfl⟩⟩
    · by_cases hx : ι x ∈ vs
      · have en := fun ts => vh5 (ρ := ρ) (ι := ι) (H := H) (t := t) (ts := ts) h2 (decide_eq_true hx)
        (try with_reducible refine IsW.run ?_); (repeat (first | walk_at "ev" | simp only [enc_1, enc_2, enc_3, enc_4, en, Bool.not_true, evA, evB, reduceCtorEq, Nat.reduceAdd, Nat.reduceLT, Nat.reduceLeDiff]))
        exact ⟨szs us, ha, mk ⟨es, vs, us, _, rfl, vin1 h1 hx, h2, hb, hc, rfl, rfl⟩⟩
      · have en := fun ts => vh5 (ρ := ρ) (ι := ι) (H := H) (t := t) (ts := ts) h2 (decide_eq_false hx)
        have v6 := fun k => vh6 (ρ := ρ) (ι := ι) (H := H) (t := t) (vs := vs) (ts := us) (k := k) (Nat.lt_of_le_of_lt (Nat.le_trans (Nat.le_add_right _ _) hb) hs)
        have v7 := fun k es => vh7 (ρ := ρ) (ι := ι) (H := H) (t := t) (es := es) (ts := us) (k := k) (Nat.lt_of_le_of_lt (Nat.le_trans (Nat.le_add_right _ _) hc) hs)
        (try with_reducible refine IsW.run ?_); (repeat (first | walk_at "ev" | simp only [enc_1, enc_2, enc_3, enc_4, en, Bool.not_false, v6, v7, vh4, pvN, evA, evB, reduceCtorEq, Nat.reduceAdd, Nat.reduceLT, Nat.reduceLeDiff]))
        have s1 : ∀ {n : Nat}, n + szs (us ++ [.v x]) ≤ sz t → n + 1 + szs us ≤ sz t := fun h => Nat.le_trans (by rw [Nat.add_assoc, Nat.add_comm 1]; exact Nat.add_le_add_left ha _) h
        exact ⟨szs us, ha, mk ⟨_, vs ++ [ι x], us, _, rfl, vin2 h1, vlk h2, Nat.le_trans (Nat.add_le_add_right sto_len _) (s1 h3), by rw [List.length_append]; exact s1 h4, rfl, rfl⟩⟩
    · have hl : szs us + szs l < 2900 := Nat.lt_of_le_of_lt (Nat.add_le_add_left (Nat.le_add_left _ 1) _) (show szs us + (1 + szs l) < 2900 from hz ▸ hlt)
      have hr : szs (us ++ l.reverse) < szs (us ++ [.s g l]) := by rw [hz, szs_app, szs_rev]; exact Nat.add_lt_add_left (Nat.lt_add_of_pos_left Nat.one_pos) _
      (try with_reducible refine IsW.run ?_); (repeat (first | walk_at "ev" | simp only [enc_1, enc_2, enc_3, enc_4, vh8 hl, vh3, pvN, evA, evB, reduceCtorEq, Nat.reduceAdd, Nat.reduceLT, Nat.reduceLeDiff]))
      exact ⟨szs (us ++ l.reverse), hr, mk ⟨es, vs, us ++ l.reverse, _, rfl, vin3 h1, h2, Nat.le_trans (Nat.add_le_add_left (Nat.le_of_lt hr) _) h3, Nat.le_trans (Nat.add_le_add_left (Nat.le_of_lt hr) _) h4, rfl, rfl⟩⟩
theorem set_ne {H : Hp} {p q : Nat} {x : SO} (h : p ≠ q) : (H.set p x)[q]? = H[q]? := List.getElem?_set_ne h
noncomputable def ent {α K : Type} (f : α → K) (m : Nat) : List α → List (K × SV)
  | [] => []
  | x :: r => (f x, .int (m : Int)) :: ent f (m + 1) r
noncomputable def fi {α K : Type} [DecidableEq K] (f : α → K) (k : K) : List α → Option Nat
  | [] => none
  | x :: r => if f x = k then some 0 else (fi f k r).map (· + 1)
theorem ent_1 {α K : Type} {f : α → K} (m) : ent f m [] = [] := rfl
theorem ent_2 {α K : Type} {f : α → K} (m) (x) (r) : ent f m (x :: r) = (f x, .int (m : Int)) :: ent f (m + 1) r := rfl
theorem fi_1 {α K : Type} [DecidableEq K] {f : α → K} {k : K} : fi f k [] = none := rfl
theorem fi_2 {α K : Type} [DecidableEq K] {f : α → K} {k : K} (x) (r) : fi f k (x :: r) = if f x = k then some 0 else (fi f k r).map (· + 1) := rfl
section
variable {α K : Type} [DecidableEq K] {f : α → K} {k : K}
theorem look_ent : ∀ {l : List α} {m : Nat}, look (ent f m l) k = (fi f k l).map fun i => .int ((m + i : Nat) : Int)
  | [], m => rfl
  | x :: r, m => by
    have ih := @look_ent r (m + 1)
    unfold look at ih ⊢
    simp only [ent_1, ent_2, fi_1, fi_2, List.find?_cons]
    by_cases h : f x = k
    · simp [h]
    · simp only [h, decide_false, if_false]
      rw [ih]
      cases fi f k r with
      | none => rfl
      | some i => simp; lia
theorem ent_len : ∀ {l : List α} {m : Nat}, (ent f m l).length = l.length
  | [], _ => rfl
  | x :: r, m => by simp [ent_1, ent_2, ent_len (l := r)]
theorem ent_snoc {x : α} : ∀ {l : List α} {m : Nat}, ent f m (l ++ [x]) = ent f m l ++ [(f x, .int ((m + l.length : Nat) : Int))]
  | [], m => rfl
  | y :: r, m => by
    simp only [List.cons_append, ent_1, ent_2, ent_snoc (l := r), List.length_cons]
    congr 5; lia
theorem sto_new {es : List (K × SV)} {v : SV} (h : look es k = none) : sto es k v = es ++ [(k, v)] := by
  unfold sto
  rw [if_neg]
  intro hh
  obtain ⟨e, he, hk⟩ := List.any_eq_true.mp hh
  unfold look at h
  rw [Option.map_eq_none_iff, List.find?_eq_none] at h
  exact h e he hk
theorem fi_pre {l m : List α} {i : Nat} (h : fi f k l = some i) : fi f k (l ++ m) = some i := by
  induction l generalizing i with
  | nil => cases h
  | cons x r ih =>
    simp only [List.cons_append, fi_1, fi_2] at h ⊢
    split
    · rename_i e; simpa [e] using h
    · rename_i e
      simp only [e, if_false, Option.map_eq_some_iff] at h
      obtain ⟨j, hj, rfl⟩ := h
      rw [ih hj]; rfl
theorem fi_snoc {l : List α} {x : α} (h : fi f k l = none) (e : f x = k) : fi f k (l ++ [x]) = some l.length := by
  induction l with
  | nil => simp [fi_1, fi_2, e]
  | cons y r ih =>
    simp only [List.cons_append, fi_1, fi_2] at h ⊢
    split at h
    · cases h
    · rename_i hy
      rw [if_neg hy, ih (by simpa using h)]; rfl
theorem fi_at {l : List α} {i : Nat} (h : fi f k l = some i) : ∃ x, l[i]? = some x ∧ f x = k := by
  induction l generalizing i with
  | nil => cases h
  | cons y r ih =>
    simp only [fi_1, fi_2] at h
    split at h
    · rename_i e; cases h; exact ⟨y, rfl, e⟩
    · simp only [Option.map_eq_some_iff] at h
      obtain ⟨j, hj, rfl⟩ := h
      simpa using ih hj
end
set_option genInjectivity false in
structure Sy where
  tx : List Str
  fn : List (Int × Int)
noncomputable def kF (x : Int × Int) : List Int := [x.1, x.2]
noncomputable def eF (x : Int × Int) : SV := .tup [.int x.1, .int x.2]
namespace Sy
noncomputable def ia (S : Sy) (s : Str) : Sy := if (fi id s S.tx).isSome then S else ⟨S.tx ++ [s], S.fn⟩
noncomputable def iF (S : Sy) (x m : Int) : Sy := if (fi kF [x, m] S.fn).isSome then S else ⟨S.tx, S.fn ++ [(x, m)]⟩
noncomputable def a (S : Sy) (s : Str) : Option Nat := fi id s S.tx
noncomputable def f (S : Sy) (x m : Int) : Option Nat := fi kF [x, m] S.fn
noncomputable def len (S : Sy) : Nat := S.tx.length + S.fn.length
noncomputable def Le (S S' : Sy) : Prop := S.tx <+: S'.tx ∧ S.fn <+: S'.fn
theorem Le.refl (S : Sy) : Le S S := ⟨List.prefix_refl _, List.prefix_refl _⟩
theorem Le.trans {S S' S'' : Sy} (x : Le S S') (y : Le S' S'') : Le S S'' := ⟨x.1.trans y.1, x.2.trans y.2⟩
theorem Le.a {S S' : Sy} (x : Le S S') {s : Str} {i : Nat} (h : S.a s = some i) : S'.a s = some i := by
  obtain ⟨t, e⟩ := x.1; unfold Sy.a at h ⊢; rw [← e]; exact fi_pre h
theorem Le.f {S S' : Sy} (x : Le S S') {y m : Int} {i : Nat} (h : S.f y m = some i) : S'.f y m = some i := by
  obtain ⟨t, e⟩ := x.2; unfold Sy.f at h ⊢; rw [← e]; exact fi_pre h
theorem Le.at' {S S' : Sy} (x : Le S S') {i : Nat} {y : Int × Int} (h : S.fn[i]? = some y) : S'.fn[i]? = some y := by
  obtain ⟨t, e⟩ := x.2; rw [← e, List.getElem?_append_left (List.getElem?_eq_some_iff.mp h).1]; exact h
end Sy
noncomputable def symF (n : Nat) : List (Str × SV) := [(Str.ofString "texts", .ref (n + 2)), (Str.ofString "atom_numbers", .ref (n + 3)), (Str.ofString "functors", .ref (n + 4)), (Str.ofString "functor_numbers", .ref (n + 5))]
structure SymAt (H : Hp) (n : Nat) (S : Sy) : Prop where
  inst : H[n + 1]? = some (.inst 154 n)
  flds : H[n]? = some (.flds (symF n))
  tx : H[n + 2]? = some (.lst (S.tx.map .str))
  an : H[n + 3]? = some (.dS (ent id 0 S.tx))
  fn : H[n + 4]? = some (.lst (S.fn.map eF))
  nn : H[n + 5]? = some (.dT (ent kF 0 S.fn))
noncomputable def sy (n : Nat) : Nat → Prop := fun p => n + 2 ≤ p ∧ p ≤ n + 5
theorem sy_k {n i : Nat} (h : Nat.ble 2 i = true) (h2 : Nat.ble i 5 = true) : sy n (n + i) := ⟨Nat.add_le_add_left (Nat.le_of_ble_eq_true h) _, Nat.add_le_add_left (Nat.le_of_ble_eq_true h2) _⟩
theorem SymAt.kp {H H' : Hp} {n : Nat} {S : Sy} {ch : Nat → Prop} (h : SymAt H n S) (k : Kp ch H H') (o : ∀ p, n ≤ p → p ≤ n + 5 → ¬ ch p) : SymAt H' n S :=
  have q : ∀ {i}, Nat.ble i 5 = true → ¬ ch (n + i) := fun h => o _ (Nat.le_add_right _ _) (Nat.add_le_add_left (Nat.le_of_ble_eq_true h) _)
  ⟨k.keep _ _ h.inst (q rfl), k.keep _ _ h.flds (q (i := 0) rfl), k.keep _ _ h.tx (q rfl), k.keep _ _ h.an (q rfl), k.keep _ _ h.fn (q rfl), k.keep _ _ h.nn (q rfl)⟩
theorem SymAt.fld {H : Hp} {n : Nat} {S : Sy} (h : SymAt H n S) (name : Str) : fld H 154 name (.ref (n + 1)) = (symF n).lookup name := by
  simp [Mine.Internal.fld, h.inst, h.flds]
theorem SymAt.isI {H : Hp} {n : Nat} {S : Sy} (h : SymAt H n S) {name : Str} (e : (symF n).lookup name = none) : isInst 154 name H (.ref (n + 1)) = true := by
  simp [isInst, h.inst, h.flds, e]
theorem sf1 {n : Nat} : (symF n).lookup (Str.ofString "texts") = some (.ref (n + 2)) := rfl
theorem sf2 {n : Nat} : (symF n).lookup (Str.ofString "atom_numbers") = some (.ref (n + 3)) := rfl
theorem sf3 {n : Nat} : (symF n).lookup (Str.ofString "functors") = some (.ref (n + 4)) := rfl
theorem sf4 {n : Nat} : (symF n).lookup (Str.ofString "functor_numbers") = some (.ref (n + 5)) := rfl
theorem SymAt.lt {H : Hp} {n : Nat} {S : Sy} (h : SymAt H n S) : n + 5 < H.length := at_lt h.nn
theorem sp_sym_atom {H : Hp} {n : Nat} {S : Sy} {s : Str} {Q : SV → Hp → Prop} (hS : SymAt H n S) (hl : S.len < 900000)
    (h : ∀ S' (i : Nat) H', SymAt H' n S' → S.Le S' → S'.a s = some i → S'.len ≤ S.len + 1 → S' = S.ia s → Kp (sy n) H H' → H'.length = H.length → Q (.int (i : Int)) H') : Ok (F_Symbols_atom [.ref (n + 1), .str s] H) Q := by
  have hl1 : S.tx.length < 900000 := by unfold Sy.len at hl; lia
  have eg : fGet [.ref (n + 3), .str s, .int (-1)] H = some ((look (ent id 0 S.tx) s).getD (.int (-1)), H) := wGetS hS.an
  have et : tyOf H (.ref (n + 3)) = some "dict" := wTyS hS.an
  unfold F_Symbols_atom d_Symbols_atom
  cases ha : S.a s with
  | some i =>
    have e1 : look (ent id 0 S.tx) s = some (.int (i : Int)) := by rw [look_ent]; unfold Sy.a at ha; rw [ha]; simp
    rw [e1] at eg
    (try with_reducible refine IsW.run ?_); (repeat (first | walk_at "ev" | simp only [hS.fld, sf2, negF, et, eg, Option.getD_some, cII, show decide ((0 : Int) ≤ (i : Int)) = true from by simp, evA, evB, reduceCtorEq, Nat.reduceAdd, Nat.reduceLT, Nat.reduceLeDiff]))
    exact h S i H hS (Sy.Le.refl _) ha (by lia) (by unfold Sy.ia; unfold Sy.a at ha; rw [ha]; rfl) Kp.refl rfl
  | none =>
    have e1 : look (ent id 0 S.tx) s = none := by rw [look_ent]; unfold Sy.a at ha; rw [ha]; rfl
    rw [e1] at eg
    have el : fLen [.ref (n + 2)] H = some (.int (S.tx.length : Int), H) := len_ref hS.tx (by simp) (by lia)
    have et2 : tyOf H (.ref (n + 2)) = some "list" := wTyL hS.tx
    have hlm : (S.tx.map SV.str).length < 1000000 := by rw [List.length_map]; lia
    have ea : fAppend [.ref (n + 2), .str s] H = some (.none, H.set (n + 2) (.lst ((S.tx ++ [s]).map .str))) := by
      rw [wApp hS.tx hlm, List.map_append]; rfl
    have f2 : fld (H.set (n + 2) (.lst ((S.tx ++ [s]).map .str))) 154 (Str.ofString "atom_numbers") (.ref (n + 1)) = some (.ref (n + 3)) := by
      rw [fld_at (by rw [set_ne (by exact nk rfl)]; exact hS.inst) (by rw [set_ne (by exact nk (b := 0) rfl)]; exact hS.flds), sf2]
    have hen : (ent (K := Str) id 0 S.tx).length < 1000000 := by rw [ent_len]; lia
    have est : setIt (H.set (n + 2) (.lst ((S.tx ++ [s]).map .str))) (.int (S.tx.length : Int)) (.ref (n + 3)) (.str s) = some ((H.set (n + 2) (.lst ((S.tx ++ [s]).map .str))).set (n + 3) (.dS (ent id 0 (S.tx ++ [s])))) := by
      rw [wSetS (by rw [set_ne (by exact nk rfl)]; exact hS.an) hen, sto_new e1, ent_snoc]; simp
    (try with_reducible refine IsW.run ?_); (repeat (first | walk_at "ev" | simp only [hS.fld, sf2, sf1, negF, et, eg, Option.getD_none, cII, show decide ((0 : Int) ≤ (-1 : Int)) = false from rfl, el, et2, ea, pvN, f2, est, evA, evB, reduceCtorEq, Nat.reduceAdd, Nat.reduceLT, Nat.reduceLeDiff]))
    have hnp := hS.lt
    refine h ⟨S.tx ++ [s], S.fn⟩ S.tx.length _ ⟨?_, ?_, ?_, ?_, ?_, ?_⟩ ⟨List.prefix_append _ _, List.prefix_refl _⟩ ?_ ?_ (by unfold Sy.ia; unfold Sy.a at ha; rw [ha]; rfl) ?_ (by simp)
    · rw [set_ne (by first | exact nk rfl | exact nk (b := 0) rfl), set_ne (by first | exact nk rfl | exact nk (b := 0) rfl)]; exact hS.inst
    · rw [set_ne (by first | exact nk rfl | exact nk (b := 0) rfl), set_ne (by first | exact nk rfl | exact nk (b := 0) rfl)]; exact hS.flds
    · rw [set_ne (by first | exact nk rfl | exact nk (b := 0) rfl)]; exact set_at hS.tx
    · exact set_at (so := .dS (ent id 0 S.tx)) (by rw [set_ne (by first | exact nk rfl | exact nk (b := 0) rfl)]; exact hS.an)
    · rw [set_ne (by first | exact nk rfl | exact nk (b := 0) rfl), set_ne (by first | exact nk rfl | exact nk (b := 0) rfl)]; exact hS.fn
    · rw [set_ne (by first | exact nk rfl | exact nk (b := 0) rfl), set_ne (by first | exact nk rfl | exact nk (b := 0) rfl)]; exact hS.nn
    · unfold Sy.a at ha ⊢; exact fi_snoc ha rfl
    · unfold Sy.len; simp; lia
    · exact Kp.trans (ch := sy n) (ch' := sy n) (Kp.set (sy_k rfl rfl)) (Kp.set (sy_k rfl rfl)) (fun _ _ h => h) (fun _ _ h => h)
theorem sp_sym_functor {H : Hp} {n : Nat} {S : Sy} {x m : Int} {Q : SV → Hp → Prop} (hS : SymAt H n S) (hl : S.len < 900000)
    (h : ∀ S' (i : Nat) H', SymAt H' n S' → S.Le S' → S'.f x m = some i → S'.len ≤ S.len + 1 → S' = S.iF x m → Kp (sy n) H H' → H'.length = H.length → Q (.int (i : Int)) H') : Ok (F_Symbols_functor [.ref (n + 1), .int x, .int m] H) Q := by
  have hl1 : S.fn.length < 900000 := by unfold Sy.len at hl; lia
  have eg : fGet [.ref (n + 5), .tup [.int x, .int m], .int (-1)] H = some ((look (ent kF 0 S.fn) [x, m]).getD (.int (-1)), H) := wGetT hS.nn rfl
  have et : tyOf H (.ref (n + 5)) = some "dict" := wTyT hS.nn
  unfold F_Symbols_functor d_Symbols_functor
  cases ha : S.f x m with
  | some i =>
    have e1 : look (ent kF 0 S.fn) [x, m] = some (.int (i : Int)) := by rw [look_ent]; unfold Sy.f at ha; rw [ha]; simp
    rw [e1] at eg
    (try with_reducible refine IsW.run ?_); (repeat (first | walk_at "ev" | simp only [hS.fld, sf4, negF, et, eg, Option.getD_some, cII, show decide ((0 : Int) ≤ (i : Int)) = true from by simp, evA, evB, reduceCtorEq, Nat.reduceAdd, Nat.reduceLT, Nat.reduceLeDiff]))
    exact h S i H hS (Sy.Le.refl _) ha (by lia) (by unfold Sy.iF; unfold Sy.f at ha; rw [ha]; rfl) Kp.refl rfl
  | none =>
    have e1 : look (ent kF 0 S.fn) [x, m] = none := by rw [look_ent]; unfold Sy.f at ha; rw [ha]; rfl
    rw [e1] at eg
    have el : fLen [.ref (n + 4)] H = some (.int (S.fn.length : Int), H) := len_ref hS.fn (by simp) (by lia)
    have et2 : tyOf H (.ref (n + 4)) = some "list" := wTyL hS.fn
    have hlm : (S.fn.map eF).length < 1000000 := by rw [List.length_map]; lia
    have ea : fAppend [.ref (n + 4), .tup [.int x, .int m]] H = some (.none, H.set (n + 4) (.lst ((S.fn ++ [(x, m)]).map eF))) := by
      rw [wApp hS.fn hlm, List.map_append]; rfl
    have f2 : fld (H.set (n + 4) (.lst ((S.fn ++ [(x, m)]).map eF))) 154 (Str.ofString "functor_numbers") (.ref (n + 1)) = some (.ref (n + 5)) := by
      rw [fld_at (by rw [set_ne (by exact nk rfl)]; exact hS.inst) (by rw [set_ne (by exact nk (b := 0) rfl)]; exact hS.flds), sf4]
    have hen : (ent kF 0 S.fn).length < 1000000 ∧ (look (ent kF 0 S.fn) [x, m]).isNone = true := ⟨by rw [ent_len]; lia, by rw [e1]; rfl⟩
    have est : setIt (H.set (n + 4) (.lst ((S.fn ++ [(x, m)]).map eF))) (.int (S.fn.length : Int)) (.ref (n + 5)) (.tup [.int x, .int m]) = some ((H.set (n + 4) (.lst ((S.fn ++ [(x, m)]).map eF))).set (n + 5) (.dT (ent kF 0 (S.fn ++ [(x, m)])))) := by
      rw [wSetT (by rw [set_ne (by exact nk rfl)]; exact hS.nn) rfl hen, ent_snoc]; simp [kF]
    (try with_reducible refine IsW.run ?_); (repeat (first | walk_at "ev" | simp only [hS.fld, sf4, sf3, negF, et, eg, Option.getD_none, cII, show decide ((0 : Int) ≤ (-1 : Int)) = false from rfl, el, et2, ea, pvN, f2, est, evA, evB, reduceCtorEq, Nat.reduceAdd, Nat.reduceLT, Nat.reduceLeDiff]))
    have hnp := hS.lt
    refine h ⟨S.tx, S.fn ++ [(x, m)]⟩ S.fn.length _ ⟨?_, ?_, ?_, ?_, ?_, ?_⟩ ⟨List.prefix_refl _, List.prefix_append _ _⟩ ?_ ?_ (by unfold Sy.iF; unfold Sy.f at ha; rw [ha]; rfl) ?_ (by simp)
    · rw [set_ne (by first | exact nk rfl | exact nk (b := 0) rfl), set_ne (by first | exact nk rfl | exact nk (b := 0) rfl)]; exact hS.inst
    · rw [set_ne (by first | exact nk rfl | exact nk (b := 0) rfl), set_ne (by first | exact nk rfl | exact nk (b := 0) rfl)]; exact hS.flds
    · rw [set_ne (by first | exact nk rfl | exact nk (b := 0) rfl), set_ne (by first | exact nk rfl | exact nk (b := 0) rfl)]; exact hS.tx
    · rw [set_ne (by first | exact nk rfl | exact nk (b := 0) rfl), set_ne (by first | exact nk rfl | exact nk (b := 0) rfl)]; exact hS.an
    · rw [set_ne (by first | exact nk rfl | exact nk (b := 0) rfl)]; exact set_at hS.fn
    · exact set_at (so := .dT (ent kF 0 S.fn)) (by rw [set_ne (by first | exact nk rfl | exact nk (b := 0) rfl)]; exact hS.nn)
    · unfold Sy.f at ha ⊢; exact fi_snoc ha rfl
    · unfold Sy.len; simp; lia
    · exact Kp.trans (ch := sy n) (ch' := sy n) (Kp.set (sy_k rfl rfl)) (Kp.set (sy_k rfl rfl)) (fun _ _ h => h) (fun _ _ h => h)
namespace Sy
noncomputable def fu (S : Sy) (s : Str) (m : Int) : Sy := (S.ia s).iF ((((S.ia s).a s).getD 0 : Nat) : Int) m
end Sy
theorem nl_atom {n : Nat} : (symF n).lookup (Str.ofString "atom") = none := rfl
theorem nl_functor {n : Nat} : (symF n).lookup (Str.ofString "functor") = none := rfl
theorem nl_func {n : Nat} : (symF n).lookup (Str.ofString "func") = none := rfl
theorem nl_name {n : Nat} : (symF n).lookup (Str.ofString "name") = none := rfl
theorem sp_sym_func {H : Hp} {n : Nat} {S : Sy} {s : Str} {m : Int} {Q : SV → Hp → Prop} (hS : SymAt H n S) (hl : S.len < 800000)
    (h : ∀ S' (i j : Nat) H', SymAt H' n S' → S.Le S' → S'.a s = some j → S'.f j m = some i → S'.len ≤ S.len + 2 → S' = S.fu s m → Kp (sy n) H H' → H'.length = H.length → Q (.int (i : Int)) H') : Ok (F_Symbols_func [.ref (n + 1), .str s, .int m] H) Q := by
  unfold F_Symbols_func d_Symbols_func
  (try with_reducible refine IsW.run ?_); (repeat (first | walk_at "ev" | simp only [hS.isI nl_functor, hS.isI nl_atom, evA, evB, reduceCtorEq, Nat.reduceAdd, Nat.reduceLT, Nat.reduceLeDiff]))
  refine sp_sym_atom hS (by lia) fun S1 j H1 h1 l1 a1 n1 e1 k1 z1 => ?_
  refine sp_sym_functor h1 (by lia) fun S2 i H2 h2 l2 a2 n2 e2 k2 z2 => ?_
  refine h S2 i j H2 h2 (l1.trans l2) (l2.a a1) a2 (by lia) ?_ (k1.trans k2 (fun _ _ h => h) (fun _ _ h => h)) (by lia)
  unfold Sy.fu; rw [← e1, a1]; exact e2
theorem sp_sym_name {H : Hp} {n i : Nat} {S : Sy} {x m : Int} {Q : SV → Hp → Prop} (hS : SymAt H n S) (hl : S.len < 900000) (e : S.fn[i]? = some (x, m)) (h : Q (.int x) H) : Ok (F_Symbols_name [.ref (n + 1), .int (i : Int)] H) Q := by
  unfold F_Symbols_name d_Symbols_name
  have hi : i < S.fn.length := (List.getElem?_eq_some_iff.mp e).1
  have e1 : item H (.ref (n + 4)) (.int (i : Int)) = some (.tup [.int x, .int m]) := by
    rw [item_n hS.fn (by unfold Sy.len at hl; lia), List.getElem?_map, e]; rfl
  (try with_reducible refine IsW.run ?_); (repeat (first | walk_at "ev" | simp only [hS.fld, sf3, e1, evA, evB, reduceCtorEq, Nat.reduceAdd, Nat.reduceLT, Nat.reduceLeDiff]))
  exact h
noncomputable def fixedA : List Str := ["[]", ".", "{}", "-", "+", "*", "/", ",", "|", ";", "->", "\\+", ":-", "?-", "-->", "!", "true", "fail", "false", "call", "=", "^", "error", "", "end_of_file", "system", "$VAR", "catch", "throw"].map Str.ofString
noncomputable def fixedF : List (Str × Int) := [(".", 2), (",", 2), (";", 2), ("->", 2), ("\\+", 1), (":-", 2), (":-", 1), ("?-", 1), ("-->", 2), ("{}", 1), ("=", 2), ("^", 2), ("-", 1), ("-", 2), ("+", 2), ("/", 2), ("error", 2), ("$VAR", 1), ("catch", 3), ("throw", 1), ("!", 0), ("true", 0), ("fail", 0), ("false", 0), ("call", 1), ("call", 2), ("call", 3), ("call", 4), ("call", 5), ("call", 6), ("call", 7), ("call", 8)].map fun p => (Str.ofString p.1, p.2)
theorem fixA_eq {H : Hp} : F_fixed_atoms [] H = some (.tup (fixedA.map .str), H) := rfl
theorem fixF_eq {H : Hp} : F_fixed_functors [] H = some (.tup (fixedF.map fun r => .tup [.str r.1, .int r.2]), H) := rfl
theorem sp_fixedA {H : Hp} {Q : SV → Hp → Prop} (h : Q (.tup (fixedA.map .str)) H) : Ok (F_fixed_atoms [] H) Q := by rw [fixA_eq]; exact ⟨h⟩
theorem sp_fixedF {H : Hp} {Q : SV → Hp → Prop} (h : Q (.tup (fixedF.map fun r => .tup [.str r.1, .int r.2])) H) : Ok (F_fixed_functors [] H) Q := by rw [fixF_eq]; exact ⟨h⟩
noncomputable def S0 : Sy := fixedF.foldl (fun S r => S.fu r.1 r.2) (fixedA.foldl Sy.ia ⟨[], []⟩)
theorem setFld_new {H L : Hp} {C : Addr} {fs : List (Str × SV)} {name : Str} {v : SV} (h : fs.length < 1000) : setFld (H ++ .flds fs :: .inst C H.length :: L) C name v (.ref (H.length + 1)) = some (H ++ .flds (putF name v fs) :: .inst C H.length :: L) := by
  simp only [setFld, apk, List.getElem?_cons_succ, List.getElem?_cons_zero, ap0, h, if_true, apset0]
noncomputable def foldA (k : Nat) : Sy := (fixedA.take k).foldl Sy.ia ⟨[], []⟩
noncomputable def foldF (k : Nat) : Sy := (fixedF.take k).foldl (fun S r => S.fu r.1 r.2) (foldA 29)
theorem take_snoc {α : Type} {l : List α} {k : Nat} {x : α} (h : l[k]? = some x) : l.take (k + 1) = l.take k ++ [x] := by
  rw [List.take_add_one, h]; rfl
theorem foldA_next {d : Nat} {r : Str} (h : fixedA[d]? = some r) : foldA (d + 1) = (foldA d).ia r := by
  unfold foldA; rw [take_snoc h, List.foldl_append]; rfl
theorem foldF_next {d : Nat} {r : Str × Int} (h : fixedF[d]? = some r) : foldF (d + 1) = (foldF d).fu r.1 r.2 := by
  unfold foldF; rw [take_snoc h, List.foldl_append]; rfl
theorem nxTm {α : Type} {f : α → SV} {l : List α} {d : Nat} {x : α} {H : Hp} (h : l[d]? = some x) : nextS H (.tup (l.map f) d) = some (some (f x, .tup (l.map f) (d + 1))) := by
  exact nT (by rw [List.getElem?_map, h]; rfl)
theorem nxLm {α : Type} {f : α → SV} {l : List α} {d p : Nat} {x : α} {H : Hp} (hp : H[p]? = some (.lst (l.map f))) (h : l[d]? = some x) : nextS H (.lst p d) = some (some (f x, .lst p (d + 1))) := by
  exact nL hp (by rw [List.getElem?_map, h]; rfl)
theorem nxLe {α : Type} {f : α → SV} {l : List α} {p : Nat} {H : Hp} (hp : H[p]? = some (.lst (l.map f))) : nextS H (.lst p l.length) = some none := by
  exact nLe hp (List.getElem?_eq_none (Nat.le_of_eq (List.length_map f)))
theorem kpSy {H H1 H2 : Hp} (k : Kp no H H1) (k' : Kp (sy H.length) H1 H2) : Kp no H H2 :=
  k.trans k' (fun _ _ h => h) fun p hp h => by unfold sy at h; lia
theorem pvI {i : Int} : plainV (.int i) = true := rfl
inductive LA (H : Hp) (k : Nat) (src : Src) (l : Loc) (H' : Hp) : Prop
  | mk (d : Nat) (z : Option SV) (hd : d + k = 29) (es : src = .tup (fixedA.map .str) d) (el : l = [some (.ref (H.length + 1)), z, none]) (hS : SymAt H' H.length (foldA d)) (hn : (foldA d).len ≤ d) (kp : Kp no H H') (hl : H'.length = H.length + 6)
inductive LF (H : Hp) (k : Nat) (src : Src) (l : Loc) (H' : Hp) : Prop
  | mk (d : Nat) (z w : Option SV) (hd : d + k = 32) (es : src = .tup (fixedF.map fun r => .tup [.str r.1, .int r.2]) d) (el : l = [some (.ref (H.length + 1)), z, w]) (hS : SymAt H' H.length (foldF d)) (hn : (foldF d).len ≤ 29 + 2 * d) (kp : Kp no H H') (hl : H'.length = H.length + 6)
theorem sp_symbols {H : Hp} {Q : SV → Hp → Prop} (h : ∀ H', SymAt H' H.length S0 → Kp no H H' → H.length + 6 ≤ H'.length → Q (.ref (H.length + 1)) H') : Ok (fNew 154 F_Symbols_init [] H) Q := by
  have q1 : ∀ L v, setFld (H ++ .flds [] :: .inst 154 H.length :: L) 154 (Str.ofString "texts") v (.ref (H.length + 1)) = some (H ++ .flds [(Str.ofString "texts", v)] :: .inst 154 H.length :: L) := fun L v => by rw [setFld_new (by decide)]; rfl
  have q2 : ∀ L v a, setFld (H ++ .flds [(Str.ofString "texts", a)] :: .inst 154 H.length :: L) 154 (Str.ofString "atom_numbers") v (.ref (H.length + 1)) = some (H ++ .flds [(Str.ofString "texts", a), (Str.ofString "atom_numbers", v)] :: .inst 154 H.length :: L) := fun L v a => by rw [setFld_new (by simp)]; rfl
  have q3 : ∀ L v a b, setFld (H ++ .flds [(Str.ofString "texts", a), (Str.ofString "atom_numbers", b)] :: .inst 154 H.length :: L) 154 (Str.ofString "functors") v (.ref (H.length + 1)) = some (H ++ .flds [(Str.ofString "texts", a), (Str.ofString "atom_numbers", b), (Str.ofString "functors", v)] :: .inst 154 H.length :: L) := fun L v a b => by rw [setFld_new (by simp)]; rfl
  have q4 : ∀ L v a b d, setFld (H ++ .flds [(Str.ofString "texts", a), (Str.ofString "atom_numbers", b), (Str.ofString "functors", d)] :: .inst 154 H.length :: L) 154 (Str.ofString "functor_numbers") v (.ref (H.length + 1)) = some (H ++ .flds [(Str.ofString "texts", a), (Str.ofString "atom_numbers", b), (Str.ofString "functors", d), (Str.ofString "functor_numbers", v)] :: .inst 154 H.length :: L) := fun L v a b d => by rw [setFld_new (by simp)]; rfl
  unfold F_Symbols_init d_Symbols_init
  (try with_reducible refine IsW.run ?_); (repeat (first | walk_at "ev" | simp only [List.append_assoc, List.length_append, Nat.zero_add, DK.so, q1, q2, q3, q4, evA, evB, reduceCtorEq, Nat.reduceAdd, Nat.reduceLT, Nat.reduceLeDiff]))
  refine sp_fixedA ?_
  (try with_reducible refine IsW.run ?_); (repeat (first | walk_at "ev" | simp only [wItT, evA, evB, reduceCtorEq, Nat.reduceAdd, Nat.reduceLT, Nat.reduceLeDiff]))
  have hS : SymAt (H ++ ([.flds (symF H.length), .inst 154 H.length, .lst [], .dS [], .lst [], .dT []] : Hp)) H.length ⟨[], []⟩ :=
    ⟨apk, ap0, apk, apk, apk, apk⟩
  have hlen : (H ++ ([.flds (symF H.length), .inst 154 H.length, .lst [], .dS [], .lst [], .dT []] : Hp)).length = H.length + 6 := List.length_append
  (try with_reducible refine IsW.run ?_); (repeat (first | walk_at "ev" | simp only [evA, evB, reduceCtorEq, Nat.reduceAdd, Nat.reduceLT, Nat.reduceLeDiff]))
  refine oks_forLJ (LA H) ?_ ?_ (n := 29) (Nat.le_of_ble_eq_true rfl) ⟨0, none, rfl, rfl, rfl, hS, Nat.le_refl _, Kp.app, hlen⟩
  · rintro src l H1 ⟨d, z, hd, rfl, rfl, h1, n1, k1, z1⟩
    cases hd
    refine ⟨rfl, ?_⟩
    (try with_reducible refine IsW.run ?_); (repeat (first | walk_at "ev" | simp only [evA, evB, reduceCtorEq, Nat.reduceAdd, Nat.reduceLT, Nat.reduceLeDiff]))
    refine sp_fixedF ?_
    (try with_reducible refine IsW.run ?_); (repeat (first | walk_at "ev" | simp only [wItT, evA, evB, reduceCtorEq, Nat.reduceAdd, Nat.reduceLT, Nat.reduceLeDiff]))
    (try with_reducible refine IsW.run ?_); (repeat (first | walk_at "ev" | simp only [evA, evB, reduceCtorEq, Nat.reduceAdd, Nat.reduceLT, Nat.reduceLeDiff]))
    refine oks_forLJ (LF H) ?_ ?_ (n := 32) (Nat.le_of_ble_eq_true rfl) ⟨0, z, none, rfl, rfl, rfl, h1, n1, k1, z1⟩
    · rintro src l H2 ⟨d, z, w, hd, rfl, rfl, h2, n2, k2, z2⟩
      cases hd
      refine ⟨rfl, ?_⟩
      (try with_reducible refine IsW.run ?_); (repeat (first | walk_at "ev" | simp only [evA, evB, reduceCtorEq, Nat.reduceAdd, Nat.reduceLT, Nat.reduceLeDiff]))
      exact h H2 h2 k2 (Nat.le_of_eq z2.symm)
    · rintro J mk k src l H2 ⟨d, z, w, hd, rfl, rfl, h2, n2, k2, z2⟩
      obtain ⟨r, hx⟩ : ∃ r, fixedF[d]? = some r := ⟨_, List.getElem?_eq_getElem (show d < 32 by lia)⟩
      refine ⟨_, _, nxTm hx, Nat.lt_of_sub_eq_succ rfl, ?_⟩
      (try with_reducible refine IsW.run ?_); (repeat (first | walk_at "ev" | simp only [h2.isI nl_func, evA, evB, reduceCtorEq, Nat.reduceAdd, Nat.reduceLT, Nat.reduceLeDiff]))
      refine sp_sym_func h2 (by lia) fun S' i j H3 h3 _ _ _ n3 e3 k3 z3 => ?_
      (try with_reducible refine IsW.run ?_); (repeat (first | walk_at "ev" | simp only [pvI, evA, evB, reduceCtorEq, Nat.reduceAdd, Nat.reduceLT, Nat.reduceLeDiff]))
      rw [← foldF_next hx] at e3
      subst e3
      exact mk ⟨d + 1, _, _, by lia, rfl, rfl, h3, by lia, kpSy k2 k3, z3.trans z2⟩
  · rintro J mk k src l H1 ⟨d, z, hd, rfl, rfl, h1, n1, k1, z1⟩
    obtain ⟨r, hx⟩ : ∃ r, fixedA[d]? = some r := ⟨_, List.getElem?_eq_getElem (show d < 29 by lia)⟩
    refine ⟨_, _, nxTm hx, Nat.lt_of_sub_eq_succ rfl, ?_⟩
    (try with_reducible refine IsW.run ?_); (repeat (first | walk_at "ev" | simp only [h1.isI nl_atom, evA, evB, reduceCtorEq, Nat.reduceAdd, Nat.reduceLT, Nat.reduceLeDiff]))
    refine sp_sym_atom h1 (by lia) fun S' i H3 h3 _ _ n3 e3 k3 z3 => ?_
    (try with_reducible refine IsW.run ?_); (repeat (first | walk_at "ev" | simp only [pvI, evA, evB, reduceCtorEq, Nat.reduceAdd, Nat.reduceLT, Nat.reduceLeDiff]))
    rw [← foldA_next hx] at e3
    subst e3
    exact mk ⟨d + 1, _, by lia, rfl, rfl, h3, by lia, kpSy k1 k3, z3.trans z1⟩
theorem S0_tx : S0.tx = fixedA := by decide +kernel
theorem S0_fn : S0.fn.take 11 = [(1, 2), (7, 2), (9, 2), (10, 2), (11, 1), (12, 2), (12, 1), (13, 1), (14, 2), (2, 1), (20, 2)] := by decide +kernel
theorem S0_len : S0.len < 1000 := by decide +kernel
structure FrAt (H : Hp) (m : Nat) (k : Int) : Prop where
  inst : H[m + 1]? = some (.inst 290 m)
  flds : H[m]? = some (.flds [(Str.ofString "next", .int k)])
theorem FrAt.kp {H H' : Hp} {m : Nat} {k : Int} {ch : Nat → Prop} (h : FrAt H m k) (kp : Kp ch H H') (o : ¬ ch m) (o' : ¬ ch (m + 1)) : FrAt H' m k := ⟨kp.keep _ _ h.inst o', kp.keep _ _ h.flds o⟩
theorem sp_fresh {H : Hp} {k : Int} {Q : SV → Hp → Prop} (h : ∀ H', FrAt H' H.length k → Kp no H H' → H'.length = H.length + 2 → Q (.ref (H.length + 1)) H') : Ok (fNew 290 F_Fresh_init [.int k] H) Q := by
  have q1 : ∀ L v, setFld (H ++ .flds [] :: .inst 290 H.length :: L) 290 (Str.ofString "next") v (.ref (H.length + 1)) = some (H ++ .flds [(Str.ofString "next", v)] :: .inst 290 H.length :: L) := fun L v => by rw [setFld_new (by decide)]; rfl
  unfold F_Fresh_init d_Fresh_init
  (try with_reducible refine IsW.run ?_); (repeat (first | walk_at "ev" | simp only [q1, evA, evB, reduceCtorEq, Nat.reduceAdd, Nat.reduceLT, Nat.reduceLeDiff]))
  exact h _ ⟨apk, ap0⟩ Kp.app (by simp)
noncomputable def on (m : Nat) : Nat → Prop := fun p => p = m
theorem sp_number {H : Hp} {m : Nat} {k : Int} {Q : SV → Hp → Prop} (hF : FrAt H m k) (h : ∀ H', FrAt H' m (k + 1) → Kp (on m) H H' → H'.length = H.length → Q (.int k) H') : Ok (F_Fresh_number [.ref (m + 1)] H) Q := by
  have e1 : fld H 290 (Str.ofString "next") (.ref (m + 1)) = some (.int k) := fld_at hF.inst hF.flds
  have e2 : setFld H 290 (Str.ofString "next") (.int (k + 1)) (.ref (m + 1)) = some (H.set m (.flds [(Str.ofString "next", .int (k + 1))])) := by
    exact sf_at hF.inst hF.flds (Nat.le_of_ble_eq_true rfl)
  unfold F_Fresh_number d_Fresh_number
  (try with_reducible refine IsW.run ?_); (repeat (first | walk_at "ev" | simp only [e1, addF, e2, evA, evB, reduceCtorEq, Nat.reduceAdd, Nat.reduceLT, Nat.reduceLeDiff]))
  exact h _ ⟨by rw [set_ne (by exact nk (a := 0) rfl)]; exact hF.inst, set_at hF.flds⟩ (Kp.set rfl) (by simp)
noncomputable def ms (us : List Int) (k : Int) : Nat := (us.filter fun x => decide (k ≤ x)).length
theorem ms_le {us : List Int} {k : Int} : ms us k ≤ us.length := List.length_filter_le _ _
theorem ms_mono {k : Int} : ∀ {us : List Int}, ms us (k + 1) ≤ ms us k
  | [] => Nat.le_refl _
  | x :: r => by
    have ih := ms_mono (k := k) (us := r)
    unfold ms at ih ⊢
    simp only [List.filter_cons]
    by_cases h1 : k + 1 ≤ x
    · have h2 : k ≤ x := by lia
      simp [h1, h2]; exact ih
    · by_cases h2 : k ≤ x
      · simp [h1, h2]; lia
      · simp [h1, h2]; exact ih
theorem ms_lt {k : Int} : ∀ {us : List Int}, k ∈ us → ms us (k + 1) < ms us k
  | x :: r, h => by
    have hm := ms_mono (k := k) (us := r)
    rcases List.mem_cons.mp h with rfl | h
    · unfold ms at hm ⊢
      have h1 : ¬ (k + 1 ≤ k) := by lia
      simp only [List.filter_cons, h1, decide_false, Int.le_refl, decide_true, if_true, Bool.false_eq_true, if_false, List.length_cons]
      lia
    · have ih := ms_lt h
      unfold ms at ih hm ⊢
      simp only [List.filter_cons]
      by_cases h1 : k + 1 ≤ x
      · have h2 : k ≤ x := by lia
        simp [h1, h2]; exact ih
      · by_cases h2 : k ≤ x
        · simp [h1, h2]; lia
        · simp [h1, h2]; exact ih
noncomputable def nxf (us : List Int) : Nat → Int → Int
  | 0, k => k
  | n + 1, k => if k ∈ us then nxf us n (k + 1) else k
noncomputable def nx (us : List Int) (k : Int) : Int := nxf us (ms us k) k
theorem nxf_eq {us : List Int} : ∀ {n m k}, ms us k ≤ n → ms us k ≤ m → nxf us n k = nxf us m k
  | 0, 0, _, _, _ => rfl
  | 0, _ + 1, _, h, _ => (if_neg fun hk => Nat.not_lt_zero _ (Nat.lt_of_lt_of_le (ms_lt hk) h)).symm
  | _ + 1, 0, _, _, h => if_neg fun hk => Nat.not_lt_zero _ (Nat.lt_of_lt_of_le (ms_lt hk) h)
  | n + 1, m + 1, k, h, h' => ite_congr rfl (fun hk => nxf_eq (Nat.le_of_lt_succ (Nat.lt_of_lt_of_le (ms_lt hk) h)) (Nat.le_of_lt_succ (Nat.lt_of_lt_of_le (ms_lt hk) h'))) fun _ => rfl
theorem nx_eq {us : List Int} {k : Int} : nx us k = if k ∈ us then nx us (k + 1) else k :=
  (nxf_eq (Nat.le_refl _) (Nat.le_succ _)).trans (ite_congr rfl (fun hk => nxf_eq (Nat.le_of_lt (ms_lt hk)) (Nat.le_refl _)) fun _ => rfl)
theorem nx_ind {us : List Int} {P : Int → Prop} (h : ∀ k, (k ∈ us → P (k + 1)) → P k) (k : Int) : P k :=
  (measure fun k => ms us k).wf.induction k fun k ih => h k fun hk => ih _ (ms_lt hk)
theorem nx_notin {us : List Int} {k : Int} : nx us k ∉ us := by
  refine nx_ind (us := us) (P := fun k => nx us k ∉ us) (fun k ih => ?_) k
  rw [nx_eq]
  by_cases hk : k ∈ us
  · rw [if_pos hk]; exact ih hk
  · rw [if_neg hk]; exact hk
theorem nx_ge {us : List Int} {k : Int} : k ≤ nx us k := by
  refine nx_ind (us := us) (P := fun k => k ≤ nx us k) (fun k ih => ?_) k
  rw [nx_eq]
  by_cases hk : k ∈ us
  · rw [if_pos hk]; exact Int.le_trans (Int.le_of_lt (Int.lt_add_one_of_le (Int.le_refl _))) (ih hk)
  · rw [if_neg hk]; exact Int.le_refl _
structure GvAt (H : Hp) (g m u : Nat) (us : List Int) : Prop where
  inst : H[g + 1]? = some (.inst 325 g)
  flds : H[g]? = some (.flds [(Str.ofString "fresh", .ref (m + 1)), (Str.ofString "used", .ref u)])
  used : H[u]? = some (.lst (us.map .int))
theorem GvAt.kp {H H' : Hp} {g m u : Nat} {us : List Int} {ch : Nat → Prop} (h : GvAt H g m u us) (kp : Kp ch H H') (o : ¬ ch g) (o' : ¬ ch (g + 1)) (o2 : ¬ ch u) : GvAt H' g m u us := ⟨kp.keep _ _ h.inst o', kp.keep _ _ h.flds o, kp.keep _ _ h.used o2⟩
theorem sp_gv {H : Hp} {m u : Nat} {us : List Int} {Q : SV → Hp → Prop} (hu : H[u]? = some (.lst (us.map .int))) (h : ∀ H', GvAt H' H.length m u us → Kp no H H' → H'.length = H.length + 2 → Q (.ref (H.length + 1)) H') : Ok (fNew 325 F_GrammarVariables_init [.ref (m + 1), .ref u] H) Q := by
  have q1 : ∀ L v, setFld (H ++ .flds [] :: .inst 325 H.length :: L) 325 (Str.ofString "fresh") v (.ref (H.length + 1)) = some (H ++ .flds [(Str.ofString "fresh", v)] :: .inst 325 H.length :: L) := fun L v => by rw [setFld_new (by decide)]; rfl
  have q2 : ∀ L v a, setFld (H ++ .flds [(Str.ofString "fresh", a)] :: .inst 325 H.length :: L) 325 (Str.ofString "used") v (.ref (H.length + 1)) = some (H ++ .flds [(Str.ofString "fresh", a), (Str.ofString "used", v)] :: .inst 325 H.length :: L) := fun L v a => by rw [setFld_new (by simp)]; rfl
  unfold F_GrammarVariables_init d_GrammarVariables_init
  (try with_reducible refine IsW.run ?_); (repeat (first | walk_at "ev" | simp only [q1, q2, evA, evB, reduceCtorEq, Nat.reduceAdd, Nat.reduceLT, Nat.reduceLeDiff]))
  exact h _ ⟨apk, ap0, app_old hu⟩ Kp.app (by simp)
theorem in_used {H : Hp} {u : Nat} {us : List Int} {k : Int} (hu : H[u]? = some (.lst (us.map .int))) : cmpIn H (.int k) (.ref u) = some (decide (k ∈ us)) := by
  rw [wIn hu, intsOf_map, Option.map_some, Option.some.injEq]
  rw [Bool.eq_iff_iff]
  simp
inductive LN (H : Hp) (g m u : Nat) (us : List Int) (k : Int) (n : Nat) (l : Loc) (H' : Hp) : Prop
  | mk (j : Int) (el : l = [some (.ref (g + 1)), some (.int j)]) (e : nx us j = nx us k) (en : ms us j = n) (hF : FrAt H' m (j + 1)) (hG : GvAt H' g m u us) (kp : Kp (on m) H H') (hl : H'.length = H.length)
theorem sp_variable {H : Hp} {g m u : Nat} {us : List Int} {k : Int} {Q : SV → Hp → Prop} (hF : FrAt H m k) (hG : GvAt H g m u us) (hu : us.length < 2900) (d1 : m ≠ g) (d2 : m ≠ g + 1) (d3 : m ≠ u)
    (h : ∀ H', FrAt H' m (nx us k + 1) → Kp (on m) H H' → H'.length = H.length → Q (.tup [.str (Str.ofString "v"), .int (nx us k)]) H') : Ok (F_GrammarVariables_variable [.ref (g + 1)] H) Q := by
  have ff : ∀ {H : Hp}, GvAt H g m u us → fld H 325 (Str.ofString "fresh") (.ref (g + 1)) = some (.ref (m + 1)) := fun hG => fld_at hG.inst hG.flds
  have fu : ∀ {H : Hp}, GvAt H g m u us → fld H 325 (Str.ofString "used") (.ref (g + 1)) = some (.ref u) := fun hG => fld_at hG.inst hG.flds
  have ii : ∀ {H : Hp} {k : Int}, FrAt H m k → isInst 290 (Str.ofString "number") H (.ref (m + 1)) = true := fun hF => is_at hF.inst hF.flds rfl
  unfold F_GrammarVariables_variable d_GrammarVariables_variable
  (try with_reducible refine IsW.run ?_); (repeat (first | walk_at "ev" | simp only [ff hG, ii hF, evA, evB, reduceCtorEq, Nat.reduceAdd, Nat.reduceLT, Nat.reduceLeDiff]))
  refine sp_number hF fun H1 h1 k1 z1 => ?_
  have g1 : GvAt H1 g m u us := hG.kp k1 (fun q => d1 q.symm) (fun q => d2 q.symm) (fun q => d3 q.symm)
  (try with_reducible refine IsW.run ?_); (repeat (first | walk_at "ev" | simp only [evA, evB, reduceCtorEq, Nat.reduceAdd, Nat.reduceLT, Nat.reduceLeDiff]))
  refine oks_whileJ (LN H g m u us k) ?_ (n := ms us k) (Nat.lt_of_le_of_lt ms_le (Nat.lt_trans hu (by decide))) ⟨k, rfl, rfl, rfl, h1, g1, k1, z1⟩
  rintro J mk n l H' ⟨j, rfl, e1, rfl, h2, g2, k2, z2⟩
  by_cases hj : j ∈ us
  · (try with_reducible refine IsW.run ?_); (repeat (first | walk_at "ev" | simp only [fu g2, in_used g2.used, hj, decide_true, ff g2, ii h2, evA, evB, reduceCtorEq, Nat.reduceAdd, Nat.reduceLT, Nat.reduceLeDiff]))
    refine sp_number h2 fun H3 h3 k3 z3 => ?_
    refine ⟨ms us (j + 1), ms_lt hj, mk ⟨j + 1, rfl, ?_, rfl, h3, g2.kp k3 (fun q => d1 q.symm) (fun q => d2 q.symm) (fun q => d3 q.symm), k2.trans k3 (fun _ _ h => h) (fun _ _ h => h), z3.trans z2⟩⟩
    rw [← e1, nx_eq (k := j), if_pos hj]
  · (try with_reducible refine IsW.run ?_); (repeat (first | walk_at "ev" | simp only [fu g2, in_used g2.used, hj, decide_false, evA, evB, reduceCtorEq, Nat.reduceAdd, Nat.reduceLT, Nat.reduceLeDiff]))
    have e2 : nx us j = j := by rw [nx_eq, if_neg hj]
    refine sp_var ?_
    rw [e2] at e1
    rw [e1] at h2 ⊢
    exact h H' h2 k2 z2
noncomputable def cP : Str := Str.ofString "p"
noncomputable def cPh : Str := Str.ofString "phrase"
noncomputable def res (S : Sy) : Fu → Int
  | .n k => k
  | .p m => match S.a cP with
    | some j => (((S.f j m).getD 0 : Nat) : Int)
    | none => 0
  | .ph => match S.a cPh with
    | some j => (((S.f j 3).getD 0 : Nat) : Int)
    | none => 0
noncomputable def FuIn (S : Sy) : Fu → Prop
  | .n _ => True
  | .p m => ∃ j i, S.a cP = some j ∧ S.f j m = some i
  | .ph => ∃ j i, S.a cPh = some j ∧ S.f j 3 = some i
theorem res_p {S : Sy} {j i m : Nat} (h : S.a cP = some j) (e : S.f j m = some i) : res S (.p m) = i := by simp [res, h, e]
theorem res_ph {S : Sy} {j i : Nat} (h : S.a cPh = some j) (e : S.f j 3 = some i) : res S .ph = i := by simp [res, h, e]
theorem FuIn.le {S S' : Sy} {f : Fu} (h : FuIn S f) (l : S.Le S') : FuIn S' f ∧ res S' f = res S f := by
  cases f with
  | n k => exact ⟨trivial, rfl⟩
  | p m =>
    obtain ⟨j, i, h1, h2⟩ := h
    exact ⟨⟨j, i, l.a h1, l.f h2⟩, by rw [res_p h1 h2, res_p (l.a h1) (l.f h2)]⟩
  | ph =>
    obtain ⟨j, i, h1, h2⟩ := h
    exact ⟨⟨j, i, l.a h1, l.f h2⟩, by rw [res_ph h1 h2, res_ph (l.a h1) (l.f h2)]⟩
section
variable {X : Type}
mutual
noncomputable def KIn (S : Sy) : Tr X → Prop
  | .a _ => True
  | .i _ => True
  | .v _ => True
  | .s f l => FuIn S f ∧ KIns S l
noncomputable def KIns (S : Sy) : List (Tr X) → Prop
  | [] => True
  | t :: r => KIn S t ∧ KIns S r
end
theorem KIn_1 {S : Sy} (n) : KIn S (.a n : Tr X) = True := rfl
theorem KIn_2 {S : Sy} (n) : KIn S (.i n : Tr X) = True := rfl
theorem KIn_3 {S : Sy} (x) : KIn S (.v x : Tr X) = True := rfl
theorem KIn_4 {S : Sy} (f) (l) : KIn S (.s f l : Tr X) = (FuIn S f ∧ KIns S l) := rfl
theorem KIns_1 {S : Sy} : KIns S ([] : List (Tr X)) = True := rfl
theorem KIns_2 {S : Sy} (t) (r) : KIns S (t :: r : List (Tr X)) = (KIn S t ∧ KIns S r) := rfl
mutual
theorem KIn.le {S S' : Sy} (l : S.Le S') (ι : X → Int) : ∀ {t : Tr X}, KIn S t → KIn S' t ∧ enc (res S') ι t = enc (res S) ι t
  | .a _, _ => ⟨trivial, rfl⟩
  | .i _, _ => ⟨trivial, rfl⟩
  | .v _, _ => ⟨trivial, rfl⟩
  | .s f r, h => by
    have h1 := h.1.le l
    have h2 := KIns.le l ι h.2
    exact ⟨⟨h1.1, h2.1⟩, by simp only [enc_1, enc_2, enc_3, enc_4, h1.2, h2.2]⟩
theorem KIns.le {S S' : Sy} (l : S.Le S') (ι : X → Int) : ∀ {t : List (Tr X)}, KIns S t → KIns S' t ∧ encs (res S') ι t = encs (res S) ι t
  | [], _ => ⟨trivial, rfl⟩
  | t :: r, h => by
    have h1 := KIn.le l ι h.1
    have h2 := KIns.le l ι h.2
    exact ⟨⟨h1.1, h2.1⟩, by simp only [encs_1, encs_2, h1.2, h2.2]⟩
end
theorem KIns.app {S : Sy} : ∀ {l m : List (Tr X)}, KIns S l → KIns S m → KIns S (l ++ m)
  | [], _, _, h => h
  | t :: r, m, h, k => ⟨h.1, KIns.app h.2 k⟩
theorem KIns.vs {S : Sy} : ∀ {l : List X}, KIns S (l.map Tr.v)
  | [] => trivial
  | _ :: r => ⟨trivial, KIns.vs (l := r)⟩
set_option genInjectivity false in
inductive Bd (X : Type) where
  | tx (l : List (Option X))
  | p (l : List X)
  | v (x : X)
  | cut
  | cur (x : X)
  | neg (b : Bd X)
  | com (a b : Bd X)
  | sem (a b : Bd X)
  | arr (a b : Bd X)
noncomputable def itm : Option X → Tr X
  | none => .i 1
  | some x => .v x
noncomputable def lsT (l : List (Tr X)) (t : Tr X) : Tr X := l.foldr (fun x r => .s (.n 0) [x, r]) t
theorem enc_lsT {ρ : Fu → Int} {ι : X → Int} (h0 : ρ (.n 0) = 0) {t : Tr X} : ∀ {l : List (Tr X)}, enc ρ ι (lsT l t) = rs 0 (encs ρ ι l) (enc ρ ι t)
  | [] => rfl
  | x :: r => by
    have ih := enc_lsT (ι := ι) h0 (t := t) (l := r)
    show enc ρ ι (.s (.n 0) [x, lsT r t]) = _
    simp only [enc_1, enc_2, enc_3, enc_4, encs_1, encs_2, rs_cons, h0, ih]
noncomputable def bt : Bd X → Tr X
  | .tx l => lsT (l.map itm) (.a 0)
  | .p l => .s (.p l.length) (l.map .v)
  | .v x => .v x
  | .cut => .a 15
  | .cur x => .s (.n 9) [.v x]
  | .neg b => .s (.n 4) [bt b]
  | .com a b => .s (.n 1) [bt a, bt b]
  | .sem a b => .s (.n 2) [bt a, bt b]
  | .arr a b => .s (.n 3) [bt a, bt b]
theorem bt_1 (l) : bt (.tx l : Bd X) = lsT (l.map itm) (.a 0) := rfl
theorem bt_2 (l) : bt (.p l : Bd X) = .s (.p l.length) (l.map .v) := rfl
theorem bt_3 (x) : bt (.v x : Bd X) = .v x := rfl
theorem bt_4 : bt (.cut : Bd X) = .a 15 := rfl
theorem bt_5 (x) : bt (.cur x : Bd X) = .s (.n 9) [.v x] := rfl
theorem bt_6 (b) : bt (.neg b : Bd X) = .s (.n 4) [bt b] := rfl
theorem bt_7 (a) (b) : bt (.com a b : Bd X) = .s (.n 1) [bt a, bt b] := rfl
theorem bt_8 (a) (b) : bt (.sem a b : Bd X) = .s (.n 2) [bt a, bt b] := rfl
theorem bt_9 (a) (b) : bt (.arr a b : Bd X) = .s (.n 3) [bt a, bt b] := rfl
noncomputable def eqT (x y : X) : Tr X := .s (.n 10) [.v x, .v y]
noncomputable def plain : Bd X → X → X → Tr X
  | .v z, x, y => .s .ph [.v z, .v x, .v y]
  | .cut, x, y => .s (.n 1) [.a 15, eqT x y]
  | .tx l, x, y => .s (.n 10) [.v x, lsT (l.map itm) (.v y)]
  | .cur z, x, y => .s (.n 1) [.v z, eqT x y]
  | .p l, x, y => .s (.p (l.length + 2)) (l.map .v ++ [.v x, .v y])
  | _, _, _ => .a 0
theorem plain_1 (z x y) : plain (.v z : Bd X) x y = .s .ph [.v z, .v x, .v y] := rfl
theorem plain_2 (x y) : plain (.cut : Bd X) x y = .s (.n 1) [.a 15, eqT x y] := rfl
theorem plain_3 (l x y) : plain (.tx l : Bd X) x y = .s (.n 10) [.v x, lsT (l.map itm) (.v y)] := rfl
theorem plain_4 (z x y) : plain (.cur z : Bd X) x y = .s (.n 1) [.v z, eqT x y] := rfl
theorem plain_5 (l x y) : plain (.p l : Bd X) x y = .s (.p (l.length + 2)) (l.map .v ++ [.v x, .v y]) := rfl
theorem plain_6 (b x y) : plain (.neg b : Bd X) x y = .a 0 := rfl
theorem plain_7 (a b x y) : plain (.com a b : Bd X) x y = .a 0 := rfl
theorem plain_8 (a b x y) : plain (.sem a b : Bd X) x y = .a 0 := rfl
theorem plain_9 (a b x y) : plain (.arr a b : Bd X) x y = .a 0 := rfl
theorem encs_vs {ρ : Fu → Int} {ι : X → Int} : ∀ {l : List X}, encs ρ ι (l.map Tr.v) = l.map fun x => .tup [.str (Str.ofString "v"), .int (ι x)]
  | [] => rfl
  | _ :: r => by simp [encs_1, encs_2, enc_1, enc_2, enc_3, enc_4, encs_vs (l := r)]
end
theorem pj {S : Sy} {j : Nat} (h : S0.Le S) (e : S.a cP = some j) : 29 ≤ j := by
  by_cases hj : j < 29
  · exfalso
    obtain ⟨x, hx, hk⟩ := fi_at e
    obtain ⟨t, ht⟩ := h.1
    rw [← ht, S0_tx, List.getElem?_append_left (by have : fixedA.length = 29 := rfl; lia)] at hx
    have hm : x ∈ fixedA := List.mem_of_getElem? hx
    have hx' : x = cP := hk
    subst hx'
    exact absurd hm (by decide +kernel)
  · lia
theorem pnum {S : Sy} {m j i : Nat} (h : S0.Le S) (e : S.a cP = some j) (e2 : S.f j m = some i) : 11 ≤ i := by
  by_cases hi : i < 11
  · exfalso
    have hj := pj h e
    obtain ⟨x, hx, hk⟩ := fi_at e2
    have hx1 : x.1 = (j : Int) := by have := congrArg (List.head?) hk; simpa [kF] using this
    obtain ⟨t, ht⟩ := h.2
    have h11 : (S0.fn.take 11)[i]? = some x := by
      have hlen : i < (S0.fn.take 11).length := by rw [S0_fn]; exact hi
      have hl2 : i < S0.fn.length := by rw [List.length_take] at hlen; lia
      rw [← ht, List.getElem?_append_left hl2] at hx
      rw [List.getElem?_take_of_lt hi]; exact hx
    rw [S0_fn] at h11
    have hm := List.mem_of_getElem? h11
    have : ∀ y ∈ ([(1, 2), (7, 2), (9, 2), (10, 2), (11, 1), (12, 2), (12, 1), (13, 1), (14, 2), (2, 1), (20, 2)] : List (Int × Int)), y.1 < 29 := by decide
    have := this x hm
    lia
  · lia
noncomputable def headT {X : Type} (j : Nat) : List X → Tr X
  | [] => .a j
  | l => .s (.p l.length) (l.map .v)
theorem sp_nonterminal {X : Type} {ι : X → Int} {H : Hp} {n j : Nat} {S : Sy} {l : List X} {x y : SV} {Q : SV → Hp → Prop} (hS : SymAt H n S) (hl : S.len < 800000) (ha : S.a cP = some j) (hf : l = [] ∨ FuIn S (.p l.length)) (hln : l.length < 100000)
    (h : ∀ S' H', SymAt H' n S' → S.Le S' → FuIn S' (.p (l.length + 2)) → S'.len ≤ S.len + 2 → Kp (sy n) H H' → H'.length = H.length → Q (.tup [.str (Str.ofString "s"), .int (res S' (.p (l.length + 2))), .tup (encs (res S') ι (l.map .v) ++ [x, y])]) H') :
    Ok (F_nonterminal [.ref (n + 1), enc (res S) ι (headT j l), x, y] H) Q := by
  unfold F_nonterminal d_nonterminal
  cases l with
  | nil =>
    (try with_reducible refine IsW.run ?_); (repeat (first | walk_at "ev" | simp only [headT, enc_1, enc_2, enc_3, enc_4, evA, evB, reduceCtorEq, Nat.reduceAdd, Nat.reduceLT, Nat.reduceLeDiff]))
    unfold F_functor_in d_functor_in
    (try with_reducible refine IsW.run ?_); (repeat (first | walk_at "ev" | simp only [hS.isI nl_functor, evA, evB, reduceCtorEq, Nat.reduceAdd, Nat.reduceLT, Nat.reduceLeDiff]))
    refine sp_sym_functor hS (by lia) fun S1 i H1 h1 l1 e1 n1 _ k1 z1 => ?_
    (try with_reducible refine IsW.run ?_); (repeat (first | walk_at "ev" | simp only [evA, evB, reduceCtorEq, Nat.reduceAdd, Nat.reduceLT, Nat.reduceLeDiff]))
    unfold F_arguments d_arguments
    (try with_reducible refine IsW.run ?_); (repeat (first | walk_at "ev" | simp only [evA, evB, reduceCtorEq, Nat.reduceAdd, Nat.reduceLT, Nat.reduceLeDiff]))
    have en : S1.fn[i]? = some ((j : Int), 0) := by
      obtain ⟨⟨a, b⟩, hx, hk⟩ := fi_at e1
      have : [a, b] = [(j : Int), 0] := hk
      simp only [List.cons.injEq, and_true] at this
      rw [hx, this.1, this.2]
    have oa : opAdd (.tup []) (.tup [x, y]) = some (.tup [x, y]) := addT (by simp)
    have ol : ∀ H, fLen [.tup [x, y]] H = some (.int 2, H) := fun _ => wLenT (by simp)
    (try with_reducible refine IsW.run ?_); (repeat (first | walk_at "ev" | simp only [oa, h1.isI nl_functor, h1.isI nl_name, ol, evA, evB, reduceCtorEq, Nat.reduceAdd, Nat.reduceLT, Nat.reduceLeDiff]))
    refine sp_sym_name h1 (by lia) en ?_
    (try with_reducible refine IsW.run ?_); (repeat (first | walk_at "ev" | simp only [evA, evB, reduceCtorEq, Nat.reduceAdd, Nat.reduceLT, Nat.reduceLeDiff]))
    refine sp_sym_functor h1 (by lia) fun S2 i2 H2 h2 l2 e2 n2 _ k2 z2 => ?_
    (try with_reducible refine IsW.run ?_); (repeat (first | walk_at "ev" | simp only [evA, evB, reduceCtorEq, Nat.reduceAdd, Nat.reduceLT, Nat.reduceLeDiff]))
    refine sp_struct ?_
    have hp := l2.a (l1.a ha)
    have := h S2 H2 h2 (l1.trans l2) ⟨j, i2, hp, e2⟩ (by lia) (k1.trans k2 (fun _ _ h => h) (fun _ _ h => h)) (by lia)
    rw [show res S2 (.p (([] : List X).length + 2)) = (i2 : Int) from res_p (m := 2) hp e2] at this
    exact this
  | cons z r =>
    rcases hf with hf | ⟨j', i, f1, f2⟩
    · cases hf
    first | exact sN ha f1 | exact sN f1 ha | (rw [ha] at f1; cases f1)
    have en : S.fn[i]? = some ((j : Int), ((z :: r).length : Int)) := by
      obtain ⟨⟨a, b⟩, hx, hk⟩ := fi_at f2
      have : [a, b] = [(j : Int), ((z :: r).length : Int)] := hk
      simp only [List.cons.injEq, and_true] at this
      rw [hx, this.1, this.2]
    have er := res_p ha f2
    have lm : ((z :: r).map (Tr.v (X := X))).length = (z :: r).length := by simp
    have h1 : (encs (res S) ι ((z :: r).map Tr.v)).length = (z :: r).length := by rw [encs_len, lm]
    generalize hzr : z :: r = zr at *
    have hd : headT j zr = .s (.p zr.length) (zr.map .v) := by rw [← hzr]; rfl
    rw [hd]
    (try with_reducible refine IsW.run ?_); (repeat (first | walk_at "ev" | simp only [enc_1, enc_2, enc_3, enc_4, er, evA, evB, reduceCtorEq, Nat.reduceAdd, Nat.reduceLT, Nat.reduceLeDiff]))
    unfold F_functor_in d_functor_in
    (try with_reducible refine IsW.run ?_); (repeat (first | walk_at "ev" | simp only [evA, evB, reduceCtorEq, Nat.reduceAdd, Nat.reduceLT, Nat.reduceLeDiff]))
    unfold F_arguments d_arguments
    (try with_reducible refine IsW.run ?_); (repeat (first | walk_at "ev" | simp only [evA, evB, reduceCtorEq, Nat.reduceAdd, Nat.reduceLT, Nat.reduceLeDiff]))
    have hop : opAdd (.tup (encs (res S) ι (zr.map .v))) (.tup [x, y]) = some (.tup (encs (res S) ι (zr.map .v) ++ [x, y])) := by
      exact addT (by rw [h1]; simp; lia)
    have hln2 : (encs (res S) ι (zr.map .v) ++ [x, y]).length = zr.length + 2 := by simp [h1]
    have hl3 : zr.length + 2 < 1000000 := by lia
    have ol : ∀ H, fLen [.tup (encs (res S) ι (zr.map .v) ++ [x, y])] H = some (.int (zr.length + 2 : Nat), H) := fun _ => by rw [wLenT (by rw [hln2]; exact hl3), hln2]
    (try with_reducible refine IsW.run ?_); (repeat (first | walk_at "ev" | simp only [hop, hS.isI nl_functor, hS.isI nl_name, ol, evA, evB, reduceCtorEq, Nat.reduceAdd, Nat.reduceLT, Nat.reduceLeDiff]))
    refine sp_sym_name hS (by lia) en ?_
    (try with_reducible refine IsW.run ?_); (repeat (first | walk_at "ev" | simp only [fLen, hln2, hl3, evA, evB, reduceCtorEq, Nat.reduceAdd, Nat.reduceLT, Nat.reduceLeDiff]))
    have ecast : ((zr.length + 2 : Nat) : Int) = (((zr.length + 2 : Nat)) : Int) := rfl
    refine sp_sym_functor hS (by lia) fun S2 i2 H2 h2 l2 e2 n2 _ k2 z2 => ?_
    (try with_reducible refine IsW.run ?_); (repeat (first | walk_at "ev" | simp only [evA, evB, reduceCtorEq, Nat.reduceAdd, Nat.reduceLT, Nat.reduceLeDiff]))
    refine sp_struct ?_
    have hp := l2.a ha
    have := h S2 H2 h2 l2 ⟨j, i2, hp, e2⟩ (by lia) k2 z2
    rw [res_p hp e2] at this
    have hv : encs (res S2) ι (zr.map Tr.v) = encs (res S) ι (zr.map Tr.v) := by rw [encs_vs, encs_vs]
    rw [hv] at this
    exact this
theorem toD_tupA {H : Hp} : toD H sNIL = some (.tuple [.str (Str.ofString "a"), .int 0]) := by
  have h : PyData.strOk (Str.ofString "a") = true := by decide +kernel
  show pyD sNIL = _
  show (Option.map PyData.tuple ((if PyData.strOk (Str.ofString "a") then some (PyData.str (Str.ofString "a")) else none).bind fun d => some [d, PyData.int 0])) = _
  rw [if_pos h]; rfl
theorem cmp_same {H : Hp} {a b : SV} {d : PyData} {neg : Bool} (ha : toD H a = some d) (hb : toD H b = some d) (hs : shp d = true) : cmpD neg H a b = some (!neg) := by
  simp only [cmpD, ha, hb, Option.bind_some, hs, Bool.and_self, if_true, SeqAt.eqv_refl d (SeqAt.canLay_of_shaped hs), Bool.xor_true]
theorem sp_terminals {X : Type} {ι : X → Int} {ρ : Fu → Int} {H : Hp} {sg : SV} {l : List (Option X)} {x : X} {tl : List SV} {Q : SV → Hp → Prop} (h0 : ρ (.n 0) = 0) (hl : l.length < 2900)
    (h : ∀ H', Kp no H H' → Q (.tup [.str (Str.ofString "s"), .int 10, .tup [enc ρ ι (.v x), rs 0 (encs ρ ι (l.map itm)) (.tup tl)]]) H') : Ok (F_terminals [sg, enc ρ ι (lsT (l.map itm) (.a 0)), enc ρ ι (.v x), .tup tl] H) Q := by
  have hll : (encs ρ ι (l.map itm)).length < 2900 := by rw [encs_len, List.length_map]; exact hl
  unfold F_terminals d_terminals
  rw [enc_lsT h0]
  have en : enc ρ ι (.a 0) = sNIL := rfl
  rw [en]
  generalize encs ρ ι (l.map itm) = xs at *
  (try with_reducible refine IsW.run ?_); (repeat (first | walk_at "ev" | simp only [evA, evB, reduceCtorEq, Nat.reduceAdd, Nat.reduceLT, Nat.reduceLeDiff]))
  refine sp_list_items hll ?_
  have e1 : setLs [some sg, some (rs 0 xs sNIL), some (enc ρ ι (.v x)), some (.tup tl), none, none] [4, 5] [.ref H.length, sNIL] = some [some sg, some (rs 0 xs sNIL), some (enc ρ ι (.v x)), some (.tup tl), some (.ref H.length), some sNIL] := rfl
  have e2 : item (H ++ [.lst xs]) sNIL (.int 0) = some (.str (Str.ofString "a")) := rfl
  (try with_reducible refine IsW.run ?_); (repeat (first | walk_at "ev" | simp only [e1, e2, evA, evB, reduceCtorEq, Nat.reduceAdd, Nat.reduceLT, Nat.reduceLeDiff]))
  refine sp_atom ?_
  have e3 : cmpD true (H ++ [.lst xs]) sNIL (.tup [.str (Str.ofString "a"), .int 0]) = some false := by
    have : (.tup [.str (Str.ofString "a"), .int 0] : SV) = sNIL := rfl
    rw [this]; exact cmp_same toD_tupA toD_tupA (by decide +kernel)
  (try with_reducible refine IsW.run ?_); (repeat (first | walk_at "ev" | simp only [e3, evA, evB, reduceCtorEq, Nat.reduceAdd, Nat.reduceLT, Nat.reduceLeDiff]))
  refine sp_list_term app_at (by lia) ?_
  (try with_reducible refine IsW.run ?_); (repeat (first | walk_at "ev" | simp only [evA, evB, reduceCtorEq, Nat.reduceAdd, Nat.reduceLT, Nat.reduceLeDiff]))
  refine sp_struct ?_
  exact h _ Kp.app
noncomputable def Leaf {X : Type} : Bd X → Prop
  | .tx l => l ≠ [] ∧ l.length < 2900
  | .p l => l ≠ [] ∧ l.length < 1000
  | .v _ => True
  | .cut => True
  | .cur _ => True
  | _ => False
theorem no_le {ch : Nat → Prop} {H H' : Hp} (k : Kp no H H') : Kp ch H H' := k.mono fun _ _ h => h.elim
theorem sp_plain {X : Type} {ι : X → Int} {H : Hp} {n : Nat} {S : Sy} {b : Bd X} {x y : X} {Q : SV → Hp → Prop} (hS : SymAt H n S) (hg : S0.Le S) (hl : S.len < 700000) (hk : KIn S (bt b)) (lf : Leaf b)
    (h : ∀ S' H', SymAt H' n S' → S.Le S' → KIn S' (plain b x y) → S'.len ≤ S.len + 3 → Kp (sy n) H H' → Q (enc (res S') ι (plain b x y)) H') :
    Ok (F_plain_goal [.ref (n + 1), enc (res S) ι (bt b), enc (res S) ι (.v x), enc (res S) ι (.v y)] H) Q := by
  have r0 : ∀ S k, res S (.n k) = k := fun _ _ => rfl
  unfold F_plain_goal d_plain_goal
  cases b with
  | v z =>
    (try with_reducible refine IsW.run ?_); (repeat (first | walk_at "ev" | simp only [bt_1, bt_2, bt_3, bt_4, bt_5, bt_6, bt_7, bt_8, bt_9, enc_1, enc_2, enc_3, enc_4, evA, evB, reduceCtorEq, Nat.reduceAdd, Nat.reduceLT, Nat.reduceLeDiff]))
    refine sp_struct ?_
    (try with_reducible refine IsW.run ?_); (repeat (first | walk_at "ev" | simp only [hS.isI nl_func, evA, evB, reduceCtorEq, Nat.reduceAdd, Nat.reduceLT, Nat.reduceLeDiff]))
    refine sp_sym_func hS (by lia) fun S1 i j H1 h1 l1 a1 f1 n1 _ k1 z1 => ?_
    (try with_reducible refine IsW.run ?_); (repeat (first | walk_at "ev" | simp only [evA, evB, reduceCtorEq, Nat.reduceAdd, Nat.reduceLT, Nat.reduceLeDiff]))
    refine sp_struct ?_
    have := h S1 H1 h1 l1 ⟨⟨j, i, a1, f1⟩, trivial, trivial, trivial, trivial⟩ (by lia) k1
    simp only [plain_1, plain_2, plain_3, plain_4, plain_5, plain_6, plain_7, plain_8, plain_9, enc_1, enc_2, enc_3, enc_4, encs_1, encs_2, res_ph a1 f1] at this
    exact this
  | cut =>
    (try with_reducible refine IsW.run ?_); (repeat (first | walk_at "ev" | simp only [bt_1, bt_2, bt_3, bt_4, bt_5, bt_6, bt_7, bt_8, bt_9, enc_1, enc_2, enc_3, enc_4, evA, evB, reduceCtorEq, Nat.reduceAdd, Nat.reduceLT, Nat.reduceLeDiff]))
    refine sp_struct ?_
    (try with_reducible refine IsW.run ?_); (repeat (first | walk_at "ev" | simp only [cII, show ((15 : Int) == 0) = false from rfl, show ((15 : Int) == 15) = true from rfl, evA, evB, reduceCtorEq, Nat.reduceAdd, Nat.reduceLT, Nat.reduceLeDiff]))
    refine sp_conjunction (ys := [.tup [.str (Str.ofString "a"), .int 15]]) app_at (by simp) ?_
    have := h S _ (hS.kp (ch := no) Kp.app fun _ _ _ h => h) (Sy.Le.refl _) ⟨trivial, trivial, ⟨trivial, trivial, trivial, trivial⟩, trivial⟩ (by lia) (Kp.app (G := [.lst [.tup [.str (Str.ofString "a"), .int 15], .tup [.str (Str.ofString "s"), .int 10, .tup [.tup [.str (Str.ofString "v"), .int (ι x)], .tup [.str (Str.ofString "v"), .int (ι y)]]]]]))
    simp only [plain_1, plain_2, plain_3, plain_4, plain_5, plain_6, plain_7, plain_8, plain_9, eqT, enc_1, enc_2, enc_3, enc_4, encs_1, encs_2, r0] at this
    exact this
  | cur z =>
    (try with_reducible refine IsW.run ?_); (repeat (first | walk_at "ev" | simp only [bt_1, bt_2, bt_3, bt_4, bt_5, bt_6, bt_7, bt_8, bt_9, enc_1, enc_2, enc_3, enc_4, encs_1, encs_2, r0, evA, evB, reduceCtorEq, Nat.reduceAdd, Nat.reduceLT, Nat.reduceLeDiff]))
    refine sp_struct ?_
    (try with_reducible refine IsW.run ?_); (repeat (first | walk_at "ev" | simp only [cII, show ((9 : Int) == 0) = false from rfl, show ((9 : Int) == 9) = true from rfl, evA, evB, reduceCtorEq, Nat.reduceAdd, Nat.reduceLT, Nat.reduceLeDiff]))
    refine sp_conjunction (ys := [.tup [.str (Str.ofString "v"), .int (ι z)]]) app_at (by simp) ?_
    have := h S _ (hS.kp (ch := no) Kp.app fun _ _ _ h => h) (Sy.Le.refl _) ⟨trivial, trivial, ⟨trivial, trivial, trivial, trivial⟩, trivial⟩ (by lia) (Kp.app (G := [.lst [.tup [.str (Str.ofString "v"), .int (ι z)], .tup [.str (Str.ofString "s"), .int 10, .tup [.tup [.str (Str.ofString "v"), .int (ι x)], .tup [.str (Str.ofString "v"), .int (ι y)]]]]]))
    simp only [plain_1, plain_2, plain_3, plain_4, plain_5, plain_6, plain_7, plain_8, plain_9, eqT, enc_1, enc_2, enc_3, enc_4, encs_1, encs_2, r0] at this
    exact this
  | tx l =>
    obtain ⟨hne, hln⟩ := lf
    have hkT : ∀ l : List (Tr X), KIns S l → ∀ t, KIn S t → KIn S (lsT l t) := by
      intro l
      induction l with
      | nil => intro _ t h; exact h
      | cons u r ih => intro h t k; exact ⟨trivial, h.1, ih h.2 t k, trivial⟩
    have hit : ∀ l : List (Option X), KIns S (l.map itm) := by
      intro l
      induction l with
      | nil => trivial
      | cons u r ih => cases u <;> exact ⟨trivial, ih⟩
    obtain ⟨u, r, rfl⟩ : ∃ u r, l = u :: r := by cases l with | nil => exact absurd rfl hne | cons u r => exact ⟨u, r, rfl⟩
    have he : enc (res S) ι (bt (.tx (u :: r))) = .tup [.str (Str.ofString "s"), .int 0, .tup [enc (res S) ι (itm u), enc (res S) ι (lsT (r.map itm) (.a 0))]] := by
      show enc (res S) ι (.s (.n 0) [itm u, lsT (r.map itm) (.a 0)]) = _
      simp only [enc_1, enc_2, enc_3, enc_4, encs_1, encs_2, r0]
    have hv : enc (res S) ι (.v y : Tr X) = .tup [.str (Str.ofString "v"), .int (ι y)] := rfl
    rw [he]
    (try with_reducible refine IsW.run ?_); (repeat (first | walk_at "ev" | simp only [evA, evB, reduceCtorEq, Nat.reduceAdd, Nat.reduceLT, Nat.reduceLeDiff]))
    refine sp_struct ?_
    (try with_reducible refine IsW.run ?_); (repeat (first | walk_at "ev" | simp only [cII, beq_self_eq_true, evA, evB, reduceCtorEq, Nat.reduceAdd, Nat.reduceLT, Nat.reduceLeDiff]))
    rw [← he, hv]
    refine sp_terminals (l := u :: r) rfl (by lia) fun H' k' => ?_
    have := h S H' (hS.kp k' fun _ _ _ h => h) (Sy.Le.refl _) ⟨trivial, trivial, hkT _ (hit _) _ trivial, trivial⟩ (by lia) (no_le k')
    simp only [plain_1, plain_2, plain_3, plain_4, plain_5, plain_6, plain_7, plain_8, plain_9, enc_1, enc_2, enc_3, enc_4, encs_1, encs_2, r0] at this
    rw [enc_lsT rfl] at this
    exact this
  | p l =>
    obtain ⟨hne, hln⟩ := lf
    have hf : FuIn S (.p l.length) := hk.1
    obtain ⟨j, i, f1, f2⟩ := hf
    have hi := pnum hg f1 f2
    have er := res_p f1 f2
    have hd : headT j l = .s (.p l.length) (l.map .v) := by cases l with | nil => exact absurd rfl hne | cons u r => rfl
    have i0 : ((i : Int) == 0) = false := by rw [beq_eq_false_iff_ne]; lia
    have i9 : ((i : Int) == 9) = false := by rw [beq_eq_false_iff_ne]; lia
    have he : enc (res S) ι (bt (.p l)) = .tup [.str (Str.ofString "s"), .int (i : Int), .tup (encs (res S) ι (l.map .v))] := by
      simp only [bt_1, bt_2, bt_3, bt_4, bt_5, bt_6, bt_7, bt_8, bt_9, enc_1, enc_2, enc_3, enc_4, er]
    have he2 : enc (res S) ι (bt (.p l)) = enc (res S) ι (headT j l) := by rw [hd]; rfl
    rw [he]
    (try with_reducible refine IsW.run ?_); (repeat (first | walk_at "ev" | simp only [evA, evB, reduceCtorEq, Nat.reduceAdd, Nat.reduceLT, Nat.reduceLeDiff]))
    refine sp_struct ?_
    (try with_reducible refine IsW.run ?_); (repeat (first | walk_at "ev" | simp only [cII, i0, i9, evA, evB, reduceCtorEq, Nat.reduceAdd, Nat.reduceLT, Nat.reduceLeDiff]))
    rw [← he, he2]
    refine sp_nonterminal hS (by lia) f1 (.inr ⟨j, i, f1, f2⟩) (by lia) fun S1 H1 h1 l1 f3 n1 k1 z1 => ?_
    have := h S1 H1 h1 l1 ⟨f3, KIns.app KIns.vs ⟨trivial, trivial, trivial⟩⟩ (by lia) k1
    simp only [plain_1, plain_2, plain_3, plain_4, plain_5, plain_6, plain_7, plain_8, plain_9, enc_1, enc_2, enc_3, enc_4, encs_app, encs_1, encs_2] at this
    exact this
  | neg b => exact lf.elim
  | com a b => exact lf.elim
  | sem a b => exact lf.elim
  | arr a b => exact lf.elim
structure TrAt (H : Hp) (r : Nat) (ns ws : List SV) : Prop where
  inst : H[r + 1]? = some (.inst 379 r)
  flds : H[r]? = some (.flds [(Str.ofString "nodes", .ref (r + 2)), (Str.ofString "waiting", .ref (r + 3))])
  nodes : H[r + 2]? = some (.lst ns)
  wait : H[r + 3]? = some (.lst ws)
noncomputable def tr (r : Nat) : Nat → Prop := fun p => p = r + 2 ∨ p = r + 3
theorem TrAt.kp {H H' : Hp} {r : Nat} {ns ws : List SV} {ch : Nat → Prop} (h : TrAt H r ns ws) (k : Kp ch H H') (o : ∀ p, r ≤ p → p ≤ r + 3 → ¬ ch p) : TrAt H' r ns ws :=
  have q : ∀ {i}, Nat.ble i 3 = true → ¬ ch (r + i) := fun h => o _ (Nat.le_add_right _ _) (Nat.add_le_add_left (Nat.le_of_ble_eq_true h) _)
  ⟨k.keep _ _ h.inst (q rfl), k.keep _ _ h.flds (q (i := 0) rfl), k.keep _ _ h.nodes (q rfl), k.keep _ _ h.wait (q rfl)⟩
theorem TrAt.fn {H : Hp} {r : Nat} {ns ws : List SV} (h : TrAt H r ns ws) : fld H 379 (Str.ofString "nodes") (.ref (r + 1)) = some (.ref (r + 2)) := fld_at h.inst h.flds
theorem TrAt.fw {H : Hp} {r : Nat} {ns ws : List SV} (h : TrAt H r ns ws) : fld H 379 (Str.ofString "waiting") (.ref (r + 1)) = some (.ref (r + 3)) := fld_at h.inst h.flds
theorem TrAt.isI {H : Hp} {r : Nat} {ns ws : List SV} (h : TrAt H r ns ws) {name : Str} (e : (name == Str.ofString "nodes") = false) (e2 : (name == Str.ofString "waiting") = false) : isInst 379 name H (.ref (r + 1)) = true := by
  simp [isInst, h.inst, h.flds, List.lookup_cons, e, e2]
theorem TrAt.setN {H : Hp} {r : Nat} {ns ws ns' : List SV} (h : TrAt H r ns ws) : TrAt (H.set (r + 2) (.lst ns')) r ns' ws :=
  ⟨by rw [set_ne (by first | exact nk rfl | exact nk (b := 0) rfl)]; exact h.inst, by rw [set_ne (by first | exact nk rfl | exact nk (b := 0) rfl)]; exact h.flds, set_at h.nodes, by rw [set_ne (by first | exact nk rfl | exact nk (b := 0) rfl)]; exact h.wait⟩
theorem TrAt.setW {H : Hp} {r : Nat} {ns ws ws' : List SV} (h : TrAt H r ns ws) : TrAt (H.set (r + 3) (.lst ws')) r ns ws' :=
  ⟨by rw [set_ne (by first | exact nk rfl | exact nk (b := 0) rfl)]; exact h.inst, by rw [set_ne (by first | exact nk rfl | exact nk (b := 0) rfl)]; exact h.flds, by rw [set_ne (by first | exact nk rfl | exact nk (b := 0) rfl)]; exact h.nodes, set_at h.wait⟩
theorem TrAt.lt {H : Hp} {r : Nat} {ns ws : List SV} (h : TrAt H r ns ws) : r + 3 < H.length := at_lt h.wait
noncomputable def goalV (t : SV) : SV := .tup [.str (Str.ofString "goal"), t]
noncomputable abbrev P3 := SV × SV × SV
noncomputable def pV (p : P3) : SV := .tup [p.1, p.2.1, p.2.2]
noncomputable def wV (k : Nat) (p : P3) : SV := .tup [.int (k : Int), p.1, p.2.1, p.2.2]
noncomputable def wVs : Nat → List P3 → List SV
  | _, [] => []
  | k, p :: r => wV k p :: wVs (k + 1) r
theorem wVs_1 (k) : wVs k [] = [] := rfl
theorem wVs_2 (k) (p) (r) : wVs k (p :: r) = wV k p :: wVs (k + 1) r := rfl
theorem wVs_len : ∀ {k : Nat} {l : List P3}, (wVs k l).length = l.length
  | _, [] => rfl
  | k, _ :: r => by simp [wVs_1, wVs_2, wVs_len (l := r)]
theorem wVs_at : ∀ {k i : Nat} {l : List P3} {p : P3}, l[i]? = some p → (wVs k l)[i]? = some (wV (k + i) p)
  | k, i, [], p, h => by simp at h
  | k, 0, q :: r, p, h => by simp at h; subst h; rfl
  | k, i + 1, q :: r, p, h => by
    simp only [List.getElem?_cons_succ] at h
    simp only [wVs_1, wVs_2, List.getElem?_cons_succ]
    rw [wVs_at h]; congr 2; lia
noncomputable def plc (L m : Nat) : List SV := (List.range m).map fun k => .int ((L + k : Nat) : Int)
theorem plc_len {L m : Nat} : (plc L m).length = m := by simp [plc]
theorem plc_succ {L m : Nat} : plc L (m + 1) = plc L m ++ [.int ((L + m : Nat) : Int)] := by simp [plc, List.range_succ]
theorem plc_at {L m k : Nat} (h : k < m) : (plc L m)[k]? = some (.int ((L + k : Nat) : Int)) := by
  simp [plc, h]
theorem ap_lst {H : Hp} {p : Nat} {xs : List SV} {v : SV} (hp : H[p]? = some (.lst xs)) (hl : xs.length < 1000000) : fAppend [.ref p, v] H = some (.none, H.set p (.lst (xs ++ [v]))) := by
  exact wApp hp hl
theorem ty_lst {H : Hp} {p : Nat} {xs : List SV} (hp : H[p]? = some (.lst xs)) : tyOf H (.ref p) = some "list" := wTyL hp
theorem rng_down {n : Nat} (h : n < 900000) : rangeS [.int ((n : Int) - 1), .int (-1), .int (-1)] = some (.rng ((n : Int) - 1) (n : Int) (-1)) := by
  rw [rng3, if_pos (by lia)]
  congr 2
  split <;> lia
theorem nx_down {H : Hp} {k : Nat} : nextS H (.rng (((k + 1 : Nat) : Int) - 1) ((k + 1 : Nat) : Int) (-1)) = some (some (.int (k : Int), .rng ((k : Int) - 1) (k : Int) (-1))) := by
  simp only [nextS]
  rw [if_pos (by lia)]
  simp only [Option.some.injEq, Prod.mk.injEq, SV.int.injEq, Src.rng.injEq, true_and, and_true]
  lia
section
variable {H : Hp} {r q : Nat} {w : Str} {ps : List P3} {ns ws : List SV}
inductive HA (H : Hp) (r q : Nat) (w : Str) (ps : List P3) (ns ws : List SV) (k : Nat) (src : Src) (l : Loc) (H' : Hp) : Prop
  | mk (d : Nat) (z y : Option SV) (hd : d + k = ps.length) (es : src = .lst q d) (el : l = [some (.ref (r + 1)), some (.str w), some (.ref q), some (.ref H.length), z, y]) (T : TrAt H' r (ns ++ (ps.take d).map fun p => goalV p.1) ws) (hp : H'[H.length]? = some (.lst (plc ns.length d))) (hq : H'[q]? = some (.lst (ps.map pV))) (kp : Kp (tr r) H H')
inductive HB (H : Hp) (r q : Nat) (w : Str) (ps : List P3) (ns ws : List SV) (k : Nat) (src : Src) (l : Loc) (H' : Hp) : Prop
  | mk (z y : Option SV) (hk : k ≤ ps.length) (es : src = .rng ((k : Int) - 1) (k : Int) (-1)) (el : l = [some (.ref (r + 1)), some (.str w), some (.ref q), some (.ref H.length), z, y]) (T : TrAt H' r (ns ++ ps.map fun p => goalV p.1) (ws ++ ((wVs ns.length ps).drop k).reverse)) (hp : H'[H.length]? = some (.lst (plc ns.length ps.length))) (hq : H'[q]? = some (.lst (ps.map pV))) (kp : Kp (tr r) H H')
theorem HB.next {H2 : Hp} {k : Nat} {p : P3} {z : Option SV} (hx : ps[k]? = some p) (h2 : TrAt H2 r (ns ++ ps.map fun p => goalV p.1) (ws ++ ((wVs ns.length ps).drop (k + 1)).reverse)) (hp2 : H2[H.length]? = some (.lst (plc ns.length ps.length))) (hq2 : H2[q]? = some (.lst (ps.map pV))) (k2 : Kp (tr r) H H2) (dq : q ≠ r + 2 ∧ q ≠ r + 3) (hrl : r + 3 < H.length) :
    HB H r q w ps ns ws k (.rng ((k : Int) - 1) (k : Int) (-1)) [some (.ref (r + 1)), some (.str w), some (.ref q), some (.ref H.length), z, some (.int (k : Int))] (H2.set (r + 3) (.lst (ws ++ ((wVs ns.length ps).drop (k + 1)).reverse ++ [wV (ns.length + k) p]))) := by
  have hkl : k < ps.length := (List.getElem?_eq_some_iff.mp hx).1
  refine ⟨_, _, by lia, rfl, rfl, ?_, ?_, ?_, ?_⟩
  · have := h2.setW (ws' := ws ++ ((wVs ns.length ps).drop (k + 1)).reverse ++ [wV (ns.length + k) p])
    rw [drop_at (wVs_at (k := ns.length) hx), List.reverse_cons, ← List.append_assoc]
    exact this
  · rw [set_ne (by lia)]; exact hp2
  · rw [set_ne (by lia)]; exact hq2
  · exact k2.trans (ch' := tr r) (Kp.set (by unfold tr; lia)) (fun _ _ h => h) (fun _ _ h => h)
theorem HA.next {H1 : Hp} {k d : Nat} {p : P3} {y : Option SV} (hx : ps[d]? = some p) (hd : d + (k + 1) = ps.length) (h1 : TrAt H1 r (ns ++ (ps.take d).map fun p => goalV p.1) ws) (hp1 : H1[H.length]? = some (.lst (plc ns.length d))) (hq1 : H1[q]? = some (.lst (ps.map pV))) (k1 : Kp (tr r) H H1) (dq : q ≠ r + 2 ∧ q ≠ r + 3) (hrl : r + 3 < H.length) (hql : q < H.length)
    (t2 : TrAt (H1.set H.length (.lst (plc ns.length d ++ [.int ((ns.length + d : Nat) : Int)]))) r (ns ++ (ps.take d).map fun p => goalV p.1) ws) :
    HA H r q w ps ns ws k (.lst q (d + 1)) [some (.ref (r + 1)), some (.str w), some (.ref q), some (.ref H.length), some (pV p), y] ((H1.set H.length (.lst (plc ns.length d ++ [.int ((ns.length + d : Nat) : Int)]))).set (r + 2) (.lst ((ns ++ (ps.take d).map fun p => goalV p.1) ++ [.tup [.str (Str.ofString "goal"), p.1]]))) := by
  refine ⟨d + 1, _, _, by lia, rfl, rfl, ?_, ?_, ?_, ?_⟩
  · have := t2.setN (ns' := (ns ++ (ps.take d).map fun p => goalV p.1) ++ [.tup [.str (Str.ofString "goal"), p.1]])
    rw [take_snoc hx, List.map_append, ← List.append_assoc]
    exact this
  · rw [set_ne (by lia), plc_succ]; exact set_at hp1
  · rw [set_ne (by lia), set_ne (by lia)]; exact hq1
  · refine k1.trans (ch' := fun p => p = H.length ∨ p = r + 2) (Kp.trans (ch := on H.length) (ch' := on (r + 2)) (Kp.set rfl) (Kp.set rfl) (fun _ _ h => .inl h) (fun _ _ h => .inr h)) (fun _ _ h => h) (fun p hp h => ?_)
    unfold tr; lia
end
theorem sp_hold {H : Hp} {r q : Nat} {ns ws : List SV} {ps : List P3} {w : Str} {Q : SV → Hp → Prop} (hT : TrAt H r ns ws) (hq : H[q]? = some (.lst (ps.map pV))) (dq : q ≠ r + 2 ∧ q ≠ r + 3) (hp : ps.length < 2900) (hn : ns.length + ps.length < 900000) (hw : ws.length + ps.length < 900000)
    (h : ∀ H', TrAt H' r (ns ++ ps.map fun p => goalV p.1) (ws ++ (wVs ns.length ps).reverse) → H'[H.length]? = some (.lst (plc ns.length ps.length)) → Kp (tr r) H H' → Q (.tup [.str w, .ref H.length]) H') :
    Ok (F_GrammarTree_hold [.ref (r + 1), .str w, .ref q] H) Q := by
  unfold F_GrammarTree_hold d_GrammarTree_hold
  have hql := at_lt hq
  have hrl := hT.lt
  have hq1 : (H ++ [.lst []])[q]? = some (.lst (ps.map pV)) := app_old hq
  (try with_reducible refine IsW.run ?_); (repeat (first | walk_at "ev" | simp only [wIt hq1, evA, evB, reduceCtorEq, Nat.reduceAdd, Nat.reduceLT, Nat.reduceLeDiff]))
  (try with_reducible refine IsW.run ?_); (repeat (first | walk_at "ev" | simp only [evA, evB, reduceCtorEq, Nat.reduceAdd, Nat.reduceLT, Nat.reduceLeDiff]))
  refine oks_forLJ (HA H r q w ps ns ws) ?_ ?_ (n := ps.length) (by lia)
    ⟨0, none, none, Nat.zero_add _, rfl, rfl, by simpa using hT.kp (ch := no) Kp.app (fun _ _ _ h => h), by simp [plc], hq1, Kp.app⟩
  · rintro src l H1 ⟨d, z, y, hd, rfl, rfl, h1, hp1, hq1, k1⟩
    obtain rfl : d = ps.length := hd
    refine ⟨nLe hq1 (List.getElem?_eq_none (Nat.le_of_eq (List.length_map _))), ?_⟩
    rw [List.take_length] at h1
    have el : fLen [.ref q] H1 = some (.int ((ps.length : Nat) : Int), H1) := len_ref hq1 (by simp) (by lia)
    have r1 := rng_down (n := ps.length) (by lia)
    (try with_reducible refine IsW.run ?_); (repeat (first | walk_at "ev" | simp only [el, subF, negF, r1, evA, evB, reduceCtorEq, Nat.reduceAdd, Nat.reduceLT, Nat.reduceLeDiff]))
    (try with_reducible refine IsW.run ?_); (repeat (first | walk_at "ev" | simp only [evA, evB, reduceCtorEq, Nat.reduceAdd, Nat.reduceLT, Nat.reduceLeDiff]))
    refine oks_forLJ (HB H r q w ps ns ws) ?_ ?_ (n := ps.length) (by lia)
      ⟨z, y, Nat.le_refl _, rfl, rfl, by rw [List.drop_of_length_le (by rw [wVs_len]; exact Nat.le_refl _)]; simpa using h1, hp1, hq1, k1⟩
    · rintro src l H2 ⟨_, y, _, rfl, rfl, h2, hp2, hq2, k2⟩
      refine ⟨rfl, ?_⟩
      (try with_reducible refine IsW.run ?_); (repeat (first | walk_at "ev" | simp only [evA, evB, reduceCtorEq, Nat.reduceAdd, Nat.reduceLT, Nat.reduceLeDiff]))
      rw [List.drop_zero] at h2
      exact h H2 h2 hp2 k2
    · rintro J mk k src l H2 ⟨z, y, hk, rfl, rfl, h2, hp2, hq2, k2⟩
      have hx : ps[k]? = some ps[k] := List.getElem?_eq_getElem (by lia)
      refine ⟨.int (k : Int), .rng ((k : Int) - 1) (k : Int) (-1), nx_down, Nat.lt_of_sub_eq_succ rfl, ?_⟩
      have i1 : item H2 (.ref H.length) (.int (k : Int)) = some (.int ((ns.length + k : Nat) : Int)) := by
        rw [item_n hp2 (by lia), plc_at (by lia)]
      have i2 : item H2 (.ref q) (.int (k : Int)) = some (pV ps[k]) := by
        rw [item_n hq2 (by lia), List.getElem?_map, hx]; rfl
      have o1 : opAdd (.tup [.int ((ns.length + k : Nat) : Int)]) (pV ps[k]) = some (wV (ns.length + k) ps[k]) := rfl
      have hlen : (ws ++ ((wVs ns.length ps).drop (k + 1)).reverse).length < 1000000 := by
        rw [List.length_append, List.length_reverse, List.length_drop, wVs_len]; lia
      (try with_reducible refine IsW.run ?_); (repeat (first | walk_at "ev" | simp only [h2.fw, ty_lst h2.wait, i1, i2, o1, ap_lst h2.wait hlen, pvN, evA, evB, reduceCtorEq, Nat.reduceAdd, Nat.reduceLT, Nat.reduceLeDiff]))
      exact mk (HB.next hx h2 hp2 hq2 k2 dq hrl)
  · rintro J mk k src l H1 ⟨d, z, y, hd, rfl, rfl, h1, hp1, hq1, k1⟩
    have hx : ps[d]? = some ps[d] := List.getElem?_eq_getElem (by lia)
    refine ⟨pV ps[d], .lst q (d + 1), nL hq1 (by rw [List.getElem?_map, hx]; rfl), Nat.lt_of_sub_eq_succ rfl, ?_⟩
    have hnl : (ns ++ (ps.take d).map fun p => goalV p.1).length = ns.length + d := by simp; lia
    have el : fLen [.ref (r + 2)] H1 = some (.int ((ns.length + d : Nat) : Int), H1) := len_ref h1.nodes hnl (by lia)
    have a1 := ap_lst (v := .int ((ns.length + d : Nat) : Int)) hp1 (by rw [plc_len]; lia)
    have t2 : TrAt (H1.set H.length (.lst (plc ns.length d ++ [.int ((ns.length + d : Nat) : Int)]))) r (ns ++ (ps.take d).map fun p => goalV p.1) ws := h1.kp (ch := on H.length) (Kp.set rfl) (fun p _ _ e => by have e : p = H.length := e; lia)
    have i2 : ∀ H, item H (pV ps[d]) (.int 0) = some ps[d].1 := fun _ => rfl
    have a2 := ap_lst (v := .tup [.str (Str.ofString "goal"), ps[d].1]) t2.nodes (by rw [hnl]; lia)
    (try with_reducible refine IsW.run ?_); (repeat (first | walk_at "ev" | simp only [h1.fn, ty_lst hp1, el, a1, pvN, t2.fn, ty_lst t2.nodes, i2, a2, evA, evB, reduceCtorEq, Nat.reduceAdd, Nat.reduceLT, Nat.reduceLeDiff]))
    exact mk (HA.next hx hd h1 hp1 hq1 k1 dq hrl hql t2)
inductive Nd (X : Type) where
  | goal (t : Tr X)
  | op (w : Nat) (ps : List Nat)
noncomputable def wd : Nat → Str
  | 0 => Str.ofString "and"
  | 1 => Str.ofString "or"
  | 2 => Str.ofString "then"
  | _ => Str.ofString "not"
section
variable {X : Type}
noncomputable def jn (f : Int) : List (Tr X) → Tr X
  | [] => .a 16
  | [t] => t
  | t :: r => .s (.n f) [t, jn f r]
theorem jn_1 {f : Int} : jn f ([] : List (Tr X)) = .a 16 := rfl
theorem jn_2 {f : Int} (t) : jn f [t] = (t : Tr X) := rfl
theorem jn_3 {f : Int} (t) (u) (r) : jn f (t :: u :: r) = (.s (.n f) [t, jn f (u :: r)] : Tr X) := rfl
noncomputable def comb : Nat → List (Tr X) → Tr X
  | 0, l => jn 1 l
  | 1, l => jn 2 l
  | 2, l => .s (.n 3) [l.headD (.a 0), (l.tail).headD (.a 0)]
  | _, l => .s (.n 4) [l.headD (.a 0)]
noncomputable def wf : Nat → Nat → Prop
  | 2, m => m = 2
  | 3, m => m = 1
  | w, m => w < 4 ∧ 1 ≤ m ∧ m < 2900
noncomputable def vals : Nat → List (Nd X) → List (Tr X)
  | _, [] => []
  | off, .goal t :: r => t :: vals (off + 1) r
  | off, .op w ps :: r => comb w (ps.map fun q => ((vals (off + 1) r)[q - (off + 1)]?).getD (.a 0)) :: vals (off + 1) r
theorem vals_1 (o) : vals o ([] : List (Nd X)) = [] := rfl
theorem vals_2 (off) (t) (r) : vals off (.goal t :: r : List (Nd X)) = t :: vals (off + 1) r := rfl
theorem vals_3 (off) (w) (ps) (r) : vals off (.op w ps :: r : List (Nd X)) = comb w (ps.map fun q => ((vals (off + 1) r)[q - (off + 1)]?).getD (.a 0)) :: vals (off + 1) r := rfl
theorem vals_len : ∀ {off : Nat} {l : List (Nd X)}, (vals off l).length = l.length
  | _, [] => rfl
  | off, .goal t :: r => by simp [vals_1, vals_2, vals_3, vals_len (l := r)]
  | off, .op w ps :: r => by simp [vals_1, vals_2, vals_3, vals_len (l := r)]
noncomputable def OpIn (p n : Nat) : Nd X → Prop
  | .goal _ => True
  | .op w ps => wf w ps.length ∧ ∀ q ∈ ps, p < q ∧ q < n
theorem jn_snoc {f : Int} {ρ : Fu → Int} {ι : X → Int} (hf : ρ (.n f) = f) {t : Tr X} : ∀ {l : List (Tr X)}, enc ρ ι (jn f (l ++ [t])) = rs f (encs ρ ι l) (enc ρ ι t)
  | [] => rfl
  | [u] => by
    show enc ρ ι (.s (.n f) [u, t]) = _
    simp only [enc_1, enc_2, enc_3, enc_4, encs_1, encs_2, rs_cons, rs_nil, hf]
  | u :: w :: r => by
    have ih := jn_snoc (ι := ι) (t := t) hf (l := w :: r)
    show enc ρ ι (.s (.n f) [u, jn f ((w :: r) ++ [t])]) = _
    simp only [enc_1, enc_2, enc_3, enc_4, encs_1, encs_2, rs_cons, hf, ih]
theorem jn_kin {S : Sy} {f : Int} : ∀ {l : List (Tr X)}, KIns S l → KIn S (jn f l)
  | [], _ => trivial
  | [t], h => h.1
  | t :: u :: r, h => ⟨trivial, h.1, jn_kin (l := u :: r) h.2, trivial⟩
theorem KIns.mem {S : Sy} : ∀ {l : List (Tr X)}, KIns S l ↔ ∀ t ∈ l, KIn S t
  | [] => by simp [KIns_1, KIns_2]
  | t :: r => by simp [KIns_1, KIns_2, KIns.mem (l := r)]
theorem comb_kin {S : Sy} {w : Nat} {l : List (Tr X)} (h : KIns S l) : KIn S (comb w l) := by
  have hd : ∀ {l : List (Tr X)}, KIns S l → KIn S (l.headD (.a 0)) := fun {l} h => by cases l with | nil => trivial | cons t r => exact h.1
  have tl : ∀ {l : List (Tr X)}, KIns S l → KIns S l.tail := fun {l} h => by cases l with | nil => trivial | cons t r => exact h.2
  match w with
  | 0 => exact jn_kin h
  | 1 => exact jn_kin h
  | 2 => exact ⟨trivial, hd h, hd (tl h), trivial⟩
  | w + 3 => exact ⟨trivial, hd h, trivial⟩
end
noncomputable def NdR {X : Type} (S : Sy) (ι : X → Int) (H : Hp) (lo : Nat) (v : SV) : Nd X → Prop
  | .goal t => v = goalV (enc (res S) ι t) ∧ KIn S t
  | .op w ps => ∃ q, v = .tup [.str (wd w), .ref q] ∧ lo < q ∧ H[q]? = some (.lst (ps.map fun (p : Nat) => .int (p : Int)))
structure NR {X : Type} (S : Sy) (ι : X → Int) (H : Hp) (lo : Nat) (ns : List SV) (nodes : List (Nd X)) : Prop where
  len : ns.length = nodes.length
  at' : ∀ (p : Nat) (nd : Nd X), nodes[p]? = some nd → ∃ v, ns[p]? = some v ∧ NdR S ι H lo v nd
theorem NdR.kp {X : Type} {S : Sy} {ι : X → Int} {H H' : Hp} {lo : Nat} {v : SV} {nd : Nd X} {ch : Nat → Prop} (h : NdR S ι H lo v nd) (k : Kp ch H H') (o : ∀ p, p < H.length → lo < p → ¬ ch p) : NdR S ι H' lo v nd := by
  cases nd with
  | goal t => exact h
  | op w ps => obtain ⟨q, a, b, e⟩ := h; exact ⟨q, a, b, k.keep _ _ e (o q (at_lt e) b)⟩
theorem NR.kp {X : Type} {S : Sy} {ι : X → Int} {H H' : Hp} {lo : Nat} {ns : List SV} {nodes : List (Nd X)} {ch : Nat → Prop} (h : NR S ι H lo ns nodes) (k : Kp ch H H') (o : ∀ p, p < H.length → lo < p → ¬ ch p) : NR S ι H' lo ns nodes :=
  ⟨h.len, fun p nd e => let ⟨v, a, b⟩ := h.at' p nd e; ⟨v, a, b.kp k o⟩⟩
theorem NdR.le {X : Type} {S S' : Sy} {ι : X → Int} {H : Hp} {lo : Nat} {v : SV} {nd : Nd X} (h : NdR S ι H lo v nd) (l : S.Le S') : NdR S' ι H lo v nd := by
  cases nd with
  | goal t => have := KIn.le l ι h.2; exact ⟨by rw [h.1, this.2], this.1⟩
  | op w ps => exact h
theorem NR.le {X : Type} {S S' : Sy} {ι : X → Int} {H : Hp} {lo : Nat} {ns : List SV} {nodes : List (Nd X)} (h : NR S ι H lo ns nodes) (l : S.Le S') : NR S' ι H lo ns nodes :=
  ⟨h.len, fun p nd e => let ⟨v, a, b⟩ := h.at' p nd e; ⟨v, a, b.le l⟩⟩
theorem vals_kin {X : Type} {S : Sy} : ∀ {off : Nat} {l : List (Nd X)}, (∀ t, Nd.goal t ∈ l → KIn S t) → KIns S (vals off l)
  | _, [], _ => trivial
  | off, .goal t :: r, h => ⟨h t (by simp), vals_kin fun t ht => h t (by simp [ht])⟩
  | off, .op w ps :: r, h => by
    have ih := vals_kin (off := off + 1) (l := r) fun t ht => h t (by simp [ht])
    refine ⟨comb_kin (KIns.mem.mpr fun t ht => ?_), ih⟩
    obtain ⟨q, _, rfl⟩ := List.mem_map.mp ht
    cases e : (vals (off + 1) r)[q - (off + 1)]? with
    | none => trivial
    | some t => exact KIns.mem.mp ih t (List.mem_of_getElem? e)
theorem ps_of {X : Type} {ρ : Fu → Int} {ι : X → Int} {l : List (Tr X)} : encs ρ ι l = l.map (enc ρ ι) := encs_map ρ ι l
theorem rep_set {α : Type} {a e : α} {k : Nat} {L : List α} : (List.replicate (k + 1) a ++ L).set k e = List.replicate k a ++ e :: L := by
  rw [List.replicate_succ', List.append_assoc, List.set_append_right _ _ (by simp)]
  simp
theorem setL_ok {H : Hp} {g k : Nat} {xs : List SV} {e : SV} (hg : H[g]? = some (.lst xs)) (hk : k < xs.length) (hl : xs.length < 1000000) : setIt H e (.ref g) (.int (k : Int)) = some (H.set g (.lst (xs.set k e))) := by
  rw [wSetL hg ⟨by lia, by lia, by lia⟩, Int.toNat_natCast]
theorem cw {H : Hp} {a b : Str} : cmpSS H (.str a) (.str b) = some (a == b) := rfl
theorem fpop {H : Hp} {p : Nat} {xs : List SV} {v : SV} (hp : H[p]? = some (.lst (xs ++ [v]))) (hl : xs.length + 1 < 1000000) : fPop [.ref p] H = some (v, H.set p (.lst xs)) := wPop hp (by simpa using hl)
theorem tr_lst {H : Hp} {p : Nat} {xs : List SV} (hp : H[p]? = some (.lst xs)) (hl : xs.length < 1000000) : truth H (.ref p) = some (!xs.isEmpty) := by
  exact wTr hp hl
theorem g_goal : (Str.ofString "goal" == Str.ofString "goal") = true := rfl
theorem w0 : wd 0 = Str.ofString "and" := rfl
theorem w1 : wd 1 = Str.ofString "or" := rfl
theorem w2 : wd 2 = Str.ofString "then" := rfl
theorem w3 : wd 3 = Str.ofString "not" := rfl
theorem c01 : (Str.ofString "and" == Str.ofString "goal") = false := rfl
theorem c02 : (Str.ofString "and" == Str.ofString "and") = true := rfl
theorem c11 : (Str.ofString "or" == Str.ofString "goal") = false := rfl
theorem c12 : (Str.ofString "or" == Str.ofString "and") = false := rfl
theorem c13 : (Str.ofString "or" == Str.ofString "then") = false := rfl
theorem c14 : (Str.ofString "or" == Str.ofString "not") = false := rfl
theorem c21 : (Str.ofString "then" == Str.ofString "goal") = false := rfl
theorem c22 : (Str.ofString "then" == Str.ofString "and") = false := rfl
theorem c23 : (Str.ofString "then" == Str.ofString "then") = true := rfl
theorem c31 : (Str.ofString "not" == Str.ofString "goal") = false := rfl
theorem c32 : (Str.ofString "not" == Str.ofString "and") = false := rfl
theorem c33 : (Str.ofString "not" == Str.ofString "then") = false := rfl
theorem c34 : (Str.ofString "not" == Str.ofString "not") = true := rfl
theorem wd_ng : ∀ {w : Nat}, (wd w == Str.ofString "goal") = false
  | 0 => rfl
  | 1 => rfl
  | 2 => rfl
  | _ + 3 => rfl
theorem wf_len : ∀ {w m : Nat}, wf w m → 1 ≤ m ∧ m < 2900
  | 0, _, h => h.2
  | 1, _, h => h.2
  | 2, _, h => by cases (show _ = 2 from h); exact ⟨Nat.le_of_ble_eq_true rfl, Nat.le_of_ble_eq_true rfl⟩
  | 3, _, h => by cases (show _ = 1 from h); exact ⟨Nat.le_of_ble_eq_true rfl, Nat.le_of_ble_eq_true rfl⟩
  | _ + 4, _, h => h.2
theorem wf_lt : ∀ {w m : Nat}, wf w m → w = 0 ∨ w = 1 ∨ w = 2 ∨ w = 3
  | 0, _, h => by simp
  | 1, _, h => by simp
  | 2, _, h => by simp
  | 3, _, h => by simp
  | _ + 4, _, h => absurd h.1 (Nat.not_lt_of_le (Nat.le_add_left _ _))
theorem snoc_of {α : Type} {l : List α} (h : 0 < l.length) : ∃ m z, l = m ++ [z] := ⟨l.dropLast, l.getLast (by intro e; subst e; simp at h), (List.dropLast_concat_getLast _).symm⟩
theorem d00 : (wd 0 == Str.ofString "and") = true := rfl
theorem d10 : (wd 1 == Str.ofString "and") = false := rfl
theorem d12 : (wd 1 == Str.ofString "then") = false := rfl
theorem d13 : (wd 1 == Str.ofString "not") = false := rfl
theorem d20 : (wd 2 == Str.ofString "and") = false := rfl
theorem d22 : (wd 2 == Str.ofString "then") = true := rfl
theorem d30 : (wd 3 == Str.ofString "and") = false := rfl
theorem d32 : (wd 3 == Str.ofString "then") = false := rfl
theorem d33 : (wd 3 == Str.ofString "not") = true := rfl
noncomputable def tsf {X : Type} (k : Nat) (nodes : List (Nd X)) (q : Nat) : Tr X := ((vals (k + 1) (nodes.drop (k + 1)))[q - (k + 1)]?).getD (.a 0)
section
variable {X : Type} {S : Sy} {ι : X → Int} {H : Hp} {r g k : Nat} {ns ws : List SV} {nodes : List (Nd X)}
inductive GJ (S : Sy) (ι : X → Int) (H : Hp) (r g : Nat) (ns ws : List SV) (nodes : List (Nd X)) (k : Nat) (src : Src) (l : Loc) (H' : Hp) : Prop
  | mk (z2 z3 z4 z5 z6 : Option SV) (hk : k ≤ nodes.length) (es : src = .rng ((k : Int) - 1) (k : Int) (-1)) (el : l = [some (.ref (r + 1)), some (.ref g), z2, z3, z4, z5, z6]) (T : TrAt H' r ns ws) (N : NR S ι H' (r + 3) ns nodes)
    (hg : H'[g]? = some (.lst (List.replicate k .none ++ encs (res S) ι (vals k (nodes.drop k))))) (kp : Kp no H H') (gl : g < H'.length)
theorem NR.onSet {H2 : Hp} {so : SO} (hR : NR S ι H (r + 3) ns nodes) (hgH : H.length = g) (h2 : NR S ι H2 (r + 3) ns nodes) : NR S ι (H2.set g so) (r + 3) ns nodes := by
  have kset : Kp (on g) H2 (H2.set g so) := Kp.set rfl
  refine ⟨h2.len, fun p nd' e' => ?_⟩
  obtain ⟨v', a', b'⟩ := h2.at' p nd' e'
  refine ⟨v', a', ?_⟩
  cases nd' with
  | goal t => exact b'
  | op w ps =>
    obtain ⟨q, b1, b2, b3⟩ := b'
    obtain ⟨v0, a0, b0⟩ := hR.at' p _ e'
    obtain ⟨q0, c1, c2, c3⟩ := b0
    first | exact sN a' a0 | exact sN a0 a' | (rw [a'] at a0; cases a0)
    first | exact sN b1 c1 | exact sN c1 b1 | (rw [b1] at c1; cases c1)
    have hq := at_lt c3
    exact ⟨q, b1, b2, kset.keep _ _ b3 (fun h => by have h : q = g := h; lia)⟩
theorem goal_close {H1 H2 : Hp} (hR : NR S ι H (r + 3) ns nodes) (hgH : H.length = g) (hrl : r + 3 < g) (h1 : TrAt H1 r ns ws) (h2 : NR S ι H1 (r + 3) ns nodes) (h3 : H1[g]? = some (.lst (List.replicate (k + 1) .none ++ encs (res S) ι (vals (k + 1) (nodes.drop (k + 1)))))) (k3 : Kp no H H1) (g3 : g < H1.length) (hk : k + 1 ≤ nodes.length) (hn : nodes.length < 2900)
    {e : Tr X} (ev : vals k (nodes.drop k) = e :: vals (k + 1) (nodes.drop (k + 1))) (kk : Kp no H1 H2) (z3 z4 z5 z6 : Option SV) :
    ∃ H3, setIt H2 (enc (res S) ι e) (.ref g) (.int (k : Int)) = some H3 ∧ GJ S ι H r g ns ws nodes k (.rng ((k : Int) - 1) (k : Int) (-1)) [some (.ref (r + 1)), some (.ref g), some (.int (k : Int)), z3, z4, z5, z6] H3 := by
  have hg2 := kk.keep _ _ h3 (fun h => h)
  have hel : (encs (res S) ι (vals (k + 1) (nodes.drop (k + 1)))).length = nodes.length - (k + 1) := by rw [encs_len, vals_len, List.length_drop]
  have kset : Kp (on g) H2 (H2.set g (.lst ((List.replicate (k + 1) SV.none ++ encs (res S) ι (vals (k + 1) (nodes.drop (k + 1)))).set k (enc (res S) ι e)))) := Kp.set rfl
  refine ⟨_, setL_ok hg2 (by rw [List.length_append, List.length_replicate]; exact Nat.lt_of_lt_of_le (Nat.lt_succ_self k) (Nat.le_add_right _ _)) (by rw [List.length_append, List.length_replicate, hel, Nat.add_sub_cancel' hk]; exact ltb hn rfl), _, z3, z4, z5, z6, by lia, rfl, rfl, ?_, hR.onSet hgH (h2.kp kk fun _ _ _ h => h), ?_, ?_, ?_⟩
  · exact (h1.kp kk fun _ _ _ h => h).kp kset (fun p h1 h2 h => by have h : p = g := h; lia)
  · rw [set_at hg2, rep_set, ev]; rfl
  · exact (k3.trans kk (fun _ _ h => h) (fun _ _ h => h)).trans kset (fun _ _ h => h) (fun p hp h => by have h : p = g := h; lia)
  · simp; have := kk.len; lia
inductive GC (S : Sy) (ι : X → Int) (H1 : Hp) (q k : Nat) (nodes : List (Nd X)) (ps : List Nat) (n : Nat) (src : Src) (acc : List SV) (H' : Hp) : Prop
  | mk (p1 p2 : List Nat) (eH : H1 = H') (e : p1 ++ p2 = ps) (hn : n = p2.length) (es : src = .lst q p1.length) (ea : acc = encs (res S) ι (p1.map (tsf k nodes)))
theorem goal_item {p : Nat} (h3 : H[g]? = some (.lst (List.replicate (k + 1) .none ++ encs (res S) ι (vals (k + 1) (nodes.drop (k + 1)))))) (hp : k < p ∧ p < nodes.length) (hn : nodes.length < 2900) : item H (.ref g) (.int (p : Int)) = some (enc (res S) ι (tsf k nodes p)) := by
  rw [item_n h3 (ltb (Nat.lt_trans hp.2 hn) rfl), List.getElem?_append_right (by rw [List.length_replicate]; exact hp.1), List.length_replicate, encs_map, List.getElem?_map]
  have hh : p - (k + 1) < (vals (k + 1) (nodes.drop (k + 1))).length := by rw [vals_len, List.length_drop]; exact Nat.sub_lt_sub_right hp.1 hp.2
  simp only [tsf, List.getElem?_eq_getElem hh, Option.map_some, Option.getD_some]
inductive GW (S : Sy) (ι : X → Int) (H' : Hp) (r g k q : Nat) (l : List (Tr X)) (z : Tr X) (n : Nat) (l' : Loc) (H2 : Hp) : Prop
  | mk (l1 l2 : List (Tr X)) (hl : l1 ++ l2 = l) (hn : n = l1.length) (eH : H2 = H' ++ [.lst (encs (res S) ι l1)]) (el : l' = [some (.ref (r + 1)), some (.ref g), some (.int (k : Int)), some (.str (wd 1)), some (.ref q), some (.ref H'.length), some (enc (res S) ι (jn 2 (l2 ++ [z])))])
end
theorem sl34 {a b c d e f g : Option SV} {x y : SV} : setLs [a, b, c, d, e, f, g] [3, 4] [x, y] = some [a, b, c, some x, some y, f, g] := rfl
theorem fr1 {a b c d e f : Option SV} {x : SV} : frees [a, some x, b, c, d, e, f] [1] = some [some x] := rfl
theorem sp_goal {X : Type} {S : Sy} {ι : X → Int} {H : Hp} {r : Nat} {ns ws : List SV} {nodes : List (Nd X)} {Q : SV → Hp → Prop} (hT : TrAt H r ns ws) (hR : NR S ι H (r + 3) ns nodes) (ok : ∀ p nd, nodes[p]? = some nd → OpIn p nodes.length nd) (hne : 0 < nodes.length) (hn : nodes.length < 2900)
    (h : ∀ H', Kp no H H' → Q (enc (res S) ι ((vals 0 nodes).headD (.a 0))) H') : Ok (F_GrammarTree_goal [.ref (r + 1)] H) Q := by
  have el : fLen [.ref (r + 2)] H = some (.int (nodes.length : Int), H) := len_ref hT.nodes hR.len (by lia)
  have er : repN (.int (nodes.length : Int)) H = some (.ref H.length, H ++ [.lst (List.replicate nodes.length .none)]) := by
    simp only [repN]
    rw [if_pos (by lia), Int.toNat_natCast]
  have t1 : TrAt (H ++ [.lst (List.replicate nodes.length .none)]) r ns ws := hT.kp (ch := no) Kp.app (fun _ _ _ h => h)
  have el1 : fLen [.ref (r + 2)] (H ++ [.lst (List.replicate nodes.length .none)]) = some (.int (nodes.length : Int), H ++ [.lst (List.replicate nodes.length .none)]) := len_ref t1.nodes hR.len (by lia)
  have r1 := rng_down (n := nodes.length) (by lia)
  have hrl := hT.lt
  unfold F_GrammarTree_goal d_GrammarTree_goal
  (try with_reducible refine IsW.run ?_); (repeat (first | walk_at "ev" | simp only [hT.fn, el, evA, evB, reduceCtorEq, Nat.reduceAdd, Nat.reduceLT, Nat.reduceLeDiff]))
  rw [er]
  (try with_reducible refine IsW.run ?_); (repeat (first | walk_at "ev" | simp only [t1.fn, el1, subF, negF, r1, evA, evB, reduceCtorEq, Nat.reduceAdd, Nat.reduceLT, Nat.reduceLeDiff]))
  (try with_reducible refine IsW.run ?_); (repeat (first | walk_at "ev" | simp only [evA, evB, reduceCtorEq, Nat.reduceAdd, Nat.reduceLT, Nat.reduceLeDiff]))
  refine oks_forLJ (GJ S ι H r H.length ns ws nodes) ?_ ?_ (n := nodes.length) (by lia)
    ⟨none, none, none, none, none, Nat.le_refl _, rfl, rfl, t1, hR.kp (ch := no) Kp.app (fun _ _ _ h => h), by rw [List.drop_length]; simp [vals_1, vals_2, vals_3, encs_1, encs_2], Kp.app, by simp⟩
  · rintro src l H' ⟨z2, z3, z4, z5, z6, _, rfl, rfl, h1, h2, h3, k3, _⟩
    refine ⟨rfl, ?_⟩
    have e1 : item H' (.ref H.length) (.int 0) = some (enc (res S) ι ((vals 0 nodes).headD (.a 0))) := by
      rw [item_l h3 rfl]
      simp only [List.replicate_zero, List.nil_append, List.drop_zero, Int.toNat_zero]
      have := vals_len (off := 0) (l := nodes)
      cases hv : vals 0 nodes with
      | nil => rw [hv] at this; simp at this; lia
      | cons t r => simp [encs_1, encs_2]
    (try with_reducible refine IsW.run ?_); (repeat (first | walk_at "ev" | simp only [e1, evA, evB, reduceCtorEq, Nat.reduceAdd, Nat.reduceLT, Nat.reduceLeDiff]))
    exact h H' k3
  · rintro J mk k src l H1 ⟨z2, z3, z4, z5, z6, hk, rfl, rfl, h1, h2, h3, k3, g3⟩
    refine ⟨.int (k : Int), .rng ((k : Int) - 1) (k : Int) (-1), nx_down, Nat.lt_of_sub_eq_succ rfl, ?_⟩
    obtain ⟨nd, hx⟩ : ∃ nd, nodes[k]? = some nd := ⟨_, List.getElem?_eq_getElem (by lia)⟩
    have hok := ok k _ hx
    obtain ⟨v, hv, hnd⟩ := h2.at' k _ hx
    have hdrop := drop_at hx
    have i1 : item H1 (.ref (r + 2)) (.int (k : Int)) = some v := by
      rw [item_n h1.nodes (by lia), hv]
    have close := fun {H2 : Hp} {e : Tr X} ev kk => goal_close (H2 := H2) (e := e) hR rfl hrl h1 h2 h3 k3 g3 hk hn ev kk
    cases nd with
    | goal t =>
      obtain ⟨rfl, hkin⟩ := hnd
      have ev : vals k (nodes.drop k) = t :: vals (k + 1) (nodes.drop (k + 1)) := by rw [hdrop]; rfl
      (try with_reducible refine IsW.run ?_); (repeat (first | walk_at "ev" | simp only [h1.fn, i1, goalV, sl34, cw, g_goal, evA, evB, reduceCtorEq, Nat.reduceAdd, Nat.reduceLT, Nat.reduceLeDiff]))
      refine boC (close ev Kp.refl (some (.str (Str.ofString "goal"))) (some (enc (res S) ι t)) z5 z6) fun H3 J3 => ?_
      (try with_reducible refine IsW.run ?_); (repeat (first | walk_at "ev" | simp only [evA, evB, reduceCtorEq, Nat.reduceAdd, Nat.reduceLT, Nat.reduceLeDiff]))
      exact mk J3
    | op w ps =>
      obtain ⟨q, rfl, hq, hqv⟩ := hnd
      obtain ⟨hwf, hps⟩ := hok
      have hpl := wf_len hwf
      have ev : vals k (nodes.drop k) = comb w (ps.map (tsf k nodes)) :: vals (k + 1) (nodes.drop (k + 1)) := by rw [hdrop]; rfl
      have ei : iterS H1 (.ref q) = some (.lst q 0) := wIt hqv
      (try with_reducible refine IsW.run ?_); (repeat (first | walk_at "ev" | simp only [h1.fn, i1, sl34, cw, wd_ng, evA, evB, reduceCtorEq, Nat.reduceAdd, Nat.reduceLT, Nat.reduceLeDiff]))
      refine ok_comp ?_
      (try with_reducible refine IsW.run ?_); (repeat (first | walk_at "ev" | simp only [ei, fr1, evA, evB, reduceCtorEq, Nat.reduceAdd, Nat.reduceLT, Nat.reduceLeDiff]))
      refine ok_compLJ (GC S ι H1 q k nodes ps) ?_ ?_ (n := ps.length) (by lia) ⟨[], ps, rfl, rfl, rfl, rfl, rfl⟩
      · rintro src acc H' ⟨p1, p2, rfl, e, hn2, rfl, rfl⟩
        obtain rfl : p2 = [] := List.eq_nil_of_length_eq_zero hn2.symm
        rw [List.append_nil] at e; subst e
        refine ⟨nLe hqv (List.getElem?_eq_none (Nat.le_of_eq (List.length_map _))), ?_⟩
        generalize hts : p1.map (tsf k nodes) = ts at ev ⊢
        have hl : ts.length = p1.length := by rw [← hts]; simp
        have hr1 : (H1 ++ [SO.lst (encs (res S) ι ts)])[H1.length]? = some (.lst (encs (res S) ι ts)) := app_at
        clear hts
        have hwl := wf_lt hwf
        rcases hwl with rfl | rfl | rfl | rfl
        · obtain ⟨l, z, rfl⟩ := snoc_of (l := ts) (by lia)
          have hl2 : l.length < 2900 := by have := hl; simp at this; lia
          have c3 := close (H2 := H1 ++ [.lst (encs (res S) ι (l ++ [z]))]) ev Kp.app (some (.str (wd 0))) (some (.ref q)) (some (.ref H1.length)) z6
          rw [show enc (res S) ι (comb 0 (l ++ [z])) = _ from jn_snoc (f := 1) rfl, encs_app] at c3
          (try with_reducible refine IsW.run ?_); (repeat (first | walk_at "ev" | simp only [cw, d00, evA, evB, reduceCtorEq, Nat.reduceAdd, Nat.reduceLT, Nat.reduceLeDiff]))
          rw [encs_app] at hr1 ⊢
          refine sp_conjunction hr1 (by rw [encs_len]; exact hl2) ?_
          refine boC c3 fun H3 J3 => ?_
          (try with_reducible refine IsW.run ?_); (repeat (first | walk_at "ev" | simp only [evA, evB, reduceCtorEq, Nat.reduceAdd, Nat.reduceLT, Nat.reduceLeDiff]))
          exact mk J3
        · obtain ⟨l, z, rfl⟩ := snoc_of (l := ts) (by lia)
          have hl2 : l.length < 2900 := by have := hl; simp at this; lia
          rw [encs_app, show encs (res S) ι [z] = [enc (res S) ι z] from rfl] at hr1 ⊢
          have fp := fpop (v := enc (res S) ι z) hr1 (by rw [encs_len]; lia)
          (try with_reducible refine IsW.run ?_); (repeat (first | walk_at "ev" | simp only [cw, d10, d12, d13, ty_lst hr1, fp, app_set, evA, evB, reduceCtorEq, Nat.reduceAdd, Nat.reduceLT, Nat.reduceLeDiff]))
          (try with_reducible refine IsW.run ?_); (repeat (first | walk_at "ev" | simp only [evA, evB, reduceCtorEq, Nat.reduceAdd, Nat.reduceLT, Nat.reduceLeDiff]))
          refine oks_whileJ (GW S ι H1 r H.length k q l z) ?_ (n := l.length) (by lia) ⟨l, [], List.append_nil _, rfl, rfl, rfl⟩
          rintro J' mk' n l' H2 ⟨l1, l2, rfl, rfl, rfl, rfl⟩
          have htr := tr_lst (H := H1 ++ [.lst (encs (res S) ι l1)]) (p := H1.length) app_at (by rw [encs_len]; simp at hl2; lia)
          (try with_reducible refine IsW.run ?_); (repeat (first | walk_at "ev" | simp only [htr, evA, evB, reduceCtorEq, Nat.reduceAdd, Nat.reduceLT, Nat.reduceLeDiff]))
          rcases List.eq_nil_or_concat l1 with rfl | ⟨l3, y, rfl⟩
          · skip
            (try with_reducible refine IsW.run ?_); (repeat (first | walk_at "ev" | simp only [encs_1, encs_2, List.isEmpty_nil, Bool.not_true, evA, evB, reduceCtorEq, Nat.reduceAdd, Nat.reduceLT, Nat.reduceLeDiff]))
            refine boC (close (H2 := H1 ++ [.lst (encs (res S) ι [])]) ev Kp.app (some (.str (wd 1))) (some (.ref q)) (some (.ref H1.length)) (some (enc (res S) ι (jn 2 (l2 ++ [z]))))) fun H3 J3 => ?_
            (try with_reducible refine IsW.run ?_); (repeat (first | walk_at "ev" | simp only [evA, evB, reduceCtorEq, Nat.reduceAdd, Nat.reduceLT, Nat.reduceLeDiff]))
            exact mk J3
          · rw [List.concat_eq_append] at *
            have hr2 : (H1 ++ [SO.lst (encs (res S) ι (l3 ++ [y]))])[H1.length]? = some (.lst (encs (res S) ι l3 ++ [enc (res S) ι y])) := by rw [app_at, encs_app]; rfl
            have fp2 := fpop hr2 (by rw [encs_len]; simp at hl2; lia)
            have hemp : (encs (res S) ι (l3 ++ [y])).isEmpty = false := by rw [encs_app]; cases encs (res S) ι l3 <;> rfl
            (try with_reducible refine IsW.run ?_); (repeat (first | walk_at "ev" | simp only [hemp, Bool.not_false, ty_lst hr2, fp2, app_set, evA, evB, reduceCtorEq, Nat.reduceAdd, Nat.reduceLT, Nat.reduceLeDiff]))
            refine sp_struct ?_
            (try with_reducible refine IsW.run ?_); (repeat (first | walk_at "ev" | simp only [evA, evB, reduceCtorEq, Nat.reduceAdd, Nat.reduceLT, Nat.reduceLeDiff]))
            refine ⟨l3.length, by simp, mk' ⟨l3, y :: l2, by simp, rfl, rfl, ?_⟩⟩
            cases l2 with
            | nil => rfl
            | cons a b => rfl
        · have hwf2 : p1.length = 2 := hwf
          obtain ⟨a, b, rfl⟩ : ∃ a b, ts = [a, b] := by
            match ts, hl.trans hwf2 with
            | [a, b], _ => exact ⟨a, b, rfl⟩
          have i0 : item (H1 ++ [SO.lst (encs (res S) ι [a, b])]) (.ref H1.length) (.int 0) = some (enc (res S) ι a) := by rw [item_l hr1 rfl]; rfl
          have i1 : item (H1 ++ [SO.lst (encs (res S) ι [a, b])]) (.ref H1.length) (.int 1) = some (enc (res S) ι b) := by rw [item_l hr1 rfl]; rfl
          (try with_reducible refine IsW.run ?_); (repeat (first | walk_at "ev" | simp only [cw, d20, d22, i0, i1, evA, evB, reduceCtorEq, Nat.reduceAdd, Nat.reduceLT, Nat.reduceLeDiff]))
          refine sp_struct ?_
          refine boC (close (H2 := H1 ++ [.lst (encs (res S) ι [a, b])]) ev Kp.app (some (.str (wd 2))) (some (.ref q)) (some (.ref H1.length)) z6) fun H3 J3 => ?_
          (try with_reducible refine IsW.run ?_); (repeat (first | walk_at "ev" | simp only [evA, evB, reduceCtorEq, Nat.reduceAdd, Nat.reduceLT, Nat.reduceLeDiff]))
          exact mk J3
        · have hwf2 : p1.length = 1 := hwf
          obtain ⟨a, rfl⟩ : ∃ a, ts = [a] := by
            match ts, hl.trans hwf2 with
            | [a], _ => exact ⟨a, rfl⟩
          have i0 : item (H1 ++ [SO.lst (encs (res S) ι [a])]) (.ref H1.length) (.int 0) = some (enc (res S) ι a) := by rw [item_l hr1 rfl]; rfl
          (try with_reducible refine IsW.run ?_); (repeat (first | walk_at "ev" | simp only [cw, d30, d32, d33, i0, evA, evB, reduceCtorEq, Nat.reduceAdd, Nat.reduceLT, Nat.reduceLeDiff]))
          refine sp_struct ?_
          refine boC (close (H2 := H1 ++ [.lst (encs (res S) ι [a])]) ev Kp.app (some (.str (wd 3))) (some (.ref q)) (some (.ref H1.length)) z6) fun H3 J3 => ?_
          (try with_reducible refine IsW.run ?_); (repeat (first | walk_at "ev" | simp only [evA, evB, reduceCtorEq, Nat.reduceAdd, Nat.reduceLT, Nat.reduceLeDiff]))
          exact mk J3
      · rintro J' mk' n src acc H' ⟨p1, p2, rfl, e, hn2, rfl, rfl⟩
        cases p2 with
        | nil => simp at hn2
        | cons p p2 =>
          refine ⟨.int (p : Int), .lst q (p1.length + 1), nL hqv (by simp [← e]), ?_⟩
          have ip := goal_item h3 (hps p (by simp [← e])) hn
          have hpp : p1.length < 1000000 := by have := congrArg List.length e; simp at this; lia
          (try with_reducible refine IsW.run ?_); (repeat (first | walk_at "ev" | simp only [dTrue, ip, encs_len, List.length_map, hpp, evA, evB, reduceCtorEq, Nat.reduceAdd, Nat.reduceLT, Nat.reduceLeDiff]))
          exact mk' ⟨p1 ++ [p], p2, rfl, by simpa using e, by simpa using hn2, by simp, by simp [encs_map]⟩
section
variable {X : Type}
noncomputable abbrev T3 (X : Type) := Bd X × X × X
noncomputable def eT (S : Sy) (ι : X → Int) (t : T3 X) : P3 := (enc (res S) ι (bt t.1), enc (res S) ι (.v t.2.1), enc (res S) ι (.v t.2.2))
noncomputable def idx : Nat → List (T3 X) → List (Nat × T3 X)
  | _, [] => []
  | k, t :: r => (k, t) :: idx (k + 1) r
theorem idx_1 (k) : idx k ([] : List (T3 X)) = [] := rfl
theorem idx_2 (k) (t) (r) : idx k (t :: r : List (T3 X)) = (k, t) :: idx (k + 1) r := rfl
noncomputable def eW (S : Sy) (ι : X → Int) (w : Nat × T3 X) : SV := wV w.1 (eT S ι w.2)
theorem wVs_idx {S : Sy} {ι : X → Int} : ∀ {k : Nat} {l : List (T3 X)}, wVs k (l.map (eT S ι)) = (idx k l).map (eW S ι)
  | _, [] => rfl
  | k, t :: r => by simp only [List.map_cons, wVs_1, wVs_2, idx_1, idx_2, wVs_idx (l := r)]; rfl
theorem idx_at : ∀ {k : Nat} {l : List (T3 X)} {w : Nat × T3 X}, w ∈ idx k l → k ≤ w.1 ∧ w.1 < k + l.length ∧ w.2 ∈ l
  | _, [], w, h => nomatch h
  | k, t :: r, w, h => by
    rcases List.mem_cons.mp h with rfl | h
    · exact ⟨Nat.le_refl _, Nat.lt_add_of_pos_right (Nat.succ_pos _), List.mem_cons_self ..⟩
    · have := idx_at h
      exact ⟨Nat.le_of_succ_le this.1, by rw [List.length_cons, ← Nat.add_assoc, Nat.add_right_comm]; exact this.2.1, List.mem_cons_of_mem _ this.2.2⟩
noncomputable def bsz : Bd X → Nat
  | .neg b => 1 + bsz b
  | .com a b => 1 + bsz a + bsz b
  | .sem a b => 1 + bsz a + bsz b
  | .arr a b => 1 + bsz a + bsz b
  | _ => 1
theorem bsz_1 (l) : bsz (.tx l : Bd X) = 1 := rfl
theorem bsz_2 (l) : bsz (.p l : Bd X) = 1 := rfl
theorem bsz_3 (x) : bsz (.v x : Bd X) = 1 := rfl
theorem bsz_4 : bsz (.cut : Bd X) = 1 := rfl
theorem bsz_5 (x) : bsz (.cur x : Bd X) = 1 := rfl
theorem bsz_6 (b) : bsz (.neg b : Bd X) = 1 + bsz b := rfl
theorem bsz_7 (a) (b) : bsz (.com a b : Bd X) = 1 + bsz a + bsz b := rfl
theorem bsz_8 (a) (b) : bsz (.sem a b : Bd X) = 1 + bsz a + bsz b := rfl
theorem bsz_9 (a) (b) : bsz (.arr a b : Bd X) = 1 + bsz a + bsz b := rfl
theorem bsz_pos : ∀ {b : Bd X}, 1 ≤ bsz b
  | .tx _ => Nat.le_refl _
  | .p _ => Nat.le_refl _
  | .v _ => Nat.le_refl _
  | .cut => Nat.le_refl _
  | .cur _ => Nat.le_refl _
  | .neg _ => by simp [bsz_1, bsz_2, bsz_3, bsz_4, bsz_5, bsz_6, bsz_7, bsz_8, bsz_9]
  | .com _ _ => by simp [bsz_1, bsz_2, bsz_3, bsz_4, bsz_5, bsz_6, bsz_7, bsz_8, bsz_9]; lia
  | .sem _ _ => by simp [bsz_1, bsz_2, bsz_3, bsz_4, bsz_5, bsz_6, bsz_7, bsz_8, bsz_9]; lia
  | .arr _ _ => by simp [bsz_1, bsz_2, bsz_3, bsz_4, bsz_5, bsz_6, bsz_7, bsz_8, bsz_9]; lia
noncomputable def BOk : Bd X → Prop
  | .neg b => BOk b
  | .com a b => BOk a ∧ BOk b
  | .sem a b => BOk a ∧ BOk b
  | .arr a b => BOk a ∧ BOk b
  | b => Leaf b
noncomputable def spC : Bd X → List (Bd X)
  | .com a b => a :: spC b
  | b => [b]
theorem spC_1 (l) : spC (.tx l : Bd X) = [.tx l] := rfl
theorem spC_2 (l) : spC (.p l : Bd X) = [.p l] := rfl
theorem spC_3 (x) : spC (.v x : Bd X) = [.v x] := rfl
theorem spC_4 : spC (.cut : Bd X) = [.cut] := rfl
theorem spC_5 (x) : spC (.cur x : Bd X) = [.cur x] := rfl
theorem spC_6 (b) : spC (.neg b : Bd X) = [.neg b] := rfl
theorem spC_7 (a) (b) : spC (.com a b : Bd X) = a :: spC b := rfl
theorem spC_8 (a) (b) : spC (.sem a b : Bd X) = [.sem a b] := rfl
theorem spC_9 (a) (b) : spC (.arr a b : Bd X) = [.arr a b] := rfl
noncomputable def spS : Bd X → List (Bd X)
  | .sem a b => a :: spS b
  | b => [b]
theorem spS_1 (l) : spS (.tx l : Bd X) = [.tx l] := rfl
theorem spS_2 (l) : spS (.p l : Bd X) = [.p l] := rfl
theorem spS_3 (x) : spS (.v x : Bd X) = [.v x] := rfl
theorem spS_4 : spS (.cut : Bd X) = [.cut] := rfl
theorem spS_5 (x) : spS (.cur x : Bd X) = [.cur x] := rfl
theorem spS_6 (b) : spS (.neg b : Bd X) = [.neg b] := rfl
theorem spS_7 (a) (b) : spS (.com a b : Bd X) = [.com a b] := rfl
theorem spS_8 (a) (b) : spS (.sem a b : Bd X) = a :: spS b := rfl
theorem spS_9 (a) (b) : spS (.arr a b : Bd X) = [.arr a b] := rfl
noncomputable def bss (l : List (Bd X)) : Nat := (l.map bsz).sum
theorem spC_sz : ∀ {b : Bd X}, bss (spC b) + (spC b).length = bsz b + 1
  | .com a b => by have := spC_sz (b := b); simp only [bss, spC_1, spC_2, spC_3, spC_4, spC_5, spC_6, spC_7, spC_8, spC_9, List.map_cons, List.sum_cons, List.length_cons, bsz_1, bsz_2, bsz_3, bsz_4, bsz_5, bsz_6, bsz_7, bsz_8, bsz_9] at this ⊢; lia
  | .tx _ => rfl
  | .p _ => rfl
  | .v _ => rfl
  | .cut => rfl
  | .cur _ => rfl
  | .neg _ => by simp [bss, spC_1, spC_2, spC_3, spC_4, spC_5, spC_6, spC_7, spC_8, spC_9, bsz_1, bsz_2, bsz_3, bsz_4, bsz_5, bsz_6, bsz_7, bsz_8, bsz_9]
  | .sem _ _ => by simp [bss, spC_1, spC_2, spC_3, spC_4, spC_5, spC_6, spC_7, spC_8, spC_9, bsz_1, bsz_2, bsz_3, bsz_4, bsz_5, bsz_6, bsz_7, bsz_8, bsz_9]
  | .arr _ _ => by simp [bss, spC_1, spC_2, spC_3, spC_4, spC_5, spC_6, spC_7, spC_8, spC_9, bsz_1, bsz_2, bsz_3, bsz_4, bsz_5, bsz_6, bsz_7, bsz_8, bsz_9]
theorem spS_sz : ∀ {b : Bd X}, bss (spS b) + (spS b).length = bsz b + 1
  | .sem a b => by have := spS_sz (b := b); simp only [bss, spS_1, spS_2, spS_3, spS_4, spS_5, spS_6, spS_7, spS_8, spS_9, List.map_cons, List.sum_cons, List.length_cons, bsz_1, bsz_2, bsz_3, bsz_4, bsz_5, bsz_6, bsz_7, bsz_8, bsz_9] at this ⊢; lia
  | .tx _ => rfl
  | .p _ => rfl
  | .v _ => rfl
  | .cut => rfl
  | .cur _ => rfl
  | .neg _ => by simp [bss, spS_1, spS_2, spS_3, spS_4, spS_5, spS_6, spS_7, spS_8, spS_9, bsz_1, bsz_2, bsz_3, bsz_4, bsz_5, bsz_6, bsz_7, bsz_8, bsz_9]
  | .com _ _ => by simp [bss, spS_1, spS_2, spS_3, spS_4, spS_5, spS_6, spS_7, spS_8, spS_9, bsz_1, bsz_2, bsz_3, bsz_4, bsz_5, bsz_6, bsz_7, bsz_8, bsz_9]
  | .arr _ _ => by simp [bss, spS_1, spS_2, spS_3, spS_4, spS_5, spS_6, spS_7, spS_8, spS_9, bsz_1, bsz_2, bsz_3, bsz_4, bsz_5, bsz_6, bsz_7, bsz_8, bsz_9]
noncomputable def BdG (S : Sy) (b : Bd X) : Prop := BOk b ∧ KIn S (bt b)
theorem spC_all {S : Sy} : ∀ {b : Bd X}, BdG S b → ∀ c ∈ spC b, BdG S c
  | .com a b, h, c, hc => by
    simp only [spC_1, spC_2, spC_3, spC_4, spC_5, spC_6, spC_7, spC_8, spC_9, List.mem_cons] at hc
    rcases hc with rfl | hc
    · exact ⟨h.1.1, h.2.2.1⟩
    · exact spC_all (b := b) ⟨h.1.2, h.2.2.2.1⟩ c hc
  | .tx _, h, c, hc => by simp only [spC_1, spC_2, spC_3, spC_4, spC_5, spC_6, spC_7, spC_8, spC_9, List.mem_singleton] at hc; subst hc; exact h
  | .p _, h, c, hc => by simp only [spC_1, spC_2, spC_3, spC_4, spC_5, spC_6, spC_7, spC_8, spC_9, List.mem_singleton] at hc; subst hc; exact h
  | .v _, h, c, hc => by simp only [spC_1, spC_2, spC_3, spC_4, spC_5, spC_6, spC_7, spC_8, spC_9, List.mem_singleton] at hc; subst hc; exact h
  | .cut, h, c, hc => by simp only [spC_1, spC_2, spC_3, spC_4, spC_5, spC_6, spC_7, spC_8, spC_9, List.mem_singleton] at hc; subst hc; exact h
  | .cur _, h, c, hc => by simp only [spC_1, spC_2, spC_3, spC_4, spC_5, spC_6, spC_7, spC_8, spC_9, List.mem_singleton] at hc; subst hc; exact h
  | .neg _, h, c, hc => by simp only [spC_1, spC_2, spC_3, spC_4, spC_5, spC_6, spC_7, spC_8, spC_9, List.mem_singleton] at hc; subst hc; exact h
  | .sem _ _, h, c, hc => by simp only [spC_1, spC_2, spC_3, spC_4, spC_5, spC_6, spC_7, spC_8, spC_9, List.mem_singleton] at hc; subst hc; exact h
  | .arr _ _, h, c, hc => by simp only [spC_1, spC_2, spC_3, spC_4, spC_5, spC_6, spC_7, spC_8, spC_9, List.mem_singleton] at hc; subst hc; exact h
theorem spS_all {S : Sy} : ∀ {b : Bd X}, BdG S b → ∀ c ∈ spS b, BdG S c
  | .sem a b, h, c, hc => by
    simp only [spS_1, spS_2, spS_3, spS_4, spS_5, spS_6, spS_7, spS_8, spS_9, List.mem_cons] at hc
    rcases hc with rfl | hc
    · exact ⟨h.1.1, h.2.2.1⟩
    · exact spS_all (b := b) ⟨h.1.2, h.2.2.2.1⟩ c hc
  | .tx _, h, c, hc => by simp only [spS_1, spS_2, spS_3, spS_4, spS_5, spS_6, spS_7, spS_8, spS_9, List.mem_singleton] at hc; subst hc; exact h
  | .p _, h, c, hc => by simp only [spS_1, spS_2, spS_3, spS_4, spS_5, spS_6, spS_7, spS_8, spS_9, List.mem_singleton] at hc; subst hc; exact h
  | .v _, h, c, hc => by simp only [spS_1, spS_2, spS_3, spS_4, spS_5, spS_6, spS_7, spS_8, spS_9, List.mem_singleton] at hc; subst hc; exact h
  | .cut, h, c, hc => by simp only [spS_1, spS_2, spS_3, spS_4, spS_5, spS_6, spS_7, spS_8, spS_9, List.mem_singleton] at hc; subst hc; exact h
  | .cur _, h, c, hc => by simp only [spS_1, spS_2, spS_3, spS_4, spS_5, spS_6, spS_7, spS_8, spS_9, List.mem_singleton] at hc; subst hc; exact h
  | .neg _, h, c, hc => by simp only [spS_1, spS_2, spS_3, spS_4, spS_5, spS_6, spS_7, spS_8, spS_9, List.mem_singleton] at hc; subst hc; exact h
  | .com _ _, h, c, hc => by simp only [spS_1, spS_2, spS_3, spS_4, spS_5, spS_6, spS_7, spS_8, spS_9, List.mem_singleton] at hc; subst hc; exact h
  | .arr _ _, h, c, hc => by simp only [spS_1, spS_2, spS_3, spS_4, spS_5, spS_6, spS_7, spS_8, spS_9, List.mem_singleton] at hc; subst hc; exact h
noncomputable def top : Bd X → Option Fu
  | .tx [] => none
  | .tx _ => some (.n 0)
  | .p l => some (.p l.length)
  | .cur _ => some (.n 9)
  | .neg _ => some (.n 4)
  | .com _ _ => some (.n 1)
  | .sem _ _ => some (.n 2)
  | .arr _ _ => some (.n 3)
  | _ => none
theorem top_of : ∀ {b : Bd X} {f : Fu} {l : List (Tr X)}, bt b = .s f l → top b = some f
  | .tx [], _, _, h => by simp [bt_1, bt_2, bt_3, bt_4, bt_5, bt_6, bt_7, bt_8, bt_9, lsT] at h
  | .tx (a :: r), f, l, h => by simp only [bt_1, bt_2, bt_3, bt_4, bt_5, bt_6, bt_7, bt_8, bt_9, List.map_cons, lsT, List.foldr_cons, Tr.s.injEq] at h; rw [← h.1]; rfl
  | .p _, _, _, h => by simp only [bt_1, bt_2, bt_3, bt_4, bt_5, bt_6, bt_7, bt_8, bt_9, Tr.s.injEq] at h; rw [← h.1]; rfl
  | .v _, _, _, h => by simp [bt_1, bt_2, bt_3, bt_4, bt_5, bt_6, bt_7, bt_8, bt_9] at h
  | .cut, _, _, h => by simp [bt_1, bt_2, bt_3, bt_4, bt_5, bt_6, bt_7, bt_8, bt_9] at h
  | .cur _, _, _, h => by simp only [bt_1, bt_2, bt_3, bt_4, bt_5, bt_6, bt_7, bt_8, bt_9, Tr.s.injEq] at h; rw [← h.1]; rfl
  | .neg _, _, _, h => by simp only [bt_1, bt_2, bt_3, bt_4, bt_5, bt_6, bt_7, bt_8, bt_9, Tr.s.injEq] at h; rw [← h.1]; rfl
  | .com _ _, _, _, h => by simp only [bt_1, bt_2, bt_3, bt_4, bt_5, bt_6, bt_7, bt_8, bt_9, Tr.s.injEq] at h; rw [← h.1]; rfl
  | .sem _ _, _, _, h => by simp only [bt_1, bt_2, bt_3, bt_4, bt_5, bt_6, bt_7, bt_8, bt_9, Tr.s.injEq] at h; rw [← h.1]; rfl
  | .arr _ _, _, _, h => by simp only [bt_1, bt_2, bt_3, bt_4, bt_5, bt_6, bt_7, bt_8, bt_9, Tr.s.injEq] at h; rw [← h.1]; rfl
theorem oN {f : Fu} : none ≠ some f := nofun
theorem oP {n : Nat} {a : Int} : some (Fu.p n) ≠ some (Fu.n a) := nofun
theorem oF {a b : Int} (h : decide (a = b) = false) : some (Fu.n a) ≠ some (Fu.n b) := fun e => of_decide_eq_false h (Fu.n.inj (Option.some.inj e))
theorem spC_enc {ρ : Fu → Int} {ι : X → Int} (hf : ρ (.n 1) = 1) : ∀ {b : Bd X}, ∃ l z, spC b = l ++ [z] ∧ top z ≠ some (.n 1) ∧ enc ρ ι (bt b) = rs 1 (encs ρ ι (l.map bt)) (enc ρ ι (bt z))
  | .com a b => by
    obtain ⟨l, z, h1, h2, h3⟩ := spC_enc (ι := ι) hf (b := b)
    exact ⟨a :: l, z, congrArg (a :: ·) h1, h2, by simp only [bt_1, bt_2, bt_3, bt_4, bt_5, bt_6, bt_7, bt_8, bt_9, enc_1, enc_2, enc_3, enc_4, encs_1, encs_2, List.map_cons, rs_cons, hf, h3]⟩
  | .tx [] => ⟨[], _, rfl, oN, rfl⟩
  | .tx (_ :: _) => ⟨[], _, rfl, oF rfl, rfl⟩
  | .p _ => ⟨[], _, rfl, oP, rfl⟩
  | .v _ => ⟨[], _, rfl, oN, rfl⟩
  | .cut => ⟨[], _, rfl, oN, rfl⟩
  | .cur _ => ⟨[], _, rfl, oF rfl, rfl⟩
  | .neg _ => ⟨[], _, rfl, oF rfl, rfl⟩
  | .sem _ _ => ⟨[], _, rfl, oF rfl, rfl⟩
  | .arr _ _ => ⟨[], _, rfl, oF rfl, rfl⟩
theorem spS_enc {ρ : Fu → Int} {ι : X → Int} (hf : ρ (.n 2) = 2) : ∀ {b : Bd X}, ∃ l z, spS b = l ++ [z] ∧ top z ≠ some (.n 2) ∧ enc ρ ι (bt b) = rs 2 (encs ρ ι (l.map bt)) (enc ρ ι (bt z))
  | .sem a b => by
    obtain ⟨l, z, h1, h2, h3⟩ := spS_enc (ι := ι) hf (b := b)
    exact ⟨a :: l, z, congrArg (a :: ·) h1, h2, by simp only [bt_1, bt_2, bt_3, bt_4, bt_5, bt_6, bt_7, bt_8, bt_9, enc_1, enc_2, enc_3, enc_4, encs_1, encs_2, List.map_cons, rs_cons, hf, h3]⟩
  | .tx [] => ⟨[], _, rfl, oN, rfl⟩
  | .tx (_ :: _) => ⟨[], _, rfl, oF rfl, rfl⟩
  | .p _ => ⟨[], _, rfl, oP, rfl⟩
  | .v _ => ⟨[], _, rfl, oN, rfl⟩
  | .cut => ⟨[], _, rfl, oN, rfl⟩
  | .cur _ => ⟨[], _, rfl, oF rfl, rfl⟩
  | .neg _ => ⟨[], _, rfl, oF rfl, rfl⟩
  | .com _ _ => ⟨[], _, rfl, oF rfl, rfl⟩
  | .arr _ _ => ⟨[], _, rfl, oF rfl, rfl⟩
noncomputable def seg (new : Nat → X) : List (Bd X) → X → X → Nat → List (T3 X)
  | [], _, _, _ => []
  | [b], x, y, _ => [(b, x, y)]
  | b :: c :: r, x, y, i => (b, x, new i) :: seg new (c :: r) (new i) y (i + 1)
theorem seg_1 {new : Nat → X} (x) (y) (i) : seg new [] x y i = [] := rfl
theorem seg_2 {new : Nat → X} (b) (x) (y) (i) : seg new [b] x y i = [(b, x, y)] := rfl
theorem seg_3 {new : Nat → X} (b) (c) (r) (x) (y) (i) : seg new (b :: c :: r) x y i = (b, x, new i) :: seg new (c :: r) (new i) y (i + 1) := rfl
theorem seg_fst {new : Nat → X} : ∀ {l : List (Bd X)} {x y : X} {i : Nat}, (seg new l x y i).map (·.1) = l
  | [], _, _, _ => rfl
  | [b], _, _, _ => rfl
  | b :: c :: r, x, y, i => by simp only [seg_1, seg_2, seg_3, List.map_cons, seg_fst (l := c :: r)]
theorem seg_len {new : Nat → X} {l : List (Bd X)} {x y : X} {i : Nat} : (seg new l x y i).length = l.length := by
  have := congrArg List.length (seg_fst (new := new) (l := l) (x := x) (y := y) (i := i)); simpa using this
noncomputable def pls (L m : Nat) : List Nat := (List.range m).map (L + ·)
theorem plc_pls {L m : Nat} : plc L m = (pls L m).map fun (p : Nat) => .int (p : Int) := by simp [plc, pls]
set_option genInjectivity false in
structure Pt (X : Type) where
  add : List (Nd X)
  nd : Nd X
  wt : List (Nat × T3 X)
  i : Nat
noncomputable def held (w L i : Nat) (sg : List (T3 X)) : Pt X := ⟨sg.map fun t => .goal (bt t.1), .op w (pls L sg.length), idx L sg, i⟩
noncomputable def part (new : Nat → X) (x y : X) (i L : Nat) : Bd X → Pt X
  | .com a b => held 0 L (i + (spC b).length) (seg new (spC (.com a b)) x y i)
  | .sem a b => held 1 L i ((spS (.sem a b)).map fun c => (c, x, y))
  | .arr a b => held 2 L (i + 1) [(a, x, new i), (b, new i, y)]
  | .neg b => ⟨[.op 3 [L + 2], .goal (eqT x y), .goal (bt b)], .op 0 [L, L + 1], [(L + 2, b, x, new i)], i + 1⟩
  | b => ⟨[], .goal (plain b x y), [], i⟩
theorem part_1 (new : Nat → X) (x y i L a b) : part new x y i L (.com a b) = held 0 L (i + (spC b).length) (seg new (spC (.com a b)) x y i) := rfl
theorem part_2 (new : Nat → X) (x y i L a b) : part new x y i L (.sem a b) = held 1 L i ((spS (.sem a b)).map fun c => (c, x, y)) := rfl
theorem part_3 (new : Nat → X) (x y i L a b) : part new x y i L (.arr a b) = held 2 L (i + 1) [(a, x, new i), (b, new i, y)] := rfl
theorem part_4 (new : Nat → X) (x y i L b) : part new x y i L (.neg b) = ⟨[.op 3 [L + 2], .goal (eqT x y), .goal (bt b)], .op 0 [L, L + 1], [(L + 2, b, x, new i)], i + 1⟩ := rfl
theorem part_5 (new : Nat → X) (x y i L l) : part new x y i L (.tx l) = ⟨[], .goal (plain (.tx l) x y), [], i⟩ := rfl
theorem part_6 (new : Nat → X) (x y i L l) : part new x y i L (.p l) = ⟨[], .goal (plain (.p l) x y), [], i⟩ := rfl
theorem part_7 (new : Nat → X) (x y i L l) : part new x y i L (.v l) = ⟨[], .goal (plain (.v l) x y), [], i⟩ := rfl
theorem part_8 (new : Nat → X) (x y i L) : part new x y i L .cut = ⟨[], .goal (plain .cut x y), [], i⟩ := rfl
theorem part_9 (new : Nat → X) (x y i L l) : part new x y i L (.cur l) = ⟨[], .goal (plain (.cur l) x y), [], i⟩ := rfl
noncomputable def wtz (l : List (Nat × T3 X)) : Nat := bss (l.map fun w => w.2.1)
theorem wtz_idx {sg : List (T3 X)} : ∀ {k : Nat}, wtz (idx k sg) = bss (sg.map (·.1)) := by
  induction sg with
  | nil => intro k; rfl
  | cons t r ih => intro k; have := ih (k := k + 1); simp only [wtz, bss, idx_1, idx_2, List.map_cons, List.sum_cons] at this ⊢; lia
structure PtOk (S : Sy) (b : Bd X) (L : Nat) (p : Pt X) : Prop where
  nd : ∀ k, k < L → OpIn k (L + p.add.length) p.nd
  add : ∀ j nd, p.add[j]? = some nd → OpIn (L + j) (L + p.add.length) nd
  wt : ∀ w ∈ p.wt, w.1 < L + p.add.length ∧ BdG S w.2.1
  sz : wtz p.wt + 1 ≤ bsz b
  sz3 : p.add.length + 3 * wtz p.wt ≤ 3 * bsz b
theorem bss_all {l : List (Bd X)} : l.length ≤ bss l := by
  induction l with
  | nil => simp [bss]
  | cons a r ih => have := bsz_pos (b := a); simp only [bss, List.map_cons, List.sum_cons, List.length_cons] at ih ⊢; lia
theorem held_ok {S : Sy} {b : Bd X} {w L i : Nat} {sg : List (T3 X)} (hw : wf w sg.length) (ha : ∀ c ∈ sg.map (·.1), BdG S c) (h2 : 2 ≤ sg.length) (hz : bss (sg.map (·.1)) + sg.length ≤ bsz b + 1) : PtOk S b L (held w L i sg) := by
  have e : wtz (held w L i sg).wt = bss (sg.map (·.1)) := wtz_idx
  have ea : (held w L i sg).add.length = sg.length := by simp [held]
  refine ⟨fun k hk => ⟨by simpa [pls] using hw, fun q hq => ?_⟩, fun j nd h => ?_, fun w' hw' => ?_, by lia, by lia⟩
  · simp only [held, pls, List.mem_map, List.mem_range] at hq
    obtain ⟨t, ht, rfl⟩ := hq
    rw [ea]; exact ⟨Nat.lt_add_right _ hk, Nat.add_lt_add_left ht _⟩
  · simp only [held, List.getElem?_map, Option.map_eq_some_iff] at h
    obtain ⟨t, _, rfl⟩ := h
    trivial
  · have := idx_at hw'
    rw [ea]
    exact ⟨this.2.1, ha _ (List.mem_map.mpr ⟨_, this.2.2, rfl⟩)⟩
theorem leaf_ok {S : Sy} {b : Bd X} {L i : Nat} {t : Tr X} (hb : 1 ≤ bsz b) : PtOk S b L ⟨[], .goal t, [], i⟩ :=
  ⟨fun _ _ => trivial, fun _ _ h => nS h, fun _ hw => (nomatch hw), hb, Nat.zero_le _⟩
theorem part_ok {S : Sy} {new : Nat → X} {x y : X} {i L : Nat} : ∀ {b : Bd X}, BdG S b → bsz b < 2000 → PtOk S b L (part new x y i L b)
  | .com a b, h, hz => by
    have z := spC_sz (b := .com a b)
    have l2 : 1 ≤ (spC b).length := by
      have := spC_sz (b := b)
      cases h : spC b with
      | nil => rw [h] at this; exact nomatch this
      | cons _ _ => exact Nat.succ_pos _
    have hl : (seg new (spC (.com a b)) x y i).length = (spC b).length + 1 := by rw [seg_len]; rfl
    have hll : (spC (.com a b)).length = (spC b).length + 1 := rfl
    refine held_ok ⟨by decide, by rw [hl]; exact Nat.succ_pos _, by lia⟩ (by rw [seg_fst]; exact spC_all h) (by rw [hl]; exact Nat.succ_le_succ l2) (by rw [seg_fst, hl, ← hll]; exact Nat.le_of_eq z)
  | .sem a b, h, hz => by
    have z := spS_sz (b := .sem a b)
    have l2 : 1 ≤ (spS b).length := by
      have := spS_sz (b := b)
      cases h : spS b with
      | nil => rw [h] at this; exact nomatch this
      | cons _ _ => exact Nat.succ_pos _
    have hm : ((spS (.sem a b)).map fun c => ((c, x, y) : T3 X)).map (·.1) = spS (.sem a b) := by rw [List.map_map]; exact List.map_id _
    have hll : (spS (.sem a b)).length = (spS b).length + 1 := rfl
    have hl : ((spS (.sem a b)).map fun c => ((c, x, y) : T3 X)).length = (spS b).length + 1 := by rw [List.length_map]; rfl
    refine held_ok ⟨by decide, by rw [hl]; exact Nat.succ_pos _, by lia⟩ (by rw [hm]; exact spS_all h) (by rw [hl]; exact Nat.succ_le_succ l2) (by rw [hm, hl, ← hll]; exact Nat.le_of_eq z)
  | .arr a b, h, hz => held_ok rfl (by
      intro c hc
      simp only [List.map_cons, List.map_nil, List.mem_cons, List.not_mem_nil, or_false] at hc
      rcases hc with rfl | rfl
      · exact ⟨h.1.1, h.2.2.1⟩
      · exact ⟨h.1.2, h.2.2.2.1⟩) (by simp) (by simp [bss, bsz_1, bsz_2, bsz_3, bsz_4, bsz_5, bsz_6, bsz_7, bsz_8, bsz_9]; lia)
  | .neg b, h, hz => by
    refine ⟨fun k hk => ⟨⟨by decide, Nat.succ_pos _, Nat.le_of_ble_eq_true rfl⟩, ?_⟩, ?_, ?_, ?_, ?_⟩
    · exact List.forall_mem_cons.mpr ⟨⟨hk, Nat.lt_add_of_pos_right (Nat.le_of_ble_eq_true rfl)⟩, List.forall_mem_cons.mpr ⟨⟨Nat.lt_succ_of_lt hk, Nat.add_lt_add_left (Nat.le_of_ble_eq_true rfl) _⟩, nofun⟩⟩
    · intro j nd hj
      rcases j with _ | _ | _ | j
      · obtain rfl := Option.some.inj hj
        exact ⟨rfl, List.forall_mem_cons.mpr ⟨⟨Nat.lt_add_of_pos_right (Nat.le_of_ble_eq_true rfl), Nat.add_lt_add_left (Nat.le_of_ble_eq_true rfl) _⟩, nofun⟩⟩
      · obtain rfl := Option.some.inj hj; trivial
      · obtain rfl := Option.some.inj hj; trivial
      · exact nS hj
    · exact List.forall_mem_cons.mpr ⟨⟨Nat.add_lt_add_left (Nat.le_of_ble_eq_true rfl) _, h.1, h.2.2.1⟩, nofun⟩
    · show bsz b + 0 + 1 ≤ 1 + bsz b; lia
    · show 3 + 3 * (bsz b + 0) ≤ 3 * (1 + bsz b); lia
  | .tx l, h, hz => leaf_ok (Nat.le_refl _)
  | .p l, h, hz => leaf_ok (Nat.le_refl _)
  | .v l, h, hz => leaf_ok (Nat.le_refl _)
  | .cut, h, hz => leaf_ok (Nat.le_refl _)
  | .cur l, h, hz => leaf_ok (Nat.le_refl _)
set_option genInjectivity false in
structure Ms (X : Type) where
  nodes : List (Nd X)
  wt : List (Nat × T3 X)
  i : Nat
noncomputable def mstep (new : Nat → X) (s : Ms X) : Ms X :=
  match s.wt with
  | [] => s
  | (k, b, x, y) :: r =>
    let p := part new x y s.i s.nodes.length b
    ⟨(s.nodes ++ p.add).set k p.nd, p.wt ++ r, p.i⟩
noncomputable def mrun (new : Nat → X) : Nat → Ms X → Ms X
  | 0, s => s
  | n + 1, s => mrun new n (mstep new s)
theorem mrun_nil {new : Nat → X} : ∀ {n : Nat} {s : Ms X}, s.wt = [] → mrun new n s = s
  | 0, _, _ => rfl
  | n + 1, s, h => by
    have : mstep new s = s := by unfold mstep; rw [h]
    show mrun new n (mstep new s) = s
    rw [this]; exact mrun_nil h
structure MOk (S : Sy) (B : Nat) (s : Ms X) : Prop where
  op : ∀ p nd, s.nodes[p]? = some nd → OpIn p s.nodes.length nd
  wt : ∀ w ∈ s.wt, w.1 < s.nodes.length ∧ BdG S w.2.1
  sz : s.nodes.length + 3 * wtz s.wt ≤ B
  ne : 0 < s.nodes.length
theorem OpIn.mono {p n n' : Nat} {nd : Nd X} (h : OpIn p n nd) (l : n ≤ n') : OpIn p n' nd := by
  cases nd with
  | goal t => trivial
  | op w ps => exact ⟨h.1, fun q hq => ⟨(h.2 q hq).1, Nat.lt_of_lt_of_le (h.2 q hq).2 l⟩⟩
theorem wtz_app {l m : List (Nat × T3 X)} : wtz (l ++ m) = wtz l + wtz m := by simp [wtz, bss]
theorem wtz_cons {w : Nat × T3 X} {m : List (Nat × T3 X)} : wtz (w :: m) = bsz w.2.1 + wtz m := by simp [wtz, bss]
theorem mstep_ok {S : Sy} {new : Nat → X} {B : Nat} {s : Ms X} {k : Nat} {b : Bd X} {x y : X} {r : List (Nat × T3 X)} (h : MOk S B s) (hB : B < 6000) (e : s.wt = (k, b, x, y) :: r) : MOk S B (mstep new s) ∧ wtz (mstep new s).wt < wtz s.wt := by
  have hb : BdG S b := (h.wt (k, b, x, y) (by rw [e]; simp)).2
  have hk : k < s.nodes.length := (h.wt (k, b, x, y) (by rw [e]; simp)).1
  have hz := h.sz
  have ez : wtz s.wt = bsz b + wtz r := by rw [e, wtz_cons]
  have P := part_ok (new := new) (x := x) (y := y) (i := s.i) (L := s.nodes.length) hb (by lia)
  have p1 := P.sz
  have p2 := P.sz3
  have es : mstep new s = ⟨(s.nodes ++ (part new x y s.i s.nodes.length b).add).set k (part new x y s.i s.nodes.length b).nd, (part new x y s.i s.nodes.length b).wt ++ r, (part new x y s.i s.nodes.length b).i⟩ := by unfold mstep; rw [e]
  rw [es]
  generalize part new x y s.i s.nodes.length b = p at *
  have hlen : ((s.nodes ++ p.add).set k p.nd).length = s.nodes.length + p.add.length := by simp
  refine ⟨⟨fun q nd hq => ?_, fun w hw => ?_, ?_, ?_⟩, ?_⟩
  · simp only [hlen] at hq ⊢
    by_cases hkq : k = q
    · subst hkq
      rw [List.getElem?_set_self (by rw [List.length_append]; exact Nat.lt_add_right _ hk)] at hq
      obtain rfl := Option.some.inj hq
      exact P.nd k hk
    · rw [List.getElem?_set_ne hkq] at hq
      by_cases hql : q < s.nodes.length
      · rw [List.getElem?_append_left hql] at hq
        exact (h.op q nd hq).mono (Nat.le_add_right _ _)
      · rw [List.getElem?_append_right (Nat.le_of_not_lt hql)] at hq
        have := P.add _ _ hq
        rwa [Nat.add_sub_cancel' (Nat.le_of_not_lt hql)] at this
  · simp only [hlen, List.mem_append] at hw ⊢
    rcases hw with hw | hw
    · exact P.wt w hw
    · have := h.wt w (by rw [e]; simp [hw])
      exact ⟨Nat.lt_add_right _ this.1, this.2⟩
  · simp only [hlen, wtz_app]; lia
  · rw [hlen]; exact Nat.add_pos_left h.ne _
  · rw [wtz_app, ez]; exact Nat.add_lt_add_right p1 _
end
section
variable {X : Type}
structure Ctx (new : Nat → X) (c : Nat → Int) (us : List Int) (ι : X → Int) (n m u g r : Nat) : Prop where
  hc : ∀ i, c (i + 1) = nx us (c i) + 1
  hi : ∀ i, ι (new i) = nx us (c i)
  hu : us.length < 2900
  a : n + 5 < m
  b : m + 1 < u
  c : u < g
  d : g + 1 < r
structure Env (H : Hp) (n m u g r : Nat) (us : List Int) (S : Sy) (k : Int) (ns ws : List SV) : Prop where
  s : SymAt H n S
  f : FrAt H m k
  g : GvAt H g m u us
  t : TrAt H r ns ws
noncomputable def chg (n m r : Nat) : Nat → Prop := fun p => sy n p ∨ p = m ∨ tr r p
section
variable {n m u g r p : Nat}
theorem syP (h : n + 5 < p) : ¬ sy n p := fun h' => Nat.lt_irrefl _ (Nat.lt_of_lt_of_le h h'.2)
theorem trN (h : p < r + 2) : ¬ tr r p := fun h' => h'.elim (Nat.ne_of_lt h) (Nat.ne_of_lt (Nat.lt_succ_of_lt h))
theorem trF (h : r + 3 < p) : ¬ tr r p := fun h' => h'.elim (Nat.ne_of_gt (Nat.lt_of_succ_lt h)) (Nat.ne_of_gt h)
theorem o_mr (b : m + 1 < u) (cc : u < g) (d : g + 1 < r) : m + 1 < r := Nat.lt_trans b (Nat.lt_trans cc (Nat.lt_of_succ_lt d))
theorem o_nr (a : n + 5 < m) (b : m + 1 < u) (cc : u < g) (d : g + 1 < r) : n + 5 < r := Nat.lt_trans a (Nat.lt_of_succ_lt (o_mr b cc d))
theorem o_3 (h : p < r) : p ≤ r + 3 := Nat.le_trans (Nat.le_of_lt h) (Nat.le_add_right _ _)
theorem o_2 (h : p < r) : p < r + 2 := Nat.lt_add_right _ h
theorem chgF (a : n + 5 < m) (b : m + 1 < u) (cc : u < g) (d : g + 1 < r) (h : r + 3 < p) : ¬ chg n m r p :=
  have hr : r < p := Nat.lt_of_le_of_lt (Nat.le_add_right _ _) h
  fun h' => h'.elim (syP (Nat.lt_trans (o_nr a b cc d) hr)) fun h' => h'.elim (Nat.ne_of_gt (Nat.lt_trans (Nat.lt_of_succ_lt (o_mr b cc d)) hr)) (trF h)
end
noncomputable def PQ (ι : X → Int) (c : Nat → Int) (us : List Int) (n m u g r : Nat) (H : Hp) (S : Sy) (ws : List SV) (nodes : List (Nd X)) (p : Pt X) (Q : SV → Hp → Prop) : Prop :=
  ∀ H' S' v ns', Env H' n m u g r us S' (c p.i) ns' (ws ++ (p.wt.map (eW S' ι)).reverse) → S.Le S' → S'.len ≤ S.len + 4 → NR S' ι H' (r + 3) ns' (nodes ++ p.add) → NdR S' ι H' (r + 3) v p.nd → Kp (chg n m r) H H' → Q v H'
theorem NR.app {S : Sy} {ι : X → Int} {H : Hp} {lo : Nat} {ns ns2 : List SV} {nodes n2 : List (Nd X)} (h : NR S ι H lo ns nodes) (h2 : NR S ι H lo ns2 n2) : NR S ι H lo (ns ++ ns2) (nodes ++ n2) := by
  refine ⟨by simp [h.len, h2.len], fun p nd e => ?_⟩
  by_cases hp : p < nodes.length
  · rw [List.getElem?_append_left hp] at e
    obtain ⟨v, a, b⟩ := h.at' p nd e
    exact ⟨v, by rw [List.getElem?_append_left (by rw [h.len]; exact hp)]; exact a, b⟩
  · rw [List.getElem?_append_right (Nat.le_of_not_lt hp)] at e
    obtain ⟨v, a, b⟩ := h2.at' _ nd e
    exact ⟨v, by rw [List.getElem?_append_right (by rw [h.len]; exact Nat.le_of_not_lt hp), h.len]; exact a, b⟩
theorem NR.goals {S : Sy} {ι : X → Int} {H : Hp} {lo : Nat} {l : List (Tr X)} (h : KIns S l) : NR S ι H lo (l.map fun t => goalV (enc (res S) ι t)) (l.map .goal) := by
  refine ⟨by simp, fun p nd e => ?_⟩
  simp only [List.getElem?_map, Option.map_eq_some_iff] at e
  obtain ⟨t, ht, rfl⟩ := e
  exact ⟨_, by simp only [List.getElem?_map, ht, Option.map_some], rfl, KIns.mem.mp h t (List.mem_of_getElem? ht)⟩
theorem sp_held {ι : X → Int} {H : Hp} {S : Sy} {r q w i : Nat} {ns ws : List SV} {nodes : List (Nd X)} {sg : List (T3 X)} {Q : SV → Hp → Prop} (hT : TrAt H r ns ws) (hR : NR S ι H (r + 3) ns nodes) (hq : H[q]? = some (.lst ((sg.map (eT S ι)).map pV))) (dq : r + 3 < q) (hg : ∀ t ∈ sg, KIn S (bt t.1))
    (hp : sg.length < 2900) (hn : nodes.length < 800000) (hw : ws.length < 800000)
    (h : ∀ H' v ns', TrAt H' r ns' (ws ++ ((held w nodes.length i sg).wt.map (eW S ι)).reverse) → NR S ι H' (r + 3) ns' (nodes ++ (held w nodes.length i sg).add) → NdR S ι H' (r + 3) v (held w nodes.length i sg).nd → Kp (tr r) H H' → Q v H') :
    Ok (F_GrammarTree_hold [.ref (r + 1), .str (wd w), .ref q] H) Q := by
  have hl := hR.len
  have hrl := hT.lt
  refine sp_hold hT hq ⟨by lia, by lia⟩ (by simpa using hp) (by rw [List.length_map, hl]; lia) (by rw [List.length_map]; lia) fun H' t' e' k' => ?_
  refine h H' _ _ (by rw [hl, wVs_idx] at t'; exact t') ?_ ?_ k'
  · have e : ((sg.map (eT S ι)).map fun p : P3 => goalV p.1) = (sg.map fun t => bt t.1).map fun t => goalV (enc (res S) ι t) := by rw [List.map_map, List.map_map]; rfl
    have e2 : (held w nodes.length i sg).add = (sg.map fun t => bt t.1).map .goal := by rw [List.map_map]; rfl
    rw [e, e2]
    refine (hR.kp k' fun p h1 h2 h3 => ?_).app (NR.goals (KIns.mem.mpr fun t ht => ?_))
    · exact trF h2 h3
    · obtain ⟨s, hs, rfl⟩ := List.mem_map.mp ht
      exact hg s hs
  · refine ⟨H.length, rfl, hrl, ?_⟩
    rw [e', plc_pls, hl, List.length_map]
theorem bar_ge {S : Sy} {i : Nat} (h : S0.Le S) (e : S.f 8 2 = some i) : 11 ≤ i := by
  by_cases hi : i < 11
  · exfalso
    obtain ⟨x, hx, hk⟩ := fi_at e
    have hx1 : x.1 = 8 := by have := congrArg (List.head?) hk; simpa [kF] using this
    obtain ⟨t, ht⟩ := h.2
    have h11 : (S0.fn.take 11)[i]? = some x := by
      have hlen : i < (S0.fn.take 11).length := by rw [S0_fn]; exact hi
      have hl2 : i < S0.fn.length := by rw [List.length_take] at hlen; lia
      rw [← ht, List.getElem?_append_left hl2] at hx
      rw [List.getElem?_take_of_lt hi]; exact hx
    rw [S0_fn] at h11
    have hm := List.mem_of_getElem? h11
    have : ∀ y ∈ ([(1, 2), (7, 2), (9, 2), (10, 2), (11, 1), (12, 2), (12, 1), (13, 1), (14, 2), (2, 1), (20, 2)] : List (Int × Int)), y.1 ≠ 8 := by decide
    exact this x hm hx1
  · lia
theorem bar_ne {S : Sy} {i j k m : Nat} (h : S0.Le S) (e : S.f 8 2 = some i) (ha : S.a cP = some j) (e2 : S.f j m = some k) : i ≠ k := by
  rintro rfl
  obtain ⟨x, hx, hk⟩ := fi_at e
  obtain ⟨x', hx', hk'⟩ := fi_at e2
  rw [hx] at hx'; cases hx'
  have hx1 : x.1 = 8 := by have := congrArg (List.head?) hk; simpa [kF] using this
  have hx2 : x.1 = (j : Int) := by have := congrArg (List.head?) hk'; simpa [kF] using this
  have := pj h ha
  lia
noncomputable def Far (v b : Int) : Prop := v ≠ 1 ∧ v ≠ 2 ∧ v ≠ b ∧ v ≠ 3 ∧ v ≠ 4
theorem far_leaf {S : Sy} {i : Nat} {b : Bd X} {f : Fu} (h : S0.Le S) (e : S.f 8 2 = some i) (lf : Leaf b) (hk : KIn S (bt b)) (t : top b = some f) : Far (res S f) i := by
  have hb := bar_ge h e
  cases b with
  | tx l =>
    cases l with
    | nil => cases t
    | cons a r =>
      cases t
      refine ⟨?_, ?_, ?_, ?_, ?_⟩ <;> (show (0 : Int) ≠ _) <;> lia
  | p l =>
    cases t
    obtain ⟨⟨j, k, h1, h2⟩, _⟩ := hk
    rw [res_p h1 h2]
    have := pnum h h1 h2
    have := bar_ne h e h1 h2
    refine ⟨?_, ?_, ?_, ?_, ?_⟩ <;> lia
  | cur x =>
    cases t
    refine ⟨?_, ?_, ?_, ?_, ?_⟩ <;> (show (9 : Int) ≠ _) <;> lia
  | v x => cases t
  | cut => cases t
  | neg b => exact lf.elim
  | com a b => exact lf.elim
  | sem a b => exact lf.elim
  | arr a b => exact lf.elim
theorem Env.kpS {H H' : Hp} {n m u g r : Nat} {us : List Int} {S S' : Sy} {k : Int} {ns ws : List SV} (E : Env H n m u g r us S k ns ws) (hs : SymAt H' n S') (kp : Kp (sy n) H H') (a : n + 5 < m) (b : m + 1 < u) (cc : u < g) (d : g + 1 < r) : Env H' n m u g r us S' k ns ws :=
  have ou := Nat.lt_trans a (Nat.lt_of_succ_lt b)
  have og := Nat.lt_trans ou cc
  ⟨hs, E.f.kp kp (syP a) (syP (Nat.lt_succ_of_lt a)), E.g.kp kp (syP og) (syP (Nat.lt_succ_of_lt og)) (syP ou), E.t.kp kp fun p h1 _ => syP (Nat.lt_of_lt_of_le (o_nr a b cc d) h1)⟩
theorem Env.kp {H H' : Hp} {n m u g r : Nat} {us : List Int} {S : Sy} {k k' : Int} {ns ws : List SV} {ch : Nat → Prop} (E : Env H n m u g r us S k ns ws) (hf : FrAt H' m k') (kp : Kp ch H H') (hch : ∀ p, ch p → p = m ∨ r + 3 < p) (a : n + 5 < m) (b : m + 1 < u) (cc : u < g) (d : g + 1 < r) : Env H' n m u g r us S k' ns ws :=
  have ch' : ∀ {p}, p ≠ m → p ≤ r + 3 → ¬ ch p := fun hm hr h => (hch _ h).elim hm fun x => Nat.lt_irrefl _ (Nat.lt_of_lt_of_le x hr)
  have mu := Nat.lt_of_succ_lt b
  have mg := Nat.lt_trans mu cc
  have gr := Nat.lt_of_succ_lt d
  ⟨E.s.kp kp fun p h1 h2 => ch' (Nat.ne_of_lt (Nat.lt_of_le_of_lt h2 a)) (Nat.le_trans h2 (o_3 (o_nr a b cc d))), hf, E.g.kp kp (ch' (Nat.ne_of_gt mg) (o_3 gr)) (ch' (Nat.ne_of_gt (Nat.lt_succ_of_lt mg)) (o_3 d)) (ch' (Nat.ne_of_gt mu) (o_3 (Nat.lt_trans cc gr))), E.t.kp kp fun p h1 h2 => ch' (Nat.ne_of_gt (Nat.lt_of_lt_of_le (Nat.lt_trans mg gr) h1)) h2⟩
theorem Env.tr {H H' : Hp} {n m u g r : Nat} {us : List Int} {S' : Sy} {i' : Int} {ns ws ns' ws' : List SV} (d1 : n + 5 < m) (d2 : m + 1 < u) (d3 : u < g) (d4 : g + 1 < r) (E : Env H n m u g r us S' i' ns ws) (k : Kp (tr r) H H') (t : TrAt H' r ns' ws') : Env H' n m u g r us S' i' ns' ws' :=
  have mr := o_mr d2 d3 d4
  have gr := Nat.lt_of_succ_lt d4
  ⟨E.s.kp k fun p _ h2 => trN (o_2 (Nat.lt_of_le_of_lt h2 (o_nr d1 d2 d3 d4))), E.f.kp k (trN (o_2 (Nat.lt_of_succ_lt mr))) (trN (o_2 mr)), E.g.kp k (trN (o_2 gr)) (trN (o_2 d4)) (trN (o_2 (Nat.lt_trans d3 gr))), t⟩
variable {new : Nat → X} {c : Nat → Int} {us : List Int} {ι : X → Int} {n m u g r : Nat} {H : Hp} {S : Sy} {ns ws : List SV} {nodes : List (Nd X)} {Q : SV → Hp → Prop} {x y : X} {i : Nat}
theorem sp_part_leaf {b : Bd X} (K : Ctx new c us ι n m u g r) (E : Env H n m u g r us S (c i) ns ws) (hR : NR S ι H (r + 3) ns nodes) (hg : S0.Le S) (hl : S.len < 600000) (hB : BdG S b) (lf : Leaf b)
    (h : PQ ι c us n m u g r H S ws nodes ⟨[], .goal (plain b x y), [], i⟩ Q) :
    Ok (F_grammar_part [.ref (n + 1), enc (res S) ι (bt b), enc (res S) ι (.v x), enc (res S) ι (.v y), .ref (g + 1), .ref (r + 1)] H) Q := by
  have hk := hB.2
  have fin : ∀ S1 H1, SymAt H1 n S1 → S.Le S1 → S1.len ≤ S.len + 1 → Kp (sy n) H H1 → Ok (F_plain_goal [.ref (n + 1), enc (res S1) ι (bt b), enc (res S1) ι (.v x), enc (res S1) ι (.v y)] H1) fun v H' => Q (goalV v) H' := by
    intro S1 H1 s1 l1 n1 k1
    refine sp_plain s1 (hg.trans l1) (by lia) (hk.le l1 ι).1 lf fun S' H' s' l' kk n' k' => ?_
    have k2 : Kp (sy n) H H' := k1.trans k' (fun _ _ h => h) (fun _ _ h => h)
    refine h H' S' _ ns ?_ (l1.trans l') (by lia) ?_ ⟨rfl, kk⟩ (k2.mono fun _ _ h => Or.inl h)
    · rw [List.map_nil, List.reverse_nil, List.append_nil]
      exact E.kpS s' k2 K.a K.b K.c K.d
    · rw [List.append_nil]
      exact (hR.kp k2 fun p h1 h2 => syP (Nat.lt_trans (o_nr K.a K.b K.c K.d) (Nat.lt_of_le_of_lt (Nat.le_add_right _ _) h2))).le (l1.trans l')
  have ev : ∀ S1 (z : X), enc (res S1) ι (.v z) = enc (res S) ι (.v z) := fun _ _ => rfl
  have sc : ∀ f xs, bt b = .s f xs → Ok (F_grammar_part [.ref (n + 1), enc (res S) ι (bt b), enc (res S) ι (.v x), enc (res S) ι (.v y), .ref (g + 1), .ref (r + 1)] H) Q := by
    intro f xs hb
    have is : isInst 154 (Str.ofString "functor") H (.ref (n + 1)) = true := E.s.isI rfl
    have e0 : enc (res S) ι (bt b) = .tup [.str (Str.ofString "s"), .int (res S f), .tup (encs (res S) ι xs)] := by rw [hb]; rfl
    unfold F_grammar_part d_grammar_part
    rw [e0]
    (try with_reducible refine IsW.run ?_); (repeat (first | walk_at "ev" | simp only [is, evA, evB, reduceCtorEq, Nat.reduceAdd, Nat.reduceLT, Nat.reduceLeDiff]))
    refine sp_sym_functor E.s (by lia) fun S1 j H1 s1 l1 f1 n1 _ k1 _ => ?_
    have far := far_leaf (hg.trans l1) f1 lf (hk.le l1 ι).1 (top_of hb)
    have e1 : enc (res S1) ι (bt b) = enc (res S) ι (bt b) := (hk.le l1 ι).2
    have ef : res S1 f = res S f := by
      have : FuIn S f := by rw [hb] at hk; exact hk.1
      exact (this.le l1).2
    rw [ef] at far
    obtain ⟨q1, q2, q3, q4, q5⟩ := far
    have q1 := beq_eq_false_iff_ne.mpr q1
    have q2 := beq_eq_false_iff_ne.mpr q2
    have q3 := beq_eq_false_iff_ne.mpr q3
    have q4 := beq_eq_false_iff_ne.mpr q4
    have q5 := beq_eq_false_iff_ne.mpr q5
    have fin := fin S1 H1 s1 l1 n1 k1
    rw [e1, ev, ev, e0] at fin
    (try with_reducible refine IsW.run ?_); (repeat (first | walk_at "ev" | simp only [cII, q1, q2, q3, q4, q5, evA, evB, reduceCtorEq, Nat.reduceAdd, Nat.reduceLT, Nat.reduceLeDiff]))
    exact fin
  have fin0 := fin S H E.s (Sy.Le.refl _) (by lia) Kp.refl
  cases hb : bt b with
  | s f xs => rw [← hb]; exact sc f xs hb
  | v z =>
    rw [hb] at fin0
    unfold F_grammar_part d_grammar_part
    (try with_reducible refine IsW.run ?_); (repeat (first | walk_at "ev" | simp only [enc_1, enc_2, enc_3, enc_4, evA, evB, reduceCtorEq, Nat.reduceAdd, Nat.reduceLT, Nat.reduceLeDiff]))
    simp only [enc_1, enc_2, enc_3, enc_4] at fin0
    exact fin0
  | a z =>
    rw [hb] at fin0
    unfold F_grammar_part d_grammar_part
    (try with_reducible refine IsW.run ?_); (repeat (first | walk_at "ev" | simp only [enc_1, enc_2, enc_3, enc_4, evA, evB, reduceCtorEq, Nat.reduceAdd, Nat.reduceLT, Nat.reduceLeDiff]))
    simp only [enc_1, enc_2, enc_3, enc_4] at fin0
    exact fin0
  | i z =>
    rw [hb] at fin0
    unfold F_grammar_part d_grammar_part
    (try with_reducible refine IsW.run ?_); (repeat (first | walk_at "ev" | simp only [enc_1, enc_2, enc_3, enc_4, evA, evB, reduceCtorEq, Nat.reduceAdd, Nat.reduceLT, Nat.reduceLeDiff]))
    simp only [enc_1, enc_2, enc_3, enc_4] at fin0
    exact fin0
end
section
variable {X : Type}
variable {new : Nat → X} {c : Nat → Int} {us : List Int} {ι : X → Int} {n m u g r : Nat} {H : Hp} {S : Sy} {ns ws : List SV} {nodes : List (Nd X)} {Q : SV → Hp → Prop} {x y : X} {i : Nat}
theorem held_fin {H2 : Hp} {S1 : Sy} {q w i' : Nat} {sg : List (T3 X)} (K : Ctx new c us ι n m u g r) (E : Env H2 n m u g r us S1 (c i') ns ws) (hR : NR S1 ι H2 (r + 3) ns nodes) (hq : H2[q]? = some (.lst ((sg.map (eT S1 ι)).map pV))) (dq : r + 3 < q) (hg : ∀ t ∈ sg, KIn S1 (bt t.1))
    (hp : sg.length < 2900) (hn : nodes.length < 800000) (hw : ws.length < 800000) (l : S.Le S1) (ln : S1.len ≤ S.len + 4) (kk : Kp (chg n m r) H H2) (h : PQ ι c us n m u g r H S ws nodes (held w nodes.length i' sg) Q) :
    Ok (F_GrammarTree_hold [.ref (r + 1), .str (wd w), .ref q] H2) Q := by
  refine sp_held (i := i') E.t hR hq dq hg hp hn hw fun H' v ns' t' r' nd' k' => ?_
  refine h H' S1 v ns' (E.tr K.a K.b K.c K.d k' t') l ln r' nd' ?_
  exact kk.trans k' (fun _ _ h => h) (fun _ _ h => Or.inr (Or.inr h))
theorem gv_is {us : List Int} {H : Hp} {g m u : Nat} (hG : GvAt H g m u us) : isInst 325 (Str.ofString "variable") H (.ref (g + 1)) = true := is_at hG.inst hG.flds rfl
theorem b31 : ((3 : Int) == 1) = false := rfl
theorem b32 : ((3 : Int) == 2) = false := rfl
theorem b33 : ((3 : Int) == 3) = true := rfl
theorem b41 : ((4 : Int) == 1) = false := rfl
theorem b42 : ((4 : Int) == 2) = false := rfl
theorem b43 : ((4 : Int) == 3) = false := rfl
theorem b44 : ((4 : Int) == 4) = true := rfl
theorem b21 : ((2 : Int) == 1) = false := rfl
theorem b22 : ((2 : Int) == 2) = true := rfl
theorem b11 : ((1 : Int) == 1) = true := rfl
theorem bbar {k : Int} {j : Nat} (h : 11 ≤ j) (hk : k < 11) : (k == (j : Int)) = false := beq_eq_false_iff_ne.mpr (by lia)
theorem sy_chg {H H1 : Hp} (k : Kp (sy n) H H1) : Kp (chg n m r) H H1 := k.mono fun _ _ h => Or.inl h
theorem sp_part_arr {a b : Bd X} (K : Ctx new c us ι n m u g r) (E : Env H n m u g r us S (c i) ns ws) (hR : NR S ι H (r + 3) ns nodes) (hg : S0.Le S) (hl : S.len < 600000) (hk : KIn S (bt (.arr a b))) (hn : nodes.length < 800000) (hw : ws.length < 800000)
    (h : PQ ι c us n m u g r H S ws nodes (part new x y i nodes.length (.arr a b)) Q) :
    Ok (F_grammar_part [.ref (n + 1), enc (res S) ι (bt (.arr a b)), enc (res S) ι (.v x), enc (res S) ι (.v y), .ref (g + 1), .ref (r + 1)] H) Q := by
  obtain ⟨_, ka, kb, _⟩ := hk
  have is : isInst 154 (Str.ofString "functor") H (.ref (n + 1)) = true := E.s.isI rfl
  have e0 : enc (res S) ι (bt (.arr a b)) = .tup [.str (Str.ofString "s"), .int 3, .tup [enc (res S) ι (bt a), enc (res S) ι (bt b)]] := rfl
  have := K.a; have := K.b; have := K.c; have := K.d
  unfold F_grammar_part d_grammar_part
  rw [e0]
  (try with_reducible refine IsW.run ?_); (repeat (first | walk_at "ev" | simp only [is, evA, evB, reduceCtorEq, Nat.reduceAdd, Nat.reduceLT, Nat.reduceLeDiff]))
  refine sp_sym_functor E.s (by lia) fun S1 j H1 s1 l1 f1 n1 _ k1 _ => ?_
  have hj := bar_ge (hg.trans l1) f1
  have ea := (ka.le l1 ι).2
  have eb := (kb.le l1 ι).2
  have E1 := E.kpS s1 k1 K.a K.b K.c K.d
  have g1 := gv_is E1.g
  have bb := bbar (k := 3) hj (by lia)
  rw [← ea, ← eb]
  (try with_reducible refine IsW.run ?_); (repeat (first | walk_at "ev" | simp only [cII, b31, b32, b33, bb, g1, evA, evB, reduceCtorEq, Nat.reduceAdd, Nat.reduceLT, Nat.reduceLeDiff]))
  refine sp_variable E1.f E1.g K.hu (by lia) (by lia) (by lia) fun H2 f2 k2 _ => ?_
  rw [← K.hc] at f2
  rw [← K.hi]
  have E2 := E1.kp f2 k2 (fun p h => Or.inl h) K.a K.b K.c K.d
  have ih := E2.t.isI (name := Str.ofString "hold") rfl rfl
  (try with_reducible refine IsW.run ?_); (repeat (first | walk_at "ev" | simp only [ih, evA, evB, reduceCtorEq, Nat.reduceAdd, Nat.reduceLT, Nat.reduceLeDiff]))
  have hrl := E2.t.lt
  have k12 : Kp (chg n m r) H H2 := (sy_chg k1).trans k2 (fun _ _ h => h) (fun _ _ h => Or.inr (Or.inl h))
  refine held_fin (w := 2) (i' := i + 1) (sg := [(a, x, new i), (b, new i, y)]) K (E2.kp (ch := no) (k' := c (i + 1)) (E2.f.kp (Kp.app (ch := no)) (fun h => h) (fun h => h)) Kp.app (fun p h => h.elim) K.a K.b K.c K.d) ?_ app_at hrl ?_ (by simp) hn hw l1 (by lia) (k12.trans (ch' := no) Kp.app (fun _ _ h => h) (fun _ _ h => h.elim)) h
  · exact (hR.kp (k12.trans (ch' := no) Kp.app (fun _ _ h => h) (fun _ _ h => h.elim)) (fun p _ h2 => chgF K.a K.b K.c K.d h2)).le l1
  · intro t ht
    simp only [List.mem_cons, List.not_mem_nil, or_false] at ht
    rcases ht with rfl | rfl
    · exact (ka.le l1 ι).1
    · exact (kb.le l1 ι).1
end
section
variable {X : Type}
variable {new : Nat → X} {c : Nat → Int} {us : List Int} {ι : X → Int} {n m u g r : Nat} {H : Hp} {S : Sy} {ns ws : List SV} {nodes : List (Nd X)} {Q : SV → Hp → Prop} {x y : X} {i : Nat}
theorem NR.set {lo k : Nat} {v : SV} {nd : Nd X} (h : NR S ι H lo ns nodes) (hv : NdR S ι H lo v nd) : NR S ι H lo (ns.set k v) (nodes.set k nd) := by
  refine ⟨by simp [h.len], fun p nd' e => ?_⟩
  by_cases hp : k = p
  · subst hp
    by_cases hk : k < nodes.length
    · first | exact sN (List.getElem?_set_self hk) e | exact sN e (List.getElem?_set_self hk) | (rw [List.getElem?_set_self hk] at e; cases e)
      exact ⟨v, by rw [List.getElem?_set_self (by rw [h.len]; exact hk)], hv⟩
    · first | exact sN (List.getElem?_eq_none (by simp; lia)) e | exact sN e (List.getElem?_eq_none (by simp; lia)) | (rw [List.getElem?_eq_none (by simp; lia)] at e; cases e)
  · rw [List.getElem?_set_ne hp] at e
    obtain ⟨v', a, b⟩ := h.at' p nd' e
    exact ⟨v', by rw [List.getElem?_set_ne hp]; exact a, b⟩
theorem sp_part_neg {a : Bd X} (K : Ctx new c us ι n m u g r) (E : Env H n m u g r us S (c i) ns ws) (hR : NR S ι H (r + 3) ns nodes) (hg : S0.Le S) (hl : S.len < 600000) (hk : KIn S (bt (.neg a))) (hn : nodes.length < 700000) (hw : ws.length < 700000)
    (h : PQ ι c us n m u g r H S ws nodes (part new x y i nodes.length (.neg a)) Q) :
    Ok (F_grammar_part [.ref (n + 1), enc (res S) ι (bt (.neg a)), enc (res S) ι (.v x), enc (res S) ι (.v y), .ref (g + 1), .ref (r + 1)] H) Q := by
  obtain ⟨_, ka, _⟩ := id hk
  have is : isInst 154 (Str.ofString "functor") H (.ref (n + 1)) = true := E.s.isI rfl
  have e0 : enc (res S) ι (bt (.neg a)) = .tup [.str (Str.ofString "s"), .int 4, .tup [enc (res S) ι (bt a)]] := rfl
  have := K.a; have := K.b; have := K.c; have := K.d
  unfold F_grammar_part d_grammar_part
  rw [e0]
  (try with_reducible refine IsW.run ?_); (repeat (first | walk_at "ev" | simp only [is, evA, evB, reduceCtorEq, Nat.reduceAdd, Nat.reduceLT, Nat.reduceLeDiff]))
  refine sp_sym_functor E.s (by lia) fun S1 j H1 s1 l1 f1 n1 _ k1 _ => ?_
  have hj := bar_ge (hg.trans l1) f1
  have ea := (ka.le l1 ι).2
  have E1 := E.kpS s1 k1 K.a K.b K.c K.d
  have g1 := gv_is E1.g
  have bb := bbar (k := 4) hj (by lia)
  rw [← ea]
  (try with_reducible refine IsW.run ?_); (repeat (first | walk_at "ev" | simp only [cII, b41, b42, b43, b44, bb, g1, evA, evB, reduceCtorEq, Nat.reduceAdd, Nat.reduceLT, Nat.reduceLeDiff]))
  refine sp_variable E1.f E1.g K.hu (by lia) (by lia) (by lia) fun H2 f2 k2 _ => ?_
  rw [← K.hc] at f2
  rw [← K.hi]
  have E2 := E1.kp f2 k2 (fun p h => Or.inl h) K.a K.b K.c K.d
  have hrl := E2.t.lt
  have k12 : Kp (chg n m r) H H2 := (sy_chg k1).trans k2 (fun _ _ h => h) (fun _ _ h => Or.inr (Or.inl h))
  have hln := hR.len
  have el : fLen [.ref (r + 2)] H2 = some (.int ((nodes.length : Nat) : Int), H2) := len_ref E2.t.nodes hln (by lia)
  have a1 := ap_lst (v := .tup [.str (Str.ofString "goal"), .tup [.str (Str.ofString "s"), .int 4, .tup [enc (res S1) ι (bt a)]]]) E2.t.nodes (by rw [hln]; lia)
  have t3 := E2.t.setN (ns' := ns ++ [.tup [.str (Str.ofString "goal"), .tup [.str (Str.ofString "s"), .int 4, .tup [enc (res S1) ι (bt a)]]]])
  have k3 : Kp (tr r) H2 (H2.set (r + 2) (.lst (ns ++ [.tup [.str (Str.ofString "goal"), .tup [.str (Str.ofString "s"), .int 4, .tup [enc (res S1) ι (bt a)]]]]))) := Kp.set (Or.inl rfl)
  obtain ⟨H3, hH3⟩ : ∃ H3, H2.set (r + 2) (.lst (ns ++ [.tup [.str (Str.ofString "goal"), .tup [.str (Str.ofString "s"), .int 4, .tup [enc (res S1) ι (bt a)]]]])) = H3 := ⟨_, rfl⟩
  rw [hH3] at a1 t3 k3
  have y1 := ty_lst E2.t.nodes
  have y3 := ty_lst t3.nodes
  (try with_reducible refine IsW.run ?_); (repeat (first | walk_at "ev" | simp only [E2.t.fn, el, a1, y1, pvN, t3.fn, y3, evA, evB, reduceCtorEq, Nat.reduceAdd, Nat.reduceLT, Nat.reduceLeDiff]))
  refine sp_struct ?_
  have a3 := ap_lst (v := .tup [.str (Str.ofString "goal"), .tup [.str (Str.ofString "s"), .int 10, .tup [enc (res S) ι (.v x), enc (res S) ι (.v y)]]]) t3.nodes (by simp [hln]; lia)
  have t4 := t3.setN (ns' := (ns ++ [.tup [.str (Str.ofString "goal"), .tup [.str (Str.ofString "s"), .int 4, .tup [enc (res S1) ι (bt a)]]]]) ++ [.tup [.str (Str.ofString "goal"), .tup [.str (Str.ofString "s"), .int 10, .tup [enc (res S) ι (.v x), enc (res S) ι (.v y)]]]])
  have k4 : Kp (tr r) H3 (H3.set (r + 2) (.lst ((ns ++ [.tup [.str (Str.ofString "goal"), .tup [.str (Str.ofString "s"), .int 4, .tup [enc (res S1) ι (bt a)]]]]) ++ [.tup [.str (Str.ofString "goal"), .tup [.str (Str.ofString "s"), .int 10, .tup [enc (res S) ι (.v x), enc (res S) ι (.v y)]]]]))) := Kp.set (Or.inl rfl)
  obtain ⟨H4, hH4⟩ : ∃ H4, H3.set (r + 2) (.lst ((ns ++ [.tup [.str (Str.ofString "goal"), .tup [.str (Str.ofString "s"), .int 4, .tup [enc (res S1) ι (bt a)]]]]) ++ [.tup [.str (Str.ofString "goal"), .tup [.str (Str.ofString "s"), .int 10, .tup [enc (res S) ι (.v x), enc (res S) ι (.v y)]]]])) = H4 := ⟨_, rfl⟩
  rw [hH4] at a3 t4 k4
  have ih := t4.isI (name := Str.ofString "hold") rfl rfl
  (try with_reducible refine IsW.run ?_); (repeat (first | walk_at "ev" | simp only [pvN, a3, ih, evA, evB, reduceCtorEq, Nat.reduceAdd, Nat.reduceLT, Nat.reduceLeDiff]))
  have k5 : Kp (chg n m r) H (H4 ++ [.lst [.tup [enc (res S1) ι (bt a), enc (res S) ι (.v x), .tup [.str (Str.ofString "v"), .int (ι (new i))]]]]) := ((k12.trans k3 (fun _ _ h => h) (fun _ _ h => Or.inr (Or.inr h))).trans k4 (fun _ _ h => h) (fun _ _ h => Or.inr (Or.inr h))).trans (ch' := no) Kp.app (fun _ _ h => h) (fun _ _ h => h.elim)
  have t5 : TrAt (H4 ++ [.lst [.tup [enc (res S1) ι (bt a), enc (res S) ι (.v x), .tup [.str (Str.ofString "v"), .int (ι (new i))]]]]) r _ ws := t4.kp (ch := no) Kp.app (fun _ _ _ h => h)
  have hrl4 := t4.lt
  have R5 : NR S1 ι (H4 ++ [.lst [.tup [enc (res S1) ι (bt a), enc (res S) ι (.v x), .tup [.str (Str.ofString "v"), .int (ι (new i))]]]]) (r + 3) _ (nodes ++ [.goal (bt (.neg a)), .goal (eqT x y)]) :=
    ((hR.kp k5 (fun p _ h2 => chgF K.a K.b K.c K.d h2)).le l1).app (NR.goals (l := [bt (.neg a), eqT x y]) ⟨(hk.le l1 ι).1, ⟨trivial, trivial, trivial, trivial⟩, trivial⟩)
  refine sp_held (w := 3) (i := i + 1) (sg := [(a, x, new i)]) (by rw [List.append_assoc] at t5; exact t5) R5 app_at hrl4 ?_ (by simp) (by simp; lia) (by lia) fun H6 v ns6 t6 r6 nd6 k6 => ?_
  · intro t ht
    simp only [List.mem_cons, List.not_mem_nil, or_false] at ht
    subst ht
    exact (ka.le l1 ι).1
  · have st := setL_ok (e := v) (k := nodes.length) t6.nodes (by have := r6.len; rw [this]; simp) (by have := r6.len; rw [this]; simp [held]; lia)
    have t7 := t6.setN (ns' := ns6.set nodes.length v)
    have k7 : Kp (tr r) H6 (H6.set (r + 2) (.lst (ns6.set nodes.length v))) := Kp.set (Or.inl rfl)
    obtain ⟨H7, hH7⟩ : ∃ H7, H6.set (r + 2) (.lst (ns6.set nodes.length v)) = H7 := ⟨_, rfl⟩
    rw [hH7] at st t7 k7
    (try with_reducible refine IsW.run ?_); (repeat (first | walk_at "ev" | simp only [t6.fn, st, addF, evA, evB, reduceCtorEq, Nat.reduceAdd, Nat.reduceLT, Nat.reduceLeDiff]))
    have hrl7 := t7.lt
    have k57 : Kp (tr r) H6 (H7 ++ [.lst [.int (nodes.length : Int), .int ((nodes.length : Int) + 1)]]) := k7.trans (ch' := no) Kp.app (fun _ _ h => h) (fun _ _ h => h.elim)
    have k24 : Kp (tr r) H2 (H4 ++ [.lst [.tup [enc (res S1) ι (bt a), enc (res S) ι (.v x), .tup [.str (Str.ofString "v"), .int (ι (new i))]]]]) := (k3.trans k4 (fun _ _ h => h) (fun _ _ h => h)).trans (ch' := no) Kp.app (fun _ _ h => h) (fun _ _ h => h.elim)
    have k27 : Kp (tr r) H2 (H7 ++ [.lst [.int (nodes.length : Int), .int ((nodes.length : Int) + 1)]]) := (k24.trans k6 (fun _ _ h => h) (fun _ _ h => h)).trans k57 (fun _ _ h => h) (fun _ _ h => h)
    have hl2 : (nodes ++ [Nd.goal (bt (.neg a)), .goal (eqT x y)]).length = nodes.length + 2 := by simp
    have en : ((nodes ++ [Nd.goal (bt (.neg a)), .goal (eqT x y)]) ++ (held 3 (nodes ++ [Nd.goal (bt (.neg a)), .goal (eqT x y)]).length (i + 1) [(a, x, new i)]).add).set nodes.length (held 3 (nodes ++ [Nd.goal (bt (.neg a)), .goal (eqT x y)]).length (i + 1) [(a, x, new i)]).nd = nodes ++ (part new x y i nodes.length (.neg a)).add := by
      rw [hl2, List.append_assoc, List.set_append_right _ _ (Nat.le_refl _), Nat.sub_self]
      simp [held, part_1, part_2, part_3, part_4, part_5, part_6, part_7, part_8, part_9, pls]
    have R7 := (r6.set nd6 (k := nodes.length)).kp k57 (fun p _ h2 => trF h2)
    rw [en] at R7
    have ew : (held 3 (nodes ++ [Nd.goal (bt (.neg a)), .goal (eqT x y)]).length (i + 1) [(a, x, new i)]).wt = (part new x y i nodes.length (.neg a)).wt := by rw [hl2]; rfl
    rw [ew] at t7
    refine h _ S1 _ (ns6.set nodes.length v) (E2.tr K.a K.b K.c K.d k27 (t7.kp (ch := no) Kp.app (fun _ _ _ h => h))) l1 (by lia) R7 ⟨H7.length, rfl, hrl7, ?_⟩ (k12.trans k27 (fun _ _ h => h) (fun _ _ h => Or.inr (Or.inr h)))
    rw [app_at]
    simp
end
section
variable {X : Type}
variable {new : Nat → X} {c : Nat → Int} {us : List Int} {ι : X → Int} {n m u g r : Nat} {H : Hp} {S : Sy} {ns ws : List SV} {nodes : List (Nd X)} {Q : SV → Hp → Prop} {x y : X} {i : Nat}
theorem top_res {j : Nat} {z : Bd X} {f : Fu} (h : S0.Le S) (e : S.f 8 2 = some j) (hB : BdG S z) (t : top z = some f) : res S f ≠ j ∧ (f ≠ .n 2 → res S f ≠ 2) ∧ (f ≠ .n 1 → res S f ≠ 1) := by
  have hb := bar_ge h e
  have lf : Leaf z → res S f ≠ j ∧ (f ≠ .n 2 → res S f ≠ 2) ∧ (f ≠ .n 1 → res S f ≠ 1) := fun lf =>
    let far := far_leaf h e lf hB.2 t
    ⟨far.2.2.1, fun _ => far.2.1, fun _ => far.1⟩
  cases z with
  | tx l => exact lf hB.1
  | p l => exact lf hB.1
  | cur x => exact lf hB.1
  | v x => exact lf hB.1
  | cut => exact lf hB.1
  | neg b => cases t; refine ⟨?_, fun _ => ?_, fun _ => ?_⟩ <;> (show (4 : Int) ≠ _) <;> lia
  | com a b => cases t; exact ⟨by show (1 : Int) ≠ _; lia, fun _ => by show (1 : Int) ≠ _; lia, fun h => (h rfl).elim⟩
  | sem a b => cases t; exact ⟨by show (2 : Int) ≠ _; lia, fun h => (h rfl).elim, fun _ => by show (2 : Int) ≠ _; lia⟩
  | arr a b => cases t; refine ⟨?_, fun _ => ?_, fun _ => ?_⟩ <;> (show (3 : Int) ≠ _) <;> lia
theorem BdG.le {S S' : Sy} {b : Bd X} (h : BdG S b) (l : S.Le S') : BdG S' b := ⟨h.1, (h.2.le (ι := fun _ => 0) l).1⟩
theorem sp_part_sem {a b : Bd X} (K : Ctx new c us ι n m u g r) (E : Env H n m u g r us S (c i) ns ws) (hR : NR S ι H (r + 3) ns nodes) (hg : S0.Le S) (hl : S.len < 600000) (hB : BdG S (.sem a b)) (hz : bsz (.sem a b) < 2000) (hn : nodes.length < 800000) (hw : ws.length < 800000)
    (h : PQ ι c us n m u g r H S ws nodes (part new x y i nodes.length (.sem a b)) Q) :
    Ok (F_grammar_part [.ref (n + 1), enc (res S) ι (bt (.sem a b)), enc (res S) ι (.v x), enc (res S) ι (.v y), .ref (g + 1), .ref (r + 1)] H) Q := by
  have is : isInst 154 (Str.ofString "functor") H (.ref (n + 1)) = true := E.s.isI rfl
  have e0 : enc (res S) ι (bt (.sem a b)) = .tup [.str (Str.ofString "s"), .int 2, .tup [enc (res S) ι (bt a), enc (res S) ι (bt b)]] := rfl
  have := K.a; have := K.b; have := K.c; have := K.d
  unfold F_grammar_part d_grammar_part
  rw [e0]
  (try with_reducible refine IsW.run ?_); (repeat (first | walk_at "ev" | simp only [is, evA, evB, reduceCtorEq, Nat.reduceAdd, Nat.reduceLT, Nat.reduceLeDiff]))
  refine sp_sym_functor E.s (by lia) fun S1 j H1 s1 l1 f1 n1 _ k1 _ => ?_
  have hj := bar_ge (hg.trans l1) f1
  have B1 := hB.le l1
  have E1 := E.kpS s1 k1 K.a K.b K.c K.d
  have ih := E1.t.isI (name := Str.ofString "hold") rfl rfl
  rw [show SV.tup [.str (Str.ofString "s"), .int 2, .tup [enc (res S) ι (bt a), enc (res S) ι (bt b)]] = enc (res S1) ι (bt (.sem a b)) from (hB.2.le l1 ι).2.symm]
  have e1 : enc (res S1) ι (bt (.sem a b)) = .tup [.str (Str.ofString "s"), .int 2, .tup [enc (res S1) ι (bt a), enc (res S1) ι (bt b)]] := rfl
  have it1 : item H1 (enc (res S1) ι (bt (.sem a b))) (.int 1) = some (.int 2) := rfl
  (try with_reducible refine IsW.run ?_); (repeat (first | walk_at "ev" | simp only [it1, cII, b21, b22, ih, evA, evB, reduceCtorEq, Nat.reduceAdd, Nat.reduceLT, Nat.reduceLeDiff]))
  refine ok_comp ?_
  (try with_reducible refine IsW.run ?_); (repeat (first | walk_at "ev" | simp only [evA, evB, reduceCtorEq, Nat.reduceAdd, Nat.reduceLT, Nat.reduceLeDiff]))
  obtain ⟨l, z, hs, ht, he⟩ := spS_enc (ρ := res S1) (ι := ι) rfl (b := .sem a b)
  have hsz := spS_sz (b := .sem a b)
  have hll : (spS (.sem a b)).length = l.length + 1 := by rw [hs]; simp
  rw [he]
  refine sp_right_spine (fs := [2, (j : Int)]) (by rw [encs_len, List.length_map]; lia) rfl ?_ ?_
  · intro f xs hf
    have tp := top_of hf
    have hz1 := spS_all B1 z (by rw [hs]; simp)
    have tr := top_res (hg.trans l1) f1 hz1 tp
    have : f ≠ .n 2 := fun e => ht (by rw [tp, e])
    simp only [List.any_cons, List.any_nil, Bool.or_false, Bool.or_eq_false_iff]
    exact ⟨beq_eq_false_iff_ne.mpr fun e => tr.2.1 this e.symm, beq_eq_false_iff_ne.mpr fun e => tr.1 e.symm⟩
  have e2 : encs (res S1) ι (l.map bt) ++ [enc (res S1) ι (bt z)] = (spS (.sem a b)).map fun b => enc (res S1) ι (bt b) := by rw [hs, encs_map]; simp
  rw [e2]
  generalize hP : spS (.sem a b) = P at *
  have hq : (H1 ++ [SO.lst (P.map fun b => enc (res S1) ι (bt b))])[H1.length]? = some (.lst (P.map fun b => enc (res S1) ι (bt b))) := app_at
  have ei : iterS (H1 ++ [SO.lst (P.map fun b => enc (res S1) ι (bt b))]) (.ref H1.length) = some (.lst H1.length 0) := wIt hq
  (try with_reducible refine IsW.run ?_); (repeat (first | walk_at "ev" | simp only [ei, evA, evB, reduceCtorEq, Nat.reduceAdd, Nat.reduceLT, Nat.reduceLeDiff]))
  refine boI rfl (ok_compL (fun k src acc H' => ∃ p1 p2, H' = H1 ++ [SO.lst (P.map fun b => enc (res S1) ι (bt b))] ∧ P = p1 ++ p2 ∧ k = p2.length ∧ src = .lst H1.length p1.length ∧ acc = ((p1.map fun c => ((c, x, y) : T3 X)).map (eT S1 ι)).map pV) ?_ ?_ (n := P.length) (by lia) ⟨[], P, rfl, rfl, rfl, rfl, rfl⟩)
  · rintro src acc H' ⟨p1, p2, rfl, e, hn2, rfl, rfl⟩
    have : p2 = [] := List.eq_nil_of_length_eq_zero hn2.symm
    subst this
    rw [List.append_nil] at e; subst e
    refine ⟨by simp [nextS], ?_⟩
    have k2 : Kp (chg n m r) H (H1 ++ [SO.lst (P.map fun b => enc (res S1) ι (bt b))]) := (sy_chg k1).trans (ch' := no) Kp.app (fun _ _ h => h) (fun _ _ h => h.elim)
    have k3 : Kp (chg n m r) H (H1 ++ [SO.lst (P.map fun b => enc (res S1) ι (bt b))] ++ [.lst (((P.map fun c => ((c, x, y) : T3 X)).map (eT S1 ι)).map pV)]) := k2.trans (ch' := no) Kp.app (fun _ _ h => h) (fun _ _ h => h.elim)
    have k13 : Kp no H1 (H1 ++ [SO.lst (P.map fun b => enc (res S1) ι (bt b))] ++ [.lst (((P.map fun c => ((c, x, y) : T3 X)).map (eT S1 ι)).map pV)]) := Kp.trans (ch := no) (ch' := no) Kp.app Kp.app (fun _ _ h => h) (fun _ _ h => h)
    have hrl := E1.t.lt
    (try with_reducible refine IsW.run ?_); (repeat (first | walk_at "ev" | simp only [evA, evB, reduceCtorEq, Nat.reduceAdd, Nat.reduceLT, Nat.reduceLeDiff]))
    refine held_fin (w := 1) (i' := i) (sg := P.map fun c => (c, x, y)) K (E1.kp (ch := no) (E1.f.kp k13 (fun h => h) (fun h => h)) k13 (fun p h => h.elim) K.a K.b K.c K.d) ?_ app_at (by simp; lia) ?_ (by simp; lia) hn hw l1 (by lia) k3 ?_
    · exact (hR.kp k3 (fun p _ h2 => chgF K.a K.b K.c K.d h2)).le l1
    · intro t ht
      obtain ⟨d, hd, rfl⟩ := List.mem_map.mp ht
      exact (spS_all B1 d (by rw [hP]; exact hd)).2
    · rw [← hP]; exact h
  · rintro k src acc H' ⟨p1, p2, rfl, e, hn2, rfl, rfl⟩
    cases p2 with
    | nil => simp at hn2
    | cons d p2 =>
      refine ⟨enc (res S1) ι (bt d), .lst H1.length (p1.length + 1), by simp [nextS, hq, e], ?_⟩
      have hpp : p1.length < 1000000 := by have := congrArg List.length e; simp at this; lia
      (try with_reducible refine IsW.run ?_); (repeat (first | walk_at "ev" | simp only [List.length_map, hpp, evA, evB, reduceCtorEq, Nat.reduceAdd, Nat.reduceLT, Nat.reduceLeDiff]))
      exact ⟨p1 ++ [d], p2, by simp [e], by simpa using hn2, by simp, by simp [pV, eT]; exact ⟨rfl, rfl⟩⟩
end
section
variable {X : Type}
variable {new : Nat → X} {c : Nat → Int} {us : List Int} {ι : X → Int} {n m u g r : Nat} {H : Hp} {S : Sy} {ns ws : List SV} {nodes : List (Nd X)} {Q : SV → Hp → Prop} {x y : X} {i : Nat}
theorem rng_up {k : Nat} (h : k < 900000) : rangeS [.int (k : Int)] = some (.rng 0 (k : Int) 1) := by
  rw [rng1, if_pos (by lia)]
  congr 2
  split <;> lia
theorem nx_up {H : Hp} {d k : Nat} : nextS H (.rng (d : Int) ((k + 1 : Nat) : Int) 1) = some (some (.int (d : Int), .rng ((d + 1 : Nat) : Int) (k : Int) 1)) := by
  simp only [nextS]
  rw [if_pos (by lia)]
  simp only [Option.some.injEq, Prod.mk.injEq, SV.int.injEq, Src.rng.injEq, true_and, and_true]
  lia
inductive PC (new : Nat → X) (c : Nat → Int) (us : List Int) (ι : X → Int) (n m u g r : Nat) (S1 : Sy) (H1 : Hp) (ns ws : List SV) (P : List (Bd X)) (N q8 q10 : Nat) (j body : SV) (x y : X) (i : Nat) (k : Nat) (src : Src) (l' : Loc) (H' : Hp) : Prop
  | mk (d : Nat) (z11 z12 : Option SV) (x' : X) (done : List (T3 X)) (hd : d + k = P.length) (es : src = .rng (d : Int) (k : Int) 1)
      (el : l' = [some (.ref (n + 1)), some body, some (enc (res S1) ι (.v x)), some (enc (res S1) ι (.v y)), some (.ref (g + 1)), some (.ref (r + 1)), some j, some (.int 1), some (.ref q8), some (enc (res S1) ι (.v x')), some (.ref q10), z11, z12, none, none, none])
      (E : Env H' n m u g r us S1 (c (i + min d N)) ns ws) (h8 : H'[q8]? = some (.lst ((done.map (eT S1 ι)).map pV))) (h10 : H'[q10]? = some (.lst (P.map fun b => enc (res S1) ι (bt b)))) (kp : Kp (on m) H1 H') (dl : done.length = d) (sg : done ++ seg new (P.drop d) x' y (i + d) = seg new P x y i)
theorem PC.next {H1 H4 : Hp} {S1 : Sy} {P : List (Bd X)} {N q8 q10 k d : Nat} {j body : SV} {x' xn : X} {z11 z12 : Option SV} {done : List (T3 X)} {bd : Bd X} (K : Ctx new c us ι n m u g r) (h08 : r + 3 < q8) (h010 : q10 = q8 + 1) (h18 : H1.length ≤ q8) (hd : d + (k + 1) = P.length) (E4 : Env H4 n m u g r us S1 (c (i + min (d + 1) N)) ns ws)
    (h8 : H4[q8]? = some (.lst ((done.map (eT S1 ι)).map pV))) (h10 : H4[q10]? = some (.lst (P.map fun b => enc (res S1) ι (bt b)))) (k4 : Kp (on m) H1 H4) (dl : done.length = d) (sg : done ++ (bd, x', xn) :: seg new (P.drop (d + 1)) xn y (i + (d + 1)) = seg new P x y i) :
    PC new c us ι n m u g r S1 H1 ns ws P N q8 q10 j body x y i k (.rng ((d + 1 : Nat) : Int) (k : Int) 1) [some (.ref (n + 1)), some body, some (enc (res S1) ι (.v x)), some (enc (res S1) ι (.v y)), some (.ref (g + 1)), some (.ref (r + 1)), some j, some (.int 1), some (.ref q8), some (enc (res S1) ι (.v xn)), some (.ref q10), z11, z12, none, none, none]
      (H4.set q8 (.lst (((done.map (eT S1 ι)).map pV) ++ [.tup [enc (res S1) ι (bt bd), enc (res S1) ι (.v x'), enc (res S1) ι (.v xn)]]))) := by
  have d1 := K.a; have d2 := K.b; have d3 := K.c; have d4 := K.d
  have ks : Kp (on q8) H4 (H4.set q8 (.lst (((done.map (eT S1 ι)).map pV) ++ [.tup [enc (res S1) ι (bt bd), enc (res S1) ι (.v x'), enc (res S1) ι (.v xn)]]))) := Kp.set rfl
  refine ⟨d + 1, _, _, xn, done ++ [(bd, x', xn)], by lia, rfl, rfl, ?_, ?_, ?_, ?_, by simp [dl], by rw [List.append_assoc]; exact sg⟩
  · exact E4.kp (E4.f.kp ks (fun h => by have h : m = q8 := h; lia) (fun h => by have h : m + 1 = q8 := h; lia)) ks (fun p h => Or.inr (by have h : p = q8 := h; lia)) K.a K.b K.c K.d
  · rw [set_at h8]; simp [pV, eT]
  · exact ks.keep _ _ h10 (fun h => by have h : q10 = q8 := h; lia)
  · exact k4.trans ks (fun _ _ h => h) (fun p hp h => by have h : p = q8 := h; lia)
theorem com_it {S1 : Sy} {P : List (Bd X)} {d q : Nat} {bd : Bd X} (hx : P[d]? = some bd) (hN : P.length < 2001) (h : H[q]? = some (.lst (P.map fun b => enc (res S1) ι (bt b)))) : item H (.ref q) (.int (d : Int)) = some (enc (res S1) ι (bt bd)) := by
  have := (List.getElem?_eq_some_iff.mp hx).1
  rw [item_n h (by lia), List.getElem?_map, hx]; rfl
theorem sp_part_com {a b : Bd X} (K : Ctx new c us ι n m u g r) (E : Env H n m u g r us S (c i) ns ws) (hR : NR S ι H (r + 3) ns nodes) (hg : S0.Le S) (hl : S.len < 600000) (hB : BdG S (.com a b)) (hz : bsz (.com a b) < 2000) (hn : nodes.length < 800000) (hw : ws.length < 800000)
    (h : PQ ι c us n m u g r H S ws nodes (part new x y i nodes.length (.com a b)) Q) :
    Ok (F_grammar_part [.ref (n + 1), enc (res S) ι (bt (.com a b)), enc (res S) ι (.v x), enc (res S) ι (.v y), .ref (g + 1), .ref (r + 1)] H) Q := by
  have is : isInst 154 (Str.ofString "functor") H (.ref (n + 1)) = true := E.s.isI rfl
  have e0 : enc (res S) ι (bt (.com a b)) = .tup [.str (Str.ofString "s"), .int 1, .tup [enc (res S) ι (bt a), enc (res S) ι (bt b)]] := rfl
  have d1 := K.a; have d2 := K.b; have d3 := K.c; have d4 := K.d
  unfold F_grammar_part d_grammar_part
  rw [e0]
  (try with_reducible refine IsW.run ?_); (repeat (first | walk_at "ev" | simp only [is, evA, evB, reduceCtorEq, Nat.reduceAdd, Nat.reduceLT, Nat.reduceLeDiff]))
  refine sp_sym_functor E.s (by lia) fun S1 j H1 s1 l1 f1 n1 _ k1 _ => ?_
  have hj := bar_ge (hg.trans l1) f1
  have B1 := hB.le l1
  have E1 := E.kpS s1 k1 K.a K.b K.c K.d
  rw [show SV.tup [.str (Str.ofString "s"), .int 1, .tup [enc (res S) ι (bt a), enc (res S) ι (bt b)]] = enc (res S1) ι (bt (.com a b)) from (hB.2.le l1 ι).2.symm]
  have it1 : item H1 (enc (res S1) ι (bt (.com a b))) (.int 1) = some (.int 1) := rfl
  rw [show enc (res S) ι (.v x) = enc (res S1) ι (.v x) from rfl, show enc (res S) ι (.v y) = enc (res S1) ι (.v y) from rfl]
  (try with_reducible refine IsW.run ?_); (repeat (first | walk_at "ev" | simp only [it1, cII, b11, evA, evB, reduceCtorEq, Nat.reduceAdd, Nat.reduceLT, Nat.reduceLeDiff]))
  obtain ⟨l, z, hs, ht, he⟩ := spC_enc (ρ := res S1) (ι := ι) rfl (b := .com a b)
  have hsz := spC_sz (b := .com a b)
  have hll : (spC (.com a b)).length = l.length + 1 := by rw [hs]; simp
  have hlb : (spC (.com a b)).length = (spC b).length + 1 := rfl
  have hh : PQ ι c us n m u g r H S ws nodes (held 0 nodes.length (i + ((spC (.com a b)).length - 1)) (seg new (spC (.com a b)) x y i)) Q := h
  have hq8 : H1.length < (H1 ++ [SO.lst []]).length := by simp
  rw [he]
  refine sp_right_spine (fs := [1]) (by rw [encs_len, List.length_map]; lia) rfl ?_ ?_
  · intro f xs hf
    have tp := top_of hf
    have hz1 := spC_all B1 z (by rw [hs]; simp)
    have tr := top_res (hg.trans l1) f1 hz1 tp
    have : f ≠ .n 1 := fun e => ht (by rw [tp, e])
    simp only [List.any_cons, List.any_nil, Bool.or_false]
    exact beq_eq_false_iff_ne.mpr fun e => tr.2.2 this e.symm
  have e2 : encs (res S1) ι (l.map bt) ++ [enc (res S1) ι (bt z)] = (spC (.com a b)).map fun b => enc (res S1) ι (bt b) := by rw [hs, encs_map]; simp
  rw [e2, ← he]
  have hBP := spC_all B1
  clear ht hs he e2
  generalize enc (res S1) ι (bt (.com a b)) = body
  generalize spC (.com a b) = P at *
  have hN : P.length < 2001 := by lia
  obtain ⟨N, hNN⟩ : ∃ N, P.length = N + 1 := ⟨l.length, hll⟩
  have hq10 : (H1 ++ [SO.lst []] ++ [SO.lst (P.map fun b => enc (res S1) ι (bt b))])[(H1 ++ [SO.lst []]).length]? = some (.lst (P.map fun b => enc (res S1) ι (bt b))) := app_at
  have hq8' : (H1 ++ [SO.lst []] ++ [SO.lst (P.map fun b => enc (res S1) ι (bt b))])[H1.length]? = some (.lst []) := app_old app_at
  have k13 : Kp no H1 (H1 ++ [SO.lst []] ++ [SO.lst (P.map fun b => enc (res S1) ι (bt b))]) := Kp.trans (ch := no) (ch' := no) Kp.app Kp.app (fun _ _ h => h) (fun _ _ h => h)
  generalize H1 ++ [SO.lst []] ++ [SO.lst (P.map fun b => enc (res S1) ι (bt b))] = H3 at hq10 hq8' k13 ⊢
  have hq10e : (H1 ++ [SO.lst []]).length = H1.length + 1 := by simp
  rw [hq10e] at hq10 ⊢
  have el : fLen [.ref (H1.length + 1)] H3 = some (.int ((P.length : Nat) : Int), H3) := len_ref hq10 (by simp) (by lia)
  have er := rng_up (k := P.length) (by lia)
  have hrl := E1.t.lt
  (try with_reducible refine IsW.run ?_); (repeat (first | walk_at "ev" | simp only [el, er, evA, evB, reduceCtorEq, Nat.reduceAdd, Nat.reduceLT, Nat.reduceLeDiff]))
  (try with_reducible refine IsW.run ?_); (repeat (first | walk_at "ev" | simp only [evA, evB, reduceCtorEq, Nat.reduceAdd, Nat.reduceLT, Nat.reduceLeDiff]))
  refine oks_forLJ (PC new c us ι n m u g r S1 H1 ns ws P N H1.length (H1.length + 1) (.int (j : Int)) body x y i) ?_ ?_ (n := P.length) (by lia)
      ⟨0, none, none, x, [], Nat.zero_add _, rfl, rfl, ?_, hq8', hq10, no_le k13, rfl, rfl⟩
  · rintro src l' H' ⟨d, z11, z12, x', done, hd, rfl, rfl, E', h8, h10, k', hdl, hsg⟩
    refine ⟨by simp [nextS], ?_⟩
    obtain rfl : d = P.length := hd
    rw [List.drop_length] at hsg
    simp only [seg_1, seg_2, seg_3, List.append_nil] at hsg
    have ih := E'.t.isI (name := Str.ofString "hold") rfl rfl
    (try with_reducible refine IsW.run ?_); (repeat (first | walk_at "ev" | simp only [ih, evA, evB, reduceCtorEq, Nat.reduceAdd, Nat.reduceLT, Nat.reduceLeDiff]))
    rw [hNN] at hh E'
    rw [Nat.min_eq_right (by lia)] at E'
    have kk : Kp (chg n m r) H H' := (sy_chg k1).trans k' (fun _ _ h => h) (fun _ _ h => Or.inr (Or.inl h))
    refine held_fin (w := 0) (i' := i + N) (sg := seg new P x y i) K E' ?_ (by rw [← hsg]; exact h8) (by lia) ?_ (by rw [seg_len]; lia) hn hw l1 (by lia) kk hh
    · exact (hR.kp kk (fun p _ h2 => chgF K.a K.b K.c K.d h2)).le l1
    · intro t ht
      exact (hBP t.1 (by rw [← seg_fst (new := new) (l := P) (x := x) (y := y) (i := i)]; exact List.mem_map.mpr ⟨t, ht, rfl⟩)).2
  · rintro J mk k src l' H' ⟨d, z11, z12, x', done, hd, rfl, rfl, E', h8, h10, k', hdl, hsg⟩
    refine ⟨.int (d : Int), .rng ((d + 1 : Nat) : Int) (k : Int) 1, nx_up, Nat.lt_of_sub_eq_succ rfl, ?_⟩
    obtain ⟨bd, hx⟩ : ∃ bd, P[d]? = some bd := ⟨_, List.getElem?_eq_getElem (by lia)⟩
    have hdr := drop_at hx
    have el' : fLen [.ref (H1.length + 1)] H' = some (.int ((P.length : Nat) : Int), H') := len_ref h10 (by simp) (by lia)
    have hle : ((done.map (eT S1 ι)).map pV).length < 1000000 := by rw [List.length_map, List.length_map]; lia
    by_cases hlt : d < N
    · have t1 : decide ((d : Int) + 1 < ((P.length : Nat) : Int)) = true := decide_eq_true (by lia)
      have gi := gv_is E'.g
      rw [Nat.min_eq_left (by lia)] at E'
      (try with_reducible refine IsW.run ?_); (repeat (first | walk_at "ev" | simp only [addF, cII, el', t1, gi, evA, evB, reduceCtorEq, Nat.reduceAdd, Nat.reduceLT, Nat.reduceLeDiff]))
      refine sp_variable E'.f E'.g K.hu (by lia) (by lia) (by lia) fun H4 f4 k4 _ => ?_
      rw [← K.hc] at f4
      rw [← K.hi]
      have E4 := E'.kp f4 k4 (fun p h => Or.inl h) K.a K.b K.c K.d
      rw [Nat.add_assoc, ← Nat.min_eq_left (show d + 1 ≤ N by lia)] at E4
      have h8' := k4.keep _ _ h8 (fun h => by have h : H1.length = m := h; lia)
      have h10' := k4.keep _ _ h10 (fun h => by have h : H1.length + 1 = m := h; lia)
      have ap8 := ap_lst (v := .tup [enc (res S1) ι (bt bd), enc (res S1) ι (.v x'), enc (res S1) ι (.v (new (i + d)))]) h8' hle
      have evn : (.tup [.str (Str.ofString "v"), .int (ι (new (i + d)))] : SV) = enc (res S1) ι (.v (new (i + d))) := rfl
      (try with_reducible refine IsW.run ?_); (repeat (first | walk_at "ev" | simp only [ty_lst h8', com_it hx hN h10', ap8, pvN, evn, evA, evB, reduceCtorEq, Nat.reduceAdd, Nat.reduceLT, Nat.reduceLeDiff]))
      refine mk (PC.next K (by lia) rfl (Nat.le_refl _) hd E4 h8' h10' (k'.trans k4 (fun _ _ h => h) (fun _ _ h => h)) hdl ?_)
      rw [← hsg, hdr]
      have hne : P.drop (d + 1) ≠ [] := by
        intro e
        have := congrArg List.length e
        simp at this; lia
      cases hdd : P.drop (d + 1) with
      | nil => exact absurd hdd hne
      | cons b1 r1 => simp [seg_1, seg_2, seg_3, Nat.add_assoc]
    · have t1 : decide ((d : Int) + 1 < ((P.length : Nat) : Int)) = false := decide_eq_false (by lia)
      have ap8 := ap_lst (v := .tup [enc (res S1) ι (bt bd), enc (res S1) ι (.v x'), enc (res S1) ι (.v y)]) h8 hle
      (try with_reducible refine IsW.run ?_); (repeat (first | walk_at "ev" | simp only [addF, cII, el', t1, ty_lst h8, com_it hx hN h10, ap8, pvN, evA, evB, reduceCtorEq, Nat.reduceAdd, Nat.reduceLT, Nat.reduceLeDiff]))
      refine mk (PC.next K (by lia) rfl (Nat.le_refl _) hd (by rw [Nat.min_eq_right (by lia)] at E' ⊢; exact E') h8 h10 k' hdl ?_)
      rw [← hsg, hdr, List.drop_eq_nil_of_le (show P.length ≤ d + 1 by lia)]
      simp [seg_1, seg_2, seg_3]
  · rw [Nat.zero_min, Nat.add_zero]
    exact E1.kp (ch := no) (E1.f.kp k13 (fun h => h) (fun h => h)) k13 (fun p h => h.elim) K.a K.b K.c K.d
end
section
variable {X : Type}
variable {new : Nat → X} {c : Nat → Int} {us : List Int} {ι : X → Int} {n m u g r : Nat} {H : Hp} {S : Sy} {ns ws : List SV} {nodes : List (Nd X)} {Q : SV → Hp → Prop} {x y : X} {i : Nat}
theorem sp_part {b : Bd X} (K : Ctx new c us ι n m u g r) (E : Env H n m u g r us S (c i) ns ws) (hR : NR S ι H (r + 3) ns nodes) (hg : S0.Le S) (hl : S.len < 600000) (hB : BdG S b) (hz : bsz b < 2000) (hn : nodes.length < 700000) (hw : ws.length < 700000)
    (h : PQ ι c us n m u g r H S ws nodes (part new x y i nodes.length b) Q) :
    Ok (F_grammar_part [.ref (n + 1), enc (res S) ι (bt b), enc (res S) ι (.v x), enc (res S) ι (.v y), .ref (g + 1), .ref (r + 1)] H) Q := by
  cases b with
  | tx l => exact sp_part_leaf K E hR hg hl hB hB.1 h
  | p l => exact sp_part_leaf K E hR hg hl hB hB.1 h
  | v l => exact sp_part_leaf K E hR hg hl hB hB.1 h
  | cut => exact sp_part_leaf K E hR hg hl hB hB.1 h
  | cur l => exact sp_part_leaf K E hR hg hl hB hB.1 h
  | neg a => exact sp_part_neg K E hR hg hl hB.2 hn hw h
  | com a b => exact sp_part_com K E hR hg hl hB hz (by lia) (by lia) h
  | sem a b => exact sp_part_sem K E hR hg hl hB hz (by lia) (by lia) h
  | arr a b => exact sp_part_arr K E hR hg hl hB.2 (by lia) (by lia) h
theorem sp_tree {b x y : SV} (h : ∀ H', TrAt H' H.length [goalV b] [wV 0 (b, x, y)] → Kp no H H' → Q (.ref (H.length + 1)) H') : Ok (fNew 379 F_GrammarTree_init [b, x, y] H) Q := by
  have q1 : ∀ L v, setFld (H ++ .flds [] :: .inst 379 H.length :: L) 379 (Str.ofString "nodes") v (.ref (H.length + 1)) = some (H ++ .flds [(Str.ofString "nodes", v)] :: .inst 379 H.length :: L) := fun L v => by rw [setFld_new (by decide)]; rfl
  have q2 : ∀ L v a, setFld (H ++ .flds [(Str.ofString "nodes", a)] :: .inst 379 H.length :: L) 379 (Str.ofString "waiting") v (.ref (H.length + 1)) = some (H ++ .flds [(Str.ofString "nodes", a), (Str.ofString "waiting", v)] :: .inst 379 H.length :: L) := fun L v a => by rw [setFld_new (by simp)]; rfl
  unfold F_GrammarTree_init d_GrammarTree_init
  (try with_reducible refine IsW.run ?_); (repeat (first | walk_at "ev" | simp only [List.append_assoc, q1, q2, List.length_append, evA, evB, reduceCtorEq, Nat.reduceAdd, Nat.reduceLT, Nat.reduceLeDiff]))
  exact h _ ⟨apk, ap0, apk, apk⟩ Kp.app
theorem new_un {C : Addr} {F : Fn} {vs : List SV} {Q : Hp → Prop} (h : Ok (fNew C F vs H) fun v H' => v = .ref (H.length + 1) ∧ Q H') : Ok (F (.ref (H.length + 1) :: vs) (H ++ [.flds [], .inst C H.length])) fun r H' => r = .none ∧ Q H' :=
  (ok_new.mp h).imp fun _ _ h => ⟨h.1, h.2.2⟩
theorem eW_le {S S' : Sy} (l : S.Le S') : ∀ {wt : List (Nat × T3 X)}, (∀ w ∈ wt, BdG S w.2.1) → wt.map (eW S' ι) = wt.map (eW S ι)
  | [], _ => rfl
  | w :: r, h => by
    rw [List.map_cons, List.map_cons, eW_le l (wt := r) fun w hw => h w (by simp [hw])]
    have := ((h w (by simp)).2.le l ι).2
    simp only [eW, eT, this]; rfl
theorem MOk.le {S S' : Sy} {B : Nat} {s : Ms X} (h : MOk S B s) (l : S.Le S') : MOk S' B s := ⟨h.op, fun w hw => ⟨(h.wt w hw).1, (h.wt w hw).2.le l⟩, h.sz, h.ne⟩
noncomputable def st0 (b : Bd X) (x y : X) (i : Nat) : Ms X := ⟨[.goal (bt b)], [(0, b, x, y)], i⟩
noncomputable def fin (new : Nat → X) (b : Bd X) (x y : X) (i : Nat) : Ms X := mrun new (bsz b) (st0 b x y i)
noncomputable def ans (s : Ms X) : Tr X := (vals 0 s.nodes).headD (.a 0)
inductive BJ (new : Nat → X) (c : Nat → Int) (us : List Int) (ι : X → Int) (n m u g r : Nat) (S : Sy) (H1 : Hp) (b : Bd X) (x y : X) (i : Nat) (k : Nat) (l : Loc) (H' : Hp) : Prop
  | mk (nodes : List (Nd X)) (wt : List (Nat × T3 X)) (i' : Nat) (S' : Sy) (ns : List SV) (z6 z7 z8 z9 : Option SV) (el : l = [some (.ref (n + 1)), some (enc (res S) ι (bt b)), some (enc (res S) ι (.v x)), some (enc (res S) ι (.v y)), some (.ref (g + 1)), some (.ref (r + 1)), z6, z7, z8, z9])
    (E : Env H' n m u g r us S' (c i') ns (wt.map (eW S' ι)).reverse) (R : NR S' ι H' (r + 3) ns nodes) (M : MOk S' (1 + 3 * bsz b) ⟨nodes, wt, i'⟩) (hk : wtz wt ≤ k) (run : mrun new k ⟨nodes, wt, i'⟩ = fin new b x y i) (le : S.Le S') (len : S'.len + 4 * wtz wt ≤ S.len + 4 * bsz b) (kp : Kp (chg n m r) H1 H')
theorem ans_kin {S' : Sy} {i' : Nat} (hR : NR S' ι H (r + 3) ns nodes) : KIn S' (ans (⟨nodes, [], i'⟩ : Ms X)) := by
  have := vals_kin (S := S') (off := 0) (l := nodes) fun t ht => by
    obtain ⟨p, hp⟩ := List.getElem?_of_mem ht
    obtain ⟨v, _, hv⟩ := hR.at' p _ hp
    exact hv.2
  unfold ans
  cases hv : vals 0 nodes with
  | nil => trivial
  | cons t r => rw [hv] at this; exact this.1
theorem sl69 {a b c d e f g h i j : Option SV} {x y z w : SV} : setLs [a, b, c, d, e, f, g, h, i, j] [6, 7, 8, 9] [x, y, z, w] = some [a, b, c, d, e, f, some x, some y, some z, some w] := rfl
theorem sp_body {b : Bd X} (hc : ∀ i, c (i + 1) = nx us (c i) + 1) (hi : ∀ i, ι (new i) = nx us (c i)) (hu : us.length < 2900) (d1 : n + 5 < m) (d2 : m + 1 < u) (d3 : u < g) (d4 : g + 1 < H.length)
    (hS : SymAt H n S) (hF : FrAt H m (c i)) (hG : GvAt H g m u us) (hg : S0.Le S) (hl : S.len < 100000) (hB : BdG S b) (hz : bsz b < 500)
    (h : ∀ H' S', SymAt H' n S' → S.Le S' → S'.len ≤ S.len + 4 * bsz b → FrAt H' m (c (fin new b x y i).i) → Kp (fun p => sy n p ∨ p = m) H H' → KIn S' (ans (fin new b x y i)) → Q (enc (res S') ι (ans (fin new b x y i))) H') :
    Ok (F_grammar_body [.ref (n + 1), enc (res S) ι (bt b), enc (res S) ι (.v x), enc (res S) ι (.v y), .ref (g + 1)] H) Q := by
  have ev0 : ∀ S1 (z : X), enc (res S1) ι (.v z) = enc (res S) ι (.v z) := fun _ _ => rfl
  unfold F_grammar_body d_grammar_body
  (try with_reducible refine IsW.run ?_); (repeat (first | walk_at "ev" | simp only [evA, evB, reduceCtorEq, Nat.reduceAdd, Nat.reduceLT, Nat.reduceLeDiff]))
  refine new_un (sp_tree fun H1 t1 k1 => ⟨rfl, ?_⟩)
  obtain ⟨r, hr⟩ : ∃ r, H.length = r := ⟨_, rfl⟩
  rw [hr] at t1 d4
  have K : Ctx new c us ι n m u g r := ⟨hc, hi, hu, d1, d2, d3, d4⟩
  (try with_reducible refine IsW.run ?_); (repeat (first | walk_at "ev" | simp only [evA, evB, reduceCtorEq, Nat.reduceAdd, Nat.reduceLT, Nat.reduceLeDiff]))
  rw [hr]
  (try with_reducible refine IsW.run ?_); (repeat (first | walk_at "ev" | simp only [evA, evB, reduceCtorEq, Nat.reduceAdd, Nat.reduceLT, Nat.reduceLeDiff]))
  refine oks_whileJ (BJ new c us ι n m u g r S H1 b x y i) ?_ (n := bsz b) (by lia)
    ⟨[.goal (bt b)], [(0, b, x, y)], i, S, _, _, _, _, _, rfl, ⟨hS.kp k1 (fun _ _ _ h => h), hF.kp k1 (fun h => h) (fun h => h), hG.kp k1 (fun h => h) (fun h => h) (fun h => h), t1⟩, NR.goals (l := [bt b]) ⟨hB.2, trivial⟩, ⟨?_, ?_, ?_, by simp⟩, by simp [wtz, bss], rfl, Sy.Le.refl _, by simp [wtz, bss], Kp.refl⟩
  · rintro J mk k l H' ⟨nodes, wt, i', S', ns, z6, z7, z8, z9, rfl, E, hR, hM, hk, hrun, l', hlen, kk⟩
    have hMs := hM.sz
    cases wt with
    | nil =>
      have hfin : fin new b x y i = ⟨nodes, [], i'⟩ := by rw [← hrun, mrun_nil rfl]
      have tw := tr_lst E.t.wait (by simp)
      have ig := E.t.isI (name := Str.ofString "goal") rfl rfl
      (try with_reducible refine IsW.run ?_); (repeat (first | walk_at "ev" | simp only [E.t.fw, tw, List.map_nil, List.reverse_nil, List.isEmpty_nil, Bool.not_true, ig, evA, evB, reduceCtorEq, Nat.reduceAdd, Nat.reduceLT, Nat.reduceLeDiff]))
      have hn2 : nodes.length + 3 * wtz ([] : List (Nat × T3 X)) ≤ 1 + 3 * bsz b := hMs
      refine sp_goal E.t hR hM.op hM.ne (by show nodes.length < 2900; lia) fun H2 k2 => ?_
      have kA : Kp (chg n m r) H H2 := (k1.trans kk (fun _ _ h => h.elim) (fun _ _ h => h)).trans k2 (fun _ _ h => h) (fun _ _ h => h.elim)
      have := h H2 S' (E.s.kp k2 (fun _ _ _ h => h)) l' (by simp only [wtz, bss] at hlen; lia) (by rw [hfin]; exact E.f.kp k2 (fun h => h) (fun h => h)) (kA.mono fun p hp h => by unfold chg tr at h; rcases h with h | h | h; exact Or.inl h; exact Or.inr h; lia)
      rw [hfin] at this
      exact this (ans_kin hR)
    | cons w r0 =>
      obtain ⟨k0, b0, x0, y0, rfl⟩ : ∃ k0 b0 x0 y0, w = (k0, b0, x0, y0) := ⟨_, _, _, _, rfl⟩
      have hB0 : BdG S' b0 := (hM.wt (k0, b0, x0, y0) (by simp)).2
      have hk0 : k0 < nodes.length := (hM.wt (k0, b0, x0, y0) (by simp)).1
      have hr0 : ∀ w ∈ r0, BdG S' w.2.1 := fun w hw => (hM.wt w (by simp [hw])).2
      have hzw : wtz ((k0, b0, x0, y0) :: r0) = bsz b0 + wtz r0 := wtz_cons
      have hb0 := bsz_pos (b := b0)
      simp only [hzw] at hMs hk hlen
      have hrl : r0.length ≤ wtz r0 := by have := bss_all (l := r0.map fun w => w.2.1); rw [List.length_map] at this; exact this
      obtain ⟨s', hs'⟩ := mstep_ok (new := new) (r := r0) hM (by lia) rfl
      rw [hzw] at hs'
      have hsz : (nodes ++ (part new x0 y0 i' nodes.length b0).add).length + 3 * wtz ((part new x0 y0 i' nodes.length b0).wt ++ r0) ≤ 1 + 3 * bsz b := by have := s'.sz; simpa [mstep] using this
      have hsw : wtz ((part new x0 y0 i' nodes.length b0).wt ++ r0) < bsz b0 + wtz r0 := hs'
      obtain ⟨k, rfl⟩ : ∃ k', k = k' + 1 := ⟨k - 1, by lia⟩
      have tw := tr_lst E.t.wait (by simp; lia)
      have hw1 : H'[r + 3]? = some (.lst ((r0.map (eW S' ι)).reverse ++ [eW S' ι (k0, b0, x0, y0)])) := by rw [E.t.wait]; simp
      have fp := fpop hw1 (by simp; lia)
      have emp : (((k0, b0, x0, y0) :: r0).map (eW S' ι)).reverse.isEmpty = false := by simp
      have tyw := ty_lst E.t.wait
      have k2 : Kp (tr r) H' (H'.set (r + 3) (.lst (r0.map (eW S' ι)).reverse)) := Kp.set (Or.inr rfl)
      have E2 := E.tr d1 d2 d3 d4 k2 (E.t.setW (ws' := (r0.map (eW S' ι)).reverse))
      have R2 : NR S' ι _ (r + 3) ns nodes := hR.kp k2 (fun p _ h2 => trF h2)
      (try with_reducible refine IsW.run ?_); (repeat (first | walk_at "ev" | simp only [E.t.fw, tw, emp, Bool.not_false, tyw, fp, evA, evB, reduceCtorEq, Nat.reduceAdd, Nat.reduceLT, Nat.reduceLeDiff]))
      have ew : eW S' ι (k0, b0, x0, y0) = .tup [.int (k0 : Int), enc (res S') ι (bt b0), enc (res S') ι (.v x0), enc (res S') ι (.v y0)] := rfl
      (try with_reducible refine IsW.run ?_); (repeat (first | walk_at "ev" | simp only [ew, sl69, evA, evB, reduceCtorEq, Nat.reduceAdd, Nat.reduceLT, Nat.reduceLeDiff]))
      refine sp_part K E2 R2 (hg.trans l') (by lia) hB0 (by lia) (by lia) (by simp; lia) fun H3 S3 v ns3 E3 l3 n3 R3 nd3 k3 => ?_
      have hl3 := R3.len
      have st := setL_ok (e := v) (k := k0) E3.t.nodes (by rw [hl3]; simp; lia) (by rw [hl3]; lia)
      have k4 : Kp (tr r) H3 (H3.set (r + 2) (.lst (ns3.set k0 v))) := Kp.set (Or.inl rfl)
      (try with_reducible refine IsW.run ?_); (repeat (first | walk_at "ev" | simp only [E3.t.fn, st, evA, evB, reduceCtorEq, Nat.reduceAdd, Nat.reduceLT, Nat.reduceLeDiff]))
      have tt := E3.t.setN (ns' := ns3.set k0 v)
      rw [← eW_le l3 hr0, ← List.reverse_append, ← List.map_append] at tt
      exact ⟨k, Nat.lt_succ_self _, mk ⟨_, (part new x0 y0 i' nodes.length b0).wt ++ r0, (part new x0 y0 i' nodes.length b0).i, S3, _, _, _, _, _, rfl, E3.tr d1 d2 d3 d4 k4 tt, (R3.set nd3).kp k4 (fun p _ h2 => trF h2), s'.le l3, by lia, hrun, l'.trans l3, by lia,
        ((kk.trans k2 (fun _ _ h => h) (fun _ _ h => Or.inr (Or.inr h))).trans k3 (fun _ _ h => h) (fun _ _ h => h)).trans k4 (fun _ _ h => h) (fun _ _ h => Or.inr (Or.inr h))⟩⟩
  · intro p nd hp
    rcases p with _ | p
    · simp only [List.getElem?_cons_zero, Option.some.injEq] at hp; subst hp; trivial
    · simp at hp
  · intro w hw
    simp only [List.mem_singleton] at hw
    subst hw
    exact ⟨by simp, hB⟩
  · simp [wtz, bss]
end
section
variable {X : Type}
mutual
theorem enc_congr {ρ : Fu → Int} {ι ι' : X → Int} : ∀ {t : Tr X}, (∀ x ∈ vrs t, ι x = ι' x) → enc ρ ι t = enc ρ ι' t
  | .a _, _ => rfl
  | .i _, _ => rfl
  | .v x, h => by rw [enc_3, enc_3, h x (List.mem_singleton_self x)]
  | .s f l, h => by rw [enc_4, enc_4, encs_congr (l := l) fun x hx => h x hx]
theorem encs_congr {ρ : Fu → Int} {ι ι' : X → Int} : ∀ {l : List (Tr X)}, (∀ x ∈ vrss l, ι x = ι' x) → encs ρ ι l = encs ρ ι' l
  | [], _ => rfl
  | t :: r, h => by rw [encs_2, encs_2, enc_congr (t := t) fun x hx => h x (List.mem_append_left _ hx), encs_congr (l := r) fun x hx => h x (List.mem_append_right _ hx)]
end
theorem nx_congr {us us' : List Int} (h : ∀ k, k ∈ us ↔ k ∈ us') {k : Int} : nx us k = nx us' k := by
  have : ∀ n k, ms us k = n → nx us k = nx us' k := by
    intro n
    induction n using Nat.strongRecOn with
    | _ n ih =>
      intro k e
      rw [nx_eq (us := us), nx_eq (us := us')]
      by_cases hk : k ∈ us
      · rw [if_pos hk, if_pos ((h k).mp hk)]
        exact ih _ (by rw [← e]; exact ms_lt hk) _ rfl
      · rw [if_neg hk, if_neg fun h2 => hk ((h k).mpr h2)]
  exact this _ k rfl
noncomputable def ruleT (j : Nat) (l : List X) (pb : Option (List (Option X))) (b : Bd X) : Tr X :=
  .s (.n 8) [match pb with | none => headT j l | some q => .s (.n 1) [headT j l, lsT (q.map itm) (.a 0)], bt b]
noncomputable def tranT (new : Nat → X) (l : List X) (pb : Option (List (Option X))) (b : Bd X) : Tr X × Nat :=
  match pb with
  | none => (.s (.n 5) [.s (.p (l.length + 2)) (l.map .v ++ [.v (new 0), .v (new 1)]), ans (fin new b (new 0) (new 1) 2)], (fin new b (new 0) (new 1) 2).i)
  | some q => (.s (.n 5) [.s (.p (l.length + 2)) (l.map .v ++ [.v (new 0), .v (new 1)]), .s (.n 1) [ans (fin new b (new 0) (new 2) 3), .s (.n 10) [.v (new 1), lsT (q.map itm) (.v (new 2))]]], (fin new b (new 0) (new 2) 3).i)
variable {new : Nat → X} {c : Nat → Int} {us : List Int} {ι : X → Int} {n m u g r : Nat} {H : Hp} {S : Sy} {ns ws : List SV} {nodes : List (Nd X)} {Q : SV → Hp → Prop} {x y : X} {i : Nat}
theorem pyS : pyD (.str (Str.ofString "s")) = some (.str (Str.ofString "s")) := by
  have : PyData.strOk (Str.ofString "s") = true := by decide +kernel
  simp only [pyD, this, if_true]
theorem dneS {H : Hp} : cmpD true H (.str (Str.ofString "s")) (.str (Str.ofString "s")) = some false := cmp_same (d := .str (Str.ofString "s")) pyS pyS (by decide +kernel)
theorem dne8 {H : Hp} : cmpD true H (.int 8) (.int 8) = some false := cmp_same (d := .int 8) rfl rfl (by decide +kernel)
theorem headT_not1 {j : Nat} {l : List X} (hg : S0.Le S) (hk : KIn S (headT j l)) : (l = [] ∧ enc (res S) ι (headT j l) = .tup [.str (Str.ofString "a"), .int (j : Int)]) ∨ ∃ k e, enc (res S) ι (headT j l) = .tup [.str (Str.ofString "s"), .int k, e] ∧ (k == 1) = false := by
  cases l with
  | nil => exact Or.inl ⟨rfl, rfl⟩
  | cons a r =>
    obtain ⟨⟨j', k, h1, h2⟩, _⟩ := hk
    refine Or.inr ⟨_, _, rfl, ?_⟩
    rw [res_p h1 h2]
    have := pnum hg h1 h2
    exact beq_eq_false_iff_ne.mpr (by lia)
end
section
variable {X : Type}
noncomputable def ndz : Nd X → Nat
  | .goal t => sz t
  | .op _ ps => ps.length + 3
noncomputable def ndr : Nd X → List Nat
  | .goal _ => []
  | .op _ ps => ps
noncomputable def nz (l : List (Nd X)) : Nat := (l.map ndz).sum
noncomputable def nr (l : List (Nd X)) : List Nat := l.flatMap ndr
theorem jn_sz {f : Int} : ∀ {l : List (Tr X)}, sz (jn f l) ≤ szs l + l.length + 1
  | [] => by simp [jn_1, jn_2, jn_3, sz_1, sz_2, sz_3, sz_4]
  | [t] => by simp only [jn_1, jn_2, jn_3, szs_1, szs_2]; lia
  | t :: u :: r => by
    have := jn_sz (f := f) (l := u :: r)
    simp only [jn_1, jn_2, jn_3, sz_1, sz_2, sz_3, sz_4, szs_1, szs_2, List.length_cons] at *
    lia
theorem comb_sz : ∀ {w : Nat} {l : List (Tr X)}, sz (comb w l) ≤ szs l + l.length + 3
  | 0, l => Nat.le_trans (jn_sz (f := 1)) (Nat.add_le_add_left (Nat.le_of_ble_eq_true rfl) _)
  | 1, l => Nat.le_trans (jn_sz (f := 2)) (Nat.add_le_add_left (Nat.le_of_ble_eq_true rfl) _)
  | 2, l => by
    show sz (.s (.n 3) [l.headD (.a 0), l.tail.headD (.a 0)]) ≤ _
    rcases l with _ | ⟨a, _ | ⟨b, r⟩⟩ <;> simp [sz_1, sz_2, sz_3, sz_4, szs_1, szs_2] <;> lia
  | w + 3, l => by
    show sz (.s (.n 4) [l.headD (.a 0)]) ≤ _
    rcases l with _ | ⟨a, r⟩ <;> simp [sz_1, sz_2, sz_3, sz_4, szs_1, szs_2] <;> lia
theorem szs_map {g : Nat → Tr X} : ∀ {l : List Nat}, szs (l.map g) = (l.map fun q => sz (g q)).sum
  | [] => rfl
  | a :: r => by simp [szs_1, szs_2, szs_map (l := r)]
theorem sub1 {k q : Nat} (h : k < q) : q - k = q - (k + 1) + 1 := (Nat.succ_pred_eq_of_pos (Nat.sub_pos_of_lt h)).symm
theorem vals_sz : ∀ {l : List (Nd X)} {off : Nat}, (∀ p nd, l[p]? = some nd → ∀ q ∈ ndr nd, off + p < q) → szs (vals off l) ≤ nz l + ((nr l).map fun q => sz (((vals off l)[q - off]?).getD (.a 0))).sum
  | [], off, _ => by simp [vals_1, vals_2, vals_3, szs_1, szs_2]
  | nd :: r, off, h => by
    have ih := vals_sz (l := r) (off := off + 1) fun p nd hp q hq => by have := h (p + 1) nd hp q hq; lia
    have hr : ∀ q ∈ nr r, off < q := fun q hq => by
      obtain ⟨nd', hn, hq⟩ := List.mem_flatMap.mp hq
      obtain ⟨p, hp⟩ := List.getElem?_of_mem hn
      have := h (p + 1) nd' hp q hq
      lia
    have sh : ∀ (v : Tr X) (q : Nat), off < q → (v :: vals (off + 1) r)[q - off]? = (vals (off + 1) r)[q - (off + 1)]? := fun v q hq => by
      rw [sub1 hq, List.getElem?_cons_succ]
    have e : ∀ v : Tr X, (nr r).map (fun q => sz (((v :: vals (off + 1) r)[q - off]?).getD (.a 0))) = (nr r).map (fun q => sz (((vals (off + 1) r)[q - (off + 1)]?).getD (.a 0))) := fun v =>
      List.map_congr_left fun q hq => by rw [sh v q (hr q hq)]
    cases nd with
    | goal t =>
      have e1 : nr (.goal t :: r) = nr r := rfl
      have e2 : nz (.goal t :: r) = sz t + nz r := rfl
      rw [e1, e2]
      simp only [vals_1, vals_2, vals_3, szs_1, szs_2]
      rw [e t]
      lia
    | op w ps =>
      have e1 : nr (.op w ps :: r) = ps ++ nr r := rfl
      have e2 : nz (.op w ps :: r) = (ps.length + 3) + nz r := rfl
      have hps : ∀ q ∈ ps, off < q := fun q hq => by have := h 0 _ rfl q hq; lia
      rw [e1, e2]
      simp only [vals_1, vals_2, vals_3, szs_1, szs_2, List.map_append, List.sum_append]
      rw [e]
      have c := comb_sz (w := w) (l := ps.map fun q => ((vals (off + 1) r)[q - (off + 1)]?).getD (.a 0))
      rw [szs_map, List.length_map] at c
      generalize comb w (ps.map fun q => ((vals (off + 1) r)[q - (off + 1)]?).getD (.a 0)) = v at *
      have e3 : ps.map (fun q => sz (((v :: vals (off + 1) r)[q - off]?).getD (.a 0))) = ps.map (fun q => sz (((vals (off + 1) r)[q - (off + 1)]?).getD (.a 0))) :=
        List.map_congr_left fun q hq => by rw [sh v q (hps q hq)]
      rw [e3]
      lia
theorem nd_sum (f : Nat → Nat) : ∀ {n : Nat} {l : List Nat}, l.Nodup → (∀ q ∈ l, q < n) → (l.map f).sum ≤ ((List.range n).map f).sum
  | 0, l, _, h => by
    cases l with
    | nil => simp
    | cons a r => exact absurd (h a (by simp)) (by lia)
  | n + 1, l, hn, h => by
    rw [List.range_succ, List.map_append, List.sum_append]
    by_cases hm : n ∈ l
    · have pe := List.perm_cons_erase hm
      have es : (l.map f).sum = f n + ((l.erase n).map f).sum := by
        rw [(pe.map f).sum_nat]; simp
      have ih := nd_sum f (n := n) (l := l.erase n) (hn.erase n) fun q hq => by
        have h1 := h q (List.mem_of_mem_erase hq)
        have h2 : q ≠ n := fun e => by subst e; exact (hn.mem_erase_iff.mp hq).1 rfl
        lia
      simp only [List.map_cons, List.map_nil, List.sum_cons, List.sum_nil]
      lia
    · have ih := nd_sum f (n := n) (l := l) hn fun q hq => by
        have h1 := h q hq
        have h2 : q ≠ n := fun e => hm (e ▸ hq)
        lia
      lia
theorem all_sum : ∀ {V : List (Tr X)}, ((List.range V.length).map fun q => sz ((V[q]?).getD (.a 0))).sum = szs V
  | [] => rfl
  | t :: r => by
    have ih := all_sum (V := r)
    rw [List.length_cons, List.range_succ_eq_map, List.map_cons, List.map_map, List.sum_cons]
    have : ((fun q => sz (((t :: r)[q]?).getD (.a 0))) ∘ Nat.succ) = fun q => sz ((r[q]?).getD (.a 0)) := by
      funext q; simp
    rw [this, ih]; rfl
theorem head_sz {l : List (Nd X)} (hne : 0 < l.length) (hn : (nr l).Nodup) (ho : ∀ p nd, l[p]? = some nd → ∀ q ∈ ndr nd, p < q ∧ q < l.length) : sz ((vals 0 l).headD (.a 0)) ≤ nz l := by
  have h1 := vals_sz (l := l) (off := 0) fun p nd hp q hq => by have := (ho p nd hp q hq).1; lia
  have hr : ∀ q ∈ nr l, 0 < q ∧ q < l.length := fun q hq => by
    obtain ⟨nd', hn, hq⟩ := List.mem_flatMap.mp hq
    obtain ⟨p, hp⟩ := List.getElem?_of_mem hn
    have := ho p nd' hp q hq
    lia
  have h2 := nd_sum (fun q => sz (((vals 0 l)[q]?).getD (.a 0))) (n := (vals 0 l).length) (l := 0 :: nr l) (List.nodup_cons.mpr ⟨fun h => absurd (hr 0 h).1 (by lia), hn⟩) (fun q hq => by
    rw [vals_len]
    rcases List.mem_cons.mp hq with rfl | hq
    · exact hne
    · exact (hr q hq).2)
  rw [all_sum] at h2
  simp only [List.map_cons, List.sum_cons, Nat.sub_zero] at h1 h2
  have : (vals 0 l).headD (.a 0) = ((vals 0 l)[0]?).getD (.a 0) := by cases vals 0 l <;> rfl
  rw [this]
  lia
noncomputable def wz : Bd X → Nat
  | .tx l => 2 * l.length + 3
  | .p l => l.length + 3
  | .v _ => 4
  | .cut => 5
  | .cur _ => 5
  | .neg b => 12 + wz b
  | .com a b => 5 + wz a + wz b
  | .sem a b => 5 + wz a + wz b
  | .arr a b => 5 + wz a + wz b
theorem wz_1 (l) : wz (.tx l : Bd X) = 2 * l.length + 3 := rfl
theorem wz_2 (l) : wz (.p l : Bd X) = l.length + 3 := rfl
theorem wz_3 (x) : wz (.v x : Bd X) = 4 := rfl
theorem wz_4 : wz (.cut : Bd X) = 5 := rfl
theorem wz_5 (x) : wz (.cur x : Bd X) = 5 := rfl
theorem wz_6 (b) : wz (.neg b : Bd X) = 12 + wz b := rfl
theorem wz_7 (a) (b) : wz (.com a b : Bd X) = 5 + wz a + wz b := rfl
theorem wz_8 (a) (b) : wz (.sem a b : Bd X) = 5 + wz a + wz b := rfl
theorem wz_9 (a) (b) : wz (.arr a b : Bd X) = 5 + wz a + wz b := rfl
noncomputable def wzs (l : List (Nat × T3 X)) : Nat := (l.map fun w => wz w.2.1).sum
noncomputable def btz (l : List (Nat × T3 X)) : Nat := (l.map fun w => sz (bt w.2.1)).sum
noncomputable def zw (l : List (Bd X)) : Nat := (l.map wz).sum
theorem zC : ∀ {b : Bd X}, zw (spC b) + 5 * (spC b).length ≤ wz b + 5
  | .com a b => by have := zC (b := b); simp only [zw, spC_1, spC_2, spC_3, spC_4, spC_5, spC_6, spC_7, spC_8, spC_9, List.map_cons, List.sum_cons, List.length_cons, wz_1, wz_2, wz_3, wz_4, wz_5, wz_6, wz_7, wz_8, wz_9] at this ⊢; lia
  | .tx _ => by simp [zw, spC_1, spC_2, spC_3, spC_4, spC_5, spC_6, spC_7, spC_8, spC_9]
  | .p _ => by simp [zw, spC_1, spC_2, spC_3, spC_4, spC_5, spC_6, spC_7, spC_8, spC_9]
  | .v _ => by simp [zw, spC_1, spC_2, spC_3, spC_4, spC_5, spC_6, spC_7, spC_8, spC_9]
  | .cut => by simp [zw, spC_1, spC_2, spC_3, spC_4, spC_5, spC_6, spC_7, spC_8, spC_9]
  | .cur _ => by simp [zw, spC_1, spC_2, spC_3, spC_4, spC_5, spC_6, spC_7, spC_8, spC_9]
  | .neg _ => by simp [zw, spC_1, spC_2, spC_3, spC_4, spC_5, spC_6, spC_7, spC_8, spC_9]
  | .sem _ _ => by simp [zw, spC_1, spC_2, spC_3, spC_4, spC_5, spC_6, spC_7, spC_8, spC_9]
  | .arr _ _ => by simp [zw, spC_1, spC_2, spC_3, spC_4, spC_5, spC_6, spC_7, spC_8, spC_9]
theorem zS : ∀ {b : Bd X}, zw (spS b) + 5 * (spS b).length ≤ wz b + 5
  | .sem a b => by have := zS (b := b); simp only [zw, spS_1, spS_2, spS_3, spS_4, spS_5, spS_6, spS_7, spS_8, spS_9, List.map_cons, List.sum_cons, List.length_cons, wz_1, wz_2, wz_3, wz_4, wz_5, wz_6, wz_7, wz_8, wz_9] at this ⊢; lia
  | .tx _ => by simp [zw, spS_1, spS_2, spS_3, spS_4, spS_5, spS_6, spS_7, spS_8, spS_9]
  | .p _ => by simp [zw, spS_1, spS_2, spS_3, spS_4, spS_5, spS_6, spS_7, spS_8, spS_9]
  | .v _ => by simp [zw, spS_1, spS_2, spS_3, spS_4, spS_5, spS_6, spS_7, spS_8, spS_9]
  | .cut => by simp [zw, spS_1, spS_2, spS_3, spS_4, spS_5, spS_6, spS_7, spS_8, spS_9]
  | .cur _ => by simp [zw, spS_1, spS_2, spS_3, spS_4, spS_5, spS_6, spS_7, spS_8, spS_9]
  | .neg _ => by simp [zw, spS_1, spS_2, spS_3, spS_4, spS_5, spS_6, spS_7, spS_8, spS_9]
  | .com _ _ => by simp [zw, spS_1, spS_2, spS_3, spS_4, spS_5, spS_6, spS_7, spS_8, spS_9]
  | .arr _ _ => by simp [zw, spS_1, spS_2, spS_3, spS_4, spS_5, spS_6, spS_7, spS_8, spS_9]
structure PtZ (b : Bd X) (L : Nat) (p : Pt X) : Prop where
  nd : (nr p.add ++ ndr p.nd).Nodup
  ad : ∀ j nd, p.add[j]? = some nd → ∀ q ∈ ndr nd, L + j < q ∧ q < L + p.add.length
  ps : ∀ q ∈ ndr p.nd, L ≤ q ∧ q < L + p.add.length
  wt : ∀ w ∈ p.wt, L ≤ w.1 ∧ p.add[w.1 - L]? = some (.goal (bt w.2.1))
  ds : (p.wt.map (·.1)).Nodup
  sz : ndz p.nd + nz p.add + wzs p.wt ≤ wz b + btz p.wt
theorem wzs_idx {sg : List (T3 X)} : ∀ {k : Nat}, wzs (idx k sg) = zw (sg.map (·.1)) := by
  induction sg with
  | nil => intro k; rfl
  | cons t r ih => intro k; have := ih (k := k + 1); simp only [wzs, zw, idx_1, idx_2, List.map_cons, List.sum_cons] at this ⊢; lia
theorem btz_idx {sg : List (T3 X)} : ∀ {k : Nat}, nz (sg.map fun t => Nd.goal (bt t.1)) = btz (idx k sg) := by
  induction sg with
  | nil => intro k; rfl
  | cons t r ih => intro k; have := ih (k := k + 1); simp only [btz, nz, idx_1, idx_2, List.map_cons, List.sum_cons, ndz] at this ⊢; lia
theorem idx_get : ∀ {k : Nat} {l : List (T3 X)} {w : Nat × T3 X}, w ∈ idx k l → k ≤ w.1 ∧ l[w.1 - k]? = some w.2
  | _, [], w, h => nomatch h
  | k, t :: r, w, h => by
    rcases List.mem_cons.mp h with rfl | h
    · exact ⟨Nat.le_refl _, by rw [Nat.sub_self]; rfl⟩
    · have := idx_get h
      exact ⟨Nat.le_of_succ_le this.1, by rw [sub1 this.1, List.getElem?_cons_succ]; exact this.2⟩
theorem idx_nodup : ∀ {k : Nat} {l : List (T3 X)}, ((idx k l).map (·.1)).Nodup
  | _, [] => List.nodup_nil
  | k, t :: r => by
    simp only [idx_1, idx_2, List.map_cons, List.nodup_cons]
    refine ⟨fun h => ?_, idx_nodup⟩
    obtain ⟨w, hw, e⟩ := List.mem_map.mp h
    exact Nat.lt_irrefl _ (e ▸ (idx_get hw).1)
theorem goals_nr {α : Type} {f : α → Tr X} : ∀ {l : List α}, nr (l.map fun t => Nd.goal (f t)) = []
  | [] => rfl
  | _ :: r => goals_nr (l := r)
theorem held_z {b : Bd X} {w L i : Nat} {sg : List (T3 X)} (h2 : 2 ≤ sg.length) (hz : zw (sg.map (·.1)) + 5 * sg.length ≤ wz b + 5) : PtZ b L (held w L i sg) := by
  have ea : (held w L i sg).add.length = sg.length := by simp [held]
  have en : nr (held w L i sg).add = [] := goals_nr
  refine ⟨?_, fun j nd h => ?_, fun q hq => ?_, fun w' hw' => ?_, idx_nodup, ?_⟩
  · rw [en, List.nil_append]
    show ((List.range sg.length).map (L + ·)).Nodup
    exact List.Pairwise.map _ (fun a b (hab : a ≠ b) (h : L + a = L + b) => hab (Nat.add_left_cancel h)) List.nodup_range
  · simp only [held, List.getElem?_map, Option.map_eq_some_iff] at h
    obtain ⟨t, _, rfl⟩ := h
    exact nofun
  · simp only [held, ndr, pls, List.mem_map, List.mem_range] at hq
    obtain ⟨t, ht, rfl⟩ := hq
    rw [ea]; exact ⟨Nat.le_add_right _ _, Nat.add_lt_add_left ht _⟩
  · have := idx_get hw'
    refine ⟨this.1, ?_⟩
    show (sg.map fun t => Nd.goal (bt t.1))[w'.1 - L]? = _
    rw [List.getElem?_map, this.2]; rfl
  · have e1 : ndz (held w L i sg).nd = sg.length + 3 := by simp [held, ndz, pls]
    have e2 : nz (held w L i sg).add = btz (held w L i sg).wt := btz_idx
    have e3 : wzs (held w L i sg).wt = zw (sg.map (·.1)) := wzs_idx
    lia
theorem lsT_sz {t : Tr X} : ∀ {l : List (Option X)}, sz (lsT (l.map itm) t) = 2 * l.length + sz t
  | [] => by simp [lsT]
  | a :: r => by
    have ih := lsT_sz (t := t) (l := r)
    have ea : sz (itm a) = 1 := by cases a <;> rfl
    show sz (.s (.n 0) [itm a, lsT (r.map itm) t]) = _
    simp only [sz_1, sz_2, sz_3, sz_4, szs_1, szs_2, List.length_cons, ea, ih]; lia
theorem vs_sz : ∀ {l : List X}, szs (l.map Tr.v) = l.length
  | [] => rfl
  | _ :: r => by simp [szs_1, szs_2, sz_1, sz_2, sz_3, sz_4, vs_sz (l := r)]; lia
theorem leaf_z {b : Bd X} {t : Tr X} {L i : Nat} (h : sz t ≤ wz b) : PtZ b L ⟨[], .goal t, [], i⟩ :=
  ⟨List.nodup_nil, fun _ _ h => nS h, nofun, nofun, List.nodup_nil, h⟩
theorem part_z {new : Nat → X} {x y : X} {i L : Nat} : ∀ {b : Bd X}, BOk b → PtZ b L (part new x y i L b)
  | .com a b, h => by
    have z := zC (b := .com a b)
    have l2 : 1 ≤ (spC b).length := by
      have := spC_sz (b := b)
      cases h : spC b with
      | nil => rw [h] at this; exact nomatch this
      | cons _ _ => exact Nat.succ_pos _
    have hl : (seg new (spC (.com a b)) x y i).length = (spC b).length + 1 := by rw [seg_len]; rfl
    have hll : (spC (.com a b)).length = (spC b).length + 1 := rfl
    exact held_z (by rw [hl]; exact Nat.succ_le_succ l2) (by rw [seg_fst, hl, ← hll]; exact z)
  | .sem a b, h => by
    have z := zS (b := .sem a b)
    have l2 : 1 ≤ (spS b).length := by
      have := spS_sz (b := b)
      cases h : spS b with
      | nil => rw [h] at this; exact nomatch this
      | cons _ _ => exact Nat.succ_pos _
    have hm : ((spS (.sem a b)).map fun c => ((c, x, y) : T3 X)).map (·.1) = spS (.sem a b) := by rw [List.map_map]; exact List.map_id _
    have hll : (spS (.sem a b)).length = (spS b).length + 1 := rfl
    have hl : ((spS (.sem a b)).map fun c => ((c, x, y) : T3 X)).length = (spS b).length + 1 := by rw [List.length_map]; rfl
    exact held_z (by rw [hl]; exact Nat.succ_le_succ l2) (by rw [hm, hl, ← hll]; exact z)
  | .arr a b, h => held_z (Nat.le_refl _) (by simp [zw, wz_1, wz_2, wz_3, wz_4, wz_5, wz_6, wz_7, wz_8, wz_9]; lia)
  | .neg b, h => by
    refine ⟨?_, ?_, ?_, ?_, List.nodup_cons.mpr ⟨nofun, List.nodup_nil⟩, ?_⟩
    · show [L + 2, L, L + 1].Nodup
      simp
    · intro j nd hj
      rcases j with _ | _ | _ | j
      · obtain rfl := Option.some.inj hj
        exact List.forall_mem_cons.mpr ⟨⟨Nat.lt_add_of_pos_right (Nat.le_of_ble_eq_true rfl), Nat.add_lt_add_left (Nat.le_of_ble_eq_true rfl) _⟩, nofun⟩
      · obtain rfl := Option.some.inj hj; exact nofun
      · obtain rfl := Option.some.inj hj; exact nofun
      · exact nS hj
    · exact List.forall_mem_cons.mpr ⟨⟨Nat.le_refl _, Nat.lt_add_of_pos_right (Nat.le_of_ble_eq_true rfl)⟩, List.forall_mem_cons.mpr ⟨⟨Nat.le_succ _, Nat.add_lt_add_left (Nat.le_of_ble_eq_true rfl) _⟩, nofun⟩⟩
    · exact List.forall_mem_cons.mpr ⟨⟨Nat.le_add_right _ _, by rw [Nat.add_sub_cancel_left]; rfl⟩, nofun⟩
    · show (2 + 3) + (1 + 3 + (3 + (sz (bt b) + 0))) + (wz b + 0) ≤ 12 + wz b + (sz (bt b) + 0); lia
  | .tx l, h => leaf_z (by rw [plain_3]; simp only [sz_1, sz_2, sz_3, sz_4, szs_1, szs_2, lsT_sz, wz_1]; lia)
  | .p l, h => leaf_z (by rw [plain_5]; simp only [sz_1, sz_2, sz_3, sz_4, szs_app, vs_sz, szs_1, szs_2, wz_2]; lia)
  | .v l, h => leaf_z (Nat.le_of_ble_eq_true rfl)
  | .cut, h => leaf_z (Nat.le_of_ble_eq_true rfl)
  | .cur l, h => leaf_z (Nat.le_of_ble_eq_true rfl)
structure MZ (B : Nat) (s : Ms X) : Prop where
  nd : (nr s.nodes).Nodup
  op : ∀ p nd, s.nodes[p]? = some nd → ∀ q ∈ ndr nd, p < q ∧ q < s.nodes.length
  wt : ∀ w ∈ s.wt, s.nodes[w.1]? = some (.goal (bt w.2.1))
  ds : (s.wt.map (·.1)).Nodup
  sz : nz s.nodes + wzs s.wt ≤ B + btz s.wt
theorem set_split {α : Type} : ∀ {l : List α} {k : Nat} {x : α} (y : α), l[k]? = some x → ∃ a c, l = a ++ x :: c ∧ l.set k y = a ++ y :: c
  | [], k, x, y, h => nS h
  | z :: r, 0, x, y, h => by obtain rfl := Option.some.inj h; exact ⟨[], r, rfl, rfl⟩
  | z :: r, k + 1, x, y, h => by
    obtain ⟨a, c, e1, e2⟩ := set_split y (l := r) (k := k) h
    exact ⟨z :: a, c, congrArg (z :: ·) e1, congrArg (z :: ·) e2⟩
theorem nr_app {l m : List (Nd X)} : nr (l ++ m) = nr l ++ nr m := by simp [nr]
theorem nr_cons {a : Nd X} {m : List (Nd X)} : nr (a :: m) = ndr a ++ nr m := by simp [nr]
theorem nz_app {l m : List (Nd X)} : nz (l ++ m) = nz l + nz m := by simp [nz]
theorem nz_cons {a : Nd X} {m : List (Nd X)} : nz (a :: m) = ndz a + nz m := by simp [nz]
theorem wzs_app {l m : List (Nat × T3 X)} : wzs (l ++ m) = wzs l + wzs m := by simp [wzs]
theorem btz_app {l m : List (Nat × T3 X)} : btz (l ++ m) = btz l + btz m := by simp [btz]
theorem mstep_z {new : Nat → X} {B : Nat} {s : Ms X} (h : MZ B s) (hb : ∀ w ∈ s.wt, BOk w.2.1) : MZ B (mstep new s) := by
  obtain ⟨nodes, wt, i⟩ := s
  cases wt with
  | nil => exact h
  | cons w r =>
    obtain ⟨k, b, x, y⟩ := w
    have P := part_z (new := new) (x := x) (y := y) (i := i) (L := nodes.length) (hb (k, b, x, y) (by simp))
    have es : mstep new ⟨nodes, (k, b, x, y) :: r, i⟩ = ⟨(nodes ++ (part new x y i nodes.length b).add).set k (part new x y i nodes.length b).nd, (part new x y i nodes.length b).wt ++ r, (part new x y i nodes.length b).i⟩ := rfl
    rw [es]
    generalize part new x y i nodes.length b = p at *
    have hkg : nodes[k]? = some (.goal (bt b)) := h.wt (k, b, x, y) (by simp)
    have hk : k < nodes.length := (List.getElem?_eq_some_iff.mp hkg).1
    obtain ⟨a, c, e1, e2⟩ := set_split p.nd hkg
    have hset : (nodes ++ p.add).set k p.nd = nodes.set k p.nd ++ p.add := List.set_append_left _ _ hk
    have hd := List.nodup_cons.mp (show (k :: r.map (·.1)).Nodup from h.ds)
    have hlt : ∀ q ∈ nr nodes, q < nodes.length := fun q hq => by
      obtain ⟨nd', hn, hq⟩ := List.mem_flatMap.mp hq
      obtain ⟨j, hj⟩ := List.getElem?_of_mem hn
      have := (h.op j nd' hj q hq).2
      exact this
    have hge : ∀ q ∈ nr p.add ++ ndr p.nd, nodes.length ≤ q := fun q hq => by
      rcases List.mem_append.mp hq with hq | hq
      · obtain ⟨nd', hn, hq⟩ := List.mem_flatMap.mp hq
        obtain ⟨j, hj⟩ := List.getElem?_of_mem hn
        exact Nat.le_trans (Nat.le_add_right _ _) (Nat.le_of_lt (P.ad j nd' hj q hq).1)
      · exact (P.ps q hq).1
    have hnr : nr nodes = nr a ++ nr c := by rw [e1, nr_app, nr_cons]; rfl
    have hnz : nz nodes = nz a + (sz (bt b) + nz c) := by rw [e1, nz_app, nz_cons]; rfl
    refine ⟨?_, fun q nd hq => ?_, fun w hw => ?_, ?_, ?_⟩
    · simp only [hset, e2]
      have hp : List.Perm (nr (a ++ p.nd :: c ++ p.add)) (nr nodes ++ (nr p.add ++ ndr p.nd)) := by
        rw [hnr, List.perm_iff_count]
        intro z
        simp only [nr_app, nr_cons, List.count_append]
        lia
      rw [hp.nodup_iff, List.nodup_append]
      exact ⟨h.nd, P.nd, fun u hu v hv e => Nat.lt_irrefl _ (Nat.lt_of_lt_of_le (hlt u hu) (e ▸ hge v hv))⟩
    · simp only [hset, List.length_append, List.length_set] at hq ⊢
      by_cases hkq : k = q
      · subst hkq
        rw [List.getElem?_append_left (by simpa using hk), List.getElem?_set_self hk] at hq
        obtain rfl := Option.some.inj hq
        exact fun v hv => ⟨Nat.lt_of_lt_of_le hk (P.ps v hv).1, (P.ps v hv).2⟩
      · by_cases hql : q < nodes.length
        · rw [List.getElem?_append_left (by simpa using hql), List.getElem?_set_ne hkq] at hq
          exact fun v hv => ⟨(h.op q nd hq v hv).1, Nat.lt_add_right _ (h.op q nd hq v hv).2⟩
        · rw [List.getElem?_append_right (by rw [List.length_set]; exact Nat.le_of_not_lt hql), List.length_set] at hq
          intro v hv
          have := P.ad _ _ hq v hv
          rwa [Nat.add_sub_cancel' (Nat.le_of_not_lt hql)] at this
    · simp only [hset, List.mem_append] at hw ⊢
      rcases hw with hw | hw
      · have := P.wt w hw
        rw [List.getElem?_append_right (by rw [List.length_set]; exact this.1), List.length_set]
        exact this.2
      · have h1 := h.wt w (by simp [hw])
        have h2 : k ≠ w.1 := fun e => hd.1 (by rw [e]; exact List.mem_map.mpr ⟨w, hw, rfl⟩)
        rw [List.getElem?_append_left (by rw [List.length_set]; exact (List.getElem?_eq_some_iff.mp h1).1), List.getElem?_set_ne h2]
        exact h1
    · simp only [List.map_append]
      rw [List.nodup_append]
      refine ⟨P.ds, hd.2, fun u hu v hv e => ?_⟩
      subst e
      obtain ⟨w1, hw1, rfl⟩ := List.mem_map.mp hu
      obtain ⟨w2, hw2, e2⟩ := List.mem_map.mp hv
      have h1 := (P.wt w1 hw1).1
      have h2 : w2.1 < nodes.length := (List.getElem?_eq_some_iff.mp (h.wt w2 (by simp [hw2]))).1
      exact Nat.lt_irrefl _ (Nat.lt_of_lt_of_le h2 (show _ ≤ w2.1 from e2 ▸ h1))
    · have := h.sz
      have hz := P.sz
      have ew : wzs ((k, b, x, y) :: r) = wz b + wzs r := by simp [wzs]
      have eb : btz ((k, b, x, y) :: r) = sz (bt b) + btz r := by simp [btz]
      simp only [hset, e2, nz_app, nz_cons, wzs_app, btz_app] at *
      lia
theorem mrun_z {S : Sy} {new : Nat → X} {B C : Nat} (hC : C < 6000) : ∀ {k : Nat} {s : Ms X}, MZ B s → MOk S C s → wtz s.wt ≤ k → MZ B (mrun new k s) ∧ MOk S C (mrun new k s) ∧ (mrun new k s).wt = []
  | 0, s, h, h2, hk => by
    refine ⟨h, h2, ?_⟩
    show s.wt = []
    cases e : s.wt with
    | nil => rfl
    | cons w r => rw [e, wtz_cons] at hk; exact absurd (Nat.le_trans bsz_pos (Nat.le_trans (Nat.le_add_right _ _) hk)) (Nat.not_succ_le_zero 0)
  | k + 1, s, h, h2, hk => by
    cases e : s.wt with
    | nil =>
      have : mrun new (k + 1) s = s := mrun_nil e
      rw [this]; exact ⟨h, h2, e⟩
    | cons w r =>
      obtain ⟨p, b, x, y⟩ := w
      have st := mstep_ok (new := new) h2 hC e
      have z := mstep_z (new := new) h fun w hw => (h2.wt w hw).2.1
      exact mrun_z hC (s := mstep new s) z st.1 (Nat.le_of_lt_succ (Nat.lt_of_lt_of_le st.2 hk))
theorem ans_sz {S : Sy} {new : Nat → X} {b : Bd X} {x y : X} {i : Nat} (hB : BdG S b) (hz : bsz b < 1900) : sz (ans (fin new b x y i)) ≤ wz b := by
  have z0 : MZ (wz b) (st0 b x y i) := by
    refine ⟨List.nodup_nil, fun p nd hp => ?_, fun w hw => ?_, List.nodup_cons.mpr ⟨nofun, List.nodup_nil⟩, ?_⟩
    · rcases p with _ | p
      · obtain rfl := Option.some.inj hp; exact nofun
      · exact nS hp
    · obtain rfl := List.mem_singleton.mp hw; rfl
    · show sz (bt b) + 0 + (wz b + 0) ≤ wz b + (sz (bt b) + 0); lia
  have m0 : MOk S (1 + 3 * bsz b) (st0 b x y i) := by
    refine ⟨fun p nd hp => ?_, fun w hw => ?_, Nat.le_refl _, Nat.succ_pos _⟩
    · rcases p with _ | p
      · obtain rfl := Option.some.inj hp; trivial
      · exact nS hp
    · obtain rfl := List.mem_singleton.mp hw
      exact ⟨Nat.succ_pos _, hB⟩
  obtain ⟨h1, h2, h3⟩ := mrun_z (new := new) (by lia) z0 m0 (k := bsz b) (Nat.le_refl _)
  have := head_sz h2.ne h1.nd h1.op
  have hs := h1.sz
  rw [h3] at hs
  simp only [wzs, btz, List.map_nil, List.sum_nil] at hs
  unfold ans fin
  lia
end
section
variable {X : Type}
variable {new : Nat → X} {c : Nat → Int} {us : List Int} {ι : X → Int} {n m u g r : Nat} {H : Hp} {S : Sy} {Q : SV → Hp → Prop} {x y : X} {i : Nat}
theorem sp_newv {ρ : Fu → Int} (hc : ∀ i, c (i + 1) = nx us (c i) + 1) (hi : ∀ i, ι (new i) = nx us (c i)) (hF : FrAt H m (c i)) (hG : GvAt H g m u us) (hu : us.length < 2900) (d1 : m ≠ g) (d2 : m ≠ g + 1) (d3 : m ≠ u)
    (h : ∀ H', FrAt H' m (c (i + 1)) → GvAt H' g m u us → Kp (on m) H H' → H'.length = H.length → Q (enc ρ ι (.v (new i))) H') : Ok (F_GrammarVariables_variable [.ref (g + 1)] H) Q := by
  refine sp_variable hF hG hu d1 d2 d3 fun H' F' k' l' => ?_
  rw [← hc] at F'
  rw [← hi]
  exact h H' F' (hG.kp k' (fun q => d1 q.symm) (fun q => d2 q.symm) (fun q => d3 q.symm)) k' l'
theorem head_le {S S' : Sy} (l' : S.Le S') {l : List X} (f : FuIn S (.p (l.length + 2))) : (.tup [.str (Str.ofString "s"), .int (res S (.p (l.length + 2))), .tup (encs (res S) ι (l.map .v) ++ [enc (res S) ι (.v x), enc (res S) ι (.v y)])] : SV) = enc (res S') ι (.s (.p (l.length + 2)) (l.map .v ++ [.v x, .v y])) := by
  rw [← (f.le l').2]
  simp only [enc_1, enc_2, enc_3, enc_4, encs_app, encs_1, encs_2, encs_vs]
theorem sl45 {a b c d e f g h i j k l m : Option SV} {x y : SV} : setLs [a, b, c, d, e, f, g, h, i, j, k, l, m] [4, 5] [x, y] = some [a, b, c, d, some x, some y, g, h, i, j, k, l, m] := rfl
theorem sl46 {a b c d e f g h i j k l m : Option SV} {x y : SV} : setLs [a, b, c, d, e, f, g, h, i, j, k, l, m] [4, 6] [x, y] = some [a, b, c, d, some x, f, some y, h, i, j, k, l, m] := rfl
theorem head_test {j : Nat} {l : List X} (hg : S0.Le S) (hk : KIn S (headT j l)) {R : Bool → Prop} (r : R false) :
    bo (item H (enc (res S) ι (headT j l)) (.int 0)) fun v => bo (cmpSS H v (.str (Str.ofString "s"))) fun b => cond b (bo (item H (enc (res S) ι (headT j l)) (.int 1)) fun w => bo (cmpII (fun x1 x2 => x1 == x2) H w (.int 1)) fun b => R b) (R false) := by
  rcases headT_not1 (ι := ι) hg hk with ⟨hl0, hh⟩ | ⟨k, e, hh, hk1⟩
  · rw [hh]; exact r
  · rw [hh]; show R (_ == _); rw [hk1]; exact r
theorem head_v {j : Nat} {l : List X} (hg : S0.Le S) (hk : KIn S (headT j l)) {P R : Prop} (r : R) :
    bo (item H (enc (res S) ι (headT j l)) (.int 0)) fun v => bo (cmpSS H v (.str (Str.ofString "v"))) fun b => cond b P R := by
  rcases headT_not1 (ι := ι) hg hk with ⟨hl0, hh⟩ | ⟨k, e, hh, hk1⟩
  · rw [hh]; exact r
  · rw [hh]; exact r
theorem sp_callable {j : Nat} {l : List X} (hg : S0.Le S) (hk : KIn S (headT j l)) (h : Q (.bool true) H) : Ok (F_is_callable [enc (res S) ι (headT j l)] H) Q := by
  unfold F_is_callable d_is_callable
  rcases headT_not1 (ι := ι) hg hk with ⟨hl0, hh⟩ | ⟨k, e, hh, hk1⟩
  · have i0 : item H (enc (res S) ι (headT j l)) (.int 0) = some (.str (Str.ofString "a")) := by rw [hh]; rfl
    (try with_reducible refine IsW.run ?_); (repeat (first | walk_at "ev" | simp only [i0, evA, evB, reduceCtorEq, Nat.reduceAdd, Nat.reduceLT, Nat.reduceLeDiff]))
    exact h
  · have i0 : item H (enc (res S) ι (headT j l)) (.int 0) = some (.str (Str.ofString "s")) := by rw [hh]; rfl
    have i1 : item H (enc (res S) ι (headT j l)) (.int 1) = some (.int k) := by rw [hh]; rfl
    (try with_reducible refine IsW.run ?_); (repeat (first | walk_at "ev" | simp only [i0, i1, cII, hk1, evA, evB, reduceCtorEq, Nat.reduceAdd, Nat.reduceLT, Nat.reduceLeDiff]))
    exact h
theorem sp_tran0 {j : Nat} {l : List X} {b : Bd X} (hc : ∀ i, c (i + 1) = nx ((vrs (ruleT j l none b)).map ι) (c i) + 1) (hi : ∀ i, ι (new i) = nx ((vrs (ruleT j l none b)).map ι) (c i)) (d1 : n + 5 < m) (d2 : m + 1 < H.length)
    (hS : SymAt H n S) (hF : FrAt H m (c 0)) (hg : S0.Le S) (hl : S.len < 90000) (ha : S.a cP = some j) (hk : KIn S (headT j l)) (hln : l.length < 1000) (hB : BdG S b) (hz : bsz b < 500) (hsz : sz (ruleT j l none b) < 2900)
    (h : ∀ H' S', SymAt H' n S' → S.Le S' → S'.len ≤ S.len + 4 * bsz b + 4 → FrAt H' m (c (tranT new l none b).2) → Kp (fun p => sy n p ∨ p = m) H H' → KIn S' (tranT new l none b).1 → Q (enc (res S') ι (tranT new l none b).1) H') :
    Ok (F_translate_grammar [.ref (n + 1), enc (res S) ι (ruleT j l none b), .ref (m + 1)] H) Q := by
  have e0 : enc (res S) ι (ruleT j l none b) = .tup [.str (Str.ofString "s"), .int 8, .tup [enc (res S) ι (headT j l), enc (res S) ι (bt b)]] := rfl
  unfold F_translate_grammar d_translate_grammar
  rw [e0]
  (try with_reducible refine IsW.run ?_); (repeat (first | walk_at "ev" | simp only [dneS, dne8, evA, evB, reduceCtorEq, Nat.reduceAdd, Nat.reduceLT, Nat.reduceLeDiff]))
  rw [← e0]
  refine sp_variables hsz fun es vs hvs hvl => ?_
  have hu0 : (H ++ [.lst [enc (res S) ι (ruleT j l none b)], .dI es, .lst (vs.map .int), .lst []])[H.length + 2]? = some (.lst (vs.map .int)) := apk
  have k0 : Kp no H (H ++ [.lst [enc (res S) ι (ruleT j l none b)], .dI es, .lst (vs.map .int), .lst []]) := Kp.app
  have hl1 : (H ++ [SO.lst [enc (res S) ι (ruleT j l none b)], .dI es, .lst (vs.map .int), .lst []]).length = H.length + 4 := by simp
  generalize H ++ [.lst [enc (res S) ι (ruleT j l none b)], .dI es, .lst (vs.map .int), .lst []] = H1 at *
  (try with_reducible refine IsW.run ?_); (repeat (first | walk_at "ev" | simp only [evA, evB, reduceCtorEq, Nat.reduceAdd, Nat.reduceLT, Nat.reduceLeDiff]))
  refine new_un (sp_gv hu0 fun H2 G2 k2 l2 => ⟨rfl, ?_⟩)
  rw [hl1] at *
  have hvc : ∀ k, nx ((vrs (ruleT j l none b)).map ι) k = nx vs k := fun k => nx_congr fun q => by rw [hvs]; simp
  have hc : ∀ i, c (i + 1) = nx vs (c i) + 1 := fun i => by rw [← hvc]; exact hc i
  have hi : ∀ i, ι (new i) = nx vs (c i) := fun i => by rw [← hvc]; exact hi i
  have k02 := k0.trans k2 (fun _ _ h => h) (fun _ _ h => h)
  have F2 := hF.kp k02 (fun h => h) (fun h => h)
  have S2 := hS.kp k02 (fun _ _ _ h => h)
  have hR2 : H2.length = H.length + 6 := by lia
  have hf : l = [] ∨ FuIn S (.p l.length) := by
    cases l with
    | nil => exact Or.inl rfl
    | cons a r => exact Or.inr hk.1
  have gi := gv_is G2
  have cn : cmpIsNone H2 .none .none = some true := rfl
  have hus : vs.length < 2900 := by lia
  have cnn : ∀ {H}, cmpIsNone H .none .none = some true := rfl
  have ht : ∀ {H b}, truth H (.bool b) = some b := rfl
  have it2 : item H2 (enc (res S) ι (ruleT j l none b)) (.int 2) = some (.tup [enc (res S) ι (headT j l), enc (res S) ι (bt b)]) := rfl
  (try with_reducible refine IsW.run ?_); (repeat (first | walk_at "ev" | simp only [it2, sl45, evA, evB, reduceCtorEq, Nat.reduceAdd, Nat.reduceLT, Nat.reduceLeDiff]))
  refine head_test hg hk ?_
  (try with_reducible refine IsW.run ?_); (repeat (first | walk_at "ev" | simp only [evA, evB, reduceCtorEq, Nat.reduceAdd, Nat.reduceLT, Nat.reduceLeDiff]))
  refine head_v hg hk ?_
  (try with_reducible refine IsW.run ?_); (repeat (first | walk_at "ev" | simp only [evA, evB, reduceCtorEq, Nat.reduceAdd, Nat.reduceLT, Nat.reduceLeDiff]))
  refine sp_callable hg hk ?_
  (try with_reducible refine IsW.run ?_); (repeat (first | walk_at "ev" | simp only [ht, Bool.not_true, gi, cnn, evA, evB, reduceCtorEq, Nat.reduceAdd, Nat.reduceLT, Nat.reduceLeDiff]))
  refine sp_newv (ρ := res S) hc hi F2 G2 hus (by lia) (by lia) (by lia) fun H3 F3 G3 k3 l3 => ?_
  have gi3 := gv_is G3
  (try with_reducible refine IsW.run ?_); (repeat (first | walk_at "ev" | simp only [gi3, evA, evB, reduceCtorEq, Nat.reduceAdd, Nat.reduceLT, Nat.reduceLeDiff]))
  refine sp_newv (ρ := res S) hc hi F3 G3 hus (by lia) (by lia) (by lia) fun H4 F4 G4 k4 l4 => ?_
  (try with_reducible refine IsW.run ?_); (repeat (first | walk_at "ev" | simp only [evA, evB, reduceCtorEq, Nat.reduceAdd, Nat.reduceLT, Nat.reduceLeDiff]))
  have S4 : SymAt H4 n S := (S2.kp k3 (fun p h1 h2 h => by unfold on at h; lia)).kp k4 (fun p h1 h2 h => by unfold on at h; lia)
  refine sp_nonterminal S4 (by lia) ha hf (by lia) fun S5 H5 s5 le5 f5 n5 k5 l5 => ?_
  have cn5 : cmpIsNone H5 .none .none = some true := rfl
  (try with_reducible refine IsW.run ?_); (repeat (first | walk_at "ev" | simp only [cn5, evA, evB, reduceCtorEq, Nat.reduceAdd, Nat.reduceLT, Nat.reduceLeDiff]))
  have F5 := F4.kp k5 (fun h => by unfold sy at h; lia) (fun h => by unfold sy at h; lia)
  have G5 := G4.kp k5 (fun h => by unfold sy at h; lia) (fun h => by unfold sy at h; lia) (fun h => by unfold sy at h; lia)
  rw [← (hB.2.le le5 ι).2]
  have ev0 : ∀ z : X, enc (res S) ι (.v z) = enc (res S5) ι (.v z) := fun _ => rfl
  rw [ev0, ev0]
  refine sp_body hc hi hus d1 (show m + 1 < H.length + 2 by lia) (by lia) (by lia) s5 F5 G5 (hg.trans le5) (by lia) (hB.le le5) hz fun H6 S6 s6 le6 n6 F6 k6 kin => ?_
  (try with_reducible refine IsW.run ?_); (repeat (first | walk_at "ev" | simp only [evA, evB, reduceCtorEq, Nat.reduceAdd, Nat.reduceLT, Nat.reduceLeDiff]))
  refine sp_struct ?_
  (try with_reducible refine IsW.run ?_); (repeat (first | walk_at "ev" | simp only [evA, evB, reduceCtorEq, Nat.reduceAdd, Nat.reduceLT, Nat.reduceLeDiff]))
  have hk0 : Kp (fun p => sy n p ∨ p = m) H H6 := by
    refine Kp.trans (ch := fun p => sy n p ∨ p = m) (ch' := fun p => sy n p ∨ p = m) (H' := H5) ?_ k6 (fun _ _ h => h) (fun _ _ h => h)
    refine Kp.trans (ch := fun p => sy n p ∨ p = m) (ch' := sy n) (H' := H4) ?_ k5 (fun _ _ h => h) (fun _ _ h => Or.inl h)
    refine Kp.trans (ch := on m) (ch' := on m) (H' := H3) ?_ k4 (fun _ _ h => Or.inr h) (fun _ _ h => Or.inr h)
    exact k02.trans k3 (fun _ _ h => h.elim) (fun _ _ h => h)
  have := h H6 S6 s6 (le5.trans le6) (by lia) F6 hk0 ⟨trivial, ⟨(f5.le le6).1, KIns.app KIns.vs ⟨trivial, trivial, trivial⟩⟩, kin, trivial⟩
  rw [head_le le6 f5]
  exact this
end
section
variable {X : Type}
variable {new : Nat → X} {c : Nat → Int} {us : List Int} {ι : X → Int} {n m u g r : Nat} {H : Hp} {S : Sy} {Q : SV → Hp → Prop} {x y : X} {i : Nat}
theorem enc_not_none {ρ : Fu → Int} {t : Tr X} {H : Hp} : cmpIsNone H (enc ρ ι t) .none = some false := by cases t <;> rfl
theorem kin_ls {t : Tr X} (h : KIn S t) : ∀ {q : List (Option X)}, KIn S (lsT (q.map itm) t)
  | [] => h
  | u :: r => by
    have ih := kin_ls h (q := r)
    cases u <;> exact ⟨trivial, trivial, ih, trivial⟩
theorem sp_tran1 {j : Nat} {l : List X} {q : List (Option X)} {b : Bd X} (hq : q.length < 2900) (hc : ∀ i, c (i + 1) = nx ((vrs (ruleT j l (some q) b)).map ι) (c i) + 1) (hi : ∀ i, ι (new i) = nx ((vrs (ruleT j l (some q) b)).map ι) (c i)) (d1 : n + 5 < m) (d2 : m + 1 < H.length)
    (hS : SymAt H n S) (hF : FrAt H m (c 0)) (hg : S0.Le S) (hl : S.len < 90000) (ha : S.a cP = some j) (hk : KIn S (headT j l)) (hln : l.length < 1000) (hB : BdG S b) (hz : bsz b < 500) (hsz : sz (ruleT j l (some q) b) < 2900)
    (h : ∀ H' S', SymAt H' n S' → S.Le S' → S'.len ≤ S.len + 4 * bsz b + 4 → FrAt H' m (c (tranT new l (some q) b).2) → Kp (fun p => sy n p ∨ p = m) H H' → KIn S' (tranT new l (some q) b).1 → Q (enc (res S') ι (tranT new l (some q) b).1) H') :
    Ok (F_translate_grammar [.ref (n + 1), enc (res S) ι (ruleT j l (some q) b), .ref (m + 1)] H) Q := by
  have e0 : enc (res S) ι (ruleT j l (some q) b) = .tup [.str (Str.ofString "s"), .int 8, .tup [.tup [.str (Str.ofString "s"), .int 1, .tup [enc (res S) ι (headT j l), enc (res S) ι (lsT (q.map itm) (.a 0))]], enc (res S) ι (bt b)]] := rfl
  unfold F_translate_grammar d_translate_grammar
  rw [e0]
  (try with_reducible refine IsW.run ?_); (repeat (first | walk_at "ev" | simp only [dneS, dne8, evA, evB, reduceCtorEq, Nat.reduceAdd, Nat.reduceLT, Nat.reduceLeDiff]))
  rw [← e0]
  refine sp_variables hsz fun es vs hvs hvl => ?_
  have hu0 : (H ++ [.lst [enc (res S) ι (ruleT j l (some q) b)], .dI es, .lst (vs.map .int), .lst []])[H.length + 2]? = some (.lst (vs.map .int)) := apk
  have k0 : Kp no H (H ++ [.lst [enc (res S) ι (ruleT j l (some q) b)], .dI es, .lst (vs.map .int), .lst []]) := Kp.app
  have hl1 : (H ++ [SO.lst [enc (res S) ι (ruleT j l (some q) b)], .dI es, .lst (vs.map .int), .lst []]).length = H.length + 4 := by simp
  generalize H ++ [.lst [enc (res S) ι (ruleT j l (some q) b)], .dI es, .lst (vs.map .int), .lst []] = H1 at *
  (try with_reducible refine IsW.run ?_); (repeat (first | walk_at "ev" | simp only [evA, evB, reduceCtorEq, Nat.reduceAdd, Nat.reduceLT, Nat.reduceLeDiff]))
  refine new_un (sp_gv hu0 fun H2 G2 k2 l2 => ⟨rfl, ?_⟩)
  rw [hl1] at *
  have hvc : ∀ k, nx ((vrs (ruleT j l (some q) b)).map ι) k = nx vs k := fun k => nx_congr fun q => by rw [hvs]; simp
  have hc : ∀ i, c (i + 1) = nx vs (c i) + 1 := fun i => by rw [← hvc]; exact hc i
  have hi : ∀ i, ι (new i) = nx vs (c i) := fun i => by rw [← hvc]; exact hi i
  have k02 := k0.trans k2 (fun _ _ h => h) (fun _ _ h => h)
  have F2 := hF.kp k02 (fun h => h) (fun h => h)
  have S2 := hS.kp k02 (fun _ _ _ h => h)
  have hR2 : H2.length = H.length + 6 := by lia
  have hf : l = [] ∨ FuIn S (.p l.length) := by
    cases l with
    | nil => exact Or.inl rfl
    | cons a r => exact Or.inr hk.1
  have gi := gv_is G2
  have cn : cmpIsNone H2 .none .none = some true := rfl
  have hus : vs.length < 2900 := by lia
  have cnn : ∀ {H}, cmpIsNone H .none .none = some true := rfl
  have ht : ∀ {H b}, truth H (.bool b) = some b := rfl
  have it2 : item H2 (enc (res S) ι (ruleT j l (some q) b)) (.int 2) = some (.tup [.tup [.str (Str.ofString "s"), .int 1, .tup [enc (res S) ι (headT j l), enc (res S) ι (lsT (q.map itm) (.a 0))]], enc (res S) ι (bt b)]) := rfl
  (try with_reducible refine IsW.run ?_); (repeat (first | walk_at "ev" | simp only [it2, sl45, sl46, cII, beq_self_eq_true, evA, evB, reduceCtorEq, Nat.reduceAdd, Nat.reduceLT, Nat.reduceLeDiff]))
  refine head_v hg hk ?_
  (try with_reducible refine IsW.run ?_); (repeat (first | walk_at "ev" | simp only [evA, evB, reduceCtorEq, Nat.reduceAdd, Nat.reduceLT, Nat.reduceLeDiff]))
  refine sp_callable hg hk ?_
  (try with_reducible refine IsW.run ?_); (repeat (first | walk_at "ev" | simp only [ht, Bool.not_true, gi, enc_not_none, evA, evB, reduceCtorEq, Nat.reduceAdd, Nat.reduceLT, Nat.reduceLeDiff]))
  refine sp_newv (ρ := res S) hc hi F2 G2 hus (by lia) (by lia) (by lia) fun H3 F3 G3 k3 l3 => ?_
  have gi3 := gv_is G3
  (try with_reducible refine IsW.run ?_); (repeat (first | walk_at "ev" | simp only [gi3, evA, evB, reduceCtorEq, Nat.reduceAdd, Nat.reduceLT, Nat.reduceLeDiff]))
  refine sp_newv (ρ := res S) hc hi F3 G3 hus (by lia) (by lia) (by lia) fun H4 F4 G4 k4 l4 => ?_
  (try with_reducible refine IsW.run ?_); (repeat (first | walk_at "ev" | simp only [evA, evB, reduceCtorEq, Nat.reduceAdd, Nat.reduceLT, Nat.reduceLeDiff]))
  have S4 : SymAt H4 n S := (S2.kp k3 (fun p h1 h2 h => by unfold on at h; lia)).kp k4 (fun p h1 h2 h => by unfold on at h; lia)
  refine sp_nonterminal S4 (by lia) ha hf (by lia) fun S5 H5 s5 le5 f5 n5 k5 l5 => ?_
  have gi5 := gv_is (G4.kp k5 (fun h => by unfold sy at h; lia) (fun h => by unfold sy at h; lia) (fun h => by unfold sy at h; lia))
  (try with_reducible refine IsW.run ?_); (repeat (first | walk_at "ev" | simp only [enc_not_none, gi5, evA, evB, reduceCtorEq, Nat.reduceAdd, Nat.reduceLT, Nat.reduceLeDiff]))
  have F5 := F4.kp k5 (fun h => by unfold sy at h; lia) (fun h => by unfold sy at h; lia)
  have G5 := G4.kp k5 (fun h => by unfold sy at h; lia) (fun h => by unfold sy at h; lia) (fun h => by unfold sy at h; lia)
  refine sp_newv (ρ := res S) hc hi F5 G5 hus (by lia) (by lia) (by lia) fun H5b F5b G5b k5b l5b => ?_
  (try with_reducible refine IsW.run ?_); (repeat (first | walk_at "ev" | simp only [evA, evB, reduceCtorEq, Nat.reduceAdd, Nat.reduceLT, Nat.reduceLeDiff]))
  have s5b : SymAt H5b n S5 := s5.kp k5b (fun p h1 h2 h => by unfold on at h; lia)
  rw [← (hB.2.le le5 ι).2]
  have ev0 : ∀ z : X, enc (res S) ι (.v z) = enc (res S5) ι (.v z) := fun _ => rfl
  rw [ev0 (new 0), ev0 (new 2)]
  refine sp_body hc hi hus d1 (show m + 1 < H.length + 2 by lia) (by lia) (by lia) s5b F5b G5b (hg.trans le5) (by lia) (hB.le le5) hz fun H6 S6 s6 le6 n6 F6 k6 kin => ?_
  (try with_reducible refine IsW.run ?_); (repeat (first | walk_at "ev" | simp only [evA, evB, reduceCtorEq, Nat.reduceAdd, Nat.reduceLT, Nat.reduceLeDiff]))
  refine sp_terminals (ρ := res S) (x := new 1) (l := q) rfl hq fun H7 k7 => ?_
  (try with_reducible refine IsW.run ?_); (repeat (first | walk_at "ev" | simp only [evA, evB, reduceCtorEq, Nat.reduceAdd, Nat.reduceLT, Nat.reduceLeDiff]))
  have et : rs 0 (encs (res S) ι (q.map itm)) (.tup [.str (Str.ofString "v"), .int (ι (new 2))]) = enc (res S6) ι (lsT (q.map itm) (.v (new 2))) := by
    rw [((kin_ls (S := S) (t := .v (new 2)) trivial (q := q)).le (le5.trans le6) ι).2, enc_lsT (ρ := res S) rfl]; rfl
  rw [et]
  refine sp_conjunction (ys := [enc (res S6) ι (ans (fin new b (new 0) (new 2) 3))]) app_at (by simp) ?_
  (try with_reducible refine IsW.run ?_); (repeat (first | walk_at "ev" | simp only [evA, evB, reduceCtorEq, Nat.reduceAdd, Nat.reduceLT, Nat.reduceLeDiff]))
  refine sp_struct ?_
  (try with_reducible refine IsW.run ?_); (repeat (first | walk_at "ev" | simp only [evA, evB, reduceCtorEq, Nat.reduceAdd, Nat.reduceLT, Nat.reduceLeDiff]))
  have hk0 : Kp (fun p => sy n p ∨ p = m) H H6 := by
    refine Kp.trans (ch := fun p => sy n p ∨ p = m) (ch' := fun p => sy n p ∨ p = m) (H' := H5b) ?_ k6 (fun _ _ h => h) (fun _ _ h => h)
    refine Kp.trans (ch := fun p => sy n p ∨ p = m) (ch' := on m) (H' := H5) ?_ k5b (fun _ _ h => h) (fun _ _ h => Or.inr h)
    refine Kp.trans (ch := fun p => sy n p ∨ p = m) (ch' := sy n) (H' := H4) ?_ k5 (fun _ _ h => h) (fun _ _ h => Or.inl h)
    refine Kp.trans (ch := on m) (ch' := on m) (H' := H3) ?_ k4 (fun _ _ h => Or.inr h) (fun _ _ h => Or.inr h)
    exact k02.trans k3 (fun _ _ h => h.elim) (fun _ _ h => h)
  have k8 : Kp no H7 (H7 ++ [.lst [enc (res S6) ι (ans (fin new b (new 0) (new 2) 3)), .tup [.str (Str.ofString "s"), .int 10, .tup [enc (res S) ι (.v (new 1)), enc (res S6) ι (lsT (q.map itm) (.v (new 2)))]]]]) := Kp.app
  have k9 := k7.trans k8 (c2 := no) (fun _ _ h => h) (fun _ _ h => h)
  have := h _ S6 (s6.kp k9 (fun _ _ _ h => h)) (le5.trans le6) (by lia) (F6.kp k9 (fun h => h) (fun h => h)) (hk0.trans k9 (fun _ _ h => h) (fun _ _ h => h.elim)) ⟨trivial, ⟨(f5.le le6).1, KIns.app KIns.vs ⟨trivial, trivial, trivial⟩⟩, ⟨trivial, kin, ⟨trivial, trivial, kin_ls (t := .v (new 2)) trivial, trivial⟩, trivial⟩, trivial⟩
  exact (congrArg (fun z => Q (.tup [.str (Str.ofString "s"), .int 5, .tup [z, .tup [.str (Str.ofString "s"), .int 1, .tup [enc (res S6) ι (ans (fin new b (new 0) (new 2) 3)), .tup [.str (Str.ofString "s"), .int 10, .tup [enc (res S) ι (.v (new 1)), enc (res S6) ι (lsT (q.map itm) (.v (new 2)))]]]]]]) _) (head_le (x := new 0) (y := new 1) (ι := ι) le6 f5)).mpr this
theorem sp_tran {j : Nat} {l : List X} {pb : Option (List (Option X))} {b : Bd X} (hc : ∀ i, c (i + 1) = nx ((vrs (ruleT j l pb b)).map ι) (c i) + 1) (hi : ∀ i, ι (new i) = nx ((vrs (ruleT j l pb b)).map ι) (c i)) (d1 : n + 5 < m) (d2 : m + 1 < H.length)
    (hS : SymAt H n S) (hF : FrAt H m (c 0)) (hg : S0.Le S) (hl : S.len < 90000) (ha : S.a cP = some j) (hk : KIn S (headT j l)) (hln : l.length < 1000) (hB : BdG S b) (hz : bsz b < 500) (hsz : sz (ruleT j l pb b) < 2900) (hq : ∀ q, pb = some q → q.length < 2900)
    (h : ∀ H' S', SymAt H' n S' → S.Le S' → S'.len ≤ S.len + 4 * bsz b + 4 → FrAt H' m (c (tranT new l pb b).2) → Kp (fun p => sy n p ∨ p = m) H H' → KIn S' (tranT new l pb b).1 → Q (enc (res S') ι (tranT new l pb b).1) H') :
    Ok (F_translate_grammar [.ref (n + 1), enc (res S) ι (ruleT j l pb b), .ref (m + 1)] H) Q := by
  cases pb with
  | none => exact sp_tran0 hc hi d1 d2 hS hF hg hl ha hk hln hB hz hsz h
  | some q => exact sp_tran1 (hq q rfl) hc hi d1 d2 hS hF hg hl ha hk hln hB hz hsz h
end
section
variable {X : Type}
theorem vrs_ls {t : Tr X} {z : X} : ∀ {l : List (Tr X)}, z ∈ vrs (lsT l t) ↔ z ∈ vrss l ∨ z ∈ vrs t
  | [] => by simp [lsT, vrss_1, vrss_2]
  | a :: r => by
    have ih := vrs_ls (t := t) (z := z) (l := r)
    show z ∈ vrs (.s (.n 0) [a, lsT r t]) ↔ _
    simp only [vrs_1, vrs_2, vrs_3, vrs_4, vrss_1, vrss_2, List.append_nil, List.mem_append, ih, or_assoc]
theorem vrss_vs {z : X} : ∀ {l : List X}, z ∈ vrss (l.map Tr.v) ↔ z ∈ l
  | [] => by simp [vrss_1, vrss_2]
  | a :: r => by simp only [List.map_cons, vrss_1, vrss_2, vrs_1, vrs_2, vrs_3, vrs_4, List.cons_append, List.nil_append, List.mem_cons, vrss_vs (l := r)]
theorem plain_vrs {x y z : X} : ∀ {b : Bd X}, z ∈ vrs (plain b x y) → z ∈ vrs (bt b) ∨ z = x ∨ z = y
  | .tx l, h => by
    simp only [plain_1, plain_2, plain_3, plain_4, plain_5, plain_6, plain_7, plain_8, plain_9, vrs_1, vrs_2, vrs_3, vrs_4, vrss_1, vrss_2, List.append_nil, List.mem_append, List.mem_singleton, vrs_ls] at h
    simp only [bt_1, bt_2, bt_3, bt_4, bt_5, bt_6, bt_7, bt_8, bt_9, vrs_ls, vrs_1, vrs_2, vrs_3, vrs_4]
    rcases h with h | h | h
    · exact Or.inr (Or.inl h)
    · exact Or.inl (Or.inl h)
    · exact Or.inr (Or.inr h)
  | .p l, h => by
    simp only [plain_1, plain_2, plain_3, plain_4, plain_5, plain_6, plain_7, plain_8, plain_9, vrs_1, vrs_2, vrs_3, vrs_4, vrss_app, List.mem_append, vrss_1, vrss_2, List.append_nil, List.mem_singleton] at h
    simp only [bt_1, bt_2, bt_3, bt_4, bt_5, bt_6, bt_7, bt_8, bt_9, vrs_1, vrs_2, vrs_3, vrs_4]
    rcases h with h | h | h
    · exact Or.inl h
    · exact Or.inr (Or.inl h)
    · exact Or.inr (Or.inr h)
  | .v _, h => by
    simp only [plain_1, plain_2, plain_3, plain_4, plain_5, plain_6, plain_7, plain_8, plain_9, vrs_1, vrs_2, vrs_3, vrs_4, vrss_1, vrss_2, List.append_nil, List.mem_append, List.mem_singleton] at h
    simpa [bt_1, bt_2, bt_3, bt_4, bt_5, bt_6, bt_7, bt_8, bt_9, vrs_1, vrs_2, vrs_3, vrs_4] using h
  | .cut, h => by
    simp only [plain_1, plain_2, plain_3, plain_4, plain_5, plain_6, plain_7, plain_8, plain_9, eqT, vrs_1, vrs_2, vrs_3, vrs_4, vrss_1, vrss_2, List.append_nil, List.nil_append, List.mem_append, List.mem_singleton] at h
    exact Or.inr h
  | .cur _, h => by
    simp only [plain_1, plain_2, plain_3, plain_4, plain_5, plain_6, plain_7, plain_8, plain_9, eqT, vrs_1, vrs_2, vrs_3, vrs_4, vrss_1, vrss_2, List.append_nil, List.mem_append, List.mem_singleton] at h
    simpa [bt_1, bt_2, bt_3, bt_4, bt_5, bt_6, bt_7, bt_8, bt_9, vrs_1, vrs_2, vrs_3, vrs_4, vrss_1, vrss_2] using h
  | .neg _, h => by simp [plain_1, plain_2, plain_3, plain_4, plain_5, plain_6, plain_7, plain_8, plain_9, vrs_1, vrs_2, vrs_3, vrs_4] at h
  | .com _ _, h => by simp [plain_1, plain_2, plain_3, plain_4, plain_5, plain_6, plain_7, plain_8, plain_9, vrs_1, vrs_2, vrs_3, vrs_4] at h
  | .sem _ _, h => by simp [plain_1, plain_2, plain_3, plain_4, plain_5, plain_6, plain_7, plain_8, plain_9, vrs_1, vrs_2, vrs_3, vrs_4] at h
  | .arr _ _, h => by simp [plain_1, plain_2, plain_3, plain_4, plain_5, plain_6, plain_7, plain_8, plain_9, vrs_1, vrs_2, vrs_3, vrs_4] at h
theorem jn_vrs {f : Int} {z : X} : ∀ {l : List (Tr X)}, z ∈ vrs (jn f l) → z ∈ vrss l
  | [], h => by simp [jn_1, jn_2, jn_3, vrs_1, vrs_2, vrs_3, vrs_4] at h
  | [t], h => by simpa [jn_1, jn_2, jn_3, vrss_1, vrss_2] using h
  | t :: u :: r, h => by
    have ih := jn_vrs (f := f) (z := z) (l := u :: r)
    simp only [jn_1, jn_2, jn_3, vrs_1, vrs_2, vrs_3, vrs_4, vrss_1, vrss_2, List.append_nil, List.mem_append] at h ih ⊢
    rcases h with h | h
    · exact Or.inl h
    · exact Or.inr (ih h)
theorem comb_vrs : ∀ {w : Nat} {z : X} {l : List (Tr X)}, z ∈ vrs (comb w l) → z ∈ vrss l
  | 0, z, l, h => jn_vrs h
  | 1, z, l, h => jn_vrs h
  | 2, z, l, h => by
    rcases l with _ | ⟨a, _ | ⟨b, r⟩⟩
    · exact nomatch h
    · exact h
    · rcases List.mem_append.mp h with h | h
      · exact List.mem_append_left _ h
      · exact List.mem_append_right _ (List.mem_append_left _ (by rw [vrss_2, vrss_1, List.append_nil] at h; exact h))
  | w + 3, z, l, h => by
    rcases l with _ | ⟨a, r⟩
    · exact nomatch h
    · exact (List.mem_append.mp h).elim (List.mem_append_left _) nofun
theorem vrss_mem {z : X} : ∀ {l : List (Tr X)}, z ∈ vrss l ↔ ∃ t ∈ l, z ∈ vrs t
  | [] => by simp [vrss_1, vrss_2]
  | t :: r => by simp [vrss_1, vrss_2, vrss_mem (l := r)]
theorem vals_vrs {z : X} : ∀ {l : List (Nd X)} {off : Nat}, z ∈ vrss (vals off l) → ∃ u, Nd.goal u ∈ l ∧ z ∈ vrs u
  | [], off, h => by simp [vals_1, vals_2, vals_3, vrss_1, vrss_2] at h
  | .goal t :: r, off, h => by
    simp only [vals_1, vals_2, vals_3, vrss_1, vrss_2, List.mem_append] at h
    rcases h with h | h
    · exact ⟨t, by simp, h⟩
    · obtain ⟨u, hu, hz⟩ := vals_vrs (l := r) h
      exact ⟨u, by simp [hu], hz⟩
  | .op w ps :: r, off, h => by
    have up : z ∈ vrss (vals (off + 1) r) → ∃ u, Nd.goal u ∈ (.op w ps :: r) ∧ z ∈ vrs u := fun h => by
      obtain ⟨u, hu, hz⟩ := vals_vrs (l := r) h
      exact ⟨u, by simp [hu], hz⟩
    simp only [vals_1, vals_2, vals_3, vrss_1, vrss_2, List.mem_append] at h
    rcases h with h | h
    · have := comb_vrs h
      obtain ⟨t, ht, hz⟩ := vrss_mem.mp this
      obtain ⟨q, hq, rfl⟩ := List.mem_map.mp ht
      cases e : (vals (off + 1) r)[q - (off + 1)]? with
      | none => rw [e] at hz; simp [vrs_1, vrs_2, vrs_3, vrs_4] at hz
      | some v =>
        rw [e] at hz
        exact up (vrss_mem.mpr ⟨v, List.mem_of_getElem? e, hz⟩)
    · exact up h
theorem spC_vrs {z : X} : ∀ {b c : Bd X}, c ∈ spC b → z ∈ vrs (bt c) → z ∈ vrs (bt b)
  | .com a b, c, hc, h => by
    simp only [spC_1, spC_2, spC_3, spC_4, spC_5, spC_6, spC_7, spC_8, spC_9, List.mem_cons] at hc
    simp only [bt_1, bt_2, bt_3, bt_4, bt_5, bt_6, bt_7, bt_8, bt_9, vrs_1, vrs_2, vrs_3, vrs_4, vrss_1, vrss_2, List.append_nil, List.mem_append]
    rcases hc with rfl | hc
    · exact Or.inl h
    · exact Or.inr (spC_vrs hc h)
  | .tx _, c, hc, h => by simp only [spC_1, spC_2, spC_3, spC_4, spC_5, spC_6, spC_7, spC_8, spC_9, List.mem_singleton] at hc; subst hc; exact h
  | .p _, c, hc, h => by simp only [spC_1, spC_2, spC_3, spC_4, spC_5, spC_6, spC_7, spC_8, spC_9, List.mem_singleton] at hc; subst hc; exact h
  | .v _, c, hc, h => by simp only [spC_1, spC_2, spC_3, spC_4, spC_5, spC_6, spC_7, spC_8, spC_9, List.mem_singleton] at hc; subst hc; exact h
  | .cut, c, hc, h => by simp only [spC_1, spC_2, spC_3, spC_4, spC_5, spC_6, spC_7, spC_8, spC_9, List.mem_singleton] at hc; subst hc; exact h
  | .cur _, c, hc, h => by simp only [spC_1, spC_2, spC_3, spC_4, spC_5, spC_6, spC_7, spC_8, spC_9, List.mem_singleton] at hc; subst hc; exact h
  | .neg _, c, hc, h => by simp only [spC_1, spC_2, spC_3, spC_4, spC_5, spC_6, spC_7, spC_8, spC_9, List.mem_singleton] at hc; subst hc; exact h
  | .sem _ _, c, hc, h => by simp only [spC_1, spC_2, spC_3, spC_4, spC_5, spC_6, spC_7, spC_8, spC_9, List.mem_singleton] at hc; subst hc; exact h
  | .arr _ _, c, hc, h => by simp only [spC_1, spC_2, spC_3, spC_4, spC_5, spC_6, spC_7, spC_8, spC_9, List.mem_singleton] at hc; subst hc; exact h
theorem spS_vrs {z : X} : ∀ {b c : Bd X}, c ∈ spS b → z ∈ vrs (bt c) → z ∈ vrs (bt b)
  | .sem a b, c, hc, h => by
    simp only [spS_1, spS_2, spS_3, spS_4, spS_5, spS_6, spS_7, spS_8, spS_9, List.mem_cons] at hc
    simp only [bt_1, bt_2, bt_3, bt_4, bt_5, bt_6, bt_7, bt_8, bt_9, vrs_1, vrs_2, vrs_3, vrs_4, vrss_1, vrss_2, List.append_nil, List.mem_append]
    rcases hc with rfl | hc
    · exact Or.inl h
    · exact Or.inr (spS_vrs hc h)
  | .tx _, c, hc, h => by simp only [spS_1, spS_2, spS_3, spS_4, spS_5, spS_6, spS_7, spS_8, spS_9, List.mem_singleton] at hc; subst hc; exact h
  | .p _, c, hc, h => by simp only [spS_1, spS_2, spS_3, spS_4, spS_5, spS_6, spS_7, spS_8, spS_9, List.mem_singleton] at hc; subst hc; exact h
  | .v _, c, hc, h => by simp only [spS_1, spS_2, spS_3, spS_4, spS_5, spS_6, spS_7, spS_8, spS_9, List.mem_singleton] at hc; subst hc; exact h
  | .cut, c, hc, h => by simp only [spS_1, spS_2, spS_3, spS_4, spS_5, spS_6, spS_7, spS_8, spS_9, List.mem_singleton] at hc; subst hc; exact h
  | .cur _, c, hc, h => by simp only [spS_1, spS_2, spS_3, spS_4, spS_5, spS_6, spS_7, spS_8, spS_9, List.mem_singleton] at hc; subst hc; exact h
  | .neg _, c, hc, h => by simp only [spS_1, spS_2, spS_3, spS_4, spS_5, spS_6, spS_7, spS_8, spS_9, List.mem_singleton] at hc; subst hc; exact h
  | .com _ _, c, hc, h => by simp only [spS_1, spS_2, spS_3, spS_4, spS_5, spS_6, spS_7, spS_8, spS_9, List.mem_singleton] at hc; subst hc; exact h
  | .arr _ _, c, hc, h => by simp only [spS_1, spS_2, spS_3, spS_4, spS_5, spS_6, spS_7, spS_8, spS_9, List.mem_singleton] at hc; subst hc; exact h
noncomputable def Pi (V : X → Prop) (new : Nat → X) (i : Nat) (x : X) : Prop := V x ∨ ∃ j, j < i ∧ x = new j
variable {V : X → Prop} {new : Nat → X}
theorem Pi.mono {i i' : Nat} {x : X} (h : Pi V new i x) (l : i ≤ i') : Pi V new i' x := h.imp id fun ⟨j, a, b⟩ => ⟨j, by lia, b⟩
theorem seg_pi : ∀ {l : List (Bd X)} {x y : X} {i : Nat}, Pi V new i x → Pi V new i y → ∀ t ∈ seg new l x y i, t.1 ∈ l ∧ Pi V new (i + l.length - 1) t.2.1 ∧ Pi V new (i + l.length - 1) t.2.2
  | [], _, _, _, _, _, t, h => by simp [seg_1, seg_2, seg_3] at h
  | [b], x, y, i, hx, hy, t, h => by
    simp only [seg_1, seg_2, seg_3, List.mem_singleton] at h
    subst h
    exact ⟨by simp, hx.mono (by simp), hy.mono (by simp)⟩
  | b :: c :: r, x, y, i, hx, hy, t, h => by
    simp only [seg_1, seg_2, seg_3, List.mem_cons] at h
    rcases h with rfl | h
    · exact ⟨by simp, hx.mono (by simp), Or.inr ⟨i, by simp, rfl⟩⟩
    · have := seg_pi (l := c :: r) (x := new i) (y := y) (i := i + 1) (Or.inr ⟨i, by lia, rfl⟩) (hy.mono (by lia)) t h
      refine ⟨List.mem_cons_of_mem _ this.1, ?_, ?_⟩
      · exact this.2.1.mono (by simp; lia)
      · exact this.2.2.mono (by simp; lia)
noncomputable def NdV (V : X → Prop) (new : Nat → X) (i : Nat) (nd : Nd X) : Prop := ∀ t, nd = .goal t → ∀ z ∈ vrs t, Pi V new i z
noncomputable def WtV (V : X → Prop) (new : Nat → X) (i : Nat) (w : Nat × T3 X) : Prop := (∀ z ∈ vrs (bt w.2.1), V z) ∧ Pi V new i w.2.2.1 ∧ Pi V new i w.2.2.2
theorem NdV.mono {i i' : Nat} {nd : Nd X} (h : NdV V new i nd) (l : i ≤ i') : NdV V new i' nd := fun t e z hz => (h t e z hz).mono l
theorem WtV.mono {i i' : Nat} {w : Nat × T3 X} (h : WtV V new i w) (l : i ≤ i') : WtV V new i' w := ⟨h.1, h.2.1.mono l, h.2.2.mono l⟩
structure PtV (V : X → Prop) (new : Nat → X) (i : Nat) (p : Pt X) : Prop where
  le : i ≤ p.i
  ad : ∀ nd ∈ p.add, NdV V new p.i nd
  nd : NdV V new p.i p.nd
  wt : ∀ w ∈ p.wt, WtV V new p.i w
theorem held_v {w L i i' : Nat} {sg : List (T3 X)} (le : i ≤ i') (h : ∀ t ∈ sg, (∀ z ∈ vrs (bt t.1), V z) ∧ Pi V new i' t.2.1 ∧ Pi V new i' t.2.2) : PtV V new i (held w L i' sg) := by
  refine ⟨le, fun nd hn => ?_, fun t e => (by cases e), fun w' hw' => ?_⟩
  · obtain ⟨t, ht, rfl⟩ := List.mem_map.mp hn
    intro u e z hz
    cases e
    exact Or.inl ((h t ht).1 z hz)
  · have := (idx_at hw').2.2
    exact h _ this
theorem leaf_v {b : Bd X} {x y : X} {i : Nat} (hV : ∀ z ∈ vrs (bt b), V z) (hx : Pi V new i x) (hy : Pi V new i y) : PtV V new i ⟨[], .goal (plain b x y), [], i⟩ :=
  ⟨Nat.le_refl _, fun nd h => by simp at h, fun t e z hz => by
    cases e
    rcases plain_vrs hz with h | rfl | rfl
    · exact Or.inl (hV z h)
    · exact hx
    · exact hy, fun w hw => by simp at hw⟩
theorem part_v {x y : X} {i L : Nat} : ∀ {b : Bd X}, (∀ z ∈ vrs (bt b), V z) → Pi V new i x → Pi V new i y → PtV V new i (part new x y i L b)
  | .com a b, hV, hx, hy => held_v (by lia) fun t ht => by
      have := seg_pi (V := V) hx hy t ht
      have hl : i + (spC (.com a b)).length - 1 = i + (spC b).length := by simp [spC_1, spC_2, spC_3, spC_4, spC_5, spC_6, spC_7, spC_8, spC_9]
      rw [hl] at this
      exact ⟨fun z hz => hV z (spC_vrs this.1 hz), this.2⟩
  | .sem a b, hV, hx, hy => held_v (Nat.le_refl _) fun t ht => by
      obtain ⟨c, hc, rfl⟩ := List.mem_map.mp ht
      exact ⟨fun z hz => hV z (spS_vrs hc hz), hx, hy⟩
  | .arr a b, hV, hx, hy => held_v (by lia) fun t ht => by
      have hn : Pi V new (i + 1) (new i) := Or.inr ⟨i, by lia, rfl⟩
      simp only [bt_1, bt_2, bt_3, bt_4, bt_5, bt_6, bt_7, bt_8, bt_9, vrs_1, vrs_2, vrs_3, vrs_4, vrss_1, vrss_2, List.append_nil, List.mem_append] at hV
      simp only [List.mem_cons, List.not_mem_nil, or_false] at ht
      rcases ht with rfl | rfl
      · exact ⟨fun z hz => hV z (Or.inl hz), hx.mono (by lia), hn⟩
      · exact ⟨fun z hz => hV z (Or.inr hz), hn, hy.mono (by lia)⟩
  | .neg b, hV, hx, hy => by
    have hn : Pi V new (i + 1) (new i) := Or.inr ⟨i, by lia, rfl⟩
    simp only [bt_1, bt_2, bt_3, bt_4, bt_5, bt_6, bt_7, bt_8, bt_9, vrs_1, vrs_2, vrs_3, vrs_4, vrss_1, vrss_2, List.append_nil] at hV
    refine ⟨by simp [part_1, part_2, part_3, part_4, part_5, part_6, part_7, part_8, part_9], fun nd h => ?_, fun t e => (by cases e), fun w hw => ?_⟩
    · simp only [part_1, part_2, part_3, part_4, part_5, part_6, part_7, part_8, part_9, List.mem_cons, List.not_mem_nil, or_false] at h
      rcases h with rfl | rfl | rfl
      · intro t e; cases e
      · intro t e z hz
        cases e
        simp only [eqT, vrs_1, vrs_2, vrs_3, vrs_4, vrss_1, vrss_2, List.append_nil, List.mem_append, List.mem_singleton] at hz
        rcases hz with rfl | rfl
        · exact hx.mono (by simp [part_1, part_2, part_3, part_4, part_5, part_6, part_7, part_8, part_9])
        · exact hy.mono (by simp [part_1, part_2, part_3, part_4, part_5, part_6, part_7, part_8, part_9])
      · intro t e z hz
        cases e
        exact Or.inl (hV z hz)
    · simp only [part_1, part_2, part_3, part_4, part_5, part_6, part_7, part_8, part_9, List.mem_singleton] at hw
      subst hw
      exact ⟨hV, hx.mono (by simp [part_1, part_2, part_3, part_4, part_5, part_6, part_7, part_8, part_9]), hn⟩
  | .tx l, hV, hx, hy => leaf_v hV hx hy
  | .p l, hV, hx, hy => leaf_v hV hx hy
  | .v l, hV, hx, hy => leaf_v hV hx hy
  | .cut, hV, hx, hy => leaf_v hV hx hy
  | .cur l, hV, hx, hy => leaf_v hV hx hy
structure MV (V : X → Prop) (new : Nat → X) (s : Ms X) : Prop where
  nd : ∀ nd ∈ s.nodes, NdV V new s.i nd
  wt : ∀ w ∈ s.wt, WtV V new s.i w
theorem mstep_v {s : Ms X} (h : MV V new s) : MV V new (mstep new s) ∧ s.i ≤ (mstep new s).i := by
  obtain ⟨nodes, wt, i⟩ := s
  cases wt with
  | nil => exact ⟨h, Nat.le_refl _⟩
  | cons w r =>
    obtain ⟨k, b, x, y⟩ := w
    have h0 := h.wt (k, b, x, y) (by simp)
    have P := part_v (new := new) (i := i) (L := nodes.length) h0.1 h0.2.1 h0.2.2
    have es : mstep new ⟨nodes, (k, b, x, y) :: r, i⟩ = ⟨(nodes ++ (part new x y i nodes.length b).add).set k (part new x y i nodes.length b).nd, (part new x y i nodes.length b).wt ++ r, (part new x y i nodes.length b).i⟩ := rfl
    rw [es]
    simp only at P
    generalize part new x y i nodes.length b = p at *
    refine ⟨⟨fun nd hn => ?_, fun w hw => ?_⟩, P.le⟩
    · rcases List.mem_or_eq_of_mem_set hn with hn | rfl
      · rcases List.mem_append.mp hn with hn | hn
        · exact (h.nd nd hn).mono P.le
        · exact P.ad nd hn
      · exact P.nd
    · rcases List.mem_append.mp hw with hw | hw
      · exact P.wt w hw
      · exact (h.wt w (by simp [hw])).mono P.le
theorem mrun_v : ∀ {k : Nat} {s : Ms X}, MV V new s → MV V new (mrun new k s) ∧ s.i ≤ (mrun new k s).i
  | 0, s, h => ⟨h, Nat.le_refl _⟩
  | k + 1, s, h => by
    have h1 := mstep_v h
    have h2 := mrun_v (k := k) h1.1
    exact ⟨h2.1, Nat.le_trans h1.2 h2.2⟩
theorem ans_vrs {b : Bd X} {x y z : X} {i : Nat} (hV : ∀ z ∈ vrs (bt b), V z) (hx : Pi V new i x) (hy : Pi V new i y) (hz : z ∈ vrs (ans (fin new b x y i))) : Pi V new (fin new b x y i).i z := by
  have m0 : MV V new (st0 b x y i) := by
    refine ⟨fun nd hn => ?_, fun w hw => ?_⟩
    · simp only [st0, List.mem_singleton] at hn
      subst hn
      intro t e z hz
      cases e
      exact Or.inl (hV z hz)
    · simp only [st0, List.mem_singleton] at hw
      subst hw
      exact ⟨hV, hx, hy⟩
  have h1 := (mrun_v (k := bsz b) m0).1
  unfold ans at hz
  have h2 : z ∈ vrss (vals 0 (fin new b x y i).nodes) := by
    cases e : vals 0 (fin new b x y i).nodes with
    | nil => rw [e] at hz; simp [vrs_1, vrs_2, vrs_3, vrs_4] at hz
    | cons t r => rw [e] at hz; simp only [vrss_1, vrss_2, List.mem_append]; exact Or.inl hz
  obtain ⟨u, hu, hz⟩ := vals_vrs h2
  exact h1.nd _ hu u rfl z hz
theorem fin_le {b : Bd X} {x y : X} {i : Nat} : i ≤ (fin new b x y i).i := by
  have m0 : MV (fun _ => True) new (st0 b x y i) := ⟨fun nd hn t e z hz => Or.inl trivial, fun w hw => ⟨fun _ _ => trivial, Or.inl trivial, Or.inl trivial⟩⟩
  exact (mrun_v (k := bsz b) m0).2
theorem tran_vrs {j : Nat} {l : List X} {pb : Option (List (Option X))} {b : Bd X} {z : X} (hz : z ∈ vrs (tranT new l pb b).1) : Pi (fun x => x ∈ vrs (ruleT j l pb b)) new (tranT new l pb b).2 z := by
  have hl : ∀ z ∈ l, z ∈ vrs (headT j l) := fun z hz => by
    cases l with
    | nil => cases hz
    | cons a r => exact vrss_vs.mpr hz
  cases pb with
  | none =>
    have er : ∀ z, z ∈ vrs (ruleT j l none b) ↔ z ∈ vrs (headT j l) ∨ z ∈ vrs (bt b) := fun z => by simp [ruleT, vrs_1, vrs_2, vrs_3, vrs_4, vrss_1, vrss_2]
    have f := fin_le (new := new) (b := b) (x := new 0) (y := new 1) (i := 2)
    simp only [tranT, vrs_1, vrs_2, vrs_3, vrs_4, vrss_1, vrss_2, vrss_app, List.append_nil, List.mem_append, vrss_vs, List.mem_singleton] at hz
    show Pi _ new (fin new b (new 0) (new 1) 2).i z
    rcases hz with (hz | rfl | rfl) | hz
    · exact Or.inl ((er z).mpr (Or.inl (hl z hz)))
    · exact Or.inr ⟨0, by lia, rfl⟩
    · exact Or.inr ⟨1, by lia, rfl⟩
    · exact ans_vrs (fun z hz => (er z).mpr (Or.inr hz)) (Or.inr ⟨0, by lia, rfl⟩) (Or.inr ⟨1, by lia, rfl⟩) hz
  | some q =>
    have er : ∀ z, z ∈ vrs (ruleT j l (some q) b) ↔ (z ∈ vrs (headT j l) ∨ z ∈ vrss (q.map itm)) ∨ z ∈ vrs (bt b) := fun z => by simp [ruleT, vrs_1, vrs_2, vrs_3, vrs_4, vrss_1, vrss_2, vrs_ls, or_assoc]
    have f := fin_le (new := new) (b := b) (x := new 0) (y := new 2) (i := 3)
    simp only [tranT, vrs_1, vrs_2, vrs_3, vrs_4, vrss_1, vrss_2, vrss_app, vrs_ls, List.append_nil, List.mem_append, vrss_vs, List.mem_singleton] at hz
    show Pi _ new (fin new b (new 0) (new 2) 3).i z
    rcases hz with (hz | rfl | rfl) | hz | rfl | hz | rfl
    · exact Or.inl ((er z).mpr (Or.inl (Or.inl (hl z hz))))
    · exact Or.inr ⟨0, by lia, rfl⟩
    · exact Or.inr ⟨1, by lia, rfl⟩
    · exact ans_vrs (fun z hz => (er z).mpr (Or.inr hz)) (Or.inr ⟨0, by lia, rfl⟩) (Or.inr ⟨2, by lia, rfl⟩) hz
    · exact Or.inr ⟨1, by lia, rfl⟩
    · exact Or.inl ((er z).mpr (Or.inl (Or.inr hz)))
    · exact Or.inr ⟨2, by lia, rfl⟩
theorem tran_sz {S : Sy} {l : List X} {pb : Option (List (Option X))} {b : Bd X} (hB : BdG S b) (hz : bsz b < 1900) (hl : l.length ≤ 2) (hq : ∀ q, pb = some q → q.length ≤ 2) : sz (tranT new l pb b).1 ≤ wz b + 15 := by
  cases pb with
  | none =>
    have := ans_sz (new := new) (x := new 0) (y := new 1) (i := 2) hB hz
    simp only [tranT, sz_1, sz_2, sz_3, sz_4, szs_1, szs_2, szs_app, vs_sz]
    lia
  | some q =>
    have := ans_sz (new := new) (x := new 0) (y := new 2) (i := 3) hB hz
    have := hq q rfl
    simp only [tranT, sz_1, sz_2, sz_3, sz_4, szs_1, szs_2, szs_app, vs_sz, lsT_sz]
    lia
end
theorem pyDs_ints : ∀ cs : List Int, pyDs (cs.map SV.int) = some (cs.map PyData.int)
  | [] => rfl
  | a :: r => by
    show ((pyDs (r.map SV.int)).map fun ds => PyData.int a :: ds) = _
    rw [pyDs_ints r]; rfl
theorem toD_l {H : Hp} {p : Nat} {xs : List SV} {ds : List PyData} (hp : H[p]? = some (.lst xs)) (h : pyDs xs = some ds) : toD H (.ref p) = some (.list ds) := by
  show (match H[p]? with | some (.lst xs) => (pyDs xs).map PyData.list | _ => none) = _
  rw [hp]
  show (pyDs xs).map PyData.list = _
  rw [h]; rfl
theorem toD_ints {H : Hp} {p : Nat} {cs : List Int} (hp : H[p]? = some (.lst (cs.map .int))) : toD H (.ref p) = some (.list (cs.map PyData.int)) := toD_l hp (pyDs_ints cs)
theorem shp_ints (cs : List Int) : shp (.list (cs.map PyData.int)) = true := by
  have a : ∀ ns : List Int, PyData.canLayAll0 (ns.map PyData.int) = true := fun ns => by
    induction ns with
    | nil => rfl
    | cons _ r ih => simp [PyData.canLayAll0, PyData.canLay0, ih]
  have b : ∀ ns : List Int, PyData.depthAll (ns.map PyData.int) = 0 := fun ns => by
    induction ns with
    | nil => rfl
    | cons _ r ih => simp [PyData.depthAll, PyData.depth, ih]
  simp [shp, SeqAt.shaped, PyData.canLay0, PyData.depth, a, b]
theorem cmp_nil {H : Hp} {p q : Nat} {cs : List Int} {neg : Bool} (hp : H[p]? = some (.lst (cs.map .int))) (hq : H[q]? = some (.lst [])) : cmpD neg H (.ref p) (.ref q) = some (neg ^^ cs.isEmpty) := by
  have h1 := toD_ints hp
  have h2 := toD_ints (H := H) (p := q) (cs := []) hq
  have s1 := shp_ints cs
  have s2 := shp_ints []
  simp only [cmpD, h1, h2, Option.bind_some, s1, s2, Bool.and_self, if_true]
  cases cs <;> simp [PyData.eqv, PyData.eqvAll]
theorem sp_coin {H : Hp} {p : Nat} {cs : List Int} {k : Int} {Q : SV → Hp → Prop} (hk : 0 < k) (hp : H[p]? = some (.lst (cs.map .int))) (hl : cs.length < 1000)
    (h : ∀ (r : Nat) (cs' : List Int) H', (r : Int) < k → H'[p]? = some (.lst (cs'.map .int)) → cs'.length ≤ cs.length → Kp (on p) H H' → Q (.int (r : Int)) H') : Ok (F_law_coin [.ref p, .int k] H) Q := by
  unfold F_law_coin d_law_coin
  have hp1 : (H ++ [SO.lst []])[p]? = some (.lst (cs.map .int)) := app_old hp
  have c1 : cmpD true (H ++ [SO.lst []]) (.ref p) (.ref H.length) = some (true ^^ cs.isEmpty) := cmp_nil hp1 app_at
  have k1 : Kp (on p) H (H ++ [SO.lst []]) := Kp.app
  rcases List.eq_nil_or_concat cs with rfl | ⟨ds, d, rfl⟩
  · (try with_reducible refine IsW.run ?_); (repeat (first | walk_at "ev" | simp only [c1, List.isEmpty_nil, Bool.xor_true, Bool.not_true, evA, evB, reduceCtorEq, Nat.reduceAdd, Nat.reduceLT, Nat.reduceLeDiff]))
    exact h 0 [] _ (by lia) hp1 (by simp) k1
  · rw [List.concat_eq_append] at *
    have e1 : (ds ++ [d]).isEmpty = false := by simp
    have ty := ty_lst hp1
    rw [List.map_append, List.map_cons, List.map_nil] at hp1
    have fp := fpop hp1 (by simp at hl ⊢; lia)
    (try with_reducible refine IsW.run ?_); (repeat (first | walk_at "ev" | simp only [c1, e1, Bool.xor_false, ty, fp, opMod, hk, evA, evB, reduceCtorEq, Nat.reduceAdd, Nat.reduceLT, Nat.reduceLeDiff]))
    have hm : 0 ≤ d % k := Int.emod_nonneg _ (by lia)
    have hm2 : d % k < k := Int.emod_lt_of_pos _ hk
    have := h (d % k).toNat ds ((H ++ [SO.lst []]).set p (.lst (ds.map .int))) (by lia) (set_at hp1) (by simp) (k1.trans (Kp.set (ch := on p) rfl) (fun _ _ h => h) (fun _ _ h => h))
    rw [show (((d % k).toNat : Nat) : Int) = d % k by lia] at this
    exact this
section
variable {H : Hp} {sl : List SV}
noncomputable def CH (H : Hp) (sl : List SV) (ds : List Int) : Hp := H ++ [.lst (ds.map .int), .lst sl]
theorem ch_ty {ds : List Int} : tyOf (CH H sl ds) (.ref H.length) = some "list" := ty_lst ap0
theorem ch_rev {ds : List Int} (hc : ds.length ≤ 200) : fReverse [.ref H.length] (CH H sl ds) = some (.none, CH H sl ds.reverse) := by
  unfold CH
  rw [wRevL ap0 (by rw [List.length_map]; lia), apset0, List.map_reverse]
theorem ch_len {ds : List Int} (hd : ds.length ≤ 200) : fLen [.ref H.length] (CH H sl ds) = some (.int (ds.length : Int), CH H sl ds) := len_ref ap0 (by simp) (by lia)
theorem ch_app {ds : List Int} {b : Int} (hd : ds.length ≤ 200) : fAppend [.ref H.length, .int b] (CH H sl ds) = some (.none, CH H sl (ds ++ [b])) := by
  unfold CH
  rw [ap_lst ap0 (by rw [List.length_map]; lia), apset0, List.map_append]; rfl
inductive CP (H : Hp) (sl : List SV) (a : Int) : SF → Loc → Hp → Prop
  | mk (ds : List Int) (b : Int) (z3 : Option SV) (hd : ds.length ≤ 110) : CP H sl a .nxt [some (.ref 0), some (.ref H.length), some (.int a), some (.int b), z3] (CH H sl ds)
inductive CO (H : Hp) (sl : List SV) : SF → Loc → Hp → Prop
  | mk (ds : List Int) (z1 z2 z3 : Option SV) (hd : ds.length ≤ 110) : CO H sl .nxt [some (.ref 0), some (.ref H.length), z1, z2, z3] (CH H sl ds)
inductive CL (H : Hp) (sl : List SV) (k : Nat) (src : Src) (l : Loc) (H' : Hp) : Prop
  | mk (d : Nat) (cs : List Int) (z1 z2 z3 : Option SV) (hd : d + k = sl.length) (es : src = .lst (H.length + 1) d) (el : l = [some (.ref 0), some (.ref H.length), z1, z2, z3]) (eH : H' = CH H sl cs) (hc : cs.length ≤ 90)
inductive CK (H : Hp) (sl : List SV) (a : Int) (k : Nat) (src : Src) (l : Loc) (H' : Hp) : Prop
  | mk (d : Nat) (ds : List Int) (b : Int) (z3 : Option SV) (hd : d + k = 20) (es : src = .rng (d : Int) (k : Int) 1) (el : l = [some (.ref 0), some (.ref H.length), some (.int a), some (.int b), z3]) (eH : H' = CH H sl ds) (hc : ds.length ≤ 90 + d)
end
theorem sp_coins {ns : List Int} {o : Obj} {H : Hp} {Q : SV → Hp → Prop} (h0 : H[0]? = some (.frz (ns.map .int) o)) (hl : ns.length < 2000)
    (h : ∀ (cs : List Int) H', cs.length ≤ 200 → H'[H.length]? = some (.lst (cs.map .int)) → Kp no H H' → Q (.ref H.length) H') : Ok (F_law_coins [.ref 0] H) Q := by
  have s1 : sliceL 60 (H ++ [SO.lst []]) (.ref 0) = some (.ref (H.length + 1), CH H ((ns.map .int).take 60) []) := by
    have : (H ++ [SO.lst []])[0]? = some (.frz (ns.map .int) o) := app_old h0
    simp only [sliceL, this]
    rw [if_pos (by rw [List.length_map]; lia)]; simp [CH]
  have hsll : ∀ (i : Nat) (v : SV), ((ns.map SV.int).take 60)[i]? = some v → ∃ z : Int, v = .int z := fun i v hv => by
    have := List.mem_of_mem_take (List.mem_of_getElem? hv)
    obtain ⟨z, _, rfl⟩ := List.mem_map.mp this
    exact ⟨z, rfl⟩
  have hslen : ((ns.map SV.int).take 60).length < 2900 := by rw [List.length_take, List.length_map]; lia
  unfold F_law_coins d_law_coins
  generalize (ns.map SV.int).take 60 = sl at s1 hsll hslen
  have hsr : ∀ ds, (CH H sl ds)[H.length + 1]? = some (.lst sl) := fun ds => apk
  have is := hsr []
  (try with_reducible refine IsW.run ?_); (repeat (first | walk_at "ev" | simp only [s1, wIt is, evA, evB, reduceCtorEq, Nat.reduceAdd, Nat.reduceLT, Nat.reduceLeDiff]))
  refine OkS.imp (Q := CO H sl) ?_ ?_
  · refine oks_forLJ (CL H sl) ?_ ?_ (n := sl.length) (by lia) ⟨0, [], none, none, none, Nat.zero_add _, rfl, rfl, rfl, by simp⟩
    · rintro src l H' ⟨d, cs, z1, z2, z3, hd, rfl, rfl, rfl, hc⟩
      obtain rfl : d = sl.length := hd
      exact ⟨nLe (hsr _) (List.getElem?_eq_none (Nat.le_refl _)), .mk _ _ _ _ (by lia)⟩
    · rintro J mk k src l H' ⟨d, cs, z1, z2, z3, hd, rfl, rfl, rfl, hc⟩
      obtain ⟨v, hv⟩ : ∃ v, sl[d]? = some v := ⟨_, List.getElem?_eq_getElem (by lia)⟩
      obtain ⟨a, rfl⟩ := hsll _ _ hv
      refine ⟨.int a, .lst (H.length + 1) (d + 1), nL (hsr _) hv, Nat.lt_of_sub_eq_succ rfl, ?_⟩
      have r20 : rangeS [.int 20] = some (.rng 0 20 1) := rfl
      (try with_reducible refine IsW.run ?_); (repeat (first | walk_at "ev" | simp only [absF, r20, evA, evB, reduceCtorEq, Nat.reduceAdd, Nat.reduceLT, Nat.reduceLeDiff]))
      refine OkS.imp (Q := CP H sl a) ?_ ?_
      · refine oks_forLJ (CK H sl a) ?_ ?_ (n := 20) (by lia) ⟨0, cs, _, _, rfl, rfl, rfl, rfl, hc⟩
        · rintro src l H' ⟨d, ds, b, z3, hd, rfl, rfl, rfl, hd2⟩
          exact ⟨rfl, .mk _ _ _ (by lia)⟩
        · rintro J mk j src l H' ⟨d, ds, b, z3, hd, rfl, rfl, rfl, hd2⟩
          refine ⟨.int (d : Int), .rng ((d + 1 : Nat) : Int) (j : Int) 1, nx_up, Nat.lt_of_sub_eq_succ rfl, ?_⟩
          have ap := ch_app (H := H) (sl := sl) (b := b % 1000) (show ds.length ≤ 200 by lia)
          have m1 : opMod (.int b) (.int 1000) = some (.int (b % 1000)) := rfl
          have m2 : opDiv (.int b) (.int 1000) = some (.int (b / 1000)) := rfl
          by_cases hb : b / 1000 = 0
          · have hb' : (b / 1000 == 0) = true := beq_iff_eq.mpr hb
            (try with_reducible refine IsW.run ?_); (repeat (first | walk_at "ev" | simp only [ch_ty, m1, m2, ap, pvN, cII, hb', evA, evB, reduceCtorEq, Nat.reduceAdd, Nat.reduceLT, Nat.reduceLeDiff]))
            exact .mk _ _ _ (by simp; lia)
          · have hb' : (b / 1000 == 0) = false := beq_eq_false_iff_ne.mpr hb
            (try with_reducible refine IsW.run ?_); (repeat (first | walk_at "ev" | simp only [ch_ty, m1, m2, ap, pvN, cII, hb', evA, evB, reduceCtorEq, Nat.reduceAdd, Nat.reduceLT, Nat.reduceLeDiff]))
            exact mk ⟨d + 1, _, _, _, by lia, rfl, rfl, rfl, by simp; lia⟩
      · rintro _ _ _ ⟨ds, b, z3, hd2⟩
        have fl := ch_len (H := H) (sl := sl) (show ds.length ≤ 200 by lia)
        by_cases h90 : (90 : Int) < (ds.length : Int)
        · (try with_reducible refine IsW.run ?_); (repeat (first | walk_at "ev" | simp only [fl, cII, h90, decide_true, evA, evB, reduceCtorEq, Nat.reduceAdd, Nat.reduceLT, Nat.reduceLeDiff]))
          exact .mk _ _ _ _ hd2
        · (try with_reducible refine IsW.run ?_); (repeat (first | walk_at "ev" | simp only [fl, cII, h90, decide_false, evA, evB, reduceCtorEq, Nat.reduceAdd, Nat.reduceLT, Nat.reduceLeDiff]))
          exact mk ⟨d + 1, ds, _, _, _, by lia, rfl, rfl, rfl, by lia⟩
  · rintro _ _ _ ⟨ds, z1, z2, z3, hd2⟩
    have fr := ch_rev (H := H) (sl := sl) (show ds.length ≤ 200 by lia)
    (try with_reducible refine IsW.run ?_); (repeat (first | walk_at "ev" | simp only [ch_ty, fr, pvN, evA, evB, reduceCtorEq, Nat.reduceAdd, Nat.reduceLT, Nat.reduceLeDiff]))
    exact h ds.reverse _ (by simp; lia) ap0 Kp.app
section
variable {X : Type} {ι : X → Int} {own : Nat → X} {H : Hp} {S : Sy} {n p : Nat} {cs : List Int} {Q : SV → Hp → Prop}
theorem sp_coinI {k : Int} (hk : 0 < k) (hp : H[p]? = some (.lst (cs.map .int))) (hl : cs.length < 1000)
    (h : ∀ (r : Int) (cs' : List Int) H', 0 ≤ r → r < k → H'[p]? = some (.lst (cs'.map .int)) → cs'.length ≤ cs.length → Kp (on p) H H' → Q (.int r) H') : Ok (F_law_coin [.ref p, .int k] H) Q :=
  sp_coin hk hp hl fun r cs' H' a b c d => h r cs' H' (by lia) a b c d
theorem coin_way {b : Bool} (hp : H[p]? = some (.lst (cs.map .int))) (hl : cs.length < 1000)
    (h : ∀ (r : Int) (cs' : List Int) H', 0 ≤ r → (r < 6 ∨ (r < 11 ∧ b = true)) → H'[p]? = some (.lst (cs'.map .int)) → cs'.length ≤ cs.length → Kp (on p) H H' → Q (.int r) H') : cond b (Ok (F_law_coin [.ref p, .int 11] H) Q) (Ok (F_law_coin [.ref p, .int 6] H) Q) := by
  cases b
  · exact sp_coinI (by lia) hp hl fun r cs' H' a b c d => h r cs' H' a (Or.inl b) c d
  · exact sp_coinI (by lia) hp hl fun r cs' H' a b c d => h r cs' H' a (Or.inr ⟨b, rfl⟩) c d
theorem on_app {p : Nat} {H H' : Hp} {so : SO} (k : Kp (on p) (H ++ [so]) H') (h : p < H.length) : Kp (on p) H H' ∧ H'[H.length]? = some so :=
  ⟨(Kp.app (ch := on p) (G := [so])).trans k (fun _ _ h => h) (fun _ _ h => h), k.keep _ _ app_at (by unfold on; lia)⟩
theorem ls_itm {ρ : Fu → Int} (h0 : ρ (.n 0) = 0) {u : Option X} {L : List (Option X)} : (.tup [.str (Str.ofString "s"), .int 0, .tup [enc ρ ι (itm u), enc ρ ι (lsT (L.map itm) (.a 0))]] : SV) = enc ρ ι (lsT ((u :: L).map itm) (.a 0)) := by
  show _ = enc ρ ι (.s (.n 0) [itm u, lsT (L.map itm) (.a 0)])
  simp only [enc_1, enc_2, enc_3, enc_4, encs_1, encs_2, h0]
inductive LX (ρ : Fu → Int) (ι : X → Int) (own : Nat → X) (H : Hp) (p : Nat) (cs : List Int) (r k : Nat) (src : Src) (l : Loc) (H' : Hp) : Prop
  | mk (L : List (Option X)) (ds : List Int) (z : Option SV) (hd : L.length + k = 1 + r) (es : src = .rng (L.length : Int) (k : Int) 1) (el : l = [some (.ref p), some (enc ρ ι (lsT (L.map itm) (.a 0))), z]) (ho : ∀ x, some x ∈ L → x = own 3) (hp : H'[p]? = some (.lst (ds.map .int))) (hl : ds.length ≤ cs.length) (kp : Kp (on p) H H')
theorem tx_item {ρ : Fu → Int} {q r2 : Nat} (hi : ι (own 3) = 3) (hr : r2 < 2) (hx : H[q]? = some (.lst [.tup [.str (Str.ofString "i"), .int 1], .tup [.str (Str.ofString "v"), .int 3]])) : ∃ u : Option X, (∀ x, u = some x → x = own 3) ∧ item H (.ref q) (.int (r2 : Int)) = some (enc ρ ι (itm u)) := by
  rcases (show r2 = 0 ∨ r2 = 1 by lia) with rfl | rfl
  · exact ⟨none, (fun _ h => nomatch h), by rw [item_l hx rfl]; rfl⟩
  · refine ⟨some (own 3), fun _ h => (Option.some.inj h).symm, ?_⟩
    rw [item_l hx rfl]
    show _ = some (SV.tup [.str (Str.ofString "v"), .int (ι (own 3))])
    rw [hi]; rfl
theorem sp_texts {ρ : Fu → Int} (h0 : ρ (.n 0) = 0) (hi : ι (own 3) = 3) (hp : H[p]? = some (.lst (cs.map .int))) (hl : cs.length < 1000)
    (h : ∀ (l : List (Option X)) (cs' : List Int) H', l ≠ [] → l.length ≤ 2 → (∀ x, some x ∈ l → x = own 3) → H'[p]? = some (.lst (cs'.map .int)) → cs'.length ≤ cs.length → Kp (on p) H H' → Q (enc ρ ι (lsT (l.map itm) (.a 0))) H') :
    Ok (F_law_texts [.ref p] H) Q := by
  unfold F_law_texts d_law_texts
  (try with_reducible refine IsW.run ?_); (repeat (first | walk_at "ev" | simp only [evA, evB, reduceCtorEq, Nat.reduceAdd, Nat.reduceLT, Nat.reduceLeDiff]))
  refine sp_coin (by decide) hp hl fun r cs1 H1 hr hp1 hl1 k1 => ?_
  have rg : rangeS [.int (1 + (r : Int))] = some (.rng 0 ((1 + r : Nat) : Int) 1) := by
    have := rng_up (k := 1 + r) (by lia)
    rw [Int.natCast_add] at this ⊢
    exact this
  (try with_reducible refine IsW.run ?_); (repeat (first | walk_at "ev" | simp only [addF, rg, evA, evB, reduceCtorEq, Nat.reduceAdd, Nat.reduceLT, Nat.reduceLeDiff]))
  (try with_reducible refine IsW.run ?_); (repeat (first | walk_at "ev" | simp only [evA, evB, reduceCtorEq, Nat.reduceAdd, Nat.reduceLT, Nat.reduceLeDiff]))
  refine oks_forLJ (LX ρ ι own H p cs r) ?_ ?_ (n := 1 + r) (by lia) ⟨[], cs1, none, Nat.zero_add _, rfl, rfl, fun _ h => (nomatch h), hp1, hl1, k1⟩
  · rintro src l H' ⟨L, ds, z, hL, rfl, rfl, ho, hp', hd, k'⟩
    refine ⟨rfl, ?_⟩
    (try with_reducible refine IsW.run ?_); (repeat (first | walk_at "ev" | simp only [evA, evB, reduceCtorEq, Nat.reduceAdd, Nat.reduceLT, Nat.reduceLeDiff]))
    exact h L ds H' (by rintro rfl; simp at hL; lia) (by lia) ho hp' hd k'
  · rintro J mk k src l H' ⟨L, ds, z, hL, rfl, rfl, ho, hp', hd, k'⟩
    refine ⟨_, _, nx_up, Nat.lt_of_sub_eq_succ rfl, ?_⟩
    (try with_reducible refine IsW.run ?_); (repeat (first | walk_at "ev" | simp only [evA, evB, reduceCtorEq, Nat.reduceAdd, Nat.reduceLT, Nat.reduceLeDiff]))
    refine sp_coin (by decide) (app_old hp') (Nat.lt_of_le_of_lt hd hl) fun r2 cs2 H2 hr2 hp2 hl2 k2 => ?_
    obtain ⟨k3, hx⟩ := on_app k2 (at_lt hp')
    obtain ⟨u, hu, it⟩ := tx_item (ρ := ρ) (r2 := r2) hi (by lia) hx
    (try with_reducible refine IsW.run ?_); (repeat (first | walk_at "ev" | simp only [it, evA, evB, reduceCtorEq, Nat.reduceAdd, Nat.reduceLT, Nat.reduceLeDiff]))
    rw [ls_itm h0]
    exact mk ⟨u :: L, cs2, _, by rw [List.length_cons]; lia, rfl, rfl, fun x hx => (List.mem_cons.mp hx).elim (fun e => hu x e.symm) (ho x), hp2, Nat.le_trans hl2 hd, k'.trans k3 (fun _ _ h => h) (fun _ _ h => h)⟩
inductive LV (ρ : Fu → Int) (ι : X → Int) (own : Nat → X) (H : Hp) (p : Nat) (cs : List Int) (m k : Nat) (src : Src) (acc : List SV) (H' : Hp) : Prop
  | mk (l : List X) (ds : List Int) (hd : l.length + k = m) (es : src = .rng (l.length : Int) (k : Int) 1) (ea : acc = encs ρ ι (l.map .v)) (ho : ∀ x ∈ l, ∃ k, k < 4 ∧ x = own k) (hp : H'[p]? = some (.lst (ds.map .int))) (hl : ds.length ≤ cs.length) (kp : Kp (on p) H H')
theorem sp_vlist {ρ : Fu → Int} {a ci m : Nat} {loc : Loc} (hi : ∀ k : Nat, k < 4 → ι (own k) = k) (la : loc[a]? = some (some (.int (m : Int)))) (lc : loc[ci]? = some (some (.ref p))) (hm : m < 1000) (hp : H[p]? = some (.lst (cs.map .int))) (hl : cs.length < 1000)
    (h : ∀ (l : List X) (q : Nat) (cs' : List Int) H', l.length = m → (∀ x ∈ l, ∃ k, k < 4 ∧ x = own k) → H'[q]? = some (.lst (encs ρ ι (l.map .v))) → H'[p]? = some (.lst (cs'.map .int)) → cs'.length ≤ cs.length → Kp (on p) H H' → Q (.ref q) H') :
    Ok (dComp (dRange (dCons (dLoc a) dNil)) dTrue (dTup (dCons (dVal (.str (Str.ofString "v"))) (dCons (dCall (F_law_coin) (dCons (dLoc 1) (dCons (dVal (.int 4)) dNil))) dNil))) [ci] 3000 loc H) Q := by
  refine ok_comp ?_
  have fr : frees loc [ci] = some [some (.ref p)] := fr_one lc
  (try with_reducible refine IsW.run ?_); (repeat (first | walk_at "ev" | simp only [lkI la, rng_up (k := m) (by lia), fr, evA, evB, reduceCtorEq, Nat.reduceAdd, Nat.reduceLT, Nat.reduceLeDiff]))
  refine ok_compLJ (LV ρ ι own H p cs m) ?_ ?_ (n := m) (by lia) ⟨[], cs, Nat.zero_add _, rfl, rfl, fun _ h => (nomatch h), hp, Nat.le_refl _, Kp.refl⟩
  · rintro src acc H' ⟨l, ds, hL, rfl, rfl, ho, hp', hd, k'⟩
    exact ⟨rfl, h l H'.length ds _ hL ho app_at (app_old hp') hd (k'.trans (Kp.app (ch := on p)) (fun _ _ h => h) (fun _ _ h => h))⟩
  · rintro J mk k src acc H' ⟨l, ds, hL, rfl, rfl, ho, hp', hd, k'⟩
    refine ⟨_, _, nx_up, ?_⟩
    (try with_reducible refine IsW.run ?_); (repeat (first | walk_at "ev" | simp only [evA, evB, reduceCtorEq, Nat.reduceAdd, Nat.reduceLT, Nat.reduceLeDiff]))
    refine sp_coin (by decide) hp' (Nat.lt_of_le_of_lt hd hl) fun r cs1 H1 hr hp1 hl1 k1 => ?_
    refine ⟨by rw [encs_len, List.length_map]; lia, mk ⟨l ++ [own r], cs1, by rw [List.length_append, List.length_singleton]; lia, by rw [List.length_append]; rfl, ?_, fun x hx => (List.mem_append.mp hx).elim (ho x) fun h => ⟨r, by lia, List.mem_singleton.mp h⟩, hp1, Nat.le_trans hl1 hd, k'.trans k1 (fun _ _ h => h) (fun _ _ h => h)⟩⟩
    rw [List.map_append, encs_app]
    simp only [List.map_cons, List.map_nil, encs_1, encs_2, enc_1, enc_2, enc_3, enc_4, hi r (by lia)]
end
section
variable {X : Type} {ι : X → Int} {own : Nat → X} {H : Hp} {S : Sy} {n p : Nat} {cs : List Int} {Q : SV → Hp → Prop}
theorem own_vs {l : List X} (h : ∀ x ∈ l, ∃ k, k < 4 ∧ x = own k) : ∀ x ∈ vrss (l.map Tr.v), ∃ k, k < 4 ∧ x = own k := fun x hx => h x (vrss_vs.mp hx)
theorem own_tx {l : List (Option X)} (h : ∀ x, some x ∈ l → x = own 3) : ∀ x ∈ vrss (l.map itm), ∃ k, k < 4 ∧ x = own k := fun x hx => by
  obtain ⟨t, ht, hx⟩ := vrss_mem.mp hx
  obtain ⟨u, hu, rfl⟩ := List.mem_map.mp ht
  cases u with
  | none => simp [itm, vrs_1, vrs_2, vrs_3, vrs_4] at hx
  | some y =>
    simp only [itm, vrs_1, vrs_2, vrs_3, vrs_4, List.mem_singleton] at hx
    subst hx
    exact ⟨3, by lia, h _ hu⟩
structure Bop (r g : Int) (bop : Bd X → Bd X → Bd X) (ι : X → Int) : Prop where
  it : ∀ H : Hp, item (H ++ [.lst [.int 1, .int 1, .int 2, .int 3]]) (.ref H.length) (.int (r - 7)) = some (.int g)
  enc' : ∀ S a b, (.tup [.str (Str.ofString "s"), .int g, .tup [enc (res S) ι (bt a), enc (res S) ι (bt b)]] : SV) = enc (res S) ι (bt (bop a b))
  ok : ∀ a b, BOk a → BOk b → BOk (bop a b)
  w : ∀ a b, wz (bop a b) = 5 + wz a + wz b
  z : ∀ a b, bsz (bop a b) ≤ 1 + bsz a + bsz b
  q : ∀ a b, sz (bt (bop a b)) = 1 + sz (bt a) + sz (bt b)
  v : ∀ a b x, x ∈ vrs (bt (bop a b)) → x ∈ vrs (bt a) ∨ x ∈ vrs (bt b)
  kin : ∀ S a b, KIn S (bt a) → KIn S (bt b) → KIn S (bt (bop a b))
theorem bop_of {r : Int} (h : r = 7 ∨ r = 8 ∨ r = 9 ∨ r = 10) : ∃ g bop, Bop r g bop ι := by
  have it : ∀ {k : Int} (H : Hp), (k = 0 ∨ k = 1 ∨ k = 2 ∨ k = 3) → item (H ++ [.lst [.int 1, .int 1, .int 2, .int 3]]) (.ref H.length) (.int k) = [SV.int 1, .int 1, .int 2, .int 3][k.toNat]? := fun H h => item_lst app_at (by lia) (by lia)
  have vv : ∀ (f : Int) (a b : Tr X) x, x ∈ vrs (.s (.n f) [a, b]) → x ∈ vrs a ∨ x ∈ vrs b := fun f a b x h => by simpa [vrs_1, vrs_2, vrs_3, vrs_4, vrss_1, vrss_2] using h
  have zz : ∀ (f : Int) (a b : Tr X), sz (.s (.n f) [a, b]) = 1 + sz a + sz b := fun f a b => by simp only [sz_1, sz_2, sz_3, sz_4, szs_1, szs_2]; lia
  rcases h with rfl | rfl | rfl | rfl
  · exact ⟨1, .com, fun H => it H (by decide), fun S a b => by simp only [bt_1, bt_2, bt_3, bt_4, bt_5, bt_6, bt_7, bt_8, bt_9, enc_1, enc_2, enc_3, enc_4, encs_1, encs_2]; rfl, fun _ _ a b => ⟨a, b⟩, fun _ _ => rfl, fun _ _ => by simp only [bsz_1, bsz_2, bsz_3, bsz_4, bsz_5, bsz_6, bsz_7, bsz_8, bsz_9]; lia, fun _ _ => zz _ _ _, fun _ _ => vv _ _ _, fun _ _ _ a b => ⟨trivial, a, b, trivial⟩⟩
  · exact ⟨1, .com, fun H => it H (by decide), fun S a b => by simp only [bt_1, bt_2, bt_3, bt_4, bt_5, bt_6, bt_7, bt_8, bt_9, enc_1, enc_2, enc_3, enc_4, encs_1, encs_2]; rfl, fun _ _ a b => ⟨a, b⟩, fun _ _ => rfl, fun _ _ => by simp only [bsz_1, bsz_2, bsz_3, bsz_4, bsz_5, bsz_6, bsz_7, bsz_8, bsz_9]; lia, fun _ _ => zz _ _ _, fun _ _ => vv _ _ _, fun _ _ _ a b => ⟨trivial, a, b, trivial⟩⟩
  · exact ⟨2, .sem, fun H => it H (by decide), fun S a b => by simp only [bt_1, bt_2, bt_3, bt_4, bt_5, bt_6, bt_7, bt_8, bt_9, enc_1, enc_2, enc_3, enc_4, encs_1, encs_2]; rfl, fun _ _ a b => ⟨a, b⟩, fun _ _ => rfl, fun _ _ => by simp only [bsz_1, bsz_2, bsz_3, bsz_4, bsz_5, bsz_6, bsz_7, bsz_8, bsz_9]; lia, fun _ _ => zz _ _ _, fun _ _ => vv _ _ _, fun _ _ _ a b => ⟨trivial, a, b, trivial⟩⟩
  · exact ⟨3, .arr, fun H => it H (by decide), fun S a b => by simp only [bt_1, bt_2, bt_3, bt_4, bt_5, bt_6, bt_7, bt_8, bt_9, enc_1, enc_2, enc_3, enc_4, encs_1, encs_2]; rfl, fun _ _ a b => ⟨a, b⟩, fun _ _ => rfl, fun _ _ => by simp only [bsz_1, bsz_2, bsz_3, bsz_4, bsz_5, bsz_6, bsz_7, bsz_8, bsz_9]; lia, fun _ _ => zz _ _ _, fun _ _ => vv _ _ _, fun _ _ _ a b => ⟨trivial, a, b, trivial⟩⟩
structure B3 (own : Nat → X) (r : Int) (k : Nat) (b : Bd X) (ι : X → Int) : Prop where
  it : ∀ (S : Sy) (H : Hp), item (H ++ [.lst [.tup [.str (Str.ofString "v"), .int (k : Int)], .tup [.str (Str.ofString "a"), .int 15], .tup [.str (Str.ofString "s"), .int 9, .tup [.tup [.str (Str.ofString "v"), .int 2]]]]]) (.ref H.length) (.int (r - 3)) = some (enc (res S) ι (bt b))
  ok : BOk b
  w : wz b ≤ 5
  z : bsz b = 1
  q : sz (bt b) ≤ 2
  v : ∀ x ∈ vrs (bt b), ∃ k, k < 4 ∧ x = own k
  kin : ∀ S, KIn S (bt b)
theorem b3_of {r : Int} {k : Nat} (hi : ∀ k : Nat, k < 4 → ι (own k) = k) (hk : k < 4) (h : r = 3 ∨ r = 4 ∨ r = 5) : ∃ b, B3 own r k b ι := by
  have hk := hi k hk; have h2 := hi 2 (by lia)
  rcases h with rfl | rfl | rfl
  · exact ⟨.v (own k), fun S H => (item_l app_at rfl).trans (by simp only [bt_1, bt_2, bt_3, bt_4, bt_5, bt_6, bt_7, bt_8, bt_9, enc_1, enc_2, enc_3, enc_4, encs_1, encs_2, hk]; rfl), trivial, by simp only [wz_1, wz_2, wz_3, wz_4, wz_5, wz_6, wz_7, wz_8, wz_9]; lia, rfl, by simp [bt_1, bt_2, bt_3, bt_4, bt_5, bt_6, bt_7, bt_8, bt_9, sz_1, sz_2, sz_3, sz_4, szs_1, szs_2], by simp [bt_1, bt_2, bt_3, bt_4, bt_5, bt_6, bt_7, bt_8, bt_9, vrs_1, vrs_2, vrs_3, vrs_4, vrss_1, vrss_2]; exact ⟨k, by lia, rfl⟩, fun S => by simp [bt_1, bt_2, bt_3, bt_4, bt_5, bt_6, bt_7, bt_8, bt_9, KIn_1, KIn_2, KIn_3, KIn_4, KIns_1, KIns_2, FuIn]⟩
  · exact ⟨.cut, fun S H => (item_l app_at rfl).trans (by simp only [bt_1, bt_2, bt_3, bt_4, bt_5, bt_6, bt_7, bt_8, bt_9, enc_1, enc_2, enc_3, enc_4, encs_1, encs_2]; rfl), trivial, by simp only [wz_1, wz_2, wz_3, wz_4, wz_5, wz_6, wz_7, wz_8, wz_9]; lia, rfl, by simp [bt_1, bt_2, bt_3, bt_4, bt_5, bt_6, bt_7, bt_8, bt_9, sz_1, sz_2, sz_3, sz_4, szs_1, szs_2], by simp [bt_1, bt_2, bt_3, bt_4, bt_5, bt_6, bt_7, bt_8, bt_9, vrs_1, vrs_2, vrs_3, vrs_4, vrss_1, vrss_2], fun S => by simp [bt_1, bt_2, bt_3, bt_4, bt_5, bt_6, bt_7, bt_8, bt_9, KIn_1, KIn_2, KIn_3, KIn_4, KIns_1, KIns_2, FuIn]⟩
  · exact ⟨.cur (own 2), fun S H => (item_l app_at rfl).trans (by simp only [bt_1, bt_2, bt_3, bt_4, bt_5, bt_6, bt_7, bt_8, bt_9, enc_1, enc_2, enc_3, enc_4, encs_1, encs_2, h2]; rfl), trivial, by simp only [wz_1, wz_2, wz_3, wz_4, wz_5, wz_6, wz_7, wz_8, wz_9]; lia, rfl, by simp [bt_1, bt_2, bt_3, bt_4, bt_5, bt_6, bt_7, bt_8, bt_9, sz_1, sz_2, sz_3, sz_4, szs_1, szs_2], by simp [bt_1, bt_2, bt_3, bt_4, bt_5, bt_6, bt_7, bt_8, bt_9, vrs_1, vrs_2, vrs_3, vrs_4, vrss_1, vrss_2]; exact ⟨2, by lia, rfl⟩, fun S => by simp [bt_1, bt_2, bt_3, bt_4, bt_5, bt_6, bt_7, bt_8, bt_9, KIn_1, KIn_2, KIn_3, KIn_4, KIns_1, KIns_2, FuIn]⟩
theorem cond12 {r : Int} {T E : Prop} (h : r = 1 ∨ r = 2) (t : T) : cond (r == 1) T (cond (r == 2) T E) := by
  rcases h with rfl | rfl <;> exact t
theorem sp_rule (hi : ∀ k : Nat, k < 4 → ι (own k) = k) (hpn : p < n) : ∀ (d f : Nat) {H : Hp} {S : Sy} {cs : List Int} {Q : SV → Hp → Prop}, d ≤ f → d ≤ 3 → SymAt H n S → S0.Le S → S.len + 2 * 2 ^ d < 5000 → H[p]? = some (.lst (cs.map .int)) → cs.length < 1000 →
    (∀ (b : Bd X) S' (cs' : List Int) H', BOk b → wz b + 5 ≤ 12 * 2 ^ d → bsz b + 1 ≤ 2 * 2 ^ d → sz (bt b) + 1 ≤ 6 * 2 ^ d → (∀ x ∈ vrs (bt b), ∃ k, k < 4 ∧ x = own k) → KIn S' (bt b) → SymAt H' n S' → S.Le S' → S'.len ≤ S.len + 2 * 2 ^ d → H'[p]? = some (.lst (cs'.map .int)) → cs'.length ≤ cs.length →
      Kp (fun q => sy n q ∨ q = p) H H' → Q (enc (res S') ι (bt b)) H') → Ok (F_law_rule_part (f + 1) [.ref p, .ref (n + 1), .int (d : Int)] H) Q := by
  intro d
  induction d using Nat.strongRecOn with
  | _ d ih =>
    intro f H S cs Q hf hd hS hg hl hp hc h
    show Ok (fDef 3 3 (d_law_rule_part (F_law_rule_part f)) [.ref p, .ref (n + 1), .int (d : Int)] H) Q
    have hP : 1 ≤ 2 ^ d := Nat.one_le_two_pow
    unfold d_law_rule_part
    (try with_reducible refine IsW.run ?_); (repeat (first | walk_at "ev" | simp only [cII, evA, evB, reduceCtorEq, Nat.reduceAdd, Nat.reduceLT, Nat.reduceLeDiff]))
    refine coin_way hp hc fun r cs1 H1 h0 hr hp1 hc1 k1 => ?_
    have S1 : SymAt H1 n S := hS.kp k1 (fun q h1 h2 h => by unfold on at h; lia)
    have kp1 : Kp (fun q => sy n q ∨ q = p) H H1 := k1.mono fun _ _ h => Or.inr h
    have hrd : r < 6 ∨ (r < 11 ∧ 0 < d) := hr.imp id fun ⟨a, b⟩ => ⟨a, by simpa using b⟩
    have sf : ∀ {H : Hp}, SymAt H n S → isInst 154 (Str.ofString "func") H (.ref (n + 1)) = true := fun h => h.isI nl_func
    rcases (show r = 0 ∨ (r = 1 ∨ r = 2) ∨ (r = 3 ∨ r = 4 ∨ r = 5) ∨ (6 ≤ r ∧ r < 11 ∧ 0 < d) by lia) with rfl | h12 | h345 | ⟨hr6, hr11, hd0⟩
    · -- terminals
      (try with_reducible refine IsW.run ?_); (repeat (first | walk_at "ev" | simp only [cII, Int.reduceBEq, evA, evB, reduceCtorEq, Nat.reduceAdd, Nat.reduceLT, Nat.reduceLeDiff]))
      refine sp_texts (ρ := res S) (own := own) rfl (hi 3 (by lia)) hp1 (by lia) fun l cs2 H2 hne hl2 ho hp2 hc2 k2 => ?_
      have k2' : Kp (fun q => sy n q ∨ q = p) H H2 := kp1.trans k2 (fun _ _ h => h) (fun _ _ h => Or.inr h)
      refine h (.tx l) S cs2 H2 ⟨hne, by lia⟩ (by simp only [wz_1, wz_2, wz_3, wz_4, wz_5, wz_6, wz_7, wz_8, wz_9]; lia) (by simp only [bsz_1, bsz_2, bsz_3, bsz_4, bsz_5, bsz_6, bsz_7, bsz_8, bsz_9]; lia) ?_ ?_ (kin_ls (t := .a 0) trivial) (S1.kp k2 (fun q h1 h2 h => by unfold on at h; lia)) (Sy.Le.refl _) (by lia) hp2 (by lia) k2'
      · show sz (lsT (l.map itm) (.a 0)) + 1 ≤ _
        rw [lsT_sz]; simp only [sz_1, sz_2, sz_3, sz_4]; lia
      · intro x hx
        have hx : x ∈ vrs (lsT (l.map itm) (.a 0)) := hx
        rw [vrs_ls] at hx
        rcases hx with hx | hx
        · exact own_tx ho x hx
        · simp [vrs_1, vrs_2, vrs_3, vrs_4] at hx
    · have b0 : (r == 0) = false := beq_eq_false_iff_ne.mpr (by lia)
      (try with_reducible refine IsW.run ?_); (repeat (first | walk_at "ev" | simp only [cII, b0, evA, evB, reduceCtorEq, Nat.reduceAdd, Nat.reduceLT, Nat.reduceLeDiff]))
      refine cond12 h12 ?_
      (try with_reducible refine IsW.run ?_); (repeat (first | walk_at "ev" | simp only [sf S1, evA, evB, reduceCtorEq, Nat.reduceAdd, Nat.reduceLT, Nat.reduceLeDiff]))
      refine sp_sym_func S1 (by lia) fun S2 i j H2 s2 le2 a2 f2 n2 _ k2 l2 => ?_
      have hp2 : H2[p]? = some (.lst (cs1.map .int)) := k2.keep _ _ hp1 (by unfold sy; lia)
      obtain ⟨m, hm, h12⟩ : ∃ m : Nat, r = (m : Int) ∧ (m = 1 ∨ m = 2) := ⟨r.toNat, by lia, by lia⟩
      subst hm
      refine sp_vlist (ρ := res S2) (a := 3) (ci := 0) (m := m) (own := own) hi rfl rfl (by lia) hp2 (by lia) fun l q cs3 H3 hlen ho hq hp3 hc3 k3 => ?_
      have hql : (encs (res S2) ι (l.map .v)).length < 1000000 := by rw [encs_len, List.length_map]; lia
      (try with_reducible refine IsW.run ?_); (repeat (first | walk_at "ev" | simp only [wTup hq hql, evA, evB, reduceCtorEq, Nat.reduceAdd, Nat.reduceLT, Nat.reduceLeDiff]))
      have ff : S2.f j ((l.length : Nat) : Int) = some i := by rw [hlen]; exact f2
      have er : res S2 (.p l.length) = (i : Int) := res_p a2 ff
      have ee : (.tup [.str (Str.ofString "s"), .int (i : Int), .tup (encs (res S2) ι (l.map .v))] : SV) = enc (res S2) ι (bt (.p l)) := by simp only [bt_1, bt_2, bt_3, bt_4, bt_5, bt_6, bt_7, bt_8, bt_9, enc_1, enc_2, enc_3, enc_4, er]
      rw [ee]
      have k3' : Kp (fun q => sy n q ∨ q = p) H H3 := (kp1.trans k2 (c2 := fun q => sy n q ∨ q = p) (fun _ _ h => h) (fun _ _ h => Or.inl h)).trans k3 (fun _ _ h => h) (fun _ _ h => Or.inr h)
      exact h (.p l) S2 cs3 H3 ⟨by intro e; subst e; simp at hlen; lia, by lia⟩ (by simp only [wz_1, wz_2, wz_3, wz_4, wz_5, wz_6, wz_7, wz_8, wz_9]; lia) (by simp only [bsz_1, bsz_2, bsz_3, bsz_4, bsz_5, bsz_6, bsz_7, bsz_8, bsz_9]; lia) (by simp only [bt_1, bt_2, bt_3, bt_4, bt_5, bt_6, bt_7, bt_8, bt_9, sz_1, sz_2, sz_3, sz_4, vs_sz]; lia) (own_vs ho) ⟨⟨j, i, a2, ff⟩, KIns.vs⟩ (s2.kp k3 (fun q h1 h2 h => by unfold on at h; lia)) le2 (by lia) hp3 (by lia) k3'
    · have b0 : (r == 0) = false := beq_eq_false_iff_ne.mpr (by lia)
      have b1 : (r == 1) = false := beq_eq_false_iff_ne.mpr (by lia)
      have b2 : (r == 2) = false := beq_eq_false_iff_ne.mpr (by lia)
      have b6 : decide (r < 6) = true := decide_eq_true (by lia)
      (try with_reducible refine IsW.run ?_); (repeat (first | walk_at "ev" | simp only [cII, b0, b1, b2, b6, evA, evB, reduceCtorEq, Nat.reduceAdd, Nat.reduceLT, Nat.reduceLeDiff]))
      refine sp_coin (by lia) hp1 (by lia) fun k cs2 H2 hk hp2 hc2 k2 => ?_
      obtain ⟨b, B⟩ := b3_of (own := own) (k := k) hi (by lia) h345
      (try with_reducible refine IsW.run ?_); (repeat (first | walk_at "ev" | simp only [subF, B.it S, evA, evB, reduceCtorEq, Nat.reduceAdd, Nat.reduceLT, Nat.reduceLeDiff]))
      have k2' := (kp1.trans k2 (c2 := fun q => sy n q ∨ q = p) (fun _ _ h => h) (fun _ _ h => Or.inr h)).trans (Kp.app (ch := no) (G := [.lst [.tup [.str (Str.ofString "v"), .int (k : Int)], .tup [.str (Str.ofString "a"), .int 15], .tup [.str (Str.ofString "s"), .int 9, .tup [.tup [.str (Str.ofString "v"), .int 2]]]]])) (c2 := fun q => sy n q ∨ q = p) (fun _ _ h => h) (fun _ _ h => h.elim)
      have := B.w; have := B.z; have := B.q
      exact h b S cs2 _ B.ok (by lia) (by lia) (by lia) B.v (B.kin S) (((S1.kp k2 (fun q h1 h2 h => by unfold on at h; lia))).kp (Kp.app (ch := no)) (fun _ _ _ h => h)) (Sy.Le.refl _) (by lia) (app_old hp2) (by lia) k2'
    · obtain ⟨d, rfl⟩ : ∃ d', d = d' + 1 := ⟨d - 1, by lia⟩
      obtain ⟨f, rfl⟩ : ∃ f', f = f' + 1 := ⟨f - 1, by lia⟩
      have e1 : (((d + 1 : Nat)) : Int) - 1 = (d : Int) := by lia
      have b0 : (r == 0) = false := beq_eq_false_iff_ne.mpr (by lia)
      have b1 : (r == 1) = false := beq_eq_false_iff_ne.mpr (by lia)
      have b2 : (r == 2) = false := beq_eq_false_iff_ne.mpr (by lia)
      have b6 : decide (r < 6) = false := decide_eq_false (by lia)
      have hpow : 2 ^ (d + 1) = 2 * 2 ^ d := by rw [Nat.pow_succ]; lia
      rw [hpow] at hl h hP
      (try with_reducible refine IsW.run ?_); (repeat (first | walk_at "ev" | simp only [cII, b0, b1, b2, b6, subF, e1, evA, evB, reduceCtorEq, Nat.reduceAdd, Nat.reduceLT, Nat.reduceLeDiff]))
      refine ih d (by lia) f (by lia) (by lia) S1 hg (by lia) hp1 (by lia) fun b1' S2 cs2 H2 ok1 w1 z1 q1 v1 kin1 s2 le2 n2 hp2 hc2 k2 => ?_
      have kp2 : Kp (fun q => sy n q ∨ q = p) H H2 := kp1.trans k2 (fun _ _ h => h) (fun _ _ h => h)
      by_cases h6 : r = 6
      · have b6 : (r == 6) = true := beq_iff_eq.mpr h6
        (try with_reducible refine IsW.run ?_); (repeat (first | walk_at "ev" | simp only [cII, b6, evA, evB, reduceCtorEq, Nat.reduceAdd, Nat.reduceLT, Nat.reduceLeDiff]))
        have ee : (.tup [.str (Str.ofString "s"), .int 4, .tup [enc (res S2) ι (bt b1')]] : SV) = enc (res S2) ι (bt (.neg b1')) := by simp only [bt_1, bt_2, bt_3, bt_4, bt_5, bt_6, bt_7, bt_8, bt_9, enc_1, enc_2, enc_3, enc_4, encs_1, encs_2]; rfl
        rw [ee]
        exact h (.neg b1') S2 cs2 H2 ok1 (by simp only [wz_1, wz_2, wz_3, wz_4, wz_5, wz_6, wz_7, wz_8, wz_9]; lia) (by simp only [bsz_1, bsz_2, bsz_3, bsz_4, bsz_5, bsz_6, bsz_7, bsz_8, bsz_9]; lia) (by simp only [bt_1, bt_2, bt_3, bt_4, bt_5, bt_6, bt_7, bt_8, bt_9, sz_1, sz_2, sz_3, sz_4, szs_1, szs_2]; lia) (fun x hx => v1 x (by simpa [bt_1, bt_2, bt_3, bt_4, bt_5, bt_6, bt_7, bt_8, bt_9, vrs_1, vrs_2, vrs_3, vrs_4, vrss_1, vrss_2] using hx)) ⟨trivial, kin1, trivial⟩ s2 le2 (by lia) hp2 (by lia) kp2
      · have b6 : (r == 6) = false := beq_eq_false_iff_ne.mpr h6
        obtain ⟨g, bop, B⟩ := bop_of (ι := ι) (r := r) (by lia)
        (try with_reducible refine IsW.run ?_); (repeat (first | walk_at "ev" | simp only [cII, b6, subF, e1, B.it, evA, evB, reduceCtorEq, Nat.reduceAdd, Nat.reduceLT, Nat.reduceLeDiff]))
        have ka : Kp no H2 (H2 ++ [SO.lst [.int 1, .int 1, .int 2, .int 3]]) := Kp.app
        refine ih d (by lia) f (by lia) (by lia) (s2.kp ka (fun _ _ _ h => h)) (hg.trans le2) (by lia) (ka.keep _ _ hp2 (fun h => h)) (by lia) fun b2' S3 cs3 H3 ok2 w2 z2 q2 v2 kin2 s3 le3 n3 hp3 hc3 k3 => ?_
        rw [← (kin1.le le3 ι).2, B.enc']
        have := B.w b1' b2'; have := B.z b1' b2'; have := B.q b1' b2'
        exact h (bop b1' b2') S3 cs3 H3 (B.ok _ _ ok1 ok2) (by lia) (by lia) (by lia) (fun x hx => (B.v _ _ x hx).elim (v1 x) (v2 x)) (B.kin _ _ _ (kin1.le le3 ι).1 kin2) s3 (le2.trans le3) (by lia) hp3 (by lia) ((kp2.trans ka (c2 := fun q => sy n q ∨ q = p) (fun _ _ h => h) (fun _ _ h => h.elim)).trans k3 (fun _ _ h => h) (fun _ _ h => h))
end
section
variable {X : Type} {ι ι' : X → Int} {ρ : Fu → Int} {H : Hp} {Q : SV → Hp → Prop}
theorem encs_at {l r : List (Tr X)} {u : Tr X} : (encs ρ ι (l ++ u :: r))[l.length]? = some (enc ρ ι u) := by
  rw [encs_app, List.getElem?_append_right (Nat.le_of_eq encs_len), encs_len, Nat.sub_self]; rfl
theorem encs_end {l : List (Tr X)} : (encs ρ ι l)[l.length]? = none := List.getElem?_eq_none (Nat.le_of_eq encs_len)
inductive OTJ (ρ : Fu → Int) (ι ι' : X → Int) (H : Hp) (l : List (Tr X)) (k : Nat) (src : Src) (acc : List SV) (H' : Hp) : Prop
  | mk (done rest : List (Tr X)) (e : done ++ rest = l) (hk : k = rest.length) (es : src = .tup (encs ρ ι l) done.length) (ea : acc = encs ρ ι' done) (kp : Kp no H H')
theorem sp_other {a b : Int} : ∀ (f : Nat) {t : Tr X} {H : Hp} {Q : SV → Hp → Prop}, sz t ≤ f → f < 2900 → (∀ x ∈ vrs t, ι' x = ι x * a + b ∧ (ι x).natAbs < 4294967296) → (∀ H', Kp no H H' → Q (enc ρ ι' t) H') → Ok (F_law_other f [enc ρ ι t, .int a, .int b] H) Q
  | 0, t, H, Q, hs, _, _, _ => by have := sz_pos (t := t); lia
  | f + 1, t, H, Q, hs, hf, hv, h => by
    show Ok (fDef 3 0 (d_law_other (F_law_other f)) [enc ρ ι t, .int a, .int b] H) Q
    unfold d_law_other
    cases t with
    | a n => (try with_reducible refine IsW.run ?_); (repeat (first | walk_at "ev" | simp only [enc_1, enc_2, enc_3, enc_4, evA, evB, reduceCtorEq, Nat.reduceAdd, Nat.reduceLT, Nat.reduceLeDiff])); exact h H Kp.refl
    | i n => (try with_reducible refine IsW.run ?_); (repeat (first | walk_at "ev" | simp only [enc_1, enc_2, enc_3, enc_4, evA, evB, reduceCtorEq, Nat.reduceAdd, Nat.reduceLT, Nat.reduceLeDiff])); exact h H Kp.refl
    | v x =>
      have hx := hv x (by simp [vrs_1, vrs_2, vrs_3, vrs_4])
      (try with_reducible refine IsW.run ?_); (repeat (first | walk_at "ev" | simp only [enc_1, enc_2, enc_3, enc_4, mulF hx.2, addF, evA, evB, reduceCtorEq, Nat.reduceAdd, Nat.reduceLT, Nat.reduceLeDiff]))
      have := h H Kp.refl
      simp only [enc_1, enc_2, enc_3, enc_4, hx.1] at this
      exact this
    | s g l =>
      (try with_reducible refine IsW.run ?_); (repeat (first | walk_at "ev" | simp only [enc_1, enc_2, enc_3, enc_4, evA, evB, reduceCtorEq, Nat.reduceAdd, Nat.reduceLT, Nat.reduceLeDiff]))
      have hs' : szs l ≤ f := by simp only [sz_1, sz_2, sz_3, sz_4] at hs; lia
      have hll := szs_len (l := l)
      refine ok_comp ?_
      have fr : frees [some (SV.tup [.str (Str.ofString "s"), .int (ρ g), .tup (encs ρ ι l)]), some (.int a), some (.int b)] [1, 2] = some [some (.int a), some (.int b)] := rfl
      (try with_reducible refine IsW.run ?_); (repeat (first | walk_at "ev" | simp only [wItT, fr, evA, evB, reduceCtorEq, Nat.reduceAdd, Nat.reduceLT, Nat.reduceLeDiff]))
      have hv' : ∀ x ∈ vrss l, ι' x = ι x * a + b ∧ (ι x).natAbs < 4294967296 := fun x hx => hv x (by simpa [vrs_1, vrs_2, vrs_3, vrs_4] using hx)
      refine ok_compLJ (OTJ ρ ι ι' H l) ?_ ?_ (n := l.length) (by lia) ⟨[], l, rfl, rfl, rfl, rfl, Kp.refl⟩
      · rintro src acc H' ⟨done, rest, e, hk, rfl, rfl, k'⟩
        obtain rfl : rest = [] := List.eq_nil_of_length_eq_zero hk.symm
        rw [List.append_nil] at e
        rw [← e]
        refine ⟨nTe encs_end, ?_⟩
        have hq : (H' ++ [SO.lst (encs ρ ι' done)])[H'.length]? = some (.lst (encs ρ ι' done)) := app_at
        have hn : (encs ρ ι' done).length < 1000000 := by rw [encs_len, e]; lia
        (try with_reducible refine IsW.run ?_); (repeat (first | walk_at "ev" | simp only [wTup hq hn, evA, evB, reduceCtorEq, Nat.reduceAdd, Nat.reduceLT, Nat.reduceLeDiff]))
        rw [e]
        exact h _ (k'.trans Kp.app (ch' := no) (fun _ _ h => h) (fun _ _ h => h))
      · rintro J mk k src acc H' ⟨done, rest, e, hk, rfl, rfl, k'⟩
        obtain ⟨u, r, rfl⟩ : ∃ u r, rest = u :: r := by cases rest with | nil => simp at hk | cons u r => exact ⟨u, r, rfl⟩
        have eu : l[done.length]? = some u := by rw [← e]; simp
        refine ⟨enc ρ ι u, .tup (encs ρ ι l) (done.length + 1), by rw [← e]; exact nT encs_at, ?_⟩
        have hs2 : szs l = szs done + (sz u + szs r) := by rw [← e, szs_app]; rfl
        (try with_reducible refine IsW.run ?_); (repeat (first | walk_at "ev" | simp only [evA, evB, reduceCtorEq, Nat.reduceAdd, Nat.reduceLT, Nat.reduceLeDiff]))
        refine sp_other f (by lia) (by lia) (fun x hx => hv' x (by rw [← e, vrss_app]; simp [vrss_1, vrss_2, hx])) fun H2 k2 => ?_
        have hdl := szs_len (l := done)
        exact ⟨by rw [encs_len]; lia, mk ⟨done ++ [u], r, by simp [e], by simp at hk; lia, by simp, by rw [encs_app]; rfl, k'.trans k2 (fun _ _ h => h) (fun _ _ h => h)⟩⟩
variable [DecidableEq X]
mutual
noncomputable def gsh (ρ : Fu → Int) : Tr X → List (X × SV) → List SV → List (X × SV) × List SV
  | .a n, es, ln => (es, ln ++ [.tup [.str (Str.ofString "a"), .int n]])
  | .i n, es, ln => (es, ln ++ [.tup [.str (Str.ofString "i"), .int n]])
  | .v x, es, ln => match look es x with
    | some v => (es, ln ++ [v])
    | none => (sto es x (.int (ln.length : Int)), ln ++ [.int (ln.length : Int)])
  | .s f l, es, ln => gshs ρ l es (ln ++ [.tup [.str (Str.ofString "s"), .int (ρ f)]])
noncomputable def gshs (ρ : Fu → Int) : List (Tr X) → List (X × SV) → List SV → List (X × SV) × List SV
  | [], es, ln => (es, ln)
  | t :: r, es, ln => gshs ρ r (gsh ρ t es ln).1 (gsh ρ t es ln).2
end
theorem gsh_1 (ρ : Fu → Int) (n es ln) : gsh ρ (.a n : Tr X) es ln = (es, ln ++ [.tup [.str (Str.ofString "a"), .int n]]) := rfl
theorem gsh_2 (ρ : Fu → Int) (n es ln) : gsh ρ (.i n : Tr X) es ln = (es, ln ++ [.tup [.str (Str.ofString "i"), .int n]]) := rfl
theorem gsh_3 (ρ : Fu → Int) (x es ln) : gsh ρ (.v x : Tr X) es ln = match look es x with
    | some v => (es, ln ++ [v])
    | none => (sto es x (.int (ln.length : Int)), ln ++ [.int (ln.length : Int)]) := rfl
theorem gsh_4 (ρ : Fu → Int) (f l es ln) : gsh ρ (.s f l : Tr X) es ln = gshs ρ l es (ln ++ [.tup [.str (Str.ofString "s"), .int (ρ f)]]) := rfl
theorem gshs_1 (ρ : Fu → Int) (es ln) : gshs ρ ([] : List (Tr X)) es ln = (es, ln) := rfl
theorem gshs_2 (ρ : Fu → Int) (t r es ln) : gshs ρ (t :: r : List (Tr X)) es ln = gshs ρ r (gsh ρ t es ln).1 (gsh ρ t es ln).2 := rfl
theorem gshs_snoc {u : Tr X} : ∀ {l : List (Tr X)} {es : List (X × SV)} {ln : List SV}, gshs ρ (l ++ [u]) es ln = gsh ρ u (gshs ρ l es ln).1 (gshs ρ l es ln).2
  | [], es, ln => by simp only [List.nil_append, gshs_1, gshs_2]
  | t :: r, es, ln => by simp only [List.cons_append, gshs_1, gshs_2]; exact gshs_snoc
theorem stoL {es : List (X × SV)} {k : X} {v : SV} : (sto es k v).length ≤ es.length + 1 := by unfold sto; split <;> simp
mutual
theorem gsh_len : ∀ {t : Tr X} {es : List (X × SV)} {ln : List SV}, (gsh ρ t es ln).2.length = ln.length + sz t ∧ (gsh ρ t es ln).1.length ≤ es.length + sz t
  | .a _, es, ln => ⟨List.length_append, Nat.le_succ _⟩
  | .i _, es, ln => ⟨List.length_append, Nat.le_succ _⟩
  | .v x, es, ln => by
    rw [gsh_3]
    cases look es x with
    | some v => exact ⟨List.length_append, Nat.le_succ _⟩
    | none => exact ⟨List.length_append, stoL⟩
  | .s f l, es, ln => by
    have := gshs_len (l := l) (es := es) (ln := ln ++ [.tup [.str (Str.ofString "s"), .int (ρ f)]])
    simp only [gsh_1, gsh_2, gsh_3, gsh_4, sz_1, sz_2, sz_3, sz_4, List.length_append, List.length_cons, List.length_nil] at this ⊢
    lia
theorem gshs_len : ∀ {l : List (Tr X)} {es : List (X × SV)} {ln : List SV}, (gshs ρ l es ln).2.length = ln.length + szs l ∧ (gshs ρ l es ln).1.length ≤ es.length + szs l
  | [], es, ln => ⟨rfl, Nat.le_refl _⟩
  | t :: r, es, ln => by
    have h1 := gsh_len (t := t) (es := es) (ln := ln)
    have h2 := gshs_len (l := r) (es := (gsh ρ t es ln).1) (ln := (gsh ρ t es ln).2)
    simp only [gshs_1, gshs_2, szs_1, szs_2]
    lia
end
noncomputable def mp (ι : X → Int) (es : List (X × SV)) : List (Int × SV) := es.map fun e => (ι e.1, e.2)
theorem mp_look (inj : ∀ x y, ι x = ι y → x = y) {x : X} : ∀ {es : List (X × SV)}, look (mp ι es) (ι x) = look es x
  | [] => rfl
  | e :: r => by
    have ih := mp_look inj (x := x) (es := r)
    unfold look mp at *
    simp only [List.map_cons, List.find?_cons]
    by_cases h : e.1 = x
    · simp [h]
    · have : ι e.1 ≠ ι x := fun q => h (inj _ _ q)
      simp only [h, this, decide_false]
      exact ih
theorem mp_sto (inj : ∀ x y, ι x = ι y → x = y) {x : X} {v : SV} {es : List (X × SV)} : sto (mp ι es) (ι x) v = mp ι (sto es x v) := by
  have ha : (mp ι es).any (fun e => decide (e.1 = ι x)) = es.any (fun e => decide (e.1 = x)) := by
    unfold mp
    rw [List.any_map]
    congr 1
    funext e
    by_cases h : e.1 = x
    · simp [h]
    · have : ι e.1 ≠ ι x := fun q => h (inj _ _ q)
      simp [h, this]
  unfold sto
  rw [ha]
  split
  · unfold mp
    rw [List.map_map, List.map_map]
    refine List.map_congr_left fun e _ => ?_
    by_cases h : e.1 = x
    · simp [h]
    · have : ι e.1 ≠ ι x := fun q => h (inj _ _ q)
      simp [h, this]
  · simp [mp]
theorem mp_len {es : List (X × SV)} : (mp ι es).length = es.length := List.length_map _
theorem set2 {H : Hp} {d q : Nat} {a b : SO} (h : d ≠ q) : (H.set d a)[q]? = H[q]? := set_ne h
noncomputable def dq (d q : Nat) : Nat → Prop := fun p => p = d ∨ p = q
theorem leafT (ρ : Fu → Int) (ι : X → Int) (t : Tr X) : (∃ g z, enc ρ ι t = .tup [.str g, z] ∧ (∀ H : Hp, cmpSS H (.str g) (.str (Str.ofString "v")) = some false ∧ cmpSS H (.str g) (.str (Str.ofString "s")) = some false) ∧ ∀ es ln, gsh ρ t es ln = (es, ln ++ [.tup [.str g, z]])) ∨ (∃ x, t = .v x) ∨ ∃ g l, t = .s g l := by
  cases t with
  | a n => exact .inl ⟨_, _, rfl, fun _ => ⟨rfl, rfl⟩, fun _ _ => rfl⟩
  | i n => exact .inl ⟨_, _, rfl, fun _ => ⟨rfl, rfl⟩, fun _ _ => rfl⟩
  | v n => exact .inr (.inl ⟨n, rfl⟩)
  | s g l => exact .inr (.inr ⟨g, l, rfl⟩)
theorem ok_for0 {j : Nat} {x : DS} {l : Loc} {H : Hp} {Q : SF → Loc → Hp → Prop} (h : Q .nxt l H) : OkS (sForL j x 3000 (.tup [] 0) l H) Q := by
  (try with_reducible refine IsW.run ?_); (repeat (first | walk_at "ev" | simp only [evA, evB, reduceCtorEq, Nat.reduceAdd, Nat.reduceLT, Nat.reduceLeDiff]))
  refine oks_forL (fun k src l' H' => k = 0 ∧ src = .tup [] 0 ∧ l' = l ∧ H' = H) ?_ ?_ (n := 0) (by lia) ⟨rfl, rfl, rfl, rfl⟩
  · rintro src l' H' ⟨_, rfl, rfl, rfl⟩
    exact ⟨rfl, h⟩
  · rintro k src l' H' ⟨e, _⟩; lia
inductive SHJ (ρ : Fu → Int) (ι : X → Int) (d q : Nat) (H : Hp) (es : List (X × SV)) (ln : List SV) (v0 : SV) (l : List (Tr X)) (k : Nat) (src : Src) (l' : Loc) (H' : Hp) : Prop
  | mk (done rest : List (Tr X)) (z : Option SV) (e : done ++ rest = l) (hk : k = rest.length) (es' : src = .tup (encs ρ ι l) done.length) (el : l' = [some v0, some (.ref d), some (.ref q), z])
      (hd : H'[d]? = some (.dI (mp ι (gshs ρ done es ln).1))) (hq : H'[q]? = some (.lst (gshs ρ done es ln).2)) (kp : Kp (dq d q) H H')
theorem sp_shown {d q : Nat} (inj : ∀ x y, ι x = ι y → x = y) (hdq : d ≠ q) : ∀ (f : Nat) {t : Tr X} {es : List (X × SV)} {ln : List SV} {H : Hp} {Q : SV → Hp → Prop}, sz t ≤ f → f < 2900 → H[d]? = some (.dI (mp ι es)) → H[q]? = some (.lst ln) → ln.length + sz t < 900000 → es.length + sz t < 900000 →
    (∀ H', H'[d]? = some (.dI (mp ι (gsh ρ t es ln).1)) → H'[q]? = some (.lst (gsh ρ t es ln).2) → Kp (dq d q) H H' → Q .none H') → Ok (F_law_shown f [enc ρ ι t, .ref d, .ref q] H) Q
  | 0, t, es, ln, H, Q, hs, _, _, _, _, _, _ => by have := sz_pos (t := t); lia
  | f + 1, t, es, ln, H, Q, hs, hf, hd, hq, hl1, hl2, h => by
    show Ok (fDef 3 1 (d_law_shown (F_law_shown f)) [enc ρ ι t, .ref d, .ref q] H) Q
    unfold d_law_shown
    have tyq := ty_lst hq
    have sl2 : ∀ a b : SV, sliceT 2 (.tup [a, b]) = some (.tup [a, b]) := fun a b => by simp [sliceT]
    have sl3 : ∀ a b c : SV, sliceT 2 (.tup [a, b, c]) = some (.tup [a, b]) := fun a b c => by simp [sliceT]
    have ap : ∀ v, fAppend [.ref q, v] H = some (.none, H.set q (.lst (ln ++ [v]))) := fun v => ap_lst hq (by lia)
    have hd1 : ∀ v, (H.set q (.lst (ln ++ [v])))[d]? = some (.dI (mp ι es)) := fun v => by rw [set_ne (fun e => hdq e.symm)]; exact hd
    have hq1 : ∀ v, (H.set q (.lst (ln ++ [v])))[q]? = some (.lst (ln ++ [v])) := fun v => set_at hq
    have k1 : ∀ v, Kp (dq d q) H (H.set q (.lst (ln ++ [v]))) := fun v => Kp.set (Or.inr rfl)
    rcases leafT ρ ι t with ⟨g, z, e1, e2, e3⟩ | ⟨x, rfl⟩ | ⟨g, l, rfl⟩
    · rw [e1]
      (try with_reducible refine IsW.run ?_); (repeat (first | walk_at "ev" | simp only [e2, tyq, sl2, ap, pvN, wItT, evA, evB, reduceCtorEq, Nat.reduceAdd, Nat.reduceLT, Nat.reduceLeDiff]))
      refine ok_for0 ?_
      (try with_reducible refine IsW.run ?_); (repeat (first | walk_at "ev" | simp only [evA, evB, reduceCtorEq, Nat.reduceAdd, Nat.reduceLT, Nat.reduceLeDiff]))
      exact h _ (by rw [e3]; exact hd1 _) (by rw [e3]; exact hq1 _) (k1 _)
    · have fl : fLen [.ref q] H = some (.int (ln.length : Int), H) := len_ref hq rfl (by lia)
      have tyd : tyOf H (.ref d) = some "dict" := wTyI hd
      have hml : (mp ι es).length < 1000000 := by rw [mp_len]; lia
      cases hk : look es x with
      | some v =>
        have sd : fSetdefault [.ref d, .int (ι x), .int (ln.length : Int)] H = some (v, H) := by
          exact wSome hd hml (by rw [mp_look inj]; exact hk)
        (try with_reducible refine IsW.run ?_); (repeat (first | walk_at "ev" | simp only [enc_1, enc_2, enc_3, enc_4, tyq, tyd, fl, sd, ap, pvN, evA, evB, reduceCtorEq, Nat.reduceAdd, Nat.reduceLT, Nat.reduceLeDiff]))
        have := h _ (by rw [show (gsh ρ (.v x) es ln).1 = es by rw [gsh_3, hk]]; exact hd1 v) (by rw [show (gsh ρ (.v x) es ln).2 = ln ++ [v] by rw [gsh_3, hk]]; exact hq1 v) (k1 v)
        exact this
      | none =>
        have sd : fSetdefault [.ref d, .int (ι x), .int (ln.length : Int)] H = some (.int (ln.length : Int), H.set d (.dI (mp ι (sto es x (.int (ln.length : Int)))))) := by
          rw [wNone hd hml (by rw [mp_look inj]; exact hk), mp_sto inj]
        have hq2 : (H.set d (.dI (mp ι (sto es x (.int (ln.length : Int))))))[q]? = some (.lst ln) := by rw [set_ne hdq]; exact hq
        have ap2 : fAppend [.ref q, .int (ln.length : Int)] (H.set d (.dI (mp ι (sto es x (.int (ln.length : Int)))))) = some (.none, (H.set d (.dI (mp ι (sto es x (.int (ln.length : Int)))))).set q (.lst (ln ++ [.int (ln.length : Int)]))) := ap_lst hq2 (by lia)
        (try with_reducible refine IsW.run ?_); (repeat (first | walk_at "ev" | simp only [enc_1, enc_2, enc_3, enc_4, tyq, tyd, fl, sd, ap2, pvN, evA, evB, reduceCtorEq, Nat.reduceAdd, Nat.reduceLT, Nat.reduceLeDiff]))
        refine h _ ?_ ?_ ((Kp.set (ch := dq d q) (Or.inl rfl)).trans (Kp.set (ch := dq d q) (Or.inr rfl)) (fun _ _ h => h) (fun _ _ h => h))
        · rw [show (gsh ρ (.v x) es ln).1 = sto es x (.int (ln.length : Int)) by rw [gsh_3, hk], set_ne (fun e => hdq e.symm)]
          exact set_at hd
        · rw [show (gsh ρ (.v x) es ln).2 = ln ++ [.int (ln.length : Int)] by rw [gsh_3, hk]]
          exact set_at hq2
    · (try with_reducible refine IsW.run ?_); (repeat (first | walk_at "ev" | simp only [enc_1, enc_2, enc_3, enc_4, tyq, sl3, ap, pvN, wItT, evA, evB, reduceCtorEq, Nat.reduceAdd, Nat.reduceLT, Nat.reduceLeDiff]))
      have hs' : szs l ≤ f := by simp only [sz_1, sz_2, sz_3, sz_4] at hs; lia
      have hll := szs_len (l := l)
      have hz1 : ln.length + 1 + szs l < 900000 := by simp only [sz_1, sz_2, sz_3, sz_4] at hl1; lia
      have hz2 : es.length + szs l < 900000 := by simp only [sz_1, sz_2, sz_3, sz_4] at hl2; lia
      have hg0 : gsh ρ (.s g l) es ln = gshs ρ l es (ln ++ [.tup [.str (Str.ofString "s"), .int (ρ g)]]) := by simp only [gsh_1, gsh_2, gsh_3, gsh_4]
      rw [hg0] at h
      (try with_reducible refine IsW.run ?_); (repeat (first | walk_at "ev" | simp only [evA, evB, reduceCtorEq, Nat.reduceAdd, Nat.reduceLT, Nat.reduceLeDiff]))
      refine oks_forLJ (SHJ ρ ι d q H es (ln ++ [.tup [.str (Str.ofString "s"), .int (ρ g)]]) (.tup [.str (Str.ofString "s"), .int (ρ g), .tup (encs ρ ι l)]) l) ?_ ?_ (n := l.length) (by lia) ⟨[], l, none, rfl, rfl, rfl, rfl, hd1 _, hq1 _, k1 _⟩
      · rintro src l' H' ⟨done, rest, z, e, hk, rfl, rfl, hd', hq', k'⟩
        obtain rfl : rest = [] := List.eq_nil_of_length_eq_zero hk.symm
        rw [List.append_nil] at e
        refine ⟨by rw [← e]; exact nTe encs_end, ?_⟩
        (try with_reducible refine IsW.run ?_); (repeat (first | walk_at "ev" | simp only [evA, evB, reduceCtorEq, Nat.reduceAdd, Nat.reduceLT, Nat.reduceLeDiff]))
        exact h H' (e ▸ hd') (e ▸ hq') k'
      · rintro J mk k src l' H' ⟨done, rest, z, e, hk, rfl, rfl, hd', hq', k'⟩
        obtain ⟨u, r, rfl⟩ : ∃ u r, rest = u :: r := by cases rest with | nil => simp at hk | cons u r => exact ⟨u, r, rfl⟩
        refine ⟨enc ρ ι u, .tup (encs ρ ι l) (done.length + 1), by rw [← e]; exact nT encs_at, Nat.lt_of_sub_eq_succ rfl, ?_⟩
        have hs2 : szs l = szs done + (sz u + szs r) := by rw [← e, szs_app]; rfl
        have gl := gshs_len (ρ := ρ) (l := done) (es := es) (ln := ln ++ [.tup [.str (Str.ofString "s"), .int (ρ g)]])
        simp only [List.length_append, List.length_cons, List.length_nil] at gl
        (try with_reducible refine IsW.run ?_); (repeat (first | walk_at "ev" | simp only [evA, evB, reduceCtorEq, Nat.reduceAdd, Nat.reduceLT, Nat.reduceLeDiff]))
        refine sp_shown inj hdq f (by lia) (by lia) hd' hq' (by lia) (by lia) fun H2 d2 q2 k2 => ?_
        rw [← gshs_snoc] at d2 q2
        (try with_reducible refine IsW.run ?_); (repeat (first | walk_at "ev" | simp only [pvN, evA, evB, reduceCtorEq, Nat.reduceAdd, Nat.reduceLT, Nat.reduceLeDiff]))
        exact mk ⟨done ++ [u], r, _, by simp [e], by simp at hk; lia, by simp, rfl, d2, q2, k'.trans k2 (fun _ _ h => h) (fun _ _ h => h)⟩
end
section
variable {X : Type} [DecidableEq X] {ι : X → Int} {ρ : Fu → Int} {H : Hp} {Q : SV → Hp → Prop}
theorem lookS {es : List (X × SV)} {j : X} : (look es j).isSome = es.any fun e => decide (e.1 = j) := by
  unfold look
  rw [Option.isSome_map]
  induction es with
  | nil => rfl
  | cons e r ih => rw [List.find?_cons, List.any_cons, ← ih]; cases h : decide (e.1 = j) <;> simp
theorem look_some {es : List (X × SV)} {j : X} {v : SV} (h : look es j = some v) : (j, v) ∈ es := by
  unfold look at h
  rw [Option.map_eq_some_iff] at h
  obtain ⟨e, he, rfl⟩ := h
  have h1 := List.mem_of_find?_eq_some he
  have h2 := List.find?_some he
  have h2 := of_decide_eq_true h2
  rw [← h2]; exact h1
theorem sto_mem {es : List (X × SV)} {k : X} {v : SV} {e : X × SV} (h : e ∈ sto es k v) : e ∈ es ∨ e = (k, v) := by
  unfold sto at h
  split at h
  · obtain ⟨f, hf, rfl⟩ := List.mem_map.mp h
    by_cases hk : f.1 = k
    · rw [if_pos hk]; exact Or.inr (by rw [hk])
    · rw [if_neg hk]; exact Or.inl hf
  · rcases List.mem_append.mp h with h | h
    · exact Or.inl h
    · exact Or.inr (by simpa using h)
theorem sto_some {es : List (X × SV)} {k j : X} {v : SV} (h : j = k ∨ (look es j).isSome = true) : (look (sto es k v) j).isSome = true := by
  rw [lookS] at h ⊢
  unfold sto
  split
  · rename_i hk
    rw [List.any_map]
    obtain ⟨e, he, h2⟩ : ∃ e ∈ es, e.1 = j := by
      rcases h with rfl | h
      · obtain ⟨e, he, q⟩ := List.any_eq_true.mp hk; exact ⟨e, he, of_decide_eq_true q⟩
      · obtain ⟨e, he, q⟩ := List.any_eq_true.mp h; exact ⟨e, he, of_decide_eq_true q⟩
    refine List.any_eq_true.mpr ⟨e, he, ?_⟩
    show decide ((if e.1 = k then (e.1, v) else e).1 = j) = true
    by_cases hk : e.1 = k
    · rw [if_pos hk]; simp [h2]
    · rw [if_neg hk]; simp [h2]
  · rw [List.any_append]
    rcases h with rfl | h
    · simp
    · rw [h]; rfl
mutual
theorem gsh_keep {x : X} : ∀ {t : Tr X} {es : List (X × SV)} {ln : List SV}, (look es x).isSome = true ∨ x ∈ vrs t → (look (gsh ρ t es ln).1 x).isSome = true
  | .a _, es, ln, h => h.elim id nofun
  | .i _, es, ln, h => h.elim id nofun
  | .v y, es, ln, h => by
    rw [gsh_3]
    cases hv : look es y with
    | some v =>
      rcases h with h | h
      · exact h
      · obtain rfl := List.mem_singleton.mp h; show (look es x).isSome = true; rw [hv]; rfl
    | none => exact h.elim (fun h => sto_some (Or.inr h)) fun h => sto_some (Or.inl (List.mem_singleton.mp h))
  | .s f l, es, ln, h => gshs_keep (l := l) h
theorem gshs_keep {x : X} : ∀ {l : List (Tr X)} {es : List (X × SV)} {ln : List SV}, (look es x).isSome = true ∨ x ∈ vrss l → (look (gshs ρ l es ln).1 x).isSome = true
  | [], es, ln, h => h.elim id fun h => by simp [vrss_1, vrss_2] at h
  | t :: r, es, ln, h => by
    simp only [gshs_1, gshs_2]
    simp only [vrss_1, vrss_2, List.mem_append] at h
    rcases h with h | h | h
    · exact gshs_keep (Or.inl (gsh_keep (Or.inl h)))
    · exact gshs_keep (Or.inl (gsh_keep (Or.inr h)))
    · exact gshs_keep (Or.inr h)
end
mutual
theorem gsh_new {e : X × SV} : ∀ {t : Tr X} {es : List (X × SV)} {ln : List SV}, e ∈ (gsh ρ t es ln).1 → e ∈ es ∨ (e.1 ∈ vrs t ∧ look es e.1 = none)
  | .a _, es, ln, h => Or.inl h
  | .i _, es, ln, h => Or.inl h
  | .v y, es, ln, h => by
    rw [gsh_3] at h
    cases hv : look es y with
    | some v => rw [hv] at h; exact Or.inl h
    | none =>
      rw [hv] at h
      rcases sto_mem h with h | rfl
      · exact Or.inl h
      · exact Or.inr ⟨List.mem_singleton_self _, hv⟩
  | .s f l, es, ln, h => gshs_new (l := l) h
theorem gshs_new {e : X × SV} : ∀ {l : List (Tr X)} {es : List (X × SV)} {ln : List SV}, e ∈ (gshs ρ l es ln).1 → e ∈ es ∨ (e.1 ∈ vrss l ∧ look es e.1 = none)
  | [], es, ln, h => Or.inl h
  | t :: r, es, ln, h => by
    simp only [gshs_1, gshs_2] at h
    simp only [vrss_1, vrss_2, List.mem_append]
    rcases gshs_new h with h | ⟨h, hn⟩
    · rcases gsh_new h with h | ⟨h, hn⟩
      · exact Or.inl h
      · exact Or.inr ⟨Or.inl h, hn⟩
    · refine Or.inr ⟨Or.inr h, ?_⟩
      cases hl : look es e.1 with
      | none => rfl
      | some v =>
        have := gsh_keep (ρ := ρ) (x := e.1) (t := t) (es := es) (ln := ln) (Or.inl (by rw [hl]; rfl))
        first | exact sN hn this | exact sN this hn | (rw [hn] at this; cases this)
end
noncomputable def IG (v : SV) : Prop := (∃ m, v = .int m) ∨ ∃ s m, PyData.strOk s = true ∧ v = .tup [.str s, .int m]
theorem okA : PyData.strOk (Str.ofString "a") = true := by decide +kernel
theorem okI : PyData.strOk (Str.ofString "i") = true := by decide +kernel
theorem okS : PyData.strOk (Str.ofString "s") = true := by decide +kernel
theorem okO : PyData.strOk (Str.ofString "own") = true := by decide +kernel
noncomputable def AG (es : List (X × SV)) (ln : List SV) : Prop := (∀ e ∈ es, IG e.2) ∧ ∀ v ∈ ln, IG v
theorem AG.snoc {es : List (X × SV)} {ln : List SV} {v : SV} (h : AG es ln) (hv : IG v) : AG es (ln ++ [v]) :=
  ⟨h.1, fun w hw => by
    rcases List.mem_append.mp hw with hw | hw
    · exact h.2 w hw
    · rw [List.mem_singleton.mp hw]; exact hv⟩
mutual
theorem gsh_ag : ∀ {t : Tr X} {es : List (X × SV)} {ln : List SV}, AG es ln → AG (gsh ρ t es ln).1 (gsh ρ t es ln).2
  | .a n, es, ln, h => h.snoc (Or.inr ⟨_, _, okA, rfl⟩)
  | .i n, es, ln, h => h.snoc (Or.inr ⟨_, _, okI, rfl⟩)
  | .v x, es, ln, h => by
    cases hk : look es x with
    | some v =>
      have e : gsh ρ (.v x) es ln = (es, ln ++ [v]) := by rw [gsh_3, hk]
      rw [e]
      exact h.snoc (h.1 _ (look_some hk))
    | none =>
      have e : gsh ρ (.v x) es ln = (sto es x (.int (ln.length : Int)), ln ++ [.int (ln.length : Int)]) := by rw [gsh_3, hk]
      rw [e]
      refine AG.snoc ⟨fun e he => ?_, h.2⟩ (Or.inl ⟨_, rfl⟩)
      rcases sto_mem he with he | rfl
      · exact h.1 e he
      · exact Or.inl ⟨_, rfl⟩
  | .s f l, es, ln, h => by
    exact gshs_ag (h.snoc (Or.inr ⟨_, _, okS, rfl⟩))
theorem gshs_ag : ∀ {l : List (Tr X)} {es : List (X × SV)} {ln : List SV}, AG es ln → AG (gshs ρ l es ln).1 (gshs ρ l es ln).2
  | [], es, ln, h => h
  | t :: r, es, ln, h => by
    simp only [gshs_1, gshs_2]
    exact gshs_ag (gsh_ag h)
end
theorem ig_data : ∀ {ln : List SV}, (∀ v ∈ ln, IG v) → ∃ ds, pyDs ln = some ds ∧ PyData.canLayAll0 ds = true ∧ PyData.depthAll ds ≤ 1
  | [], _ => ⟨[], rfl, rfl, by simp [PyData.depthAll]⟩
  | v :: r, h => by
    obtain ⟨ds, h1, h2, h3⟩ := ig_data (ln := r) fun w hw => h w (by simp [hw])
    rcases h v (by simp) with ⟨m, rfl⟩ | ⟨s, m, hs, rfl⟩
    · exact ⟨.int m :: ds, by show ((pyDs r).map fun ds => PyData.int m :: ds) = _; rw [h1]; rfl, by simp [PyData.canLayAll0, PyData.canLay0, h2], by simp [PyData.depthAll, PyData.depth]; exact h3⟩
    · have e : pyD (.tup [.str s, .int m]) = some (.tuple [.str s, .int m]) := by
        show (Option.map PyData.tuple ((if PyData.strOk s then some (PyData.str s) else none).bind fun d => some [d, PyData.int m])) = _
        rw [if_pos hs]; rfl
      refine ⟨.tuple [.str s, .int m] :: ds, by show ((pyD (.tup [.str s, .int m])).bind fun d => (pyDs r).map fun ds => d :: ds) = _; rw [e, h1]; rfl, by simp [PyData.canLayAll0, PyData.canLay0, hs, h2], ?_⟩
      simp only [PyData.depthAll, PyData.depth]; lia
theorem ig_cmp {p q : Nat} {ln : List SV} (h : ∀ v ∈ ln, IG v) (hp : H[p]? = some (.lst ln)) (hq : H[q]? = some (.lst ln)) : cmpD true H (.ref p) (.ref q) = some false := by
  obtain ⟨ds, h1, h2, h3⟩ := ig_data h
  refine cmp_same (d := .list ds) ?_ ?_ ?_
  · exact toD_l hp h1
  · exact toD_l hq h1
  · show (PyData.canLay0 (.list ds) && decide (PyData.depth (.list ds) ≤ 64)) = true
    rw [Bool.and_eq_true]
    exact ⟨by simpa [PyData.canLay0] using h2, decide_eq_true (by simp only [PyData.depth]; lia)⟩
noncomputable def ownV (k : Nat) : SV := .tup [.str (Str.ofString "own"), .int (k : Int)]
noncomputable def E0 (own : Nat → X) (us : List Nat) : List (X × SV) := us.foldl (fun es k => sto es (own k) (ownV k)) []
theorem E0_snoc {own : Nat → X} {us : List Nat} {k : Nat} : E0 own (us ++ [k]) = sto (E0 own us) (own k) (ownV k) := by
  unfold E0; rw [List.foldl_append]; rfl
theorem E0_len {own : Nat → X} {us : List Nat} : (E0 own us).length ≤ us.length := by
  have : ∀ n, ∀ us : List Nat, us.length = n → (E0 own us).length ≤ us.length := by
    intro n
    induction n with
    | zero => intro us h; rw [List.eq_nil_of_length_eq_zero h]; simp [E0]
    | succ n ih =>
      intro us h
      rcases List.eq_nil_or_concat us with rfl | ⟨vs, k, rfl⟩
      · simp at h
      · rw [List.concat_eq_append] at *
        have h1 := ih vs (by simpa using h)
        have h2 := stoL (es := E0 own vs) (k := own k) (v := ownV k)
        rw [E0_snoc, List.length_append, List.length_singleton]; lia
  exact this _ us rfl
theorem E0_all {own : Nat → X} {us : List Nat} : (∀ e ∈ E0 own us, ∃ k, e.2 = ownV k) ∧ ∀ k ∈ us, (look (E0 own us) (own k)).isSome = true := by
  have : ∀ n, ∀ us : List Nat, us.length = n → (∀ e ∈ E0 own us, ∃ k, e.2 = ownV k) ∧ ∀ k ∈ us, (look (E0 own us) (own k)).isSome = true := by
    intro n
    induction n with
    | zero => intro us h; rw [List.eq_nil_of_length_eq_zero h]; simp [E0]
    | succ n ih =>
      intro us h
      rcases List.eq_nil_or_concat us with rfl | ⟨vs, k, rfl⟩
      · simp at h
      · rw [List.concat_eq_append] at *
        obtain ⟨h1, h2⟩ := ih vs (by simpa using h)
        rw [E0_snoc]
        refine ⟨fun e he => ?_, fun j hj => ?_⟩
        · rcases sto_mem he with he | rfl
          · exact h1 e he
          · exact ⟨k, rfl⟩
        · rcases List.mem_append.mp hj with hj | hj
          · exact sto_some (Or.inr (h2 j hj))
          · rw [List.mem_singleton.mp hj]; exact sto_some (Or.inl rfl)
  exact this _ us rfl
end
section
variable {X : Type} [DecidableEq X] {ι : X → Int} {ρ : Fu → Int} {H : Hp} {Q : SV → Hp → Prop}
theorem dFilt_c {bt : Loc → Hp → Option Bool} {fv : Loc} {i : Int} {r : List Int} {b : Bool} {l : List SV} (h1 : bt (some (.int i) :: fv) H = some b) (h2 : dFilt bt fv H r = some l) : dFilt bt fv H (i :: r) = some (if b then .int i :: l else l) := by
  show ((bt (some (.int i) :: fv) H).bind fun b => (dFilt bt fv H r).map fun l => if b then SV.int i :: l else l) = _
  rw [h1, h2]; rfl
theorem tIs {i : Int} {p : Nat} {es : List (Int × SV)} {v : SV} {b : Bool} (hp : H[p]? = some (.dI es)) (hl : look es i = some v) (hb : isIntV v = some b) : tIsInt 1 0 [some (.int i), some (.ref p)] H = some b := by
  show (match H[p]? with | some (.dI es) => (look es i).bind isIntV | _ => none) = _
  rw [hp]
  show (look es i).bind isIntV = _
  rw [hl]; exact hb
theorem filt_ok {p : Nat} {es : List (Int × SV)} (hp : H[p]? = some (.dI es)) (hv : ∀ e ∈ es, IG e.2) : ∀ {l : List Int}, (∀ i ∈ l, ∃ e ∈ es, e.1 = i) → ∃ ks : List Int, dFilt (tIsInt 1 0) [some (.ref p)] H l = some (ks.map .int) ∧ ks.length ≤ l.length ∧ ∀ k ∈ ks, ∃ m, (k, SV.int m) ∈ es
  | [], _ => ⟨[], rfl, by simp, by simp⟩
  | i :: r, h => by
    obtain ⟨ks, e1, hkl, h1⟩ := filt_ok hp hv (l := r) fun j hj => h j (by simp [hj])
    obtain ⟨e, he, hei⟩ := h i (by simp)
    have hs : (look es i).isSome = true := by rw [lookS]; exact List.any_eq_true.mpr ⟨e, he, by simp [hei]⟩
    obtain ⟨v, hl⟩ := Option.isSome_iff_exists.mp hs
    have hm := look_some hl
    rcases hv _ hm with ⟨m, hvm⟩ | ⟨s, m, _, hvm⟩
    · simp only at hvm
      subst hvm
      refine ⟨i :: ks, ?_, by simp; lia, fun k hk => ?_⟩
      · exact dFilt_c (tIs hp hl rfl) e1
      · rcases List.mem_cons.mp hk with rfl | hk
        · exact ⟨m, hm⟩
        · exact h1 k hk
    · simp only at hvm
      subst hvm
      refine ⟨ks, ?_, by simp; lia, h1⟩
      exact dFilt_c (tIs hp hl rfl) e1
theorem sp_compK {p : Nat} {loc : Loc} {es : List (Int × SV)} (hloc : loc[4]? = some (some (.ref p))) (hp : H[p]? = some (.dI es)) (hl : es.length < 1000000) (hv : ∀ e ∈ es, IG e.2)
    (h : ∀ ks : List Int, ks.length ≤ es.length → (∀ k ∈ ks, ∃ m, (k, SV.int m) ∈ es) → Q (.ref H.length) (H ++ [.lst (ks.map .int)])) : Ok (dCompK (dLoc 4) (tIsInt 1 0) [4] loc H) Q := by
  have hd : dLoc 4 loc H = some (.ref p, H) := by show (match loc[4]? with | some (some v) => some (v, H) | _ => none) = _; rw [hloc]
  have hf : frees loc [4] = some [some (.ref p)] := fr_one hloc
  obtain ⟨ks, e1, hkl, h1⟩ := filt_ok hp hv (l := es.map (·.1)) fun i hi => by
    obtain ⟨e, he, rfl⟩ := List.mem_map.mp hi
    exact ⟨e, he, rfl⟩
  have : dCompK (dLoc 4) (tIsInt 1 0) [4] loc H = some (.ref H.length, H ++ [.lst (ks.map .int)]) := by
    simp only [dCompK, hd, Option.bind_some, hp, hl, if_true, hf, e1]
  rw [this, ok_some]
  exact h ks (by simpa using hkl) h1
theorem mp_take {own : Nat → X} {us : List Nat} {d : Nat} (hus : us.length < 100) : (mp ι (E0 own (us.take d))).length < 1000000 := by
  rw [mp_len]
  exact Nat.lt_of_le_of_lt (Nat.le_trans E0_len (List.length_take_le' _ _)) (Nat.lt_trans hus (by decide))
inductive LL (ι : X → Int) (own : Nat → X) (A : SV) (a b : Int) (us : List Nat) (u : Nat) (H : Hp) (k : Nat) (src : Src) (l : Loc) (H' : Hp) : Prop
  | mk (d : Nat) (z : Option SV) (hd : d + k = us.length) (es : src = .lst u d) (el : l = [some A, some (.ref u), some (.int a), some (.int b), some (.ref H.length), z, none, none]) (hE : H'[H.length]? = some (.dI (mp ι (E0 own (us.take d))))) (hu : H'[u]? = some (.lst (us.map fun (k : Nat) => .int (k : Int)))) (kp : Kp no H H')
theorem sp_line {us : List Nat} {a b : Int} {u : Nat} {T : Tr X} {own : Nat → X} (inj : ∀ x y, ι x = ι y → x = y) (hown : ∀ k ∈ us, ι (own k) = (k : Int) * a + b) (hus : us.length < 100) (hb : ∀ k ∈ us, k < 4) (hu : H[u]? = some (.lst (us.map fun (k : Nat) => .int (k : Int)))) (hT : sz T ≤ 130)
    (h : ∀ H' p q (ks : List Int), H.length ≤ p → H.length ≤ q → ks.length < 2900 → H'[p]? = some (.lst (gsh ρ T (E0 own us) []).2) → H'[q]? = some (.lst (ks.map .int)) → (∀ k ∈ ks, ∃ x m, (x, SV.int m) ∈ (gsh ρ T (E0 own us) []).1 ∧ k = ι x) → (∀ v ∈ (gsh ρ T (E0 own us) []).2, IG v) → Kp no H H' → Q (.tup [.ref p, .ref q]) H') :
    Ok (F_law_clause_line [enc ρ ι T, .ref u, .int a, .int b] H) Q := by
  unfold F_law_clause_line d_law_clause_line
  have hul := at_lt hu
  have hu0 : (H ++ [SO.dI []])[u]? = some (.lst (us.map fun (k : Nat) => .int (k : Int))) := app_old hu
  (try with_reducible refine IsW.run ?_); (repeat (first | walk_at "ev" | simp only [DK.so, wIt hu0, evA, evB, reduceCtorEq, Nat.reduceAdd, Nat.reduceLT, Nat.reduceLeDiff]))
  (try with_reducible refine IsW.run ?_); (repeat (first | walk_at "ev" | simp only [evA, evB, reduceCtorEq, Nat.reduceAdd, Nat.reduceLT, Nat.reduceLeDiff]))
  refine oks_forLJ (LL ι own (enc ρ ι T) a b us u H) ?_ ?_ (n := us.length) (by lia) ⟨0, none, Nat.zero_add _, rfl, rfl, app_at, hu0, Kp.app⟩
  · rintro src l H1 ⟨d, z, rfl, rfl, rfl, hd1, hu1, k1⟩
    rw [List.take_length] at hd1
    refine ⟨nxLe hu1, ?_⟩
    (try with_reducible refine IsW.run ?_); (repeat (first | walk_at "ev" | simp only [evA, evB, reduceCtorEq, Nat.reduceAdd, Nat.reduceLT, Nat.reduceLeDiff]))
    have hd1l := at_lt hd1
    have hd2 : (H1 ++ [SO.lst []])[H.length]? = some (.dI (mp ι (E0 own us))) := app_old hd1
    have hE := E0_len (own := own) (us := us)
    refine sp_shown inj (by lia) 130 hT (by lia) hd2 app_at (by simp; lia) (by lia) fun H2 d2 l2 k2 => ?_
    (try with_reducible refine IsW.run ?_); (repeat (first | walk_at "ev" | simp only [pvN, evA, evB, reduceCtorEq, Nat.reduceAdd, Nat.reduceLT, Nat.reduceLeDiff]))
    have gl := gsh_len (ρ := ρ) (t := T) (es := E0 own us) (ln := [])
    have ag := gsh_ag (ρ := ρ) (t := T) (es := E0 own us) (ln := []) ⟨fun e he => by
      obtain ⟨k, hk⟩ := E0_all.1 e he
      rw [hk]; exact Or.inr ⟨_, _, okO, rfl⟩, by simp⟩
    refine sp_compK rfl d2 (by rw [mp_len]; lia) (fun e he => by
      obtain ⟨f, hf, rfl⟩ := List.mem_map.mp he
      exact ag.1 f hf) fun ks hkl hks => ?_
    (try with_reducible refine IsW.run ?_); (repeat (first | walk_at "ev" | simp only [evA, evB, reduceCtorEq, Nat.reduceAdd, Nat.reduceLT, Nat.reduceLeDiff]))
    rw [mp_len] at hkl
    have hl12 := k2.len
    rw [app_len] at hl12
    refine h _ _ _ ks (by lia) (by lia) (by lia) (app_old l2) app_at (fun k hk => ?_) ag.2 ?_
    · obtain ⟨m, hm⟩ := hks k hk
      obtain ⟨f, hf, e⟩ := List.mem_map.mp hm
      obtain ⟨x, w⟩ := f
      simp only [Prod.mk.injEq] at e
      exact ⟨x, m, by rw [← e.2]; exact hf, e.1.symm⟩
    · have k1' : Kp no H (H1 ++ [SO.lst []]) := k1.trans (Kp.app (ch := no)) (fun _ _ h => h) (fun _ _ h => h)
      have k2' : Kp no H H2 := k1'.trans k2 (fun _ _ h => h) (fun p hp h => by unfold dq at h; lia)
      exact k2'.trans (Kp.app (ch := no)) (fun _ _ h => h) (fun _ _ h => h)
  · rintro J mk k src l H1 ⟨d, z, hk, rfl, rfl, hd1, hu1, k1⟩
    obtain ⟨j, hx⟩ : ∃ j, us[d]? = some j := ⟨_, List.getElem?_eq_getElem (lt_k hk)⟩
    have hjm : j ∈ us := List.mem_of_getElem? hx
    refine ⟨_, _, nxLm hu1 hx, Nat.lt_of_sub_eq_succ rfl, ?_⟩
    have hj4 : ((j : Int)).natAbs < 4294967296 := Nat.lt_trans (hb j hjm) (by decide)
    have st : setIt H1 (.tup [.str (Str.ofString "own"), .int (j : Int)]) (.ref H.length) (.int ((j : Int) * a + b)) = some (H1.set H.length (.dI (mp ι (E0 own (us.take (d + 1)))))) := by
      rw [wSetI hd1 (mp_take hus), ← hown j hjm, mp_sto inj, take_snoc hx, E0_snoc]; rfl
    (try with_reducible refine IsW.run ?_); (repeat (first | walk_at "ev" | simp only [mulF hj4, addF, st, evA, evB, reduceCtorEq, Nat.reduceAdd, Nat.reduceLT, Nat.reduceLeDiff]))
    exact mk ⟨d + 1, _, ad_k hk, rfl, rfl, set_at hd1, by rw [set_ne (Nat.ne_of_gt hul)]; exact hu1, k1.trans (Kp.set (ch := on H.length) rfl) (fun _ _ h => h) (fun p hp h => Nat.ne_of_lt hp h)⟩
end
noncomputable abbrev XX := Nat ⊕ Nat
noncomputable def cnt (U : List Int) (f : Int) : Nat → Int
  | 0 => f
  | i + 1 => nx U (cnt U f i) + 1
theorem cnt_lt {U : List Int} {f : Int} {i j : Nat} (h : i < j) : nx U (cnt U f i) < cnt U f j := by
  induction j with
  | zero => lia
  | succ j ih =>
    have e : cnt U f (j + 1) = nx U (cnt U f j) + 1 := rfl
    have g := nx_ge (us := U) (k := cnt U f j)
    rcases Nat.lt_or_ge i j with hij | hij
    · have := ih hij; lia
    · have : i = j := by lia
      subst this; lia
theorem cnt_ge {U : List Int} {f : Int} {i : Nat} : f ≤ cnt U f i := by
  cases i with
  | zero => exact Int.le_refl _
  | succ i =>
    have h := cnt_lt (U := U) (f := f) (i := 0) (j := i + 1) (by lia)
    have g := nx_ge (us := U) (k := cnt U f 0)
    have : cnt U f 0 = f := rfl
    lia
noncomputable def ow (a b : Int) : XX → Int
  | .inl k => (k : Int) * a + b
  | .inr _ => 0
noncomputable def Us (R : Tr XX) (a b : Int) : List Int := (vrs R).map (ow a b)
open Classical in
noncomputable def io (R : Tr XX) (a b f : Int) : XX → Int
  | .inl k => if .inl k ∈ vrs R then (k : Int) * a + b else -((k : Int) + 1)
  | .inr i => nx (Us R a b) (cnt (Us R a b) f i)
section
variable {R : Tr XX} {a b f : Int}
theorem io_vrs (hv : ∀ x ∈ vrs R, ∃ k, k < 4 ∧ x = Sum.inl k) : ∀ x ∈ vrs R, io R a b f x = ow a b x := fun x hx => by
  obtain ⟨k, _, rfl⟩ := hv x hx
  simp only [io, ow, if_pos hx]
theorem io_Us (hv : ∀ x ∈ vrs R, ∃ k, k < 4 ∧ x = Sum.inl k) : (vrs R).map (io R a b f) = Us R a b := List.map_congr_left fun x hx => io_vrs hv x hx
theorem io_inj (ha : 1 ≤ a) (hb : 0 ≤ b) (hf : 0 ≤ f) : ∀ x y, io R a b f x = io R a b f y → x = y := by
  have pos : ∀ k : Nat, 0 ≤ (k : Int) * a := fun k => Int.mul_nonneg (by lia) (by lia)
  have mem : ∀ k : Nat, Sum.inl k ∈ vrs R → (k : Int) * a + b ∈ Us R a b := fun k hk => List.mem_map.mpr ⟨_, hk, rfl⟩
  have ge : ∀ i : Nat, 0 ≤ nx (Us R a b) (cnt (Us R a b) f i) := fun i => by
    have h1 := nx_ge (us := Us R a b) (k := cnt (Us R a b) f i)
    have h2 := cnt_ge (U := Us R a b) (f := f) (i := i)
    lia
  have lr : ∀ k i : Nat, io R a b f (.inl k) ≠ io R a b f (.inr i) := fun k i h => by
    simp only [io] at h
    split at h
    · rename_i hk
      have := mem k hk
      rw [h] at this
      exact nx_notin this
    · have := ge i; lia
  intro x y h
  rcases x with k | i <;> rcases y with k' | i'
  · simp only [io] at h
    split at h <;> split at h
    · have h1 : (k : Int) * a = (k' : Int) * a := by lia
      have := Int.eq_of_mul_eq_mul_right (by lia : a ≠ 0) h1
      congr 1; lia
    · have := pos k; lia
    · have := pos k'; lia
    · congr 1; lia
  · exact absurd h (lr k i')
  · exact absurd h.symm (lr k' i)
  · simp only [io] at h
    rcases Nat.lt_trichotomy i i' with q | q | q
    · have h1 := cnt_lt (U := Us R a b) (f := f) q
      have h2 := nx_ge (us := Us R a b) (k := cnt (Us R a b) f i')
      lia
    · rw [q]
    · have h1 := cnt_lt (U := Us R a b) (f := f) q
      have h2 := nx_ge (us := Us R a b) (k := cnt (Us R a b) f i)
      lia
end
section
variable {X : Type} [DecidableEq X] {S S' : Sy}
mutual
theorem gsh_le (l' : S.Le S') : ∀ {t : Tr X} {es : List (X × SV)} {ln : List SV}, KIn S t → gsh (res S') t es ln = gsh (res S) t es ln
  | .a _, _, _, _ => rfl
  | .i _, _, _, _ => rfl
  | .v _, _, _, _ => rfl
  | .s f l, es, ln, h => by
    simp only [gsh_1, gsh_2, gsh_3, gsh_4, (h.1.le l').2]
    exact gshs_le l' h.2
theorem gshs_le (l' : S.Le S') : ∀ {l : List (Tr X)} {es : List (X × SV)} {ln : List SV}, KIns S l → gshs (res S') l es ln = gshs (res S) l es ln
  | [], _, _, _ => rfl
  | t :: r, es, ln, h => by
    simp only [gshs_1, gshs_2, gsh_le l' h.1]
    exact gshs_le l' h.2
end
end
theorem kin_rule {X : Type} {S : Sy} {j : Nat} {l : List X} {pb : Option (List (Option X))} {b : Bd X} (hk : KIn S (headT j l)) (hB : KIn S (bt b)) : KIn S (ruleT j l pb b) := by
  cases pb with
  | none => exact ⟨trivial, hk, hB, trivial⟩
  | some q => exact ⟨trivial, ⟨trivial, hk, kin_ls (t := .a 0) trivial, trivial⟩, hB, trivial⟩
theorem run_tran {H : Hp} {n m j : Nat} {S : Sy} {l : List XX} {pb : Option (List (Option XX))} {b : Bd XX} {a bb f : Int} {Q : SV → Hp → Prop} (hv : ∀ x ∈ vrs (ruleT j l pb b), ∃ k, k < 4 ∧ x = Sum.inl k) (d1 : n + 5 < m) (d2 : m + 1 < H.length)
    (hS : SymAt H n S) (hF : FrAt H m f) (hg : S0.Le S) (hl : S.len < 90000) (ha : S.a cP = some j) (hk : KIn S (headT j l)) (hln : l.length < 1000) (hB : BdG S b) (hz : bsz b < 500) (hsz : sz (ruleT j l pb b) < 2900) (hq : ∀ q, pb = some q → q.length < 2900)
    (h : ∀ H' S', SymAt H' n S' → S.Le S' → S'.len ≤ S.len + 4 * bsz b + 4 → FrAt H' m (cnt (Us (ruleT j l pb b) a bb) f (tranT Sum.inr l pb b).2) → Kp (fun p => sy n p ∨ p = m) H H' → KIn S' (tranT Sum.inr l pb b).1 → Q (enc (res S') (io (ruleT j l pb b) a bb f) (tranT Sum.inr l pb b).1) H') :
    Ok (F_translate_grammar [.ref (n + 1), enc (res S) (ow a bb) (ruleT j l pb b), .ref (m + 1)] H) Q := by
  have e : enc (res S) (ow a bb) (ruleT j l pb b) = enc (res S) (io (ruleT j l pb b) a bb f) (ruleT j l pb b) := enc_congr fun x hx => (io_vrs hv x hx).symm
  rw [e]
  exact sp_tran (new := Sum.inr) (c := cnt (Us (ruleT j l pb b) a bb) f) (ι := io (ruleT j l pb b) a bb f) (fun i => by rw [io_Us hv]; rfl) (fun i => by rw [io_Us hv]; rfl) d1 d2 hS hF hg hl ha hk hln hB hz hsz hq h
noncomputable def d_lawD : DS :=
  (sCons (sIf (dOr (dCmp (cmpD true) (dSub (dLoc 16) (dVal (.int 0))) (dSub (dLoc 15) (dVal (.int 0)))) (dCmp (cmpD true) (dSub (dLoc 17) (dVal (.int 0))) (dSub (dLoc 15) (dVal (.int 0))))) (sCons (sRet (dVal (.bool false)))
  sNil) sNil)
  (sCons (sRet (dB (dCmp (cmpD false) (dComp (dIter (dSub (dLoc 17) (dVal (.int 1)))) (dCmp cmpIn (dLoc 0) (dSub (dLoc 1) (dVal (.int 1)))) (dLoc 0) [15] 3000) (dLst dNil))))
  sNil))
noncomputable def d_lawC : DS :=
  (sCons (sAssign 14 (dCall (fNew 290 F_Fresh_init) (dCons (dLoc 3) dNil)))
  (sCons (sAssign 15 (dCall (F_law_clause_line) (dCons (dCall (F_translate_grammar) (dCons (dLoc 2) (dCons (dLoc 7) (dCons (dLoc 14) dNil)))) (dCons (dLoc 13) (dCons (dVal (.int 1)) (dCons (dVal (.int 0)) dNil))))))
  (sCons (sAssign 16 (dCall (F_law_clause_line) (dCons (dCall (F_translate_grammar) (dCons (dLoc 2) (dCons (dLoc 11) (dCons (dCall (fNew 290 F_Fresh_init) (dCons (dLoc 8) dNil)) dNil)))) (dCons (dLoc 13) (dCons (dLoc 9) (dCons (dLoc 10) dNil))))))
  (sCons (sAssign 17 (dCall (F_law_clause_line) (dCons (dCall (F_translate_grammar) (dCons (dLoc 2) (dCons (dLoc 11) (dCons (dLoc 14) dNil)))) (dCons (dLoc 13) (dCons (dLoc 9) (dCons (dLoc 10) dNil))))))
  d_lawD))))
inductive LD (H : Hp) (q n k : Nat) (src : Src) (acc : List SV) (H' : Hp) : Prop
  | mk (d : Nat) (hd : d + k = n) (es : src = .lst q d) (ea : acc = []) (eH : H = H')
theorem law_D {H : Hp} {z0 z1 z2 z3 z4 z5 z6 z7 z8 z9 z10 z11 z12 z13 z14 : Option SV} {p1 q1 p2 q2 p3 q3 : Nat} {L : List SV} {ks1 ks3 : List Int} {Q : SV → Hp → Prop} (hL : ∀ v ∈ L, IG v) (h1 : H[p1]? = some (.lst L)) (h2 : H[p2]? = some (.lst L)) (h3 : H[p3]? = some (.lst L))
    (k1 : H[q1]? = some (.lst (ks1.map .int))) (k3 : H[q3]? = some (.lst (ks3.map .int))) (hk : ∀ k ∈ ks3, k ∉ ks1) (hl : ks3.length < 2900) (h : ∀ H', Kp no H H' → Q (.bool true) H') :
    OkS (d_lawD [z0, z1, z2, z3, z4, z5, z6, z7, z8, z9, z10, z11, z12, z13, z14, some (.tup [.ref p1, .ref q1]), some (.tup [.ref p2, .ref q2]), some (.tup [.ref p3, .ref q3])] H) (retQ Q) := by
  have c2 : cmpD true H (.ref p2) (.ref p1) = some false := ig_cmp hL h2 h1
  have c3 : cmpD true H (.ref p3) (.ref p1) = some false := ig_cmp hL h3 h1
  have fr : frees [z0, z1, z2, z3, z4, z5, z6, z7, z8, z9, z10, z11, z12, z13, z14, some (.tup [.ref p1, .ref q1]), some (.tup [.ref p2, .ref q2]), some (.tup [.ref p3, .ref q3])] [15] = some [some (.tup [.ref p1, .ref q1])] := rfl
  unfold d_lawD
  (try with_reducible refine IsW.run ?_); (repeat (first | walk_at "ev" | simp only [c2, c3, evA, evB, reduceCtorEq, Nat.reduceAdd, Nat.reduceLT, Nat.reduceLeDiff]))
  refine ok_comp ?_
  (try with_reducible refine IsW.run ?_); (repeat (first | walk_at "ev" | simp only [wIt k3, fr, evA, evB, reduceCtorEq, Nat.reduceAdd, Nat.reduceLT, Nat.reduceLeDiff]))
  refine ok_compLJ (LD H q3 ks3.length) ?_ ?_ (n := ks3.length) (by lia) ⟨0, Nat.zero_add _, rfl, rfl, rfl⟩
  · rintro src acc H' ⟨d, rfl, rfl, rfl, rfl⟩
    refine ⟨nxLe k3, ?_⟩
    have cc : cmpD false (H ++ [SO.lst []] ++ [SO.lst []]) (.ref H.length) (.ref (H ++ [SO.lst []]).length) = some (false ^^ ([] : List Int).isEmpty) := cmp_nil (cs := []) (app_old app_at) app_at
    (try with_reducible refine IsW.run ?_); (repeat (first | walk_at "ev" | simp only [cc, List.isEmpty_nil, Bool.false_xor, evA, evB, reduceCtorEq, Nat.reduceAdd, Nat.reduceLT, Nat.reduceLeDiff]))
    exact h _ ((Kp.app (ch := no)).trans (Kp.app (ch := no)) (fun _ _ h => h) (fun _ _ h => h))
  · rintro J mk k src acc H' ⟨d, hk', rfl, rfl, rfl⟩
    obtain ⟨j, hx⟩ : ∃ j, ks3[d]? = some j := ⟨_, List.getElem?_eq_getElem (by lia)⟩
    refine ⟨_, _, nxLm k3 hx, ?_⟩
    have ci : cmpIn H (.int j) (.ref q1) = some (decide (j ∈ ks1)) := in_used k1
    have cj : decide (j ∈ ks1) = false := decide_eq_false (hk j (List.mem_of_getElem? hx))
    (try with_reducible refine IsW.run ?_); (repeat (first | walk_at "ev" | simp only [ci, cj, evA, evB, reduceCtorEq, Nat.reduceAdd, Nat.reduceLT, Nat.reduceLeDiff]))
    exact mk ⟨d + 1, by lia, rfl, rfl, rfl⟩
section
variable {n p x : Nat}
theorem syN (h : p < n) : ¬ sy n p := fun h' => Nat.lt_irrefl _ (Nat.lt_of_lt_of_le (Nat.lt_add_right 2 h) h'.1)
theorem syL (h : n + 5 < p) (h2 : p < x) : ¬ (sy n p ∨ p = x) := fun h' => h'.elim (syP h) (Nat.ne_of_lt h2)
theorem syG (h : n + 5 < p) (h2 : x < p) : ¬ (sy n p ∨ p = x) := fun h' => h'.elim (syP h) (Nat.ne_of_gt h2)
theorem sy0 (h : p < n) (h2 : p < x) : ¬ (sy n p ∨ p = x) := fun h' => h'.elim (syN h) (Nat.ne_of_lt h2)
end
theorem law_C {H : Hp} {n j u : Nat} {S : Sy} {l : List XX} {pb : Option (List (Option XX))} {b : Bd XX} {us : List Nat} {f1 f2 : Nat} {a bb : Int} {o : Obj} {xs : List SV} {z0 z1 z4 z5 z6 z12 : Option SV} {Q : SV → Hp → Prop}
    (h0 : H[0]? = some (.frz xs o)) (hn : 0 < n) (hS : SymAt H n S) (hg : S0.Le S) (hl : S.len < 5200) (ha : S.a cP = some j) (hk : KIn S (headT j l)) (hln : l.length ≤ 2) (hB : BdG S b) (hz : bsz b ≤ 15) (hw : wz b ≤ 91) (hsz : sz (ruleT j l pb b) < 2900) (hq : ∀ q, pb = some q → q.length ≤ 2)
    (hv : ∀ x ∈ vrs (ruleT j l pb b), ∃ k, k < 4 ∧ x = Sum.inl k) (hu : H[u]? = some (.lst (us.map fun (k : Nat) => .int (k : Int)))) (hun : n + 5 < u) (hus : ∀ k, k ∈ us ↔ (Sum.inl k : XX) ∈ vrs (ruleT j l pb b)) (husl : us.length < 100) (h1a : 1 ≤ a) (hbb : 0 ≤ bb)
    (h : ∀ H', H'[0]? = some (.frz xs o) → Q (.bool true) H') :
    OkS (d_lawC [z0, z1, some (.ref (n + 1)), some (.int (f1 : Int)), z4, z5, z6, some (enc (res S) (ow 1 0) (ruleT j l pb b)), some (.int (f2 : Int)), some (.int a), some (.int bb), some (enc (res S) (ow a bb) (ruleT j l pb b)), z12, some (.ref u), none, none, none, none] H) (retQ Q) := by
  have hul := at_lt hu
  have hR : KIn S (ruleT j l pb b) := kin_rule hk hB.2
  have hq' : ∀ q, pb = some q → q.length < 2900 := fun q e => by have := hq q e; lia
  have hT := tran_sz (new := Sum.inr) (pb := pb) hB (by lia) hln hq
  have own4 : ∀ k ∈ us, k < 4 := fun k hk => by
    obtain ⟨k', h4, e⟩ := hv _ ((hus k).mp hk)
    cases e; exact h4
  have hown : ∀ (a' b' f : Int), ∀ k ∈ us, io (ruleT j l pb b) a' b' f (Sum.inl k) = (k : Int) * a' + b' := fun a' b' f k hk => by
    simp only [io, if_pos ((hus k).mp hk)]
  unfold d_lawC
  (try with_reducible refine IsW.run ?_); (repeat (first | walk_at "ev" | simp only [evA, evB, reduceCtorEq, Nat.reduceAdd, Nat.reduceLT, Nat.reduceLeDiff]))
  refine new_un (sp_fresh fun H1 F1 k1 z1' => ⟨rfl, ?_⟩)
  (try with_reducible refine IsW.run ?_); (repeat (first | walk_at "ev" | simp only [evA, evB, reduceCtorEq, Nat.reduceAdd, Nat.reduceLT, Nat.reduceLeDiff]))
  refine run_tran (a := 1) (bb := 0) hv (Nat.lt_trans hun hul) (at_lt F1.inst) (hS.kp k1 (fun _ _ _ h => h)) F1 hg (by lia) ha hk (by lia) hB (by lia) hsz hq' fun H2 S2 s2 le2 n2 F2 k2 kin2 => ?_
  (try with_reducible refine IsW.run ?_); (repeat (first | walk_at "ev" | simp only [evA, evB, reduceCtorEq, Nat.reduceAdd, Nat.reduceLT, Nat.reduceLeDiff]))
  have k02 : Kp (fun p => sy n p ∨ p = H.length) H H2 := k1.trans k2 (fun _ _ h => h.elim) (fun _ _ h => h)
  have l2 := k2.len
  have hu2 := k02.keep _ _ hu (syL hun hul)
  have h02 := k02.keep _ _ h0 (sy0 hn (Nat.zero_lt_of_lt hul))
  have hnl : n + 5 < H.length := Nat.lt_trans hun hul
  have lt2 : H.length < H2.length := Nat.lt_of_lt_of_le (by rw [z1']; exact Nat.lt_add_of_pos_right (Nat.succ_pos 1)) l2
  refine sp_line (us := us) (own := Sum.inl) (io_inj (by lia) (by lia) (by lia)) (hown 1 0 f1) husl own4 hu2 (by lia) fun H3 p1 q1 ks1 hp1 hq1 hkl1 c1 d1 e1 ig1 k3 => ?_
  (try with_reducible refine IsW.run ?_); (repeat (first | walk_at "ev" | simp only [evA, evB, reduceCtorEq, Nat.reduceAdd, Nat.reduceLT, Nat.reduceLeDiff]))
  have F3 := F2.kp k3 (fun h => h) (fun h => h)
  have s3 := s2.kp k3 (fun _ _ _ h => h)
  have hu3 := k3.keep _ _ hu2 (fun h => h)
  have h03 := k3.keep _ _ h02 (fun h => h)
  have l3 := k3.len
  have n1 := Nat.lt_trans hnl (Nat.lt_of_lt_of_le lt2 hp1)
  have m1 := Nat.lt_trans hnl (Nat.lt_of_lt_of_le lt2 hq1)
  refine new_un (sp_fresh fun H4 F4 k4 z4' => ⟨rfl, ?_⟩)
  (try with_reducible refine IsW.run ?_); (repeat (first | walk_at "ev" | simp only [evA, evB, reduceCtorEq, Nat.reduceAdd, Nat.reduceLT, Nat.reduceLeDiff]))
  rw [← (hR.le le2 (ow a bb)).2]
  refine run_tran (a := a) (bb := bb) hv (Nat.lt_trans hun (at_lt hu3)) (at_lt F4.inst) (s3.kp k4 (fun _ _ _ h => h)) F4 (hg.trans le2) (by lia) (le2.a ha) (hk.le le2 (ow 1 0)).1 (by lia) (hB.le le2) (by lia) hsz hq' fun H5 S5 s5 le5 n5 F5 k5 kin5 => ?_
  (try with_reducible refine IsW.run ?_); (repeat (first | walk_at "ev" | simp only [evA, evB, reduceCtorEq, Nat.reduceAdd, Nat.reduceLT, Nat.reduceLeDiff]))
  have k35 : Kp (fun p => sy n p ∨ p = H3.length) H3 H5 := k4.trans k5 (fun _ _ h => h.elim) (fun _ _ h => h)
  have hu5 := k35.keep _ _ hu3 (syL hun (at_lt hu3))
  have h05 := k35.keep _ _ h03 (sy0 hn (at_lt h03))
  have c15 := k35.keep _ _ c1 (syL n1 (at_lt c1))
  have d15 := k35.keep _ _ d1 (syL m1 (at_lt d1))
  have F35 := F3.kp k35 (syL hnl (at_lt F3.flds)) (syL (Nat.lt_succ_of_lt hnl) (at_lt F3.inst))
  refine sp_line (us := us) (own := Sum.inl) (io_inj h1a hbb (by lia)) (hown a bb f2) husl own4 hu5 (by lia) fun H6 p2 q2 ks2 hp2 hq2 hkl2 c2 d2 e2 ig2 k6 => ?_
  (try with_reducible refine IsW.run ?_); (repeat (first | walk_at "ev" | simp only [evA, evB, reduceCtorEq, Nat.reduceAdd, Nat.reduceLT, Nat.reduceLeDiff]))
  have F6 := F35.kp k6 (fun h => h) (fun h => h)
  have s6 := s5.kp k6 (fun _ _ _ h => h)
  have hu6 := k6.keep _ _ hu5 (fun h => h)
  have h06 := k6.keep _ _ h05 (fun h => h)
  have c16 := k6.keep _ _ c15 (fun h => h)
  have d16 := k6.keep _ _ d15 (fun h => h)
  rw [← ((hR.le le2 (ow a bb)).1.le le5 (ow a bb)).2]
  have gf : (0 : Int) ≤ cnt (Us (ruleT j l pb b) 1 0) (f1 : Int) (tranT Sum.inr l pb b).2 := by
    have := cnt_ge (U := Us (ruleT j l pb b) 1 0) (f := (f1 : Int)) (i := (tranT Sum.inr l pb b).2); lia
  refine run_tran (a := a) (bb := bb) hv hnl (at_lt F6.inst) s6 F6 ((hg.trans le2).trans le5) (by lia) (le5.a (le2.a ha)) (hk.le (le2.trans le5) (ow 1 0)).1 (by lia) (hB.le (le2.trans le5)) (by lia) hsz hq' fun H7 S7 s7 le7 n7 F7 k7 kin7 => ?_
  (try with_reducible refine IsW.run ?_); (repeat (first | walk_at "ev" | simp only [evA, evB, reduceCtorEq, Nat.reduceAdd, Nat.reduceLT, Nat.reduceLeDiff]))
  have lt5 := Nat.lt_of_lt_of_le lt2 (Nat.le_trans l3 k35.len)
  have hu7 := k7.keep _ _ hu6 (syL hun hul)
  have h07 := k7.keep _ _ h06 (sy0 hn (Nat.zero_lt_of_lt hul))
  have c17 := k7.keep _ _ c16 (syG n1 (Nat.lt_of_lt_of_le lt2 hp1))
  have d17 := k7.keep _ _ d16 (syG m1 (Nat.lt_of_lt_of_le lt2 hq1))
  have c27 := k7.keep _ _ c2 (syG (Nat.lt_trans hnl (Nat.lt_of_lt_of_le lt5 hp2)) (Nat.lt_of_lt_of_le lt5 hp2))
  refine sp_line (us := us) (own := Sum.inl) (io_inj h1a hbb gf) (hown a bb _) husl own4 hu7 (by lia) fun H8 p3 q3 ks3 hp3 hq3 hkl3 c3 d3 e3 ig3 k8 => ?_
  (try with_reducible refine IsW.run ?_); (repeat (first | walk_at "ev" | simp only [evA, evB, reduceCtorEq, Nat.reduceAdd, Nat.reduceLT, Nat.reduceLeDiff]))
  have c18 := k8.keep _ _ c17 (fun h => h)
  have d18 := k8.keep _ _ d17 (fun h => h)
  have c28 := k8.keep _ _ c27 (fun h => h)
  have h08 := k8.keep _ _ h07 (fun h => h)
  rw [gsh_le le5 kin2] at c28
  rw [gsh_le le7 (kin2.le le5 (ow 1 0)).1, gsh_le le5 kin2] at c3 e3
  refine law_D ig1 c18 c28 c3 d18 d3 (fun k hk3 hk1 => ?_) hkl3 fun H9 k9 => h H9 (k9.keep _ _ h08 (fun h => h))
  have newx : ∀ (x : XX) (m : Int), (x, SV.int m) ∈ (gsh (res S2) (tranT Sum.inr l pb b).1 (E0 Sum.inl us) []).1 → ∃ i, i < (tranT Sum.inr l pb b).2 ∧ x = Sum.inr i := fun x m hx => by
    rcases gsh_new hx with hx | ⟨hx, hno⟩
    · obtain ⟨k, hk⟩ := E0_all.1 _ hx
      exact absurd hk (by simp [ownV])
    · rcases tran_vrs hx with hx | hx
      · obtain ⟨k, _, rfl⟩ := hv x hx
        have := (E0_all (own := (Sum.inl : Nat → XX)) (us := us)).2 k ((hus k).mpr hx)
        simp only at hno
        rw [hno] at this
        cases this
      · exact hx
  obtain ⟨x, m, hx, ex⟩ := e3 k hk3
  obtain ⟨y, m', hy, ey⟩ := e1 k hk1
  obtain ⟨i, hi, rfl⟩ := newx x m hx
  obtain ⟨i', hi', rfl⟩ := newx y m' hy
  simp only [io] at ex ey
  have g1 := nx_ge (us := Us (ruleT j l pb b) a bb) (k := cnt (Us (ruleT j l pb b) a bb) (cnt (Us (ruleT j l pb b) 1 0) (f1 : Int) (tranT Sum.inr l pb b).2) i)
  have g2 := cnt_ge (U := Us (ruleT j l pb b) a bb) (f := cnt (Us (ruleT j l pb b) 1 0) (f1 : Int) (tranT Sum.inr l pb b).2) (i := i)
  have g3 := cnt_lt (U := Us (ruleT j l pb b) 1 0) (f := (f1 : Int)) hi'
  lia
noncomputable def d_lawB : DS :=
  (sCons (sAssign 7 (dTup (dCons (dVal (.str (Str.ofString "s"))) (dCons (dVal (.int 8)) (dCons (dTup (dCons (dLoc 6) (dCons (dCall (F_law_rule_part 130) (dCons (dLoc 1) (dCons (dLoc 2) (dCons (dVal (.int 3)) dNil)))) dNil))) dNil)))))
  (sCons (sAssign 8 (dCall (F_law_coin) (dCons (dLoc 1) (dCons (dVal (.int 6)) dNil))))
  (sCons (sAssign 9 (dBin opAdd (dVal (.int 1)) (dCall (F_law_coin) (dCons (dLoc 1) (dCons (dVal (.int 5)) dNil)))))
  (sCons (sAssign 10 (dCall (F_law_coin) (dCons (dLoc 1) (dCons (dVal (.int 20)) dNil))))
  (sCons (sAssign 11 (dCall (F_law_other 130) (dCons (dLoc 7) (dCons (dLoc 9) (dCons (dLoc 10) dNil)))))
  (sCons (sAssign 12 (dEmpty .I))
  (sCons (sExpr (dCall (F_law_shown 130) (dCons (dLoc 7) (dCons (dLoc 12) (dCons (dLst dNil) dNil)))))
  (sCons (sAssign 13 (dCall fSorted (dCons (dLoc 12) dNil)))
  d_lawC))))))))
noncomputable def leftT {X : Type} (j : Nat) (l : List X) (pb : Option (List (Option X))) : Tr X := match pb with | none => headT j l | some q => .s (.n 1) [headT j l, lsT (q.map itm) (.a 0)]
theorem rule_left {X : Type} {j : Nat} {l : List X} {pb : Option (List (Option X))} {b : Bd X} : ruleT j l pb b = .s (.n 8) [leftT j l pb, bt b] := by cases pb <;> rfl
theorem left_kin {X : Type} {S : Sy} {j : Nat} {l : List X} {pb : Option (List (Option X))} (hk : KIn S (headT j l)) : KIn S (leftT j l pb) := by
  cases pb with
  | none => exact hk
  | some q => exact ⟨trivial, hk, kin_ls (t := .a 0) trivial, trivial⟩
theorem head_sz' {X : Type} {j : Nat} {l : List X} : sz (headT j l) = 1 + l.length := by
  cases l with
  | nil => rfl
  | cons a r => show 1 + szs ((a :: r).map Tr.v) = _; rw [vs_sz]
theorem left_sz {X : Type} {j : Nat} {l : List X} {pb : Option (List (Option X))} (hl : l.length ≤ 2) (hq : ∀ q, pb = some q → q.length ≤ 2) : sz (leftT j l pb) ≤ 9 := by
  cases pb with
  | none => show sz (headT j l) ≤ 9; rw [head_sz']; lia
  | some q =>
    have := hq q rfl
    show sz (.s (.n 1) [headT j l, lsT (q.map itm) (.a 0)]) ≤ 9
    simp only [sz_1, sz_2, sz_3, sz_4, szs_1, szs_2, head_sz', lsT_sz]; lia
theorem ow10 (k : Nat) : ow 1 0 (Sum.inl k) = (k : Int) := by simp [ow]
theorem keys_us {ρ : Fu → Int} {R : Tr XX} (hv : ∀ x ∈ vrs R, ∃ k, k < 4 ∧ x = Sum.inl k) (hsz : sz R < 64) :
    ∃ us : List Nat, (isort ((mp (io R 1 0 0) (gsh ρ R [] []).1).map (·.1))).map SV.int = (us.map fun (k : Nat) => SV.int (k : Int)) ∧ (∀ k, k ∈ us ↔ (Sum.inl k : XX) ∈ vrs R) ∧ us.length < 100 := by
  generalize hK : (mp (io R 1 0 0) (gsh ρ R [] []).1).map (·.1) = K
  have hlen : K.length < 64 := by
    rw [← hK, List.length_map, mp_len]
    have := (gsh_len (ρ := ρ) (t := R) (es := []) (ln := [])).2
    simp at this; lia
  have hmem : ∀ z : Int, z ∈ K ↔ ∃ k : Nat, (Sum.inl k : XX) ∈ vrs R ∧ z = (k : Int) := fun z => by
    have io1 : ∀ k : Nat, (Sum.inl k : XX) ∈ vrs R → io R 1 0 0 (Sum.inl k) = (k : Int) := fun k hk => by rw [io_vrs hv _ hk, ow10]
    rw [← hK]
    constructor
    · intro hz
      obtain ⟨e, he, rfl⟩ := List.mem_map.mp hz
      obtain ⟨g, hg, rfl⟩ := List.mem_map.mp he
      rcases gsh_new hg with hg | ⟨hg, _⟩
      · cases hg
      · obtain ⟨k, _, hk⟩ := hv _ hg
        rw [hk] at hg ⊢
        exact ⟨k, hg, io1 k hg⟩
    · rintro ⟨k, hk, rfl⟩
      have := gsh_keep (ρ := ρ) (x := (Sum.inl k : XX)) (t := R) (es := []) (ln := []) (Or.inr hk)
      obtain ⟨v, hv'⟩ := Option.isSome_iff_exists.mp this
      have := look_some hv'
      exact List.mem_map.mpr ⟨_, List.mem_map.mpr ⟨_, this, rfl⟩, io1 k hk⟩
  have hp := isort_perm K
  have hz : ∀ z ∈ isort K, ∃ k : Nat, (Sum.inl k : XX) ∈ vrs R ∧ z = (k : Int) := fun z hz => (hmem z).mp (hp.mem_iff.mp hz)
  refine ⟨(isort K).map Int.toNat, ?_, fun k => ?_, ?_⟩
  · rw [List.map_map]
    refine List.map_congr_left fun z hz' => ?_
    obtain ⟨k, _, rfl⟩ := hz z hz'
    simp
  · constructor
    · intro h
      obtain ⟨z, hz', e⟩ := List.mem_map.mp h
      obtain ⟨k', hk', rfl⟩ := hz z hz'
      have : k' = k := by simpa using e
      rw [← this]; exact hk'
    · intro h
      refine List.mem_map.mpr ⟨(k : Int), hp.mem_iff.mpr ((hmem _).mpr ⟨k, h, rfl⟩), by simp⟩
  · rw [List.length_map, hp.length_eq]; lia
theorem fS_at {H : Hp} {p : Nat} {es : List (Int × SV)} (hp : H[p]? = some (.dI es)) (hl : es.length < 64) : fSorted [.ref p] H = some (.ref H.length, H ++ [SO.lst ((isort (es.map (·.1))).map SV.int)]) := by
  show (match H[p]? with | some (.dI es) => if es.length < 64 then some (SV.ref H.length, H ++ [SO.lst ((isort (es.map fun (e : Int × SV) => e.1)).map SV.int)]) else none | _ => none) = _
  rw [hp]; exact if_pos hl
theorem law_B {H : Hp} {n p j : Nat} {S : Sy} {l : List XX} {pb : Option (List (Option XX))} {f1 : Nat} {cs : List Int} {o : Obj} {xs : List SV} {z0 z4 z5 : Option SV} {Q : SV → Hp → Prop}
    (h0 : H[0]? = some (.frz xs o)) (hp0 : 0 < p) (hpn : p < n) (hS : SymAt H n S) (hg : S0.Le S) (hl : S.len < 4000) (ha : S.a cP = some j) (hk : KIn S (headT j l)) (hln : l.length ≤ 2) (hq : ∀ q, pb = some q → q.length ≤ 2)
    (hv : ∀ x ∈ vrs (leftT j l pb), ∃ k, k < 4 ∧ x = Sum.inl k) (hp : H[p]? = some (.lst (cs.map .int))) (hc : cs.length < 1000)
    (h : ∀ H', H'[0]? = some (.frz xs o) → Q (.bool true) H') :
    OkS (d_lawB [z0, some (.ref p), some (.ref (n + 1)), some (.int (f1 : Int)), z4, z5, some (enc (res S) (ow 1 0) (leftT j l pb)), none, none, none, none, none, none, none, none, none, none, none] H) (retQ Q) := by
  unfold d_lawB
  (try with_reducible refine IsW.run ?_); (repeat (first | walk_at "ev" | simp only [evA, evB, reduceCtorEq, Nat.reduceAdd, Nat.reduceLT, Nat.reduceLeDiff]))
  refine sp_rule (own := Sum.inl) (fun k _ => ow10 k) hpn 3 129 (by lia) (by lia) hS hg (by lia) hp hc fun b S1 cs1 H1 ok1 w1 z1 q1 v1 kin1 s1 le1 n1 hp1 hc1 k1 => ?_
  simp only [show (2 : Nat) ^ 3 = 8 from rfl] at w1 z1 q1 n1
  have hB : BdG S1 b := ⟨ok1, kin1⟩
  have er : (.tup [.str (Str.ofString "s"), .int 8, .tup [enc (res S) (ow 1 0) (leftT j l pb), enc (res S1) (ow 1 0) (bt b)]] : SV) = enc (res S1) (ow 1 0) (ruleT j l pb b) := by
    rw [rule_left, ← ((left_kin (pb := pb) hk).le le1 (ow 1 0)).2]
    simp only [enc_1, enc_2, enc_3, enc_4, encs_1, encs_2]; rfl
  have hvR : ∀ x ∈ vrs (ruleT j l pb b), ∃ k, k < 4 ∧ x = Sum.inl k := fun x hx => by
    rw [rule_left] at hx
    simp only [vrs_1, vrs_2, vrs_3, vrs_4, vrss_1, vrss_2, List.append_nil, List.mem_append] at hx
    exact hx.elim (hv x) (v1 x)
  have hsR : sz (ruleT j l pb b) < 64 := by
    have := left_sz (j := j) (pb := pb) hln hq
    rw [rule_left]; simp only [sz_1, sz_2, sz_3, sz_4, szs_1, szs_2]; lia
  have h01 := k1.keep _ _ h0 (by unfold sy; lia)
  have l1 := k1.len
  have sl1 := s1.lt
  (try with_reducible refine IsW.run ?_); (repeat (first | walk_at "ev" | simp only [evA, evB, reduceCtorEq, Nat.reduceAdd, Nat.reduceLT, Nat.reduceLeDiff]))
  refine sp_coin (by lia) hp1 (by lia) fun f2 cs2 H2 hf2 hp2 hc2 k2 => ?_
  (try with_reducible refine IsW.run ?_); (repeat (first | walk_at "ev" | simp only [evA, evB, reduceCtorEq, Nat.reduceAdd, Nat.reduceLT, Nat.reduceLeDiff]))
  refine sp_coinI (by lia) hp2 (by lia) fun r5 cs3 H3 h5 h5' hp3 hc3 k3 => ?_
  (try with_reducible refine IsW.run ?_); (repeat (first | walk_at "ev" | simp only [addF, evA, evB, reduceCtorEq, Nat.reduceAdd, Nat.reduceLT, Nat.reduceLeDiff]))
  refine sp_coinI (by lia) hp3 (by lia) fun bb cs4 H4 hb hb' hp4 hc4 k4 => ?_
  (try with_reducible refine IsW.run ?_); (repeat (first | walk_at "ev" | simp only [evA, evB, reduceCtorEq, Nat.reduceAdd, Nat.reduceLT, Nat.reduceLeDiff]))
  have k24 : Kp (on p) H1 H4 := (k2.trans k3 (c2 := on p) (fun _ _ h => h) (fun _ _ h => h)).trans k4 (fun _ _ h => h) (fun _ _ h => h)
  have s4 := s1.kp k24 (fun q h1 h2 h => by unfold on at h; lia)
  have h04 := k24.keep _ _ h01 (by unfold on; lia)
  have l4 := k24.len
  rw [er]
  refine sp_other (ι' := ow (1 + r5) bb) 130 (by lia) (by lia) (fun x hx => ?_) fun H5 k5 => ?_
  · obtain ⟨k, hk4, rfl⟩ := hvR x hx
    rw [ow10]
    exact ⟨rfl, by lia⟩
  have s5 := s4.kp k5 (fun _ _ _ h => h)
  have h05 := k5.keep _ _ h04 (fun h => h)
  have l5 := k5.len
  have ei : enc (res S1) (ow 1 0) (ruleT j l pb b) = enc (res S1) (io (ruleT j l pb b) 1 0 0) (ruleT j l pb b) := enc_congr fun x hx => (io_vrs hvR x hx).symm
  obtain ⟨us, hus1, hus2, hus3⟩ := keys_us (ρ := res S1) hvR hsR
  have hd6 : (H5 ++ [SO.dI []] ++ [SO.lst []])[H5.length]? = some (.dI (mp (io (ruleT j l pb b) 1 0 0) [])) := app_old app_at
  have hq6 : (H5 ++ [SO.dI []] ++ [SO.lst []])[(H5 ++ [SO.dI []]).length]? = some (.lst []) := app_at
  have hne : H5.length ≠ (H5 ++ [SO.dI []]).length := by simp
  (try with_reducible refine IsW.run ?_); (repeat (first | walk_at "ev" | simp only [evA, evB, reduceCtorEq, Nat.reduceAdd, Nat.reduceLT, Nat.reduceLeDiff]))
  rw [ei]
  refine sp_shown (ι := io (ruleT j l pb b) 1 0 0) (ρ := res S1) (io_inj (R := ruleT j l pb b) (a := 1) (b := 0) (f := 0) (by lia) (by lia) (by lia)) hne 130 (t := ruleT j l pb b) (es := []) (ln := []) (H := H5 ++ [SO.dI []] ++ [SO.lst []])
    (by lia) (by lia) hd6 hq6 (by simp; lia) (by simp; lia) fun H7 d7 q7 k7 => ?_
  rw [← ei]
  have l7 := k7.len
  simp only [List.length_append, List.length_cons, List.length_nil] at l7
  have h06 : (H5 ++ [SO.dI []] ++ [SO.lst []])[0]? = some (.frz xs o) := app_old (app_old h05)
  have h07 := k7.keep _ _ h06 (by unfold dq; simp; lia)
  have s6 : SymAt (H5 ++ [SO.dI []] ++ [SO.lst []]) n S1 := (s5.kp (Kp.app (ch := no)) (fun _ _ _ h => h)).kp (Kp.app (ch := no)) (fun _ _ _ h => h)
  have s7 := s6.kp k7 (fun q h1 h2 h => by unfold dq at h; simp at h; lia)
  have hlk : (mp (io (ruleT j l pb b) 1 0 0) (gsh (res S1) (ruleT j l pb b) [] []).1).length < 64 := by
    rw [mp_len]
    have := (gsh_len (ρ := res S1) (t := ruleT j l pb b) (es := []) (ln := [])).2
    simp at this; lia
  have es : fSorted [.ref H5.length] H7 = some (.ref H7.length, H7 ++ [.lst (us.map fun (k : Nat) => SV.int (k : Int))]) := by
    rw [fS_at d7 hlk, hus1]
  (try with_reducible refine IsW.run ?_); (repeat (first | walk_at "ev" | simp only [es, show plainV .none = true from rfl, evA, evB, reduceCtorEq, Nat.reduceAdd, Nat.reduceLT, Nat.reduceLeDiff]))
  exact law_C (app_old h07) (by lia) (s7.kp (Kp.app (ch := no)) (fun _ _ _ h => h)) (hg.trans le1) (by lia) (le1.a ha) (hk.le le1 (ow 1 0)).1 hln hB (by lia) (by lia) (by lia) hq hvR app_at (by lia) hus2 hus3 (by lia) (by lia) h
noncomputable def d_lawA : DS :=
  (sCons (sIf (dCmp (cmpII (· == ·)) (dCall (F_law_coin) (dCons (dLoc 1) (dCons (dVal (.int 3)) dNil))) (dVal (.int 2))) (sCons (sAssign 6 (dTup (dCons (dVal (.str (Str.ofString "s"))) (dCons (dVal (.int 1)) (dCons (dTup (dCons (dLoc 6) (dCons (dCall (F_law_texts) (dCons (dLoc 1) dNil)) dNil))) dNil)))))
  sNil) sNil)
  d_lawB)
theorem d_law_eq : d_law =
  (sCons (sAssign 1 (dCall (F_law_coins) (dCons (dLoc 0) dNil)))
  (sCons (sAssign 2 (dCall (fNew 154 F_Symbols_init) dNil))
  (sCons (sAssign 3 (dCall (F_law_coin) (dCons (dLoc 1) (dCons (dVal (.int 6)) dNil))))
  (sCons (sAssign 4 (dCall (F_law_coin) (dCons (dLoc 1) (dCons (dVal (.int 3)) dNil))))
  (sCons (sAssign 5 (dCall fTuple (dCons (dComp (dRange (dCons (dLoc 4) dNil)) dTrue (dTup (dCons (dVal (.str (Str.ofString "v"))) (dCons (dCall (F_law_coin) (dCons (dLoc 1) (dCons (dVal (.int 4)) dNil))) dNil))) [1] 3000) dNil)))
  (sCons (sAssign 6 (dIf (dCmp (cmpII fun a b => decide (b < a)) (dLoc 4) (dVal (.int 0))) (dTup (dCons (dVal (.str (Str.ofString "s"))) (dCons (dMeth 154 (Str.ofString "func") (F_Symbols_func) (dLoc 2) (dCons (dVal (.str (Str.ofString "p"))) (dCons (dLoc 4) dNil))) (dCons (dLoc 5) dNil)))) (dTup (dCons (dVal (.str (Str.ofString "a"))) (dCons (dMeth 154 (Str.ofString "atom") (F_Symbols_atom) (dLoc 2) (dCons (dVal (.str (Str.ofString "p"))) dNil)) dNil)))))
  d_lawA)))))) := rfl
theorem law_A {H : Hp} {n p j : Nat} {S : Sy} {l : List XX} {f1 : Nat} {cs : List Int} {o : Obj} {xs : List SV} {z0 z4 z5 : Option SV} {Q : SV → Hp → Prop}
    (h0 : H[0]? = some (.frz xs o)) (hp0 : 0 < p) (hpn : p < n) (hS : SymAt H n S) (hg : S0.Le S) (hl : S.len < 4000) (ha : S.a cP = some j) (hk : KIn S (headT j l)) (hln : l.length ≤ 2)
    (hv : ∀ x ∈ vrs (headT j l), ∃ k, k < 4 ∧ x = Sum.inl k) (hp : H[p]? = some (.lst (cs.map .int))) (hc : cs.length < 1000)
    (h : ∀ H', H'[0]? = some (.frz xs o) → Q (.bool true) H') :
    OkS (d_lawA [z0, some (.ref p), some (.ref (n + 1)), some (.int (f1 : Int)), z4, z5, some (enc (res S) (ow 1 0) (headT j l)), none, none, none, none, none, none, none, none, none, none, none] H) (retQ Q) := by
  unfold d_lawA
  (try with_reducible refine IsW.run ?_); (repeat (first | walk_at "ev" | simp only [evA, evB, reduceCtorEq, Nat.reduceAdd, Nat.reduceLT, Nat.reduceLeDiff]))
  refine sp_coin (by lia) hp hc fun r cs1 H1 hr hp1 hc1 k1 => ?_
  have s1 := hS.kp k1 (fun q h1 h2 h => by unfold on at h; lia)
  have h01 := k1.keep _ _ h0 (by unfold on; lia)
  by_cases h2 : r = 2
  · subst h2
    (try with_reducible refine IsW.run ?_); (repeat (first | walk_at "ev" | simp only [cII, show (((2 : Nat) : Int) == 2) = true from rfl, evA, evB, reduceCtorEq, Nat.reduceAdd, Nat.reduceLT, Nat.reduceLeDiff]))
    refine sp_texts (ρ := res S) (ι := ow 1 0) (own := Sum.inl) rfl (ow10 3) hp1 (by lia) fun q cs2 H2 hne hq2 ho hp2 hc2 k2 => ?_
    have s2 := s1.kp k2 (fun q h1 h2 h => by unfold on at h; lia)
    have h02 := k2.keep _ _ h01 (by unfold on; lia)
    have e : (.tup [.str (Str.ofString "s"), .int 1, .tup [enc (res S) (ow 1 0) (headT j l), enc (res S) (ow 1 0) (lsT (q.map itm) (.a 0))]] : SV) = enc (res S) (ow 1 0) (leftT j l (some q)) := by
      show _ = enc (res S) (ow 1 0) (.s (.n 1) [headT j l, lsT (q.map itm) (.a 0)])
      simp only [enc_1, enc_2, enc_3, enc_4, encs_1, encs_2]; rfl
    (try with_reducible refine IsW.run ?_); (repeat (first | walk_at "ev" | simp only [evA, evB, reduceCtorEq, Nat.reduceAdd, Nat.reduceLT, Nat.reduceLeDiff]))
    rw [e]
    refine law_B h02 hp0 hpn s2 hg hl ha hk hln (fun q' e => by cases e; exact hq2) (fun x hx => ?_) hp2 (by lia) h
    have hx : x ∈ vrs (.s (.n 1) [headT j l, lsT (q.map itm) (.a 0)]) := hx
    simp only [vrs_1, vrs_2, vrs_3, vrs_4, vrss_1, vrss_2, vrs_ls, List.append_nil, List.mem_append] at hx
    rcases hx with hx | hx | hx
    · exact hv x hx
    · exact own_tx ho x hx
    · cases hx
  · have e2 : ((r : Int) == 2) = false := beq_eq_false_iff_ne.mpr (by lia)
    (try with_reducible refine IsW.run ?_); (repeat (first | walk_at "ev" | simp only [cII, e2, evA, evB, reduceCtorEq, Nat.reduceAdd, Nat.reduceLT, Nat.reduceLeDiff]))
    exact law_B (pb := none) h01 hp0 hpn s1 hg hl ha hk hln (fun q' e => by cases e) hv hp1 (by lia) h
theorem law_gen {H : Hp} {ns : List Int} {o : Obj} (h0 : H[0]? = some (.frz (ns.map .int) o)) (hn : ns.length < 2000) : Ok (F_law [.ref 0] H) fun v H' => v = .bool true ∧ H'[0]? = some (.frz (ns.map .int) o) := by
  unfold F_law
  rw [d_law_eq]
  have hH := at_lt h0
  (try with_reducible refine IsW.run ?_); (repeat (first | walk_at "ev" | simp only [evA, evB, reduceCtorEq, Nat.reduceAdd, Nat.reduceLT, Nat.reduceLeDiff]))
  refine sp_coins h0 hn fun cs H1 hc hp1 k1 => ?_
  have h01 := k1.keep _ _ h0 (fun h => h)
  have hp1l := at_lt hp1
  (try with_reducible refine IsW.run ?_); (repeat (first | walk_at "ev" | simp only [evA, evB, reduceCtorEq, Nat.reduceAdd, Nat.reduceLT, Nat.reduceLeDiff]))
  refine new_un (sp_symbols fun H2 s2 k2 z2 => ⟨rfl, ?_⟩)
  have h02 := k2.keep _ _ h01 (fun h => h)
  have hp2 := k2.keep _ _ hp1 (fun h => h)
  (try with_reducible refine IsW.run ?_); (repeat (first | walk_at "ev" | simp only [evA, evB, reduceCtorEq, Nat.reduceAdd, Nat.reduceLT, Nat.reduceLeDiff]))
  refine sp_coin (by lia) hp2 (by lia) fun f1 cs3 H3 hf1 hp3 hc3 k3 => ?_
  (try with_reducible refine IsW.run ?_); (repeat (first | walk_at "ev" | simp only [evA, evB, reduceCtorEq, Nat.reduceAdd, Nat.reduceLT, Nat.reduceLeDiff]))
  refine sp_coin (by lia) hp3 (by lia) fun m cs4 H4 hm hp4 hc4 k4 => ?_
  (try with_reducible refine IsW.run ?_); (repeat (first | walk_at "ev" | simp only [evA, evB, reduceCtorEq, Nat.reduceAdd, Nat.reduceLT, Nat.reduceLeDiff]))
  refine sp_vlist (ρ := res S0) (ι := ow 1 0) (own := Sum.inl) (a := 4) (ci := 1) (m := m) (H := H4) (p := H.length) (loc := [some (.ref 0), some (.ref H.length), some (.ref (H1.length + 1)), some (.int (f1 : Int)), some (.int (m : Int)), none, none, none, none, none, none, none, none, none, none, none, none, none]) (fun k _ => ow10 k) (by rfl) (by rfl) (by lia) hp4 (by lia) fun l q cs5 H5 hlen ho hq hp5 hc5 k5 => ?_
  have hql : (encs (res S0) (ow 1 0) (l.map .v)).length < 1000000 := by rw [encs_len, List.length_map]; lia
  have k25 : Kp (on H.length) H2 H5 := (k3.trans k4 (c2 := on H.length) (fun _ _ h => h) (fun _ _ h => h)).trans k5 (fun _ _ h => h) (fun _ _ h => h)
  have s5 := s2.kp k25 (fun q h1 h2 h => by unfold on at h; lia)
  have h05 := k25.keep _ _ h02 (by unfold on; lia)
  have hS0 := S0_len
  have i1 : isInst 154 (Str.ofString "func") H5 (.ref (H1.length + 1)) = true := s5.isI nl_func
  have i2 : isInst 154 (Str.ofString "atom") H5 (.ref (H1.length + 1)) = true := s5.isI nl_atom
  have hv : ∀ j : Nat, ∀ x ∈ vrs (headT j l), ∃ k, k < 4 ∧ x = Sum.inl k := fun j x hx => by
    cases l with
    | nil => cases hx
    | cons a r => exact ho x (vrss_vs.mp hx)
  by_cases hm0 : m = 0
  · have dm : decide ((0 : Int) < (m : Int)) = false := decide_eq_false (by lia)
    have hl0 : l = [] := List.eq_nil_of_length_eq_zero (by lia)
    (try with_reducible refine IsW.run ?_); (repeat (first | walk_at "ev" | simp only [wTup hq hql, cII, dm, i2, evA, evB, reduceCtorEq, Nat.reduceAdd, Nat.reduceLT, Nat.reduceLeDiff]))
    refine sp_sym_atom s5 (by lia) fun S6 j H6 s6 le6 a6 n6 e6 k6 z6 => ?_
    have e : (.tup [.str (Str.ofString "a"), .int (j : Int)] : SV) = enc (res S6) (ow 1 0) (headT j l) := by subst hl0; rfl
    rw [e]
    exact law_A (k6.keep _ _ h05 (by unfold sy; lia)) hH hp1l s6 le6 (by lia) a6 (by subst hl0; trivial) (by lia) (hv j) (k6.keep _ _ hp5 (by unfold sy; lia)) (by lia) fun H' h => ⟨rfl, h⟩
  · have dm : decide ((0 : Int) < (m : Int)) = true := decide_eq_true (by lia)
    (try with_reducible refine IsW.run ?_); (repeat (first | walk_at "ev" | simp only [wTup hq hql, cII, dm, i1, evA, evB, reduceCtorEq, Nat.reduceAdd, Nat.reduceLT, Nat.reduceLeDiff]))
    refine sp_sym_func s5 (by lia) fun S6 i j H6 s6 le6 a6 f6 n6 e6 k6 z6 => ?_
    obtain ⟨x, r, rfl⟩ : ∃ x r, l = x :: r := by cases l with | nil => simp at hlen; lia | cons x r => exact ⟨x, r, rfl⟩
    have ff : S6.f j (((x :: r).length : Nat) : Int) = some i := by rw [hlen]; exact f6
    have er : res S6 (.p (x :: r).length) = (i : Int) := res_p a6 ff
    have e : (.tup [.str (Str.ofString "s"), .int (i : Int), .tup (encs (res S0) (ow 1 0) ((x :: r).map .v))] : SV) = enc (res S6) (ow 1 0) (headT j (x :: r)) := by
      show _ = enc (res S6) (ow 1 0) (.s (.p (x :: r).length) ((x :: r).map .v))
      simp only [enc_1, enc_2, enc_3, enc_4, er]
      rw [encs_vs, encs_vs]
    rw [e]
    exact law_A (k6.keep _ _ h05 (by unfold sy; lia)) hH hp1l s6 le6 (by lia) a6 ⟨⟨j, i, a6, ff⟩, KIns.vs⟩ (by lia) (hv j) (k6.keep _ _ hp5 (by unfold sy; lia)) (by lia) fun H' h => ⟨rfl, h⟩
theorem plain_law (ns : List Int) (o : Obj) (hn : ns.length ≤ 63) : ∃ H', F_law [.ref 0] [.frz (ns.map .int) o] = some (.bool true, H') ∧ H'[0]? = some (.frz (ns.map .int) o) := by
  obtain ⟨v, H', e, rfl, h⟩ := ok_iff.mp (law_gen (H := [.frz (ns.map .int) o]) (ns := ns) (o := o) rfl (by lia))
  exact ⟨H', e, h⟩
end Mine.Internal
end
set_option maxHeartbeats 8000000 in
theorem PySem.Challenge.cw_sa0150_01_holds : PySem.Challenge.rw_sa0150_01.Holds :=
  Mine.Internal.join fun ns o h => Mine.Internal.plain_law ns o h
