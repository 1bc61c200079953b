import PyProof.Rows.All
import Wide.All
import OpenK.AllK
import Wide.FinOn
import HandS.ForMost
import HandS.Exc
import HandS.ExcOwn
import HandS.TryOnly
import HandS.TupAny
import HandS.Wide
import HandS.TupMul
import HandS.Style
import HandS.IsInst
import HandS.Text
import HandS.Iter
import HandS.Comp
import PyProof.ListStr
import PyProof.CallFns
import HandS.ExcIs
import PyProof.ReprRoads
import HandS.Ends
import Wide.Loose
import KE.KIntText
import PyProof.Rows.ReprOcc
import PySem.Challenge.RW_gasahead_k61_rows_and_digests
set_option Elab.async false
set_option linter.all false
set_option maxRecDepth 100000
set_option maxHeartbeats 4000000
/-! Fl: functional readings. Values D are trees, mutable things stand in a store; a piece of syntax has a reading that is a plain function. -/
namespace Fl
open PySem PySem.Spec PyProof.Rows L2
abbrev Fg := PySem.W.Frag

inductive D where
  | non | bl (b : Bool) | int (i : Int) | str (x : Str)
  | tup (xs : List D) | lst (xs : List D) | frz (xs : List D)
  | loc (l : Nat) | obj (a : Addr)
  deriving Inhabited
inductive SO where
  | lst (xs : List D)
  | dK (kvs : List (Key × D))
  | dT (kvs : List (List Key × D))
  | ins (C : Addr) (fs : List (Str × D))
  deriving Inhabited
abbrev Store := List SO
abbrev Env := List (Option D)
/-- an exception: its class's name, its fields -/
structure Ex where
  cls : Str
  fs : List (Str × D)
inductive R (α : Type) where
  | ok (d : α) (st : Store)
  | exc (e : Ex) (st : Store)
  | stuck
inductive Fw where
  | nx (env : Env) (st : Store)
  | rt (d : D) (st : Store)
  | bk (env : Env) (st : Store)
  | ct (env : Env) (st : Store)
  | exc (e : Ex) (env : Env) (st : Store)
  | stuck
def R.bind {α β : Type} (r : R α) (k : α → Store → R β) : R β := match r with
  | .ok d st => k d st
  | .exc e st => .exc e st
  | .stuck => .stuck
@[simp] theorem R.bind_ok {α β : Type} (d : α) (st : Store) (k : α → Store → R β) : (R.ok d st).bind k = k d st := rfl
@[simp] theorem R.bind_exc {α β : Type} (e : Ex) (st : Store) (k : α → Store → R β) : (R.exc e st : R α).bind k = .exc e st := rfl
@[simp] theorem R.bind_stuck {α β : Type} (k : α → Store → R β) : (R.stuck : R α).bind k = .stuck := rfl

/-! ### the relation of values -/
def KTup (K : Fg) (a : Addr) (vs : List V) : Prop :=
  ∃ (o : Obj) (its : Array Value) (n : Nat), K.lookup a = some o ∧ o.cls = .type "tuple" ∧ o.data = .seq its n ∧ its.size ≤ sizeLine ∧ Vals vs its.toList
mutual
inductive RV (K : Fg) (ρ : List Addr) (H : Hp) : D → V → Prop
  | non : RV K ρ H .non .non
  | bl (b : Bool) : RV K ρ H (.bl b) (.bl b)
  | int (i : Int) : RV K ρ H (.int i) (.int i)
  | str (x : Str) : RV K ρ H (.str x) (.str x)
  | tup {a : Addr} {xs : List D} {vs : List V} : (a ∉ ρ ∧ H a = some (.tup vs)) ∨ KTup K a vs → RVs K ρ H xs vs → RV K ρ H (.tup xs) (.ref a)
  | lst {a : Addr} {xs : List D} {vs : List V} : a ∉ ρ → H a = some (.lst vs) → RVs K ρ H xs vs → RV K ρ H (.lst xs) (.ref a)
  | frz {a : Addr} {xs : List D} {vs : List V} : (a ∉ ρ ∧ ∃ o, H a = some (.frz o (.lst vs))) ∨ SqL K (fun _ => none) a vs → RVs K ρ H xs vs → RV K ρ H (.frz xs) (.ref a)
  | loc {l : Nat} {a : Addr} : ρ[l]? = some a → RV K ρ H (.loc l) (.ref a)
  | obj {a : Addr} : RV K ρ H (.obj a) (.ref a)
inductive RVs (K : Fg) (ρ : List Addr) (H : Hp) : List D → List V → Prop
  | nil : RVs K ρ H [] []
  | cons {d : D} {ds : List D} {v : V} {vs : List V} : RV K ρ H d v → RVs K ρ H ds vs → RVs K ρ H (d :: ds) (v :: vs)
end
structure Ext (ρ : List Addr) (H : Hp) (ρ' : List Addr) (H' : Hp) : Prop where
  pre : ρ <+: ρ'
  keep : ∀ a o, a ∉ ρ → H a = some o → H' a = some o
  new : ∀ a ∈ ρ', a ∉ ρ → H a = none
section
variable {K : Fg} {ρ ρ' ρ1 ρ2 : List Addr} {H H' H1 H2 : Hp} {d : D} {ds es : List D} {v : V} {vs us : List V} {a : Addr} {o : HO}
theorem Ext.refl : Ext ρ H ρ H := ⟨List.prefix_refl _, fun _ _ _ h => h, fun _ h n => absurd h n⟩
theorem Ext.trans (x : Ext ρ H ρ1 H1) (y : Ext ρ1 H1 ρ2 H2) : Ext ρ H ρ2 H2 := by
  have keep1 : ∀ a o, a ∉ ρ → H a = some o → a ∉ ρ1 := fun a o n h m => by
    have := x.new a m n
    rw [h] at this; cases this
  refine ⟨x.pre.trans y.pre, fun a o n h => y.keep a o (keep1 a o n h) (x.keep a o n h), fun a m n => ?_⟩
  by_cases h1 : a ∈ ρ1
  · exact x.new a h1 n
  · have e := y.new a m h1
    cases q : H a with
    | none => rfl
    | some u =>
      have := x.keep a u n q
      rw [e] at this; cases this
theorem Ext.out (x : Ext ρ H ρ' H') (n : a ∉ ρ) (h : H a = some o) : a ∉ ρ' := fun m => by
  have := x.new a m n
  rw [h] at this; cases this
mutual
theorem RV.ext (x : Ext ρ H ρ' H') : ∀ {d : D} {v : V}, RV K ρ H d v → RV K ρ' H' d v
  | _, _, .non => .non
  | _, _, .bl b => .bl b
  | _, _, .int i => .int i
  | _, _, .str s => .str s
  | _, _, .tup h r => .tup (h.imp (fun ⟨n, e⟩ => ⟨x.out n e, x.keep _ _ n e⟩) fun q => q) (RVs.ext x r)
  | _, _, .lst n e r => .lst (x.out n e) (x.keep _ _ n e) (RVs.ext x r)
  | _, _, .frz h r => .frz (h.imp (fun ⟨n, o, e⟩ => ⟨x.out n e, o, x.keep _ _ n e⟩) fun q => q) (RVs.ext x r)
  | _, _, .loc e => .loc (by
    obtain ⟨t, ht⟩ := x.pre
    rw [← ht, List.getElem?_append_left]
    · exact e
    · exact (List.getElem?_eq_some_iff.mp e).1)
  | _, _, .obj => .obj
theorem RVs.ext (x : Ext ρ H ρ' H') : ∀ {ds : List D} {vs : List V}, RVs K ρ H ds vs → RVs K ρ' H' ds vs
  | _, _, .nil => .nil
  | _, _, .cons r t => .cons (RV.ext x r) (RVs.ext x t)
end
theorem RVs.length : ∀ {ds : List D} {vs : List V}, RVs K ρ H ds vs → ds.length = vs.length
  | _, _, .nil => rfl
  | _, _, .cons _ t => by rw [List.length_cons, List.length_cons, RVs.length t]
theorem RVs.get : ∀ {ds : List D} {vs : List V} {i : Nat} {d : D}, RVs K ρ H ds vs → ds[i]? = some d → ∃ v, vs[i]? = some v ∧ RV K ρ H d v
  | _, _, _, _, .nil, e => by simp at e
  | _, _, 0, _, .cons r _, e => by simp at e; subst e; exact ⟨_, rfl, r⟩
  | _, _, i + 1, d, .cons _ t, e => by
    obtain ⟨u, h1, h2⟩ := RVs.get (i := i) (d := d) t (by simpa using e)
    exact ⟨u, by simpa using h1, h2⟩
theorem RVs.get' : ∀ {ds : List D} {vs : List V} {i : Nat} {v : V}, RVs K ρ H ds vs → vs[i]? = some v → ∃ d, ds[i]? = some d ∧ RV K ρ H d v
  | _, _, _, _, .nil, e => by simp at e
  | _, _, 0, _, .cons r _, e => by simp at e; subst e; exact ⟨_, rfl, r⟩
  | _, _, i + 1, v, .cons _ t, e => by
    obtain ⟨u, h1, h2⟩ := RVs.get' (i := i) (v := v) t (by simpa using e)
    exact ⟨u, by simpa using h1, h2⟩
theorem RVs.append : ∀ {ds es : List D} {vs us : List V}, RVs K ρ H ds vs → RVs K ρ H es us → RVs K ρ H (ds ++ es) (vs ++ us)
  | _, _, _, _, .nil, s => s
  | _, _, _, _, .cons r t, s => .cons r (RVs.append t s)
theorem RVs.take : ∀ {ds : List D} {vs : List V} (n : Nat), RVs K ρ H ds vs → RVs K ρ H (ds.take n) (vs.take n)
  | _, _, 0, _ => .nil
  | _, _, _ + 1, .nil => .nil
  | _, _, n + 1, .cons r t => .cons r (RVs.take n t)
theorem RVs.drop : ∀ {ds : List D} {vs : List V} (n : Nat), RVs K ρ H ds vs → RVs K ρ H (ds.drop n) (vs.drop n)
  | _, _, 0, r => r
  | _, _, _ + 1, .nil => .nil
  | _, _, n + 1, .cons _ t => RVs.drop n t
theorem RVs.set {v : V} {d : D} (r : RV K ρ H d v) : ∀ {ds : List D} {vs : List V} (i : Nat), RVs K ρ H ds vs → RVs K ρ H (ds.set i d) (vs.set i v)
  | _, _, _, .nil => .nil
  | _, _, 0, .cons _ t => .cons r t
  | _, _, i + 1, .cons q t => .cons q (RVs.set r i t)
theorem RVs.one (r : RV K ρ H d v) : RVs K ρ H [d] [v] := .cons r .nil
theorem RVs.reverse : ∀ {ds : List D} {vs : List V}, RVs K ρ H ds vs → RVs K ρ H ds.reverse vs.reverse
  | _, _, .nil => .nil
  | _, _, .cons r t => by
    rw [List.reverse_cons, List.reverse_cons]
    exact (RVs.reverse t).append (.one r)
theorem RVs.dropLast {ds : List D} {vs : List V} (r : RVs K ρ H ds vs) : RVs K ρ H ds.dropLast vs.dropLast := by
  rw [List.dropLast_eq_take, List.dropLast_eq_take, r.length]
  exact r.take _
theorem RVs.rep {ds : List D} {vs : List V} (r : RVs K ρ H ds vs) : ∀ n : Nat, RVs K ρ H (List.replicate n ds).flatten (List.replicate n vs).flatten
  | 0 => .nil
  | n + 1 => by
    rw [List.replicate_succ, List.replicate_succ, List.flatten_cons, List.flatten_cons]
    exact r.append (RVs.rep r n)
theorem RV.sqT {a : Addr} {xs : List D} (r : RV K ρ H (.tup xs) (.ref a)) : ∃ vs, SqT K H a vs ∧ RVs K ρ H xs vs := by
  cases r with
  | tup h r =>
    refine ⟨_, ?_, r⟩
    rcases h with ⟨_, e⟩ | e
    · exact .inl (.inl e)
    · exact .inr e
end

/-! ### the store -/
inductive KVs (K : Fg) (ρ : List Addr) (H : Hp) {κ : Type} : List (κ × D) → List (κ × V) → Prop
  | nil : KVs K ρ H [] []
  | cons {k : κ} {d : D} {v : V} {ds : List (κ × D)} {vs : List (κ × V)} : RV K ρ H d v → KVs K ρ H ds vs → KVs K ρ H ((k, d) :: ds) ((k, v) :: vs)
def OR (K : Fg) (ρ : List Addr) (H : Hp) (a : Addr) : SO → Prop
  | .lst xs => ∃ vs, H a = some (.lst vs) ∧ RVs K ρ H xs vs
  | .dK kvs => ∃ ws, H a = some (.dK ws) ∧ KVs K ρ H kvs ws
  | .dT kvs => ∃ ws, H a = some (.dT ws) ∧ KVs K ρ H kvs ws
  | .ins C fs => ∃ dx gs, H a = some (.ins C dx gs) ∧ KVs K ρ H fs gs
structure Rel (K : Fg) (ρ : List Addr) (st : Store) (H : Hp) : Prop where
  nd : ρ.Nodup
  len : ρ.length = st.length
  at_ : ∀ (l : Nat) (a : Addr) (o : SO), ρ[l]? = some a → st[l]? = some o → OR K ρ H a o
def REnv (K : Fg) (ρ : List Addr) (H : Hp) (env : Env) (σ : L2.St) : Prop :=
  env.length = σ.length ∧ ∀ (i : Nat) (d : D), env[i]? = some (some d) → ∃ v, σ[i]? = some (some v) ∧ RV K ρ H d v
section
variable {K : Fg} {ρ ρ' : List Addr} {H H' : Hp} {st st' : Store} {d : D} {v : V} {a : Addr} {o : HO} {env : Env} {σ : L2.St} {l : Nat}
theorem KVs.ext {κ : Type} (x : Ext ρ H ρ' H') : ∀ {ds : List (κ × D)} {vs : List (κ × V)}, KVs K ρ H ds vs → KVs K ρ' H' ds vs
  | _, _, .nil => .nil
  | _, _, .cons r t => .cons (r.ext x) (KVs.ext x t)
theorem OR.some {so : SO} (h : OR K ρ H a so) : ∃ u, H a = some u := by
  cases so with
  | lst _ => obtain ⟨_, e, _⟩ := h; exact ⟨_, e⟩
  | dK _ => obtain ⟨_, e, _⟩ := h; exact ⟨_, e⟩
  | dT _ => obtain ⟨_, e, _⟩ := h; exact ⟨_, e⟩
  | ins _ _ => obtain ⟨_, _, e, _⟩ := h; exact ⟨_, e⟩
theorem OR.ext {so : SO} (x : Ext ρ H ρ' H') (e : H' a = H a) (h : OR K ρ H a so) : OR K ρ' H' a so := by
  cases so with
  | lst _ => obtain ⟨vs, e1, r⟩ := h; exact ⟨vs, e.trans e1, r.ext x⟩
  | dK _ => obtain ⟨vs, e1, r⟩ := h; exact ⟨vs, e.trans e1, r.ext x⟩
  | dT _ => obtain ⟨vs, e1, r⟩ := h; exact ⟨vs, e.trans e1, r.ext x⟩
  | ins _ _ => obtain ⟨dx, gs, e1, r⟩ := h; exact ⟨dx, gs, e.trans e1, r.ext x⟩
theorem Rel.obj (R : Rel K ρ st H) (h : a ∈ ρ) : ∃ u, H a = some u := by
  obtain ⟨l, hl, e⟩ := List.mem_iff_getElem.mp h
  have e' : ρ[l]? = some a := by rw [List.getElem?_eq_getElem hl, e]
  have hs : l < st.length := by rw [← R.len]; exact hl
  exact (R.at_ l a st[l] e' (List.getElem?_eq_getElem hs)).some
theorem Rel.notin (R : Rel K ρ st H) (h : H a = none) : a ∉ ρ := fun m => by
  obtain ⟨u, e⟩ := R.obj m
  rw [h] at e; cases e
theorem Rel.loc (R : Rel K ρ st H) {so : SO} (h : st[l]? = some so) : ∃ a, ρ[l]? = some a ∧ OR K ρ H a so := by
  have hl : l < ρ.length := by rw [R.len]; exact (List.getElem?_eq_some_iff.mp h).1
  exact ⟨ρ[l], List.getElem?_eq_getElem hl, R.at_ l _ _ (List.getElem?_eq_getElem hl) h⟩
/-- something else is laid -/
theorem Ext.fresh (R : Rel K ρ st H) (h : H a = none) (o : HO) : Ext ρ H ρ (upd H a o) :=
  ⟨List.prefix_refl _, fun b u _ e => by rw [upd_ne (ne_of_none e h)]; exact e, fun _ m n => absurd m n⟩
theorem Rel.fresh (R : Rel K ρ st H) (h : H a = none) (o : HO) : Rel K ρ st (upd H a o) := by
  refine ⟨R.nd, R.len, fun l b so e1 e2 => (R.at_ l b so e1 e2).ext (Ext.fresh R h o) ?_⟩
  obtain ⟨u, e⟩ := (R.at_ l b so e1 e2).some
  exact upd_ne (ne_of_none e h)
/-- an object is written -/
theorem Ext.write (R : Rel K ρ st H) (h : ρ[l]? = some a) (o : HO) : Ext ρ H ρ (upd H a o) :=
  ⟨List.prefix_refl _, fun b u n e => by
    rw [upd_ne (fun z => n (by rw [z]; exact List.mem_of_getElem? h))]; exact e, fun _ m n => absurd m n⟩
theorem nodup_at {ρ : List Addr} (nd : ρ.Nodup) {i j : Nat} {a : Addr} (h1 : ρ[i]? = some a) (h2 : ρ[j]? = some a) : i = j := by
  obtain ⟨hi, e1⟩ := List.getElem?_eq_some_iff.mp h1
  obtain ⟨hj, e2⟩ := List.getElem?_eq_some_iff.mp h2
  have p := List.pairwise_iff_getElem.mp nd
  rcases Nat.lt_trichotomy i j with h | h | h
  · exact absurd (e1.trans e2.symm) (p i j hi hj h)
  · exact h
  · exact absurd (e2.trans e1.symm) (p j i hj hi h)
theorem Rel.write (R : Rel K ρ st H) (h : ρ[l]? = some a) {o : HO} {so : SO} (hl : l < st.length) (n : OR K ρ (upd H a o) a so) : Rel K ρ (st.set l so) (upd H a o) := by
  refine ⟨R.nd, by rw [List.length_set]; exact R.len, fun m b so' e1 e2 => ?_⟩
  by_cases hm : m = l
  · subst hm
    rw [h] at e1; cases e1
    rw [List.getElem?_set_self hl] at e2
    cases e2
    exact n
  · rw [List.getElem?_set_ne (Ne.symm hm)] at e2
    refine (R.at_ m b so' e1 e2).ext (Ext.write R h o) (upd_ne fun z => hm ?_)
    subst z
    exact nodup_at R.nd e1 h
/-- a new object -/
theorem Ext.alloc (R : Rel K ρ st H) (h : H a = none) (o : HO) : Ext ρ H (ρ ++ [a]) (upd H a o) :=
  ⟨List.prefix_append _ _, fun b u _ e => by rw [upd_ne (ne_of_none e h)]; exact e, fun b m n => by
    rcases List.mem_append.mp m with m | m
    · exact absurd m n
    · rw [List.mem_singleton.mp m]; exact h⟩
theorem Rel.alloc (R : Rel K ρ st H) (h : H a = none) {o : HO} {so : SO} (n : OR K (ρ ++ [a]) (upd H a o) a so) : Rel K (ρ ++ [a]) (st ++ [so]) (upd H a o) := by
  have x := Ext.alloc R h o
  refine ⟨?_, by rw [List.length_append, List.length_append, R.len]; rfl, fun m b so' e1 e2 => ?_⟩
  · refine List.nodup_append.mpr ⟨R.nd, by simp, fun b hb c hc e => ?_⟩
    rw [List.mem_singleton.mp hc] at e
    subst e
    exact R.notin h hb
  · by_cases hm : m < ρ.length
    · rw [List.getElem?_append_left hm] at e1
      rw [List.getElem?_append_left (by rw [← R.len]; exact hm)] at e2
      obtain ⟨u, e⟩ := (R.at_ m b so' e1 e2).some
      exact (R.at_ m b so' e1 e2).ext x (upd_ne (ne_of_none e h))
    · have e : m = ρ.length := by
        have := (List.getElem?_eq_some_iff.mp e1).1
        rw [List.length_append, List.length_singleton] at this
        omega
      subst e
      rw [List.getElem?_append_right (Nat.le_refl _), Nat.sub_self] at e1
      rw [R.len, List.getElem?_append_right (Nat.le_refl _), Nat.sub_self] at e2
      cases e1; cases e2
      exact n
theorem loc_new (R : Rel K ρ st H) (h : H a = none) (o : HO) : RV K (ρ ++ [a]) (upd H a o) (.loc st.length) (.ref a) := by
  refine .loc ?_
  rw [← R.len, List.getElem?_append_right (Nat.le_refl _), Nat.sub_self]
  rfl
theorem REnv.ext (x : Ext ρ H ρ' H') (h : REnv K ρ H env σ) : REnv K ρ' H' env σ :=
  ⟨h.1, fun i d e => let ⟨v, e1, r⟩ := h.2 i d e; ⟨v, e1, r.ext x⟩⟩
theorem REnv.set (h : REnv K ρ H env σ) (i : Nat) (r : RV K ρ H d v) : REnv K ρ H (env.set i (some d)) (σ.set i (some v)) := by
  refine ⟨by rw [List.length_set, List.length_set]; exact h.1, fun j d' e => ?_⟩
  by_cases hj : j = i
  · subst hj
    have hl : j < env.length := by
      have := (List.getElem?_eq_some_iff.mp e).1
      rwa [List.length_set] at this
    rw [List.getElem?_set_self hl] at e
    cases e
    exact ⟨v, List.getElem?_set_self (by rw [← h.1]; exact hl), r⟩
  · rw [List.getElem?_set_ne (Ne.symm hj)] at e
    rw [List.getElem?_set_ne (Ne.symm hj)]
    exact h.2 j d' e
end
end Fl
namespace Fl
open PySem PySem.Spec PyProof.Rows L2
abbrev FE := Env → Store → R D
abbrev FA := Env → Store → R (List D)
abbrev FS := Env → Store → Fw
abbrev Mg := Str → Option Value

def ExcR (K : Fg) (mg : Mg) (ρ : List Addr) (H : Hp) (e : Ex) (cls : Value) (dx : Option Addr) : Prop :=
  ∃ C, mg e.cls = some (.ref C) ∧ cls = .ref C ∧ ((e.fs = [] ∧ dx = none) ∨ ∃ d gs, e.fs ≠ [] ∧ dx = some d ∧ d ∉ ρ ∧ H d = some (.xd gs) ∧ KVs K ρ H e.fs gs)
/-- what a result gives behind ρ, H -/
def OkR {α β : Type} (K : Fg) (mg : Mg) (rel : List Addr → Hp → α → β → Prop) (W : WX) (ρ : List Addr) (H : Hp) (σ : L2.St) (r : R α) (Q : β → Hp → Prop) : Prop :=
  match r with
  | .ok d st' => ∀ ρ' H' v, Ext ρ H ρ' H' → Rel K ρ' st' H' → rel ρ' H' d v → Q v H'
  | .exc e st' => ∀ ρ' H' cls dx, Ext ρ H ρ' H' → Rel K ρ' st' H' → ExcR K mg ρ' H' e cls dx → W cls dx σ H'
  | .stuck => False
def OkS (K : Fg) (mg : Mg) (W : WX) (ρ : List Addr) (H : Hp) (r : Fw) (X : Ends) : Prop :=
  match r with
  | .nx env' st' => ∀ ρ' H' σ', Ext ρ H ρ' H' → Rel K ρ' st' H' → REnv K ρ' H' env' σ' → X.nx σ' H'
  | .rt d st' => ∀ ρ' H' v, Ext ρ H ρ' H' → Rel K ρ' st' H' → RV K ρ' H' d v → X.rt v H'
  | .bk env' st' => ∀ ρ' H' σ', Ext ρ H ρ' H' → Rel K ρ' st' H' → REnv K ρ' H' env' σ' → X.bk σ' H'
  | .ct env' st' => ∀ ρ' H' σ', Ext ρ H ρ' H' → Rel K ρ' st' H' → REnv K ρ' H' env' σ' → X.ct σ' H'
  | .exc e env' st' => ∀ ρ' H' σ' cls dx, Ext ρ H ρ' H' → Rel K ρ' st' H' → REnv K ρ' H' env' σ' → ExcR K mg ρ' H' e cls dx → W cls dx σ' H'
  | .stuck => False
def rdE (K : Fg) (mg : Mg) (W : WX) (f : FE) : TE := fun σ H Q => ∃ ρ st env, Rel K ρ st H ∧ REnv K ρ H env σ ∧ OkR K mg (RV K) W ρ H σ (f env st) Q
def rdA (K : Fg) (mg : Mg) (W : WX) (f : FA) : TA := fun σ H Q => ∃ ρ st env, Rel K ρ st H ∧ REnv K ρ H env σ ∧ OkR K mg (RVs K) W ρ H σ (f env st) Q
def rdT (K : Fg) (mg : Mg) (W : WX) (f : Env → Store → R Bool) : TT := fun σ H Q => ∃ ρ st env, Rel K ρ st H ∧ REnv K ρ H env σ ∧ OkR K mg (fun _ _ a b => a = b) W ρ H σ (f env st) Q
def rdS (K : Fg) (mg : Mg) (W : WX) (g : FS) : TS := fun X σ H => ∃ ρ st env, Rel K ρ st H ∧ REnv K ρ H env σ ∧ OkS K mg W ρ H (g env st) X
section
variable {K : Fg} {mg : Mg} {W : WX} {ρ ρ' : List Addr} {H H' : Hp} {σ : L2.St} {st : Store} {env : Env} {X Y : Ends}
theorem OkR.ext {α β : Type} {rel : List Addr → Hp → α → β → Prop} {r : R α} {Q : β → Hp → Prop} (x : Ext ρ H ρ' H') (h : OkR K mg rel W ρ H σ r Q) : OkR K mg rel W ρ' H' σ r Q := by
  cases r with
  | ok d st => exact fun _ _ _ y => h _ _ _ (x.trans y)
  | exc e st => exact fun _ _ _ _ y => h _ _ _ _ (x.trans y)
  | stuck => exact h
theorem OkR.imp {α β : Type} {rel : List Addr → Hp → α → β → Prop} {r : R α} {Q Q' : β → Hp → Prop} (h : OkR K mg rel W ρ H σ r Q) (i : ∀ v H, Q v H → Q' v H) : OkR K mg rel W ρ H σ r Q' := by
  cases r with
  | ok d st => exact fun _ _ _ x y z => i _ _ (h _ _ _ x y z)
  | exc e st => exact h
  | stuck => exact h
theorem OkS.ext {r : Fw} (x : Ext ρ H ρ' H') (h : OkS K mg W ρ H r X) : OkS K mg W ρ' H' r X := by
  cases r with
  | nx _ _ => exact fun _ _ _ y => h _ _ _ (x.trans y)
  | rt _ _ => exact fun _ _ _ y => h _ _ _ (x.trans y)
  | bk _ _ => exact fun _ _ _ y => h _ _ _ (x.trans y)
  | ct _ _ => exact fun _ _ _ y => h _ _ _ (x.trans y)
  | exc _ _ _ => exact fun _ _ _ _ _ y => h _ _ _ _ _ (x.trans y)
  | stuck => exact h
/-- a first result, then another -/
theorem OkR.bind {α β γ δ : Type} {rel1 : List Addr → Hp → α → β → Prop} {rel2 : List Addr → Hp → γ → δ → Prop} {r : R α} {k : α → Store → R γ} {Q : δ → Hp → Prop} {P : β → Hp → Prop}
    (h : OkR K mg rel2 W ρ H σ (r.bind k) Q)
    (i : ∀ ρ1 H1 st1 d v, Ext ρ H ρ1 H1 → Rel K ρ1 st1 H1 → rel1 ρ1 H1 d v → OkR K mg rel2 W ρ1 H1 σ (k d st1) Q → P v H1) : OkR K mg rel1 W ρ H σ r P := by
  cases r with
  | ok d st => exact fun ρ1 H1 v x y z => i ρ1 H1 st d v x y z (OkR.ext x h)
  | exc e st => exact h
  | stuck => exact h
end
theorem peI {X : Cx} {e : Expr} {t t' : TE} (h : PE X e t) (i : ∀ σ H Q, t' σ H Q → t σ H Q) : PE X e t' := ⟨fun pins s σ H Q I q => h.run pins s σ H Q I (i _ _ _ q)⟩
theorem ptI {X : Cx} {e : Expr} {t t' : TT} (h : PT X e t) (i : ∀ σ H Q, t' σ H Q → t σ H Q) : PT X e t' := ⟨fun pins s σ H Q I q => h.run pins s σ H Q I (i _ _ _ q)⟩
theorem paI {X : Cx} {e : List Expr} {t t' : TA} (h : PA X e t) (i : ∀ σ H Q, t' σ H Q → t σ H Q) : PA X e t' := ⟨fun pos pins s σ H Q I q => h.run pos pins s σ H Q I (i _ _ _ q)⟩
theorem psI {X : Cx} {e : Stmt} {t t' : TS} (h : PS X e t) (i : ∀ D σ H, t' D σ H → t D σ H) : PS X e t' := ⟨fun pins s σ H D I q => h.run pins s σ H D I (i _ _ _ q)⟩
theorem pssI {X : Cx} {e : List Stmt} {t t' : TS} (h : PSs X e t) (i : ∀ D σ H, t' D σ H → t D σ H) : PSs X e t' := ⟨fun pins s σ H D I q => h.run pins s σ H D I (i _ _ _ q)⟩
abbrev PF (X : Cx) (W : WX) (e : Expr) (f : FE) : Prop := PE X e (rdE X.K X.mg W f)
abbrev PFA (X : Cx) (W : WX) (es : List Expr) (f : FA) : Prop := PA X es (rdA X.K X.mg W f)
/-- a test's reading by its value's -/
def fT (f : FE) : Env → Store → R Bool := fun env st => (f env st).bind fun d st => match d with
  | .bl b => .ok b st
  | _ => .stuck
abbrev PFT (X : Cx) (W : WX) (e : Expr) (f : FE) : Prop := PT X e (rdT X.K X.mg W (fT f))
abbrev PFS (X : Cx) (W : WX) (s : Stmt) (g : FS) : Prop := PS X s (rdS X.K X.mg W g)
abbrev PFB (X : Cx) (W : WX) (s : List Stmt) (g : FS) : Prop := PSs X s (rdS X.K X.mg W g)
/-- the room that the rules ask of a context -/
structure Gx (X : Cx) : Prop where
  un : X.A.units + 200 < cLine
  nd : X.N.Nodup
  gd : X.A.guards = some []

/-! ### names and constants -/
section
variable {X : Cx} {W : WX} {pos : Pos}
def fVar (i : Nat) : FE := fun env st => match env[i]? with
  | some (some d) => .ok d st
  | _ => .stuck
def fC (d : D) : FE := fun _ st => .ok d st
theorem pf_var (i : Nat) {x : Str} (hN : X.N[i]? = some x := by rfl) (hv : Vis X.env.scope x := by first | exact Or.inl rfl | exact Or.inr (Or.inl rfl) | exact Or.inr (Or.inr rfl))
    (hd : (x == ("__debug__" : Str)) = false := by decide) (hcd : (x == ("__classdict__" : Str)) = false := by decide) : PF X W (.Name x pos) (fVar i) :=
  peI (pe_var hN hv hd hcd) fun σ H Q ⟨ρ, st, env, R, E, h⟩ => by
    unfold fVar at h
    split at h
    · rename_i d e
      obtain ⟨v, e1, r⟩ := E.2 i d e
      exact ⟨v, e1, h ρ H v .refl R r⟩
    · exact h.elim
theorem pf_const {e : Expr} {d : D} {v : V} (h : PE X e (tC v)) (r : ∀ ρ H, RV X.K ρ H d v) : PF X W e (fC d) :=
  peI h fun σ H Q ⟨ρ, st, env, R, E, h⟩ => h ρ H v .refl R (r ρ H)
theorem pf_int {i j} : PF X W (.Constant (.int i) j pos) (fC (.int i)) := pf_const pe_int fun _ _ => .int i
theorem pf_bl {b j} : PF X W (.Constant (.bool b) j pos) (fC (.bl b)) := pf_const pe_bl fun _ _ => .bl b
theorem pf_non {j} : PF X W (.Constant .none j pos) (fC .non) := pf_const pe_non fun _ _ => .non
theorem pf_str {x j} : PF X W (.Constant (.str x) j pos) (fC (.str x)) := pf_const pe_str fun _ _ => .str x
/-- a constant of the module: its value, and that it is read so at every heap -/
def KC (K : Fg) (mg : Mg) (x : Str) (d : D) : Prop := ∃ u v, mg x = some u ∧ RelV v u ∧ ∀ ρ H, RV K ρ H d v
theorem pf_glob {x : Str} {d : D} (c : KC X.K X.mg x d) (hg : Gl X x := by rfl) (hd : (x == ("__debug__" : Str)) = false := by decide) : PF X W (.Name x pos) (fC d) := by
  obtain ⟨u, v, h1, h2, h3⟩ := c
  exact pf_const (pe_glob hg h1 h2 hd) h3

/-! ### operators -/
abbrev Op2 := D → D → Store → R D
def fBin (o : Op2) (f g : FE) : FE := fun env st => (f env st).bind fun x st1 => (g env st1).bind fun y st2 => o x y st2
def OpS (X : Cx) (r : R2) (o : Op2) : Prop := ∀ (W : WX) (ρ : List Addr) (st : Store) (H : Hp) (σ : L2.St) (x y : D) (vx vy : V) (Q : VK), Rel X.K ρ st H → RV X.K ρ H x vx → RV X.K ρ H y vy →
  OkR X.K X.mg (RV X.K) W ρ H σ (o x y st) Q → r vx vy H Q
variable {a b c : Expr} {f g k : FE} {o : Op2} {r : R2}
theorem tOp_of (os : OpS X r o) {σ : L2.St} {H : Hp} {Q : VK} (h : rdE X.K X.mg W (fBin o f g) σ H Q) : tOp r (rdE X.K X.mg W f) (rdE X.K X.mg W g) σ H Q := by
  obtain ⟨ρ, st, env, R, E, h⟩ := h
  refine ⟨ρ, st, env, R, E, OkR.bind h fun ρ1 H1 st1 d v x1 R1 r1 h1 => ?_⟩
  refine ⟨ρ1, st1, env, R1, E.ext x1, OkR.bind h1 fun ρ2 H2 st2 d2 v2 x2 R2 r2 h2 => ?_⟩
  exact os W ρ2 st2 H2 σ d d2 v v2 Q R2 (r1.ext x2) r2 h2
theorem pf_op {op : Operator} (ho : OpR X (binaryOp op) r) (os : OpS X r o) (ha : PF X W a f) (hb : PF X W b g) : PF X W (.BinOp a op b pos) (fBin o f g) :=
  peI (pe_op ho ha hb) fun _ _ _ h => tOp_of os h
theorem pf_cmp {op : CmpOp} (ho : OpR X (compareOp op) r) (os : OpS X r o) (ha : PF X W a f) (hb : PF X W b g) (hm : behindInMarks op b = false) : PF X W (.Compare a [op] [b] pos) (fBin o f g) :=
  peI (pe_cmpR ho ha hb hm) fun _ _ _ h => tOp_of os h
theorem fT_of {σ : L2.St} {H : Hp} {t : TE} {Q : Bool → Hp → Prop} (i : ∀ Q, rdE X.K X.mg W f σ H Q → t σ H Q) (h : rdT X.K X.mg W (fT f) σ H Q) : tTest t σ H Q := by
  obtain ⟨ρ, st, env, R, E, h⟩ := h
  refine i _ ⟨ρ, st, env, R, E, OkR.bind h fun ρ1 H1 st1 d v x1 R1 r1 h1 => ?_⟩
  cases r1 with
  | bl b => exact ⟨b, rfl, h1 ρ1 H1 b .refl R1 rfl⟩
  | _ => exact h1.elim
theorem pt_cm {op : CmpOp} (ho : OpR X (compareOp op) r) (os : OpS X r o) (ha : PF X W a f) (hb : PF X W b g) (hm : behindInMarks op b = false) : PFT X W (.Compare a [op] [b] pos) (fBin o f g) :=
  ptI (pt_cmpR ho ha hb hm) fun _ _ _ h => fT_of (fun _ h => tOp_of os h) h
/-- any expression whose test is plain -/
theorem pt_pl {e : Expr} (h : PF X W e f) (he : ∀ whole, isTrue e X.env whole = (do let v ← whole; standAt e.pos; holding [v] (truthy v)) := by intro _; rfl) : PFT X W e f :=
  ptI (pt_val h he) fun σ H Q h => fT_of (t := rdE X.K X.mg W f) (fun _ h => h) h
/-- a op1 b op2 c -/
def fChain (o o' : Op2) (f g k : FE) : FE := fun env st => (f env st).bind fun x st1 => (g env st1).bind fun y st2 => (o x y st2).bind fun z st3 => match z with
  | .bl true => (k env st3).bind fun w st4 => o' y w st4
  | .bl false => .ok (.bl false) st3
  | _ => .stuck
theorem tChain_of {r' : R2} {o' : Op2} (os : OpS X r o) (os' : OpS X r' o') {σ : L2.St} {H : Hp} {Q : VK} (h : rdE X.K X.mg W (fChain o o' f g k) σ H Q) :
    tChain r r' (rdE X.K X.mg W f) (rdE X.K X.mg W g) (rdE X.K X.mg W k) σ H Q := by
  obtain ⟨ρ, st, env, R, E, h⟩ := h
  refine ⟨ρ, st, env, R, E, OkR.bind h fun ρ1 H1 st1 d v x1 R1 r1 h1 => ?_⟩
  refine ⟨ρ1, st1, env, R1, E.ext x1, OkR.bind h1 fun ρ2 H2 st2 d2 v2 x2 R2 r2 h2 => ?_⟩
  refine os W ρ2 st2 H2 σ d d2 v v2 _ R2 (r1.ext x2) r2 (OkR.bind h2 fun ρ3 H3 st3 z v3 x3 R3 r3 h3 => ?_)
  cases r3 with
  | bl q =>
    refine ⟨q, rfl, ?_⟩
    cases q with
    | false => exact h3 ρ3 H3 _ .refl R3 (.bl false)
    | true =>
      refine ⟨ρ3, st3, env, R3, ((E.ext x1).ext x2).ext x3, OkR.bind h3 fun ρ4 H4 st4 d4 v4 x4 R4 r4 h4 => ?_⟩
      exact os' W ρ4 st4 H4 σ d2 d4 v2 v4 Q R4 ((r2.ext x3).ext x4) r4 h4
  | _ => exact h3.elim
theorem pf_chain {op op' : CmpOp} {r' : R2} {o' : Op2} (ho : OpR X (compareOp op) r) (os : OpS X r o) (ho' : OpR X (compareOp op') r') (os' : OpS X r' o') (ha : PF X W a f) (hb : PF X W b g) (hc : PF X W c k)
    (hm : lastMarks [op, op'] [b, c] = false := by with_unfolding_all rfl) : PF X W (.Compare a [op, op'] [b, c] pos) (fChain o o' f g k) :=
  peI (pe_chain ho ho' ha hb hc hm) fun _ _ _ h => tChain_of os os' h
theorem pt_chain {op op' : CmpOp} {r' : R2} {o' : Op2} (ho : OpR X (compareOp op) r) (os : OpS X r o) (ho' : OpR X (compareOp op') r') (os' : OpS X r' o') (ha : PF X W a f) (hb : PF X W b g) (hc : PF X W c k)
    (hm : lastMarks [op, op'] [b, c] = false := by with_unfolding_all rfl) : PFT X W (.Compare a [op, op'] [b, c] pos) (fChain o o' f g k) :=
  ptI (L2.pt_chain ho ho' ha hb hc hm) fun _ _ _ h => fT_of (fun _ h => tChain_of os os' h) h
/-! ### and, or, not, if -/
def fAnd (f g : FE) : FE := fun env st => (f env st).bind fun d st1 => match d with
  | .bl true => g env st1
  | .bl false => .ok (.bl false) st1
  | _ => .stuck
def fOr (f g : FE) : FE := fun env st => (f env st).bind fun d st1 => match d with
  | .bl true => .ok (.bl true) st1
  | .bl false => g env st1
  | _ => .stuck
def fNot (f : FE) : FE := fun env st => (f env st).bind fun d st1 => match d with
  | .bl b => .ok (.bl (!b)) st1
  | _ => .stuck
def fIf (f g k : FE) : FE := fun env st => (f env st).bind fun d st1 => match d with
  | .bl true => g env st1
  | .bl false => k env st1
  | _ => .stuck
variable {rest : List Expr}
theorem pf_and (ha : PF X W a f) (hb : PF X W (.BoolOp .And (b :: rest) pos) g) : PF X W (.BoolOp .And (a :: b :: rest) pos) (fAnd f g) :=
  peI (pe_and ha hb) fun σ H Q ⟨ρ, st, env, R, E, h⟩ => by
    refine ⟨ρ, st, env, R, E, OkR.bind h fun ρ1 H1 st1 d v x1 R1 r1 h1 => ?_⟩
    cases r1 with
    | bl q =>
      refine ⟨q, rfl, ?_⟩
      cases q with
      | false => exact h1 ρ1 H1 _ .refl R1 (.bl false)
      | true => exact ⟨ρ1, st1, env, R1, E.ext x1, h1⟩
    | _ => exact h1.elim
theorem pf_or (ha : PF X W a f) (hb : PF X W (.BoolOp .Or (b :: rest) pos) g) : PF X W (.BoolOp .Or (a :: b :: rest) pos) (fOr f g) :=
  peI (pe_or ha hb) fun σ H Q ⟨ρ, st, env, R, E, h⟩ => by
    refine ⟨ρ, st, env, R, E, OkR.bind h fun ρ1 H1 st1 d v x1 R1 r1 h1 => ?_⟩
    cases r1 with
    | bl q =>
      refine ⟨q, rfl, ?_⟩
      cases q with
      | true => exact h1 ρ1 H1 _ .refl R1 (.bl true)
      | false => exact ⟨ρ1, st1, env, R1, E.ext x1, h1⟩
    | _ => exact h1.elim
theorem pf_one {op} (ha : PF X W a f) : PF X W (.BoolOp op [a] pos) f := pe_one ha
theorem pf_not (ha : PF X W a f) : PF X W (.UnaryOp .Not a pos) (fNot f) :=
  peI (pe_not ha) fun σ H Q ⟨ρ, st, env, R, E, h⟩ => by
    refine ⟨ρ, st, env, R, E, OkR.bind h fun ρ1 H1 st1 d v x1 R1 r1 h1 => ?_⟩
    cases r1 with
    | bl q => exact ⟨q, rfl, h1 ρ1 H1 _ .refl R1 (.bl _)⟩
    | _ => exact h1.elim
theorem pf_neg (ha : PF X W a f) : PF X W (.UnaryOp .USub a pos) (fun env st => (f env st).bind fun d st1 => match d with
    | .int i => .ok (.int (-i)) st1
    | _ => .stuck) :=
  peI (pe_un un_neg ha) fun σ H Q ⟨ρ, st, env, R, E, h⟩ => by
    refine ⟨ρ, st, env, R, E, OkR.bind h fun ρ1 H1 st1 d v x1 R1 r1 h1 => ?_⟩
    cases r1 with
    | int i => exact ⟨i, rfl, h1 ρ1 H1 _ .refl R1 (.int _)⟩
    | _ => exact h1.elim
/-- as tests -/
abbrev PFW (X : Cx) (W : WX) (e : Expr) (f : FE) : Prop := PW X e (rdT X.K X.mg W (fT f))
theorem pwI {X : Cx} {e : Expr} {t t' : TT} (h : PW X e t) (i : ∀ σ H Q, t' σ H Q → t σ H Q) : PW X e t' := ⟨fun wh pins s σ H Q I q => h.run wh pins s σ H Q I (i _ _ _ q)⟩
theorem pw_an (ha : PFT X W a f) (hb : PFW X W (.BoolOp .And (b :: rest) pos) g) : PFW X W (.BoolOp .And (a :: b :: rest) pos) (fAnd f g) :=
  pwI (pw_and ha hb) fun σ H Q ⟨ρ, st, env, R, E, h⟩ => by
    refine ⟨ρ, st, env, R, E, ?_⟩
    unfold fT fAnd at h
    unfold fT
    cases hq : f env st with
    | ok d st1 =>
      rw [hq] at h
      cases d with
      | bl q =>
        cases q with
        | false => exact fun ρ1 H1 v x1 R1 e => by subst e; exact h ρ1 H1 false x1 R1 rfl
        | true => exact fun ρ1 H1 v x1 R1 e => by subst e; exact ⟨ρ1, st1, env, R1, E.ext x1, OkR.ext x1 h⟩
      | _ => exact h.elim
    | exc e st1 => rw [hq] at h; exact h
    | stuck => rw [hq] at h; exact h
theorem pw_or' (ha : PFT X W a f) (hb : PFW X W (.BoolOp .Or (b :: rest) pos) g) : PFW X W (.BoolOp .Or (a :: b :: rest) pos) (fOr f g) :=
  pwI (pw_or ha hb) fun σ H Q ⟨ρ, st, env, R, E, h⟩ => by
    refine ⟨ρ, st, env, R, E, ?_⟩
    unfold fT fOr at h
    unfold fT
    cases hq : f env st with
    | ok d st1 =>
      rw [hq] at h
      cases d with
      | bl q =>
        cases q with
        | true => exact fun ρ1 H1 v x1 R1 e => by subst e; exact h ρ1 H1 true x1 R1 rfl
        | false => exact fun ρ1 H1 v x1 R1 e => by subst e; exact ⟨ρ1, st1, env, R1, E.ext x1, OkR.ext x1 h⟩
      | _ => exact h.elim
    | exc e st1 => rw [hq] at h; exact h
    | stuck => rw [hq] at h; exact h
theorem pw_a1 (ha : PFT X W a f) : PFW X W (.BoolOp .And [a] pos) f := pw_and1 ha
theorem pw_o1 (ha : PFT X W a f) : PFW X W (.BoolOp .Or [a] pos) f := pw_or1 ha
theorem pt_w (h : PFW X W a f) : PFT X W a f := h.pt
theorem pt_no (ha : PFT X W a f) : PFT X W (.UnaryOp .Not a pos) (fNot f) :=
  ptI (pt_not ha) fun σ H Q ⟨ρ, st, env, R, E, h⟩ => by
    refine ⟨ρ, st, env, R, E, ?_⟩
    unfold fT fNot at h
    unfold fT
    cases hq : f env st with
    | ok d st1 =>
      rw [hq] at h
      cases d with
      | bl q => exact fun ρ1 H1 v x1 R1 e => by subst e; exact h ρ1 H1 (!q) x1 R1 rfl
      | _ => exact h.elim
    | exc e st1 => rw [hq] at h; exact h
    | stuck => rw [hq] at h; exact h
theorem pf_if (hc : PFT X W c f) (ha : PF X W a g) (hb : PF X W b k) : PF X W (.IfExp c a b pos) (fIf f g k) :=
  peI (pe_ifExp hc ha hb) fun σ H Q ⟨ρ, st, env, R, E, h⟩ => by
    refine ⟨ρ, st, env, R, E, ?_⟩
    unfold fIf at h
    unfold fT
    cases hq : f env st with
    | ok d st1 =>
      rw [hq] at h
      cases d with
      | bl q =>
        refine fun ρ1 H1 v x1 R1 e => ?_
        subst e
        cases q with
        | true => exact ⟨ρ1, st1, env, R1, E.ext x1, OkR.ext x1 h⟩
        | false => exact ⟨ρ1, st1, env, R1, E.ext x1, OkR.ext x1 h⟩
      | _ => exact h.elim
    | exc e st1 => rw [hq] at h; exact h
    | stuck => rw [hq] at h; exact h
end
end Fl
namespace Fl
open PySem PySem.Spec PyProof.Rows L2
/-! ### blocks and small statements -/
def sSkip : FS := fun env st => .nx env st
def sSeq (f g : FS) : FS := fun env st => match f env st with
  | .nx e s => g e s
  | r => r
def sExpr (f : FE) : FS := fun env st => match f env st with
  | .ok _ st1 => .nx env st1
  | .exc e st1 => .exc e env st1
  | .stuck => .stuck
def sRet (f : FE) : FS := fun env st => match f env st with
  | .ok d st1 => .rt d st1
  | .exc e st1 => .exc e env st1
  | .stuck => .stuck
def sRetN : FS := fun _ st => .rt .non st
def sIf (c : FE) (f g : FS) : FS := fun env st => match c env st with
  | .ok (.bl true) st1 => f env st1
  | .ok (.bl false) st1 => g env st1
  | .exc e st1 => .exc e env st1
  | _ => .stuck
def sSet (i : Nat) (f : FE) : FS := fun env st => match f env st with
  | .ok d st1 => .nx (env.set i (some d)) st1
  | .exc e st1 => .exc e env st1
  | .stuck => .stuck
section
variable {X : Cx} {W : WX} {pos : Pos} {s : Stmt} {ss : List Stmt} {f g : FS} {e : Expr} {fe : FE}
theorem psb_nil : PFB X W [] sSkip := pssI pss_nil fun D σ H ⟨ρ, st, env, R, E, h⟩ => h ρ H σ .refl R E
theorem psb_cons (h1 : PFS X W s f) (h2 : PFB X W ss g) : PFB X W (s :: ss) (sSeq f g) :=
  pssI (pss_cons h1 h2) fun D σ H ⟨ρ, st, env, R, E, h⟩ => by
    refine ⟨ρ, st, env, R, E, ?_⟩
    unfold sSeq at h
    cases hq : f env st with
    | nx e1 s1 => rw [hq] at h; exact fun ρ1 H1 σ1 x R1 E1 => ⟨ρ1, s1, e1, R1, E1, OkS.ext x h⟩
    | rt _ _ => rw [hq] at h; exact h
    | bk _ _ => rw [hq] at h; exact h
    | ct _ _ => rw [hq] at h; exact h
    | exc _ _ _ => rw [hq] at h; exact h
    | stuck => rw [hq] at h; exact h
theorem psb_one (h1 : PFS X W s f) : PFB X W [s] f := pss_one h1
theorem ps_pas : PFS X W (.Pass pos) sSkip := psI ps_pass fun D σ H ⟨ρ, st, env, R, E, h⟩ => h ρ H σ .refl R E
theorem ps_brk : PFS X W (.Break pos) (fun env st => .bk env st) := psI ps_break fun D σ H ⟨ρ, st, env, R, E, h⟩ => h ρ H σ .refl R E
theorem ps_exp (he : PF X W e fe) (hs : swapsWith e none pos.line X.env = pure false := by rfl) : PFS X W (.Expr e pos) (sExpr fe) :=
  psI (ps_expr he hs) fun D σ H ⟨ρ, st, env, R, E, h⟩ => by
    refine ⟨ρ, st, env, R, E, ?_⟩
    unfold sExpr at h
    cases hq : fe env st with
    | ok d st1 => rw [hq] at h; exact fun ρ1 H1 v x R1 r => h ρ1 H1 σ x R1 (E.ext x)
    | exc ex st1 => rw [hq] at h; exact fun ρ1 H1 c dx x R1 r => h ρ1 H1 σ c dx x R1 (E.ext x) r
    | stuck => rw [hq] at h; exact h
theorem ps_rt (he : PF X W e fe) : PFS X W (.Return (some e) pos) (sRet fe) :=
  psI (ps_ret he) fun D σ H ⟨ρ, st, env, R, E, h⟩ => by
    refine ⟨ρ, st, env, R, E, ?_⟩
    unfold sRet at h
    cases hq : fe env st with
    | ok d st1 => rw [hq] at h; exact fun ρ1 H1 v x R1 r => h ρ1 H1 v x R1 r
    | exc ex st1 => rw [hq] at h; exact fun ρ1 H1 c dx x R1 r => h ρ1 H1 σ c dx x R1 (E.ext x) r
    | stuck => rw [hq] at h; exact h
theorem ps_rtN : PFS X W (.Return none pos) sRetN := psI ps_retN fun D σ H ⟨ρ, st, env, R, E, h⟩ => h ρ H .non .refl R .non
theorem ps_iff {c : Expr} {a b : List Stmt} (hc : PFT X W c fe) (ha : PFB X W a f) (hb : PFB X W b g) : PFS X W (.If c a b pos) (sIf fe f g) :=
  psI (ps_if hc ha hb) fun D σ H ⟨ρ, st, env, R, E, h⟩ => by
    refine ⟨ρ, st, env, R, E, ?_⟩
    unfold sIf at h
    unfold fT
    cases hq : fe env st with
    | ok d st1 =>
      rw [hq] at h
      cases d with
      | bl q =>
        refine fun ρ1 H1 v x R1 r => ?_
        subst r
        cases q with
        | true => exact ⟨ρ1, st1, env, R1, E.ext x, OkS.ext x h⟩
        | false => exact ⟨ρ1, st1, env, R1, E.ext x, OkS.ext x h⟩
      | _ => exact h.elim
    | exc ex st1 => rw [hq] at h; exact fun ρ1 H1 c dx x R1 r => h ρ1 H1 σ c dx x R1 (E.ext x) r
    | stuck => rw [hq] at h; exact h
theorem ps_st {i : Nat} {x : Str} {pos' : Pos} (G : Gx X) (he : PF X W e fe) (hi : X.N[i]? = some x := by rfl) (hx : Loc X.env.scope x := by first | exact .inl rfl | exact .inr rfl)
    (hs : swapsWith e (some (.Name x pos')) pos.line X.env = pure false := by rfl) (hf : X.fn x = true ∨ X.env.scope.names.lookup x = some .local := by first | exact .inl rfl | exact .inr rfl) :
    PFS X W (.Assign [.Name x pos'] e pos) (sSet i fe) :=
  psI (ps_set G.nd hi hx he hs hf) fun D σ H ⟨ρ, st, env, R, E, h⟩ => by
    refine ⟨ρ, st, env, R, E, ?_⟩
    unfold sSet at h
    cases hq : fe env st with
    | ok d st1 => rw [hq] at h; exact fun ρ1 H1 v x R1 r => h ρ1 H1 _ x R1 ((E.ext x).set i r)
    | exc ex st1 => rw [hq] at h; exact fun ρ1 H1 c dx x R1 r => h ρ1 H1 σ c dx x R1 (E.ext x) r
    | stuck => rw [hq] at h; exact h
end

/-! ### targets: a name's slot, or a tuple of these -/
inductive Tg where
  | name (i : Nat)
  | tup (ts : List Nat)
def Tg.slots : Tg → List Nat
  | .name i => [i]
  | .tup ts => ts
def setAll : List Nat → List D → Env → Env
  | i :: is, d :: ds, env => setAll is ds (env.set i (some d))
  | _, _, env => env
def bindT : Tg → D → Env → Option Env
  | .name i, d, env => some (env.set i (some d))
  | .tup ts, .tup ds, env => if ds.length = ts.length then some (setAll ts ds env) else none
  | _, _, _ => none
def gAll : List Nat → TGs
  | [] => gNil
  | i :: is => gCons (gName i) (gAll is)
def gOf (K : Fg) : Tg → TG
  | .name i => gName i
  | .tup ts => gTup K ts.length (gAll ts)
/-- the same but at some slots -/
def Off (vs : List Nat) (σ σ' : L2.St) : Prop := σ'.length = σ.length ∧ ∀ i, i ∉ vs → σ'[i]? = σ[i]?
theorem Off.refl {vs : List Nat} {σ : L2.St} : Off vs σ σ := ⟨rfl, fun _ _ => rfl⟩
theorem Off.set {vs : List Nat} {σ σ' : L2.St} {i : Nat} {v : Option V} (h : Off vs (σ.set i v) σ') (hi : i ∈ vs) : Off vs σ σ' := by
  refine ⟨by rw [h.1, List.length_set], fun j hj => ?_⟩
  rw [h.2 j hj, List.getElem?_set_ne]
  intro e; subst e; exact hj hi
theorem wipe_get {σ : L2.St} : ∀ {vs : List Nat} {i : Nat}, i ∈ vs → (wipe σ vs)[i]? = if i < σ.length then some none else none
  | v :: vs, i, h => by
    unfold wipe
    by_cases e : v = i
    · subst e
      by_cases hl : v < σ.length
      · rw [List.getElem?_set_self (by rw [wipe_length]; exact hl), if_pos hl]
      · rw [List.getElem?_eq_none (by rw [List.length_set, wipe_length]; omega), if_neg hl]
    · rw [List.getElem?_set_ne e]
      exact wipe_get ((List.mem_cons.mp h).resolve_left (Ne.symm e))
theorem Off.wipe {vs ts : List Nat} {σ σ' : L2.St} (h : Off ts (wipe σ vs) σ') (hs : ∀ i ∈ ts, i ∈ vs) : wipe σ' vs = wipe σ vs := by
  refine List.ext_getElem? fun i => ?_
  by_cases hi : i ∈ vs
  · rw [wipe_get hi, wipe_get hi, h.1, wipe_length]
  · rw [wipe_out hi, wipe_out hi, h.2 i (fun z => hi (hs i z)), wipe_out hi]
section
variable {K : Fg} {ρ : List Addr} {H : Hp} {env env' : Env} {σ : L2.St} {d : D} {x : V} {Q : L2.St → Hp → Prop}
theorem gAll_ok : ∀ {ts : List Nat} {ds : List D} {vs : List V} {env : Env} {σ : L2.St}, ds.length = ts.length → RVs K ρ H ds vs → REnv K ρ H env σ →
    (∀ σ', REnv K ρ H (setAll ts ds env) σ' → Off ts σ σ' → Q σ' H) → gAll ts vs σ H Q
  | [], [], _, env, σ, _, .nil, E, q => ⟨rfl, q σ E .refl⟩
  | i :: is, d :: ds, _, env, σ, hl, .cons r t, E, q => by
    refine ⟨_, _, rfl, ?_⟩
    show gAll is _ (σ.set i (some _)) H Q
    refine gAll_ok (by simpa using hl) t (E.set i r) fun σ' E' o => q σ' E' ?_
    exact Off.set ⟨o.1, fun j hj => o.2 j fun z => hj (List.mem_cons_of_mem _ z)⟩ List.mem_cons_self
theorem gOf_ok {t : Tg} (E : REnv K ρ H env σ) (r : RV K ρ H d x) (b : bindT t d env = some env') (q : ∀ σ', REnv K ρ H env' σ' → Off t.slots σ σ' → Q σ' H) : gOf K t x σ H Q := by
  cases t with
  | name i =>
    cases b
    exact q _ (E.set i r) (Off.set .refl (by simp [Tg.slots]))
  | tup ts =>
    cases d with
    | tup ds =>
      have b' : (if ds.length = ts.length then some (setAll ts ds env) else none) = some env' := b
      by_cases hl : ds.length = ts.length
      · rw [if_pos hl] at b'
        cases b'
        cases x with
        | ref a =>
          obtain ⟨vs, hs, rs⟩ := r.sqT
          exact ⟨a, vs, rfl, hs, by rw [← rs.length]; exact hl, gAll_ok hl rs E q⟩
        | _ => cases r
      · rw [if_neg hl] at b'; cases b'
    | _ => cases b
end
def PFG (X : Cx) (e : Expr) (t : Tg) : Prop := PG X e (gOf X.K t)
def PFGs (X : Cx) (es : List Expr) (ts : List Nat) : Prop := PGs X es (gAll ts)
section
variable {X : Cx} {pos : Pos}
theorem pg_n {x : Str} (i : Nat) (hN : X.N.Nodup) (hi : X.N[i]? = some x := by rfl) (hx : Loc X.env.scope x := by first | exact .inl rfl | exact .inr rfl) (hf : X.fn x = true ∨ X.env.scope.names.lookup x = some .local := by first | exact .inl rfl | exact .inr rfl) :
    PG X (.Name x pos) (gName i) := pg_name hN hi hx hf
theorem pfg_name {x : Str} (i : Nat) (h : PG X (.Name x pos) (gName i)) : PFG X (.Name x pos) (.name i) := h
theorem pfgs_nil : PFGs X [] [] := pgs_nil
theorem pfgs_cons {x : Str} {i : Nat} {es : List Expr} {ts : List Nat} (h : PG X (.Name x pos) (gName i)) (t : PFGs X es ts)
    (hs : (assignEach (.Name x pos :: es) X.env).map (·.2) = assign (.Name x pos) X.env :: (assignEach es X.env).map (·.2) := by rfl) : PFGs X (.Name x pos :: es) (i :: ts) := pgs_cons h t hs
theorem pfg_tup {es : List Expr} {k : Nat} {ts : List Nat} (hc : X.calm = true) (h : PFGs X es ts) (hn : (assignEach es X.env).length = ts.length := by rfl) (hst : (assignEach es X.env).findIdx? (·.1) = none := by rfl) :
    PFG X (.Tuple es k pos) (.tup ts) := pg_tup hc h hn hst
/-- target = value -/
def sAsg (t : Tg) (f : FE) : FS := fun env st => match f env st with
  | .ok d st1 => (match bindT t d env with
    | some env' => .nx env' st1
    | none => .stuck)
  | .exc e st1 => .exc e env st1
  | .stuck => .stuck
variable {W : WX} {e tg : Expr} {fe : FE}
theorem ps_as {t : Tg} (he : PF X W e fe) (hg : PFG X tg t) (hs : swapsWithSole [tg] e pos.line X.env = pure false := by rfl) (hw : swappedStores [tg] e X.env = pure none := by rfl)
    (h1 : (assignEach [tg] X.env).map (·.2) = [assign tg X.env] := by rfl) : PFS X W (.Assign [tg] e pos) (sAsg t fe) :=
  psI (ps_asg he hg hs hw h1) fun D σ H ⟨ρ, st, env, R, E, h⟩ => by
    refine ⟨ρ, st, env, R, E, ?_⟩
    unfold sAsg at h
    cases hq : fe env st with
    | ok d st1 =>
      rw [hq] at h
      cases hb : bindT t d env with
      | some env' =>
        simp only [hb] at h
        refine fun ρ1 H1 v x R1 r => gOf_ok (E.ext x) r hb fun σ' E' _ => h ρ1 H1 σ' x R1 E'
      | none => simp only [hb] at h; exact h.elim
    | exc ex st1 => rw [hq] at h; exact fun ρ1 H1 c dx x R1 r => h ρ1 H1 σ c dx x R1 (E.ext x) r
    | stuck => rw [hq] at h; exact h
/-- a, b = x, y -/
def sPar (i j : Nat) (f g : FE) : FS := fun env st => match f env st with
  | .ok d st1 => (match g env st1 with
    | .ok d2 st2 => .nx ((env.set i (some d)).set j (some d2)) st2
    | .exc e st2 => .exc e env st2
    | .stuck => .stuck)
  | .exc e st1 => .exc e env st1
  | .stuck => .stuck
theorem ps_pr {i j : Nat} {x y : Str} {a b : Expr} {f g : FE} {px py pt : Pos} {kt k2 pt2} (G : Gx X) (hc : X.calm = true) (ha : PF X W a f) (hb : PF X W b g) (hi : X.N[i]? = some x := by rfl) (hj : X.N[j]? = some y := by rfl) (hij : i ≠ j := by decide)
    (hx : X.env.scope.names.lookup x = some .local := by rfl) (hy : X.env.scope.names.lookup y = some .local := by rfl)
    (hw : swappedStores [.Tuple [.Name x px, .Name y py] kt pt] (.Tuple [a, b] k2 pt2) X.env = pure (some [x, y]) := by rfl)
    (hs : swapsWithSole [.Tuple [.Name x px, .Name y py] kt pt] (.Tuple [a, b] k2 pt2) pos.line X.env = pure false := by rfl) (hs1 : starEach [a, b] X.env = (false, eval a X.env) :: starEach [b] X.env := by rfl)
    (hs2 : starEach [b] X.env = (false, eval b X.env) :: starEach [] X.env := by rfl) :
    PFS X W (.Assign [.Tuple [.Name x px, .Name y py] kt pt] (.Tuple [a, b] k2 pt2) pos) (sPar i j f g) :=
  psI (ps_par hc G.nd hi hj hij hx hy (pa_cons ha (pa_cons hb pa_nil hs2) hs1) hw hs) fun D σ H ⟨ρ, st, env, R, E, h⟩ => by
    refine ⟨ρ, st, env, R, E, ?_⟩
    unfold sPar at h
    cases hq : f env st with
    | ok d st1 =>
      simp only [hq] at h
      refine fun ρ1 H1 v x R1 r => ?_
      refine ⟨ρ1, st1, env, R1, E.ext x, ?_⟩
      cases hq2 : g env st1 with
      | ok d2 st2 =>
        simp only [hq2] at h
        exact fun ρ2 H2 v2 x2 R2 r2 => ⟨v, v2, rfl, h ρ2 H2 _ (x.trans x2) R2 ((((E.ext x).ext x2).set i (r.ext x2)).set j r2)⟩
      | exc ex st2 => simp only [hq2] at h; exact fun ρ2 H2 c dx x2 R2 r2 => h ρ2 H2 σ c dx (x.trans x2) R2 ((E.ext x).ext x2) r2
      | stuck => simp only [hq2] at h; exact False.elim h
    | exc ex st1 => simp only [hq] at h; exact fun ρ1 H1 c dx x R1 r => h ρ1 H1 σ c dx x R1 (E.ext x) r
    | stuck => simp only [hq] at h; exact False.elim h
end

/-! ### what is walked -/
structure IR where
  items : List D
  src : List (Nat × List D)
def srcOk (st : Store) (src : List (Nat × List D)) : Prop := ∀ p ∈ src, st[p.1]? = some (.lst p.2)
def YI (K : Fg) (ρ : List Addr) (H : Hp) (I : IR) (J : It) : Prop :=
  ∀ (i : Nat) (ρ1 : List Addr) (st1 : Store) (H1 : Hp), Ext ρ H ρ1 H1 → Rel K ρ1 st1 H1 → srcOk st1 I.src →
    (∀ d, I.items[i]? = some d → J.go i H1 ∧ ∀ x H2, J.yld i H1 x H2 → Ext ρ1 H1 ρ1 H2 ∧ Rel K ρ1 st1 H2 ∧ RV K ρ1 H2 d x) ∧ (I.items.length ≤ i → J.stop i H1)
abbrev FI := Env → Store → R IR
def rdI (K : Fg) (mg : Mg) (W : WX) (f : FI) : TI := fun σ H Q => ∃ ρ st env, Rel K ρ st H ∧ REnv K ρ H env σ ∧ OkR K mg (YI K) W ρ H σ (f env st) Q
abbrev PFI (X : Cx) (W : WX) (tg iter : Expr) (f : FI) : Prop := PI X tg iter (rdI X.K X.mg W f)
theorem piI {X : Cx} {tg e : Expr} {t t' : TI} (h : PI X tg e t) (i : ∀ σ H Q, t' σ H Q → t σ H Q) : PI X tg e t' := ⟨fun pins s σ H Q I q => h.run pins s σ H Q I (i _ _ _ q)⟩
open Classical in
noncomputable def forL (body : FS) (t : Tg) (src : List (Nat × List D)) : List D → FS
  | [], env, st => if srcOk st src then .nx env st else .stuck
  | d :: ds, env, st => if srcOk st src then (match bindT t d env with
    | none => .stuck
    | some env' => match body env' st with
      | .nx e s => forL body t src ds e s
      | .ct e s => forL body t src ds e s
      | .bk e s => .nx e s
      | r => r) else .stuck
noncomputable def sFor (fi : FI) (t : Tg) (body : FS) : FS := fun env st => match fi env st with
  | .ok I st1 => forL body t I.src I.items env st1
  | .exc e st1 => .exc e env st1
  | .stuck => .stuck
def whL (c : FE) (body : FS) : Nat → FS
  | 0, _, _ => .stuck
  | n + 1, env, st => match c env st with
    | .ok (.bl true) st1 => (match body env st1 with
      | .nx e s => whL c body n e s
      | .ct e s => whL c body n e s
      | .bk e s => .nx e s
      | r => r)
    | .ok (.bl false) st1 => .nx env st1
    | .exc e st1 => .exc e env st1
    | _ => .stuck
open Classical in
noncomputable def sWhile (c : FE) (body : FS) : FS := fun env st => if h : ∃ n, whL c body n env st ≠ .stuck then whL c body (choose h) env st else .stuck
theorem whL_up {c : FE} {body : FS} : ∀ {n : Nat} {env : Env} {st : Store} {r : Fw}, whL c body n env st = r → r ≠ .stuck → whL c body (n + 1) env st = r
  | 0, env, st, r, h, hr => absurd h.symm hr
  | n + 1, env, st, r, h, hr => by
    rw [whL] at h ⊢
    cases hc : c env st with
    | ok d st1 =>
      simp only [hc] at h ⊢
      cases d with
      | bl q =>
        cases q with
        | true =>
          simp only at h ⊢
          cases hb : body env st1 with
          | nx e s => simp only [hb] at h ⊢; exact whL_up h hr
          | ct e s => simp only [hb] at h ⊢; exact whL_up h hr
          | bk e s => simp only [hb] at h ⊢; exact h
          | rt d s => simp only [hb] at h ⊢; exact h
          | exc a e s => simp only [hb] at h ⊢; exact h
          | stuck => simp only [hb] at h ⊢; exact h
        | false => exact h
      | _ => exact h
    | exc e st1 => simp only [hc] at h ⊢; exact h
    | stuck => simp only [hc] at h ⊢; exact h
theorem whL_le {c : FE} {body : FS} {n m : Nat} {env : Env} {st : Store} {r : Fw} (h : whL c body n env st = r) (hr : r ≠ .stuck) (hm : n ≤ m) : whL c body m env st = r := by
  induction hm with
  | refl => exact h
  | step _ ih => exact whL_up ih hr
theorem sWhile_of {c : FE} {body : FS} {n : Nat} {env : Env} {st : Store} {r : Fw} (h : whL c body n env st = r) (hr : r ≠ .stuck) : sWhile c body env st = r := by
  have hx : ∃ n, whL c body n env st ≠ .stuck := ⟨n, by rw [h]; exact hr⟩
  unfold sWhile
  rw [dif_pos hx]
  have h2 := Classical.choose_spec hx
  rcases Nat.le_total n (Classical.choose hx) with l | l
  · exact whL_le h hr l
  · exact (whL_le rfl h2 l).symm.trans h
section
variable {X : Cx} {W : WX} {pos : Pos} {e tg iter : Expr} {fe : FE} {fi : FI} {body : List Stmt} {fb : FS} {t : Tg}
theorem ps_fo (hp : PassesOwn (model X.prog X.w) X.A X.env X.xe) (hc : X.calm = true) (hi : PFI X W tg iter fi) (hg : PFG X tg t) (hb : PFB X W body fb)
    (hs : ∀ x, foldedSetIterable iter X.env x = pure x := by intro _; rfl) : PFS X W (.For tg iter body [] pos) (sFor fi t fb) :=
  psI (ps_for hp hc hi hg hb hs) fun D σ H ⟨ρ, st, env, R, E, h⟩ => by
    refine ⟨ρ, st, env, R, E, ?_⟩
    unfold sFor at h
    cases hq : fi env st with
    | exc ex st1 => simp only [hq] at h; exact fun ρ1 H1 c dx x R1 r => h ρ1 H1 σ c dx x R1 (E.ext x) r
    | stuck => simp only [hq] at h; exact h
    | ok I st1 =>
      simp only [hq] at h
      refine fun ρ1 H1 J x R1 Y => ?_
      have h1 := OkS.ext x h
      refine ⟨fun i m σ H => m = I.items.length - i ∧ i ≤ I.items.length ∧ ∃ ρ2 st2 env2, Ext ρ1 H1 ρ2 H ∧ Rel X.K ρ2 st2 H ∧ REnv X.K ρ2 H env2 σ ∧ OkS X.K X.mg W ρ2 H (forL fb t I.src (I.items.drop i) env2 st2) D,
        ⟨_, rfl, Nat.zero_le _, ρ1, st1, env, .refl, R1, E.ext x, h1⟩, ?_⟩
      rintro i m σ2 H2 ⟨rfl, hi, ρ2, st2, env2, x2, R2, E2, h2⟩
      by_cases hl : i < I.items.length
      · rw [List.drop_eq_getElem_cons hl] at h2
        rw [forL] at h2
        by_cases hs : srcOk st2 I.src
        · rw [if_pos hs] at h2
          obtain ⟨hgo, hy⟩ := (Y i ρ2 st2 H2 x2 R2 hs).1 _ (List.getElem?_eq_getElem hl)
          refine .inr ⟨hgo, fun σ3 H3 => ∃ ρ3 st3 env3, Ext ρ1 H1 ρ3 H3 ∧ Rel X.K ρ3 st3 H3 ∧ REnv X.K ρ3 H3 env3 σ3 ∧ OkS X.K X.mg W ρ3 H3 (forL fb t I.src (I.items.drop (i + 1)) env3 st3) D,
            fun σ3 H3 n3 => ⟨I.items.length - (i + 1), by omega, rfl, hl, n3⟩, fun v H3 y => ?_⟩
          obtain ⟨x3, R3, r3⟩ := hy v H3 y
          cases hb : bindT t I.items[i] env2 with
          | none => simp only [hb] at h2; exact h2.elim
          | some env3 =>
            simp only [hb] at h2
            refine gOf_ok (E2.ext x3) r3 hb fun σ4 E4 _ => ⟨ρ2, st2, env3, R3, E4, ?_⟩
            have h3 := OkS.ext x3 h2
            cases hf : fb env3 st2 with
            | nx e s => simp only [hf] at h3; exact fun ρ5 H5 σ5 x5 R5 E5 => ⟨ρ5, s, e, (x2.trans x3).trans x5, R5, E5, OkS.ext x5 h3⟩
            | ct e s => simp only [hf] at h3; exact fun ρ5 H5 σ5 x5 R5 E5 => ⟨ρ5, s, e, (x2.trans x3).trans x5, R5, E5, OkS.ext x5 h3⟩
            | bk e s => simp only [hf] at h3; exact h3
            | rt d s => simp only [hf] at h3; exact h3
            | exc a e s => simp only [hf] at h3; exact h3
            | stuck => simp only [hf] at h3; exact h3
        · rw [if_neg hs] at h2; exact h2.elim
      · have hd : I.items.drop i = [] := List.drop_eq_nil_of_le (by omega)
        rw [hd, forL] at h2
        by_cases hs : srcOk st2 I.src
        · rw [if_pos hs] at h2
          exact .inl ⟨(Y i ρ2 st2 H2 x2 R2 hs).2 (by omega), h2 ρ2 H2 σ2 .refl R2 E2⟩
        · rw [if_neg hs] at h2; exact h2.elim
theorem ps_wh {c : Expr} (hp : PassesOwn (model X.prog X.w) X.A X.env X.xe) (hc : PFT X W c fe) (hb : PFB X W body fb) : PFS X W (.While c body [] pos) (sWhile fe fb) :=
  psI (ps_while hp hc hb) fun D σ H ⟨ρ, st, env, R, E, h⟩ => by
    unfold sWhile at h
    by_cases hx : ∃ n, whL fe fb n env st ≠ .stuck
    · rw [dif_pos hx] at h
      refine ⟨fun m σ H => ∃ ρ st env, Rel X.K ρ st H ∧ REnv X.K ρ H env σ ∧ OkS X.K X.mg W ρ H (whL fe fb m env st) D, ⟨_, ρ, st, env, R, E, h⟩, ?_⟩
      rintro m σ1 H1 ⟨ρ1, st1, env1, R1, E1, h1⟩
      cases m with
      | zero => exact h1.elim
      | succ m =>
        refine ⟨ρ1, st1, env1, R1, E1, ?_⟩
        rw [whL] at h1
        unfold fT
        cases hq : fe env1 st1 with
        | ok d st2 =>
          simp only [hq] at h1
          cases d with
          | bl q =>
            refine fun ρ2 H2 v x R2 r => ?_
            subst r
            cases q with
            | true =>
              simp only at h1
              refine ⟨fun σ3 H3 => ∃ ρ st env, Rel X.K ρ st H3 ∧ REnv X.K ρ H3 env σ3 ∧ OkS X.K X.mg W ρ H3 (whL fe fb m env st) D, fun σ3 H3 n3 => ⟨m, Nat.lt_succ_self _, n3⟩, ?_⟩
              refine ⟨ρ2, st2, env1, R2, E1.ext x, ?_⟩
              have h2 := OkS.ext x h1
              cases hf : fb env1 st2 with
              | nx e s => simp only [hf] at h2; exact fun ρ5 H5 σ5 x5 R5 E5 => ⟨ρ5, s, e, R5, E5, OkS.ext x5 h2⟩
              | ct e s => simp only [hf] at h2; exact fun ρ5 H5 σ5 x5 R5 E5 => ⟨ρ5, s, e, R5, E5, OkS.ext x5 h2⟩
              | bk e s => simp only [hf] at h2; exact h2
              | rt d s => simp only [hf] at h2; exact h2
              | exc a e s => simp only [hf] at h2; exact h2
              | stuck => simp only [hf] at h2; exact h2
            | false =>
              simp only [Bool.false_eq_true, if_false]
              exact h1 ρ2 H2 σ1 x R2 (E1.ext x)
          | _ => exact h1.elim
        | exc ex st2 => simp only [hq] at h1; exact fun ρ2 H2 c dx x R2 r => h1 ρ2 H2 σ1 c dx x R2 (E1.ext x) r
        | stuck => simp only [hq] at h1; exact h1
    · rw [dif_neg hx] at h; exact h.elim
end
end Fl
namespace Fl
open PySem PySem.Spec PyProof.Rows L2
/-! ### defs -/
abbrev Fn := List D → Store → R D
/-- what a def promises: its meaning F, at every store -/
def spF (K : Fg) (mg : Mg) (ps : List Str) (F : Fn) : Sp := fun vs H Q E => vs.length = ps.length ∧
  ∃ ρ st ds, Rel K ρ st H ∧ RVs K ρ H ds vs ∧ OkR K mg (RV K) (fun c d _ H => E c d H) ρ H [] (F ds st) Q
/-- the def at f has the meaning F, wherever the stack bears no guard -/
def FnG (P : Program) (w : World) (K : Fg) (mg : Mg) (base : Heap) (k : Nat) (f : Addr) (fd : FuncData) (ps : List Str) (F : Fn) : Prop :=
  ∀ (A : Around) (outer : List PySem.Env) (s : Shared) (H : Hp) (args : Args) (us : List Value) (vs : List V) (Q : VK) (E : XK),
    A.guards = some [] → Room k A → Env0 P w K mg base A outer s H → BindsTo s fd args (ps.zip us) → Vals vs us → spF K mg ps F vs H Q E →
      codeAny (model P w) A (.call (.ref f) args) (CR (L2.CX P w) outer P w H s Q E) s
def startE (n : Nat) (ds : List D) : Env := ds.map some ++ List.replicate (n - ds.length) none
/-- a def's meaning by its body's -/
def fnOf (n : Nat) (g : FS) : Fn := fun ds st => match g (startE n ds) st with
  | .rt d st' => .ok d st'
  | .nx _ st' => .ok .non st'
  | .exc e _ st' => .exc e st'
  | _ => .stuck
def fnA (p n : Nat) (g : FS) : Fn := fun ds st => if ds.length = p then fnOf n g ds st else .stuck
/-- a def that is not called under F is called under less -/
def Le (F G : Fn) : Prop := ∀ ds st, F ds st = .stuck ∨ F ds st = G ds st
section
variable {P : Program} {w : World} {K : Fg} {mg : Mg} {base : Heap}
theorem FnG.mono {j k : Nat} {f : Addr} {fd : FuncData} {ps : List Str} {F : Fn} (h : FnG P w K mg base j f fd ps F) (l : j ≤ k) : FnG P w K mg base k f fd ps F :=
  fun A outer s H args us vs Q E g r => h A outer s H args us vs Q E g (r.mono l)
theorem FnG.less {k : Nat} {f : Addr} {fd : FuncData} {ps : List Str} {F G : Fn} (h : FnG P w K mg base k f fd ps G) (l : Le F G) : FnG P w K mg base k f fd ps F :=
  fun A outer s H args us vs Q E g r e b v ⟨hl, ρ, st, ds, R, rs, q⟩ => h A outer s H args us vs Q E g r e b v ⟨hl, ρ, st, ds, R, rs, by
    rcases l ds st with z | z
    · rw [z] at q; exact q.elim
    · rw [← z]; exact q⟩
theorem renv_start {ρ : List Addr} {H : Hp} {N : List Str} {ds : List D} {vs : List V} (r : RVs K ρ H ds vs) : REnv K ρ H (startE N.length ds) (L2.start N vs) := by
  have hl := r.length
  refine ⟨?_, fun i d e => ?_⟩
  · unfold startE L2.start
    rw [List.length_append, List.length_append, List.length_map, List.length_map, hl, List.length_replicate, List.length_replicate]
  · unfold startE at e
    unfold L2.start
    by_cases hi : i < ds.length
    · rw [List.getElem?_append_left (by rw [List.length_map]; exact hi), List.getElem?_map] at e
      cases q : ds[i]? with
      | none => rw [q] at e; cases e
      | some d' =>
        rw [q] at e
        cases e
        obtain ⟨v, h1, h2⟩ := r.get q
        refine ⟨v, ?_, h2⟩
        rw [List.getElem?_append_left (by rw [List.length_map, ← hl]; exact hi), List.getElem?_map, h1]
        rfl
    · rw [List.getElem?_append_right (by rw [List.length_map]; omega), List.getElem?_replicate] at e
      split at e <;> cases e
theorem FnG.body {x qual : Str} {st : Stmt} {f : Addr} {fd : FuncData} {N ps : List Str} {k : Nat} {g : FS} (Fx : Fun K x qual st f fd) (S : FnScope N ps (defScope st))
    (hb : ∀ (cdv : Value) (A : Around) (outer : List PySem.Env) (s : Shared) (H : Hp) (E : XK),
      Gx (cxOf (L2.CX P w) P w K mg base N qual (defScope st) f cdv A outer s H E) → Room k (cxOf (L2.CX P w) P w K mg base N qual (defScope st) f cdv A outer s H E).A →
      Takes (cxOf (L2.CX P w) P w K mg base N qual (defScope st) f cdv A outer s H E) (fun c d _ H => E c d H) →
      PassesOwn (model P w) (cxOf (L2.CX P w) P w K mg base N qual (defScope st) f cdv A outer s H E).A (cxOf (L2.CX P w) P w K mg base N qual (defScope st) f cdv A outer s H E).env (cxOf (L2.CX P w) P w K mg base N qual (defScope st) f cdv A outer s H E).xe →
      PFB (cxOf (L2.CX P w) P w K mg base N qual (defScope st) f cdv A outer s H E) (fun c d _ H => E c d H) (defBody st) g) :
    FnG P w K mg base (k + 1) f fd ps (fnA ps.length N.length g) := by
  obtain ⟨oc, od, kV, doc, pm, an, cdv, ct, osl, rfl, lk, hcd⟩ := Fx.ex
  intro A outer s H args us vs Q E hg hr e0 hbd r hsp
  obtain ⟨hl, ρ, sto, ds, R, rs, hq⟩ := hsp
  unfold fnA at hq
  rw [if_pos (by rw [rs.length]; exact hl)] at hq
  have KX : K.In s.heap := e0.mod.kin.keeps fun b o e => (e0.bs b o e).1
  have lim : s.heap.NoLimit := e0.mod.nolimit.keeps fun b o e => (e0.bs b o e).1
  have hkind : ∀ y ∈ ps.zip us, (defScope st).names.lookup y.1 = some .local ∨ ((defScope st).names.lookup y.1 = some .cell ∧ ((cellsFrom (s.heap.objs.size + 1) (defScope st).names []).lookup y.1).isSome = true) := by
    rintro ⟨n, v⟩ hy
    exact (S.par n (List.of_mem_zip hy).1).imp id fun q => ⟨q, PySem.W.cellsFrom_some _ _ _ (.inl q)⟩
  refine codeAny_call_function hr.depth (KX _ _ lk) rfl S.co S.gen rfl (PySem.W.codeRec_of KX hcd) (hbd _ _ _ _ ?_)
  refine wpAny_newFunctionEnv_cells S.kind hkind fun env he s1 x => ?_
  subst he
  refine ⟨lim.keeps x.toInCall.keep, codeAny_func ?_⟩
  have hr' := hr.deeper (envOfC qual (defScope st) s.heap.objs.size f cdv)
  have hbb := hb cdv A outer s H E ⟨by have := hr'.un; show (A.deeper _).units + 200 < cLine; omega, S.nd, hg⟩ hr' (takes_of rfl rfl rfl rfl) (passes_of rfl)
  have I : Inv (cxOf (L2.CX P w) P w K mg base N qual (defScope st) f cdv A outer s H E) [] (L2.start N vs) H s1 := inv_start S hr.hd e0 hl r x
  have go : rdS K mg (fun c d _ H => E c d H) g { nx := fun _ H' => Q .non H', rt := Q } (L2.start N vs) H := by
    refine ⟨ρ, sto, startE N.length ds, R, renv_start rs, ?_⟩
    unfold fnOf at hq
    cases hx : g (startE N.length ds) sto with
    | nx e1 s1 => simp only [hx] at hq; exact fun ρ1 H1 σ1 x R1 _ => hq ρ1 H1 .non x R1 .non
    | rt d s1 => simp only [hx] at hq; exact hq
    | bk _ _ => simp only [hx] at hq; exact False.elim hq
    | ct _ _ => simp only [hx] at hq; exact False.elim hq
    | exc e e1 s1 => simp only [hx] at hq; exact fun ρ1 H1 σ1 c dx x R1 _ q => hq ρ1 H1 c dx x R1 q
    | stuck => simp only [hx] at hq; exact False.elim hq
  refine wpAny_mono (hbb.run [] s1 (L2.start N vs) H _ I go) (fun fl s' hs => ?_) fun e s' hs => hs
  have fin : ∀ {σ' : L2.St} {H' : Hp} {v : V} {u : Value}, Inv (cxOf (L2.CX P w) P w K mg base N qual (defScope st) f cdv A outer s H E) [] σ' H' s' → RelV v u → Q v H' → CE outer P w H s Q u s' :=
    fun J rv q => ⟨_, _, J.os, J.bare, J.base, J.hok, rv, q⟩
  cases fl with
  | ret u => obtain ⟨v, σ', H', J, rv, q⟩ := hs; exact fin J rv q
  | next => obtain ⟨σ', H', J, q⟩ := hs; exact fin (v := V.non) (u := Value.none) J rfl q
  | brk => obtain ⟨_, _, _, q⟩ := hs; exact False.elim q
  | cont => obtain ⟨_, _, _, q⟩ := hs; exact False.elim q
end
/-! ### calls -/
def fNil : FA := fun _ st => .ok [] st
def fCons (f : FE) (g : FA) : FA := fun env st => (f env st).bind fun d st1 => (g env st1).bind fun ds st2 => .ok (d :: ds) st2
def fCall (F : Fn) (g : FA) : FE := fun env st => (g env st).bind fun ds st1 => F ds st1
section
variable {X : Cx} {W : WX} {pos : Pos} {e : Expr} {es : List Expr} {f : FE} {g : FA}
theorem pfa_nil : PFA X W [] fNil := paI pa_nil fun σ H Q ⟨ρ, st, env, R, E, h⟩ => h ρ H [] .refl R .nil
theorem pfa_cons (ha : PF X W e f) (hr : PFA X W es g) (hs : starEach (e :: es) X.env = (false, eval e X.env) :: starEach es X.env := by rfl) : PFA X W (e :: es) (fCons f g) :=
  paI (pa_cons ha hr hs) fun σ H Q ⟨ρ, st, env, R, E, h⟩ => by
    refine ⟨ρ, st, env, R, E, OkR.bind h fun ρ1 H1 st1 d v x1 R1 r1 h1 => ?_⟩
    refine ⟨ρ1, st1, env, R1, E.ext x1, OkR.bind h1 fun ρ2 H2 st2 ds vs x2 R2 r2 h2 => ?_⟩
    exact h2 ρ2 H2 _ .refl R2 (.cons (r1.ext x2) r2)
theorem run_g {k : Nat} {a : Addr} {fd : FuncData} {ps : List Str} {F : Fn} {pins : List (Addr × Obj)} {σ : L2.St} {H : Hp} {s : Shared} {Q : VK} {us : List Value} {vs : List V} {ρ : List Addr} {st : Store} {ds : List D} (Fg : FnG X.prog X.w X.K X.mg X.base k a fd ps F) (G : Gx X) (hr : Room k X.A)
    (hb : Binds X.K fd ps []) (tk : Takes X W) (hl : vs.length = ps.length) (I : Inv X pins σ H s) (r : Vals vs us) (R : Rel X.K ρ st H) (rs : RVs X.K ρ H ds vs) (h : OkR X.K X.mg (RV X.K) W ρ H σ (F ds st) Q) :
    wpAny (model X.prog X.w) X.A (PySem.call (.ref a) us) (EP X pins σ Q) X.xe s := by
  have hb' := hb s us I.kIn (by rw [List.append_nil, ← r.length]; exact hl)
  rw [List.append_nil] at hb'
  refine wpAny_call (codeAny_mono (Fg X.A X.stack s H ⟨us, []⟩ us vs Q (WE W σ) G.gd hr I.env0 hb' r ⟨hl, ρ, st, ds, R, rs, ?_⟩) fun r s' hq => ?_)
  · cases hx : F ds st with
    | ok d s1 => rw [hx] at h; exact h
    | exc e s1 => rw [hx] at h; exact h
    | stuck => rw [hx] at h; exact h
  · cases r with
    | error e => exact passAt tk σ pins H s e s' I hq
    | ok fl => cases fl with
      | ret u => exact I.after hq
      | next => exact False.elim hq
      | brk => exact False.elim hq
      | cont => exact False.elim hq
/-- the arity of a meaning's domain -/
def Ar (n : Nat) (F : Fn) : Prop := ∀ ds st, ds.length ≠ n → F ds st = .stuck
theorem Ar.body {p n : Nat} {g : FS} : Ar p (fnA p n g) := fun ds st h => by unfold fnA; rw [if_neg h]
theorem pf_call {k : Nat} {a : Addr} {fd : FuncData} {ps : List Str} {F : Fn} {x : Str} {p : Pos} (Fg : FnG X.prog X.w X.K X.mg X.base k a fd ps F) (G : Gx X) (hr : Room k X.A) (hm : X.mg x = some (.ref a)) (hk : PySem.W.keepIn X.K (.ref a) = true)
    (hb : Binds X.K fd ps []) (tk : Takes X W) (ha : PFA X W (e :: es) g) (hn : (e :: es).length = ps.length := by rfl) (hg : Gl X x := by rfl) (hdb : (x == ("__debug__" : Str)) = false := by decide)
    (he : starEach (e :: es) X.env = (false, eval e X.env) :: starEach es X.env := by rfl) (hpl : (backTo pos (starEach es X.env)).any (·.1) = false := by rfl)
    (har : Ar ps.length F) : PF X W (.Call (.Name x p) (e :: es) [] pos) (fCall F g) := by
  refine ⟨fun pins s σ H Q I ⟨ρ, st, env, R, E, h⟩ => ?_⟩
  refine wpAny_Call_Name_kw (ld_glob I hg hm ?_ hdb)
  have h1 : rdA X.K X.mg W g σ H fun vs H1 => ∃ ρ1 st1 ds, Rel X.K ρ1 st1 H1 ∧ RVs X.K ρ1 H1 ds vs ∧ OkR X.K X.mg (RV X.K) W ρ1 H1 σ (F ds st1) Q :=
    ⟨ρ, st, env, R, E, OkR.bind h fun ρ1 H1 st1 ds vs x1 R1 r1 h1 => ⟨ρ1, st1, ds, R1, r1, h1⟩⟩
  refine PySem.W.callWith_K (h₀ := X.base) I.ok.mod.kin hk (thn (ha.run pos pins s σ H _ I h1) fun us s1 ⟨vs, H1, I1, r, ρ1, st1, ds, R1, rs, q⟩ => ⟨I1.kIn, ?_⟩) he hpl
  have hl : ds.length = ps.length := by
    refine Classical.byContradiction fun z => ?_
    rw [har ds st1 z] at q
    exact q
  exact run_g Fg G hr hb tk (by rw [← rs.length]; exact hl) I1 r R1 rs q
theorem pf_call0 {k : Nat} {a : Addr} {fd : FuncData} {F : Fn} {x : Str} {p : Pos} (Fg : FnG X.prog X.w X.K X.mg X.base k a fd [] F) (G : Gx X) (hr : Room k X.A) (hm : X.mg x = some (.ref a)) (hk : PySem.W.keepIn X.K (.ref a) = true)
    (hb : Binds X.K fd [] []) (tk : Takes X W) (hg : Gl X x := by rfl) (hdb : (x == ("__debug__" : Str)) = false := by decide) : PF X W (.Call (.Name x p) [] [] pos) (fCall F fNil) := by
  refine ⟨fun pins s σ H Q I ⟨ρ, st, env, R, E, h⟩ => ?_⟩
  refine wpAny_Call_Name_kw (ld_glob I hg hm ?_ hdb)
  exact PySem.W.callWith_K0 I.kIn hk (run_g (us := []) (vs := []) Fg G hr hb tk rfl I .nil R .nil h)
end

/-! ### what a caller keeps: no more than the store that it had -/
mutual
def locsLt (n : Nat) : D → Bool
  | .tup xs => locsLts n xs
  | .lst xs => locsLts n xs
  | .frz xs => locsLts n xs
  | .loc l => decide (l < n)
  | _ => true
def locsLts (n : Nat) : List D → Bool
  | [] => true
  | x :: xs => locsLt n x && locsLts n xs
end
def soLt (n : Nat) : SO → Bool
  | .lst xs => locsLts n xs
  | .dK kvs => kvs.all fun p => locsLt n p.2
  | .dT kvs => kvs.all fun p => locsLt n p.2
  | .ins _ fs => fs.all fun p => locsLt n p.2
/-- a list of the callee's own is handed out for good -/
def hand (n : Nat) (st : Store) (d : D) : D := match d with
  | .loc l => if l < n then d else match st[l]? with
    | some (.lst xs) => .lst xs
    | _ => d
  | _ => d
def keepF (n : Nat) (r : R D) : R D := match r with
  | .ok d st => if locsLt n (hand n st d) && ((st.take n).all (soLt n) && decide (n ≤ st.length)) then .ok (hand n st d) (st.take n) else .stuck
  | .exc e st => if (e.fs.all fun p => locsLt n p.2) && ((st.take n).all (soLt n) && decide (n ≤ st.length)) then .exc e (st.take n) else .stuck
  | .stuck => .stuck
open Classical in
/-- .. where nothing that stood is changed -/
noncomputable def pureF (st0 : Store) (r : R D) : R D := match r with
  | .ok d st => if st.take st0.length = st0 ∧ locsLt st0.length (hand st0.length st d) = true then .ok (hand st0.length st d) st0 else .stuck
  | .exc e st => if st.take st0.length = st0 ∧ (e.fs.all fun p => locsLt st0.length p.2) = true then .exc e st0 else .stuck
  | .stuck => .stuck
section
variable {K : Fg} {ρ ρ' : List Addr} {H H' : Hp} {st st' : Store} {d : D} {v : V} {n : Nat}
mutual
theorem RV.lt : ∀ {d : D} {v : V}, RV K ρ H d v → locsLt ρ.length d = true
  | _, _, .non => rfl
  | _, _, .bl _ => rfl
  | _, _, .int _ => rfl
  | _, _, .str _ => rfl
  | _, _, .tup _ r => by rw [locsLt]; exact RVs.lt r
  | _, _, .lst _ _ r => by rw [locsLt]; exact RVs.lt r
  | _, _, .frz _ r => by rw [locsLt]; exact RVs.lt r
  | _, _, .loc e => by rw [locsLt]; exact decide_eq_true (List.getElem?_eq_some_iff.mp e).1
  | _, _, .obj => rfl
theorem RVs.lt : ∀ {ds : List D} {vs : List V}, RVs K ρ H ds vs → locsLts ρ.length ds = true
  | _, _, .nil => rfl
  | _, _, .cons r t => by rw [locsLts, RV.lt r, RVs.lt t]; rfl
end
theorem mem_take {α : Type} {l : List α} {n : Nat} {a : α} (h : a ∈ l.take n) : a ∈ l := List.mem_of_mem_take h
mutual
theorem RV.take (n : Nat) : ∀ {d : D} {v : V}, RV K ρ H d v → locsLt n d = true → RV K (ρ.take n) H d v
  | _, _, .non, _ => .non
  | _, _, .bl b, _ => .bl b
  | _, _, .int i, _ => .int i
  | _, _, .str s, _ => .str s
  | _, _, .tup h r, e => .tup (h.imp (fun ⟨a, b⟩ => ⟨fun m => a (mem_take m), b⟩) id) (RVs.take' n r (by rw [locsLt] at e; exact e))
  | _, _, .lst a b r, e => .lst (fun m => a (mem_take m)) b (RVs.take' n r (by rw [locsLt] at e; exact e))
  | _, _, .frz h r, e => .frz (h.imp (fun ⟨a, b⟩ => ⟨fun m => a (mem_take m), b⟩) id) (RVs.take' n r (by rw [locsLt] at e; exact e))
  | _, _, .loc h, e => .loc (by
    rw [locsLt] at e
    rw [List.getElem?_take_of_lt (of_decide_eq_true e)]
    exact h)
  | _, _, .obj, _ => .obj
theorem RVs.take' (n : Nat) : ∀ {ds : List D} {vs : List V}, RVs K ρ H ds vs → locsLts n ds = true → RVs K (ρ.take n) H ds vs
  | _, _, .nil, _ => .nil
  | _, _, .cons r t, e => by
    rw [locsLts, Bool.and_eq_true] at e
    exact .cons (RV.take n r e.1) (RVs.take' n t e.2)
end
theorem KVs.take {κ : Type} (n : Nat) : ∀ {ds : List (κ × D)} {vs : List (κ × V)}, KVs K ρ H ds vs → (ds.all fun p => locsLt n p.2) = true → KVs K (ρ.take n) H ds vs
  | _, _, .nil, _ => .nil
  | _, _, .cons r t, e => by
    rw [List.all_cons, Bool.and_eq_true] at e
    exact .cons (r.take n e.1) (KVs.take n t e.2)
theorem KVs.lt {κ : Type} : ∀ {ds : List (κ × D)} {vs : List (κ × V)}, KVs K ρ H ds vs → (ds.all fun p => locsLt ρ.length p.2) = true
  | _, _, .nil => rfl
  | _, _, .cons r t => by rw [List.all_cons, r.lt, KVs.lt t]; rfl
theorem OR.take {a : Addr} {so : SO} (n : Nat) (h : OR K ρ H a so) (e : soLt n so = true) : OR K (ρ.take n) H a so := by
  cases so with
  | lst xs => obtain ⟨vs, h1, h2⟩ := h; exact ⟨vs, h1, h2.take' n e⟩
  | dK kvs => obtain ⟨vs, h1, h2⟩ := h; exact ⟨vs, h1, h2.take n e⟩
  | dT kvs => obtain ⟨vs, h1, h2⟩ := h; exact ⟨vs, h1, h2.take n e⟩
  | ins C fs => obtain ⟨dx, vs, h1, h2⟩ := h; exact ⟨dx, vs, h1, h2.take n e⟩
theorem OR.lt {a : Addr} {so : SO} (h : OR K ρ H a so) : soLt ρ.length so = true := by
  cases so with
  | lst xs => obtain ⟨vs, h1, h2⟩ := h; exact h2.lt
  | dK kvs => obtain ⟨vs, h1, h2⟩ := h; exact h2.lt
  | dT kvs => obtain ⟨vs, h1, h2⟩ := h; exact h2.lt
  | ins C fs => obtain ⟨dx, vs, h1, h2⟩ := h; exact h2.lt
theorem Rel.allLt (R : Rel K ρ st H) : st.all (soLt st.length) = true := by
  rw [List.all_eq_true]
  intro so hm
  obtain ⟨l, hl, e⟩ := List.mem_iff_getElem.mp hm
  obtain ⟨a, _, h⟩ := R.loc (l := l) (so := so) (by rw [List.getElem?_eq_getElem hl, e])
  have := h.lt
  rwa [R.len] at this
theorem Rel.take (R : Rel K ρ st H) (n : Nat) (e : (st.take n).all (soLt n) = true) : Rel K (ρ.take n) (st.take n) H := by
  refine ⟨R.nd.sublist (List.take_sublist _ _), by rw [List.length_take, List.length_take, R.len], fun l a so h1 h2 => ?_⟩
  have hm : so ∈ st.take n := List.mem_of_getElem? h2
  have hl : l < n := by
    have := (List.getElem?_eq_some_iff.mp h2).1
    rw [List.length_take] at this
    omega
  rw [List.getElem?_take_of_lt hl] at h1 h2
  exact (R.at_ l a so h1 h2).take n (List.all_eq_true.mp e so hm)
theorem Ext.take (x : Ext ρ H ρ' H') : Ext ρ H (ρ'.take ρ.length) H' := by
  have e : ρ'.take ρ.length = ρ := by
    obtain ⟨t, ht⟩ := x.pre
    rw [← ht, List.take_left]
  rw [e]
  exact ⟨List.prefix_refl _, x.keep, fun _ m n => absurd m n⟩
theorem RV.hand (R : Rel K ρ st H) (r : RV K ρ H d v) (hn : n ≤ st.length) (e : locsLt n (hand n st d) = true) : RV K (ρ.take n) H (hand n st d) v := by
  cases r with
  | @loc l a h =>
    simp only [Fl.hand] at e ⊢
    by_cases hl : l < n
    · rw [if_pos hl] at e ⊢
      exact (RV.loc h).take n e
    · rw [if_neg hl] at e ⊢
      cases hs : st[l]? with
      | none =>
        rw [hs] at e
        simp only [locsLt] at e
        exact absurd (of_decide_eq_true e) hl
      | some so =>
        cases so with
        | lst xs =>
          simp only [hs] at e ⊢
          obtain ⟨vs, h1, h2⟩ := R.at_ l a _ h hs
          refine .lst (fun m => ?_) h1 (h2.take' n (by simpa [locsLt] using e))
          obtain ⟨j, hj, ej⟩ := List.mem_iff_getElem.mp m
          rw [List.length_take] at hj
          have q : ρ[j]? = some a := by
            rw [← ej, List.getElem_take, List.getElem?_eq_getElem (by omega)]
          have := nodup_at R.nd q h
          omega
        | _ =>
          simp only [hs, locsLt] at e
          exact absurd (of_decide_eq_true e) hl
  | tup h r => exact (RV.tup h r).take n e
  | lst a b r => exact (RV.lst a b r).take n e
  | frz a r => exact (RV.frz a r).take n e
  | _ => constructor
theorem ExcR.take {mg : Mg} {e : Ex} {cls : Value} {dx : Option Addr} (n : Nat) (x : ExcR K mg ρ H e cls dx) (h : (e.fs.all fun p => locsLt n p.2) = true) : ExcR K mg (ρ.take n) H e cls dx := by
  obtain ⟨C, h1, h2, h3⟩ := x
  exact ⟨C, h1, h2, h3.imp id fun ⟨d, gs, nn, a, b, c, r⟩ => ⟨d, gs, nn, a, fun m => b (mem_take m), c, r.take n h⟩⟩
end
section
variable {P : Program} {w : World} {K : Fg} {mg : Mg} {base : Heap} {k : Nat} {f : Addr} {fd : FuncData} {ps : List Str} {F : Fn}
theorem okR_keep {W : WX} {ρ : List Addr} {H : Hp} {σ : L2.St} {st : Store} {r : R D} {Q : VK} (R0 : Rel K ρ st H) (h : OkR K mg (RV K) W ρ H σ (keepF st.length r) Q) : OkR K mg (RV K) W ρ H σ r Q := by
  cases r with
  | stuck => exact h
  | ok d s1 =>
    unfold keepF at h
    simp only at h
    split at h
    · rename_i hc
      rw [Bool.and_eq_true, Bool.and_eq_true] at hc
      obtain ⟨c1, c2, c3⟩ := hc
      intro ρ1 H1 v x R1 r1
      have hn := of_decide_eq_true c3
      have e : ρ.length = st.length := R0.len
      refine h (ρ1.take st.length) H1 v (e ▸ x.take) (R1.take _ c2) (RV.hand R1 r1 hn c1)
    · exact h.elim
  | exc e s1 =>
    unfold keepF at h
    simp only at h
    split at h
    · rename_i hc
      rw [Bool.and_eq_true, Bool.and_eq_true] at hc
      obtain ⟨c1, c2, c3⟩ := hc
      intro ρ1 H1 c dx x R1 r1
      have e : ρ.length = st.length := R0.len
      exact h (ρ1.take st.length) H1 c dx (e ▸ x.take) (R1.take _ c2) (r1.take _ c1)
    · exact h.elim
theorem okR_pure {W : WX} {ρ : List Addr} {H : Hp} {σ : L2.St} {st : Store} {r : R D} {Q : VK} (R0 : Rel K ρ st H) (h : OkR K mg (RV K) W ρ H σ (pureF st r) Q) : OkR K mg (RV K) W ρ H σ r Q := by
  have la := R0.allLt
  refine okR_keep R0 ?_
  cases r with
  | stuck => exact h
  | ok d s1 =>
    unfold pureF at h
    unfold keepF
    simp only at h ⊢
    split at h
    · rename_i hc
      obtain ⟨c1, c2⟩ := hc
      have hl : st.length ≤ s1.length := by
        have := congrArg List.length c1
        rw [List.length_take] at this
        omega
      rw [c2, c1, la, decide_eq_true hl]
      exact h
    · exact h.elim
  | exc e s1 =>
    unfold pureF at h
    unfold keepF
    simp only at h ⊢
    split at h
    · rename_i hc
      obtain ⟨c1, c2⟩ := hc
      have hl : st.length ≤ s1.length := by
        have := congrArg List.length c1
        rw [List.length_take] at this
        omega
      rw [c2, c1, la, decide_eq_true hl]
      exact h
    · exact h.elim
theorem FnG.keep (h : FnG P w K mg base k f fd ps F) : FnG P w K mg base k f fd ps (fun ds st => keepF st.length (F ds st)) :=
  fun A outer s H args us vs Q E g r e b v ⟨hl, ρ, st, ds, R, rs, q⟩ => h A outer s H args us vs Q E g r e b v ⟨hl, ρ, st, ds, R, rs, okR_keep R q⟩
theorem FnG.pure (h : FnG P w K mg base k f fd ps F) : FnG P w K mg base k f fd ps (fun ds st => pureF st (F ds st)) :=
  fun A outer s H args us vs Q E g r e b v ⟨hl, ρ, st, ds, R, rs, q⟩ => h A outer s H args us vs Q E g r e b v ⟨hl, ρ, st, ds, R, rs, okR_pure R q⟩
/-- a stated meaning -/
theorem FnG.isPure {G : Fn} (h : FnG P w K mg base k f fd ps F) (i : ∀ ds st, G ds st = .stuck ∨ pureF st (F ds st) = G ds st) : FnG P w K mg base k f fd ps G :=
  h.pure.less fun ds st => (i ds st).imp id Eq.symm
end
end Fl
namespace Fl
open PySem PySem.Spec PyProof.Rows L2
/-! ### values that are data, and their == -/
mutual
def eqD : D → D → Bool
  | .non, .non => true
  | .bl a, .bl b => a == b
  | .bl a, .int j => (if a then 1 else 0) == j
  | .int i, .bl b => i == (if b then 1 else 0)
  | .int i, .int j => i == j
  | .str x, .str y => x == y
  | .tup xs, .tup ys => eqDs xs ys
  | .lst xs, .lst ys => eqDs xs ys
  | _, _ => false
def eqDs : List D → List D → Bool
  | [], [] => true
  | x :: xs, y :: ys => eqD x y && eqDs xs ys
  | _, _ => false
end
mutual
/-- == of the two is reckoned -/
def cmpD : D → D → Bool
  | .tup xs, .tup ys => cmpDs xs ys
  | .lst xs, .lst ys => decide (xs.length ≠ ys.length) || cmpDs xs ys
  | .non, .non => true | .non, .bl _ => true | .non, .int _ => true | .non, .str _ => true | .non, .tup _ => true | .non, .lst _ => true
  | .bl _, .non => true | .bl _, .bl _ => true | .bl _, .int _ => true | .bl _, .str _ => true | .bl _, .tup _ => true | .bl _, .lst _ => true
  | .int _, .non => true | .int _, .bl _ => true | .int _, .int _ => true | .int _, .str _ => true | .int _, .tup _ => true | .int _, .lst _ => true
  | .str _, .non => true | .str _, .bl _ => true | .str _, .int _ => true | .str _, .str _ => true | .str _, .tup _ => true | .str _, .lst _ => true
  | .tup _, .non => true | .tup _, .bl _ => true | .tup _, .int _ => true | .tup _, .str _ => true | .tup _, .lst _ => true
  | .lst _, .non => true | .lst _, .bl _ => true | .lst _, .int _ => true | .lst _, .str _ => true | .lst _, .tup _ => true
  | _, _ => false
def cmpDs : List D → List D → Bool
  | x :: xs, y :: ys => cmpD x y && cmpDs xs ys
  | _, _ => true
end
mutual
/-- how deep the two are, where both go on -/
def depD : D → Nat
  | .tup xs => depDs xs + 1
  | .lst xs => depDs xs + 1
  | _ => 0
def depDs : List D → Nat
  | [] => 0
  | x :: xs => max (depD x) (depDs xs)
end
def lstOf (st : Store) : D → Option (List D)
  | .lst xs => some xs
  | .loc l => match st[l]? with
    | some (.lst xs) => some xs
    | _ => none
  | _ => none
/-- a list of the store by what it holds -/
def res (st : Store) (d : D) : D := match d with
  | .loc l => match st[l]? with
    | some (.lst xs) => .lst xs
    | _ => d
  | _ => d
section
variable {K : Fg} {ρ : List Addr} {H : Hp} {st : Store} {d e : D} {v u : V} {xs : List D}
theorem lstOf_ok (R : Rel K ρ st H) (r : RV K ρ H d v) (h : lstOf st d = some xs) : ∃ a vs, v = .ref a ∧ H a = some (.lst vs) ∧ RVs K ρ H xs vs := by
  cases r with
  | lst n e rs => cases h; exact ⟨_, _, rfl, e, rs⟩
  | @loc l a e =>
    unfold lstOf at h
    simp only at h
    split at h
    · rename_i ys hs
      cases h
      obtain ⟨vs, h1, h2⟩ := R.at_ l a _ e hs
      exact ⟨a, vs, rfl, h1, h2⟩
    · cases h
  | _ => cases h
end
mutual
/-- as RV, but any list of the heap counts as a list -/
inductive RX (K : Fg) (ρ : List Addr) (H : Hp) : D → V → Prop
  | non : RX K ρ H .non .non
  | bl (b : Bool) : RX K ρ H (.bl b) (.bl b)
  | int (i : Int) : RX K ρ H (.int i) (.int i)
  | str (x : Str) : RX K ρ H (.str x) (.str x)
  | tup {a : Addr} {xs : List D} {vs : List V} : (a ∉ ρ ∧ H a = some (.tup vs)) ∨ KTup K a vs → RXs K ρ H xs vs → RX K ρ H (.tup xs) (.ref a)
  | lst {a : Addr} {xs : List D} {vs : List V} : True → H a = some (.lst vs) → RXs K ρ H xs vs → RX K ρ H (.lst xs) (.ref a)
  | frz {xs : List D} {v : V} : RX K ρ H (.frz xs) v
  | loc {l : Nat} {v : V} : RX K ρ H (.loc l) v
  | obj {a : Addr} {v : V} : RX K ρ H (.obj a) v
inductive RXs (K : Fg) (ρ : List Addr) (H : Hp) : List D → List V → Prop
  | nil : RXs K ρ H [] []
  | cons {d : D} {ds : List D} {v : V} {vs : List V} : RX K ρ H d v → RXs K ρ H ds vs → RXs K ρ H (d :: ds) (v :: vs)
end
mutual
theorem RV.rx {K : Fg} {ρ : List Addr} {H : Hp} : ∀ {d : D} {v : V}, RV K ρ H d v → RX K ρ H d v
  | _, _, .non => .non
  | _, _, .bl b => .bl b
  | _, _, .int i => .int i
  | _, _, .str x => .str x
  | _, _, .tup h r => .tup h (RVs.rx r)
  | _, _, .lst _ h r => .lst trivial h (RVs.rx r)
  | _, _, .frz _ _ => .frz
  | _, _, .loc _ => .loc
  | _, _, .obj => .obj
theorem RVs.rx {K : Fg} {ρ : List Addr} {H : Hp} : ∀ {d : List D} {v : List V}, RVs K ρ H d v → RXs K ρ H d v
  | _, _, .nil => .nil
  | _, _, .cons r t => .cons (RV.rx r) (RVs.rx t)
end
theorem RXs.length {K : Fg} {ρ : List Addr} {H : Hp} : ∀ {ds : List D} {vs : List V}, RXs K ρ H ds vs → ds.length = vs.length
  | _, _, .nil => rfl
  | _, _, .cons _ t => by rw [List.length_cons, List.length_cons, RXs.length t]
theorem RX.sqT {K : Fg} {ρ : List Addr} {H : Hp} {a : Addr} {xs : List D} (r : RX K ρ H (.tup xs) (.ref a)) : ∃ vs, SqT K H a vs ∧ RXs K ρ H xs vs := by
  cases r with
  | tup h r =>
    refine ⟨_, ?_, r⟩
    rcases h with ⟨_, e⟩ | e
    · exact .inl (.inl e)
    · exact .inr e
theorem RV.res {K : Fg} {ρ : List Addr} {st : Store} {H : Hp} {d : D} {v : V} (R : Rel K ρ st H) (r : RV K ρ H d v) : RX K ρ H (res st d) v := by
  cases r with
  | @loc l a e =>
    unfold Fl.res
    simp only
    split
    · rename_i ys hs
      obtain ⟨vs, h1, h2⟩ := R.at_ l a _ e hs
      exact .lst trivial h1 h2.rx
    · exact .loc
  | non => exact .non
  | bl b => exact .bl b
  | int i => exact .int i
  | str x => exact .str x
  | tup h r => exact .tup h r.rx
  | lst a b r => exact .lst trivial b r.rx
  | frz a r => exact .frz
  | obj => exact .obj
section
variable {X : Cx} {pins : List (Addr × Obj)} {σ : L2.St} {H : Hp} {s : Shared} {ρ : List Addr}
/-- a list or tuple in the heap, whatever stands about it -/
def Lk (X : Cx) (H : Hp) (s : Shared) (v : V) (d : D) : Prop := ∃ pins σ, Inv X pins σ H s
theorem tup_at (I : Inv X pins σ H s) {a : Addr} {xs : List D} (r : RX X.K ρ H (.tup xs) (.ref a)) : ∃ (vs : List V) (its : List Value), RXs X.K ρ H xs vs ∧ Vals vs its ∧ s.heap.IsTuple a its.toArray := by
  obtain ⟨vs, hs, rs⟩ := r.sqT
  obtain ⟨its, rv, h, _⟩ := I.tuple hs
  exact ⟨vs, its, rs, rv, h⟩
theorem lst_at (I : Inv X pins σ H s) {a : Addr} {xs : List D} (r : RX X.K ρ H (.lst xs) (.ref a)) : ∃ (vs : List V) (its : List Value), RXs X.K ρ H xs vs ∧ Vals vs its ∧ s.heap.IsList a its.toArray := by
  cases r with
  | lst n e rs =>
    obtain ⟨its, rv, h, _⟩ := I.list (SqL.of e)
    exact ⟨_, its, rs, rv, h.isList⟩
theorem eqDs_len : ∀ {xs ys : List D}, xs.length ≠ ys.length → eqDs xs ys = false
  | [], [], h => absurd rfl h
  | [], _ :: _, _ => rfl
  | _ :: _, [], _ => rfl
  | x :: xs, y :: ys, h => by rw [eqDs, eqDs_len (fun z => h (by simp [z])), Bool.and_false]
/-- the places that both have -/
def pairD (xs ys : List D) (j : Nat) : Bool := match xs[j]?, ys[j]? with
  | some x, some y => eqD x y
  | _, _ => false
theorem pairD_all : ∀ (xs ys : List D), ((List.range (min xs.length ys.length)).all (pairD xs ys) && xs.length == ys.length) = eqDs xs ys
  | [], [] => rfl
  | [], _ :: _ => by simp [eqDs]
  | _ :: _, [] => by simp [eqDs]
  | x :: xs, y :: ys => by
    rw [eqDs, ← pairD_all xs ys]
    have e : min (x :: xs).length (y :: ys).length = min xs.length ys.length + 1 := by simp only [List.length_cons]; omega
    rw [e, List.range_succ_eq_map, List.all_cons, List.all_map]
    have e2 : (pairD (x :: xs) (y :: ys) ∘ Nat.succ) = pairD xs ys := by
      funext j
      simp [pairD]
    rw [e2]
    have e3 : ((x :: xs).length == (y :: ys).length) = (xs.length == ys.length) := by simp
    rw [e3, Bool.and_assoc]
    rfl
theorem depDs_mem {xs : List D} : ∀ {x : D}, x ∈ xs → depD x ≤ depDs xs := by
  induction xs with
  | nil => intro x h; cases h
  | cons y ys ih =>
    intro x h
    rw [depDs]
    rcases List.mem_cons.mp h with e | h
    · subst e; omega
    · have := ih h; omega
theorem sames {ds : List D} (ih : ∀ d ∈ ds, ∀ (e : D) (v : V), RX X.K ρ H d v → RX X.K ρ H e v → cmpD d e = true → eqD d e = true) :
    ∀ {es : List D} {vs : List V}, RXs X.K ρ H ds vs → RXs X.K ρ H es vs → cmpDs ds es = true → eqDs ds es = true := by
  induction ds with
  | nil => intro es vs r1 r2 _; cases r1; cases r2; rfl
  | cons d ds ihd =>
    intro es vs r1 r2 hc
    cases r1 with
    | cons a b =>
      cases r2 with
      | cons c e =>
        rw [cmpDs, Bool.and_eq_true] at hc
        rw [eqDs, ih d List.mem_cons_self _ _ a c hc.1, ihd (fun x hx => ih x (List.mem_cons_of_mem _ hx)) b e hc.2]
        rfl
theorem objs_tt {a : Addr} {i1 i2 : Array Value} (h1 : s.heap.IsTuple a i1) (h2 : s.heap.IsTuple a i2) : i1 = i2 := by
  obtain ⟨o1, e1, c1, m1, d1⟩ := h1
  obtain ⟨o2, e2, c2, m2, d2⟩ := h2
  rw [e1] at e2; cases e2
  rw [d1] at d2
  injection d2
theorem objs_ll {a : Addr} {i1 i2 : Array Value} (h1 : s.heap.IsList a i1) (h2 : s.heap.IsList a i2) : i1 = i2 := by
  obtain ⟨o1, e1, c1, m1, d1⟩ := h1
  obtain ⟨o2, e2, c2, m2, d2⟩ := h2
  rw [e1] at e2; cases e2
  rw [d1] at d2
  injection d2
theorem objs_tl {a : Addr} {i1 i2 : Array Value} (h1 : s.heap.IsTuple a i1) (h2 : s.heap.IsList a i2) : False := by
  obtain ⟨o1, e1, c1, m1, d1⟩ := h1
  obtain ⟨o2, e2, c2, m2, d2⟩ := h2
  rw [e1] at e2; cases e2
  rw [c1] at c2
  injection c2 with c3
  revert c3
  decide
/-- the same value, read twice -/
theorem same_D (I : Inv X pins σ H s) : ∀ (n : Nat) (d e : D) (v : V), depD d < n → RX X.K ρ H d v → RX X.K ρ H e v → cmpD d e = true → eqD d e = true := by
  intro n
  induction n with
  | zero => intro d e v h; omega
  | succ n ih =>
    intro d e v hn r1 r2 hc
    cases r1 with
    | non => cases r2 <;> first | rfl | cases hc
    | bl b => cases r2 <;> first | (simp [eqD]; done) | cases hc
    | int i => cases r2 <;> first | (simp [eqD]; done) | cases hc
    | str x => cases r2 <;> first | (simp [eqD]; done) | cases hc
    | @tup a xs vs h q =>
      obtain ⟨vs, its, rs, rvs, hT⟩ := tup_at I (.tup h q)
      cases r2 with
      | @tup _ ys us h2 q2 =>
        obtain ⟨us, its2, rs2, rvs2, hT2⟩ := tup_at I (.tup h2 q2)
        have di : its = its2 := by simpa using congrArg Array.toList (objs_tt hT hT2)
        subst di
        have ev := rvs.inj rvs2
        subst ev
        rw [eqD]
        rw [cmpD] at hc
        rw [depD] at hn
        exact sames (fun d hd e v a b c => ih d e v (by have := depDs_mem hd; omega) a b c) rs rs2 hc
      | lst h3 h4 q2 =>
        obtain ⟨us, its2, rs2, rvs2, hT2⟩ := lst_at I (.lst h3 h4 q2)
        exact (objs_tl hT hT2).elim
      | _ => cases hc
    | @lst a xs vs h h' q =>
      obtain ⟨vs, its, rs, rvs, hT⟩ := lst_at I (.lst h h' q)
      cases r2 with
      | @lst _ ys us h2 h2' q2 =>
        obtain ⟨us, its2, rs2, rvs2, hT2⟩ := lst_at I (.lst h2 h2' q2)
        have di : its = its2 := by simpa using congrArg Array.toList (objs_ll hT hT2)
        subst di
        have ev := rvs.inj rvs2
        subst ev
        have hl : xs.length = ys.length := by rw [rs.length, rs2.length]
        rw [eqD]
        rw [cmpD, decide_eq_false (by simpa using hl), Bool.false_or] at hc
        rw [depD] at hn
        exact sames (fun d hd e v a b c => ih d e v (by have := depDs_mem hd; omega) a b c) rs rs2 hc
      | tup h3 q2 =>
        obtain ⟨us, its2, rs2, rvs2, hT2⟩ := tup_at I (.tup h3 q2)
        exact (objs_tl hT2 hT).elim
      | _ => cases hc
    | frz => cases hc
    | loc => cases hc
    | obj => cases hc
theorem eqAts {A : Around} {ds : List D} (ih : ∀ d ∈ ds, ∀ (e : D) (v u : V) (x y : Value), RX X.K ρ H d v → RX X.K ρ H e u → RelV v x → RelV u y → cmpD d e = true → A.units + min (depD d) (depD e) < cLine → SeqAt.EqAt A s x y (eqD d e)) :
    ∀ {es : List D} {vs us : List V} {xs ys : List Value}, RXs X.K ρ H ds vs → RXs X.K ρ H es us → Vals vs xs → Vals us ys → cmpDs ds es = true → A.units + min (depDs ds) (depDs es) < cLine →
      ∀ j (h1 : j < xs.length) (h2 : j < ys.length), SeqAt.EqAt A s xs[j] ys[j] (pairD ds es j) := by
  induction ds with
  | nil => intro es vs us xs ys r1 r2 q1 q2 _ _ j h1; cases r1; cases q1; exact absurd h1 (Nat.not_lt_zero _)
  | cons d ds ihd =>
    intro es vs us xs ys r1 r2 q1 q2 hc hu j h1 h2
    cases r1 with
    | cons a b =>
      cases r2 with
      | nil => cases q2; exact absurd h2 (Nat.not_lt_zero _)
      | cons c e =>
        cases q1 with
        | cons w1 w2 =>
          cases q2 with
          | cons w3 w4 =>
            rw [cmpDs, Bool.and_eq_true] at hc
            rw [depDs, depDs] at hu
            cases j with
            | zero => exact ih d List.mem_cons_self _ _ _ _ _ a c w1 w3 hc.1 (by omega)
            | succ j => 
              have := ihd (fun x hx => ih x (List.mem_cons_of_mem _ hx)) b e w2 w4 hc.2 (by omega) j (Nat.lt_of_succ_lt_succ h1) (Nat.lt_of_succ_lt_succ h2)
              simpa [pairD] using this
theorem eqAt_D (I : Inv X pins σ H s) : ∀ (n : Nat) (d e : D) (A : Around) (v u : V) (x y : Value), depD d < n → RX X.K ρ H d v → RX X.K ρ H e u → RelV v x → RelV u y → cmpD d e = true → A.units + min (depD d) (depD e) < cLine → SeqAt.EqAt A s x y (eqD d e) := by
  intro n
  induction n with
  | zero => intro d e A v u x y h; omega
  | succ n ih =>
    intro d e A v u x y hn rv ru rx ry hc hu
    have hA : A.units < cLine := by omega
    cases rv with
    | non =>
      obtain rfl : x = Value.none := rx
      cases ru with
      | non => cases ry; exact SeqAt.EqAt.same _
      | bl b => cases ry; exact SeqAt.EqAt.none_bool b
      | int i => obtain ⟨t, rfl⟩ := ry; exact SeqAt.EqAt.none_int i t
      | str z => obtain ⟨t, rfl⟩ := ry; exact SeqAt.EqAt.none_str z t
      | tup h r => cases ry; obtain ⟨_, _, _, _, hT⟩ := tup_at I (.tup h r); exact SeqAt.EqAt.none_tuple hT hA
      | lst h1 h2 r => cases ry; obtain ⟨_, _, _, _, hT⟩ := lst_at I (.lst h1 h2 r); exact SeqAt.EqAt.none_list hT hA
      | _ => cases hc
    | bl a =>
      obtain rfl : x = Value.bool a := rx
      cases ru with
      | non => cases ry; exact SeqAt.EqAt.bool_none a
      | bl b => cases ry; exact SeqAt.EqAt.bool_bool a b
      | int i => obtain ⟨t, rfl⟩ := ry; exact SeqAt.EqAt.bool_int a i t
      | str z => obtain ⟨t, rfl⟩ := ry; exact SeqAt.EqAt.bool_str a z t
      | tup h r => cases ry; obtain ⟨_, _, _, _, hT⟩ := tup_at I (.tup h r); exact SeqAt.EqAt.bool_tuple a hT hA
      | lst h1 h2 r => cases ry; obtain ⟨_, _, _, _, hT⟩ := lst_at I (.lst h1 h2 r); exact SeqAt.EqAt.bool_list a hT hA
      | _ => cases hc
    | int a =>
      obtain ⟨t', rfl⟩ := rx
      cases ru with
      | non => cases ry; exact SeqAt.EqAt.int_none a t'
      | bl b => cases ry; exact SeqAt.EqAt.int_bool a t' b
      | int i => obtain ⟨t, rfl⟩ := ry; exact SeqAt.EqAt.int_int a t' i t
      | str z => obtain ⟨t, rfl⟩ := ry; exact SeqAt.EqAt.int_str a t' z t
      | tup h r => cases ry; obtain ⟨_, _, _, _, hT⟩ := tup_at I (.tup h r); exact SeqAt.EqAt.int_tuple a t' hT hA
      | lst h1 h2 r => cases ry; obtain ⟨_, _, _, _, hT⟩ := lst_at I (.lst h1 h2 r); exact SeqAt.EqAt.int_list a t' hT hA
      | _ => cases hc
    | str a =>
      obtain ⟨t', rfl⟩ := rx
      cases ru with
      | non => cases ry; exact SeqAt.EqAt.str_none a t'
      | bl b => cases ry; exact SeqAt.EqAt.str_bool a t' b
      | int i => obtain ⟨t, rfl⟩ := ry; exact SeqAt.EqAt.str_int a t' i t
      | str z => obtain ⟨t, rfl⟩ := ry; exact SeqAt.EqAt.str_str a t' z t
      | tup h r => cases ry; obtain ⟨_, _, _, _, hT⟩ := tup_at I (.tup h r); exact SeqAt.EqAt.str_tuple a t' hT hA
      | lst h1 h2 r => cases ry; obtain ⟨_, _, _, _, hT⟩ := lst_at I (.lst h1 h2 r); exact SeqAt.EqAt.str_list a t' hT hA
      | _ => cases hc
    | @tup a xs vs h q =>
      obtain rfl : x = Value.ref a := rx
      obtain ⟨vs, its, rs, rvs, hT⟩ := tup_at I (.tup h q)
      cases ru with
      | non => cases ry; exact SeqAt.EqAt.tuple_none hT hA
      | bl b => cases ry; exact SeqAt.EqAt.tuple_bool b hT hA
      | int i => obtain ⟨t, rfl⟩ := ry; exact SeqAt.EqAt.tuple_int i t hT hA
      | str z => obtain ⟨t, rfl⟩ := ry; exact SeqAt.EqAt.tuple_str z t hT hA
      | lst h1 h2 r => cases ry; obtain ⟨_, _, _, _, hL⟩ := lst_at I (.lst h1 h2 r); exact SeqAt.EqAt.tuple_list hT hL hA
      | @tup b ys us h2 q2 =>
        obtain rfl : y = Value.ref b := ry
        by_cases hab : a = b
        · subst hab
          rw [same_D I _ _ _ _ (Nat.lt_succ_self _) (.tup h q) (.tup h2 q2) hc]
          exact SeqAt.EqAt.same _
        · obtain ⟨us, its2, rs2, rvs2, hT2⟩ := tup_at I (.tup h2 q2)
          have n1 : its.length = xs.length := by rw [← rvs.length, rs.length]
          have n2 : its2.length = ys.length := by rw [← rvs2.length, rs2.length]
          rw [cmpD] at hc
          rw [depD] at hn hu
          rw [depD] at hu
          have he := eqAts (A := A.in1) (fun d hd e v u x y => ih d e A.in1 v u x y (by have := depDs_mem hd; omega)) rs rs2 rvs rvs2 hc (by show A.units + 1 + _ < cLine; omega)
          rw [eqD, ← pairD_all xs ys, ← n1, ← n2]
          have := SeqAt.EqAt.of_refs hab (SeqAt.RcAt.tuples (e := pairD xs ys) hT hT2 hA fun j h1 h2 => by
            have := he j (by simpa using h1) (by simpa using h2)
            simpa using this)
          simpa using this
      | _ => cases hc
    | @lst a xs vs h h' q =>
      obtain rfl : x = Value.ref a := rx
      obtain ⟨vs, its, rs, rvs, hT⟩ := lst_at I (.lst h h' q)
      cases ru with
      | non => cases ry; exact SeqAt.EqAt.list_none hT hA
      | bl b => cases ry; exact SeqAt.EqAt.list_bool b hT hA
      | int i => obtain ⟨t, rfl⟩ := ry; exact SeqAt.EqAt.list_int i t hT hA
      | str z => obtain ⟨t, rfl⟩ := ry; exact SeqAt.EqAt.list_str z t hT hA
      | tup h1 r => cases ry; obtain ⟨_, _, _, _, hL⟩ := tup_at I (.tup h1 r); exact SeqAt.EqAt.list_tuple hT hL hA
      | @lst b ys us h2 h2' q2 =>
        obtain rfl : y = Value.ref b := ry
        by_cases hab : a = b
        · subst hab
          rw [same_D I _ _ _ _ (Nat.lt_succ_self _) (.lst h h' q) (.lst h2 h2' q2) hc]
          exact SeqAt.EqAt.same _
        · obtain ⟨us, its2, rs2, rvs2, hT2⟩ := lst_at I (.lst h2 h2' q2)
          have n1 : its.length = xs.length := by rw [← rvs.length, rs.length]
          have n2 : its2.length = ys.length := by rw [← rvs2.length, rs2.length]
          rw [eqD]
          by_cases hl : xs.length = ys.length
          · rw [cmpD, decide_eq_false (by simpa using hl), Bool.false_or] at hc
            rw [depD] at hn hu
            rw [depD] at hu
            have he := eqAts (A := A.in1) (fun d hd e v u x y => ih d e A.in1 v u x y (by have := depDs_mem hd; omega)) rs rs2 rvs rvs2 hc (by show A.units + 1 + _ < cLine; omega)
            have h5 := SeqAt.EqAt.of_refs hab (SeqAt.RcAt.lists (e := pairD xs ys) hT hT2 (by simp; omega) hA fun j h1 h2 => by
              have := he j (by simpa using h1) (by simpa using h2)
              simpa using this)
            rw [← pairD_all xs ys, hl, Nat.min_self]
            have e4 : its.toArray.size = ys.length := by simp; omega
            rw [e4] at h5
            simpa using h5
          · rw [eqDs_len hl]
            exact SeqAt.EqAt.of_refs hab (SeqAt.RcAt.lists_lengths hT hT2 (by simp; omega) hA)
      | _ => cases hc
    | frz => cases hc
    | loc => cases hc
    | obj => cases hc
theorem rcEq_D (I : Inv X pins σ H s) {d e : D} {A : Around} {v u : V} {x y : Value} (rv : RX X.K ρ H d v) (ru : RX X.K ρ H e u) (rx : RelV v x) (ry : RelV u y) (hc : cmpD d e = true) (hu : A.units + min (depD d) (depD e) < cLine) : SeqAt.RcAt A s x y (eqD d e) := by
  have hA : A.units < cLine := by omega
  cases rv with
  | non =>
    obtain rfl : x = Value.none := rx
    cases ru with
    | non => cases ry; exact SeqAt.RcAt.none_none
    | bl b => cases ry; exact SeqAt.RcAt.none_bool b
    | int i => obtain ⟨t, rfl⟩ := ry; exact SeqAt.RcAt.none_int i t
    | str z => obtain ⟨t, rfl⟩ := ry; exact SeqAt.RcAt.none_str z t
    | tup h r => cases ry; obtain ⟨_, _, _, _, hT⟩ := tup_at I (.tup h r); exact SeqAt.RcAt.none_tuple hT hA
    | lst h1 h2 r => cases ry; obtain ⟨_, _, _, _, hT⟩ := lst_at I (.lst h1 h2 r); exact SeqAt.RcAt.none_list hT hA
    | _ => cases hc
  | bl a =>
    obtain rfl : x = Value.bool a := rx
    cases ru with
    | non => cases ry; exact SeqAt.RcAt.bool_none a
    | bl b => cases ry; exact SeqAt.RcAt.bool_bool a b
    | int i => obtain ⟨t, rfl⟩ := ry; exact SeqAt.RcAt.bool_int a i t
    | str z => obtain ⟨t, rfl⟩ := ry; exact SeqAt.RcAt.bool_str a z t
    | tup h r => cases ry; obtain ⟨_, _, _, _, hT⟩ := tup_at I (.tup h r); exact SeqAt.RcAt.bool_tuple a hT hA
    | lst h1 h2 r => cases ry; obtain ⟨_, _, _, _, hT⟩ := lst_at I (.lst h1 h2 r); exact SeqAt.RcAt.bool_list a hT hA
    | _ => cases hc
  | int a =>
    obtain ⟨t', rfl⟩ := rx
    cases ru with
    | non => cases ry; exact SeqAt.RcAt.int_none a t'
    | bl b => cases ry; exact SeqAt.RcAt.int_bool a t' b
    | int i => obtain ⟨t, rfl⟩ := ry; exact SeqAt.RcAt.int_int a t' i t
    | str z => obtain ⟨t, rfl⟩ := ry; exact SeqAt.RcAt.int_str a t' z t
    | tup h r => cases ry; obtain ⟨_, _, _, _, hT⟩ := tup_at I (.tup h r); exact SeqAt.RcAt.int_tuple a t' hT hA
    | lst h1 h2 r => cases ry; obtain ⟨_, _, _, _, hT⟩ := lst_at I (.lst h1 h2 r); exact SeqAt.RcAt.int_list a t' hT hA
    | _ => cases hc
  | str a =>
    obtain ⟨t', rfl⟩ := rx
    cases ru with
    | non => cases ry; exact SeqAt.RcAt.str_none a t'
    | bl b => cases ry; exact SeqAt.RcAt.str_bool a t' b
    | int i => obtain ⟨t, rfl⟩ := ry; exact SeqAt.RcAt.str_int a t' i t
    | str z => obtain ⟨t, rfl⟩ := ry; exact SeqAt.RcAt.str_str a t' z t
    | tup h r => cases ry; obtain ⟨_, _, _, _, hT⟩ := tup_at I (.tup h r); exact SeqAt.RcAt.str_tuple a t' hT hA
    | lst h1 h2 r => cases ry; obtain ⟨_, _, _, _, hT⟩ := lst_at I (.lst h1 h2 r); exact SeqAt.RcAt.str_list a t' hT hA
    | _ => cases hc
  | @tup a xs vs h q =>
    obtain rfl : x = Value.ref a := rx
    obtain ⟨vs, its, rs, rvs, hT⟩ := tup_at I (.tup h q)
    cases ru with
    | non => cases ry; exact SeqAt.RcAt.tuple_none hT hA
    | bl b => cases ry; exact SeqAt.RcAt.tuple_bool b hT hA
    | int i => obtain ⟨t, rfl⟩ := ry; exact SeqAt.RcAt.tuple_int i t hT hA
    | str z => obtain ⟨t, rfl⟩ := ry; exact SeqAt.RcAt.tuple_str z t hT hA
    | lst h1 h2 r => cases ry; obtain ⟨_, _, _, _, hL⟩ := lst_at I (.lst h1 h2 r); exact SeqAt.RcAt.tuple_list hT hL hA
    | @tup b ys us h2 q2 =>
      obtain rfl : y = Value.ref b := ry
      obtain ⟨us, its2, rs2, rvs2, hT2⟩ := tup_at I (.tup h2 q2)
      have n1 : its.length = xs.length := by rw [← rvs.length, rs.length]
      have n2 : its2.length = ys.length := by rw [← rvs2.length, rs2.length]
      rw [cmpD] at hc
      rw [depD, depD] at hu
      have he := eqAts (A := A.in1) (fun d hd e v u x y => eqAt_D I _ d e A.in1 v u x y (Nat.lt_succ_self _)) rs rs2 rvs rvs2 hc (by show A.units + 1 + _ < cLine; omega)
      rw [eqD, ← pairD_all xs ys, ← n1, ← n2]
      have := SeqAt.RcAt.tuples (e := pairD xs ys) hT hT2 hA fun j h1 h2 => by
        have := he j (by simpa using h1) (by simpa using h2)
        simpa using this
      simpa using this
    | _ => cases hc
  | @lst a xs vs h h' q =>
    obtain rfl : x = Value.ref a := rx
    obtain ⟨vs, its, rs, rvs, hT⟩ := lst_at I (.lst h h' q)
    cases ru with
    | non => cases ry; exact SeqAt.RcAt.list_none hT hA
    | bl b => cases ry; exact SeqAt.RcAt.list_bool b hT hA
    | int i => obtain ⟨t, rfl⟩ := ry; exact SeqAt.RcAt.list_int i t hT hA
    | str z => obtain ⟨t, rfl⟩ := ry; exact SeqAt.RcAt.list_str z t hT hA
    | tup h1 r => cases ry; obtain ⟨_, _, _, _, hL⟩ := tup_at I (.tup h1 r); exact SeqAt.RcAt.list_tuple hT hL hA
    | @lst b ys us h2 h2' q2 =>
      obtain rfl : y = Value.ref b := ry
      obtain ⟨us, its2, rs2, rvs2, hT2⟩ := lst_at I (.lst h2 h2' q2)
      have n1 : its.length = xs.length := by rw [← rvs.length, rs.length]
      have n2 : its2.length = ys.length := by rw [← rvs2.length, rs2.length]
      rw [eqD]
      by_cases hl : xs.length = ys.length
      · rw [cmpD, decide_eq_false (by simpa using hl), Bool.false_or] at hc
        rw [depD, depD] at hu
        have he := eqAts (A := A.in1) (fun d hd e v u x y => eqAt_D I _ d e A.in1 v u x y (Nat.lt_succ_self _)) rs rs2 rvs rvs2 hc (by show A.units + 1 + _ < cLine; omega)
        have h5 := SeqAt.RcAt.lists (e := pairD xs ys) hT hT2 (by simp; omega) hA fun j h1 h2 => by
          have := he j (by simpa using h1) (by simpa using h2)
          simpa using this
        rw [← pairD_all xs ys, hl, Nat.min_self]
        have e4 : its.toArray.size = ys.length := by simp; omega
        rw [e4] at h5
        simpa using h5
      · rw [eqDs_len hl]
        exact SeqAt.RcAt.lists_lengths hT hT2 (by simp; omega) hA
    | _ => cases hc
  | frz => cases hc
  | loc => cases hc
  | obj => cases hc
theorem rcNe_D (I : Inv X pins σ H s) {d e : D} {A : Around} {v u : V} {x y : Value} (rv : RX X.K ρ H d v) (ru : RX X.K ρ H e u) (rx : RelV v x) (ry : RelV u y) (hc : cmpD d e = true) (hu : A.units + min (depD d) (depD e) < cLine) : SeqAt.RcNeAt A s x y (!eqD d e) := by
  have hA : A.units < cLine := by omega
  cases rv with
  | non =>
    obtain rfl : x = Value.none := rx
    cases ru with
    | non => cases ry; exact SeqAt.RcNeAt.none_none
    | bl b => cases ry; exact SeqAt.RcNeAt.none_bool b
    | int i => obtain ⟨t, rfl⟩ := ry; exact SeqAt.RcNeAt.none_int i t
    | str z => obtain ⟨t, rfl⟩ := ry; exact SeqAt.RcNeAt.none_str z t
    | tup h r => cases ry; obtain ⟨_, _, _, _, hT⟩ := tup_at I (.tup h r); exact SeqAt.RcNeAt.none_tuple hT hA
    | lst h1 h2 r => cases ry; obtain ⟨_, _, _, _, hT⟩ := lst_at I (.lst h1 h2 r); exact SeqAt.RcNeAt.none_list hT hA
    | _ => cases hc
  | bl a =>
    obtain rfl : x = Value.bool a := rx
    cases ru with
    | non => cases ry; exact SeqAt.RcNeAt.bool_none a
    | bl b => cases ry; exact SeqAt.RcNeAt.bool_bool a b
    | int i => obtain ⟨t, rfl⟩ := ry; exact SeqAt.RcNeAt.bool_int a i t
    | str z => obtain ⟨t, rfl⟩ := ry; exact SeqAt.RcNeAt.bool_str a z t
    | tup h r => cases ry; obtain ⟨_, _, _, _, hT⟩ := tup_at I (.tup h r); exact SeqAt.RcNeAt.bool_tuple a hT hA
    | lst h1 h2 r => cases ry; obtain ⟨_, _, _, _, hT⟩ := lst_at I (.lst h1 h2 r); exact SeqAt.RcNeAt.bool_list a hT hA
    | _ => cases hc
  | int a =>
    obtain ⟨t', rfl⟩ := rx
    cases ru with
    | non => cases ry; exact SeqAt.RcNeAt.int_none a t'
    | bl b => cases ry; exact SeqAt.RcNeAt.int_bool a t' b
    | int i => obtain ⟨t, rfl⟩ := ry; exact SeqAt.RcNeAt.int_int a t' i t
    | str z => obtain ⟨t, rfl⟩ := ry; exact SeqAt.RcNeAt.int_str a t' z t
    | tup h r => cases ry; obtain ⟨_, _, _, _, hT⟩ := tup_at I (.tup h r); exact SeqAt.RcNeAt.int_tuple a t' hT hA
    | lst h1 h2 r => cases ry; obtain ⟨_, _, _, _, hT⟩ := lst_at I (.lst h1 h2 r); exact SeqAt.RcNeAt.int_list a t' hT hA
    | _ => cases hc
  | str a =>
    obtain ⟨t', rfl⟩ := rx
    cases ru with
    | non => cases ry; exact SeqAt.RcNeAt.str_none a t'
    | bl b => cases ry; exact SeqAt.RcNeAt.str_bool a t' b
    | int i => obtain ⟨t, rfl⟩ := ry; exact SeqAt.RcNeAt.str_int a t' i t
    | str z => obtain ⟨t, rfl⟩ := ry; exact SeqAt.RcNeAt.str_str a t' z t
    | tup h r => cases ry; obtain ⟨_, _, _, _, hT⟩ := tup_at I (.tup h r); exact SeqAt.RcNeAt.str_tuple a t' hT hA
    | lst h1 h2 r => cases ry; obtain ⟨_, _, _, _, hT⟩ := lst_at I (.lst h1 h2 r); exact SeqAt.RcNeAt.str_list a t' hT hA
    | _ => cases hc
  | @tup a xs vs h q =>
    obtain rfl : x = Value.ref a := rx
    obtain ⟨vs, its, rs, rvs, hT⟩ := tup_at I (.tup h q)
    cases ru with
    | non => cases ry; exact SeqAt.RcNeAt.tuple_none hT hA
    | bl b => cases ry; exact SeqAt.RcNeAt.tuple_bool b hT hA
    | int i => obtain ⟨t, rfl⟩ := ry; exact SeqAt.RcNeAt.tuple_int i t hT hA
    | str z => obtain ⟨t, rfl⟩ := ry; exact SeqAt.RcNeAt.tuple_str z t hT hA
    | lst h1 h2 r => cases ry; obtain ⟨_, _, _, _, hL⟩ := lst_at I (.lst h1 h2 r); exact SeqAt.RcNeAt.tuple_list hT hL hA
    | @tup b ys us h2 q2 =>
      obtain rfl : y = Value.ref b := ry
      obtain ⟨us, its2, rs2, rvs2, hT2⟩ := tup_at I (.tup h2 q2)
      have n1 : its.length = xs.length := by rw [← rvs.length, rs.length]
      have n2 : its2.length = ys.length := by rw [← rvs2.length, rs2.length]
      rw [cmpD] at hc
      rw [depD, depD] at hu
      have he := eqAts (A := A.in1) (fun d hd e v u x y => eqAt_D I _ d e A.in1 v u x y (Nat.lt_succ_self _)) rs rs2 rvs rvs2 hc (by show A.units + 1 + _ < cLine; omega)
      rw [eqD, ← pairD_all xs ys, ← n1, ← n2]
      have := SeqAt.RcNeAt.tuples (e := pairD xs ys) hT hT2 hA fun j h1 h2 => by
        have := he j (by simpa using h1) (by simpa using h2)
        simpa using this
      simpa using this
    | _ => cases hc
  | @lst a xs vs h h' q =>
    obtain rfl : x = Value.ref a := rx
    obtain ⟨vs, its, rs, rvs, hT⟩ := lst_at I (.lst h h' q)
    cases ru with
    | non => cases ry; exact SeqAt.RcNeAt.list_none hT hA
    | bl b => cases ry; exact SeqAt.RcNeAt.list_bool b hT hA
    | int i => obtain ⟨t, rfl⟩ := ry; exact SeqAt.RcNeAt.list_int i t hT hA
    | str z => obtain ⟨t, rfl⟩ := ry; exact SeqAt.RcNeAt.list_str z t hT hA
    | tup h1 r => cases ry; obtain ⟨_, _, _, _, hL⟩ := tup_at I (.tup h1 r); exact SeqAt.RcNeAt.list_tuple hT hL hA
    | @lst b ys us h2 h2' q2 =>
      obtain rfl : y = Value.ref b := ry
      obtain ⟨us, its2, rs2, rvs2, hT2⟩ := lst_at I (.lst h2 h2' q2)
      have n1 : its.length = xs.length := by rw [← rvs.length, rs.length]
      have n2 : its2.length = ys.length := by rw [← rvs2.length, rs2.length]
      rw [eqD]
      by_cases hl : xs.length = ys.length
      · rw [cmpD, decide_eq_false (by simpa using hl), Bool.false_or] at hc
        rw [depD, depD] at hu
        have he := eqAts (A := A.in1) (fun d hd e v u x y => eqAt_D I _ d e A.in1 v u x y (Nat.lt_succ_self _)) rs rs2 rvs rvs2 hc (by show A.units + 1 + _ < cLine; omega)
        have h5 := SeqAt.RcNeAt.lists (e := pairD xs ys) hT hT2 (by simp; omega) hA fun j h1 h2 => by
          have := he j (by simpa using h1) (by simpa using h2)
          simpa using this
        rw [← pairD_all xs ys, hl, Nat.min_self]
        have e4 : its.toArray.size = ys.length := by simp; omega
        rw [e4] at h5
        simpa using h5
      · rw [eqDs_len hl]
        exact SeqAt.RcNeAt.lists_lengths hT hT2 (by simp; omega) hA
    | _ => cases hc
  | frz => cases hc
  | loc => cases hc
  | obj => cases hc
end
end Fl
namespace Fl
open PySem PySem.Spec PyProof.Rows L2
/-! ### arithmetic -/
instance (i j : Int) : Decidable (CMul i j) := by unfold CMul; infer_instance
instance (i j : Int) : Decidable (CMulW i j) := by unfold CMulW; infer_instance
instance (i j : Int) : Decidable (CDivW i j) := by unfold CDivW; infer_instance
instance (i j : Int) : Decidable (CPow i j) := by unfold CPow; infer_instance
def oAdd : Op2 := fun x y st => match x, y with
  | .int i, .int j => .ok (.int (i + j)) st
  | .str a, .str b => if a.length + b.length ≤ sizeLine then .ok (.str (a ++ b)) st else .stuck
  | .tup xs, .tup ys => if xs.length + ys.length ≤ sizeLine then .ok (.tup (xs ++ ys)) st else .stuck
  | x, y => match lstOf st x, lstOf st y with
    | some xs, some ys => if xs.length + ys.length ≤ sizeLine then .ok (.lst (xs ++ ys)) st else .stuck
    | _, _ => .stuck
def oSub : Op2 := fun x y st => match x, y with
  | .int i, .int j => .ok (.int (i - j)) st
  | _, _ => .stuck
def oFdiv : Op2 := fun x y st => match x, y with
  | .int i, .int j => if CDivW i j then .ok (.int (i / j)) st else .stuck
  | _, _ => .stuck
def oMod : Op2 := fun x y st => match x, y with
  | .int i, .int j => if 0 < j then .ok (.int (i % j)) st else .stuck
  | _, _ => .stuck
def oPow : Op2 := fun x y st => match x, y with
  | .int i, .int j => if CPow i j then .ok (.int (i ^ j.toNat)) st else .stuck
  | _, _ => .stuck
/-- so many times, one behind the other -/
def times {α : Type} (xs : List α) (k : Int) : List α := (List.replicate k.toNat xs).flatten
def oMul : Op2 := fun x y st => match x, y with
  | .int i, .int j => if CMul i j ∨ CMulW i j then .ok (.int (i * j)) st else .stuck
  | .tup xs, .int k => if xs.length * k.toNat ≤ 1000000 ∧ k.natAbs ≤ 1000000 then .ok (.tup (times xs k)) st else .stuck
  | .str a, .int k => if a.length * k.toNat ≤ 1000000 ∧ k.natAbs ≤ 1000000 then .ok (.str ⟨(times a.cps.toList k).toArray⟩) st else .stuck
  | x, .int k => match lstOf st x with
    | some xs => if xs.length * k.toNat ≤ 1000000 ∧ k.natAbs ≤ 1000000 then .ok (.lst (times xs k)) st else .stuck
    | _ => .stuck
  | _, _ => .stuck
section
variable {X : Cx} {W : WX} {ρ : List Addr} {H : Hp} {σ : L2.St} {st : Store}
theorem ok_lst {r : List D} {vs : List V} {Q : VK} (R : Rel X.K ρ st H) (rs : RVs X.K ρ H r vs) (h : OkR X.K X.mg (RV X.K) W ρ H σ (.ok (.lst r) st) Q) (p : Addr) (hp : H p = none) : Q (.ref p) (upd H p (.lst vs)) :=
  h ρ _ _ (Ext.fresh R hp _) (R.fresh hp _) (.lst (R.notin hp) upd_same (rs.ext (Ext.fresh R hp _)))
theorem ok_tup {r : List D} {vs : List V} {Q : VK} (R : Rel X.K ρ st H) (rs : RVs X.K ρ H r vs) (h : OkR X.K X.mg (RV X.K) W ρ H σ (.ok (.tup r) st) Q) (p : Addr) (hp : H p = none) : Q (.ref p) (upd H p (.tup vs)) :=
  h ρ _ _ (Ext.fresh R hp _) (R.fresh hp _) (.tup (.inl ⟨R.notin hp, upd_same⟩) (rs.ext (Ext.fresh R hp _)))
theorem RV.isTup {a : Addr} {xs : List D} {v : V} (r : RV X.K ρ H (.tup xs) v) : ∃ a vs, v = .ref a ∧ SqT X.K H a vs ∧ RVs X.K ρ H xs vs := by
  cases r with
  | tup h r => obtain ⟨vs, h1, h2⟩ := (RV.tup h r).sqT; exact ⟨_, vs, rfl, h1, h2⟩
def rAddAll (K : Fg) : R2 := fun x y H Q => rI0 (fun i j => .int (i + j)) x y H Q ∨ (∃ i j, x = .str i ∧ y = .str j ∧ i.length + j.length ≤ sizeLine ∧ Q (.str (i ++ j)) H) ∨ rCatA K x y H Q ∨ rCat x y H Q
theorem op_addAll : OpR X (binaryOp .Add) (rAddAll X.K) := op_add.or (op_add_str.or (op_catA.or op_cat))
theorem os_add : OpS X (rAddAll X.K) oAdd := by
  intro W ρ st H σ x y vx vy Q R rx ry h
  unfold oAdd at h
  split at h
  · cases rx; cases ry; exact .inl ⟨_, _, rfl, rfl, h ρ H _ .refl R (.int _)⟩
  · split at h
    · rename_i hl
      cases rx; cases ry; exact .inr (.inl ⟨_, _, rfl, rfl, hl, h ρ H _ .refl R (.str _)⟩)
    · exact h.elim
  · split at h
    · rename_i hl
      obtain ⟨a, vs, rfl, s1, r1⟩ := RV.isTup (a := 0) rx
      obtain ⟨b, us, rfl, s2, r2⟩ := RV.isTup (a := 0) ry
      refine .inr (.inr (.inl ⟨a, b, vs, us, rfl, rfl, s1, s2, by rw [← r1.length, ← r2.length]; exact hl, fun e => ?_, fun e1 e2 => ?_, fun e1 e2 p hp => ok_tup R (r1.append r2) h p hp⟩))
      · subst e
        cases r1
        exact h ρ H _ .refl R ry
      · subst e2
        cases r2
        rw [List.append_nil] at h
        exact h ρ H _ .refl R rx
    · exact h.elim
  · split at h
    · rename_i xs ys h1 h2
      split at h
      · rename_i hl
        obtain ⟨a, vs, rfl, e1, r1⟩ := lstOf_ok R rx h1
        obtain ⟨b, us, rfl, e2, r2⟩ := lstOf_ok R ry h2
        exact .inr (.inr (.inr ⟨a, b, vs, us, rfl, rfl, e1, e2, by rw [← r1.length, ← r2.length]; exact hl, fun p hp => ok_lst R (r1.append r2) h p hp⟩))
      · exact h.elim
    · exact h.elim
theorem os_sub : OpS X (rI0 fun i j => .int (i - j)) oSub := by
  intro W ρ st H σ x y vx vy Q R rx ry h
  unfold oSub at h
  split at h
  · cases rx; cases ry; exact ⟨_, _, rfl, rfl, h ρ H _ .refl R (.int _)⟩
  · exact h.elim
theorem os_fdiv : OpS X (rI CDivW fun i j => .int (i / j)) oFdiv := by
  intro W ρ st H σ x y vx vy Q R rx ry h
  unfold oFdiv at h
  split at h
  · split at h
    · rename_i hc; cases rx; cases ry; exact ⟨_, _, rfl, rfl, hc, h ρ H _ .refl R (.int _)⟩
    · exact h.elim
  · exact h.elim
theorem os_mod : OpS X (rI (fun _ j => 0 < j) fun i j => .int (i % j)) oMod := by
  intro W ρ st H σ x y vx vy Q R rx ry h
  unfold oMod at h
  split at h
  · split at h
    · rename_i hc; cases rx; cases ry; exact ⟨_, _, rfl, rfl, hc, h ρ H _ .refl R (.int _)⟩
    · exact h.elim
  · exact h.elim
theorem os_pow : OpS X (rI CPow fun i j => .int (i ^ j.toNat)) oPow := by
  intro W ρ st H σ x y vx vy Q R rx ry h
  unfold oPow at h
  split at h
  · split at h
    · rename_i hc; cases rx; cases ry; exact ⟨_, _, rfl, rfl, hc, h ρ H _ .refl R (.int _)⟩
    · exact h.elim
  · exact h.elim
/-! ### a tuple, a text so many times -/
theorem tup_mul_same (l : Addr) (items : Array Value) (n : Nat) (dd : Option Addr) (sl : Array (Option Value)) (x : Int) (u : Tok) (c0 : (decide (x < -(2 ^ 63)) || decide (x ≥ 2 ^ 63)) = false) (c1 : (items.isEmpty || x == 1) = true) :
    Meets (Builtin.«tuple.__mul__» ⟨[.ref l, .int x u], []⟩) (fun _ R s => s.heap.get? l = some { cls := .type "tuple", dict := dd, data := .seq items n, slots := sl } ∧ R (.ok (.ret (Value.ref l))) s) :=
  .of_wp fun prog w A R s h => by
    obtain ⟨hp, g, d, tk, os⟩ := s
    obtain ⟨hl, h⟩ := h
    have f1 := AutoSeq1.idx_int
    wp_walk using PySem.AutoSeq1.wpAny_loadPart' hl
    repeat (first
      | (refine wpAny_ite_false (decide_eq_false (by rw [c0]; exact Bool.false_ne_true)) ?_; wp_walk using PySem.AutoSeq1.wpAny_loadPart' hl)
      | (refine wpAny_ite_true (decide_eq_true c1) ?_; wp_walk using PySem.AutoSeq1.wpAny_loadPart' hl))
    exact ⟨_, rfl, h⟩
theorem tup_mul_none (l : Addr) (items : Array Value) (n : Nat) (dd : Option Addr) (sl : Array (Option Value)) (x : Int) (u : Tok) (c0 : (decide (x < -(2 ^ 63)) || decide (x ≥ 2 ^ 63)) = false) (c1 : (items.isEmpty || x == 1) = false) (c2 : (decide (x ≤ 0) || items.isEmpty) = true) :
    Meets (Builtin.«tuple.__mul__» ⟨[.ref l, .int x u], []⟩) (fun _ R s => s.heap.get? l = some { cls := .type "tuple", dict := dd, data := .seq items n, slots := sl } ∧
      R (.ok (.ret (Value.ref s.heap.objs.size))) { s with heap := s.heap.push { cls := Value.type "tuple", data := Data.seq #[] }, toks := s.toks }) :=
  .of_wp fun prog w A R s h => by
    obtain ⟨hp, g, d, tk, os⟩ := s
    obtain ⟨hl, h⟩ := h
    have f1 := AutoSeq1.idx_int
    wp_walk using PySem.AutoSeq1.wpAny_loadPart' hl
    repeat (first
      | (refine wpAny_ite_false (decide_eq_false (by rw [c0]; exact Bool.false_ne_true)) ?_; wp_walk using PySem.AutoSeq1.wpAny_loadPart' hl)
      | (refine wpAny_ite_false (decide_eq_false (by rw [c1]; exact Bool.false_ne_true)) ?_; wp_walk using PySem.AutoSeq1.wpAny_loadPart' hl)
      | (refine wpAny_ite_true (decide_eq_true c2) ?_; wp_walk using PySem.AutoSeq1.wpAny_loadPart' hl))
    exact ⟨_, rfl, h⟩
/-- t * k: t itself for 1 (or no items), else a new one -/
def rTimesT (K : Fg) : R2 := fun x y H Q => ∃ l k xs, x = .ref l ∧ y = .int k ∧ SqT K H l xs ∧ xs.length * k.toNat ≤ 1000000 ∧ k.natAbs ≤ 1000000 ∧
  ((xs = [] ∨ k = 1) → Q (.ref l) H) ∧ (¬ (xs = [] ∨ k = 1) → ∀ p, H p = none → Q (.ref p) (upd H p (.tup (times xs k))))
theorem op_timesT : OpR X (binaryOp .Mult) (rTimesT X.K) := by
  intro pins s σ H x y v u Q I rx ry h
  obtain ⟨l, k, xs, rfl, rfl, hT, hz, hk, q1, q2⟩ := h
  cases rx
  obtain ⟨t, rfl⟩ := ry
  obtain ⟨its, r, ⟨⟨cls, dd, data, sl⟩, ho, hc, n, hd⟩, hs⟩ := I.tuple hT
  simp only at hc hd
  subst hc hd
  have hle := r.length
  have c0 : (decide (k < -(2 ^ 63)) || decide (k ≥ 2 ^ 63)) = false := by
    rw [decide_eq_false (by omega), decide_eq_false (by omega)] <;> rfl
  by_cases e : (its.toArray.isEmpty || k == 1) = true
  · have e' : xs = [] ∨ k = 1 := by
      rw [Bool.or_eq_true] at e
      rcases e with e | e
      · exact .inl (List.eq_nil_of_length_eq_zero (by rw [hle]; simpa using e))
      · exact .inr (by simpa using e)
    refine wpAny_binaryOp_repeat_ref (T := "tuple") (U := "int") (by decide) ⟨_, ho, rfl⟩ (fun s' => typeIs_int s' k t) noFill_tuple_mul F.fills_int_mul F.slot_int_rmul repeat_tuple F.slot_int_index.lookup
      (call_meets F.slot_int_rmul (typeIs_int s k t) F.entry_int_rmul (F.args_int_rmul_2 _ _) (int_rmul_tuple k t l its.toArray n dd sl)
        ⟨ho, rfl, ⟨_, ho, rfl⟩, call_meets F.slot_tuple_mul ⟨_, ho, rfl⟩ F.entry_tuple_mul (F.args_tuple_mul_2 _ _) (tup_mul_same l its.toArray n dd sl k t c0 e) ⟨ho, ?_⟩⟩)
    exact ⟨.ref l, H, I, rfl, q1 e'⟩
  · have e1 : (its.toArray.isEmpty || k == 1) = false := by simpa using e
    have e2 : its ≠ [] ∧ k ≠ 1 := by simpa using e1
    have e' : ¬ (xs = [] ∨ k = 1) := fun z => by
      rcases z with z | z
      · subst z
        have e3 : its.length = 0 := by rw [← hle]; rfl
        exact e2.1 (List.eq_nil_of_length_eq_zero e3)
      · exact e2.2 z
    by_cases hk0 : k ≤ 0
    · have c2 : (decide (k ≤ 0) || its.toArray.isEmpty) = true := by rw [decide_eq_true hk0]; rfl
      refine wpAny_binaryOp_repeat_ref (T := "tuple") (U := "int") (by decide) ⟨_, ho, rfl⟩ (fun s' => typeIs_int s' k t) noFill_tuple_mul F.fills_int_mul F.slot_int_rmul repeat_tuple F.slot_int_index.lookup
        (call_meets F.slot_int_rmul (typeIs_int s k t) F.entry_int_rmul (F.args_int_rmul_2 _ _) (int_rmul_tuple k t l its.toArray n dd sl)
          ⟨ho, rfl, ⟨_, ho, rfl⟩, call_meets F.slot_tuple_mul ⟨_, ho, rfl⟩ F.entry_tuple_mul (F.args_tuple_mul_2 _ _) (tup_mul_none l its.toArray n dd sl k t c0 e1 c2) ⟨ho, ?_⟩⟩)
      have hn : times xs k = [] := by unfold times; rw [show k.toNat = 0 by omega]; rfl
      have qq := q2 e' s.heap.objs.size (I.hok.fresh (Nat.le_refl _))
      rw [hn] at qq
      refine ⟨.ref s.heap.objs.size, _, I.laid (t' := s.toks) (o := .tup []) (fun b ob q => Heap.get?_push_of_some _ q) (Nat.le_refl _) ?_, rfl, qq⟩
      exact ⟨Nat.zero_le _, [], .nil, IsTup.new _ _⟩
    · have c2 : (decide (k ≤ 0) || its.toArray.isEmpty) = false := by
        rw [decide_eq_false hk0, Bool.false_or]
        cases its with
        | nil => exact absurd rfl e2.1
        | cons a b => rfl
      have hm : ((its.toArray.size : Nat) : Int) * k ≤ 1000000 := by
        have e4 : its.toArray.size = xs.length := by simp; omega
        rw [e4]
        have e5 : ((xs.length : Nat) : Int) * k = ((xs.length * k.toNat : Nat) : Int) := by
          rw [Int.natCast_mul, Int.toNat_of_nonneg (by omega)]
        rw [e5]
        omega
      have c4 : Builtin.Tuple.tupleTooMany (((its.toArray.size : Nat) : Int) * k) = false := by
        unfold Builtin.Tuple.tupleTooMany
        rw [sizeLine_eq]
        exact decide_eq_false (by omega)
      have flen : (List.replicate k.toNat its).flatten.length ≤ sizeLine := by
        rw [PyProof.Rows.lm_len_rep_flat, ← hle, sizeLine_eq]
        have : k.toNat * xs.length = xs.length * k.toNat := Nat.mul_comm _ _
        omega
      refine wpAny_binaryOp_repeat_ref (T := "tuple") (U := "int") (by decide) ⟨_, ho, rfl⟩ (fun s' => typeIs_int s' k t) noFill_tuple_mul F.fills_int_mul F.slot_int_rmul repeat_tuple F.slot_int_index.lookup
        (call_meets F.slot_int_rmul (typeIs_int s k t) F.entry_int_rmul (F.args_int_rmul_2 _ _) (int_rmul_tuple k t l its.toArray n dd sl)
          ⟨ho, rfl, ⟨_, ho, rfl⟩, call_meets F.slot_tuple_mul ⟨_, ho, rfl⟩ F.entry_tuple_mul (F.args_tuple_mul_2 _ _) (tuple_mulW l its.toArray n dd sl k t c0 e1 c2 (by omega) c4 (by rw [size_rep, List.size_toArray]; exact flen)) ⟨ho, ?_⟩⟩)
      rw [size_rep]
      refine ⟨.ref s.heap.objs.size, _, I.laid (t' := s.toks) (o := .tup (times xs k)) (fun b ob q => Heap.get?_push_of_some _ q) (Nat.le_refl _) ?_, rfl, q2 e' _ (I.hok.fresh (Nat.le_refl _))⟩
      exact ⟨by unfold times; rw [PyProof.Rows.lm_len_rep_flat, hle]; rw [PyProof.Rows.lm_len_rep_flat] at flen; exact flen, _, r.rep k.toNat, IsTup.new _ _⟩
end
end Fl
namespace Fl
open PySem PySem.Spec PyProof.Rows L2
section
variable {X : Cx} {W : WX} {ρ : List Addr} {H : Hp} {σ : L2.St} {st : Store}
theorem RVs.times {ds : List D} {vs : List V} (r : RVs X.K ρ H ds vs) (k : Int) : RVs X.K ρ H (times ds k) (Fl.times vs k) := r.rep _
def rTimesS : R2 := fun x y H Q => ∃ z k, x = .str z ∧ y = .int k ∧ z.length * k.toNat ≤ 1000000 ∧ k.natAbs ≤ 1000000 ∧ Q (.str ⟨(times z.cps.toList k).toArray⟩) H
theorem foldl_arr {α : Type} (a : Array α) : ∀ (n : Nat) (acc : Array α), (List.replicate n a).foldl (fun x1 x2 => x1 ++ x2) acc = acc ++ ((List.replicate n a.toList).flatten).toArray
  | 0, acc => by simp
  | n + 1, acc => by
    rw [List.replicate_succ, List.foldl_cons, foldl_arr a n, List.replicate_succ, List.flatten_cons]
    apply Array.ext'
    simp
theorem op_timesS : OpR X (binaryOp .Mult) rTimesS := by
  intro pins s σ H x y v u Q I rx ry h
  obtain ⟨z, k, rfl, rfl, hz, hk, q⟩ := h
  obtain ⟨t, rfl⟩ := rx
  obtain ⟨t', rfl⟩ := ry
  have hz' : z.cps.size * k.toNat ≤ 1000000 := hz
  refine PySem.P.mul_str (by rw [decide_eq_false (by omega), decide_eq_false (by omega)]; rfl) (fun h1 _ => ?_) (fun h1 _ => ?_) ?_
  · intro c
    have h2 : ((2 : Int) ^ 63 - 1) / k ≥ (2 ^ 63 - 1) / 1000000 := by
      refine Int.le_ediv_of_mul_le (by omega) ?_
      have : ((2 : Int) ^ 63 - 1) / 1000000 * k ≤ (2 ^ 63 - 1) / 1000000 * 1000000 := Int.mul_le_mul_of_nonneg_left (by omega) (by decide)
      omega
    have h3 : z.cps.size ≤ 1000000 := by
      have : z.cps.size * 1 ≤ z.cps.size * k.toNat := Nat.mul_le_mul_left _ (by omega)
      omega
    have h4 : ((z.length : Nat) : Int) ≤ 1000000 := by show ((z.cps.size : Nat) : Int) ≤ _; omega
    omega
  · unfold Builtin.Str.tooLong
    rw [sizeLine_eq]
    have : z.length * k.toNat ≤ 1000000 := hz
    exact decide_eq_false (by omega)
  · by_cases h1 : k < 1
    · rw [if_pos h1]
      have e : (⟨(times z.cps.toList k).toArray⟩ : Str) = Str.empty := by
        unfold times
        rw [show k.toNat = 0 by omega]
        rfl
      rw [e] at q
      exact ⟨by decide, .str Str.empty, H, I.tok _, ⟨_, rfl⟩, q⟩
    · rw [if_neg h1]
      by_cases h2 : (k == 1 || z.length == 0) = true
      · rw [if_pos h2]
        have e : (⟨(times z.cps.toList k).toArray⟩ : Str) = z := by
          unfold times
          rw [Bool.or_eq_true] at h2
          rcases h2 with e | e
          · have : k = 1 := by simpa using e
            subst this
            simp
          · have e0 : z.cps.toList = [] := by
              have : z.cps.size = 0 := by simpa [Str.length] using e
              simpa using Array.eq_empty_of_size_eq_zero this
            have e1 : z.cps = #[] := by simpa using e0
            cases z
            simp only at e1
            subst e1
            simp
        rw [e] at q
        exact ⟨.str z, H, I, ⟨t, rfl⟩, q⟩
      · rw [if_neg h2]
        rw [foldl_arr, Array.empty_append]
        refine ⟨?_, .str _, H, I.tok _, ⟨_, rfl⟩, q⟩
        show ((List.replicate k.toNat z.cps.toList).flatten.toArray).size ≤ sizeLine
        rw [List.size_toArray, PyProof.Rows.lm_len_rep_flat, sizeLine_eq, Array.length_toList, Nat.mul_comm]
        omega
def rMulAll (K : Fg) : R2 := fun x y H Q => rI CMul (fun i j => .int (i * j)) x y H Q ∨ rI CMulW (fun i j => .int (i * j)) x y H Q ∨ rTimesT K x y H Q ∨ rTimesS x y H Q ∨ rRep x y H Q
theorem op_mulAll : OpR X (binaryOp .Mult) (rMulAll X.K) := op_mul.or (op_mulW.or (op_timesT.or (op_timesS.or op_rep)))
theorem os_mul : OpS X (rMulAll X.K) oMul := by
  intro W ρ st H σ x y vx vy Q R rx ry h
  unfold oMul at h
  split at h
  · split at h
    · rename_i hc
      cases rx; cases ry
      rcases hc with hc | hc
      · exact .inl ⟨_, _, rfl, rfl, hc, h ρ H _ .refl R (.int _)⟩
      · exact .inr (.inl ⟨_, _, rfl, rfl, hc, h ρ H _ .refl R (.int _)⟩)
    · exact h.elim
  · rename_i xs k
    split at h
    · rename_i hc
      obtain ⟨a, vs, rfl, s1, r1⟩ := RV.isTup (a := 0) rx
      cases ry
      refine .inr (.inr (.inl ⟨a, k, vs, rfl, rfl, s1, by rw [← r1.length]; exact hc.1, hc.2, fun e => ?_, fun _ p hp => ok_tup R (r1.times k) h p hp⟩))
      have e' : times xs k = xs := by
        rcases e with e | e
        · subst e; cases r1; unfold times; simp
        · subst e; unfold times; simp
      rw [e'] at h
      exact h ρ H _ .refl R rx
    · exact h.elim
  · rename_i a k
    split at h
    · rename_i hc
      cases rx; cases ry
      exact .inr (.inr (.inr (.inl ⟨a, k, rfl, rfl, hc.1, hc.2, h ρ H _ .refl R (.str _)⟩)))
    · exact h.elim
  · rename_i x k _ _ _
    split at h
    · rename_i xs h1
      split at h
      · rename_i hc
        obtain ⟨a, vs, rfl, e1, r1⟩ := lstOf_ok R rx h1
        cases ry
        refine .inr (.inr (.inr (.inr ⟨a, k, vs, rfl, rfl, e1, by omega, by omega, by rw [← r1.length, sizeLine_eq]; omega, fun p hp => ok_lst R (r1.times k) h p hp⟩)))
      · exact h.elim
    · exact h.elim
  · exact h.elim
/-! ### comparisons -/
/-- == is reckoned, within the room -/
def canEq (x y : D) : Bool := cmpD x y && decide (min (depD x) (depD y) ≤ 100)
def oEq : Op2 := fun x y st => if canEq (res st x) (res st y) then .ok (.bl (eqD (res st x) (res st y))) st else .stuck
def oNe : Op2 := fun x y st => if canEq (res st x) (res st y) then .ok (.bl (!eqD (res st x) (res st y))) st else .stuck
theorem op_eqAll (G : Gx X) : OpR X (compareOp .Eq) (fun vx vy H Q => ∃ ρ d e, RX X.K ρ H d vx ∧ RX X.K ρ H e vy ∧ canEq d e = true ∧ Q (.bl (eqD d e)) H) := by
  intro pins s σ H x y v u Q I rx ry h
  obtain ⟨ρ, d, e, r1, r2, hc, q⟩ := h
  unfold canEq at hc
  rw [Bool.and_eq_true] at hc
  have h2 := of_decide_eq_true hc.2
  have := G.un
  exact rcEq_D I r1 r2 rx ry hc.1 (by omega) _ _ _ _ ⟨.bl _, H, I, rfl, q⟩
theorem op_neAll (G : Gx X) : OpR X (compareOp .NotEq) (fun vx vy H Q => ∃ ρ d e, RX X.K ρ H d vx ∧ RX X.K ρ H e vy ∧ canEq d e = true ∧ Q (.bl (!eqD d e)) H) := by
  intro pins s σ H x y v u Q I rx ry h
  obtain ⟨ρ, d, e, r1, r2, hc, q⟩ := h
  unfold canEq at hc
  rw [Bool.and_eq_true] at hc
  have h2 := of_decide_eq_true hc.2
  have := G.un
  exact rcNe_D I r1 r2 rx ry hc.1 (by omega) _ _ _ _ ⟨.bl _, H, I, rfl, q⟩
theorem os_eq : OpS X (fun vx vy H Q => ∃ ρ d e, RX X.K ρ H d vx ∧ RX X.K ρ H e vy ∧ canEq d e = true ∧ Q (.bl (eqD d e)) H) oEq := by
  intro W ρ st H σ x y vx vy Q R rx ry h
  unfold oEq at h
  split at h
  · rename_i hc
    exact ⟨ρ, _, _, rx.res R, ry.res R, hc, h ρ H _ .refl R (.bl _)⟩
  · exact h.elim
theorem os_ne : OpS X (fun vx vy H Q => ∃ ρ d e, RX X.K ρ H d vx ∧ RX X.K ρ H e vy ∧ canEq d e = true ∧ Q (.bl (!eqD d e)) H) oNe := by
  intro W ρ st H σ x y vx vy Q R rx ry h
  unfold oNe at h
  split at h
  · rename_i hc
    exact ⟨ρ, _, _, rx.res R, ry.res R, hc, h ρ H _ .refl R (.bl _)⟩
  · exact h.elim
/-- order of ints, of texts -/
def oLt : Op2 := fun x y st => match x, y with
  | .int i, .int j => .ok (.bl (decide (i < j))) st
  | .str i, .str j => .ok (.bl (decide (i.cps.toList < j.cps.toList))) st
  | _, _ => .stuck
def oIC (p : Int → Int → Bool) : Op2 := fun x y st => match x, y with
  | .int i, .int j => .ok (.bl (p i j)) st
  | _, _ => .stuck
def oLe : Op2 := oIC fun i j => decide (i ≤ j)
def oGt : Op2 := oIC fun i j => decide (j < i)
def oGe : Op2 := oIC fun i j => decide (j ≤ i)
theorem op_ltAll : OpR X (compareOp .Lt) (fun x y H Q => rI0 (fun i j => .bl (decide (i < j))) x y H Q ∨ ∃ i j, x = .str i ∧ y = .str j ∧ Q (.bl (decide (i.cps.toList < j.cps.toList))) H) := op_lt.or op_lt_str
theorem os_lt : OpS X (fun x y H Q => rI0 (fun i j => .bl (decide (i < j))) x y H Q ∨ ∃ i j, x = .str i ∧ y = .str j ∧ Q (.bl (decide (i.cps.toList < j.cps.toList))) H) oLt := by
  intro W ρ st H σ x y vx vy Q R rx ry h
  unfold oLt at h
  split at h
  · cases rx; cases ry; exact .inl ⟨_, _, rfl, rfl, h ρ H _ .refl R (.bl _)⟩
  · cases rx; cases ry; exact .inr ⟨_, _, rfl, rfl, h ρ H _ .refl R (.bl _)⟩
  · exact h.elim
theorem os_ic {p : Int → Int → Bool} : OpS X (rI0 fun i j => .bl (p i j)) (oIC p) := by
  intro W ρ st H σ x y vx vy Q R rx ry h
  unfold oIC at h
  split at h
  · cases rx; cases ry; exact ⟨_, _, rfl, rfl, h ρ H _ .refl R (.bl _)⟩
  · exact h.elim
def isNon : D → Bool
  | .non => true
  | _ => false
def oIsN : Op2 := fun x y st => match y with
  | .non => .ok (.bl (isNon x)) st
  | _ => .stuck
def oNotN : Op2 := fun x y st => match y with
  | .non => .ok (.bl (!isNon x)) st
  | _ => .stuck
theorem RV.isNon {d : D} {v : V} (r : RV X.K ρ H d v) : decide (v = .non) = Fl.isNon d := by cases r <;> rfl
theorem os_isN : OpS X (fun x y H Q => y = .non ∧ Q (.bl (decide (x = .non))) H) oIsN := by
  intro W ρ st H σ x y vx vy Q R rx ry h
  unfold oIsN at h
  split at h
  · cases ry; exact ⟨rfl, by rw [rx.isNon]; exact h ρ H _ .refl R (.bl _)⟩
  · exact h.elim
theorem os_notN : OpS X (fun x y H Q => y = .non ∧ Q (.bl (!decide (x = .non))) H) oNotN := by
  intro W ρ st H σ x y vx vy Q R rx ry h
  unfold oNotN at h
  split at h
  · cases ry; exact ⟨rfl, by rw [rx.isNon]; exact h ρ H _ .refl R (.bl _)⟩
  · exact h.elim
/-! ### in, not in: a sign in a text, a flat value among flat ones -/
def flatD : D → Bool
  | .non => true
  | .bl _ => true
  | .int _ => true
  | .str _ => true
  | _ => false
/-- the items of a list or tuple -/
def seqOf (st : Store) (d : D) : Option (List D) := match d with
  | .tup xs => some xs
  | d => lstOf st d
def oInB (x y : D) (st : Store) : Option Bool := match y with
  | .str z => (match x with
    | .str w => (match w.cps.toList with
      | [c] => some (decide (c ∈ z.cps.toList))
      | _ => none)
    | _ => none)
  | y => match seqOf st y with
    | some ys => if flatD x && ys.all flatD then some (ys.any fun z => eqD z x) else none
    | none => none
def oIn : Op2 := fun x y st => match oInB x y st with
  | some b => .ok (.bl b) st
  | none => .stuck
def oNotIn : Op2 := fun x y st => match oInB x y st with
  | some b => .ok (.bl (!b)) st
  | none => .stuck
theorem RV.flat {d : D} {v : V} (r : RV X.K ρ H d v) (f : flatD d = true) : flatV v = true := by cases r <;> first | rfl | cases f
theorem RV.eqFlat {d e : D} {v u : V} (r : RV X.K ρ H d v) (r2 : RV X.K ρ H e u) (f : flatD d = true) (f2 : flatD e = true) : eqV v u = eqD d e := by
  cases r <;> first | (cases f; done) | (cases r2 <;> first | (cases f2; done) | rfl)
theorem RVs.flat : ∀ {ds : List D} {vs : List V}, RVs X.K ρ H ds vs → ds.all flatD = true → vs.all flatV = true
  | _, _, .nil, _ => rfl
  | _, _, .cons r t, f => by
    rw [List.all_cons, Bool.and_eq_true] at f
    rw [List.all_cons, r.flat f.1, RVs.flat t f.2]
    rfl
theorem RVs.anyFlat {e : D} {u : V} (r2 : RV X.K ρ H e u) (f2 : flatD e = true) : ∀ {ds : List D} {vs : List V}, RVs X.K ρ H ds vs → ds.all flatD = true → (vs.any fun z => eqV z u) = ds.any fun z => eqD z e
  | _, _, .nil, _ => rfl
  | _, _, .cons r t, f => by
    rw [List.all_cons, Bool.and_eq_true] at f
    rw [List.any_cons, List.any_cons, r.eqFlat r2 f.1 f2, RVs.anyFlat r2 f2 t f.2]
theorem seqOf_ok {d : D} {v : V} {xs : List D} (R : Rel X.K ρ st H) (r : RV X.K ρ H d v) (h : seqOf st d = some xs) : ∃ a vs, v = .ref a ∧ (SqL X.K H a vs ∨ SqT X.K H a vs) ∧ RVs X.K ρ H xs vs := by
  unfold seqOf at h
  split at h
  · cases h
    obtain ⟨a, vs, e, s1, r1⟩ := RV.isTup (a := 0) r
    exact ⟨a, vs, e, .inr s1, r1⟩
  · obtain ⟨a, vs, e, s1, r1⟩ := lstOf_ok R r h
    exact ⟨a, vs, e, .inl (SqL.of s1), r1⟩
def rInAll (K : Fg) (neg : Bool) : R2 := fun x y H Q => (∃ (c : Nat) (z : Str), x = .str ⟨#[c]⟩ ∧ y = .str z ∧ Q (.bl (if neg then !decide (c ∈ z.cps.toList) else decide (c ∈ z.cps.toList))) H) ∨ rIn K neg x y H Q
theorem op_inAll : OpR X (compareOp .In) (rInAll X.K false) := op_in_sign.or op_in_seq
theorem op_notInAll : OpR X (compareOp .NotIn) (rInAll X.K true) := op_notIn_sign.or op_notIn_seq
theorem in_all {neg : Bool} {x y : D} {vx vy : V} {b : Bool} {Q : VK} (R : Rel X.K ρ st H) (rx : RV X.K ρ H x vx) (ry : RV X.K ρ H y vy) (hb : oInB x y st = some b) (q : Q (.bl (if neg then !b else b)) H) : rInAll X.K neg vx vy H Q := by
  unfold oInB at hb
  split at hb
  · rename_i z
    split at hb
    · rename_i w
      split at hb
      · rename_i c hc
        cases hb
        cases rx; cases ry
        have e : w = ⟨#[c]⟩ := by
          cases w
          simp only at hc
          congr 1
          exact Array.ext' (by simpa using hc)
        subst e
        exact .inl ⟨_, _, rfl, rfl, q⟩
      · cases hb
    · cases hb
  · split at hb
    · rename_i ys hs
      split at hb
      · rename_i hf
        rw [Bool.and_eq_true] at hf
        obtain ⟨a, vs, rfl, s1, r1⟩ := seqOf_ok R ry hs
        refine .inr ⟨a, vs, rfl, s1, rx.flat hf.1, r1.flat hf.2, ?_⟩
        have e : inV vx vs = b := by
          cases hb
          exact r1.anyFlat rx hf.1 hf.2
        rw [e]
        exact q
      · cases hb
    · cases hb
theorem os_in : OpS X (rInAll X.K false) oIn := by
  intro W ρ st H σ x y vx vy Q R rx ry h
  unfold oIn at h
  split at h
  · rename_i b hb
    exact in_all R rx ry hb (h ρ H _ .refl R (.bl _))
  · exact h.elim
theorem os_notIn : OpS X (rInAll X.K true) oNotIn := by
  intro W ρ st H σ x y vx vy Q R rx ry h
  unfold oNotIn at h
  split at h
  · rename_i b hb
    exact in_all R rx ry hb (h ρ H _ .refl R (.bl _))
  · exact h.elim
end
end Fl
namespace Fl
open PySem PySem.Spec PyProof.Rows L2
/-! ### xs += a tuple -/
theorem iadd_tup_meets (l : Addr) (items : Array Value) (n : Nat) (b : Addr) (items2 : Array Value) (n2 : Nat) (dd : Option Addr) (sl : Array (Option Value)) (h0 : ¬(!items.isEmpty && Builtin.List.listTooLong (items.size + items2.size)) = true) (h1 : items.size ≤ sizeLine)
    (h2 : items.size + items2.size ≤ sizeLine + 1) :
    Meets (Builtin.«list.__iadd__» ⟨[.ref l, .ref b], []⟩) (fun _ R s => s.heap.get? l = some { cls := .type "list", dict := none, data := .seq items n, slots := #[] } ∧ s.heap.get? b = some { cls := .type "tuple", dict := dd, data := .seq items2 n2, slots := sl } ∧
      R (.ok (.ret (Value.ref l))) { s with heap := s.heap.update l (Obj.mapSeq fun x => x ++ items2), toks := s.toks }) :=
  .of_wp fun prog w A R s h => by
    obtain ⟨hp, g, d, tk, os⟩ := s
    obtain ⟨hl, hb, h⟩ := h
    have f1 := AutoSeq1.idx_int
    have f2 := AutoSeq1.sub_tuple_tuple
    have f3 := AutoSeq1.sub_list_list
    have f4 := AutoSeq1.sub_tuple_list
    have f5 := AutoSeq1.sub_list_tuple
    have hz' : (items ++ items2).size ≤ sizeLine + 1 := by rw [Array.size_append]; exact h2
    wp_walk using (PySem.wpAny_updateSeq hl rfl (hz := h1) (_hz' := hz')), PySem.AutoSeq1.wpAny_loadPart' hl, PySem.AutoSeq1.wpAny_loadPart' hb
    exact ⟨_, rfl, h⟩
theorem noFill2 {M : Model} {A : Around} {E : Value → Shared → Prop} {s : Shared} {a b : Value} {T U nm : String} {Q : Option Value → Shared → Prop} (ha : s.TypeIs a T) (hb : s.TypeIs b U) (hne : (Value.type T == Value.type U) = false)
    (f1 : fillsNumberSlot (.type T) nm = pure false) (f2 : fillsNumberSlot (.type U) nm = pure false) (h : Q none s) : wpAny M A (binaryOp1 nm a b) Q E s := by
  simp only [binaryOp1]
  refine wpAny_bind (wpAny_typeOf ha (wpAny_bind (wpAny_typeOf hb (wpAny_bind (wpAny_of_eq f1 ?_)))))
  rw [hne]
  simp only [Bool.false_eq_true, if_false]
  refine wpAny_bind (wpAny_of_eq f2 ?_)
  simp only [pure_bind, Bool.false_and, Bool.and_false, Bool.false_eq_true, if_false]
  exact wpAny_pure h
theorem iadd_mixed {M : Model} {A : Around} {E : Value → Shared → Prop} {s : Shared} {a b : Value} {Q : Value → Shared → Prop} (ha : s.TypeIs a "list") (hb : s.TypeIs b "tuple") (hc : wpAny M A (PySem.call (.builtin "list.__iadd__") [a, b]) Q E s) : wpAny M A (inplaceOp .Add a b) Q E s := by
  have l1 : typeLookup (.type "list") (dunderI "add") = pure (some (.builtin "list.__iadd__")) := PySem.F.slot_list_iadd.lookup
  have l2 : isSeqSlot (some (.builtin "list.__iadd__")) = true := by decide +kernel
  have l3 : fillsInplaceSlot (.type "list") "add" (Operator.Add == .Add) = pure false := by
    unfold fillsInplaceSlot
    show (typeLookup (.type "list") (dunderI "add") >>= fun fi => pure (fi.isSome && !isSeqSlot fi)) = pure false
    rw [l1]
    show (pure (true && !isSeqSlot (some (.builtin "list.__iadd__"))) : Sem Bool) = pure false
    rw [l2] <;> rfl
  have l4 : seqSlot? (.type "list") (dunderI "add") = pure (some (.builtin "list.__iadd__")) := PySem.seqSlot_of l1 l2
  unfold inplaceOp
  refine wpAny_holding (wpAny_bind (wpAny_typeOf ha (wpAny_bind (wpAny_of_eq l3 ?_))))
  show wpAny M A (if false = true then _ else _) Q E s
  rw [if_neg Bool.false_ne_true]
  refine wpAny_bind (noFill2 (nm := "add") ha hb (by decide) noFill_list_add noFill_tuple_add ?_)
  refine wpAny_bind (wpAny_of_eq l4 ?_)
  exact wpAny_bind (wpAny_rule hc)
section
variable {X : Cx} {W : WX} {ρ : List Addr} {H : Hp} {σ : L2.St} {st : Store}
def rExtT (K : Fg) : R2 := fun x y H Q => ∃ l b xs zs, x = .ref l ∧ y = .ref b ∧ H l = some (.lst xs) ∧ SqT K H b zs ∧ xs.length + zs.length ≤ sizeLine ∧ Q (.ref l) (upd H l (.lst (xs ++ zs)))
theorem iop_extT : OpR X (inplaceOp .Add) (rExtT X.K) := by
  intro pins s σ H x y v u Q I rx ry h
  obtain ⟨l, b, xs, zs, rfl, rfl, hH, hB, hz, q⟩ := h
  cases rx
  cases ry
  obtain ⟨z, its, n, r, hl, e⟩ := I.lstM hH
  obtain ⟨its2, r2, ⟨⟨cls, dd, data, sl⟩, e2, hc, n2, hd⟩, hz2⟩ := I.tuple hB
  simp only at hc hd
  subst hc hd
  have hl2 := r2.length
  have hsz : its.toArray.size + its2.toArray.size ≤ sizeLine := by rw [List.size_toArray, List.size_toArray]; omega
  have hlong : ¬ (!its.toArray.isEmpty && Builtin.List.listTooLong (its.toArray.size + its2.toArray.size)) = true := by
    rw [notLongL hsz, Bool.and_false]
    exact Bool.false_ne_true
  refine iadd_mixed ⟨_, e, rfl⟩ ⟨_, e2, rfl⟩ (call_meets PySem.F.slot_list_iadd ⟨_, e, rfl⟩ PySem.F.entry_list_iadd (PySem.F.args_list_iadd_2 _ _)
    (iadd_tup_meets l its.toArray n b its2.toArray n2 dd sl hlong (by rw [List.size_toArray]; omega) (by omega)) ⟨e, e2, ?_⟩)
  refine ⟨.ref l, _, I.lset (its' := its ++ its2) (t' := s.toks) hH e (by simp) (r.append r2) ?_, rfl, q⟩
  rw [List.length_append]
  omega
def rIadd (K : Fg) : R2 := fun x y H Q => rI0 (fun i j => .int (i + j)) x y H Q ∨ rExt2 x y H Q ∨ rExtT K x y H Q
theorem iop_all : OpR X (inplaceOp .Add) (rIadd X.K) := iop_add.or (iop_ext.or iop_extT)
/-- name += e: an int, or a list of the store grown -/
def sAug (i : Nat) (f : FE) : FS := fun env st => match env[i]? with
  | some (some (.int a)) => (match f env st with
    | .ok (.int b) st1 => .nx (env.set i (some (.int (a + b)))) st1
    | .exc e st1 => .exc e env st1
    | _ => .stuck)
  | some (some (.loc l)) => (match f env st with
    | .ok d st1 => (match st1[l]?, seqOf st1 d with
      | some (.lst xs), some ys => if xs.length + ys.length ≤ sizeLine then .nx env (st1.set l (.lst (xs ++ ys))) else .stuck
      | _, _ => .stuck)
    | .exc e st1 => .exc e env st1
    | _ => .stuck)
  | _ => .stuck
variable {e : Expr} {fe fo fi fv : FE} {pos : Pos}
theorem loc_at {l : Nat} {a : Addr} {so : SO} {v : V} (R : Rel X.K ρ st H) (r : RV X.K ρ H (.loc l) v) (h : st[l]? = some so) : ∃ a, v = .ref a ∧ ρ[l]? = some a ∧ l < st.length ∧ OR X.K ρ H a so := by
  cases r with
  | loc e => exact ⟨_, rfl, e, (List.getElem?_eq_some_iff.mp h).1, R.at_ l _ so e h⟩
theorem seqOf_lt {d : D} {v : V} {xs : List D} (R : Rel X.K ρ st H) (r : RV X.K ρ H d v) (h : seqOf st d = some xs) : ∃ a vs, v = .ref a ∧ (H a = some (.lst vs) ∨ SqT X.K H a vs) ∧ RVs X.K ρ H xs vs := by
  unfold seqOf at h
  split at h
  · cases h
    obtain ⟨a, vs, e, s1, r1⟩ := RV.isTup (a := 0) r
    exact ⟨a, vs, e, .inr s1, r1⟩
  · obtain ⟨a, vs, e, s1, r1⟩ := lstOf_ok R r h
    exact ⟨a, vs, e, .inl s1, r1⟩
theorem ps_au {i : Nat} {x : Str} {pos' : Pos} (G : Gx X) (he : PF X W e fe) (hi : X.N[i]? = some x := by rfl) (hx : Loc X.env.scope x := by first | exact .inl rfl | exact .inr rfl) (hf : X.fn x = true ∨ X.env.scope.names.lookup x = some .local := by first | exact .inl rfl | exact .inr rfl) :
    PFS X W (.AugAssign (.Name x pos') .Add e pos) (sAug i fe) :=
  psI (ps_aug G.nd hi hx he (ti := rIadd X.K) iop_all hf) fun D σ H ⟨ρ, st, env, R, E, h⟩ => by
    unfold sAug at h
    split at h
    · rename_i a ha
      obtain ⟨v, h1, r⟩ := E.2 i _ ha
      refine ⟨v, h1, ρ, st, env, R, E, ?_⟩
      cases r
      cases hq : fe env st with
      | ok d st1 =>
        rw [hq] at h
        cases d with
        | int b =>
          intro ρ1 H1 v1 x R1 r1
          cases r1
          exact .inl ⟨a, b, rfl, rfl, h ρ1 H1 _ x R1 ((E.ext x).set i (.int _))⟩
        | _ => exact h.elim
      | exc ex st1 => rw [hq] at h; exact fun ρ1 H1 c dx x R1 r => h ρ1 H1 σ c dx x R1 (E.ext x) r
      | stuck => rw [hq] at h; exact h
    · rename_i l ha
      obtain ⟨v, h1, r⟩ := E.2 i _ ha
      refine ⟨v, h1, ρ, st, env, R, E, ?_⟩
      cases hq : fe env st with
      | ok d st1 =>
        rw [hq] at h
        simp only at h
        split at h
        · rename_i xs ys hs1 hs2
          split at h
          · rename_i hl
            intro ρ1 H1 v1 x R1 r1
            obtain ⟨a, rfl, h2, h3, vs, h4, h5⟩ := loc_at (a := 0) R1 (r.ext x) hs1
            obtain ⟨b, us, rfl, h6, h7⟩ := seqOf_lt R1 r1 hs2
            have hlen : vs.length + us.length ≤ sizeLine := by rw [← h5.length, ← h7.length]; exact hl
            have fin : Ends.nx D (σ.set i (some (.ref a))) (upd H1 a (.lst (vs ++ us))) := by
              have x2 := Ext.write R1 h2 (.lst (vs ++ us))
              refine h ρ1 _ _ (x.trans x2) (R1.write h2 h3 ⟨_, upd_same, (h5.append h7).ext x2⟩) ?_
              have E2 := (E.ext x).ext x2
              refine ⟨by rw [List.length_set]; exact E2.1, fun j dj ej => ?_⟩
              obtain ⟨w, hw, rw'⟩ := E2.2 j dj ej
              by_cases hj : j = i
              · subst hj
                rw [ha] at ej
                cases ej
                have hl := (List.getElem?_eq_some_iff.mp h1).1
                refine ⟨.ref a, List.getElem?_set_self hl, ?_⟩
                rw [h1] at hw
                cases hw
                exact rw'
              · exact ⟨w, by rw [List.getElem?_set_ne (Ne.symm hj)]; exact hw, rw'⟩
            rcases h6 with h6 | h6
            · exact .inr (.inl ⟨a, b, vs, us, rfl, rfl, h4, h6, hlen, fin⟩)
            · exact .inr (.inr ⟨a, b, vs, us, rfl, rfl, h4, h6, hlen, fin⟩)
          · exact h.elim
        · exact h.elim
      | exc ex st1 => rw [hq] at h; exact fun ρ1 H1 c dx x R1 r => h ρ1 H1 σ c dx x R1 (E.ext x) r
      | stuck => rw [hq] at h; exact h
    · exact h.elim
/-! ### o[i] = v on a list of the store -/
def sIx (fv fo fi : FE) : FS := fun env st => match fv env st with
  | .ok d st1 => (match fo env st1 with
    | .ok (.loc l) st2 => (match fi env st2 with
      | .ok (.int k) st3 => (match st3[l]? with
        | some (.lst xs) => (match ixN xs.length k with
          | some j => .nx env (st3.set l (.lst (xs.set j d)))
          | none => .stuck)
        | _ => .stuck)
      | .exc e st3 => .exc e env st3
      | _ => .stuck)
    | .exc e st2 => .exc e env st2
    | _ => .stuck)
  | .exc e st1 => .exc e env st1
  | .stuck => .stuck
theorem ps_ix {o i value : Expr} {pos' : Pos} (hv : PF X W value fv) (ho : PF X W o fo) (hi : PF X W i fi) (hs : swapsWithSole [.Subscript o i pos'] value pos.line X.env = pure false := by rfl) (hw : swappedStores [.Subscript o i pos'] value X.env = pure none := by rfl)
    (h1 : (assignEach [.Subscript o i pos'] X.env).map (·.2) = [assign (.Subscript o i pos') X.env] := by rfl)
    (ha : ∀ v, assign (.Subscript o i pos') X.env v = (do
      let ov ← holding [v] (eval o X.env)
      let iv ← holding [v, ov] (eval i X.env)
      standAt pos'
      holding [v, ov, iv] (setItem ov iv v)
      release [v, ov, iv] []) := by intro _; rfl) : PFS X W (.Assign [.Subscript o i pos'] value pos) (sIx fv fo fi) :=
  psI (ps_asg hv (pg_sub ho hi set_list ha) hs hw h1) fun D σ H ⟨ρ, st, env, R, E, h⟩ => by
    refine ⟨ρ, st, env, R, E, ?_⟩
    unfold sIx at h
    cases hq : fv env st with
    | ok d st1 =>
      simp only [hq] at h
      refine fun ρ1 H1 v1 x1 R1 r1 => ⟨ρ1, st1, env, R1, E.ext x1, ?_⟩
      cases hq2 : fo env st1 with
      | ok d2 st2 =>
        simp only [hq2] at h
        cases d2 with
        | loc l =>
          refine fun ρ2 H2 v2 x2 R2 r2 => ⟨ρ2, st2, env, R2, (E.ext x1).ext x2, ?_⟩
          cases hq3 : fi env st2 with
          | ok d3 st3 =>
            simp only [hq3] at h
            cases d3 with
            | int k =>
              simp only at h
              split at h
              · rename_i xs hs1
                split at h
                · rename_i j hj
                  intro ρ3 H3 v3 x3 R3 r3
                  cases r3
                  obtain ⟨a, rfl, h2, h3, vs, h4, h5⟩ := loc_at (a := 0) R3 (r2.ext x3) hs1
                  refine ⟨a, vs, k, j, rfl, rfl, h4, by rw [← h5.length]; exact hj, ?_⟩
                  have x4 := Ext.write R3 h2 (.lst (vs.set j v1))
                  exact h ρ3 _ _ (((x1.trans x2).trans x3).trans x4) (R3.write h2 h3 ⟨_, upd_same, (RVs.set ((r1.ext x2).ext x3) j h5).ext x4⟩) ((((E.ext x1).ext x2).ext x3).ext x4)
                · exact False.elim h
              · exact False.elim h
            | _ => exact False.elim h
          | exc ex st3 => simp only [hq3] at h; exact fun ρ3 H3 c dx x3 R3 r => h ρ3 H3 σ c dx ((x1.trans x2).trans x3) R3 (((E.ext x1).ext x2).ext x3) r
          | stuck => simp only [hq3] at h; exact False.elim h
        | _ => exact False.elim h
      | exc ex st2 => simp only [hq2] at h; exact fun ρ3 H3 c dx x3 R3 r => h ρ3 H3 σ c dx (x1.trans x3) R3 ((E.ext x1).ext x3) r
      | stuck => simp only [hq2] at h; exact False.elim h
    | exc ex st1 => simp only [hq] at h; exact fun ρ3 H3 c dx x3 R3 r => h ρ3 H3 σ c dx x3 R3 (E.ext x3) r
    | stuck => simp only [hq] at h; exact False.elim h
/-! ### places, slices -/
def oIx : Op2 := fun x y st => match y with
  | .int k => (match x with
    | .str z => if z.length ≤ sizeLine then (match atI z.cps.toList k with
      | some c => .ok (.str ⟨#[c]⟩) st
      | none => .stuck) else .stuck
    | x => (match seqOf st x with
      | some xs => (match atI xs k with
        | some d => .ok d st
        | none => .stuck)
      | none => .stuck))
  | _ => .stuck
theorem atI_rel {xs : List D} {vs : List V} {k : Int} {d : D} (r : RVs X.K ρ H xs vs) (h : atI xs k = some d) : ∃ v, atI vs k = some v ∧ RV X.K ρ H d v := by
  unfold atI at h ⊢
  rw [← r.length]
  cases hx : ixN xs.length k with
  | none => rw [hx] at h; cases h
  | some j =>
    rw [hx] at h
    exact r.get h
theorem os_ix : OpS X (rIx X.K) oIx := by
  intro W ρ st H σ x y vx vy Q R rx ry h
  unfold oIx at h
  split at h
  · rename_i k
    cases ry
    split at h
    · rename_i z
      split at h
      · rename_i hz
        split at h
        · rename_i c hc
          cases rx
          exact .inr (.inr ⟨z, k, c, rfl, rfl, hz, hc, h ρ H _ .refl R (.str _)⟩)
        · exact h.elim
      · exact h.elim
    · split at h
      · rename_i xs hs
        split at h
        · rename_i d hd
          obtain ⟨a, vs, rfl, s1, r1⟩ := seqOf_ok R rx hs
          obtain ⟨v, hv, rv⟩ := atI_rel r1 hd
          rcases s1 with s1 | s1
          · exact .inl ⟨a, vs, k, v, rfl, rfl, s1, hv, h ρ H v .refl R rv⟩
          · exact .inr (.inl ⟨a, vs, k, v, rfl, rfl, s1, hv, h ρ H v .refl R rv⟩)
        · exact h.elim
      · exact h.elim
  · exact h.elim
theorem pf_ix {a b : Expr} (ha : PF X W a fo) (hb : PF X W b fi) (hs : PlainIx b := by exact fun _ _ => rfl) : PF X W (.Subscript a b pos) (fBin oIx fo fi) :=
  peI (pe_ix ix_seq ha hb hs) fun _ _ _ h => tOp_of os_ix h
/-- x[lo:hi] -/
def cutD {α : Type} (xs : List α) (lo hi : Option Int) : List α := (xs.drop (HT.sIx xs.length 0 lo)).take (HT.sIx xs.length xs.length hi - HT.sIx xs.length 0 lo)
def oSl (x : D) (lo hi : Option Int) (st : Store) : R D := match x with
  | .str z => if z.length ≤ sizeLine then .ok (.str (cutS z lo hi)) st else .stuck
  | .tup xs => .ok (.tup (cutD xs lo hi)) st
  | x => match lstOf st x with
    | some xs => .ok (.lst (cutD xs lo hi)) st
    | none => .stuck
abbrev FO := Env → Store → R (Option Int)
def foNone : FO := fun _ st => .ok none st
def foSome (f : FE) : FO := fun env st => (f env st).bind fun d st1 => match d with
  | .int i => .ok (some i) st1
  | _ => .stuck
def rdO (K : Fg) (mg : Mg) (W : WX) (f : FO) : TO := fun σ H Q => ∃ ρ st env, Rel K ρ st H ∧ REnv K ρ H env σ ∧ OkR K mg (fun _ _ a b => a = b) W ρ H σ (f env st) Q
abbrev PFO (X : Cx) (W : WX) (e : Option Expr) (f : FO) : Prop := PO X e (rdO X.K X.mg W f)
theorem poI {e : Option Expr} {t t' : TO} (h : PO X e t) (i : ∀ σ H Q, t' σ H Q → t σ H Q) : PO X e t' := ⟨fun pins s σ H Q I q => h.run pins s σ H Q I (i _ _ _ q)⟩
theorem pfo_none : PFO X W none foNone := poI po_none fun σ H Q ⟨ρ, st, env, R, E, h⟩ => h ρ H none .refl R rfl
theorem pfo_some {a : Expr} {f : FE} (h : PF X W a f) : PFO X W (some a) (foSome f) := poI (po_some h) fun σ H Q ⟨ρ, st, env, R, E, h⟩ => by
  refine ⟨ρ, st, env, R, E, OkR.bind h fun ρ1 H1 st1 d v x1 R1 r1 h1 => ?_⟩
  cases r1 with
  | int i => exact ⟨i, rfl, h1 ρ1 H1 _ .refl R1 rfl⟩
  | _ => exact h1.elim
def fSl (f : FE) (l u : FO) : FE := fun env st => (f env st).bind fun x st1 => (l env st1).bind fun lo st2 => (u env st2).bind fun hi st3 => oSl x lo hi st3
theorem RVs.cut {xs : List D} {vs : List V} (r : RVs X.K ρ H xs vs) (lo hi : Option Int) : RVs X.K ρ H (cutD xs lo hi) (cutV vs lo hi) := by
  unfold cutD cutV
  rw [r.length]
  exact (r.drop _).take _
theorem pf_sl {a : Expr} {lo hi : Option Expr} {f : FE} {l u : FO} {p2 : Pos} (ha : PF X W a f) (hl : PFO X W lo l) (hu : PFO X W hi u) : PF X W (.Subscript a (.Slice lo hi none p2) pos) (fSl f l u) :=
  peI (pe_slice (sl_str.or (sl_tupA.or sl_list)) ha hl hu) fun σ H Q ⟨ρ, st, env, R, E, h⟩ => by
    refine ⟨ρ, st, env, R, E, OkR.bind h fun ρ1 H1 st1 d v x1 R1 r1 h1 => ?_⟩
    refine ⟨ρ1, st1, env, R1, E.ext x1, OkR.bind h1 fun ρ2 H2 st2 lo' lo'' x2 R2 e2 h2 => ?_⟩
    subst e2
    refine ⟨ρ2, st2, env, R2, (E.ext x1).ext x2, OkR.bind h2 fun ρ3 H3 st3 hi' hi'' x3 R3 e3 h3 => ?_⟩
    subst e3
    have r3 := (r1.ext x2).ext x3
    unfold oSl at h3
    split at h3
    · rename_i z
      split at h3
      · rename_i hz
        cases r3
        exact .inl ⟨z, rfl, hz, h3 ρ3 H3 _ .refl R3 (.str _)⟩
      · exact h3.elim
    · rename_i xs
      have r4 := r3
      obtain ⟨a, vs, rfl, s1, rs⟩ := RV.isTup (a := 0) r3
      refine .inr (.inl ⟨a, vs, rfl, s1, fun hw => ?_, fun _ p hp => ok_tup R3 (rs.cut _ _) h3 p hp⟩)
      have e : cutD xs lo' hi' = xs := by
        unfold cutD
        rw [rs.length, hw.1, hw.2, List.drop_zero, Nat.sub_zero, ← rs.length, List.take_length]
      rw [e] at h3
      exact h3 ρ3 H3 _ .refl R3 r4
    · split at h3
      · rename_i xs hs
        obtain ⟨a, vs, rfl, s1, rs⟩ := lstOf_ok R3 r3 hs
        exact .inr (.inr ⟨a, vs, rfl, SqL.of s1, fun p hp => ok_lst R3 (rs.cut _ _) h3 p hp⟩)
      · exact h3.elim
end
end Fl
namespace Fl
open PySem PySem.Spec PyProof.Rows L2
/-! ### displays -/
def fTup (g : FA) : FE := fun env st => (g env st).bind fun ds st1 => if ds.length ≤ sizeLine then .ok (.tup ds) st1 else .stuck
/-- a list that nobody changes -/
def fLst (g : FA) : FE := fun env st => (g env st).bind fun ds st1 => if ds.length ≤ sizeLine then .ok (.lst ds) st1 else .stuck
/-- a list of the store -/
def fNew (g : FA) : FE := fun env st => (g env st).bind fun ds st1 => if ds.length ≤ sizeLine then .ok (.loc st1.length) (st1 ++ [.lst ds]) else .stuck
section
variable {X : Cx} {W : WX} {ρ : List Addr} {H : Hp} {σ : L2.St} {st : Store} {es : List Expr} {g : FA} {pos : Pos} {f : FE} {e : Expr}
theorem ok_new {ds : List D} {vs : List V} {Q : VK} (R : Rel X.K ρ st H) (rs : RVs X.K ρ H ds vs) (h : OkR X.K X.mg (RV X.K) W ρ H σ (.ok (.loc st.length) (st ++ [.lst ds])) Q) (p : Addr) (hp : H p = none) : Q (.ref p) (upd H p (.lst vs)) := by
  have x := Ext.alloc R hp (.lst vs)
  exact h _ _ _ x (R.alloc hp ⟨vs, upd_same, rs.ext x⟩) (loc_new R hp _)
theorem pf_tup {k} (h : PFA X W es g) : PF X W (.Tuple es k pos) (fTup g) :=
  peI (pe_tup h) fun σ H Q ⟨ρ, st, env, R, E, h⟩ => ⟨ρ, st, env, R, E, OkR.bind h fun ρ1 H1 st1 ds vs x1 R1 r1 h1 => by
    split at h1
    · rename_i hl
      exact ⟨by rw [← r1.length]; exact hl, fun p hp => ok_tup R1 r1 h1 p hp⟩
    · exact h1.elim⟩
theorem pf_lst (h : PFA X W es g) : PF X W (.List es pos) (fLst g) :=
  peI (pe_lst h) fun σ H Q ⟨ρ, st, env, R, E, h⟩ => ⟨ρ, st, env, R, E, OkR.bind h fun ρ1 H1 st1 ds vs x1 R1 r1 h1 => by
    split at h1
    · rename_i hl
      exact ⟨by rw [← r1.length]; exact hl, fun p hp => ok_lst R1 r1 h1 p hp⟩
    · exact h1.elim⟩
theorem pf_new (h : PFA X W es g) : PF X W (.List es pos) (fNew g) :=
  peI (pe_lst h) fun σ H Q ⟨ρ, st, env, R, E, h⟩ => ⟨ρ, st, env, R, E, OkR.bind h fun ρ1 H1 st1 ds vs x1 R1 r1 h1 => by
    split at h1
    · rename_i hl
      exact ⟨by rw [← r1.length]; exact hl, fun p hp => ok_new R1 r1 h1 p hp⟩
    · exact h1.elim⟩
/-! ### forgetting what was laid -/
open Classical in
noncomputable def hideF (st0 : Store) (r : R D) : R D := match r with
  | .ok d st => if st0.length ≤ st.length ∧ (∀ (l : Nat) (so : SO), l < st0.length → st[l]? = some so → st0[l]? = some so ∨ soLt st0.length so = true) ∧ locsLt st0.length (hand st0.length st d) = true then .ok (hand st0.length st d) (st.take st0.length) else .stuck
  | .exc e st => if st0.length ≤ st.length ∧ (∀ (l : Nat) (so : SO), l < st0.length → st[l]? = some so → st0[l]? = some so ∨ soLt st0.length so = true) ∧ (e.fs.all fun p => locsLt st0.length p.2) = true then .exc e (st.take st0.length) else .stuck
  | .stuck => .stuck
theorem take_lt {st0 st : Store} (R : Rel X.K ρ st0 H) (h : ∀ (l : Nat) (so : SO), l < st0.length → st[l]? = some so → st0[l]? = some so ∨ soLt st0.length so = true) : (st.take st0.length).all (soLt st0.length) = true := by
  rw [List.all_eq_true]
  intro so hm
  obtain ⟨l, hl, e⟩ := List.mem_iff_getElem.mp hm
  rw [List.length_take] at hl
  have e2 : st[l]? = some so := by
    rw [← e, List.getElem_take, List.getElem?_eq_getElem (by omega)]
  rcases h l so (by omega) e2 with q | q
  · exact List.all_eq_true.mp R.allLt so (List.mem_of_getElem? q)
  · exact q
theorem okR_hide {r : R D} {Q : VK} (R0 : Rel X.K ρ st H) (h : OkR X.K X.mg (RV X.K) W ρ H σ (hideF st r) Q) : OkR X.K X.mg (RV X.K) W ρ H σ r Q := by
  refine okR_keep R0 ?_
  cases r with
  | stuck => exact h
  | ok d s1 =>
    unfold hideF at h
    unfold keepF
    simp only at h ⊢
    split at h
    · rename_i hc
      obtain ⟨c1, c2, c3⟩ := hc
      rw [c3, take_lt R0 c2, decide_eq_true c1]
      exact h
    · exact h.elim
  | exc e s1 =>
    unfold hideF at h
    unfold keepF
    simp only at h ⊢
    split at h
    · rename_i hc
      obtain ⟨c1, c2, c3⟩ := hc
      rw [c3, take_lt R0 c2, decide_eq_true c1]
      exact h
    · exact h.elim
noncomputable def fHide (f : FE) : FE := fun env st => hideF st (f env st)
theorem pf_hide (h : PF X W e f) : PF X W e (fHide f) := peI h fun σ H Q ⟨ρ, st, env, R, E, h⟩ => ⟨ρ, st, env, R, E, okR_hide R h⟩
/-! ### x[::-1] of a list -/
def oRev : D → Store → R D := fun x st => match lstOf st x with
  | some xs => .ok (.lst xs.reverse) st
  | none => .stuck
def fRev (o : D → Store → R D) (f : FE) : FE := fun env st => (f env st).bind o
theorem pf_rev {k : Nat} {p1 p2 p3 : Pos} (he : PF X W e f) : PF X W (.Subscript e (.Slice none none (some (.UnaryOp .USub (.Constant (.int 1) k p1) p2)) p3) pos) (fRev oRev f) :=
  peI (pe_revL he) fun σ H Q ⟨ρ, st, env, R, E, h⟩ => ⟨ρ, st, env, R, E, OkR.bind h fun ρ1 H1 st1 d v x1 R1 r1 h1 => by
    unfold oRev at h1
    split at h1
    · rename_i xs hx
      obtain ⟨a, vs, rfl, e1, rs⟩ := lstOf_ok R1 r1 hx
      exact ⟨a, vs, rfl, SqL.of e1, fun p hp => ok_lst R1 rs.reverse h1 p hp⟩
    · exact h1.elim⟩
/-! ### calls of builtins -/
def CalS (X : Cx) (r : List V → Hp → VK → Prop) (o : Fn) : Prop := ∀ (W : WX) (ρ : List Addr) (st : Store) (H : Hp) (σ : L2.St) (ds : List D) (vs : List V) (Q : VK), Rel X.K ρ st H → RVs X.K ρ H ds vs → OkR X.K X.mg (RV X.K) W ρ H σ (o ds st) Q → r vs H Q
variable {id T : String} {r : List V → Hp → VK → Prop} {x : Str} {p : Pos} {o : Fn}
theorem tCB_of (os : CalS X r o) {Q : VK} (h : rdE X.K X.mg W (fCall o g) σ H Q) : tCB r (rdA X.K X.mg W g) σ H Q := by
  obtain ⟨ρ, st, env, R, E, h⟩ := h
  exact ⟨ρ, st, env, R, E, OkR.bind h fun ρ1 H1 st1 ds vs x1 R1 r1 h1 => os W ρ1 st1 H1 σ ds vs Q R1 r1 h1⟩
theorem pf_cb (hc : CallR X (.builtin id) r) (os : CalS X r o) (ha : PFA X W (e :: es) g) (hm : X.mg x = none) (hv : bootBuiltins x = some (.builtin id)) (hg : Gl X x := by rfl) (hn : x ≠ "__name__" := by decide) (hdb : (x == ("__debug__" : Str)) = false := by decide)
    (he : starEach (e :: es) X.env = (false, eval e X.env) :: starEach es X.env := by rfl) (hpl : (backTo pos (starEach es X.env)).any (·.1) = false := by rfl) : PF X W (.Call (.Name x p) (e :: es) [] pos) (fCall o g) :=
  peI (pe_callB hc hg hm hv ha hn hdb he hpl) fun _ _ _ h => tCB_of os h
theorem pf_ct (hc : CallR X (.type T) r) (os : CalS X r o) (ha : PFA X W (e :: es) g) (hm : X.mg x = none) (hv : bootBuiltins x = some (.type T)) (hg : Gl X x := by rfl) (hn : x ≠ "__name__" := by decide) (hdb : (x == ("__debug__" : Str)) = false := by decide)
    (he : starEach (e :: es) X.env = (false, eval e X.env) :: starEach es X.env := by rfl) (hpl : (backTo pos (starEach es X.env)).any (·.1) = false := by rfl) : PF X W (.Call (.Name x p) (e :: es) [] pos) (fCall o g) :=
  peI (pe_callTy hc hg hm hv ha hn hdb he hpl) fun _ _ _ h => tCB_of os h
theorem CallR.or {u : Value} {r r' : List V → Hp → VK → Prop} (h : CallR X u r) (h' : CallR X u r') : CallR X u (fun vs H Q => r vs H Q ∨ r' vs H Q) := fun pins s σ H xs us Q I rs q => q.elim (h pins s σ H xs us Q I rs) (h' pins s σ H xs us Q I rs)
theorem RVs.one' {d : D} {vs : List V} (h : RVs X.K ρ H [d] vs) : ∃ v, vs = [v] ∧ RV X.K ρ H d v := by
  cases h with
  | cons r t => cases t; exact ⟨_, rfl, r⟩
theorem RVs.two' {d e : D} {vs : List V} (h : RVs X.K ρ H [d, e] vs) : ∃ v u, vs = [v, u] ∧ RV X.K ρ H d v ∧ RV X.K ρ H e u := by
  cases h with
  | cons r t => obtain ⟨u, rfl, r2⟩ := RVs.one' t; exact ⟨_, u, rfl, r, r2⟩
/-- any list or tuple -/
def itmOf (st : Store) (d : D) : Option (List D) := match d with
  | .frz xs => some xs
  | d => seqOf st d
theorem itmOf_ok {d : D} {v : V} {xs : List D} (R : Rel X.K ρ st H) (r : RV X.K ρ H d v) (h : itmOf st d = some xs) : ∃ a vs, v = .ref a ∧ (SqL X.K H a vs ∨ SqT X.K H a vs) ∧ RVs X.K ρ H xs vs := by
  unfold itmOf at h
  split at h
  · cases h
    cases r with
    | frz h r =>
      refine ⟨_, _, rfl, .inl ?_, r⟩
      rcases h with ⟨_, o, e⟩ | e
      · exact .inl (.inr ⟨o, e⟩)
      · rcases e with e | e
        · rcases e with e | ⟨o, e⟩ <;> cases e
        · exact .inr e
  · exact seqOf_ok R r h
def bLen : Fn := fun ds st => match ds with
  | [.str z] => if z.length ≤ sizeLine then .ok (.int z.length) st else .stuck
  | [d] => (match itmOf st d with
    | some xs => .ok (.int xs.length) st
    | none => .stuck)
  | _ => .stuck
theorem cs_len : CalS X (fun xs H Q => ∃ x n, xs = [x] ∧ LenV X.K x H n ∧ Q (.int n) H) bLen := by
  intro W ρ st H σ ds vs Q R rs h
  unfold bLen at h
  split at h
  · rename_i z
    split at h
    · rename_i hz
      obtain ⟨v, rfl, r⟩ := rs.one'
      cases r
      exact ⟨_, z.length, rfl, ⟨hz, rfl⟩, h ρ H _ .refl R (.int _)⟩
    · exact h.elim
  · split at h
    · rename_i xs hx
      obtain ⟨v, rfl, r⟩ := rs.one'
      obtain ⟨a, us, rfl, s1, r1⟩ := itmOf_ok R r hx
      refine ⟨_, us.length, rfl, ?_, ?_⟩
      · exact s1.elim (fun q => .inl ⟨us, q, rfl⟩) fun q => .inr ⟨us, q, rfl⟩
      · rw [← r1.length]
        exact h ρ H _ .refl R (.int _)
    · exact h.elim
  · exact h.elim
def bAbs : Fn := fun ds st => match ds with
  | [.int i] => .ok (.int (if i < 0 then -i else i)) st
  | _ => .stuck
theorem cs_abs : CalS X (fun xs H Q => ∃ i, xs = [.int i] ∧ Q (.int (if i < 0 then -i else i)) H) bAbs := by
  intro W ρ st H σ ds vs Q R rs h
  unfold bAbs at h
  split at h
  · obtain ⟨v, rfl, r⟩ := rs.one'
    cases r
    exact ⟨_, rfl, h ρ H _ .refl R (.int _)⟩
  · exact h.elim
def bInt : Fn := fun ds st => match ds with
  | [.int i] => .ok (.int i) st
  | [.bl b] => .ok (.int (if b then 1 else 0)) st
  | _ => .stuck
theorem cs_int : CalS X (fun xs H Q => (∃ i, xs = [.int i] ∧ Q (.int i) H) ∨ ∃ k, xs = [.bl k] ∧ Q (.int (if k then 1 else 0)) H) bInt := by
  intro W ρ st H σ ds vs Q R rs h
  unfold bInt at h
  split at h
  · obtain ⟨v, rfl, r⟩ := rs.one'
    cases r
    exact .inl ⟨_, rfl, h ρ H _ .refl R (.int _)⟩
  · obtain ⟨v, rfl, r⟩ := rs.one'
    cases r
    exact .inr ⟨_, rfl, h ρ H _ .refl R (.int _)⟩
  · exact h.elim
def bOrd : Fn := fun ds st => match ds with
  | [.str z] => if z.length = 1 then .ok (.int (z.cps.getD 0 0 : Nat)) st else .stuck
  | _ => .stuck
theorem cs_ord : CalS X (fun xs H Q => ∃ x, xs = [.str x] ∧ x.length = 1 ∧ Q (.int (x.cps.getD 0 0 : Nat)) H) bOrd := by
  intro W ρ st H σ ds vs Q R rs h
  unfold bOrd at h
  split at h
  · split at h
    · rename_i hz
      obtain ⟨v, rfl, r⟩ := rs.one'
      cases r
      exact ⟨_, rfl, hz, h ρ H _ .refl R (.int _)⟩
    · exact h.elim
  · exact h.elim
def bMax : Fn := fun ds st => match ds with
  | [.int i, .int j] => .ok (.int (if j > i then j else i)) st
  | _ => .stuck
theorem cs_max2 : CalS X (fun xs H Q => ∃ i j, xs = [.int i, .int j] ∧ Q (.int (if j > i then j else i)) H) bMax := by
  intro W ρ st H σ ds vs Q R rs h
  unfold bMax at h
  split at h
  · obtain ⟨v, u, rfl, r, r2⟩ := rs.two'
    cases r; cases r2
    exact ⟨_, _, rfl, h ρ H _ .refl R (.int _)⟩
  · exact h.elim
def bMin : Fn := fun ds st => match ds with
  | [.int i, .int j] => .ok (.int (if j < i then j else i)) st
  | _ => .stuck
theorem cs_min2 : CalS X (fun xs H Q => ∃ i j, xs = [.int i, .int j] ∧ Q (.int (if j < i then j else i)) H) bMin := by
  intro W ρ st H σ ds vs Q R rs h
  unfold bMin at h
  split at h
  · obtain ⟨v, u, rfl, r, r2⟩ := rs.two'
    cases r; cases r2
    exact ⟨_, _, rfl, h ρ H _ .refl R (.int _)⟩
  · exact h.elim
/-! list(x), tuple(x) -/
def rListStr : List V → Hp → VK → Prop := fun xs H Q => ∃ z : Str, xs = [.str z] ∧ z.length ≤ sizeLine ∧ ∀ l, H l = none → Q (.ref l) (upd H l (.lst (z.cps.toList.map fun c => .str ⟨#[c]⟩)))
theorem vals_at : ∀ {xs : List V} {us : List Value}, xs.length = us.length → (∀ (j : Nat) (x : V) (u : Value), xs[j]? = some x → us[j]? = some u → RelV x u) → Vals xs us
  | [], [], _, _ => .nil
  | x :: xs, u :: us, hl, h => .cons (h 0 x u rfl rfl) (vals_at (by simpa using hl) fun j y w e1 e2 => h (j + 1) y w (by simpa using e1) (by simpa using e2))
theorem vals_signs {x : Str} {acc : Array Value} (h : ItemsOf (SignAt x) acc x.cps.size) : Vals (x.cps.toList.map fun c => V.str ⟨#[c]⟩) acc.toList := by
  refine vals_at (by rw [List.length_map, Array.length_toList, Array.length_toList, h.1]) fun j y u e1 e2 => ?_
  obtain ⟨c, t, h1, rfl⟩ := h.2 j u (by rw [← Array.getElem?_toList]; exact e2)
  rw [List.getElem?_map, Array.getElem?_toList, h1] at e1
  cases e1
  exact ⟨t, rfl⟩
theorem call_list_text (hc : X.calm = true) : CallR X (.type "list") rListStr := by
  intro pins s σ H xs us Q I rs h
  obtain ⟨z, rfl, hz, q⟩ := h
  obtain ⟨u, rfl, t, rfl⟩ := vals1 rs
  refine PySem.call_list_str (I.ok.hd hc) z t (fun h' tk acc' c' hk hn hi => ?_) hz
  refine ⟨.ref _, _, I.laid (t' := tk) (o := .lst (z.cps.toList.map fun c => .str ⟨#[c]⟩)) hk (Nat.le_refl _) ?_, rfl, q _ I.fresh⟩
  refine ⟨by rw [List.length_map]; exact hz, acc'.toList, c', vals_signs hi, ?_⟩
  rw [Array.toArray_toList]
  exact hn

def bList : Fn := fun ds st => match ds with
  | [.str z] => if z.length ≤ sizeLine then .ok (.lst (z.cps.toList.map fun c => .str ⟨#[c]⟩)) st else .stuck
  | [d] => (match itmOf st d with
    | some xs => .ok (.lst xs) st
    | none => .stuck)
  | _ => .stuck
theorem rvs_signs (cs : List Nat) : RVs X.K ρ H (cs.map fun c => D.str ⟨#[c]⟩) (cs.map fun c => V.str ⟨#[c]⟩) := by
  induction cs with
  | nil => exact .nil
  | cons c cs ih => exact .cons (.str _) ih
def rListAll (K : Fg) : List V → Hp → VK → Prop := fun xs H Q => rListStr xs H Q ∨ ∃ p ys, xs = [.ref p] ∧ (SqL K H p ys ∨ SqT K H p ys) ∧ ∀ l, H l = none → Q (.ref l) (upd H l (.lst ys))
theorem call_list_all (hc : X.calm = true) : CallR X (.type "list") (rListAll X.K) := (call_list_text hc).or call_list_of
theorem cs_list : CalS X (rListAll X.K) bList := by
  intro W ρ st H σ ds vs Q R rs h
  unfold bList at h
  split at h
  · split at h
    · rename_i z hz
      obtain ⟨v, rfl, r⟩ := rs.one'
      cases r
      exact .inl ⟨_, rfl, hz, fun l hl => ok_lst R (rvs_signs _) h l hl⟩
    · exact h.elim
  · split at h
    · rename_i xs hx
      obtain ⟨v, rfl, r⟩ := rs.one'
      obtain ⟨a, us, rfl, s1, r1⟩ := itmOf_ok R r hx
      exact .inr ⟨a, us, rfl, s1, fun l hl => ok_lst R r1 h l hl⟩
    · exact h.elim
  · exact h.elim
/-- list(x), kept in the store -/
def bListN : Fn := fun ds st => match ds with
  | [d] => (match itmOf st d with
    | some xs => .ok (.loc st.length) (st ++ [.lst xs])
    | none => .stuck)
  | _ => .stuck
theorem cs_listN : CalS X (fun xs H Q => ∃ p ys, xs = [.ref p] ∧ (SqL X.K H p ys ∨ SqT X.K H p ys) ∧ ∀ l, H l = none → Q (.ref l) (upd H l (.lst ys))) bListN := by
  intro W ρ st H σ ds vs Q R rs h
  unfold bListN at h
  split at h
  · split at h
    · rename_i xs hx
      obtain ⟨v, rfl, r⟩ := rs.one'
      obtain ⟨a, us, rfl, s1, r1⟩ := itmOf_ok R r hx
      exact ⟨a, us, rfl, s1, fun l hl => ok_new R r1 h l hl⟩
    · exact h.elim
  · exact h.elim
def bTuple : Fn := fun ds st => match ds with
  | [d] => (match itmOf st d with
    | some xs => .ok (.tup xs) st
    | none => .stuck)
  | _ => .stuck
theorem RV.tupOf {v : V} {a : Addr} {xs ys : List D} {vs : List V} (r : RV X.K ρ H (.tup xs) v) : True := trivial
theorem cs_tuple : CalS X (fun xs H Q => ∃ p ys, xs = [.ref p] ∧ ((SqL X.K H p ys ∧ ∀ l, H l = none → Q (.ref l) (upd H l (.tup ys))) ∨ (SqT X.K H p ys ∧ Q (.ref p) H))) bTuple := by
  intro W ρ st H σ ds vs Q R rs h
  unfold bTuple at h
  split at h
  · split at h
    · rename_i d _ xs hx
      obtain ⟨v, rfl, r⟩ := rs.one'
      by_cases ht : ∃ ys, d = .tup ys
      · obtain ⟨ys, rfl⟩ := ht
        cases (show some ys = some xs from hx)
        obtain ⟨a, us, rfl, s1, r1⟩ := RV.isTup (a := 0) r
        exact ⟨a, us, rfl, .inr ⟨s1, h ρ H _ .refl R r⟩⟩
      · have hl : ∃ a us, v = .ref a ∧ SqL X.K H a us ∧ RVs X.K ρ H xs us := by
          unfold itmOf at hx
          split at hx
          · cases hx
            cases r with
            | frz h r =>
              refine ⟨_, _, rfl, ?_, r⟩
              rcases h with ⟨_, o, e⟩ | e
              · exact .inl (.inr ⟨o, e⟩)
              · rcases e with e | e
                · rcases e with e | ⟨o, e⟩ <;> cases e
                · exact .inr e
          · unfold seqOf at hx
            split at hx
            · exact absurd ⟨_, rfl⟩ ht
            · obtain ⟨a, us, e1, e2, e3⟩ := lstOf_ok R r hx
              exact ⟨a, us, e1, SqL.of e2, e3⟩
        obtain ⟨a, us, rfl, s1, r1⟩ := hl
        exact ⟨a, us, rfl, .inl ⟨s1, fun l hl => ok_tup R r1 h l hl⟩⟩
    · exact h.elim
  · exact h.elim
/-! all, any, sum of a list -/
def blsOf : List D → Option (List Bool)
  | [] => some []
  | .bl b :: ds => (blsOf ds).map (b :: ·)
  | _ => none
def intsOf : List D → Option (List Int)
  | [] => some []
  | .int b :: ds => (intsOf ds).map (b :: ·)
  | _ => none
def strsOf : List D → Option (List Str)
  | [] => some []
  | .str b :: ds => (strsOf ds).map (b :: ·)
  | _ => none
theorem blsOf_ok : ∀ {ds : List D} {vs : List V} {bs : List Bool}, RVs X.K ρ H ds vs → blsOf ds = some bs → vs = bs.map V.bl
  | [], _, _, .nil, h => by cases h; rfl
  | d :: ds, _, bs, .cons r t, h => by
    unfold blsOf at h
    split at h
    · rename_i hd; cases hd
    · rename_i b ds' hd
      cases hd
      cases hq : blsOf ds with
      | none => rw [hq] at h; cases h
      | some cs =>
        rw [hq] at h
        cases h
        cases r
        rw [blsOf_ok t hq]
        rfl
    · cases h
theorem intsOf_ok : ∀ {ds : List D} {vs : List V} {bs : List Int}, RVs X.K ρ H ds vs → intsOf ds = some bs → vs = bs.map V.int
  | [], _, _, .nil, h => by cases h; rfl
  | d :: ds, _, bs, .cons r t, h => by
    unfold intsOf at h
    split at h
    · rename_i hd; cases hd
    · rename_i b ds' hd
      cases hd
      cases hq : intsOf ds with
      | none => rw [hq] at h; cases h
      | some cs =>
        rw [hq] at h
        cases h
        cases r
        rw [intsOf_ok t hq]
        rfl
    · cases h
theorem strsOf_ok : ∀ {ds : List D} {vs : List V} {bs : List Str}, RVs X.K ρ H ds vs → strsOf ds = some bs → vs = bs.map V.str
  | [], _, _, .nil, h => by cases h; rfl
  | d :: ds, _, bs, .cons r t, h => by
    unfold strsOf at h
    split at h
    · rename_i hd; cases hd
    · rename_i b ds' hd
      cases hd
      cases hq : strsOf ds with
      | none => rw [hq] at h; cases h
      | some cs =>
        rw [hq] at h
        cases h
        cases r
        rw [strsOf_ok t hq]
        rfl
    · cases h
theorem map_bl_of {bs : List Bool} : blsOf (bs.map D.bl) = some bs := by
  induction bs with
  | nil => rfl
  | cons b bs ih => rw [List.map_cons, blsOf, ih]; rfl
theorem map_int_of {bs : List Int} : intsOf (bs.map D.int) = some bs := by
  induction bs with
  | nil => rfl
  | cons b bs ih => rw [List.map_cons, intsOf, ih]; rfl
theorem map_str_of {bs : List Str} : strsOf (bs.map D.str) = some bs := by
  induction bs with
  | nil => rfl
  | cons b bs ih => rw [List.map_cons, strsOf, ih]; rfl
def bAll : Fn := fun ds st => match ds with
  | [d] => (match (lstOf st d).bind blsOf with
    | some bs => .ok (.bl (bs.all _root_.id)) st
    | none => .stuck)
  | _ => .stuck
def bAny : Fn := fun ds st => match ds with
  | [d] => (match (lstOf st d).bind blsOf with
    | some bs => .ok (.bl (bs.any _root_.id)) st
    | none => .stuck)
  | _ => .stuck
def bSum : Fn := fun ds st => match ds with
  | [d] => (match (lstOf st d).bind intsOf with
    | some bs => .ok (.int bs.sum) st
    | none => .stuck)
  | _ => .stuck
theorem cs_all : CalS X (rAll X.K) bAll := by
  intro W ρ st H σ ds vs Q R rs h
  unfold bAll at h
  split at h
  · split at h
    · rename_i bs hx
      obtain ⟨xs, h1, h2⟩ := Option.bind_eq_some_iff.mp hx
      obtain ⟨v, rfl, r⟩ := rs.one'
      obtain ⟨a, us, rfl, s1, r1⟩ := lstOf_ok R r h1
      cases blsOf_ok r1 h2
      exact ⟨a, bs, rfl, SqL.of s1, h ρ H _ .refl R (.bl _)⟩
    · exact h.elim
  · exact h.elim
theorem cs_any : CalS X (rAny X.K) bAny := by
  intro W ρ st H σ ds vs Q R rs h
  unfold bAny at h
  split at h
  · split at h
    · rename_i bs hx
      obtain ⟨xs, h1, h2⟩ := Option.bind_eq_some_iff.mp hx
      obtain ⟨v, rfl, r⟩ := rs.one'
      obtain ⟨a, us, rfl, s1, r1⟩ := lstOf_ok R r h1
      cases blsOf_ok r1 h2
      exact ⟨a, bs, rfl, SqL.of s1, h ρ H _ .refl R (.bl _)⟩
    · exact h.elim
  · exact h.elim
theorem cs_sum : CalS X (rSum X.K) bSum := by
  intro W ρ st H σ ds vs Q R rs h
  unfold bSum at h
  split at h
  · split at h
    · rename_i bs hx
      obtain ⟨xs, h1, h2⟩ := Option.bind_eq_some_iff.mp hx
      obtain ⟨v, rfl, r⟩ := rs.one'
      obtain ⟨a, us, rfl, s1, r1⟩ := lstOf_ok R r h1
      cases intsOf_ok r1 h2
      exact ⟨a, bs, rfl, SqL.of s1, h ρ H _ .refl R (.int _)⟩
    · exact h.elim
  · exact h.elim
/-! isinstance(x, a built-in type) -/
inductive Ty where
  | non | bl | int | str | tup | lst | dct
  deriving DecidableEq
def Ty.nm : Ty → String
  | .non => "NoneType" | .bl => "bool" | .int => "int" | .str => "str" | .tup => "tuple" | .lst => "list" | .dct => "dict"
def tyOf (st : Store) : D → Option Ty
  | .non => some .non
  | .bl _ => some .bl
  | .int _ => some .int
  | .str _ => some .str
  | .tup _ => some .tup
  | .lst _ => some .lst
  | .frz _ => some .lst
  | .loc l => match st[l]? with
    | some (.lst _) => some .lst
    | some (.dK _) => some .dct
    | some (.dT _) => some .dct
    | _ => none
  | .obj _ => none
def Ty.le : Ty → Ty → Bool
  | .bl, .int => true
  | a, b => decide (a = b)
theorem tyOf_ok {d : D} {v : V} {t : Ty} (R : Rel X.K ρ st H) (r : RV X.K ρ H d v) (h : tyOf st d = some t) : TyX X.K H v (.type t.nm) := by
  cases r with
  | non => cases h; exact .base .non
  | bl b => cases h; exact .base (.bl b)
  | int b => cases h; exact .base (.int b)
  | str b => cases h; exact .base (.str b)
  | tup e _ =>
    cases h
    rcases e with ⟨_, e⟩ | ⟨o, its, n, e, c, _⟩
    · exact .base (.tup e)
    · exact .kTuple e c
  | lst _ e _ => cases h; exact .base (.lst e)
  | frz e _ =>
    cases h
    rcases e with ⟨_, o, e⟩ | e
    · exact .base (.frz e)
    · rcases e with e | e
      · rcases e with e | ⟨o, e⟩ <;> cases e
      · obtain ⟨o, n, _, e1, c, _⟩ := e
        exact .kList e1 c
  | @loc l a e =>
    unfold tyOf at h
    simp only at h
    split at h
    · rename_i hs; cases h; obtain ⟨vs, e1, _⟩ := R.at_ l a _ e hs; exact .base (.lst e1)
    · rename_i hs; cases h; obtain ⟨vs, e1, _⟩ := R.at_ l a _ e hs; exact .base (.dK e1)
    · rename_i hs; cases h; obtain ⟨vs, e1, _⟩ := R.at_ l a _ e hs; exact .base (.dT e1)
    · cases h
  | obj => cases h
def fIsi (c : Ty) (f : FE) : FE := fun env st => (f env st).bind fun d st1 => match tyOf st1 d with
  | some t => .ok (.bl (t.le c)) st1
  | none => .stuck
theorem kit_le (c : Ty) (hc : c = .int ∨ c = .bl ∨ c = .str ∨ c = .tup ∨ c = .lst ∨ c = .dct) (t : Ty) : kitB t.nm c.nm = some (t.le c) := by
  rcases hc with rfl | rfl | rfl | rfl | rfl | rfl <;> cases t <;> decide +kernel
theorem pf_isi {a : Expr} {y : Str} {p2 : Pos} (c : Ty) (ha : PF X W a f) (hm : X.mg "isinstance" = none) (hm2 : X.mg y = none) (hv2 : bootBuiltins y = some (.type c.nm)) (hc : c = .int ∨ c = .bl ∨ c = .str ∨ c = .tup ∨ c = .lst ∨ c = .dct)
    (hg : Gl X "isinstance" := by rfl) (hg2 : Gl X y := by rfl) (hn2 : y ≠ "__name__" := by decide) (hdb2 : (y == ("__debug__" : Str)) = false := by decide)
    (hs1 : starEach [a, .Name y p2] X.env = (false, eval a X.env) :: starEach [.Name y p2] X.env := by rfl) (hs2 : starEach [.Name y p2] X.env = (false, eval (.Name y p2) X.env) :: starEach [] X.env := by rfl)
    (hpl : (backTo pos (starEach [.Name y p2] X.env)).any (·.1) = false := by rfl) : PF X W (.Call (.Name "isinstance" p) [a, .Name y p2] [] pos) (fIsi c f) :=
  peI (pe_callB call_isi hg hm (by rfl) (pa_cons ha (pa_cons (pe_bltn (v := .ty c.nm) hg2 hm2 hv2 rfl hn2 hdb2) pa_nil hs2) hs1) (by decide) (by decide) hs1 hpl) fun σ H Q ⟨ρ, st, env, R, E, h⟩ => ⟨ρ, st, env, R, E, OkR.bind h fun ρ1 H1 st1 d v x1 R1 r1 h1 => by
    split at h1
    · rename_i t ht
      exact ⟨v, _, _, _, _, rfl, .ty _, tyOf_ok R1 r1 ht, kit_ty (kit_le c hc t), h1 ρ1 H1 _ .refl R1 (.bl _)⟩
    · exact h1.elim⟩
/-! sep.join(list or tuple of texts) -/
def fJoin (f g : FE) : FE := fun env st => (f env st).bind fun x st1 => match x with
  | .str a => (g env st1).bind fun y st2 => (match (seqOf st2 y).bind strsOf with
    | some ys => if (ys.map (·.length)).sum + ys.length * a.length ≤ 16777216 then .ok (.str (Txt.join a ys)) st2 else .stuck
    | none => .stuck)
  | _ => .stuck
theorem pf_join {a : Expr} {apos : Pos} {fg : FE} (ho : PF X W a f) (he : PF X W e fg) (hs : starEach [e] X.env = [(false, eval e X.env)] := by rfl) (hbase : attributeBase a "join" X.env (eval a X.env) = eval a X.env := by rfl) (hline : (apos.endLine == pos.line) = true := by rfl) :
    PF X W (.Call (.Attribute a "join" apos) [e] [] pos) (fJoin f fg) :=
  peI (pe_join ho he hs hbase hline) fun σ H Q ⟨ρ, st, env, R, E, h⟩ => by
    refine ⟨ρ, st, env, R, E, OkR.bind h fun ρ1 H1 st1 d v x1 R1 r1 h1 => ?_⟩
    cases r1 with
    | str a =>
      refine ⟨⟨_, rfl⟩, ρ1, st1, env, R1, E.ext x1, OkR.bind h1 fun ρ2 H2 st2 d2 v2 x2 R2 r2 h2 => ?_⟩
      skip
      split at h2
      · rename_i ys hy
        split at h2
        · rename_i hz
          obtain ⟨xs, e1, e2⟩ := Option.bind_eq_some_iff.mp hy
          obtain ⟨b, us, rfl, s1, rs⟩ := seqOf_ok R2 r2 e1
          cases strsOf_ok rs e2
          exact ⟨a, b, ys, rfl, rfl, s1, hz, h2 ρ2 H2 _ .refl R2 (.str _)⟩
        · exact h2.elim
      · exact h2.elim
    | _ => exact h1.elim
end
end Fl
namespace Fl
open PySem PySem.Spec PyProof.Rows L2
/-! ### what a for walks -/
section
variable {X : Cx} {W : WX} {ρ : List Addr} {H : Hp} {σ : L2.St} {st : Store} {pos : Pos} {f : FE} {e tg : Expr} {g : FA}
theorem PI.or {w1 w2 : TI} (h1 : PI X tg e w1) (h2 : PI X tg e w2) : PI X tg e (fun σ H R => w1 σ H R ∨ w2 σ H R) :=
  ⟨fun pins s σ H R I q => q.elim (h1.run pins s σ H R I) (h2.run pins s σ H R I)⟩
theorem yi_list {xs : List D} {src : List (Nat × List D)} {a : Addr} (h : ∀ ρ1 st1 H1, Ext ρ H ρ1 H1 → Rel X.K ρ1 st1 H1 → srcOk st1 src → ∃ vs, SqL X.K H1 a vs ∧ RVs X.K ρ1 H1 xs vs) : YI X.K ρ H ⟨xs, src⟩ (Itl X.K a) := by
  intro i ρ1 st1 H1 x R1 hs
  obtain ⟨vs, h1, h2⟩ := h ρ1 st1 H1 x R1 hs
  refine ⟨fun d hd => ?_, fun hl => ⟨vs, h1, by rw [← h2.length]; exact hl⟩⟩
  obtain ⟨v, hv, rv⟩ := h2.get hd
  refine ⟨⟨vs, v, h1, hv⟩, fun y H2 ⟨e1, e2⟩ => ?_⟩
  subst e1
  have e3 := e2 vs h1
  rw [hv] at e3
  cases e3
  exact ⟨.refl, R1, rv⟩
theorem yi_tup {xs : List D} {src : List (Nat × List D)} {a : Addr} (h : ∀ ρ1 st1 H1, Ext ρ H ρ1 H1 → Rel X.K ρ1 st1 H1 → srcOk st1 src → ∃ vs, SqT X.K H1 a vs ∧ RVs X.K ρ1 H1 xs vs) : YI X.K ρ H ⟨xs, src⟩ (Itt X.K a) := by
  intro i ρ1 st1 H1 x R1 hs
  obtain ⟨vs, h1, h2⟩ := h ρ1 st1 H1 x R1 hs
  refine ⟨fun d hd => ?_, fun hl => ⟨vs, h1, by rw [← h2.length]; exact hl⟩⟩
  obtain ⟨v, hv, rv⟩ := h2.get hd
  refine ⟨⟨vs, v, h1, hv⟩, fun y H2 ⟨e1, e2⟩ => ?_⟩
  subst e1
  have e3 := e2 vs h1
  rw [hv] at e3
  cases e3
  exact ⟨.refl, R1, rv⟩
theorem yi_str {z : Str} : YI X.K ρ H ⟨z.cps.toList.map fun c => .str ⟨#[c]⟩, []⟩ (Its z) := by
  intro i ρ1 st1 H1 x R1 hs
  refine ⟨fun d hd => ?_, fun hl => by simpa [Its] using hl⟩
  have hd' : (z.cps.toList.map fun c => D.str ⟨#[c]⟩)[i]? = some d := hd
  rw [List.getElem?_map, Array.getElem?_toList] at hd'
  cases hz : z.cps[i]? with
  | none => rw [hz] at hd'; cases hd'
  | some c =>
    rw [hz] at hd'
    cases hd'
    refine ⟨(Array.getElem?_eq_some_iff.mp hz).1, fun y H2 ⟨e1, c', e2, e3⟩ => ?_⟩
    subst e1 e3
    rw [hz] at e2
    cases e2
    exact ⟨.refl, R1, .str _⟩
theorem yi_rng {lo : Int} {n : Nat} : YI X.K ρ H ⟨(List.range n).map fun k => .int (lo + (k : Nat)), []⟩ (Itr lo n) := by
  intro i ρ1 st1 H1 x R1 hs
  refine ⟨fun d hd => ?_, fun hl => by simpa [Itr] using hl⟩
  have hd' : ((List.range n).map fun k => D.int (lo + (k : Nat)))[i]? = some d := hd
  rw [List.getElem?_map] at hd'
  by_cases hi : i < n
  · rw [List.getElem?_range hi] at hd'
    cases hd'
    refine ⟨hi, fun y H2 ⟨e1, e2⟩ => ?_⟩
    subst e1 e2
    exact ⟨.refl, R1, .int _⟩
  · rw [List.getElem?_eq_none (by simpa using hi)] at hd'
    cases hd'
/-- a list, a tuple or a text, walked -/
def itOf (st : Store) (d : D) : Option IR := match d with
  | .str z => some ⟨z.cps.toList.map fun c => .str ⟨#[c]⟩, []⟩
  | .tup xs => some ⟨xs, []⟩
  | .lst xs => some ⟨xs, []⟩
  | .frz xs => some ⟨xs, []⟩
  | .loc l => match st[l]? with
    | some (.lst xs) => some ⟨xs, [(l, xs)]⟩
    | _ => none
  | _ => none
def fIt (f : FE) : FI := fun env st => (f env st).bind fun d st1 => match itOf st1 d with
  | some I => .ok I st1
  | none => .stuck
theorem frz_SqL {xs : List D} {v : V} (r : RV X.K ρ H (.frz xs) v) : ∃ a, v = .ref a ∧ ∀ ρ1 H1, Ext ρ H ρ1 H1 → ∃ vs, SqL X.K H1 a vs ∧ RVs X.K ρ1 H1 xs vs := by
  cases r with
  | frz h r =>
    refine ⟨_, rfl, fun ρ1 H1 x => ⟨_, ?_, r.ext x⟩⟩
    rcases h with ⟨n, o, e⟩ | e
    · exact .inl (.inr ⟨o, x.keep _ _ n e⟩)
    · rcases e with e | e
      · rcases e with e | ⟨o, e⟩ <;> cases e
      · exact .inr e
theorem pfi_it (h : PF X W e f) : PFI X W tg e (fIt f) :=
  piI (PI.or (pi_list h) (PI.or (pi_tup h) (pi_str h))) fun σ H Q ⟨ρ, st, env, R, E, q⟩ => by
    unfold fIt at q
    cases hf : f env st with
    | stuck => rw [hf] at q; exact q.elim
    | exc ex st1 =>
      rw [hf] at q
      refine .inl ⟨ρ, st, env, R, E, ?_⟩
      rw [hf]; exact q
    | ok d st1 =>
      rw [hf] at q
      have q : OkR X.K X.mg (YI X.K) W ρ H σ (match itOf st1 d with | some I => Fl.R.ok I st1 | none => Fl.R.stuck) Q := q
      unfold itOf at q
      cases d with
      | str z =>
        simp only at q
        refine .inr (.inr ⟨ρ, st, env, R, E, ?_⟩)
        rw [hf]
        intro ρ1 H1 v x1 R1 r1
        cases r1
        exact ⟨z, rfl, q ρ1 H1 _ x1 R1 yi_str⟩
      | tup xs =>
        simp only at q
        refine .inr (.inl ⟨ρ, st, env, R, E, ?_⟩)
        rw [hf]
        intro ρ1 H1 v x1 R1 r1
        obtain ⟨a, vs, rfl, s1, rs⟩ := RV.isTup (a := 0) r1
        refine ⟨a, rfl, ⟨vs, s1⟩, q ρ1 H1 _ x1 R1 (yi_tup fun ρ2 st2 H2 x2 R2 _ => ?_)⟩
        obtain ⟨a2, vs2, e2, s2, rs2⟩ := RV.isTup (a := 0) (r1.ext x2)
        cases e2
        exact ⟨vs2, s2, rs2⟩
      | lst xs =>
        simp only at q
        refine .inl ⟨ρ, st, env, R, E, ?_⟩
        rw [hf]
        intro ρ1 H1 v x1 R1 r1
        obtain ⟨a, vs, rfl, e1, rs⟩ := lstOf_ok (xs := xs) R1 r1 rfl
        refine ⟨a, rfl, ⟨vs, SqL.of e1⟩, q ρ1 H1 _ x1 R1 (yi_list fun ρ2 st2 H2 x2 R2 _ => ?_)⟩
        obtain ⟨a2, vs2, e2, s2, rs2⟩ := lstOf_ok (xs := xs) R2 (r1.ext x2) rfl
        cases e2
        exact ⟨vs2, SqL.of s2, rs2⟩
      | frz xs =>
        simp only at q
        refine .inl ⟨ρ, st, env, R, E, ?_⟩
        rw [hf]
        intro ρ1 H1 v x1 R1 r1
        obtain ⟨a, rfl, hh⟩ := frz_SqL r1
        obtain ⟨vs, h1, _⟩ := hh ρ1 H1 .refl
        exact ⟨a, rfl, ⟨vs, h1⟩, q ρ1 H1 _ x1 R1 (yi_list fun ρ2 st2 H2 x2 R2 _ => hh ρ2 H2 x2)⟩
      | loc l =>
        simp only at q
        cases hs : st1[l]? with
        | none => rw [hs] at q; exact q.elim
        | some so =>
          cases so with
          | lst xs =>
            simp only [hs] at q
            refine .inl ⟨ρ, st, env, R, E, ?_⟩
            rw [hf]
            intro ρ1 H1 v x1 R1 r1
            obtain ⟨a, rfl, h2, h3, vs, h4, h5⟩ := loc_at (a := 0) R1 r1 hs
            refine ⟨a, rfl, ⟨vs, SqL.of h4⟩, q ρ1 H1 _ x1 R1 (yi_list fun ρ2 st2 H2 x2 R2 ok => ?_)⟩
            obtain ⟨a2, e2, _, _, vs2, h6, h7⟩ := loc_at (a := 0) R2 (r1.ext x2) (ok (l, xs) List.mem_cons_self)
            cases e2
            exact ⟨vs2, SqL.of h6, h7⟩
          | _ => simp only [hs] at q; exact q.elim
      | _ => exact q.elim
def fRng1 (f : FE) : FI := fun env st => (f env st).bind fun d st1 => match d with
  | .int j => if -(2 ^ 62) ≤ j ∧ j < 2 ^ 62 then .ok ⟨(List.range j.toNat).map fun k => .int (0 + (k : Nat)), []⟩ st1 else .stuck
  | _ => .stuck
theorem pfi_rng1 {p : Pos} (h : PF X W e f) (hm : X.mg "range" = none) (hg : Gl X "range" := by rfl) (hs : starEach [e] X.env = [(false, eval e X.env)] := by rfl) : PFI X W tg (.Call (.Name "range" p) [e] [] pos) (fRng1 f) :=
  piI (pi_range1 hg hm (pa_cons h pa_nil hs) hs) fun σ H Q ⟨ρ, st, env, R, E, q⟩ => ⟨ρ, st, env, R, E, OkR.bind q fun ρ1 H1 st1 d v x1 R1 r1 h1 => by
    cases r1 with
    | int j =>
      simp only at h1
      split at h1
      · rename_i hj
        exact ⟨j, rfl, hj.1, hj.2, h1 ρ1 H1 _ .refl R1 yi_rng⟩
      · exact h1.elim
    | _ => exact h1.elim⟩
def fRng2 (f g : FE) : FI := fun env st => (f env st).bind fun d st1 => (g env st1).bind fun d2 st2 => match d, d2 with
  | .int i, .int j => if -(2 ^ 62) ≤ i ∧ i < 2 ^ 62 ∧ -(2 ^ 62) ≤ j ∧ j < 2 ^ 62 then .ok ⟨(List.range (j - i).toNat).map fun k => .int (i + (k : Nat)), []⟩ st2 else .stuck
  | _, _ => .stuck
theorem pfi_rng2 {p : Pos} {a b : Expr} {fa fb : FE} (ha : PF X W a fa) (hb : PF X W b fb) (hm : X.mg "range" = none) (hg : Gl X "range" := by rfl) (hs : starEach [a, b] X.env = [(false, eval a X.env), (false, eval b X.env)] := by rfl) (hs2 : starEach [b] X.env = [(false, eval b X.env)] := by rfl) :
    PFI X W tg (.Call (.Name "range" p) [a, b] [] pos) (fRng2 fa fb) :=
  piI (pi_range2 hg hm (pa_cons ha (pa_cons hb pa_nil (by rw [hs2]; rfl)) (by rw [hs, hs2])) hs hs2) fun σ H Q ⟨ρ, st, env, R, E, q⟩ => ⟨ρ, st, env, R, E, OkR.bind q fun ρ1 H1 st1 d v x1 R1 r1 h1 =>
    ⟨ρ1, st1, env, R1, E.ext x1, OkR.bind h1 fun ρ2 H2 st2 d2 v2 x2 R2 r2 h2 => by
      split at h2
      · split at h2
        · rename_i hj
          cases r1; cases r2
          exact ⟨_, _, rfl, hj, h2 ρ2 H2 _ .refl R2 yi_rng⟩
        · exact h2.elim
      · exact h2.elim⟩⟩
end
/-! ### list comprehensions -/
def wipeE (env : Env) : List Nat → Env
  | [] => env
  | i :: is => (wipeE env is).set i none
theorem REnv.unset {K : Fg} {ρ : List Addr} {H : Hp} {env : Env} {σ : L2.St} (h : REnv K ρ H env σ) (i : Nat) : REnv K ρ H (env.set i none) (σ.set i none) := by
  refine ⟨by rw [List.length_set, List.length_set]; exact h.1, fun j d e => ?_⟩
  by_cases hj : j = i
  · subst hj
    by_cases hl : j < env.length
    · rw [List.getElem?_set_self hl] at e; cases e
    · rw [List.getElem?_eq_none (by rw [List.length_set]; omega)] at e; cases e
  · rw [List.getElem?_set_ne (Ne.symm hj)] at e ⊢
    exact h.2 j d e
theorem REnv.wipe {K : Fg} {ρ : List Addr} {H : Hp} {env : Env} {σ : L2.St} (h : REnv K ρ H env σ) : ∀ vs, REnv K ρ H (wipeE env vs) (L2.wipe σ vs)
  | [] => h
  | i :: is => (REnv.wipe h is).unset i
open Classical in
noncomputable def compL (tst : Env → Store → R Bool) (fe : FE) (t : Tg) (env : Env) (l : Nat) (src : List (Nat × List D)) : List D → Store → R D
  | [], st => if srcOk st src then .ok (.loc l) st else .stuck
  | d :: ds, st => if srcOk st src then (match bindT t d env with
    | none => .stuck
    | some env' => match tst env' st with
      | .ok true st1 => (match fe env' st1 with
        | .ok y st2 => (match st2[l]? with
          | some (.lst acc) => if acc.length < sizeLine then compL tst fe t env l src ds (st2.set l (.lst (acc ++ [y]))) else .stuck
          | _ => .stuck)
        | _ => .stuck)
      | .ok false st1 => compL tst fe t env l src ds st1
      | _ => .stuck) else .stuck
noncomputable def fComp (fi : FI) (t : Tg) (tst : Env → Store → R Bool) (fe : FE) (vs : List Nat) : FE := fun env st => (fi env st).bind fun I st1 => compL tst fe t (wipeE env vs) st1.length I.src I.items (st1 ++ [.lst []])
def fYes : Env → Store → R Bool := fun _ st => .ok true st
abbrev WN : WX := fun _ _ _ _ => False
abbrev PFTs (X : Cx) (W : WX) (ifs : List Expr) (t : Env → Store → R Bool) : Prop := PTs X ifs (rdT X.K X.mg W t)
theorem ptsI {X : Cx} {e : List Expr} {t t' : TT} (h : PTs X e t) (i : ∀ σ H Q, t' σ H Q → t σ H Q) : PTs X e t' := ⟨fun pins s σ H Q I q => h.run pins s σ H Q I (i _ _ _ q)⟩
theorem pfts_nil {X : Cx} {W : WX} : PFTs X W [] fYes := ptsI pts_nil fun σ H Q ⟨ρ, st, env, R, E, h⟩ => h ρ H true .refl R rfl
theorem pfts_one {X : Cx} {W : WX} {c : Expr} {f : FE} (h : PFT X W c f) : PFTs X W [c] (fT f) := pts_one h
theorem takes_blk {X : Cx} {s : Shared} {H : Hp} {scope : Scope} {cenv : PySem.Env} {fp : List Addr} : Takes (X.blk s H scope cenv fp) WN := fun u s' ⟨_, _, _, _, _, _, _, _, _, _, _, _, _, _, _, _, w⟩ => w
theorem gx_blk {X : Cx} {s : Shared} {H : Hp} {scope : Scope} {cenv : PySem.Env} {fp : List Addr} (G : Gx X) : Gx (X.blk s H scope cenv fp) := ⟨G.un, G.nd, G.gd⟩
section
variable {X : Cx} {W : WX} {pos : Pos}
theorem tLc_of {fi : FI} {t : Tg} {tst : Env → Store → R Bool} {fe : FE} {vs : List Nat} (hsl : ∀ i ∈ t.slots, i ∈ vs) {σ : L2.St} {H : Hp} {Q : VK} (h : rdE X.K X.mg W (fComp fi t tst fe vs) σ H Q) :
    tLc (rdI X.K X.mg W fi) (gOf X.K t) (rdT X.K X.mg WN tst) (rdE X.K X.mg WN fe) vs σ H Q := by
  obtain ⟨ρ, st, env, R, E, h⟩ := h
  refine ⟨ρ, st, env, R, E, OkR.bind h fun ρ1 H1 st1 I J x1 R1 Y h1 => ?_⟩
  intro D hD
  have xa := Ext.alloc R1 hD (.lst [])
  have Ra : Rel X.K (ρ1 ++ [D]) (st1 ++ [.lst []]) (upd H1 D (.lst [])) := R1.alloc hD ⟨[], upd_same, .nil⟩
  have hl0 : (ρ1 ++ [D])[st1.length]? = some D := by
    rw [← R1.len, List.getElem?_append_right (Nat.le_refl _), Nat.sub_self]; rfl
  refine ⟨fun i m H => m = I.items.length - i ∧ i ≤ I.items.length ∧ ∃ ρ2 st2, Ext (ρ1 ++ [D]) (upd H1 D (.lst [])) ρ2 H ∧ Rel X.K ρ2 st2 H ∧ OkR X.K X.mg (RV X.K) W ρ2 H σ (compL tst fe t (wipeE env vs) st1.length I.src (I.items.drop i) st2) Q,
    ⟨_, rfl, Nat.zero_le _, _, _, .refl, Ra, OkR.ext xa h1⟩, ?_⟩
  rintro i m H2 ⟨rfl, hi, ρ2, st2, x2, R2, h2⟩
  have hD2 : ∀ {ρ3 H3}, Ext ρ2 H2 ρ3 H3 → ρ3[st1.length]? = some D := fun {ρ3 H3} x3 => by
    obtain ⟨u, hu⟩ := (x2.trans x3).pre
    rw [← hu, List.getElem?_append_left (List.getElem?_eq_some_iff.mp hl0).1]
    exact hl0
  have xx : Ext ρ1 H1 ρ2 H2 := xa.trans x2
  by_cases hl : i < I.items.length
  · rw [List.drop_eq_getElem_cons hl] at h2
    rw [compL] at h2
    by_cases hs : srcOk st2 I.src
    · rw [if_pos hs] at h2
      obtain ⟨hgo, hy⟩ := (Y i ρ2 st2 H2 xx R2 hs).1 _ (List.getElem?_eq_getElem hl)
      refine .inr ⟨hgo, fun H3 => ∃ ρ3 st3, Ext (ρ1 ++ [D]) (upd H1 D (.lst [])) ρ3 H3 ∧ Rel X.K ρ3 st3 H3 ∧ OkR X.K X.mg (RV X.K) W ρ3 H3 σ (compL tst fe t (wipeE env vs) st1.length I.src (I.items.drop (i + 1)) st3) Q,
        fun H3 n3 => ⟨I.items.length - (i + 1), by omega, rfl, hl, n3⟩, fun v H3 y => ?_⟩
      obtain ⟨x3, R3, r3⟩ := hy v H3 y
      cases hb : bindT t I.items[i] (wipeE env vs) with
      | none => simp only [hb] at h2; exact h2.elim
      | some env3 =>
        simp only [hb] at h2
        have E3 : REnv X.K ρ2 H3 (wipeE env vs) (wipe σ vs) := (((E.ext x1).ext xx).ext x3).wipe vs
        refine gOf_ok E3 r3 hb fun σ4 E4 off => ⟨Off.wipe off hsl, ρ2, st2, env3, R3, E4, ?_⟩
        have h3 := OkR.ext x3 h2
        cases hq : tst env3 st2 with
        | ok q st4 =>
          intro ρ4 H4 q' x4 R4 e4
          subst e4
          cases q with
          | false =>
            simp only [hq] at h3
            rw [if_neg Bool.false_ne_true]
            exact ⟨ρ4, st4, (x2.trans x3).trans x4, R4, OkR.ext x4 h3⟩
          | true =>
            simp only [hq] at h3
            rw [if_pos rfl]
            refine ⟨ρ4, st4, env3, R4, E4.ext x4, ?_⟩
            cases hf : fe env3 st4 with
            | ok yv st5 =>
              simp only [hf] at h3
              intro ρ5 H5 w x5 R5 r5
              cases hs5 : st5[st1.length]? with
              | none => simp only [hs5] at h3; exact h3.elim
              | some so =>
                cases so with
                | lst acc =>
                  simp only [hs5] at h3
                  split at h3
                  · rename_i hz
                    have hD5 := hD2 ((x3.trans x4).trans x5)
                    obtain ⟨accv, e5, ra⟩ := R5.at_ _ D _ hD5 hs5
                    refine ⟨accv, e5, by rw [← ra.length]; exact hz, ?_⟩
                    have x6 := Ext.write R5 hD5 (.lst (accv ++ [w]))
                    refine ⟨ρ5, _, (((x2.trans x3).trans x4).trans x5).trans x6, R5.write (so := .lst (acc ++ [yv])) hD5 (List.getElem?_eq_some_iff.mp hs5).1 ⟨_, upd_same, (ra.append (.one r5)).ext x6⟩, OkR.ext ((x4.trans x5).trans x6) h3⟩
                  · exact h3.elim
                | _ => simp only [hs5] at h3; exact h3.elim
            | exc _ _ => simp only [hf] at h3; exact h3.elim
            | stuck => simp only [hf] at h3; exact h3.elim
        | exc _ _ => simp only [hq] at h3; exact h3.elim
        | stuck => simp only [hq] at h3; exact h3.elim
    · rw [if_neg hs] at h2; exact h2.elim
  · have hd : I.items.drop i = [] := List.drop_eq_nil_of_le (by omega)
    rw [hd, compL] at h2
    by_cases hs : srcOk st2 I.src
    · rw [if_pos hs] at h2
      exact .inl ⟨(Y i ρ2 st2 H2 xx R2 hs).2 (by omega), h2 ρ2 H2 _ .refl R2 (.loc (hD2 .refl))⟩
    · rw [if_neg hs] at h2; exact h2.elim
/-- a block's reading, at any of its frames -/
abbrev inBlk (X : Cx) (scope : Scope) (P : Cx → Prop) : Prop := ∀ (s : Shared) (H : Hp) (C : Addr) (cl : List (Str × Addr)) (fp : List Addr), P (X.blk s H scope (compEnvC scope cl C X.env) fp)
variable {elt tg iter : Expr} {ifs : List Expr} {scope : Scope} {own : List (Str × Nat)} {fi : FI} {t : Tg} {tst : Env → Store → R Bool} {fe : FE}
theorem pf_comp (G : Gx X) (hc : X.calm = true) (own : List (Str × Nat)) (hi : PFI X W tg iter fi) (ok : blkC X.N X.env.scope scope own = true) (hg : inBlk X scope fun Y => PFG Y tg t) (ht : inBlk X scope fun Y => PFTs Y WN ifs tst) (he : inBlk X scope fun Y => PF Y WN elt fe)
    (hsl : ∀ i ∈ t.slots, i ∈ own.map (·.2) := by decide) (hs : ∀ x, foldedSetIterable iter X.env x = pure x := by intro _; rfl) : PF X W (.ListComp elt [⟨tg, iter, ifs, 0⟩] scope pos) (fComp fi t tst fe (own.map (·.2))) :=
  peI (pe_lc (g := gOf X.K t) (tt := rdT X.K X.mg WN tst) (te := rdE X.K X.mg WN fe) hc G.nd hi (blkOk_by ok) hg ht he hs) fun _ _ _ h => tLc_of hsl h
theorem ps_stC {i : Nat} {y : Str} {py spos : Pos} (G : Gx X) (hc : X.calm = true) (own : List (Str × Nat)) (hi : PFI X W tg iter fi) (ok : blkC X.N X.env.scope scope own = true) (hg : inBlk X scope fun Y => PFG Y tg t) (ht : inBlk X scope fun Y => PFTs Y WN ifs tst) (he : inBlk X scope fun Y => PF Y WN elt fe)
    (hsw : swapsWith (.ListComp elt [⟨tg, iter, ifs, 0⟩] scope pos) (some (.Name y py)) spos.line X.env = pure true) (hy : X.N[i]? = some y := by rfl) (hyl : X.env.scope.names.lookup y = some .local := by rfl)
    (hsl : ∀ i ∈ t.slots, i ∈ own.map (·.2) := by decide) (hs : ∀ x, foldedSetIterable iter X.env x = pure x := by intro _; rfl) : PFS X W (.Assign [.Name y py] (.ListComp elt [⟨tg, iter, ifs, 0⟩] scope pos) spos) (sSet i (fHide (fComp fi t tst fe (own.map (·.2))))) :=
  psI (ps_setLc (g := gOf X.K t) (tt := rdT X.K X.mg WN tst) (te := rdE X.K X.mg WN fe) hc G.nd hy hyl hsw hi (blkOk_by ok) hg ht he hs) fun D σ H ⟨ρ, st, env, R, E, h⟩ => by
    refine tLc_of (W := W) (Q := fun x H1 => gName i x σ H1 D.nx) hsl ⟨ρ, st, env, R, E, okR_hide R ?_⟩
    unfold sSet at h
    unfold fHide at h
    cases hq : hideF st (fComp fi t tst fe (own.map (·.2)) env st) with
    | ok d st1 => rw [hq] at h; exact fun ρ1 H1 v x R1 r => h ρ1 H1 _ x R1 ((E.ext x).set i r)
    | exc ex st1 => rw [hq] at h; exact fun ρ1 H1 c dx x R1 r => h ρ1 H1 σ c dx x R1 (E.ext x) r
    | stuck => rw [hq] at h; exact h
end
end Fl
namespace Fl
open PySem PySem.Spec PyProof.Rows L2
/-! ### repr -/
mutual
def toPD : D → Option PyData
  | .non => some .none
  | .bl b => some (.bool b)
  | .int i => some (.int i)
  | .str x => some (.str x)
  | .tup xs => (toPDs xs).map .tuple
  | .lst xs => (toPDs xs).map .list
  | .frz _ => none
  | .loc _ => none
  | .obj _ => none
def toPDs : List D → Option (List PyData)
  | [] => some []
  | x :: xs => match toPD x, toPDs xs with
    | some d, some ds => some (d :: ds)
    | _, _ => none
end
section
variable {X : Cx} {W : WX} {ρ : List Addr} {H : Hp} {σ : L2.St} {st : Store} {pos : Pos} {f : FE} {e : Expr} {g : FA}
mutual
theorem RX.dp : ∀ {d : D} {v : V} {p : PyData}, RX X.K ρ H d v → toPD d = some p → Dp X.K H v p
  | _, _, _, .non, h => by cases h; exact .non
  | _, _, _, .bl b, h => by cases h; exact .bl b
  | _, _, _, .int i, h => by cases h; exact .int i
  | _, _, _, .str x, h => by cases h; exact .str x
  | .tup xs, _, p, .tup q r, h => by
    rw [toPD] at h
    obtain ⟨ds, h1, rfl⟩ := Option.map_eq_some_iff.mp h
    refine .tup ?_ (RXs.dp r h1)
    rcases q with ⟨_, e⟩ | e
    · exact .inl (.inl e)
    · exact .inr e
  | .lst xs, _, p, .lst _ e r, h => by
    rw [toPD] at h
    obtain ⟨ds, h1, rfl⟩ := Option.map_eq_some_iff.mp h
    exact .lst (SqL.of e) (RXs.dp r h1)
  | _, _, _, .frz, h => by rw [toPD] at h; cases h
  | _, _, _, .loc, h => by rw [toPD] at h; cases h
  | _, _, _, .obj, h => by rw [toPD] at h; cases h
theorem RXs.dp : ∀ {d : List D} {v : List V} {p : List PyData}, RXs X.K ρ H d v → toPDs d = some p → DpAll X.K H v p
  | _, _, _, .nil, h => by cases h; exact .nil
  | x :: xs, _, p, .cons a b, h => by
    rw [toPDs] at h
    cases h1 : toPD x with
    | none => rw [h1] at h; cases h
    | some d =>
      cases h2 : toPDs xs with
      | none => rw [h1, h2] at h; cases h
      | some ds =>
        rw [h1, h2] at h
        cases h
        exact .cons (RX.dp a h1) (RXs.dp b h2)
end
theorem pd_noDict : ∀ (d : D) (p : PyData), toPD d = some p → p.hasDict = false := by
  have key : ∀ n : Nat, (∀ (d : D) (p : PyData), sizeOf d < n → toPD d = some p → p.hasDict = false) ∧ (∀ (d : List D) (p : List PyData), sizeOf d < n → toPDs d = some p → PyData.hasDictAll p = false) := by
    intro n
    induction n with
    | zero => exact ⟨fun _ _ h => absurd h (Nat.not_lt_zero _), fun _ _ h => absurd h (Nat.not_lt_zero _)⟩
    | succ n ih =>
      constructor
      · intro d p hn h
        cases d with
        | tup xs =>
          rw [toPD] at h
          obtain ⟨ds, h1, rfl⟩ := Option.map_eq_some_iff.mp h
          rw [PyData.hasDict]
          exact ih.2 xs ds (by simp at hn; omega) h1
        | lst xs =>
          rw [toPD] at h
          obtain ⟨ds, h1, rfl⟩ := Option.map_eq_some_iff.mp h
          rw [PyData.hasDict]
          exact ih.2 xs ds (by simp at hn; omega) h1
        | non => cases h; rw [PyData.hasDict]
        | bl b => cases h; rw [PyData.hasDict]
        | int b => cases h; rw [PyData.hasDict]
        | str b => cases h; rw [PyData.hasDict]
        | _ => rw [toPD] at h; cases h
      · intro d p hn h
        cases d with
        | nil => cases h; rw [PyData.hasDictAll]
        | cons x xs =>
          rw [toPDs] at h
          cases h1 : toPD x with
          | none => rw [h1] at h; cases h
          | some d =>
            cases h2 : toPDs xs with
            | none => rw [h1, h2] at h; cases h
            | some ds =>
              rw [h1, h2] at h
              cases h
              rw [PyData.hasDictAll, ih.1 x d (by simp at hn; omega) h1, ih.2 xs ds (by simp at hn; omega) h2]
              rfl
  exact fun d p h => (key (sizeOf d + 1)).1 d p (Nat.lt_succ_self _) h
def reprOk (p : PyData) : Prop := p.showable = true ∧ p.depth ≤ 100 ∧ p.shown.length ≤ sizeLine
instance (p : PyData) : Decidable (reprOk p) := by unfold reprOk; infer_instance
def bRepr : Fn := fun ds st => match ds with
  | [d] => (match toPD (res st d) with
    | some p => if reprOk p then .ok (.str p.shown) st else .stuck
    | none => .stuck)
  | _ => .stuck
def rRepr (K : Fg) : List V → Hp → VK → Prop := fun xs H Q => ∃ v p, xs = [v] ∧ Dp K H v p ∧ p.hasDict = false ∧ reprOk p ∧ Q (.str p.shown) H
theorem call_repr (G : Gx X) : CallR X (.builtin "repr") (rRepr X.K) := by
  intro pins s σ H xs us Q I rs h
  obtain ⟨v, p, rfl, hd, hn, ⟨h1, h2, h3⟩, q⟩ := h
  obtain ⟨u, rfl, r⟩ := vals1 rs
  have hu := G.un
  have ho : ∀ as a, Reads s.heap (.ref a) p as → wpAny (model X.prog X.w) X.A (call (.builtin "repr") [.ref a]) (EP X pins σ Q) X.xe s := fun as a r1 =>
    repr_of_reads' r1 h1 (PyData.noDict_hsm hn) G.gd (by omega) (fun _ _ e => e) (fun h' u tk hk => ⟨.str _, H, I.kept hk, ⟨_, rfl⟩, q⟩) h3
  obtain ⟨as, r1⟩ := Dp.reads I p v u hd r
  cases hd with
  | non =>
    cases r
    exact P.repr_of_none ⟨.str _, H, I.tok _, ⟨_, rfl⟩, q⟩
  | bl b =>
    cases r
    exact P.repr_of_bool ⟨.str _, H, I.tok _, ⟨_, rfl⟩, q⟩
  | int i =>
    obtain ⟨t, rfl⟩ := r
    exact P.repr_of_int (by simpa [PyData.showable] using h1) ⟨.str _, H, I.tok _, ⟨_, rfl⟩, q⟩
  | str z =>
    obtain ⟨t, rfl⟩ := r
    exact P.repr_of_str (x := z) (t := t) ⟨.str _, H, I.tok _, ⟨_, rfl⟩, q⟩ h3
  | lst _ _ => cases r; exact ho as _ r1
  | tup _ _ => cases r; exact ho as _ r1
theorem cs_repr : CalS X (rRepr X.K) bRepr := by
  intro W ρ st H σ ds vs Q R rs h
  unfold bRepr at h
  split at h
  · split at h
    · rename_i p hp
      split at h
      · rename_i ho
        obtain ⟨v, rfl, r⟩ := rs.one'
        exact ⟨v, p, rfl, (r.res R).dp hp, pd_noDict _ _ hp, ho, h ρ H _ .refl R (.str _)⟩
      · exact h.elim
    · exact h.elim
  · exact h.elim
/-! ### methods of lists of the store -/
def fPop (f : FE) : FE := fun env st => (f env st).bind fun d st1 => match d with
  | .loc l => (match st1[l]? with
    | some (.lst xs) => (match xs.getLast? with
      | some y => .ok y (st1.set l (.lst xs.dropLast))
      | none => .stuck)
    | _ => .stuck)
  | _ => .stuck
theorem getLast_ix {α : Type} (l : List α) : l.getLast? = l[l.length - 1]? := List.getLast?_eq_getElem? ..
theorem pf_pop {o : Expr} {apos : Pos} (ho : PF X W o f) (hbase : attributeBase o "pop" X.env (eval o X.env) = eval o X.env := by rfl) (hline : (apos.endLine == pos.line) = true := by rfl) : PF X W (.Call (.Attribute o "pop" apos) [] [] pos) (fPop f) :=
  peI (pe_bm0 F.plainAttrs_list F.slot_list_pop F.type_list_pop mt_pop ho hbase hline) fun σ H Q ⟨ρ, st, env, R, E, h⟩ => ⟨ρ, st, env, R, E, OkR.bind h fun ρ1 H1 st1 d v x1 R1 r1 h1 => by
    split at h1
    · rename_i l
      split at h1
      · rename_i xs hs
        split at h1
        · rename_i y hy
          obtain ⟨a, rfl, h2, h3, vs, h4, h5⟩ := loc_at (a := 0) R1 r1 hs
          rw [getLast_ix] at hy
          obtain ⟨w, hw, rw'⟩ := h5.get hy
          refine ⟨.inl ⟨rfl, vs, SqL.of h4⟩, a, vs, w, rfl, rfl, h4, by rw [← h5.length]; exact hw, ?_⟩
          have x2 := Ext.write R1 h2 (.lst vs.dropLast)
          exact h1 ρ1 _ w x2 (R1.write (so := .lst xs.dropLast) h2 h3 ⟨_, upd_same, h5.dropLast.ext x2⟩) (rw'.ext x2)
        · exact h1.elim
      · exact h1.elim
    · exact h1.elim⟩
def fApp (f g : FE) : FE := fun env st => (f env st).bind fun d st1 => match d with
  | .loc l => (g env st1).bind fun y st2 => (match st2[l]? with
    | some (.lst xs) => if xs.length < sizeLine then .ok .non (st2.set l (.lst (xs ++ [y]))) else .stuck
    | _ => .stuck)
  | _ => .stuck
/-- the object is a list, and that is known ahead of the argument -/
def fAppK (f g : FE) : FE := fun env st => (f env st).bind fun d st1 => match d with
  | .loc l => (match st1[l]? with
    | some (.lst _) => (g env st1).bind fun y st2 => (match st2[l]? with
      | some (.lst xs) => if xs.length < sizeLine then .ok .non (st2.set l (.lst (xs ++ [y]))) else .stuck
      | _ => .stuck)
    | _ => .stuck)
  | _ => .stuck
theorem pf_app {o a : Expr} {apos : Pos} {ga : FE} (ho : PF X W o f) (ha : PF X W a ga) (hbase : attributeBase o "append" X.env (eval o X.env) = eval o X.env := by rfl)
    (hfew : ((backTo pos (starEach [a] X.env)).all (fun x => !x.1) && (backToKw pos (keywordEach [] X.env)).all (fun x => x.1.isSome)
      && decide (([a] : List Expr).length + ([] : List Keyword).length + (if ([] : List Keyword).isEmpty then 0 else 1) < 30)) = true := by rfl)
    (hline : (apos.endLine == pos.line) = true := by rfl) (hs : starEach [a] X.env = (false, eval a X.env) :: starEach [] X.env := by rfl) (hplain : (backTo pos (starEach [] X.env)).any (·.1) = false := by rfl) :
    PF X W (.Call (.Attribute o "append" apos) [a] [] pos) (fAppK f ga) :=
  peI (pe_bm F.plainAttrs_list F.slot_list_append F.type_list_append mt_append ho (pa_cons ha pa_nil hs) hbase hfew hline hs hplain) fun σ H Q ⟨ρ, st, env, R, E, h⟩ => ⟨ρ, st, env, R, E, OkR.bind h fun ρ1 H1 st1 d v x1 R1 r1 h1 => by
    split at h1
    · rename_i l
      split at h1
      · rename_i ys hs0
        obtain ⟨a0, rfl, h20, h30, vs0, h40, h50⟩ := loc_at (a := 0) R1 r1 hs0
        refine ⟨.inl ⟨rfl, vs0, SqL.of h40⟩, ρ1, st1, env, R1, E.ext x1, OkR.bind h1 fun ρ2 H2 st2 y w x2 R2 r2 h2 => ?_⟩
        skip
        split at h2
        · rename_i xs hs
          split at h2
          · rename_i hz
            obtain ⟨a, e, h2', h3, vs, h4, h5⟩ := loc_at (a := 0) R2 (r1.ext x2) hs
            cases e
            refine ⟨a0, vs, w, rfl, rfl, h4, by rw [← h5.length]; exact hz, ?_⟩
            have x3 := Ext.write R2 h2' (.lst (vs ++ [w]))
            exact h2 ρ2 _ .non x3 (R2.write (so := .lst (xs ++ [y])) h2' h3 ⟨_, upd_same, (h5.append (.one r2)).ext x3⟩) .non
          · exact h2.elim
        · exact h2.elim
      · exact h1.elim
    · exact h1.elim⟩
/-! ### raise X('..') -/
def sRaise (x : Str) : FS := fun env st => .exc ⟨x, []⟩ env st
theorem ps_ra {x m : Str} {j : Nat} {C : Addr} {p p2 cpos : Pos} {bmB : List Value} {B newId initId : String} (hc : X.calm = true) (tk : Takes X W) (F : ExcBaseFacts B newId initId bmB) (q : PySem.W.excIn X.K C bmB newId = true) (gC : X.mg x = some (.ref C)) (kC : PySem.W.keepIn X.K (.ref C) = true)
    (r1 : PySem.W.subIn X.K (.ref C) (.type "BaseException") = some true) (r2 : PySem.W.typeIn X.K (.ref C) = some (.type "type")) (hg : Gl X x := by rfl) (hdb : (x == ("__debug__" : Str)) = false := by decide) :
    PFS X W (.Raise (some (.Call (.Name x p) [.Constant (.str m) j p2] [] cpos)) none pos) (sRaise x) :=
  psI (ps_raise hc tk (pmk_own F q gC kC (raises_own r1 r2) hg hdb)) fun D σ H ⟨ρ, st, env, R, E, h⟩ => h ρ H σ (.ref C) none .refl R E ⟨C, gC, rfl, .inl ⟨rfl, rfl⟩⟩
/-! ### try .. except X -/
/-- how a suite's end leaves the statement: the clause's name goes -/
def post (i : Option Nat) (r : Fw) : Fw := match r with
  | .nx e s => .nx (match i with | some i => e.set i none | none => e) s
  | .bk e s => .bk (match i with | some i => e.set i none | none => e) s
  | .ct e s => .ct (match i with | some i => e.set i none | none => e) s
  | .rt d s => .rt d s
  | _ => .stuck
open Classical in
noncomputable def sTry (i : Option Nat) (sub : Str → Option Bool) (body : FS) (h : Addr → Str → FS) : FS := fun env st => match body env st with
  | .exc e env' st' => (match e.fs, sub e.cls with
    | [], some true => if ∀ a, post i (h a e.cls (match i with | some i => env'.set i (some (.obj a)) | none => env') st') = post i (h 0 e.cls (match i with | some i => env'.set i (some (.obj 0)) | none => env') st') then
        post i (h 0 e.cls (match i with | some i => env'.set i (some (.obj 0)) | none => env') st') else .stuck
    | _, some false => .exc e env' st'
    | _, _ => .stuck)
  | r => r
/-- what the clause's class says of the errors' classes -/
def SubOk (X : Cx) (c : Value) (sub : Str → Option Bool) : Prop := ∀ x b C, sub x = some b → X.mg x = some (.ref C) → PySem.W.exmOne X.K (.ref C) c = some b
theorem takes_suite {X : Cx} {a : Addr} {pn : List (Addr × Obj)} : Takes (X.suite a pn) WN := fun u s' ⟨_, _, _, _, _, _, _, _, _, _, _, _, _, _, _, _, w⟩ => w
theorem PSs.any {ι : Type} {X : Cx} {e : List Stmt} {P : ι → Prop} {t : ι → TS} (h : ∀ i, P i → PSs X e (t i)) : PSs X e (fun D σ H => ∃ i, P i ∧ t i D σ H) := ⟨fun pins s σ H D I ⟨i, p, q⟩ => (h i p).run pins s σ H D I q⟩
variable {body suite : List Stmt} {b₀ : Stmt} {np pos' : Pos} {x n : Str} {c : Value} {fb : FS} {sub : Str → Option Bool} {hnd : Addr → Str → FS}
theorem okS_wAs {i : Nat} {D : Ends} {r : Fw} {Y : Ends} {ρ : List Addr} {H : Hp} {W W' : WX} {mg : Mg} {K : Fg} (h : OkS K mg W ρ H r D) (hn : ∀ e env st, r = .exc e env st → OkS K mg W' ρ H r Y) (hx : (∀ e env st, r ≠ .exc e env st) → D = Y) : OkS K mg W' ρ H r Y := by
  cases r with
  | exc e env st => exact hn e env st rfl
  | nx _ _ => rw [← hx (by intros; simp)]; exact h
  | rt _ _ => rw [← hx (by intros; simp)]; exact h
  | bk _ _ => rw [← hx (by intros; simp)]; exact h
  | ct _ _ => rw [← hx (by intros; simp)]; exact h
  | stuck => exact h.elim
theorem ps_tryA {i : Nat} (G : Gx X) (hs : X.stack = X.env :: X.outer) (hf : X.env.frame = some X.env.locals) (hc : Names X x c) (tk : Takes X W) (hsub : SubOk X c sub)
    (hb : ∀ (W : WX) (pn : List (Addr × Obj)) (xe : Value → Shared → Prop), Takes (X.tr pn xe) W → PassesOwn (model X.prog X.w) X.A X.env xe → PFB (X.tr pn xe) W body fb)
    (hsu : ∀ (a : Addr) (oe : Obj) (y : Str) (C : Addr) (pn : List (Addr × Obj)), X.mg y = some (.ref C) → sub y = some true → Zc (.ref C) none oe → (∃ vs, oe.data = .fields vs) → PFB (X.suite a ((a, oe) :: pn)) WN (b₀ :: suite) (hnd a y))
    (hi : X.N[i]? = some n := by rfl) (hln : X.env.kindOf n = some .local := by rfl) :
    PFS X W (.Try body [.ExceptHandler (some (.Name x np)) (some n) (b₀ :: suite) pos'] [] [] pos) (sTry (some i) sub fb hnd) := by
  have h0 := ps_try_as (pos := pos) (np := np) (pos' := pos') (body := body) (b₀ := b₀) (suite := suite) (tb := fun W => rdS X.K X.mg W fb) (Wout := W) hs hf G.nd hi hln hc tk hb
    (ts := fun a cls d D σ H => ∃ yC : Str × Addr, (X.mg yC.1 = some (.ref yC.2) ∧ sub yC.1 = some true ∧ cls = .ref yC.2 ∧ d = none) ∧ rdS X.K X.mg WN (hnd a yC.1) D σ H)
    (fun a oe cls d pn hz hv => PSs.any fun yC ⟨h1, h2, h3, h4⟩ => by subst h3 h4; exact hsu a oe yC.1 yC.2 pn h1 h2 hz hv)
  refine psI h0 fun D σ H ⟨ρ, st, env, R, E, h⟩ => ⟨ρ, st, env, R, E, ?_⟩
  unfold sTry at h
  cases hq : fb env st with
  | nx _ _ => rw [hq] at h; exact h
  | rt _ _ => rw [hq] at h; exact h
  | bk _ _ => rw [hq] at h; exact h
  | ct _ _ => rw [hq] at h; exact h
  | stuck => rw [hq] at h; exact h
  | exc e env' st' =>
    simp only [hq] at h
    obtain ⟨ec, efs⟩ := e
    intro ρ1 H1 σ1 cls dx x1 R1 E1 er
    have er' := er
    obtain ⟨C, g1, rfl, hfs⟩ := er
    cases hsb : sub ec with
    | none => cases efs <;> (simp only [hsb] at h; exact h.elim)
    | some b =>
      refine ⟨b, hsub _ b C hsb g1, fun e a ha => ?_, fun e => ?_⟩
      · subst e
        cases efs with
        | cons _ _ => simp only [hsb] at h; exact h.elim
        | nil =>
          simp only [hsb] at h
          split at h
          · rename_i hall
            have h := OkS.ext x1 h
            rw [← hall a] at h
            have hdx : dx = none := by
              rcases hfs with z | ⟨d, gs, e1, _⟩
              · exact z.2
              · exact absurd rfl e1
            refine ⟨(ec, C), ⟨g1, hsb, rfl, hdx⟩, ρ1, st', env'.set i (some (.obj a)), R1, E1.set i .obj, ?_⟩
            cases hh : hnd a ec (env'.set i (some (.obj a))) st' with
            | nx e2 s2 =>
              rw [hh] at h
              exact fun ρ2 H2 σ2 x2 R2 E2 => h ρ2 H2 _ x2 R2 (E2.unset i)
            | bk e2 s2 =>
              rw [hh] at h
              exact fun ρ2 H2 σ2 x2 R2 E2 => h ρ2 H2 _ x2 R2 (E2.unset i)
            | ct e2 s2 =>
              rw [hh] at h
              exact fun ρ2 H2 σ2 x2 R2 E2 => h ρ2 H2 _ x2 R2 (E2.unset i)
            | rt d s2 => rw [hh] at h; exact h
            | exc _ _ _ => rw [hh] at h; exact h.elim
            | stuck => rw [hh] at h; exact h.elim
          · exact h.elim
      · subst e
        have h : OkS X.K X.mg W ρ H (.exc ⟨ec, efs⟩ env' st') D := by cases efs <;> (simp only [hsb] at h; exact h)
        exact h ρ1 H1 σ1 (.ref C) dx x1 R1 E1 er'
end
end Fl
namespace Fl
open PySem PySem.Spec PyProof.Rows L2
/-! ### the law's end, for a def whose promise asks a stack without guards -/
/-- the heap that the law's caller tracks: the script alone -/
def ScriptHp (P : Program) (w : World) (K : Fg) (h : Heap) (a : Addr) (ns : List Int) (H : Hp) : Prop :=
  Only H ∧ SqL K H a (ns.map V.int) ∧ HOk P w H h ∧ (∀ b, H b ≠ none → b = a) ∧ (H a ≠ none → K.lookup a = none)
theorem scriptHp {P : Program} {w : World} {K : Fg} {h : Heap} {a : Addr} {us : List Value} {ns : List Int} (kin : K.In h) (at_a : h.get? a = some { cls := .type "list", data := .seq us.toArray }) (hu : IntsAre us ns) (short : ns.length ≤ sizeLine) : ∃ H, ScriptHp P w K h a ns H := by
  have pv : Vals (ns.map V.int) us := vals_of_ints hu
  have same := hu.length
  by_cases stands : ∃ o, K.lookup a = some o
  · obtain ⟨o, ho⟩ := stands
    have two := kin a o ho
    rw [at_a] at two
    cases two
    exact ⟨fun _ => none, fun _ => .inl rfl, .inr ⟨_, us.toArray, _, ho, rfl, rfl, rfl, by rw [List.size_toArray, same]; exact short, pv⟩, (fun _ _ no => by cases no), fun _ no => absurd rfl no, fun no => absurd rfl no⟩
  · have free : K.lookup a = none := by
      cases z : K.lookup a with
      | none => rfl
      | some o => exact absurd ⟨o, z⟩ stands
    refine ⟨fun b => if b = a then some (.frz { cls := .type "list", data := .seq us.toArray } (.lst (ns.map V.int))) else none, fun b => ?_, .inl (.inr ⟨_, if_pos rfl⟩), fun b x hx => ?_, fun b hb => Classical.byContradiction fun no => hb (if_neg no), fun _ => free⟩
    · by_cases same : b = a
      · exact .inr ⟨_, _, if_pos same⟩
      · exact .inl (if_neg same)
    · by_cases same : b = a
      · subst same
        have hx := (if_pos rfl).symm.trans hx
        cases hx
        exact ⟨at_a, by rw [List.length_map]; exact short, us, _, pv, at_a⟩
      · have hx := (if_neg same).symm.trans hx
        cases hx
theorem law_callG {P : Program} {w : World} {K : Fg} {mg mb : Str → Option Value} {k : Nat} {fa a : Addr} {fd : FuncData} {x : Str} {F : Fn} {s : Shared} {us : List Value} {ns : List Int}
    (kin : K.In s.heap) (gns : s.heap.Ns mainGlobals mg) (bns : s.heap.Ns builtinsNs mb) (boot : ∀ x : Str, x ≠ "__name__" → mb x = bootBuiltins x) (nolim : s.heap.NoLimit) (nogens : s.gens = #[])
    (at_a : s.heap.get? a = some { cls := .type "list", data := .seq us.toArray }) (hu : IntsAre us ns) (short : ns.length ≤ sizeLine) (room : Room k callerA)
    (prom : ∀ base : Heap, K.In base → base.Ns mainGlobals mg → FnG P w K mg base k fa fd [x] F) (bind : ∀ (s : Shared) (u : Value), BindsTo s fd ⟨[u], []⟩ [(x, u)])
    (says : ∃ st, F [.frz (ns.map D.int)] [] = .ok (.bl true) st) :
    codeAny (model P w) callerA (.call (.ref fa) ⟨[.ref a], []⟩) (fun r s' => r = .ok (.ret (.bool true)) ∧ OldK s.heap s'.heap ∧ s'.os = s.os ∧ AllBare s'.gens) s := by
  obtain ⟨H, only, seq, fits, alone, apart⟩ := scriptHp (P := P) (w := w) kin at_a hu short
  -- what lies beside the script
  have under : ∀ {b : Addr} {o : Obj}, s.heap.get? b = some o → H b = none → (hidT s.heap H).get? b = some o := fun e no => hidT_get e no
  have dicts : ∀ {b : Addr} {m : Str → Option Value}, s.heap.Ns b m → (hidT s.heap H).Ns b m := fun {b m} ⟨o, es, ep, e, d, r⟩ => ⟨o, es, ep, under e (Classical.byContradiction fun no => by
    cases alone b no
    rw [at_a] at e
    cases e
    exact nomatch d), d, r⟩
  have kin2 : K.In (hidT s.heap H) := fun b o e => under (kin b o e) (Classical.byContradiction fun no => by
    cases alone b no
    rw [apart no] at e
    cases e)
  obtain ⟨mc, lim1, lim2⟩ := nolim
  have start : Env0 P w K mg (hidT s.heap H) callerA [] s H := { frames := rfl, mod := ⟨kin2, dicts gns, ⟨mb, dicts bns, boot⟩, ⟨mc, dicts lim1, lim2⟩⟩, bs := fun b o e => of_hidT e, bsz := Nat.le_of_eq (hidT_size _ _), funs := trivial, frf := fun b no => absurd (show b ∈ ([] : List Addr) from no) (by simp), hok := fits, bare := .of_eq nogens }
  obtain ⟨st, says⟩ := says
  have asked : spF K mg [x] F [.ref a] H (fun v _ => v = .bl true) (fun _ _ _ => False) := by
    refine ⟨rfl, [], [], [.frz (ns.map D.int)], ⟨List.nodup_nil, rfl, fun l b o e => by simp at e⟩, .cons (.frz (vs := ns.map V.int) ?_ ?_) .nil, ?_⟩
    · rcases seq with (e | e) | e
      · exfalso
        rcases only a with no | ⟨o, xs, no⟩ <;> (rw [e] at no; cases no)
      · exact .inl ⟨by simp, e⟩
      · exact .inr (.inr e)
    · clear says at_a hu short seq fits
      induction ns with
      | nil => exact .nil
      | cons n ns ih => exact .cons (.int n) ih
    · rw [says]
      intro ρ2 H2 v _ _ r
      cases r
      rfl
  refine codeAny_mono (prom _ kin2 (dicts gns) callerA [] s H ⟨[.ref a], []⟩ [.ref a] [.ref a] _ _ rfl room start (bind s (.ref a)) (.cons rfl .nil) asked) fun r s' got => ?_
  match r, got with
  | .error e, got => obtain ⟨_, _, _, _, _, _, _, _, _, _, _, _, no⟩ := got; exact no.elim
  | .ok (.ret u), got =>
    obtain ⟨v, H', os, bare, un, fits', rv, e⟩ := got
    cases e
    cases rv
    refine ⟨rfl, OldK.of_keep fun b o e => ?_, os, bare⟩
    rcases only b with no | ⟨o2, xs, no⟩
    · exact un.keep b o e no (fun m => by cases (show b ∈ ([] : List Addr) from m)) (by simp)
    · have e1 := (fits b _ no).1
      have e2 := (fits' b _ (un.frzs b o2 _ no)).1
      rw [e] at e1
      cases e1
      exact e2
theorem walkG {l : PySem.W.OpenLaw} {n k : Nat} {q : Program} {loose : List Str} {XP : (Str → Option Value) → Heap → Prop} {YP : World → Heap → Prop} {d : DefRec} {K : Params → Fg} {x : Str} (room : Room k callerA)
    (most : l.most = some n) (n_le : n ≤ sizeLine) (plain : d.params.defaults = []) (kin : ∀ (w : World) (h : Heap), YP w h → (K w.params).In h) (F : World → (Str → Option Value) → Fn)
    (prom : ∀ (w : World) (mg : Str → Option Value) (fa : Addr) (h : Heap), (K w.params).In h → h.Ns mainGlobals mg → XP mg h → mg d.name = some (.ref fa) →
      ∃ fd : FuncData, (∀ (s : Shared) (u : Value), BindsTo s fd ⟨[u], []⟩ [(x, u)]) ∧ ∀ base : Heap, (K w.params).In base → base.Ns mainGlobals mg → FnG l.prog w (K w.params) mg base k fa fd [x] (F w mg))
    (says : ∀ (w : World) (mg : Str → Option Value) (ns : List Int), ns.length ≤ n → ∃ st, F w mg [.frz (ns.map D.int)] [] = .ok (.bl true) st) :
    PySem.W.WalkO q loose XP YP l.row.toRowW d [] (fun f vs => PySem.call f vs) :=
  Att.attach_call most plain fun w s₀ s mg mb fa o pm cd doc a us ns G Y ho hd hcd hmg at_a hu len nogens => by
    obtain ⟨fd, bind, prom⟩ := prom w mg fa _ (kin w _ Y) G.T.g G.X hmg
    exact law_callG (kin w _ Y) G.T.g G.T.b G.T.builtins G.T.nolimit nogens at_a hu (Nat.le_trans len n_le) room prom bind (says w mg ns len)
end Fl
namespace Fl
open PySem PySem.Spec PyProof.Rows L2
/-! ### defs by their names -/
def FnT (P : Program) (w : World) (K : Fg) (mg : Mg) (base : Heap) (k : Nat) (x : Str) (F : Fn) (n : Nat) : Prop :=
  ∃ f fd ps, ps.length = n ∧ mg x = some (.ref f) ∧ PySem.W.keepIn K (.ref f) = true ∧ Binds K fd ps [] ∧ Ar n F ∧ FnG P w K mg base k f fd ps F
def DefOk (K : Fg) (mg : Mg) (x : Str) (st : Stmt) (ps : List Str) : Prop := ∃ f fd, Fun K x x st f fd ∧ mg x = some (.ref f) ∧ PySem.W.keepIn K (.ref f) = true ∧ Binds K fd ps []
theorem DefOk.make {K : Fg} {mg : Mg} {h : Heap} {x : Str} {st : Stmt} {ps : List Str} {f : Addr} {oc : Value} {od an : Option Addr} {osl : Array (Option Value)} {kV doc pm cdv ct : Value} (X : K.In h) (G : h.Ns mainGlobals mg) (a : PySem.W.nsIn K mainGlobals x = some (some (.ref f)))
    (l : K.lookup f = some ⟨oc, od, .func (PySem.W.fnOf x x (defArgs st) (defBody st) (defScope st) .none kV doc pm an cdv ct), osl⟩) (c : PySem.W.codeIn K cdv x = true) (k : PySem.W.keepIn K (.ref f) = true)
    (b : ∀ (kV doc pm : Value) (an : Option Addr) (cdv ct : Value) (us : List Value), us.length = ps.length → bindArgs (PySem.W.fnOf x x (defArgs st) (defBody st) (defScope st) .none kV doc pm an cdv ct) ⟨us, []⟩ = pure (ps.zip us)) : DefOk K mg x st ps :=
  ⟨f, _, fun_mk l c k, PySem.W.mg_of X G a, k, (fun_mk l c k).binds b⟩
section
variable {P : Program} {w : World} {K : Fg} {mg : Mg} {base : Heap} {k n : Nat} {x : Str} {F : Fn}
theorem FnT.mono {j : Nat} (h : FnT P w K mg base j x F n) (l : j ≤ k) : FnT P w K mg base k x F n := by
  obtain ⟨f, fd, ps, h1, h2, h3, h4, h5, h6⟩ := h
  exact ⟨f, fd, ps, h1, h2, h3, h4, h5, h6.mono l⟩
theorem FnT.body {st : Stmt} {N ps : List Str} {g : FS} (d : DefOk K mg x st ps) (S : FnScope N ps (defScope st)) (hb : ∀ (f : Addr) (cdv : Value) (A : Around) (outer : List PySem.Env) (s : Shared) (H : Hp) (E : XK),
      Gx (cxOf (L2.CX P w) P w K mg base N x (defScope st) f cdv A outer s H E) → Room k (cxOf (L2.CX P w) P w K mg base N x (defScope st) f cdv A outer s H E).A →
      Takes (cxOf (L2.CX P w) P w K mg base N x (defScope st) f cdv A outer s H E) (fun c d _ H => E c d H) →
      PassesOwn (model P w) (cxOf (L2.CX P w) P w K mg base N x (defScope st) f cdv A outer s H E).A (cxOf (L2.CX P w) P w K mg base N x (defScope st) f cdv A outer s H E).env (cxOf (L2.CX P w) P w K mg base N x (defScope st) f cdv A outer s H E).xe →
      PFB (cxOf (L2.CX P w) P w K mg base N x (defScope st) f cdv A outer s H E) (fun c d _ H => E c d H) (defBody st) g) : FnT P w K mg base (k + 1) x (fnA ps.length N.length g) ps.length := by
  obtain ⟨f, fd, F1, h1, h2, h3⟩ := d
  exact ⟨f, fd, ps, rfl, h1, h2, h3, Ar.body, FnG.body F1 S (hb f)⟩
theorem okR_hide' {W : WX} {ρ : List Addr} {H : Hp} {σ : L2.St} {st : Store} {r : R D} {Q : VK} {P : Program} {w : World} {base : Heap} (R0 : Rel K ρ st H) (h : OkR K mg (RV K) W ρ H σ (hideF st r) Q) : OkR K mg (RV K) W ρ H σ r Q := by
  refine okR_keep R0 ?_
  have tl : ∀ {s1 : Store}, (∀ (l : Nat) (so : SO), l < st.length → s1[l]? = some so → st[l]? = some so ∨ soLt st.length so = true) → (s1.take st.length).all (soLt st.length) = true := by
    intro s1 h
    rw [List.all_eq_true]
    intro so hm
    obtain ⟨l, hl, e⟩ := List.mem_iff_getElem.mp hm
    rw [List.length_take] at hl
    have e2 : s1[l]? = some so := by
      rw [← e, List.getElem_take, List.getElem?_eq_getElem (by omega)]
    rcases h l so (by omega) e2 with q | q
    · exact List.all_eq_true.mp R0.allLt so (List.mem_of_getElem? q)
    · exact q
  cases r with
  | stuck => exact h
  | ok d s1 =>
    unfold hideF at h
    unfold keepF
    simp only at h ⊢
    split at h
    · rename_i hc
      obtain ⟨c1, c2, c3⟩ := hc
      rw [c3, tl c2, decide_eq_true c1]
      exact h
    · exact h.elim
  | exc e s1 =>
    unfold hideF at h
    unfold keepF
    simp only at h ⊢
    split at h
    · rename_i hc
      obtain ⟨c1, c2, c3⟩ := hc
      rw [c3, tl c2, decide_eq_true c1]
      exact h
    · exact h.elim
noncomputable def Fn.hide (F : Fn) : Fn := fun ds st => hideF st (F ds st)
theorem FnT.hide (h : FnT P w K mg base k x F n) : FnT P w K mg base k x F.hide n := by
  obtain ⟨f, fd, ps, h1, h2, h3, h4, h5, h6⟩ := h
  refine ⟨f, fd, ps, h1, h2, h3, h4, fun ds st hl => ?_, fun A outer s H args us vs Q E g r e b v ⟨hl, ρ, st, ds, R, rs, q⟩ => h6 A outer s H args us vs Q E g r e b v ⟨hl, ρ, st, ds, R, rs, okR_hide' (P := P) (w := w) (base := base) R q⟩⟩
  unfold Fn.hide
  rw [h5 ds st hl]
  rfl
theorem FnT.less {G : Fn} (h : FnT P w K mg base k x G n) (l : Le F G) : FnT P w K mg base k x F n := by
  obtain ⟨f, fd, ps, h1, h2, h3, h4, h5, h6⟩ := h
  refine ⟨f, fd, ps, h1, h2, h3, h4, fun ds st hl => ?_, h6.less l⟩
  rcases l ds st with e | e
  · exact e
  · rw [e]; exact h5 ds st hl
def Fn.none : Fn := fun _ _ => .stuck
theorem FnT.never {st : Stmt} {ps : List Str} (d : DefOk K mg x st ps) : FnT P w K mg base k x Fn.none ps.length := by
  obtain ⟨f, fd, F1, h1, h2, h3⟩ := d
  exact ⟨f, fd, ps, rfl, h1, h2, h3, fun _ _ _ => rfl, fun A outer s H args us vs Q E g r e b v ⟨hl, ρ, st, ds, R, rs, q⟩ => q.elim⟩
end
section
variable {X : Cx} {W : WX} {pos p : Pos} {e : Expr} {es : List Expr} {g : FA} {k n : Nat} {F : Fn} {x : Str}
theorem pf_callT (h : FnT X.prog X.w X.K X.mg X.base k x F n) (G : Gx X) (hr : Room k X.A) (tk : Takes X W) (ha : PFA X W (e :: es) g) (hn : (e :: es).length = n := by rfl) (hg : Gl X x := by rfl) (hdb : (x == ("__debug__" : Str)) = false := by decide)
    (he : starEach (e :: es) X.env = (false, eval e X.env) :: starEach es X.env := by rfl) (hpl : (backTo pos (starEach es X.env)).any (·.1) = false := by rfl) : PF X W (.Call (.Name x p) (e :: es) [] pos) (fCall F g) := by
  obtain ⟨f, fd, ps, h1, h2, h3, h4, h5, h6⟩ := h
  subst h1
  exact pf_call h6 G hr h2 h3 h4 tk ha hn hg hdb he hpl h5
theorem pf_callT0 (h : FnT X.prog X.w X.K X.mg X.base k x F 0) (G : Gx X) (hr : Room k X.A) (tk : Takes X W) (hg : Gl X x := by rfl) (hdb : (x == ("__debug__" : Str)) = false := by decide) : PF X W (.Call (.Name x p) [] [] pos) (fCall F fNil) := by
  obtain ⟨f, fd, ps, h1, h2, h3, h4, h5, h6⟩ := h
  cases List.length_eq_zero_iff.mp h1
  exact pf_call0 h6 G hr h2 h3 h4 tk hg hdb
theorem gx_suite {a : Addr} {pn : List (Addr × Obj)} (G : Gx X) : Gx (X.suite a pn) := ⟨G.un, G.nd, G.gd⟩
theorem gx_tr {pn : List (Addr × Obj)} {xe : Value → Shared → Prop} (G : Gx X) : Gx (X.tr pn xe) := ⟨G.un, G.nd, G.gd⟩
/-- isinstance(e, C) in a suite, e in slot i the exception at a -/
def fEis (i : Nat) (a : Addr) (b : Bool) : FE := fun env st => match env[i]? with
  | some (some (.obj a')) => if a' = a then .ok (.bl b) st else .stuck
  | _ => .stuck
theorem pf_eis {i : Nat} {a C : Addr} {oe : Obj} {pn : List (Addr × Obj)} {y z : Str} {p1 p2 : Pos} {c : V} {cv : Value} {b : Bool} (cc : ExcC X.K C) (hz : Zc (.ref C) none oe) (hf : ∃ vs, oe.data = .fields vs) (hm : X.mg "isinstance" = none)
    (hc : ClsV c cv) (hy : (Gl X y ∧ X.mg y = some cv ∧ (y == ("__debug__" : Str)) = false) ∨ (Gl X y ∧ X.mg y = none ∧ bootBuiltins y = some cv ∧ y ≠ "__name__" ∧ (y == ("__debug__" : Str)) = false)) (hk : PySem.W.kitOne X.K (.ref C) cv = some b) (hr : RelV c cv)
    (hi : X.N[i]? = some z := by rfl) (hv : Vis X.env.scope z := by first | exact Or.inl rfl | exact Or.inr (Or.inl rfl) | exact Or.inr (Or.inr rfl))
    (hd : (z == ("__debug__" : Str)) = false := by decide) (hcd : (z == ("__classdict__" : Str)) = false := by decide) (hg : Gl X "isinstance" := by rfl)
    (hs1 : starEach [.Name z p1, .Name y p2] X.env = (false, eval (.Name z p1) X.env) :: starEach [.Name y p2] X.env := by rfl) (hs2 : starEach [.Name y p2] X.env = (false, eval (.Name y p2) X.env) :: starEach [] X.env := by rfl)
    (hpl : (backTo pos (starEach [.Name y p2] X.env)).any (·.1) = false := by rfl) : PF (X.suite a ((a, oe) :: pn)) W (.Call (.Name "isinstance" p) [.Name z p1, .Name y p2] [] pos) (fEis i a b) := by
  have he : PE (X.suite a ((a, oe) :: pn)) (.Name y p2) (tC c) := by
    rcases hy with ⟨h1, h2, h3⟩ | ⟨h1, h2, h3, h4, h5⟩
    · exact pe_glob h1 h2 hr h3
    · exact pe_bltn h1 h2 h3 hr h4 h5
  exact peI (pe_callB (X := X.suite a ((a, oe) :: pn)) (call_isE cc hz hf) hg hm (by rfl) (pa_cons (pe_var (i := i) hi hv hd hcd) (pa_cons he pa_nil hs2) hs1) (by decide) (by decide) hs1 hpl) fun σ H Q ⟨ρ, st, env, R, E, h⟩ => by
    unfold fEis at h
    split at h
    · rename_i a' ha
      split at h
      · rename_i e
        subst e
        obtain ⟨v, e1, r⟩ := E.2 i _ ha
        cases r
        refine ⟨_, e1, c, cv, b, rfl, fun u hu => hc.eq hu, hk, h ρ H _ .refl R (.bl _)⟩
      · exact h.elim
    · exact h.elim
end
end Fl
namespace Fl
open PySem PySem.Spec PyProof.Rows L2
def fNeg (f : FE) : FE := fun env st => (f env st).bind fun d st1 => match d with
  | .int i => .ok (.int (-i)) st1
  | _ => .stuck
section
variable {X : Cx} {W : WX} {pos p : Pos} {a : Expr} {f : FE} {K : Fg} {mg : Mg}
theorem pf_ng (ha : PF X W a f) : PF X W (.UnaryOp .USub a pos) (fNeg f) := pf_neg ha
/-- an own class over ValueError, without own __init__ -/
def ExcT (K : Fg) (mg : Mg) (x : Str) : Prop := ∃ C, mg x = some (.ref C) ∧ PySem.W.keepIn K (.ref C) = true ∧ PySem.W.excIn K C [.type "ValueError", .type "Exception", .type "BaseException", .type "object"] "ValueError.__new__" = true ∧
  PySem.W.subIn K (.ref C) (.type "BaseException") = some true ∧ PySem.W.typeIn K (.ref C) = some (.type "type")
theorem ps_raT {x m : Str} {j : Nat} {p2 cpos : Pos} (hc : X.calm = true) (tk : Takes X W) (h : ExcT X.K X.mg x) (hg : Gl X x := by rfl) (hdb : (x == ("__debug__" : Str)) = false := by decide) :
    PFS X W (.Raise (some (.Call (.Name x p) [.Constant (.str m) j p2] [] cpos)) none pos) (sRaise x) := by
  obtain ⟨C, h1, h2, h3, h4, h5⟩ := h
  exact ps_ra hc tk PySem.F.excBase_ValueError h3 h1 h2 h4 h5 hg hdb
def CatchT (K : Fg) (mg : Mg) (x : Str) (sub : Str → Option Bool) : Prop := (∃ C, mg x = some (.ref C) ∧ ∀ y b D, sub y = some b → mg y = some (.ref D) → PySem.W.exmOne K (.ref D) (.ref C) = some b) ∧ ∀ y, sub y = some true → y = x
variable {body suite : List Stmt} {b₀ : Stmt} {np pos' : Pos} {x n : Str} {fb : FS} {sub : Str → Option Bool} {hnd : Addr → Str → FS}
theorem ps_tryT {i : Nat} (G : Gx X) (hs : X.stack = X.env :: X.outer) (hf : X.env.frame = some X.env.locals) (h : CatchT X.K X.mg x sub) (tk : Takes X W)
    (hb : ∀ (W : WX) (pn : List (Addr × Obj)) (xe : Value → Shared → Prop), Takes (X.tr pn xe) W → PassesOwn (model X.prog X.w) X.A X.env xe → PFB (X.tr pn xe) W body fb)
    (hsu : ∀ (a : Addr) (oe : Obj) (C : Addr) (pn : List (Addr × Obj)), X.mg x = some (.ref C) → Zc (.ref C) none oe → (∃ vs, oe.data = .fields vs) → PFB (X.suite a ((a, oe) :: pn)) WN (b₀ :: suite) (hnd a x))
    (hg : Gl X x := by rfl) (hdb : (x == ("__debug__" : Str)) = false := by decide) (hi : X.N[i]? = some n := by rfl) (hln : X.env.kindOf n = some .local := by rfl) :
    PFS X W (.Try body [.ExceptHandler (some (.Name x np)) (some n) (b₀ :: suite) pos'] [] [] pos) (sTry (some i) sub fb hnd) := by
  obtain ⟨⟨C, h1, h2⟩, h3⟩ := h
  refine ps_tryA G hs hf ⟨hg, hdb, .inl h1⟩ tk h2 hb (fun a oe y C pn e1 e2 e3 e4 => ?_) hi hln
  cases h3 y e2
  exact hsu a oe C pn e1 e3 e4
def EisT (K : Fg) (mg : Mg) (x y : Str) (b : Bool) : Prop := ∃ C, mg x = some (.ref C) ∧ ExcC K C ∧ ∃ c cv, ClsV c cv ∧ RelV c cv ∧ (mg y = some cv ∨ (mg y = none ∧ bootBuiltins y = some cv ∧ y ≠ "__name__")) ∧ PySem.W.kitOne K (.ref C) cv = some b
theorem pf_eisT {i : Nat} {a C : Addr} {oe : Obj} {pn : List (Addr × Obj)} {y z : Str} {p1 p2 : Pos} {b : Bool} (h : EisT X.K X.mg x y b) (e : X.mg x = some (.ref C)) (hz : Zc (.ref C) none oe) (hf : ∃ vs, oe.data = .fields vs) (hm : X.mg "isinstance" = none)
    (hgy : Gl X y := by rfl) (hdy : (y == ("__debug__" : Str)) = false := by decide)
    (hi : X.N[i]? = some z := by rfl) (hv : Vis X.env.scope z := by first | exact Or.inl rfl | exact Or.inr (Or.inl rfl) | exact Or.inr (Or.inr rfl))
    (hd : (z == ("__debug__" : Str)) = false := by decide) (hcd : (z == ("__classdict__" : Str)) = false := by decide) (hg : Gl X "isinstance" := by rfl)
    (hs1 : starEach [.Name z p1, .Name y p2] X.env = (false, eval (.Name z p1) X.env) :: starEach [.Name y p2] X.env := by rfl) (hs2 : starEach [.Name y p2] X.env = (false, eval (.Name y p2) X.env) :: starEach [] X.env := by rfl)
    (hpl : (backTo pos (starEach [.Name y p2] X.env)).any (·.1) = false := by rfl) : PF (X.suite a ((a, oe) :: pn)) W (.Call (.Name "isinstance" p) [.Name z p1, .Name y p2] [] pos) (fEis i a b) := by
  obtain ⟨C', h1, h2, c, cv, h3, h4, h5, h6⟩ := h
  rw [e] at h1
  cases h1
  exact pf_eis h2 hz hf hm h3 (h5.imp (fun q => ⟨hgy, q, hdy⟩) fun ⟨q1, q2, q3⟩ => ⟨hgy, q1, q2, q3, hdy⟩) h6 h4 hi hv hd hcd hg hs1 hs2 hpl
theorem KC.loose {lv : List (Str × PySem.W.WData)} {q : Program} {h : Heap} {i : Int} (l : PySem.W.XL q lv mg h) (m : (x, PySem.W.WData.int i) ∈ lv) : KC K mg x (.int i) := by
  obtain ⟨v, h1, h2⟩ := l.2.val _ m
  cases h2 with
  | int i t => exact ⟨_, .int i, h1, ⟨_, rfl⟩, fun _ _ => .int i⟩
theorem KC.ofInt {i : Int} {t : Tok} (m : mg x = some (.int i t)) : KC K mg x (.int i) := ⟨_, .int i, m, ⟨_, rfl⟩, fun _ _ => .int i⟩
theorem KC.ofStr {i : Str} {t : Tok} (m : mg x = some (.str i t)) : KC K mg x (.str i) := ⟨_, .str i, m, ⟨_, rfl⟩, fun _ _ => .str i⟩
theorem ExcT.make {h : Heap} {C : Addr} (X : K.In h) (G : h.Ns mainGlobals mg) (a : PySem.W.nsIn K mainGlobals x = some (some (.ref C))) (b : PySem.W.keepIn K (.ref C) = true) (c : PySem.W.excIn K C [.type "ValueError", .type "Exception", .type "BaseException", .type "object"] "ValueError.__new__" = true)
    (d : PySem.W.subIn K (.ref C) (.type "BaseException") = some true) (e : PySem.W.typeIn K (.ref C) = some (.type "type")) : ExcT K mg x := ⟨C, PySem.W.mg_of X G a, b, c, d, e⟩
theorem CatchT.make {h : Heap} {C : Addr} {sub : Str → Option Bool} (X : K.In h) (G : h.Ns mainGlobals mg) (a : PySem.W.nsIn K mainGlobals x = some (some (.ref C))) (o : ∀ y, sub y = some true → y = x) (f : ∀ y b D, sub y = some b → mg y = some (.ref D) → PySem.W.exmOne K (.ref D) (.ref C) = some b) : CatchT K mg x sub :=
  ⟨⟨C, PySem.W.mg_of X G a, f⟩, o⟩
theorem EisT.make {y : Str} {b : Bool} {h : Heap} {C D : Addr} (X : K.In h) (G : h.Ns mainGlobals mg) (a : PySem.W.nsIn K mainGlobals x = some (some (.ref C))) (g1 : PySem.W.findIn K (.ref C) "__getattribute__" = some (some (.builtin "BaseException.__getattribute__"))) (g2 : PySem.W.findIn K (.ref C) "__getattr__" = some none)
    (g3 : PySem.W.subIn K (.ref C) (.type "BaseException") = some true) (g4 : PySem.W.hasDictIn K C = true) (g5 : PySem.W.findIn K (.ref C) "__class__" = some (some (.builtin "object.__class__")))
    (g6 : PySem.W.specialIn K (.builtin "object.__class__") "__get__" = some (some (.builtin "getset_descriptor.__get__"))) (g7 : PySem.W.takesIn K (.builtin "object.__class__") = some true) (g8 : PySem.W.mroIn K C (.type "object") = some true)
    (m : PySem.W.nsIn K mainGlobals y = some (some (.ref D))) (k : PySem.W.kitOne K (.ref C) (.ref D) = some b) : EisT K mg x y b :=
  ⟨C, PySem.W.mg_of X G a, ⟨g1, g2, g3, g4, g5, g6, g7, g8⟩, _, _, .own D, rfl, .inl (PySem.W.mg_of X G m), k⟩
theorem EisT.makeB {y : String} {b : Bool} {h : Heap} {C : Addr} (X : K.In h) (G : h.Ns mainGlobals mg) (a : PySem.W.nsIn K mainGlobals x = some (some (.ref C))) (g1 : PySem.W.findIn K (.ref C) "__getattribute__" = some (some (.builtin "BaseException.__getattribute__"))) (g2 : PySem.W.findIn K (.ref C) "__getattr__" = some none)
    (g3 : PySem.W.subIn K (.ref C) (.type "BaseException") = some true) (g4 : PySem.W.hasDictIn K C = true) (g5 : PySem.W.findIn K (.ref C) "__class__" = some (some (.builtin "object.__class__")))
    (g6 : PySem.W.specialIn K (.builtin "object.__class__") "__get__" = some (some (.builtin "getset_descriptor.__get__"))) (g7 : PySem.W.takesIn K (.builtin "object.__class__") = some true) (g8 : PySem.W.mroIn K C (.type "object") = some true)
    (m : PySem.W.nsIn K mainGlobals (Str.ofString y) = some none) (v : bootBuiltins (Str.ofString y) = some (.type y)) (n : Str.ofString y ≠ "__name__") (k : PySem.W.kitOne K (.ref C) (.type y) = some b) : EisT K mg x (Str.ofString y) b :=
  ⟨C, PySem.W.mg_of X G a, ⟨g1, g2, g3, g4, g5, g6, g7, g8⟩, _, _, .ty y, rfl, .inr ⟨PySem.W.mg_none_of X G m, v, n⟩, k⟩
theorem catch_one {y : Str} {D D' : Addr} {c : Value} {b : Bool} (h : mg y = some (.ref D)) (m : mg y = some (.ref D')) (e : PySem.W.exmOne K (.ref D') c = some b) : PySem.W.exmOne K (.ref D) c = some b := by
  rw [h] at m
  cases m
  exact e
end
end Fl
namespace Fl
open PySem PySem.Spec PyProof.Rows L2
/-! ### reckoning with meanings -/
section
variable {env : Env} {st : Store} {f g k : FE} {o : Op2} {d e : D} {i : Nat}
theorem e_seq {a b : FS} : sSeq a b env st = match a env st with | .nx e s => b e s | r => r := rfl
theorem e_expr : sExpr f env st = match f env st with | .ok _ s => .nx env s | .exc e s => .exc e env s | .stuck => .stuck := rfl
theorem e_ret : sRet f env st = match f env st with | .ok d s => .rt d s | .exc e s => .exc e env s | .stuck => .stuck := rfl
theorem e_if {c : FE} {a b : FS} : sIf c a b env st = match c env st with | .ok (.bl true) s => a env s | .ok (.bl false) s => b env s | .exc e s => .exc e env s | _ => .stuck := rfl
theorem e_set : sSet i f env st = match f env st with | .ok d s => .nx (env.set i (some d)) s | .exc e s => .exc e env s | .stuck => .stuck := rfl
theorem e_bin : fBin o f g env st = (f env st).bind fun x s1 => (g env s1).bind fun y s2 => o x y s2 := rfl
theorem e_call {F : Fn} {a : FA} : fCall F a env st = (a env st).bind fun ds s => F ds s := rfl
theorem e_cons {a : FA} : fCons f a env st = (f env st).bind fun d s1 => (a env s1).bind fun ds s2 => .ok (d :: ds) s2 := rfl
theorem e_nil : fNil env st = .ok [] st := rfl
theorem e_c : fC d env st = .ok d st := rfl
theorem e_var : fVar i env st = match env[i]? with | some (some d) => .ok d st | _ => .stuck := rfl
theorem e_fif {c : FE} : fIf c f g env st = (c env st).bind fun d s1 => match d with | .bl true => f env s1 | .bl false => g env s1 | _ => .stuck := rfl
theorem e_and : fAnd f g env st = (f env st).bind fun d s1 => match d with | .bl true => g env s1 | .bl false => .ok (.bl false) s1 | _ => .stuck := rfl
theorem e_or : fOr f g env st = (f env st).bind fun d s1 => match d with | .bl true => .ok (.bl true) s1 | .bl false => g env s1 | _ => .stuck := rfl
theorem e_not : fNot f env st = (f env st).bind fun d s1 => match d with | .bl b => .ok (.bl (!b)) s1 | _ => .stuck := rfl
theorem e_neg : fNeg f env st = (f env st).bind fun d s1 => match d with | .int i => .ok (.int (-i)) s1 | _ => .stuck := rfl
theorem e_chain {o' : Op2} : fChain o o' f g k env st = (f env st).bind fun x st1 => (g env st1).bind fun y st2 => (o x y st2).bind fun z st3 => match z with
  | .bl true => (k env st3).bind fun w st4 => o' y w st4
  | .bl false => .ok (.bl false) st3
  | _ => .stuck := rfl
theorem e_tup {a : FA} : fTup a env st = (a env st).bind fun ds s => if ds.length ≤ sizeLine then .ok (.tup ds) s else .stuck := rfl
theorem e_lst {a : FA} : fLst a env st = (a env st).bind fun ds s => if ds.length ≤ sizeLine then .ok (.lst ds) s else .stuck := rfl
theorem e_new {a : FA} : fNew a env st = (a env st).bind fun ds s => if ds.length ≤ sizeLine then .ok (.loc s.length) (s ++ [.lst ds]) else .stuck := rfl
theorem e_isi {c : Ty} : fIsi c f env st = (f env st).bind fun d s => match tyOf s d with | some t => .ok (.bl (t.le c)) s | none => .stuck := rfl
theorem e_rev {o : D → Store → R D} : fRev o f env st = (f env st).bind o := rfl
theorem e_it : fIt f env st = (f env st).bind fun d s => match itOf s d with | some I => .ok I s | none => .stuck := rfl
theorem e_par {j : Nat} : sPar i j f g env st = match f env st with
  | .ok d st1 => (match g env st1 with
    | .ok d2 st2 => .nx ((env.set i (some d)).set j (some d2)) st2
    | .exc e st2 => .exc e env st2
    | .stuck => .stuck)
  | .exc e st1 => .exc e env st1
  | .stuck => .stuck := rfl
theorem e_asg {t : Tg} : sAsg t f env st = match f env st with
  | .ok d st1 => (match bindT t d env with
    | some env' => .nx env' st1
    | none => .stuck)
  | .exc e st1 => .exc e env st1
  | .stuck => .stuck := rfl
theorem e_raise {x : Str} : sRaise x env st = .exc ⟨x, []⟩ env st := rfl
theorem e_skip : sSkip env st = .nx env st := rfl
theorem fif_t {c : FE} {s : Store} (h : c env st = .ok (.bl true) s) : fIf c f g env st = f env s := by unfold fIf; rw [h]; rfl
theorem fif_f {c : FE} {s : Store} (h : c env st = .ok (.bl false) s) : fIf c f g env st = g env s := by unfold fIf; rw [h]; rfl
theorem sif_t {c : FE} {a b : FS} {s : Store} (h : c env st = .ok (.bl true) s) : sIf c a b env st = a env s := by unfold sIf; rw [h]
theorem sif_f {c : FE} {a b : FS} {s : Store} (h : c env st = .ok (.bl false) s) : sIf c a b env st = b env s := by unfold sIf; rw [h]
theorem seq_nx {a b : FS} {e : Env} {s : Store} (h : a env st = .nx e s) : sSeq a b env st = b e s := by unfold sSeq; rw [h]
theorem seq_rt {a b : FS} {d : D} {s : Store} (h : a env st = .rt d s) : sSeq a b env st = .rt d s := by unfold sSeq; rw [h]
theorem seq_exc {a b : FS} {x : Ex} {e : Env} {s : Store} (h : a env st = .exc x e s) : sSeq a b env st = .exc x e s := by unfold sSeq; rw [h]
theorem set_ok {d : D} {s : Store} (h : f env st = .ok d s) : sSet i f env st = .nx (env.set i (some d)) s := by unfold sSet; rw [h]
theorem ret_ok {d : D} {s : Store} (h : f env st = .ok d s) : sRet f env st = .rt d s := by unfold sRet; rw [h]
theorem expr_ok {d : D} {s : Store} (h : f env st = .ok d s) : sExpr f env st = .nx env s := by unfold sExpr; rw [h]
theorem bin_ok {d e : D} {s1 s2 : Store} (h1 : f env st = .ok d s1) (h2 : g env s1 = .ok e s2) : fBin o f g env st = o d e s2 := by unfold fBin; rw [h1, R.bind_ok, h2, R.bind_ok]
theorem cons_ok {a : FA} {d : D} {ds : List D} {s1 s2 : Store} (h1 : f env st = .ok d s1) (h2 : a env s1 = .ok ds s2) : fCons f a env st = .ok (d :: ds) s2 := by unfold fCons; rw [h1, R.bind_ok, h2, R.bind_ok]
theorem call_ok {F : Fn} {a : FA} {ds : List D} {s : Store} (h : a env st = .ok ds s) : fCall F a env st = F ds s := by unfold fCall; rw [h, R.bind_ok]
theorem and_t {s : Store} (h : f env st = .ok (.bl true) s) : fAnd f g env st = g env s := by unfold fAnd; rw [h]; rfl
theorem and_f {s : Store} (h : f env st = .ok (.bl false) s) : fAnd f g env st = .ok (.bl false) s := by unfold fAnd; rw [h]; rfl
theorem or_t {s : Store} (h : f env st = .ok (.bl true) s) : fOr f g env st = .ok (.bl true) s := by unfold fOr; rw [h]; rfl
theorem or_f {s : Store} (h : f env st = .ok (.bl false) s) : fOr f g env st = g env s := by unfold fOr; rw [h]; rfl
theorem not_ok {b : Bool} {s : Store} (h : f env st = .ok (.bl b) s) : fNot f env st = .ok (.bl (!b)) s := by unfold fNot; rw [h]; rfl
theorem lst_ok {a : FA} {ds : List D} {s : Store} (h : a env st = .ok ds s) (hz : ds.length ≤ 16777216) : fLst a env st = .ok (.lst ds) s := by unfold fLst; rw [h, R.bind_ok, if_pos (by rw [sizeLine_eq]; exact hz)]
theorem tup_ok {a : FA} {ds : List D} {s : Store} (h : a env st = .ok ds s) (hz : ds.length ≤ 16777216) : fTup a env st = .ok (.tup ds) s := by unfold fTup; rw [h, R.bind_ok, if_pos (by rw [sizeLine_eq]; exact hz)]
theorem new_ok {a : FA} {ds : List D} {s : Store} (h : a env st = .ok ds s) (hz : ds.length ≤ 16777216) : fNew a env st = .ok (.loc s.length) (s ++ [.lst ds]) := by unfold fNew; rw [h, R.bind_ok, if_pos (by rw [sizeLine_eq]; exact hz)]
theorem par_ok {j : Nat} {d e : D} {s1 s2 : Store} (h1 : f env st = .ok d s1) (h2 : g env s1 = .ok e s2) : sPar i j f g env st = .nx ((env.set i (some d)).set j (some e)) s2 := by unfold sPar; rw [h1]; simp only [h2]
theorem rng1_is {s : Store} {m : Nat} (h : f env st = .ok (.int m) s) (hm : m ≤ 1000000) : fRng1 f env st = .ok ⟨(List.range m).map fun k => .int (0 + (k : Nat)), []⟩ s := by
  have g1 : -(2 : Int) ^ 62 ≤ (m : Int) ∧ (m : Int) < 2 ^ 62 := by constructor <;> omega
  have e : fRng1 f env st = (if -(2 ^ 62) ≤ (m : Int) ∧ (m : Int) < 2 ^ 62 then R.ok ⟨(List.range (m : Int).toNat).map fun k => .int (0 + (k : Nat)), []⟩ s else R.stuck) := by
    unfold fRng1
    rw [h]
    exact R.bind_ok _ _ _
  rw [e, if_pos g1, Int.toNat_natCast]
theorem for_nx {fi : FI} {t : Tg} {body : FS} {I : IR} {e : Env} {s1 s2 : Store} (h1 : fi env st = .ok I s1) (h2 : forL body t I.src I.items env s1 = .nx e s2) : sFor fi t body env st = .nx e s2 := by unfold sFor; rw [h1]; exact h2
theorem len_small {α : Type} {l : List α} {n : Nat} (h : l.length ≤ n) (hn : n ≤ 16777216) : l.length ≤ sizeLine := by rw [sizeLine_eq]; omega
theorem ifL {α : Type} {a b : α} {n : Nat} (h : n ≤ 16777216) : (if n ≤ sizeLine then a else b) = a := if_pos (by rw [sizeLine_eq]; exact h)
/-! for -/
theorem forL_nil {body : FS} {t : Tg} : forL body t [] [] env st = .nx env st := by
  rw [forL, if_pos (by intro p h; cases h)]
theorem forL_cons {body : FS} {t : Tg} {ds : List D} : forL body t [] (d :: ds) env st = match bindT t d env with
    | none => .stuck
    | some env' => match body env' st with
      | .nx e s => forL body t [] ds e s
      | .ct e s => forL body t [] ds e s
      | .bk e s => .nx e s
      | r => r := by
  rw [forL, if_pos (by intro p h; cases h)]
  all_goals rfl
/-- a loop over items by an invariant of what is left -/
theorem forL_inv {body : FS} {t : Tg} (I : List D → Env → Store → Prop) (step : ∀ d ds env st, I (d :: ds) env st → ∃ env', bindT t d env = some env' ∧ ∃ e s, body env' st = .nx e s ∧ I ds e s) :
    ∀ (ds : List D) (env : Env) (st : Store), I ds env st → ∃ e s, forL body t [] ds env st = .nx e s ∧ I [] e s := by
  intro ds
  induction ds with
  | nil => exact fun env st h => ⟨env, st, forL_nil, h⟩
  | cons d ds ih =>
    intro env st h
    obtain ⟨env', h1, e, s, h2, h3⟩ := step d ds env st h
    rw [forL_cons, h1]
    simp only [h2]
    exact ih e s h3
/-- a while by an invariant and a measure -/
theorem while_inv {c : FE} {body : FS} (I : Nat → Env → Store → Prop) (step : ∀ n env st, I n env st → (c env st = .ok (.bl false) st ∧ n = 0) ∨ ∃ s1, c env st = .ok (.bl true) s1 ∧ ∃ e s m, body env s1 = .nx e s ∧ I m e s ∧ m < n) :
    ∀ (n : Nat) (env : Env) (st : Store), I n env st → ∃ e s, sWhile c body env st = .nx e s ∧ I 0 e s := by
  have key : ∀ (n : Nat) (env : Env) (st : Store), I n env st → ∃ e s k, whL c body k env st = .nx e s ∧ I 0 e s := by
    intro n
    induction n using Nat.strongRecOn with
    | _ n ih =>
      intro env st h
      rcases step n env st h with ⟨h1, rfl⟩ | ⟨s1, h1, e, s, m, h2, h3, h4⟩
      · exact ⟨env, st, 1, by rw [whL, h1], h⟩
      · obtain ⟨e2, s2, k, h5, h6⟩ := ih m h4 e s h3
        exact ⟨e2, s2, k + 1, by rw [whL, h1]; simp only [h2]; exact h5, h6⟩
  intro n env st h
  obtain ⟨e, s, k, h1, h2⟩ := key n env st h
  exact ⟨e, s, sWhile_of h1 (by simp), h2⟩
/-! hiding -/
theorem hide_ok {st0 st : Store} (h1 : st.take st0.length = st0) (h2 : locsLt st0.length (hand st0.length st d) = true) : hideF st0 (.ok d st) = .ok (hand st0.length st d) st0 := by
  have hl : st0.length ≤ st.length := by
    have := congrArg List.length h1
    rw [List.length_take] at this
    omega
  unfold hideF
  simp only
  rw [if_pos ⟨hl, fun l so hlt e => .inl (by rw [← h1, List.getElem?_take_of_lt hlt]; exact e), h2⟩, h1]
theorem hide_same (h : locsLt st.length d = true) : hideF st (.ok d st) = .ok d st := by
  have hh : hand st.length st d = d := by
    cases d with
    | loc l =>
      rw [locsLt] at h
      exact if_pos (of_decide_eq_true h)
    | _ => rfl
  rw [hide_ok (by rw [List.take_length]) (by rw [hh]; exact h), hh]
theorem hide_exc {x : Str} : hideF st (.exc ⟨x, []⟩ st) = .exc ⟨x, []⟩ st := by
  unfold hideF
  simp only
  rw [if_pos ⟨Nat.le_refl _, fun l so _ e => .inl e, rfl⟩, List.take_length]
/-- a new list is handed out, the rest is as it was -/
theorem hide_new {xs : List D} {l : Nat} {tl : Store} (hl : st.length ≤ l) (h : (st ++ tl)[l]? = some (.lst xs)) (hx : locsLts st.length xs = true) : hideF st (.ok (.loc l) (st ++ tl)) = .ok (.lst xs) st := by
  have hh : hand st.length (st ++ tl) (.loc l) = .lst xs := by
    refine (if_neg (by omega)).trans ?_
    simp only [h]
  rw [hide_ok (by rw [List.take_left]) (by rw [hh, locsLt]; exact hx), hh]
end
theorem hide_val {st : Store} {d : D} {tl : Store} (hd : ∀ l, d ≠ .loc l) (h : locsLt st.length d = true) : hideF st (.ok d (st ++ tl)) = .ok d st := by
  have hh : hand st.length (st ++ tl) d = d := by
    cases d with
    | loc l => exact absurd rfl (hd l)
    | _ => rfl
  rw [hide_ok (by rw [List.take_left]) (by rw [hh]; exact h), hh]
theorem hide_exc' {st : Store} {x : Str} {tl : Store} : hideF st (.exc ⟨x, []⟩ (st ++ tl)) = .exc ⟨x, []⟩ st := by
  unfold hideF
  simp only
  rw [if_pos ⟨by rw [List.length_append]; omega, fun l so hl e => .inl (by rw [List.getElem?_append_left hl] at e; exact e), rfl⟩, List.take_left]
theorem new_at {st : Store} {x : SO} : (st ++ [x])[st.length]? = some x := by rw [List.getElem?_append_right (Nat.le_refl _), Nat.sub_self]; rfl
theorem new_set {st : Store} {x y : SO} : (st ++ [x]).set st.length y = st ++ [y] := by rw [List.set_append_right _ _ (Nat.le_refl _), Nat.sub_self]; rfl
theorem lts_at {n : Nat} {f : Int → D} (h : ∀ i, locsLt n (f i) = true) : ∀ xs : List Int, locsLts n (xs.map f) = true
  | [] => rfl
  | x :: xs => by rw [List.map_cons, locsLts, h x, lts_at h xs]; rfl
theorem lts_ints {n : Nat} (xs : List Int) : locsLts n (xs.map D.int) = true := lts_at (fun _ => rfl) xs
theorem locsLts_app {n : Nat} : ∀ {xs ys : List D}, locsLts n xs = true → locsLts n ys = true → locsLts n (xs ++ ys) = true
  | [], _, _, h => h
  | x :: xs, ys, h, h2 => by
    rw [locsLts, Bool.and_eq_true] at h
    rw [List.cons_append, locsLts, h.1, locsLts_app h.2 h2]
    rfl
/-! ### comprehensions, plainly -/
theorem compL_map {fe : FE} {t : Tg} {env : Env} {l : Nat} (g : D → D) : ∀ (ds : List D) (st : Store) (acc : List D), st.length = l → acc.length + ds.length ≤ 16777216 →
    (∀ d ∈ ds, ∃ env', bindT t d env = some env' ∧ ∀ s, s.take l = st → fe env' s = .ok (g d) s) →
    compL fYes fe t env l [] ds (st ++ [.lst acc]) = .ok (.loc l) (st ++ [.lst (acc ++ ds.map g)])
  | [], st, acc, hl, _, _ => by
    rw [compL, if_pos (by intro p h; cases h), List.map_nil, List.append_nil]
  | d :: ds, st, acc, hl, hz, h => by
    obtain ⟨env', h1, h2⟩ := h d List.mem_cons_self
    rw [compL, if_pos (by intro p h; cases h), h1]
    simp only [fYes]
    rw [h2 _ (by rw [← hl, List.take_left])]
    have e1 : (st ++ [SO.lst acc])[l]? = some (.lst acc) := by rw [← hl, List.getElem?_append_right (Nat.le_refl _), Nat.sub_self]; rfl
    simp only [e1]
    rw [List.length_cons] at hz
    rw [if_pos (by rw [sizeLine_eq]; omega)]
    have e2 : (st ++ [SO.lst acc]).set l (.lst (acc ++ [g d])) = st ++ [.lst (acc ++ [g d])] := by
      rw [← hl, List.set_append_right _ _ (Nat.le_refl _), Nat.sub_self]; rfl
    rw [e2, compL_map g ds st (acc ++ [g d]) hl (by rw [List.length_append, List.length_singleton]; omega) fun d' hd => h d' (List.mem_cons_of_mem _ hd)]
    simp
theorem lts_map {n : Nat} {g : D → D} : ∀ {ds : List D}, (∀ d ∈ ds, locsLt n (g d) = true) → locsLts n (ds.map g) = true
  | [], _ => rfl
  | d :: ds, h => by
    rw [List.map_cons, locsLts, h d List.mem_cons_self, lts_map fun d' hd => h d' (List.mem_cons_of_mem _ hd)]
    rfl
theorem fComp_map {fi : FI} {t : Tg} {fe : FE} {vs : List Nat} {env : Env} {st : Store} {I : IR} (g : D → D) (hi : fi env st = .ok I st) (hs : I.src = []) (hz : I.items.length ≤ 16777216)
    (h : ∀ d ∈ I.items, ∃ env', bindT t d (wipeE env vs) = some env' ∧ ∀ s, s.take st.length = st → fe env' s = .ok (g d) s) (hc : ∀ d ∈ I.items, locsLt st.length (g d) = true) :
    fHide (fComp fi t fYes fe vs) env st = .ok (.lst (I.items.map g)) st := by
  unfold fHide fComp
  rw [hi]
  simp only [R.bind_ok]
  rw [hs, compL_map g I.items st [] rfl (by simpa using hz) h]
  refine hide_new (Nat.le_refl _) ?_ ?_
  · rw [List.getElem?_append_right (Nat.le_refl _), Nat.sub_self]; rfl
  · exact lts_map hc
/-! ### the cup -/
noncomputable def g__law_cup : FS := (sSeq (sSet 1 (fCall bAbs (fCons (fBin oIx (fBin oAdd (fCall bList (fCons (fVar 0) fNil)) (fLst (fCons (fC (.int 0)) fNil))) (fC (.int 0))) fNil))) (sRet (fNew (fCons (fIf (fBin oGe (fVar 1) (fBin oPow (fC (.int 10)) (fC (.int 18)))) (fBin oFdiv (fVar 1) (fC (.int 71))) (fC (.int 0))) (fCons (fBin oAdd (fBin oMod (fCall bInt (fCons (fBin oAdd (fBin oMul (fVar 1) (fC (.int 281))) (fC (.int 2707))) fNil)) (fC (.int 2077503151))) (fC (.int 167))) fNil)))))
noncomputable def F__law_cup : Fn := fnA 1 2 g__law_cup
noncomputable def g__law_roll : FS := (sSeq (sIf (fBin oGt (fBin oIx (fVar 0) (fC (.int 0))) (fC (.int 0))) (sSeq (sSet 2 (fBin oMod (fCall bInt (fCons (fBin oIx (fVar 0) (fC (.int 0))) fNil)) (fVar 1))) (sSeq (sIx (fBin oFdiv (fBin oIx (fVar 0) (fC (.int 0))) (fVar 1)) (fVar 0) (fC (.int 0))) (sRet (fVar 2)))) sSkip) (sSeq (sIx (fBin oMod (fCall bInt (fCons (fBin oAdd (fBin oMul (fBin oIx (fVar 0) (fC (.int 1))) (fC (.int 31051))) (fC (.int 8009))) fNil)) (fC (.int 2147483529))) (fVar 0) (fC (.int 1))) (sSeq (sSet 3 (fBin oMod (fCall bInt (fCons (fBin oMul (fBin oIx (fVar 0) (fC (.int 1))) (fBin oAdd (fBin oIx (fVar 0) (fC (.int 1))) (fC (.int 233)))) fNil)) (fC (.int 2147483587)))) (sRet (fBin oMod (fCall bInt (fCons (fBin oFdiv (fVar 3) (fC (.int 823))) fNil)) (fVar 1))))))
noncomputable def F__law_roll : Fn := fnA 2 4 g__law_roll
noncomputable def g__law_some : FS := (sRet (fBin oIx (fVar 1) (fCall F__law_roll (fCons (fVar 0) (fCons (fCall bLen (fCons (fVar 1) fNil)) fNil)))))
noncomputable def F__law_some : Fn := fnA 2 2 g__law_some
/-- a cup: two numbers -/
structure Cup where
  a : Int
  b : Int
def Cup.ok (c : Cup) : Prop := 0 ≤ c.a ∧ 0 ≤ c.b ∧ c.b < 4294967296
def Cup.so (c : Cup) : SO := .lst [.int c.a, .int c.b]
/-- a cup stands at l -/
def CupAt (st : Store) (l : Nat) (c : Cup) : Prop := st[l]? = some c.so ∧ c.ok
def absI (x : Int) : Int := if x < 0 then -x else x
theorem absI_nonneg (x : Int) : 0 ≤ absI x := by unfold absI; split <;> omega
def cup0 (xs : List Int) : Cup := ⟨if 1000000000000000000 ≤ absI ((xs ++ [0]).headD 0) then absI ((xs ++ [0]).headD 0) / 71 else 0, (absI ((xs ++ [0]).headD 0) * 281 + 2707) % 2077503151 + 167⟩
theorem cup0_ok (xs : List Int) : (cup0 xs).ok := by
  unfold cup0 Cup.ok
  generalize h : absI ((xs ++ [0]).headD 0) = x
  have hx : 0 ≤ x := h ▸ absI_nonneg _
  have h1 := Int.emod_nonneg (x * 281 + 2707) (b := 2077503151) (by decide)
  have h2 := Int.emod_lt_of_pos (x * 281 + 2707) (b := 2077503151) (by decide)
  simp only
  refine ⟨?_, by omega, by omega⟩
  split
  · exact Int.ediv_nonneg hx (by decide)
  · exact Int.le_refl _
theorem CupAt.set {st : Store} {l : Nat} {c c' : Cup} (h : CupAt st l c) (k : c'.ok) : CupAt (st.set l c'.so) l c' := ⟨List.getElem?_set_self (List.getElem?_eq_some_iff.mp h.1).1, k⟩
def rollN (c : Cup) (m : Int) : Int := if 0 < c.a then c.a % m else ((((c.b * 31051 + 8009) % 2147483529) * ((c.b * 31051 + 8009) % 2147483529 + 233)) % 2147483587 / 823) % m
def rollC (c : Cup) (m : Int) : Cup := if 0 < c.a then ⟨c.a / m, c.b⟩ else ⟨c.a, (c.b * 31051 + 8009) % 2147483529⟩
theorem rollN_nonneg {c : Cup} {m : Int} (h : 0 < m) : 0 ≤ rollN c m := by unfold rollN; split <;> exact Int.emod_nonneg _ (by omega)
theorem rollN_lt {c : Cup} {m : Int} (h : 0 < m) : rollN c m < m := by unfold rollN; split <;> exact Int.emod_lt_of_pos _ h
theorem rollC_ok {c : Cup} {m : Int} (k : c.ok) (h : 0 < m) : (rollC c m).ok := by
  unfold rollC
  split
  · exact ⟨Int.ediv_nonneg k.1 (by omega), k.2⟩
  · refine ⟨k.1, Int.emod_nonneg _ (by decide), ?_⟩
    have := Int.emod_lt_of_pos (c.b * 31051 + 8009) (b := 2147483529) (by decide)
    show (c.b * 31051 + 8009) % 2147483529 < 4294967296
    omega
theorem R.bind_pos {α : Type} {p : Prop} [Decidable p] {a b : R α} {β : Type} {k : α → Store → R β} (h : p) : (if p then a else b).bind k = a.bind k := by rw [if_pos h]
theorem cdivW {i j : Int} (h : 0 < j) (h2 : j < 340282366920938463463374607431768211456) : CDivW i j := by
  refine ⟨h, ?_⟩
  by_cases h0 : j.natAbs = 0
  · omega
  · have : j.natAbs.log2 < 128 := (Nat.log2_lt h0).mpr (by omega)
    omega
theorem cmul_r {i j : Int} (h1 : -18446744073709551616 < j) (h2 : j < 18446744073709551616) : CMul i j ∨ CMulW i j := .inl (.inr ⟨h1, h2⟩)
theorem roll_is {st : Store} {l : Nat} {c : Cup} {m : Int} (h : CupAt st l c) (hm : 0 < m) (hm2 : m < 340282366920938463463374607431768211456) : F__law_roll [.loc l, .int m] st = .ok (.int (rollN c m)) (st.set l (rollC c m).so) := by
  obtain ⟨h1, h2, h3, h4⟩ := h
  obtain ⟨a, b⟩ := c
  have hl := (List.getElem?_eq_some_iff.mp h1).1
  simp only [Cup.so] at h1 h2 h3 h4
  have d1 : CDivW a m := cdivW hm hm2
  have ix0 : ∀ (x y : D), atI [x, y] 0 = some x := fun _ _ => rfl
  have ix1 : ∀ (x y : D), atI [x, y] 1 = some y := fun _ _ => rfl
  have jx0 : ixN 2 0 = some 0 := rfl
  have jx1 : ixN 2 1 = some 1 := rfl
  have st1 : ∀ x : SO, (st.set l x)[l]? = some x := fun x => List.getElem?_set_self hl
  have m1 : CMul b 31051 ∨ CMulW b 31051 := cmul_r (by decide) (by decide)
  have hb' := Int.emod_nonneg (b * 31051 + 8009) (b := 2147483529) (by decide)
  have hb'' := Int.emod_lt_of_pos (b * 31051 + 8009) (b := 2147483529) (by decide)
  have m2 : CMul ((b * 31051 + 8009) % 2147483529) ((b * 31051 + 8009) % 2147483529 + 233) ∨ CMulW ((b * 31051 + 8009) % 2147483529) ((b * 31051 + 8009) % 2147483529 + 233) := cmul_r (by omega) (by omega)
  have d2 : ∀ x, CDivW x 823 := fun x => cdivW (by decide) (by decide)
  unfold F__law_roll fnA fnOf g__law_roll
  by_cases ha : 0 < a
  · simp [e_seq, e_if, e_bin, e_var, e_c, e_set, e_call, e_cons, e_nil, e_ret, startE, sIx, oGt, oIC, oIx, seqOf, lstOf, h1, ix0, jx0, ha, bInt, oMod, hm, oFdiv, d1, rollN, rollC, Cup.so]
  · simp [e_seq, e_if, e_bin, e_var, e_c, e_set, e_call, e_cons, e_nil, e_ret, e_skip, startE, sIx, oGt, oIC, oIx, seqOf, lstOf, h1, ix0, ix1, jx1, ha, bInt, oMod, hm, oFdiv, oMul, oAdd, m1, m2, d2, rollN, rollC, Cup.so, st1]
theorem roll_at {st : Store} {l : Nat} {c : Cup} {m : Int} (h : CupAt st l c) (hm : 0 < m) (hm2 : m < 340282366920938463463374607431768211456) : CupAt (st.set l (rollC c m).so) l (rollC c m) := h.set (rollC_ok h.2 hm)
theorem cup_is {st : Store} {xs : List Int} (hz : xs.length ≤ 63) : F__law_cup [.frz (xs.map D.int)] st = .ok (.loc st.length) (st ++ [(cup0 xs).so]) := by
  unfold F__law_cup fnA fnOf g__law_cup
  have z1 : xs.length + 1 ≤ 16777216 := by omega
  have hd : ∃ y, atI (xs.map D.int ++ [D.int 0]) 0 = some (.int y) ∧ y = (xs ++ [0]).headD 0 := by
    cases xs with
    | nil => exact ⟨0, rfl, rfl⟩
    | cons x xs =>
      refine ⟨x, ?_, rfl⟩
      unfold atI ixN
      rw [if_pos (Int.le_refl _), if_pos (by simp only [List.map_cons, List.cons_append, List.length_cons]; omega)]
      rfl
  obtain ⟨y, h1, h2⟩ := hd
  have cp : CPow 10 18 := by decide
  have m1 : CMul (absI y) 281 ∨ CMulW (absI y) 281 := cmul_r (by decide) (by decide)
  have d1 : CDivW (absI y) 71 := cdivW (by decide) (by decide)
  have ea : (if y < 0 then -y else y) = absI y := rfl
  unfold cup0 Cup.so
  rw [← h2]
  by_cases hc : 1000000000000000000 ≤ absI y
  · simp [e_seq, e_set, e_ret, e_new, e_bin, e_var, e_c, e_call, e_cons, e_nil, e_lst, e_fif, startE, bList, bAbs, bInt, itmOf, seqOf, lstOf, oAdd, sizeLine_eq, z1, oIx, h1, ea, oGe, oIC, oPow, cp, hc, oFdiv, d1, oMul, m1, oMod]
  · simp [e_seq, e_set, e_ret, e_new, e_bin, e_var, e_c, e_call, e_cons, e_nil, e_lst, e_fif, startE, bList, bAbs, bInt, itmOf, seqOf, lstOf, oAdd, sizeLine_eq, z1, oIx, h1, ea, oGe, oIC, oPow, cp, hc, oFdiv, d1, oMul, m1, oMod]
theorem some_is {st : Store} {l : Nat} {c : Cup} {xs : List D} (h : CupAt st l c) (h1 : xs ≠ []) (h2 : xs.length ≤ 16777216) :
    ∃ x ∈ xs, F__law_some [.loc l, .lst xs] st = .ok x (st.set l (rollC c xs.length).so) ∧ xs[(rollN c xs.length).toNat]? = some x := by
  have hp : (0 : Int) < xs.length := by
    cases xs with
    | nil => exact absurd rfl h1
    | cons _ _ => simp only [List.length_cons]; omega
  have e := roll_is h hp (by omega)
  have r0 := rollN_nonneg (c := c) hp
  have r1 := rollN_lt (c := c) hp
  have hlt : (rollN c xs.length).toNat < xs.length := by omega
  refine ⟨xs[(rollN c xs.length).toNat], List.getElem_mem _, ?_, List.getElem?_eq_getElem hlt⟩
  unfold F__law_some fnA fnOf g__law_some
  have ia : atI xs (rollN c xs.length) = some xs[(rollN c xs.length).toNat] := by
    unfold atI ixN
    rw [if_pos r0, if_pos r1]
    exact List.getElem?_eq_getElem hlt
  simp [e_bin, e_var, e_c, e_call, e_cons, e_nil, e_ret, startE, bLen, itmOf, seqOf, lstOf, e, oIx, ia]
end Fl
/-! x[::-1] of a tuple -/
namespace HT
open PySem PySem.Spec PySem.Calls PyProof.Rows
theorem back_adjust (n : Nat) : Builtin.Slice.sliceAdjust none none (-1) (n : Int) = ((n : Int) - 1, -1) := rfl
theorem back_places (n : Nat) : Builtin.Slice.slicePlaces ((n : Int) - 1) (-1) (-1) = n := by
  unfold Builtin.Slice.slicePlaces
  have no : ¬ ((-1 : Int) > 0) := by decide
  rw [if_neg no]
  by_cases hn : n = 0
  · subst hn; rfl
  · rw [if_pos (by omega)]
    have : (-(-1 : Int)) = 1 := rfl
    rw [this, Int.ediv_one]
    omega
theorem filterMap_some {α β : Type} {f : α → Option β} {g : α → β} : ∀ {l : List α}, (∀ k ∈ l, f k = some (g k)) → l.filterMap f = l.map g
  | [], _ => rfl
  | k :: l, h => by
    rw [List.filterMap_cons, h k List.mem_cons_self, List.map_cons, filterMap_some fun j hj => h j (List.mem_cons_of_mem _ hj)]
theorem back_pick (xs : Array Value) : ((List.range xs.size).filterMap fun (k : Nat) => xs[((xs.size : Int) - 1 + (k : Int) * (-1)).toNat]?) = xs.toList.reverse := by
  refine List.ext_getElem? fun i => ?_
  have key : ∀ k, k < xs.size → xs[((xs.size : Int) - 1 + (k : Int) * (-1)).toNat]? = some (xs.toList.reverse.getD k default) := by
    intro k hk
    have e : ((xs.size : Int) - 1 + (k : Int) * (-1)).toNat = xs.size - 1 - k := by omega
    rw [e, List.getD_eq_getElem?_getD, List.getElem?_reverse (by simpa using hk), Array.length_toList, Array.getElem?_toList, Array.getElem?_eq_getElem (by omega)]
    rfl
  have all : ((List.range xs.size).filterMap fun (k : Nat) => xs[((xs.size : Int) - 1 + (k : Int) * (-1)).toNat]?) = (List.range xs.size).map fun k => xs.toList.reverse.getD k default := filterMap_some fun k hk => key k (List.mem_range.mp hk)
  rw [all, List.getElem?_map]
  by_cases hi : i < xs.size
  · rw [List.getElem?_range hi, Option.map_some, List.getD_eq_getElem?_getD, List.getElem?_eq_getElem (l := xs.toList.reverse) (by simpa using hi)]
    rfl
  · rw [List.getElem?_eq_none (by simpa using hi), List.getElem?_eq_none (by simpa using hi)]
    rfl
section
variable {prog : Program} {w : World} {A : Around} {E : Value → Shared → Prop} {s : Shared}
theorem back_applied {sl : Addr} {c : Value} {n : Nat} {Q : Int × Int × Nat → Shared → Prop} (is : s.heap.IsSliceOf sl .none .none c) (pc : IsPart c (some (-1))) (h : Q ((n : Int) - 1, -1, n) s) : wpAny (model prog w) A (Builtin.Slice.sliceApplied (.ref sl) (pure (n : Int))) Q E s := by
  obtain ⟨ob, at_, _, parts⟩ := id is
  unfold Builtin.Slice.sliceApplied Builtin.Slice.sliceFields
  refine wpAny_bind (wpAny_bind (wpAny_field at_ parts (x := .none) rfl (wpAny_bind (wpAny_field at_ parts (x := .none) rfl (wpAny_bind (wpAny_field at_ parts (x := c) rfl (wpAny_pure ?_)))))))
  refine wpAny_bind (slicePart_ pc ?_)
  show wpAny _ _ (if ((-1 : Int) == 0) = true then _ else _) _ _ s
  rw [if_neg (by decide : ¬ ((-1 : Int) == 0) = true)]
  refine wpAny_bind (slicePart_none (wpAny_bind (slicePart_none (wpAny_bind (wpAny_pure ?_)))))
  show wpAny _ _ (pure ((n : Int) - 1, (-1 : Int), Builtin.Slice.slicePlaces ((n : Int) - 1) (-1) (-1))) _ _ s
  rw [back_places]
  exact wpAny_pure h
theorem getItem_tuple_back {t sl : Addr} {items : Array Value} {c : Value} {Q : Value → Shared → Prop} (it : IsTup s.heap t items) (is : s.heap.IsSliceOf sl .none .none c) (pc : IsPart c (some (-1)))
    (h : Q (.ref s.heap.objs.size) { s with heap := s.heap.push { cls := .type "tuple", data := .seq items.toList.reverse.toArray } }) (small : items.size ≤ sizeLine) : wpAny (model prog w) A (getItem (.ref t) (.ref sl)) Q E s := by
  have fits : sizeOk (.seq items.toList.reverse.toArray) := by
    show items.toList.reverse.toArray.size ≤ sizeLine
    rw [List.size_toArray, List.length_reverse, Array.length_toList]
    exact small
  obtain ⟨ob, at_, kind, _⟩ := id is
  have isS : s.TypeIs (.ref sl) "slice" := ⟨ob, at_, kind⟩
  unfold getItem
  try with_reducible refine wpAny_holding ?_
  first | refine wpAny_bind (wpAny_pure ?_) | skip
  refine wpAny_bind (wpAny_sequenceKey it.typeIs (by decide) ?_)
  refine wpAny_bind (wpAny_callSpecial?_slot (name := Str.ofString "__getitem__") it.typeIs PyProof.Rows.slot_tuple_getitem (wpAny_call_entry PyProof.Rows.slot_tuple_getitem it.typeIs entry_tuple_getitem ?_ (args_tuple_getitem _ _)))
  show wpAny _ _ (Builtin.Tuple.tupleItemsOf (.ref t) >>= fun _ => _) _ _ s
  refine wpAny_bind (tupleItemsOf_ it (wpAny_bind (wpAny_typeOf isS ?_)))
  rw [if_pos (by decide)]
  refine wpAny_bind (back_applied is pc ?_)
  have no : ¬ (((items.size : Int) - 1 == 0 && (-1 : Int) == 1 && items.size == items.size) = true) := by simp
  show wpAny _ _ (if ((items.size : Int) - 1 == 0 && (-1 : Int) == 1 && items.size == items.size) = true then _ else _) _ _ s
  rw [if_neg no, back_pick]
  first
    | exact wpAny_bind (m := Builtin.Tuple.tupleExact _) (wpAny_newObj_type (wpAny_pure ⟨_, rfl, wpAny_pure h⟩) fits)
    | exact wpAny_bind (m := Builtin.Tuple.tupleExact _) (wpAny_newObj_type (wpAny_bind (wpAny_pure (wpAny_pure ⟨_, rfl, wpAny_pure h⟩))) fits)
    | exact wpAny_bind (wpAny_bind (m := Builtin.Tuple.tupleExact _) (wpAny_newObj_type (wpAny_pure (wpAny_pure ⟨_, rfl, wpAny_pure h⟩)) fits))
    | exact wpAny_bind (wpAny_bind (m := Builtin.Tuple.tupleExact _) (wpAny_newObj_type (wpAny_pure ⟨_, rfl, wpAny_pure h⟩) fits))
end
end HT
namespace Fl
open PySem PySem.Spec PyProof.Rows L2
section
variable {X : Cx} {W : WX} {pos : Pos} {e : Expr} {f : FE}
def tBackT (K : Fg) (te : TE) : TE := fun σ H Q => te σ H fun x H1 => ∃ a xs, x = .ref a ∧ SqT K H1 a xs ∧ ∀ p, H1 p = none → Q (.ref p) (upd H1 p (.tup xs.reverse))
theorem pe_backT {te : TE} {k : Nat} {p1 p2 p3 : Pos} (he : PE X e te) : PE X (.Subscript e (.Slice none none (some (.UnaryOp .USub (.Constant (.int 1) k p1) p2)) p3) pos) (tBackT X.K te) := by
  refine ⟨fun pins s σ H Q I h => ?_⟩
  refine Subscript_ (thn (he.run pins s σ H _ I h) fun v s1 got => ?_)
  obtain ⟨x, H1, I1, rx, a, xs, ex, seq, q⟩ := got
  subst ex
  cases rx
  have step : PO X (some (.UnaryOp .USub (.Constant (.int 1) k p1) p2)) (tPart (tUn (rU fun i => .int (-i)) (tC (.int 1)))) := po_some (pe_un un_neg pe_int)
  refine wpAny_Slice (thn (po_none.run pins s1 σ H1 (fun o H2 => o = none ∧ H2 = H1) I1 ⟨rfl, rfl⟩) fun vl s2 got => ?_)
  obtain ⟨l, H2, I2, pl, el, e2⟩ := got
  subst el e2
  refine thn (po_none.run pins s2 σ H2 (fun o H3 => o = none ∧ H3 = H2) I2 ⟨rfl, rfl⟩) fun vu s3 got => ?_
  obtain ⟨u, H3, I3, pu, eu, e3⟩ := got
  subst eu e3
  refine thn (step.run pins s3 σ H3 (fun o H4 => o = some (-1) ∧ H4 = H3) I3 ⟨1, rfl, -1, rfl, rfl, rfl⟩) fun vs s4 got => ?_
  obtain ⟨o, H4, I4, ps, eo, e4⟩ := got
  subst eo e4
  cases pl
  cases pu
  have I5 : Inv X pins σ H4 { s4 with heap := s4.heap.push { cls := .type "slice", data := .fields #[.none, .none, vs] } } := I4.kept (t' := s4.toks) fun b ob q => Heap.get?_push_of_some _ q
  obtain ⟨its, r, isT, short⟩ := I5.tuple seq
  have len := r.length
  show wpAny (model X.prog X.w) X.A (subscriptTail e (.Slice none none (some (.UnaryOp .USub (.Constant (.int 1) k p1) p2)) p3) (.ref a) (.ref s4.heap.objs.size)) _ X.xe _
  refine tail_any (ops := [.ref a, .ref s4.heap.objs.size]) isT.typeIs PyProof.Rows.slot_tuple_getitem.lookup ?_ (by with_unfolding_all rfl)
  refine HT.getItem_tuple_back isT (Heap.IsSliceOf.new _ .none .none vs) ps ?_ (by rw [List.size_toArray]; omega)
  refine ⟨.ref _, _, I5.laid (t' := s4.toks) (o := .tup xs.reverse) (fun b ob q => Heap.get?_push_of_some _ q) (Nat.le_refl _) ?_, rfl, q _ (I5.hok.fresh (Nat.le_refl _))⟩
  exact ⟨by rw [List.length_reverse]; exact short, _, r.reverse, IsTup.new _ _⟩
/-- x[::-1]: of a list or a tuple -/
def oRev2 : D → Store → R D := fun x st => match x with
  | .tup xs => .ok (.tup xs.reverse) st
  | x => oRev x st
theorem PE.or {e : Expr} {t1 t2 : TE} (h1 : PE X e t1) (h2 : PE X e t2) : PE X e (fun σ H Q => t1 σ H Q ∨ t2 σ H Q) := ⟨fun pins s σ H Q I q => q.elim (h1.run pins s σ H Q I) (h2.run pins s σ H Q I)⟩
theorem pf_rev2 {k : Nat} {p1 p2 p3 : Pos} (he : PF X W e f) : PF X W (.Subscript e (.Slice none none (some (.UnaryOp .USub (.Constant (.int 1) k p1) p2)) p3) pos) (fRev oRev2 f) :=
  peI (PE.or (pe_backT he) (pf_rev he)) fun σ H Q ⟨ρ, st, env, R, E, h⟩ => by
    unfold fRev at h
    cases hf : f env st with
    | stuck => rw [hf] at h; exact h.elim
    | exc ex st1 => rw [hf] at h; exact .inl ⟨ρ, st, env, R, E, by rw [hf]; exact h⟩
    | ok d st1 =>
      rw [hf] at h
      have h : OkR X.K X.mg (RV X.K) W ρ H σ (oRev2 d st1) Q := h
      cases d with
      | tup xs =>
        refine .inl ⟨ρ, st, env, R, E, ?_⟩
        rw [hf]
        intro ρ1 H1 v x1 R1 r1
        obtain ⟨a, vs, rfl, s1, rs⟩ := RV.isTup (a := 0) r1
        exact ⟨a, vs, rfl, s1, fun p hp => ok_tup R1 rs.reverse (OkR.ext x1 h) p hp⟩
      | _ => exact .inr ⟨ρ, st, env, R, E, by unfold fRev; rw [hf]; exact h⟩
end
end Fl
namespace K61
open PySem PySem.Spec PyProof.Rows L2 Fl
abbrev d_LONGEST : D := (.int 20)
abbrev d_BASES : D := (.int 2305843009213693951)
abbrev d_GREAT : D := (.int 18446744073709551616)
abbrev d_ITEMS : D := (.int 1000)
abbrev d_NESTED : D := (.int 60)
abbrev d_FIRST : D := (.int 7)
def sub_InvalidNumber (y : Str) : Option Bool := if y = "InvalidNumber" then some true else if y = "InvalidValue" then some false else none
theorem only_InvalidNumber : ∀ y, sub_InvalidNumber y = some true → y = "InvalidNumber" := by
  intro y h
  unfold sub_InvalidNumber at h
  by_cases e : y = "InvalidNumber"
  · rw [if_pos e] at h
    first | exact e | cases h
  rw [if_neg e] at h
  clear e
  by_cases e : y = "InvalidValue"
  · rw [if_pos e] at h
    first | exact e | cases h
  rw [if_neg e] at h
  clear e
  cases h
theorem cases_InvalidNumber {y : Str} {b : Bool} (h : sub_InvalidNumber y = some b) : (y = "InvalidNumber" ∧ b = true) ∨ (y = "InvalidValue" ∧ b = false) := by
  unfold sub_InvalidNumber at h
  by_cases e : y = "InvalidNumber"
  · rw [if_pos e] at h
    exact .inl ⟨e, (Option.some.inj h).symm⟩
  rw [if_neg e] at h
  clear e
  by_cases e : y = "InvalidValue"
  · rw [if_pos e] at h
    exact .inr (⟨e, (Option.some.inj h).symm⟩)
  rw [if_neg e] at h
  clear e
  cases h
def sub_InvalidValue (y : Str) : Option Bool := if y = "InvalidNumber" then some false else if y = "InvalidValue" then some true else none
theorem only_InvalidValue : ∀ y, sub_InvalidValue y = some true → y = "InvalidValue" := by
  intro y h
  unfold sub_InvalidValue at h
  by_cases e : y = "InvalidNumber"
  · rw [if_pos e] at h
    first | exact e | cases h
  rw [if_neg e] at h
  clear e
  by_cases e : y = "InvalidValue"
  · rw [if_pos e] at h
    first | exact e | cases h
  rw [if_neg e] at h
  clear e
  cases h
theorem cases_InvalidValue {y : Str} {b : Bool} (h : sub_InvalidValue y = some b) : (y = "InvalidNumber" ∧ b = false) ∨ (y = "InvalidValue" ∧ b = true) := by
  unfold sub_InvalidValue at h
  by_cases e : y = "InvalidNumber"
  · rw [if_pos e] at h
    exact .inl ⟨e, (Option.some.inj h).symm⟩
  rw [if_neg e] at h
  clear e
  by_cases e : y = "InvalidValue"
  · rw [if_pos e] at h
    exact .inr (⟨e, (Option.some.inj h).symm⟩)
  rw [if_neg e] at h
  clear e
  cases h
noncomputable def g_is_whole : FS := (sRet (fAnd (fIsi .int (fVar 0)) (fAnd (fNot (fIsi .bl (fVar 0))) (fChain oLe oLe (fVar 1) (fVar 0) (fVar 2)))))
noncomputable def F_is_whole : Fn := fnA 3 3 g_is_whole
noncomputable def g_need_base : FS := (sIf (fNot (fCall F_is_whole (fCons (fVar 0) (fCons (fC (.int 2)) (fCons (fC d_BASES) fNil))))) (sRaise "InvalidNumber") sSkip)
noncomputable def F_need_base : Fn := fnA 1 1 g_need_base
noncomputable def g_digest_by : FS := (sSeq (sSet 2 (fBin oMod (fC d_FIRST) (fVar 0))) (sSeq (sFor (fIt (fVar 1)) (.name 3) (sSet 2 (fBin oMod (fBin oAdd (fBin oAdd (fBin oAdd (fBin oMul (fVar 2) (fVar 2)) (fBin oMul (fC (.int 31)) (fVar 2))) (fVar 3)) (fC (.int 1))) (fVar 0)))) (sRet (fVar 2))))
noncomputable def F_digest_by : Fn := Fn.hide (fnA 2 4 g_digest_by)
noncomputable def g_number_bytes : FS := (sSeq (sSet 1 (fNew fNil)) (sSeq (sWhile (fBin oGt (fVar 0) (fC (.int 0))) (sSeq (sExpr (fAppK (fVar 1) (fBin oMod (fVar 0) (fC (.int 256))))) (sSet 0 (fBin oFdiv (fVar 0) (fC (.int 256)))))) (sRet (fRev oRev2 (fVar 1)))))
noncomputable def F_number_bytes : Fn := Fn.hide (fnA 1 2 g_number_bytes)
noncomputable def g_flat_row : FS := (sSeq (sIf (fBin oIsN (fVar 0) (fC .non)) (sRet (fLst (fCons (fC (.int 0)) fNil))) sSkip) (sSeq (sIf (fIsi .bl (fVar 0)) (sRet (fLst (fCons (fIf (fVar 0) (fC (.int 2)) (fC (.int 1))) fNil))) sSkip) (sSeq (sIf (fIsi .int (fVar 0)) (sSeq (sSet 1 (fCall F_number_bytes (fCons (fVar 0) fNil))) (sRet (fBin oAdd (fLst (fCons (fC (.int 3)) (fCons (fCall bLen (fCons (fVar 1) fNil)) fNil))) (fVar 1)))) sSkip) (sRet (fBin oAdd (fLst (fCons (fC (.int 4)) (fCons (fCall bLen (fCons (fVar 0) fNil)) fNil))) (fHide (fComp (fIt (fVar 0)) (.name 2) fYes (fCall bOrd (fCons (fVar 2) fNil)) [2])))))))
noncomputable def F_flat_row : Fn := Fn.hide (fnA 1 3 g_flat_row)
noncomputable def g_row_of : FS := (sSeq (sPar 1 2 (fNew fNil) (fNew (fCons (fVar 0) fNil))) (sSeq (sWhile (fBin oNe (fVar 2) (fLst fNil)) (sSeq (sSet 3 (fPop (fVar 2))) (sIf (fIsi .tup (fVar 3)) (sSeq (sAug 1 (fLst (fCons (fC (.int 5)) (fCons (fBin oFdiv (fCall bLen (fCons (fVar 3) fNil)) (fC (.int 256))) (fCons (fBin oMod (fCall bLen (fCons (fVar 3) fNil)) (fC (.int 256))) fNil))))) (sAug 2 (fRev oRev2 (fVar 3)))) (sAug 1 (fCall F_flat_row (fCons (fVar 3) fNil)))))) (sRet (fVar 1))))
noncomputable def F_row_of : Fn := Fn.hide (fnA 1 4 g_row_of)
noncomputable def g_value_digest : FS := (sRet (fCall F_digest_by (fCons (fVar 0) (fCons (fCall F_row_of (fCons (fVar 1) fNil)) fNil))))
noncomputable def F_value_digest : Fn := Fn.hide (fnA 2 2 g_value_digest)
noncomputable def g_is_flat : FS := (sSeq (sIf (fOr (fBin oIsN (fVar 0) (fC .non)) (fIsi .bl (fVar 0))) (sRet (fC (.bl true))) sSkip) (sRet (fOr (fCall F_is_whole (fCons (fVar 0) (fCons (fC (.int 0)) (fCons (fC d_GREAT) fNil)))) (fAnd (fIsi .str (fVar 0)) (fBin oLe (fCall bLen (fCons (fVar 0) fNil)) (fC d_LONGEST))))))
noncomputable def F_is_flat : Fn := fnA 1 1 g_is_flat
noncomputable def g_is_plain : FS := (sSeq (sSet 1 (fNew (fCons (fTup (fCons (fVar 0) (fCons (fC (.int 0)) fNil))) fNil))) (sSeq (sWhile (fBin oNe (fVar 1) (fLst fNil)) (sSeq (sAsg (.tup [2, 3]) (fPop (fVar 1))) (sIf (fIsi .tup (fVar 2)) (sSeq (sIf (fOr (fBin oGt (fCall bLen (fCons (fVar 2) fNil)) (fC d_ITEMS)) (fBin oEq (fVar 3) (fC d_NESTED))) (sRet (fC (.bl false))) sSkip) (sAug 1 (fHide (fComp (fIt (fVar 2)) (.name 4) fYes (fTup (fCons (fVar 4) (fCons (fBin oAdd (fVar 3) (fC (.int 1))) fNil))) [4])))) (sIf (fNot (fCall F_is_flat (fCons (fVar 2) fNil))) (sRet (fC (.bl false))) sSkip)))) (sRet (fC (.bl true)))))
noncomputable def F_is_plain : Fn := Fn.hide (fnA 1 5 g_is_plain)
noncomputable def g_digest_of : FS := (sSeq (sExpr (fCall F_need_base (fCons (fVar 0) fNil))) (sSeq (sIf (fNot (fCall F_is_plain (fCons (fVar 1) fNil))) (sRaise "InvalidValue") sSkip) (sRet (fCall F_value_digest (fCons (fVar 0) (fCons (fVar 1) fNil))))))
noncomputable def F_digest_of : Fn := Fn.hide (fnA 2 2 g_digest_of)
noncomputable def g__law_no_base : FS := (sSeq (sTry (some 1) sub_InvalidNumber (sExpr (fCall F_digest_of (fCons (fVar 0) (fCons (fLst fNil) fNil)))) (fun a y => (sRet (fEis 1 a true)))) (sRet (fC (.bl false))))
noncomputable def F__law_no_base : Fn := Fn.hide (fnA 1 2 g__law_no_base)
noncomputable def g__law_plain (R : Fn) : FS := (sSeq (sSet 2 (fCall F__law_roll (fCons (fVar 0) (fCons (fIf (fBin oGt (fVar 1) (fC (.int 0))) (fC (.int 8)) (fC (.int 5))) fNil)))) (sSeq (sIf (fBin oEq (fVar 2) (fC (.int 0))) (sRet (fCall F__law_some (fCons (fVar 0) (fCons (fLst (fCons (fC .non) (fCons (fC (.bl true)) (fCons (fC (.bl false)) (fCons (fC (.int 0)) (fCons (fC (.str "")) fNil)))))) fNil)))) sSkip) (sSeq (sIf (fBin oLt (fVar 2) (fC (.int 4))) (sRet (fCall F__law_some (fCons (fVar 0) (fCons (fLst (fCons (fC (.int 1)) (fCons (fC (.int 255)) (fCons (fC (.int 256)) (fCons (fBin oPow (fC (.int 2)) (fC (.int 64))) (fCons (fBin oSub (fBin oPow (fC (.int 2)) (fC (.int 63))) (fC (.int 1))) (fCons (fCall F__law_roll (fCons (fVar 0) (fCons (fC (.int 70000)) fNil))) (fCons (fCall F__law_roll (fCons (fVar 0) (fCons (fBin oPow (fC (.int 10)) (fC (.int 18))) fNil))) fNil)))))))) fNil)))) sSkip) (sSeq (sIf (fBin oEq (fVar 2) (fC (.int 4))) (sRet (fJoin (fC (.str "")) (fHide (fComp (fRng1 (fCall F__law_some (fCons (fVar 0) (fCons (fLst (fCons (fC (.int 1)) (fCons (fC (.int 2)) (fCons (fC (.int 20)) fNil)))) fNil)))) (.name 4) fYes (fCall F__law_some (fCons (fVar 0) (fCons (fCall bList (fCons (fC (.str "abzAZ09 ~!#")) fNil)) fNil))) [4])))) sSkip) (sSeq (sSet 3 (fIf (fAnd (fBin oEq (fVar 2) (fC (.int 7))) (fBin oEq (fCall F__law_roll (fCons (fVar 0) (fCons (fC (.int 9)) fNil))) (fC (.int 0)))) (fC (.int 300)) (fCall F__law_roll (fCons (fVar 0) (fCons (fC (.int 5)) fNil))))) (sRet (fIf (fBin oGt (fVar 3) (fC (.int 4))) (fBin oMul (fTup (fCons (fCall R (fCons (fVar 0) (fCons (fC (.int 0)) fNil))) fNil)) (fVar 3)) (fCall bTuple (fCons (fHide (fComp (fRng1 (fVar 3)) (.name 4) fYes (fCall R (fCons (fVar 0) (fCons (fBin oSub (fVar 1) (fC (.int 1))) fNil))) [4])) fNil)))))))))
noncomputable def F__law_plain : Nat → Fn
  | 0 => Fn.none
  | k + 1 => Fn.hide (fnA 2 5 (g__law_plain (F__law_plain k)))
noncomputable def g_value_row : FS := (sSeq (sIf (fNot (fCall F_is_plain (fCons (fVar 0) fNil))) (sRaise "InvalidValue") sSkip) (sRet (fCall bTuple (fCons (fCall F_row_of (fCons (fVar 0) fNil)) fNil))))
noncomputable def F_value_row : Fn := Fn.hide (fnA 1 1 g_value_row)
noncomputable def g__law_mixed : FS := (sSeq (sSet 2 (fBin oMod (fCall bInt (fCons (fC (.int 7)) fNil)) (fVar 0))) (sSeq (sFor (fIt (fVar 1)) (.name 3) (sSet 2 (fBin oMod (fCall bInt (fCons (fBin oAdd (fBin oAdd (fBin oMul (fVar 2) (fBin oAdd (fVar 2) (fC (.int 31)))) (fVar 3)) (fC (.int 1))) fNil)) (fVar 0)))) (sRet (fVar 2))))
noncomputable def F__law_mixed : Fn := Fn.hide (fnA 2 4 g__law_mixed)
noncomputable def g__law_row (R : Fn) : FS := (sSeq (sIf (fOr (fBin oIsN (fVar 0) (fC .non)) (fIsi .bl (fVar 0))) (sRet (fLst (fCons (fIf (fBin oIsN (fVar 0) (fC .non)) (fC (.int 0)) (fIf (fVar 0) (fC (.int 2)) (fC (.int 1)))) fNil))) sSkip) (sSeq (sIf (fIsi .int (fVar 0)) (sSeq (sSet 1 (fLst fNil)) (sSeq (sFor (fRng1 (fC (.int 9))) (.name 2) (sIf (fBin oGt (fVar 0) (fC (.int 0))) (sPar 1 0 (fBin oAdd (fLst (fCons (fBin oMod (fCall bInt (fCons (fVar 0) fNil)) (fC (.int 256))) fNil)) (fVar 1)) (fBin oFdiv (fVar 0) (fC (.int 256)))) sSkip)) (sRet (fBin oAdd (fLst (fCons (fC (.int 3)) (fCons (fCall bLen (fCons (fVar 1) fNil)) fNil))) (fVar 1))))) sSkip) (sSeq (sIf (fIsi .str (fVar 0)) (sRet (fBin oAdd (fLst (fCons (fC (.int 4)) (fCons (fCall bLen (fCons (fVar 0) fNil)) fNil))) (fHide (fComp (fIt (fVar 0)) (.name 4) fYes (fCall bOrd (fCons (fVar 4) fNil)) [4])))) sSkip) (sSeq (sSet 1 (fLst (fCons (fC (.int 5)) (fCons (fBin oFdiv (fCall bLen (fCons (fVar 0) fNil)) (fC (.int 256))) (fCons (fBin oMod (fCall bInt (fCons (fCall bLen (fCons (fVar 0) fNil)) fNil)) (fC (.int 256))) fNil))))) (sSeq (sFor (fIt (fVar 0)) (.name 3) (sSet 1 (fBin oAdd (fVar 1) (fCall R (fCons (fVar 3) fNil))))) (sRet (fVar 1)))))))
noncomputable def F__law_row : Nat → Fn
  | 0 => Fn.none
  | k + 1 => Fn.hide (fnA 1 5 (g__law_row (F__law_row k)))
noncomputable def g__law_digest : FS := (sRet (fCall F__law_mixed (fCons (fVar 0) (fCons (fCall (F__law_row 70) (fCons (fVar 1) fNil)) fNil))))
noncomputable def F__law_digest : Fn := Fn.hide (fnA 2 2 g__law_digest)
noncomputable def g__law_refused : FS := (sSeq (sTry (some 2) sub_InvalidValue (sIf (fVar 1) (sExpr (fCall F_digest_of (fCons (fC (.int 1009)) (fCons (fVar 0) fNil)))) (sExpr (fCall F_value_row (fCons (fVar 0) fNil)))) (fun a y => (sRet (fAnd (fEis 2 a true) (fEis 2 a true))))) (sRet (fC (.bl false))))
noncomputable def F__law_refused : Fn := Fn.hide (fnA 2 3 g__law_refused)
noncomputable def g_law : FS := (sSeq (sSet 1 (fCall F__law_cup (fCons (fVar 0) fNil))) (sSeq (sPar 2 3 (fCall (F__law_plain 4) (fCons (fVar 1) (fCons (fC (.int 3)) fNil))) (fCall F__law_some (fCons (fVar 1) (fCons (fLst (fCons (fC (.int 2)) (fCons (fC (.int 3)) (fCons (fC (.int 10)) (fCons (fC (.int 1009)) (fCons (fBin oSub (fBin oPow (fC (.int 2)) (fC (.int 61))) (fC (.int 1))) (fCons (fBin oAdd (fC (.int 2)) (fCall F__law_roll (fCons (fVar 1) (fCons (fBin oPow (fC (.int 10)) (fC (.int 12))) fNil)))) fNil))))))) fNil)))) (sSeq (sSet 4 (fCall F__law_some (fCons (fVar 1) (fCons (fLst (fCons (fVar 2) (fCons (fTup (fCons (fVar 2) fNil)) (fCons (fCall (F__law_plain 4) (fCons (fVar 1) (fCons (fC (.int 2)) fNil))) (fCons (fBin oIx (fLst (fCons (fVar 2) fNil)) (fC (.int 0))) fNil))))) fNil)))) (sSeq (sPar 5 6 (fCall F_value_row (fCons (fVar 2) fNil)) (fCall F_value_row (fCons (fVar 4) fNil))) (sSeq (sIf (fOr (fNot (fIsi .tup (fVar 5))) (fOr (fBin oNe (fCall bRepr (fCons (fCall bList (fCons (fVar 5) fNil)) fNil)) (fCall bRepr (fCons (fCall (F__law_row 70) (fCons (fVar 2) fNil)) fNil))) (fBin oNe (fCall bRepr (fCons (fCall bList (fCons (fVar 6) fNil)) fNil)) (fCall bRepr (fCons (fCall (F__law_row 70) (fCons (fVar 4) fNil)) fNil))))) (sRet (fC (.bl false))) sSkip) (sSeq (sIf (fBin oNe (fBin oEq (fVar 5) (fVar 6)) (fBin oEq (fCall bRepr (fCons (fVar 2) fNil)) (fCall bRepr (fCons (fVar 4) fNil)))) (sRet (fC (.bl false))) sSkip) (sSeq (sIf (fBin oNe (fCall bRepr (fCons (fCall F_digest_of (fCons (fVar 3) (fCons (fVar 2) fNil))) fNil)) (fCall bRepr (fCons (fCall F__law_digest (fCons (fVar 3) (fCons (fVar 2) fNil))) fNil))) (sRet (fC (.bl false))) sSkip) (sSeq (sSet 7 (fTup fNil)) (sSeq (sFor (fRng1 (fC (.int 60))) (.name 8) (sSeq (sSet 2 (fVar 7)) (sSet 7 (fTup (fCons (fVar 7) fNil))))) (sSeq (sFor (fIt (fLst (fCons (fVar 2) (fCons (fBin oMul (fTup (fCons (fCall (F__law_plain 4) (fCons (fVar 1) (fCons (fC (.int 0)) fNil))) fNil)) (fIf (fBin oEq (fCall F__law_roll (fCons (fVar 1) (fCons (fC (.int 8)) fNil))) (fC (.int 0))) (fC (.int 1000)) (fC (.int 40)))) fNil)))) (.name 9) (sIf (fOr (fBin oNe (fCall bRepr (fCons (fCall bList (fCons (fCall F_value_row (fCons (fVar 9) fNil)) fNil)) fNil)) (fCall bRepr (fCons (fCall (F__law_row 70) (fCons (fVar 9) fNil)) fNil))) (fBin oNe (fCall bRepr (fCons (fCall F_digest_of (fCons (fVar 3) (fCons (fVar 9) fNil))) fNil)) (fCall bRepr (fCons (fCall F__law_digest (fCons (fVar 3) (fCons (fVar 9) fNil))) fNil)))) (sRet (fC (.bl false))) sSkip)) (sSeq (sSet 10 (fCall F__law_some (fCons (fVar 1) (fCons (fLst (fCons (fNeg (fC (.int 1))) (fCons (fBin oAdd (fBin oPow (fC (.int 2)) (fC (.int 64))) (fC (.int 1))) (fCons (fBin oMul (fC (.str "a")) (fC (.int 21))) (fCons (fLst (fCons (fC (.int 1)) fNil)) (fCons (fTup (fCons (fC (.int 1)) (fCons (fLst (fCons (fC (.int 2)) fNil)) fNil))) (fCons (fBin oMul (fTup (fCons (fC .non) fNil)) (fC (.int 1001))) (fCons (fVar 7) (fCons (fTup (fCons (fTup (fCons (fVar 2) (fCons (fNeg (fC (.int 7))) fNil))) fNil)) fNil))))))))) fNil)))) (sSeq (sIf (fOr (fNot (fCall F__law_refused (fCons (fVar 10) (fCons (fC (.bl true)) fNil)))) (fNot (fCall F__law_refused (fCons (fVar 10) (fCons (fC (.bl false)) fNil))))) (sRet (fC (.bl false))) sSkip) (sRet (fCall F__law_no_base (fCons (fCall F__law_some (fCons (fVar 1) (fCons (fLst (fCons (fC (.int 1)) (fCons (fC (.int 0)) (fCons (fBin oPow (fC (.int 2)) (fC (.int 61))) (fCons (fC (.bl true)) (fCons (fC .non) (fCons (fC (.str "7")) (fCons (fNeg (fC (.int 5))) fNil)))))))) fNil))) fNil)))))))))))))))
noncomputable def F_law : Fn := fnA 1 11 g_law
end K61
namespace K61
open PySem PySem.Spec PyProof.Rows L2 Fl
/-! ### plain values and their rows -/
mutual
def val : D → Bool
  | .tup xs => vals xs
  | .lst xs => vals xs
  | .frz _ => false
  | .loc _ => false
  | .obj _ => false
  | .non => true
  | .bl _ => true
  | .int _ => true
  | .str z => decide (z.length ≤ 1000)
def vals : List D → Bool
  | [] => true
  | x :: xs => val x && vals xs
end
def flatB : D → Bool
  | .non => true
  | .bl _ => true
  | .int i => decide (0 ≤ i) && decide (i ≤ 18446744073709551616)
  | .str z => decide (z.length ≤ 20)
  | _ => false
mutual
def plainB : D → Nat → Bool
  | .tup xs, n => decide (xs.length ≤ 1000) && (decide (n ≠ 0) && plainBs xs (n - 1))
  | .non, _ => true
  | .bl _, _ => true
  | .int i, _ => decide (0 ≤ i) && decide (i ≤ 18446744073709551616)
  | .str z, _ => decide (z.length ≤ 20)
  | .lst _, _ => false
  | .frz _, _ => false
  | .loc _, _ => false
  | .obj _, _ => false
def plainBs : List D → Nat → Bool
  | [], _ => true
  | x :: xs, n => plainB x n && plainBs xs n
end
mutual
def sizeD : D → Nat
  | .tup xs => sizeDs xs + 1
  | .non => 1
  | .bl _ => 1
  | .int _ => 1
  | .str _ => 1
  | .lst _ => 1
  | .frz _ => 1
  | .loc _ => 1
  | .obj _ => 1
def sizeDs : List D → Nat
  | [] => 0
  | x :: xs => sizeD x + sizeDs xs
end
theorem sizeD_pos (d : D) : 1 ≤ sizeD d := by cases d <;> simp [sizeD]
theorem size_len : ∀ xs : List D, xs.length ≤ sizeDs xs
  | [] => Nat.le_refl _
  | x :: xs => by
    have h1 := sizeD_pos x
    have h2 := size_len xs
    rw [sizeDs, List.length_cons]
    omega
theorem whole_int {st : Store} (i lo hi : Int) : F_is_whole [.int i, .int lo, .int hi] st = .ok (.bl (decide (lo ≤ i) && decide (i ≤ hi))) st := by
  unfold F_is_whole fnA fnOf g_is_whole
  by_cases h : lo ≤ i <;> simp [e_ret, e_and, e_not, e_isi, e_var, e_chain, startE, tyOf, Ty.le, oLe, oIC, h]
theorem whole_no {st : Store} {d : D} (lo hi : D) (h : val d = true) (hi' : ∀ i, d ≠ .int i) : F_is_whole [d, lo, hi] st = .ok (.bl false) st := by
  unfold F_is_whole fnA fnOf g_is_whole
  cases d with
  | int i => exact absurd rfl (hi' i)
  | frz _ => cases h
  | loc _ => cases h
  | obj _ => cases h
  | _ => simp [e_ret, e_and, e_not, e_isi, e_var, startE, tyOf, Ty.le]
theorem flat_is {st : Store} {d : D} (h : val d = true) : F_is_flat [d] st = .ok (.bl (flatB d)) st := by
  unfold F_is_flat fnA fnOf g_is_flat
  cases d with
  | int i => simp [e_seq, e_if, e_or, e_and, e_bin, e_call, e_cons, e_nil, e_ret, e_skip, e_c, e_isi, e_var, startE, tyOf, Ty.le, oIsN, isNon, whole_int, flatB]; cases (decide (0 ≤ i) && decide (i ≤ 18446744073709551616)) <;> rfl
  | str z =>
    have w := whole_no (st := st) (d := .str z) (.int 0) d_GREAT h (by intro i e; cases e)
    have hz2 : z.length ≤ 16777216 := by
      have : z.length ≤ 1000 := by simpa [val] using h
      omega
    have hz3 : decide ((z.length : Int) ≤ 20) = decide (z.length ≤ 20) := by
      by_cases hz : z.length ≤ 20
      · rw [decide_eq_true hz, decide_eq_true (by omega)]
      · rw [decide_eq_false hz, decide_eq_false (by omega)]
    simp [e_seq, e_if, e_or, e_and, e_bin, e_call, e_cons, e_nil, e_ret, e_skip, e_c, e_isi, e_var, startE, tyOf, Ty.le, oIsN, isNon, w, flatB, bLen, sizeLine_eq, hz2, oLe, oIC, hz3]
  | frz _ => cases h
  | loc _ => cases h
  | obj _ => cases h
  | tup xs =>
    have w := whole_no (st := st) (d := .tup xs) (.int 0) d_GREAT h (by intro i e; cases e)
    simp [e_seq, e_if, e_or, e_and, e_bin, e_call, e_cons, e_nil, e_ret, e_skip, e_c, e_isi, e_var, startE, tyOf, Ty.le, oIsN, isNon, w, flatB]
  | lst xs =>
    have w := whole_no (st := st) (d := .lst xs) (.int 0) d_GREAT h (by intro i e; cases e)
    simp [e_seq, e_if, e_or, e_and, e_bin, e_call, e_cons, e_nil, e_ret, e_skip, e_c, e_isi, e_var, startE, tyOf, Ty.le, oIsN, isNon, w, flatB]
  | _ => simp [e_seq, e_if, e_or, e_and, e_bin, e_call, e_cons, e_nil, e_ret, e_skip, e_c, e_isi, e_var, startE, tyOf, Ty.le, oIsN, isNon, flatB]
/-! ### rows -/
def leI : Nat → Int → List Int
  | 0, _ => []
  | k + 1, i => if 0 < i then i % 256 :: leI k (i / 256) else []
theorem leI_len : ∀ (k : Nat) (i : Int), (leI k i).length ≤ k
  | 0, _ => Nat.le_refl _
  | k + 1, i => by
    rw [leI]
    split
    · have := leI_len k (i / 256)
      rw [List.length_cons]; omega
    · exact Nat.zero_le _
theorem drop_256 {k : Nat} {i : Int} (h : i < 256 ^ (k + 1)) : i / 256 < 256 ^ k := by
  rw [Int.pow_succ] at h
  exact Int.ediv_lt_of_lt_mul (by decide) h
abbrev nbC : FE := fBin oGt (fVar 0) (fC (.int 0))
abbrev nbB : FS := sSeq (sExpr (fAppK (fVar 1) (fBin oMod (fVar 0) (fC (.int 256))))) (sSet 0 (fBin oFdiv (fVar 0) (fC (.int 256))))
theorem nb_loop {st : Store} : ∀ (k : Nat) (i : Int) (acc : List D), i < 256 ^ k → acc.length + k ≤ 1000 →
    ∃ i', whL nbC nbB (k + 1) [some (.int i), some (.loc st.length)] (st ++ [.lst acc]) = .nx [some (.int i'), some (.loc st.length)] (st ++ [.lst (acc ++ (leI k i).map D.int)]) := by
  intro k
  induction k with
  | zero =>
    intro i acc h _
    have : ¬ 0 < i := by simp at h; omega
    exact ⟨i, by simp [whL, nbC, e_bin, e_var, e_c, oGt, oIC, this, leI]⟩
  | succ k ih =>
    intro i acc h hz
    by_cases h0 : 0 < i
    · have d2 : CDivW i 256 := cdivW (by decide) (by decide)
      have e1 : (st ++ [SO.lst acc])[st.length]? = some (.lst acc) := by rw [List.getElem?_append_right (Nat.le_refl _), Nat.sub_self]; rfl
      have e2 : ∀ x, (st ++ [SO.lst acc]).set st.length x = st ++ [x] := fun x => by rw [List.set_append_right _ _ (Nat.le_refl _), Nat.sub_self]; rfl
      have z1 : acc.length < 16777216 := by omega
      obtain ⟨i', hi⟩ := ih (i / 256) (acc ++ [.int (i % 256)]) (drop_256 h) (by rw [List.length_append, List.length_singleton]; omega)
      refine ⟨i', ?_⟩
      rw [whL]
      have hb : nbB [some (.int i), some (.loc st.length)] (st ++ [SO.lst acc]) = .nx [some (.int (i / 256)), some (.loc st.length)] (st ++ [.lst (acc ++ [.int (i % 256)])]) := by
        simp [nbB, e_seq, e_expr, fAppK, e_bin, e_var, e_c, oMod, oFdiv, d2, e1, e2, e_set, sizeLine_eq, z1]
      have hc : nbC [some (.int i), some (.loc st.length)] (st ++ [SO.lst acc]) = .ok (.bl true) (st ++ [SO.lst acc]) := by simp [nbC, e_bin, e_var, e_c, oGt, oIC, h0]
      rw [hc]
      simp only [hb]
      rw [hi, leI, if_pos h0]
      simp
    · refine ⟨i, ?_⟩
      simp [whL, nbC, e_bin, e_var, e_c, oGt, oIC, h0, leI]
/-- big-endian digits to the base 256 -/
def beI (i : Int) : List Int := (leI 9 i).reverse
theorem bytes_is {st : Store} {i : Int} (h : i < 256 ^ 9) : F_number_bytes [.int i] st = .ok (.lst ((beI i).map D.int)) st := by
  obtain ⟨i', hi⟩ := nb_loop (st := st) 9 i [] h (by decide)
  have hw := sWhile_of hi (by simp)
  unfold F_number_bytes Fn.hide fnA fnOf g_number_bytes
  rw [List.nil_append] at hw
  have hw' : sWhile nbC nbB [some (.int i), some (.loc st.length)] (st ++ [SO.lst []]) = .nx [some (.int i'), some (.loc st.length)] (st ++ [.lst ((leI 9 i).map D.int)]) := hw
  simp [e_seq, e_set, e_new, e_nil, e_ret, e_rev, e_var, startE, hw', oRev2, oRev, lstOf, new_at]
  rw [← List.map_reverse, hide_val (by intro l e; cases e) (by rw [locsLt]; exact lts_ints _)]
  rfl
/-- the row of a value -/
def ords (z : Str) : List Int := z.cps.toList.map fun c : Nat => ((c : Nat) : Int)
mutual
def rowD : D → List Int
  | .bl b => [if b then 2 else 1]
  | .int i => 3 :: ((beI i).length : Int) :: beI i
  | .str z => 4 :: (z.length : Int) :: ords z
  | .tup xs => 5 :: (xs.length : Int) / 256 :: (xs.length : Int) % 256 :: rowDs xs
  | .non => [0]
  | .lst _ => []
  | .frz _ => []
  | .loc _ => []
  | .obj _ => []
def rowDs : List D → List Int
  | [] => []
  | x :: xs => rowD x ++ rowDs xs
end
theorem be_len (i : Int) : (beI i).length ≤ 9 := by rw [beI, List.length_reverse]; exact leI_len 9 i
theorem signs_ord (z : Str) (env : Fl.Env) (i : Nat) (st : Store) (hz : z.length ≤ 1000) (he : env[i]? = some (some (.str z))) (j : Nat) (hj : j < env.length) :
    fHide (fComp (fIt (fVar i)) (.name j) fYes (fCall bOrd (fCons (fVar j) fNil)) [j]) env st = .ok (.lst ((ords z).map D.int)) st := by
  have hl : z.cps.toList.length ≤ 1000 := hz
  have h := fComp_map (fi := fIt (fVar i)) (t := .name j) (fe := fCall bOrd (fCons (fVar j) fNil)) (vs := [j]) (env := env) (st := st) (I := ⟨z.cps.toList.map fun c => .str ⟨#[c]⟩, []⟩)
    (fun d => match d with | .str y => .int (y.cps.getD 0 0 : Nat) | _ => .non) (by simp [e_it, e_var, he, itOf]) rfl (by rw [List.length_map]; omega) (fun d hd => ?_) (fun d hd => ?_)
  · rw [h]
    congr 1
    show D.lst (((z.cps.toList.map fun c => D.str ⟨#[c]⟩)).map _) = _
    rw [ords, List.map_map, List.map_map]
    rfl
  · obtain ⟨c, _, rfl⟩ := List.mem_map.mp hd
    refine ⟨_, rfl, fun s _ => ?_⟩
    have e : ((wipeE env [j]).set j (some (D.str ⟨#[c]⟩)))[j]? = some (some (.str ⟨#[c]⟩)) := List.getElem?_set_self (by simp [wipeE, hj])
    have e1 : Str.length ⟨#[c]⟩ = 1 := rfl
    simp [e_call, e_cons, e_nil, e_var, e, bOrd, e1]
  · obtain ⟨c, _, rfl⟩ := List.mem_map.mp hd
    rfl
theorem flatrow_is {st : Store} {d : D} (h : val d = true) (hf : flatB d = true) : F_flat_row [d] st = .ok (.lst ((rowD d).map D.int)) st := by
  unfold F_flat_row Fn.hide fnA fnOf g_flat_row
  cases d with
  | frz _ => cases h
  | loc _ => cases h
  | obj _ => cases h
  | tup _ => cases hf
  | lst _ => cases hf
  | non =>
    simp [e_seq, e_if, e_bin, e_var, e_c, startE, oIsN, isNon, e_ret, e_lst, e_cons, e_nil, sizeLine_eq]
    exact hide_same rfl
  | bl b =>
    cases b <;> (simp [e_seq, e_if, e_bin, e_var, e_c, startE, oIsN, isNon, e_ret, e_lst, e_cons, e_nil, e_skip, e_isi, tyOf, Ty.le, e_fif, sizeLine_eq]; exact hide_same rfl)
  | int i =>
    have hi : i < 256 ^ 9 := by simp [flatB] at hf; omega
    have hb := bytes_is (st := st) hi
    have hl := be_len i
    have z1 : (beI i).length ≤ 16777216 := by omega
    have z2 : (beI i).length + 1 + 1 ≤ 16777216 := by omega
    have z3 : 2 + (beI i).length ≤ 16777216 := by omega
    simp [e_seq, e_if, e_bin, e_var, e_c, startE, oIsN, isNon, e_ret, e_lst, e_cons, e_nil, e_skip, e_isi, tyOf, Ty.le, e_set, e_call, hb, bLen, itmOf, seqOf, lstOf, oAdd, sizeLine_eq, z1, z2, z3]
    rw [hide_same (by simp [locsLt, locsLts, lts_ints])]
    simp [rowD]
  | str z =>
    have hz : z.length ≤ 1000 := by simpa [val] using h
    have ho := signs_ord z [some (.str z), none, none] 0 st hz rfl 2 (by simp)
    have hl : (ords z).length ≤ 1000 := by rw [ords, List.length_map]; exact hz
    have z1 : z.length ≤ 16777216 := by omega
    have z3 : 2 + (ords z).length ≤ 16777216 := by omega
    simp [e_seq, e_if, e_bin, e_var, e_c, startE, oIsN, isNon, e_ret, e_lst, e_cons, e_nil, e_skip, e_isi, tyOf, Ty.le, e_call, ho, bLen, lstOf, oAdd, sizeLine_eq, z1, z3]
    rw [hide_same (by simp [locsLt, locsLts, lts_ints])]
    simp [rowD]
/-! ### is_plain -/
noncomputable abbrev ipC : FE := fBin oNe (fVar 1) (fLst fNil)
noncomputable abbrev ipB : FS := sSeq (sAsg (.tup [2, 3]) (fPop (fVar 1))) (sIf (fIsi .tup (fVar 2)) (sSeq (sIf (fOr (fBin oGt (fCall bLen (fCons (fVar 2) fNil)) (fC d_ITEMS)) (fBin oEq (fVar 3) (fC d_NESTED))) (sRet (fC (.bl false))) sSkip) (sAug 1 (fHide (fComp (fIt (fVar 2)) (.name 4) fYes (fTup (fCons (fVar 4) (fCons (fBin oAdd (fVar 3) (fC (.int 1))) fNil))) [4])))) (sIf (fNot (fCall F_is_flat (fCons (fVar 2) fNil))) (sRet (fC (.bl false))) sSkip))
def pack (p : D × Nat) : D := .tup [p.1, .int (p.2 : Nat)]
def lineSz : List (D × Nat) → Nat
  | [] => 0
  | p :: L => sizeD p.1 + lineSz L
theorem lineSz_app : ∀ L M : List (D × Nat), lineSz (L ++ M) = lineSz L + lineSz M
  | [], M => by simp [lineSz]
  | p :: L, M => by rw [List.cons_append, lineSz, lineSz, lineSz_app L M]; omega
theorem lineSz_len : ∀ L : List (D × Nat), L.length ≤ lineSz L
  | [] => Nat.le_refl _
  | p :: L => by
    have := sizeD_pos p.1
    have := lineSz_len L
    rw [lineSz, List.length_cons]; omega
theorem lineSz_map (k : Nat) : ∀ xs : List D, lineSz (xs.map fun x => (x, k)) = sizeDs xs
  | [] => rfl
  | x :: xs => by rw [List.map_cons, lineSz, sizeDs, lineSz_map k xs]
theorem plainBs_all (n : Nat) : ∀ xs : List D, plainBs xs n = xs.all fun x => plainB x n
  | [] => rfl
  | x :: xs => by rw [plainBs, List.all_cons, plainBs_all n xs]
theorem vals_all : ∀ xs : List D, vals xs = xs.all val
  | [] => rfl
  | x :: xs => by rw [vals, List.all_cons, vals_all xs]
mutual
theorem val_lt {n : Nat} : ∀ {d : D}, val d = true → locsLt n d = true
  | .tup xs, h => by rw [val] at h; rw [locsLt]; exact vals_lt h
  | .lst xs, h => by rw [val] at h; rw [locsLt]; exact vals_lt h
  | .frz _, h => by cases h
  | .loc _, h => by cases h
  | .obj _, h => by cases h
  | .non, _ => rfl
  | .bl _, _ => rfl
  | .int _, _ => rfl
  | .str _, _ => rfl
theorem vals_lt {n : Nat} : ∀ {d : List D}, vals d = true → locsLts n d = true
  | [], _ => rfl
  | x :: xs, h => by
    rw [vals, Bool.and_eq_true] at h
    rw [locsLts, val_lt h.1, vals_lt h.2]
    rfl
end
theorem plainB_flat {d : D} {n : Nat} (h : ∀ xs, d ≠ .tup xs) : plainB d n = flatB d := by
  cases d with
  | tup xs => exact absurd rfl (h xs)
  | _ => rfl
theorem ipC_is {st : Store} {xs : List D} {v x2 x3 x4 : Option D} : ipC [v, some (.loc st.length), x2, x3, x4] (st ++ [.lst xs]) = .ok (.bl (!xs.isEmpty)) (st ++ [.lst xs]) := by
  cases xs with
  | nil => simp [ipC, e_bin, e_var, e_lst, e_nil, sizeLine_eq, oNe, res, new_at, canEq, cmpD, cmpDs, depD, depDs, eqD, eqDs]
  | cons x xs => simp [ipC, e_bin, e_var, e_lst, e_nil, sizeLine_eq, oNe, res, new_at, canEq, cmpD, cmpDs, depD, depDs, eqD, eqDs, Nat.min_le_right]
theorem pop_is {st : Store} {L : List (D × Nat)} {p : D × Nat} {v x2 x3 x4 : Option D} : sAsg (.tup [2, 3]) (fPop (fVar 1)) [v, some (.loc st.length), x2, x3, x4] (st ++ [.lst ((L ++ [p]).map pack)]) =
    .nx [v, some (.loc st.length), some p.1, some (.int (p.2 : Nat)), x4] (st ++ [.lst (L.map pack)]) := by
  have e1 : ((L ++ [p]).map pack).getLast? = some (pack p) := by simp
  have e2 : ((L ++ [p]).map pack).dropLast = L.map pack := by rw [List.map_append]; simp
  simp [e_asg, fPop, e_var, new_at, -List.map_append, e1, e2, new_set, bindT, pack, setAll]
theorem grow_is {st : Store} {L : List (D × Nat)} {xs : List D} {k : Nat} {v x4 : Option D} (hx : xs.length ≤ 1000) (hz : L.length + xs.length ≤ 16777216) (hv : vals xs = true) :
    ∃ x4', sAug 1 (fHide (fComp (fIt (fVar 2)) (.name 4) fYes (fTup (fCons (fVar 4) (fCons (fBin oAdd (fVar 3) (fC (.int 1))) fNil))) [4])) [v, some (.loc st.length), some (.tup xs), some (.int (k : Nat)), x4] (st ++ [.lst (L.map pack)]) =
    .nx [v, some (.loc st.length), some (.tup xs), some (.int (k : Nat)), x4'] (st ++ [.lst ((L ++ xs.map fun x => (x, k + 1)).map pack)]) := by
  have h := fComp_map (fi := fIt (fVar 2)) (t := .name 4) (fe := fTup (fCons (fVar 4) (fCons (fBin oAdd (fVar 3) (fC (.int 1))) fNil))) (vs := [4]) (env := [v, some (.loc st.length), some (.tup xs), some (.int (k : Nat)), x4]) (st := st ++ [SO.lst (L.map pack)]) (I := ⟨xs, []⟩)
    (fun d => pack (d, k + 1)) (by simp [e_it, e_var, itOf]) rfl (by show xs.length ≤ _; omega) (fun d hd => ?_) (fun d hd => ?_)
  · refine ⟨x4, ?_⟩
    unfold sAug
    simp only [List.getElem?_cons_succ, List.getElem?_cons_zero, h, new_at, seqOf]
    have e : (xs.map fun d => pack (d, k + 1)) = (xs.map fun x => (x, k + 1)).map pack := by rw [List.map_map]; rfl
    have e2 : lstOf (st ++ [SO.lst (L.map pack)]) (.lst (xs.map fun d => pack (d, k + 1))) = some (xs.map fun d => pack (d, k + 1)) := rfl
    simp only [e2]
    rw [if_pos (by rw [List.length_map, List.length_map, sizeLine_eq]; exact hz), new_set, List.map_append, e]
  · refine ⟨_, rfl, fun s _ => ?_⟩
    simp [e_tup, e_cons, e_nil, e_var, e_bin, e_c, wipeE, oAdd, sizeLine_eq, pack]
  · have : val d = true := by
      rw [vals_all] at hv
      exact List.all_eq_true.mp hv d hd
    simp [pack, locsLt, locsLts, val_lt this]
theorem ip_loop {st : Store} {v : Option D} : ∀ (m : Nat) (L : List (D × Nat)) (x2 x3 x4 : Option D), lineSz L ≤ m → lineSz L ≤ 16777216 → (∀ p ∈ L, val p.1 = true ∧ p.2 ≤ 60) →
    ∃ r, whL ipC ipB (m + 1) [v, some (.loc st.length), x2, x3, x4] (st ++ [.lst (L.map pack)]) = r ∧
      if (L.all fun p => plainB p.1 (60 - p.2)) = true then ∃ e, r = .nx e (st ++ [.lst []]) else ∃ tl, r = .rt (.bl false) (st ++ tl) := by
  intro m
  induction m with
  | zero =>
    intro L x2 x3 x4 h _ _
    have hL : L = [] := by
      cases L with
      | nil => rfl
      | cons p L =>
        have := sizeD_pos p.1
        rw [lineSz] at h; omega
    subst hL
    refine ⟨_, rfl, ?_⟩
    exact (if_pos (c := ([] : List (D × Nat)).all (fun p => plainB p.1 (60 - p.2)) = true) rfl).mpr ⟨_, by rw [whL, ipC_is]; rfl⟩
  | succ m ih =>
    intro L x2 x3 x4 h hz hv
    rcases List.eq_nil_or_concat L with rfl | ⟨L', p, rfl⟩
    · refine ⟨_, rfl, ?_⟩
      exact (if_pos (c := ([] : List (D × Nat)).all (fun p => plainB p.1 (60 - p.2)) = true) rfl).mpr ⟨_, by rw [whL, ipC_is]; rfl⟩
    · rw [List.concat_eq_append] at h hz hv ⊢
      obtain ⟨d, k⟩ := p
      have hvd := (hv (d, k) (by simp)).1
      have hk : k ≤ 60 := (hv (d, k) (by simp)).2
      have hvL : ∀ q ∈ L', val q.1 = true ∧ q.2 ≤ 60 := fun q hq => hv q (List.mem_append_left _ hq)
      rw [lineSz_app, lineSz, lineSz, Nat.add_zero] at h hz
      have hl := lineSz_len L'
      have nonempty : ((L' ++ [(d, k)]).map pack).isEmpty = false := by simp
      rw [whL, ipC_is, nonempty]
      simp only [Bool.not_false]
      have hall : ((L' ++ [(d, k)]).all fun p => plainB p.1 (60 - p.2)) = ((L'.all fun p => plainB p.1 (60 - p.2)) && plainB d (60 - k)) := by simp
      rw [hall]
      by_cases ht : ∃ xs, d = .tup xs
      · obtain ⟨xs, rfl⟩ := ht
        have hvx : vals xs = true := by rw [val] at hvd; exact hvd
        have sx := size_len xs
        rw [sizeD] at h hz
        have zx : xs.length ≤ 16777216 := by omega
        by_cases h1 : xs.length ≤ 1000
        · by_cases h2 : k = 60
          · subst h2
            have hb : ipB [v, some (.loc st.length), x2, x3, x4] (st ++ [.lst ((L' ++ [(D.tup xs, 60)]).map pack)]) = .rt (.bl false) (st ++ [.lst (L'.map pack)]) := by
              unfold ipB
              rw [e_seq, pop_is]
              have g1 : ¬ (1000 < (xs.length : Int)) := by omega
              simp [e_if, e_isi, e_var, tyOf, Ty.le, e_seq, e_or, e_bin, e_call, e_cons, e_nil, e_c, bLen, itmOf, seqOf, oGt, oIC, g1, oEq, res, canEq, cmpD, depD, eqD, e_ret]
            simp only [hb]
            refine ⟨_, rfl, ?_⟩
            have : plainB (.tup xs) (60 - 60) = false := by simp [plainB]
            rw [this, Bool.and_false, if_neg Bool.false_ne_true]
            exact ⟨_, rfl⟩
          · obtain ⟨x4', hg⟩ := grow_is (st := st) (L := L') (k := k) (v := v) (x4 := x4) h1 (by omega) hvx
            have hb : ipB [v, some (.loc st.length), x2, x3, x4] (st ++ [.lst ((L' ++ [(D.tup xs, k)]).map pack)]) = .nx [v, some (.loc st.length), some (.tup xs), some (.int (k : Nat)), x4'] (st ++ [.lst ((L' ++ xs.map fun x => (x, k + 1)).map pack)]) := by
              unfold ipB
              rw [e_seq, pop_is]
              have g1 : ¬ (1000 < (xs.length : Int)) := by omega
              have g2 : ((k : Int) == 60) = false := beq_eq_false_iff_ne.mpr (by omega)
              simp [e_if, e_isi, e_var, tyOf, Ty.le, e_seq, e_or, e_bin, e_call, e_cons, e_nil, e_c, bLen, itmOf, seqOf, oGt, oIC, g1, oEq, res, canEq, cmpD, depD, eqD, g2, e_skip, -List.map_append]
              exact hg
            simp only [hb]
            obtain ⟨r, hr, hi⟩ := ih (L' ++ xs.map fun x => (x, k + 1)) (some (.tup xs)) (some (.int (k : Nat))) x4' (by rw [lineSz_app, lineSz_map]; omega) (by rw [lineSz_app, lineSz_map]; omega) (by
              intro q hq
              rcases List.mem_append.mp hq with hq | hq
              · exact hvL q hq
              · obtain ⟨x, hx, rfl⟩ := List.mem_map.mp hq
                rw [vals_all] at hvx
                exact ⟨List.all_eq_true.mp hvx x hx, by show k + 1 ≤ 60; omega⟩)
            refine ⟨r, hr, ?_⟩
            have hp : plainB (.tup xs) (60 - k) = xs.all fun x => plainB x (60 - (k + 1)) := by
              rw [plainB, plainBs_all, decide_eq_true h1, decide_eq_true (by omega : 60 - k ≠ 0)]
              rfl
            have ha : ((L' ++ xs.map fun x => (x, k + 1)).all fun p => plainB p.1 (60 - p.2)) = ((L'.all fun p => plainB p.1 (60 - p.2)) && plainB (.tup xs) (60 - k)) := by
              rw [hp, List.all_append, List.all_map]
              rfl
            rw [ha] at hi
            exact hi
        · have hb : ipB [v, some (.loc st.length), x2, x3, x4] (st ++ [.lst ((L' ++ [(D.tup xs, k)]).map pack)]) = .rt (.bl false) (st ++ [.lst (L'.map pack)]) := by
            unfold ipB
            rw [e_seq, pop_is]
            have g1 : (1000 < (xs.length : Int)) := by omega
            simp [e_if, e_isi, e_var, tyOf, Ty.le, e_seq, e_or, e_bin, e_call, e_cons, e_nil, e_c, bLen, itmOf, seqOf, oGt, oIC, g1, e_ret]
          simp only [hb]
          refine ⟨_, rfl, ?_⟩
          have : plainB (.tup xs) (60 - k) = false := by simp [plainB, h1]
          rw [this, Bool.and_false, if_neg Bool.false_ne_true]
          exact ⟨_, rfl⟩
      · have hnt : ∀ xs, d ≠ .tup xs := fun xs e => ht ⟨xs, e⟩
        have hty : fIsi .tup (fVar 2) [v, some (.loc st.length), some d, some (.int (k : Nat)), x4] (st ++ [.lst (L'.map pack)]) = .ok (.bl false) (st ++ [.lst (L'.map pack)]) := by
          cases d with
          | tup xs => exact absurd rfl (hnt xs)
          | frz _ => cases hvd
          | loc _ => cases hvd
          | obj _ => cases hvd
          | _ => simp [e_isi, e_var, tyOf, Ty.le]
        rw [plainB_flat hnt]
        cases hf : flatB d with
        | true =>
          have hb : ipB [v, some (.loc st.length), x2, x3, x4] (st ++ [.lst ((L' ++ [(d, k)]).map pack)]) = .nx [v, some (.loc st.length), some d, some (.int (k : Nat)), x4] (st ++ [.lst (L'.map pack)]) := by
            unfold ipB
            rw [e_seq, pop_is]
            simp only [e_if, hty]
            simp [e_not, e_call, e_cons, e_nil, e_var, flat_is hvd, hf, e_skip]
          simp only [hb]
          obtain ⟨r, hr, hi⟩ := ih L' (some d) (some (.int (k : Nat))) x4 (by have := sizeD_pos d; have h : lineSz L' + sizeD d ≤ m + 1 := h; omega) (by omega) hvL
          rw [Bool.and_true]
          exact ⟨r, hr, hi⟩
        | false =>
          have hb : ipB [v, some (.loc st.length), x2, x3, x4] (st ++ [.lst ((L' ++ [(d, k)]).map pack)]) = .rt (.bl false) (st ++ [.lst (L'.map pack)]) := by
            unfold ipB
            rw [e_seq, pop_is]
            simp only [e_if, hty]
            simp [e_not, e_call, e_cons, e_nil, e_var, flat_is hvd, hf, e_ret, e_c]
          simp only [hb]
          refine ⟨_, rfl, ?_⟩
          rw [Bool.and_false, if_neg Bool.false_ne_true]
          exact ⟨_, rfl⟩
theorem isplain_is {st : Store} {d : D} (h : val d = true) (hz : sizeD d ≤ 16777216) : F_is_plain [d] st = .ok (.bl (plainB d 60)) st := by
  obtain ⟨r, hr, hi⟩ := ip_loop (st := st) (v := some d) (sizeD d) [(d, 0)] none none none (by simp [lineSz]) (by simpa [lineSz] using hz) (by intro p hp; cases List.mem_singleton.mp hp; exact ⟨h, Nat.zero_le _⟩)
  have ha : ([((d, 0) : D × Nat)].all fun p => plainB p.1 (60 - p.2)) = plainB d 60 := by simp
  rw [ha] at hi
  unfold F_is_plain Fn.hide fnA fnOf g_is_plain
  have hp : [(D.tup [d, .int 0])] = [((d, 0) : D × Nat)].map pack := rfl
  cases hb : plainB d 60 with
  | true =>
    rw [hb, if_pos rfl] at hi
    obtain ⟨e, rfl⟩ := hi
    have hw := sWhile_of hr (by simp)
    have hw' : sWhile ipC ipB [some d, some (.loc st.length), none, none, none] (st ++ [.lst [D.tup [d, .int 0]]]) = .nx e (st ++ [.lst []]) := hw
    simp [e_seq, e_set, e_new, e_cons, e_nil, e_tup, e_var, e_c, startE, sizeLine_eq, hw', e_ret]
    exact hide_val (by intro l e; cases e) rfl
  | false =>
    rw [hb, if_neg Bool.false_ne_true] at hi
    obtain ⟨tl, rfl⟩ := hi
    have hw := sWhile_of hr (by simp)
    have hw' : sWhile ipC ipB [some d, some (.loc st.length), none, none, none] (st ++ [.lst [D.tup [d, .int 0]]]) = .rt (.bl false) (st ++ tl) := hw
    simp [e_seq, e_set, e_new, e_cons, e_nil, e_tup, e_var, e_c, startE, sizeLine_eq, hw', e_ret]
    exact hide_val (by intro l e; cases e) rfl
end K61
namespace K61
open PySem PySem.Spec PyProof.Rows L2 Fl
/-! ### row_of -/
/-! flat or tuples of these -/
mutual
def rowOk : D → Bool
  | .tup xs => rowOks xs
  | .int i => decide (i ≤ 18446744073709551616) && decide (0 ≤ i)
  | .str z => decide (z.length ≤ 20)
  | .non => true
  | .bl _ => true
  | .lst _ => false
  | .frz _ => false
  | .loc _ => false
  | .obj _ => false
def rowOks : List D → Bool
  | [] => true
  | x :: xs => rowOk x && rowOks xs
end
theorem rowOks_all : ∀ xs : List D, rowOks xs = xs.all rowOk
  | [] => rfl
  | x :: xs => by rw [rowOks, List.all_cons, rowOks_all xs]
mutual
theorem plain_row : ∀ {d : D} {n : Nat}, plainB d n = true → rowOk d = true
  | .tup xs, n, h => by
    rw [plainB, Bool.and_eq_true, Bool.and_eq_true] at h
    rw [rowOk]
    exact plains_row h.2.2
  | .non, _, _ => rfl
  | .bl _, _, _ => rfl
  | .int i, _, h => by rw [plainB, Bool.and_eq_true] at h; rw [rowOk, h.1, h.2]; rfl
  | .str z, _, h => h
  | .lst _, _, h => by cases h
  | .frz _, _, h => by cases h
  | .loc _, _, h => by cases h
  | .obj _, _, h => by cases h
theorem plains_row : ∀ {d : List D} {n : Nat}, plainBs d n = true → rowOks d = true
  | [], _, _ => rfl
  | x :: xs, n, h => by
    rw [plainBs, Bool.and_eq_true] at h
    rw [rowOks, plain_row h.1, plains_row h.2]
    rfl
end
mutual
theorem row_val : ∀ {d : D}, rowOk d = true → val d = true
  | .tup xs, h => by rw [rowOk] at h; rw [val]; exact rows_val h
  | .non, _ => rfl
  | .bl _, _ => rfl
  | .int i, h => rfl
  | .str z, h => by
    have : z.length ≤ 20 := by simpa [rowOk] using h
    simp [val]; omega
  | .lst _, h => by cases h
  | .frz _, h => by cases h
  | .loc _, h => by cases h
  | .obj _, h => by cases h
theorem rows_val : ∀ {d : List D}, rowOks d = true → vals d = true
  | [], _ => rfl
  | x :: xs, h => by
    rw [rowOks, Bool.and_eq_true] at h
    rw [vals, row_val h.1, rows_val h.2]
    rfl
end
theorem row_flat {d : D} (h : rowOk d = true) (hn : ∀ xs, d ≠ .tup xs) : flatB d = true := by
  cases d with
  | tup xs => exact absurd rfl (hn xs)
  | int i => rw [rowOk, Bool.and_eq_true] at h; rw [flatB, h.1, h.2]; rfl
  | str z => exact h
  | non => rfl
  | bl _ => rfl
  | _ => cases h
mutual
theorem row_len : ∀ {d : D}, rowOk d = true → (rowD d).length ≤ 22 * sizeD d
  | .tup xs, h => by
    rw [rowOk] at h
    have := rows_len h
    rw [rowD, sizeD]
    simp only [List.length_cons]
    omega
  | .non, _ => by decide
  | .bl _, _ => by simp [rowD, sizeD]
  | .int i, _ => by
    have := be_len i
    rw [rowD, sizeD]; simp only [List.length_cons]; omega
  | .str z, h => by
    have h1 : z.length ≤ 20 := by simpa [rowOk] using h
    have : (ords z).length ≤ 20 := by rw [ords, List.length_map]; exact h1
    rw [rowD, sizeD]; simp only [List.length_cons]; omega
  | .lst _, h => by cases h
  | .frz _, h => by cases h
  | .loc _, h => by cases h
  | .obj _, h => by cases h
theorem rows_len : ∀ {d : List D}, rowOks d = true → (rowDs d).length ≤ 22 * sizeDs d
  | [], _ => by decide
  | x :: xs, h => by
    rw [rowOks, Bool.and_eq_true] at h
    have h1 := row_len h.1
    have h2 := rows_len h.2
    rw [rowDs, sizeDs, List.length_append]
    omega
end
theorem sizeDs_app : ∀ A B : List D, sizeDs (A ++ B) = sizeDs A + sizeDs B
  | [], B => by simp [sizeDs]
  | a :: A, B => by rw [List.cons_append, sizeDs, sizeDs, sizeDs_app A B]; omega
theorem sizeDs_rev : ∀ A : List D, sizeDs A.reverse = sizeDs A
  | [] => rfl
  | a :: A => by rw [List.reverse_cons, sizeDs_app, sizeDs, sizeDs, sizeDs, sizeDs_rev A]; omega
theorem rowDs_app : ∀ A B : List D, rowDs (A ++ B) = rowDs A ++ rowDs B
  | [], B => by simp [rowDs]
  | a :: A, B => by rw [List.cons_append, rowDs, rowDs, rowDs_app A B, List.append_assoc]
noncomputable abbrev roB : FS := sSeq (sSet 3 (fPop (fVar 2))) (sIf (fIsi .tup (fVar 3)) (sSeq (sAug 1 (fLst (fCons (fC (.int 5)) (fCons (fBin oFdiv (fCall bLen (fCons (fVar 3) fNil)) (fC (.int 256))) (fCons (fBin oMod (fCall bLen (fCons (fVar 3) fNil)) (fC (.int 256))) fNil))))) (sAug 2 (fRev oRev2 (fVar 3)))) (sAug 1 (fCall F_flat_row (fCons (fVar 3) fNil))))
noncomputable abbrev roC : FE := fBin oNe (fVar 2) (fLst fNil)
/-- the two lists behind st -/
abbrev two (st : Store) (r : List Int) (L : List D) : Store := st ++ [.lst (r.map D.int), .lst L]
theorem two_0 {st : Store} {r : List Int} {L : List D} : (two st r L)[st.length]? = some (.lst (r.map D.int)) := by
  rw [two, List.getElem?_append_right (Nat.le_refl _), Nat.sub_self]; rfl
theorem two_1 {st : Store} {r : List Int} {L : List D} : (two st r L)[st.length + 1]? = some (.lst L) := by
  rw [two, List.getElem?_append_right (by omega)]
  have : st.length + 1 - st.length = 1 := by omega
  rw [this]; rfl
theorem two_set0 {st : Store} {r r' : List Int} {L : List D} : (two st r L).set st.length (.lst (r'.map D.int)) = two st r' L := by
  rw [two, List.set_append_right _ _ (Nat.le_refl _), Nat.sub_self]; rfl
theorem two_set1 {st : Store} {r : List Int} {L L' : List D} : (two st r L).set (st.length + 1) (.lst L') = two st r L' := by
  rw [two, List.set_append_right _ _ (by omega)]
  have : st.length + 1 - st.length = 1 := by omega
  rw [this]; rfl
theorem ro_loop {st : Store} {v : Option D} : ∀ (m : Nat) (L : List D) (r : List Int) (x3 : Option D), sizeDs L ≤ m → r.length + 22 * sizeDs L ≤ 16777216 → rowOks L = true →
    ∃ e, whL roC roB (m + 1) [v, some (.loc st.length), some (.loc (st.length + 1)), x3] (two st r L) = .nx [v, some (.loc st.length), some (.loc (st.length + 1)), e] (two st (r ++ rowDs L.reverse) []) := by
  intro m
  have cEmpty : ∀ (r : List Int) (x3 : Option D), roC [v, some (.loc st.length), some (.loc (st.length + 1)), x3] (two st r []) = .ok (.bl false) (two st r []) := by
    intro r x3
    simp [roC, e_bin, e_var, e_lst, e_nil, sizeLine_eq, oNe, res, two_1, canEq, cmpD, cmpDs, depD, depDs, eqD, eqDs]
  have cMore : ∀ (r : List Int) (x3 : Option D) (d : D) (L : List D), roC [v, some (.loc st.length), some (.loc (st.length + 1)), x3] (two st r (L ++ [d])) = .ok (.bl true) (two st r (L ++ [d])) := by
    intro r x3 d L
    cases L with
    | nil => simp [roC, e_bin, e_var, e_lst, e_nil, sizeLine_eq, oNe, res, two_1, canEq, cmpD, cmpDs, depD, depDs, eqD, eqDs, Nat.min_le_right]
    | cons x L => simp [roC, e_bin, e_var, e_lst, e_nil, sizeLine_eq, oNe, res, two_1, canEq, cmpD, cmpDs, depD, depDs, eqD, eqDs, Nat.min_le_right]
  have popped : ∀ (r : List Int) (x3 : Option D) (d : D) (L : List D), sSet 3 (fPop (fVar 2)) [v, some (.loc st.length), some (.loc (st.length + 1)), x3] (two st r (L ++ [d])) = .nx [v, some (.loc st.length), some (.loc (st.length + 1)), some d] (two st r L) := by
    intro r x3 d L
    have e1 : (L ++ [d]).getLast? = some d := by simp
    have e2 : (L ++ [d]).dropLast = L := by simp
    simp only [e_set, fPop, e_var, R.bind, two_1, e1, e2, two_set1, List.getElem?_cons_succ, List.getElem?_cons_zero]
    rfl
  induction m with
  | zero =>
    intro L r x3 h _ _
    have hL : L = [] := by
      cases L with
      | nil => rfl
      | cons p L =>
        have := sizeD_pos p
        rw [sizeDs] at h; omega
    subst hL
    refine ⟨x3, ?_⟩
    rw [whL, cEmpty]
    simp [rowDs]
  | succ m ih =>
    intro L r x3 h hz hv
    rcases List.eq_nil_or_concat L with rfl | ⟨L', d, rfl⟩
    · refine ⟨x3, ?_⟩
      rw [whL, cEmpty]
      simp [rowDs]
    · rw [List.concat_eq_append] at h hz hv ⊢
      have hs := sizeDs_app
      have hr := rowDs_app
      rw [rowOks_all, List.all_append, Bool.and_eq_true] at hv
      have hvd : rowOk d = true := by simpa using hv.2
      rw [hs, sizeDs, sizeDs, Nat.add_zero] at h hz
      rw [whL, cMore]
      simp only
      have hlen := row_len hvd
      have hpos := sizeD_pos d
      rw [List.reverse_append, List.reverse_singleton, List.singleton_append, rowDs]
      by_cases ht : ∃ xs, d = .tup xs
      · obtain ⟨xs, rfl⟩ := ht
        have hvx : rowOks xs = true := by rw [rowOk] at hvd; exact hvd
        have sx := size_len xs
        have sl := size_len L'
        rw [sizeD] at h hz hpos hlen
        have d2 : CDivW (xs.length : Int) 256 := cdivW (by decide) (by decide)
        have z1 : r.length + 3 ≤ 16777216 := by omega
        have z2 : L'.length + xs.length ≤ 16777216 := by omega
        have hb : roB [v, some (.loc st.length), some (.loc (st.length + 1)), x3] (two st r (L' ++ [.tup xs])) = .nx [v, some (.loc st.length), some (.loc (st.length + 1)), some (.tup xs)] (two st (r ++ [5, (xs.length : Int) / 256, (xs.length : Int) % 256]) (L' ++ xs.reverse)) := by
          unfold roB
          rw [e_seq, popped]
          have a1 : sAug 1 (fLst (fCons (fC (.int 5)) (fCons (fBin oFdiv (fCall bLen (fCons (fVar 3) fNil)) (fC (.int 256))) (fCons (fBin oMod (fCall bLen (fCons (fVar 3) fNil)) (fC (.int 256))) fNil)))) [v, some (.loc st.length), some (.loc (st.length + 1)), some (.tup xs)] (two st r L') = .nx [v, some (.loc st.length), some (.loc (st.length + 1)), some (.tup xs)] (two st (r ++ [5, (xs.length : Int) / 256, (xs.length : Int) % 256]) L') := by
            have e : (D.lst (r.map D.int ++ [.int 5, .int ((xs.length : Int) / 256), .int ((xs.length : Int) % 256)])) = .lst ((r ++ [5, (xs.length : Int) / 256, (xs.length : Int) % 256]).map D.int) := by simp
            unfold sAug
            simp only [List.getElem?_cons_succ, List.getElem?_cons_zero, e_lst, e_cons, e_nil, e_c, e_bin, e_call, e_var, R.bind, bLen, itmOf, seqOf, oFdiv, d2, if_true, oMod, sizeLine_eq, lstOf, two_0]
            simp [z1]
          have a2 : ∀ r', sAug 2 (fRev oRev2 (fVar 3)) [v, some (.loc st.length), some (.loc (st.length + 1)), some (.tup xs)] (two st r' L') = .nx [v, some (.loc st.length), some (.loc (st.length + 1)), some (.tup xs)] (two st r' (L' ++ xs.reverse)) := by
            intro r'
            unfold sAug
            simp only [List.getElem?_cons_succ, List.getElem?_cons_zero, e_rev, e_var, R.bind, oRev2, seqOf, sizeLine_eq, two_1]
            rw [if_pos (by rw [List.length_reverse]; exact z2), two_set1]
          have ty : fIsi .tup (fVar 3) [v, some (.loc st.length), some (.loc (st.length + 1)), some (.tup xs)] (two st r L') = .ok (.bl true) (two st r L') := by simp [e_isi, e_var, tyOf, Ty.le]
          simp only [e_if, ty, e_seq, a1, a2]
        simp only [hb]
        obtain ⟨e, he⟩ := ih (L' ++ xs.reverse) (r ++ [5, (xs.length : Int) / 256, (xs.length : Int) % 256]) (some (.tup xs)) (by
            rw [hs, sizeDs_rev]; omega) (by
            rw [hs, sizeDs_rev, List.length_append]; simp only [List.length_cons, List.length_nil]; omega) (by
            rw [rowOks_all, List.all_append, hv.1, List.all_reverse, ← rowOks_all, hvx]; rfl)
        refine ⟨e, ?_⟩
        rw [he]
        congr 2
        rw [List.reverse_append, List.reverse_reverse, hr, rowD]
        simp
      · have hnt : ∀ xs, d ≠ .tup xs := fun xs e => ht ⟨xs, e⟩
        have fl := row_flat hvd hnt
        have vd := row_val hvd
        have ty : fIsi .tup (fVar 3) [v, some (.loc st.length), some (.loc (st.length + 1)), some d] (two st r L') = .ok (.bl false) (two st r L') := by
          cases d with
          | tup xs => exact absurd rfl (hnt xs)
          | frz _ => cases hvd
          | loc _ => cases hvd
          | obj _ => cases hvd
          | _ => simp [e_isi, e_var, tyOf, Ty.le]
        have hb : roB [v, some (.loc st.length), some (.loc (st.length + 1)), x3] (two st r (L' ++ [d])) = .nx [v, some (.loc st.length), some (.loc (st.length + 1)), some d] (two st (r ++ rowD d) L') := by
          unfold roB
          rw [e_seq, popped]
          simp only [e_if, ty]
          unfold sAug
          simp only [List.getElem?_cons_succ, List.getElem?_cons_zero, e_call, e_cons, e_nil, e_var, R.bind, flatrow_is vd fl, seqOf, lstOf, two_0, sizeLine_eq]
          rw [if_pos (by rw [List.length_map, List.length_map]; omega), ← List.map_append, two_set0]
        simp only [hb]
        obtain ⟨e, he⟩ := ih L' (r ++ rowD d) (some d) (by omega) (by rw [List.length_append]; omega) (by rw [rowOks_all]; exact hv.1)
        refine ⟨e, ?_⟩
        rw [he, List.append_assoc]
theorem rowof_is {st : Store} {d : D} (h : rowOk d = true) (hz : 22 * sizeD d ≤ 16777216) : F_row_of [d] st = .ok (.lst ((rowD d).map D.int)) st := by
  obtain ⟨e, he⟩ := ro_loop (st := st) (v := some d) (sizeD d) [d] [] none (by simp [sizeDs]) (by simp [sizeDs]; exact hz) (by simp [rowOks, h])
  have hw := sWhile_of he (by simp)
  have hw' : sWhile roC roB [some d, some (.loc st.length), some (.loc (st.length + 1)), none] (st ++ [SO.lst [], .lst [d]]) = .nx [some d, some (.loc st.length), some (.loc (st.length + 1)), e] (two st (rowD d) []) := by
    rw [show (rowD d) = [] ++ rowDs [d].reverse by simp [rowDs]]
    exact hw
  unfold F_row_of Fn.hide fnA fnOf g_row_of
  simp [e_seq, e_par, e_new, e_cons, e_nil, e_var, e_ret, startE, sizeLine_eq, hw']
  exact hide_new (Nat.le_refl _) two_0 (lts_ints _)
end K61
namespace K61
open PySem PySem.Spec PyProof.Rows L2 Fl
/-! ### the law's own rows -/
mutual
def depthD : D → Nat
  | .tup xs => depthDs xs + 1
  | .non => 0
  | .bl _ => 0
  | .int _ => 0
  | .str _ => 0
  | .lst _ => 0
  | .frz _ => 0
  | .loc _ => 0
  | .obj _ => 0
def depthDs : List D → Nat
  | [] => 0
  | x :: xs => max (depthD x) (depthDs xs)
end
theorem depth_mem : ∀ {xs : List D} {x : D}, x ∈ xs → depthD x ≤ depthDs xs
  | y :: ys, x, h => by
    rw [depthDs]
    rcases List.mem_cons.mp h with e | h
    · subst e; omega
    · have := depth_mem h; omega
theorem row_mem : ∀ {xs : List D} {x : D}, x ∈ xs → (rowD x).length ≤ (rowDs xs).length
  | y :: ys, x, h => by
    rw [rowDs, List.length_append]
    rcases List.mem_cons.mp h with e | h
    · subst e; omega
    · have := row_mem h; omega
noncomputable abbrev lrB : FS := sIf (fBin oGt (fVar 0) (fC (.int 0))) (sPar 1 0 (fBin oAdd (fLst (fCons (fBin oMod (fCall bInt (fCons (fVar 0) fNil)) (fC (.int 256))) fNil)) (fVar 1)) (fBin oFdiv (fVar 0) (fC (.int 256)))) sSkip
theorem lr_loop {st : Store} : ∀ (ds : List D) (i : Int) (f : List Int) (x2 x3 x4 : Option D), f.length + ds.length ≤ 1000 →
    ∃ i' y2, forL lrB (.name 2) [] ds [some (.int i), some (.lst (f.map D.int)), x2, x3, x4] st = .nx [some (.int i'), some (.lst (((leI ds.length i).reverse ++ f).map D.int)), y2, x3, x4] st
  | [], i, f, x2, x3, x4, _ => ⟨i, x2, by rw [forL_nil]; rfl⟩
  | d :: ds, i, f, x2, x3, x4, hz => by
    rw [List.length_cons] at hz
    rw [forL_cons]
    by_cases h0 : 0 < i
    · have d2 : CDivW i 256 := cdivW (by decide) (by decide)
      have z1 : 1 + f.length ≤ 16777216 := by omega
      have hb : lrB [some (.int i), some (.lst (f.map D.int)), some d, x3, x4] st = .nx [some (.int (i / 256)), some (.lst ((i % 256 :: f).map D.int)), some d, x3, x4] st := by
        simp [lrB, e_if, e_bin, e_var, e_c, oGt, oIC, h0, e_par, e_lst, e_cons, e_nil, e_call, bInt, oMod, oAdd, lstOf, sizeLine_eq, oFdiv, d2, z1]
      obtain ⟨i', y2, h⟩ := lr_loop (st := st) ds (i / 256) (i % 256 :: f) (some d) x3 x4 (by rw [List.length_cons]; omega)
      refine ⟨i', y2, ?_⟩
      simp only [bindT, List.set_cons_succ, List.set_cons_zero, hb, h]
      rw [List.length_cons, leI, if_pos h0]
      simp
    · have hb : lrB [some (.int i), some (.lst (f.map D.int)), some d, x3, x4] st = .nx [some (.int i), some (.lst (f.map D.int)), some d, x3, x4] st := by
        simp [lrB, e_if, e_bin, e_var, e_c, oGt, oIC, h0, e_skip]
      obtain ⟨i', y2, h⟩ := lr_loop (st := st) ds i f (some d) x3 x4 (by omega)
      refine ⟨i', y2, ?_⟩
      simp only [bindT, List.set_cons_succ, List.set_cons_zero, hb, h]
      have e1 : leI (d :: ds).length i = [] := by rw [List.length_cons, leI, if_neg h0]
      have e2 : leI ds.length i = [] := by
        cases ds with
        | nil => rfl
        | cons a ds => rw [List.length_cons, leI, if_neg h0]
      rw [e1, e2]
theorem lr_tup {R : Fn} {st : Store} {v x2 x4 : Option D} : ∀ (xs : List D) (f : List Int) (x3 : Option D), (∀ x ∈ xs, R [x] st = .ok (.lst ((rowD x).map D.int)) st) → f.length + (rowDs xs).length ≤ 16777216 →
    ∃ y3, forL (sSet 1 (fBin oAdd (fVar 1) (fCall R (fCons (fVar 3) fNil)))) (.name 3) [] xs [v, some (.lst (f.map D.int)), x2, x3, x4] st = .nx [v, some (.lst ((f ++ rowDs xs).map D.int)), x2, y3, x4] st
  | [], f, x3, _, _ => ⟨x3, by rw [forL_nil, rowDs, List.append_nil]⟩
  | x :: xs, f, x3, h, hz => by
    rw [rowDs, List.length_append] at hz
    rw [forL_cons]
    have hx := h x List.mem_cons_self
    have z1 : f.length + (rowD x).length ≤ 16777216 := by omega
    have hb : (sSet 1 (fBin oAdd (fVar 1) (fCall R (fCons (fVar 3) fNil)))) [v, some (.lst (f.map D.int)), x2, some x, x4] st = .nx [v, some (.lst ((f ++ rowD x).map D.int)), x2, some x, x4] st := by
      simp [e_set, e_bin, e_var, e_call, e_cons, e_nil, hx, oAdd, lstOf, sizeLine_eq, z1]
    obtain ⟨y3, hy⟩ := lr_tup (R := R) (st := st) (v := v) (x2 := x2) (x4 := x4) xs (f ++ rowD x) (some x) (fun y hy => h y (List.mem_cons_of_mem _ hy)) (by rw [List.length_append]; omega)
    refine ⟨y3, ?_⟩
    simp only [bindT, List.set_cons_succ, List.set_cons_zero, hb, hy]
    rw [rowDs, List.append_assoc]
theorem lawrow_is {st : Store} : ∀ (k : Nat) (d : D), rowOk d = true → depthD d < k → (rowD d).length ≤ 16777216 → F__law_row k [d] st = .ok (.lst ((rowD d).map D.int)) st := by
  intro k
  induction k with
  | zero => intro d _ h; exact absurd h (Nat.not_lt_zero _)
  | succ k ih =>
    intro d h hk hz
    show Fn.hide (fnA 1 5 (g__law_row (F__law_row k))) [d] st = _
    unfold Fn.hide fnA fnOf g__law_row
    cases d with
    | non =>
      simp [e_seq, e_if, e_or, e_bin, e_var, e_c, startE, oIsN, isNon, e_ret, e_lst, e_cons, e_nil, e_fif, sizeLine_eq]
      exact hide_same rfl
    | bl b =>
      cases b <;> (simp [e_seq, e_if, e_or, e_bin, e_var, e_c, startE, oIsN, isNon, e_ret, e_lst, e_cons, e_nil, e_skip, e_isi, tyOf, Ty.le, e_fif, sizeLine_eq]; exact hide_same rfl)
    | int i =>
      have hl := be_len i
      have z1 : (beI i).length ≤ 16777216 := by omega
      have z2 : (beI i).length + 1 + 1 ≤ 16777216 := by omega
      have z3 : 2 + (beI i).length ≤ 16777216 := by omega
      obtain ⟨i', y2, hlp⟩ := lr_loop (st := st) ((List.range 9).map fun k => D.int (0 + (k : Nat))) i [] none none none (by simp)
      have hlp' : forL lrB (.name 2) [] ((List.range 9).map fun k => D.int (0 + (k : Nat))) [some (.int i), some (.lst []), none, none, none] st = .nx [some (.int i'), some (.lst ((beI i).map D.int)), y2, none, none] st := by
        have := hlp
        rw [List.append_nil] at this
        simpa [beI] using this
      have hf : sFor (fRng1 (fC (.int 9))) (.name 2) lrB [some (.int i), some (.lst []), none, none, none] st = .nx [some (.int i'), some (.lst ((beI i).map D.int)), y2, none, none] st := by
        unfold sFor
        have e9 : fRng1 (fC (.int 9)) [some (.int i), some (.lst []), none, none, none] st = .ok ⟨(List.range 9).map fun k => D.int (0 + (k : Nat)), []⟩ st := by
          simp [fRng1, e_c]
        simp only [e9, hlp']
      simp [e_seq, e_if, e_or, e_bin, e_var, e_c, startE, oIsN, isNon, e_ret, e_lst, e_cons, e_nil, e_skip, e_isi, tyOf, Ty.le, e_set, hf, e_call, bLen, itmOf, seqOf, lstOf, oAdd, sizeLine_eq, z1, z2, z3]
      rw [hide_same (by simp [locsLt, locsLts, lts_ints])]
      simp [rowD]
    | str z =>
      have hz0 : z.length ≤ 20 := by simpa [rowOk] using h
      have ho := signs_ord z [some (.str z), none, none, none, none] 0 st (by omega) rfl 4 (by simp)
      have hl : (ords z).length ≤ 20 := by rw [ords, List.length_map]; exact hz0
      have z1 : z.length ≤ 16777216 := by omega
      have z3 : 2 + (ords z).length ≤ 16777216 := by omega
      simp [e_seq, e_if, e_or, e_bin, e_var, e_c, startE, oIsN, isNon, e_ret, e_lst, e_cons, e_nil, e_skip, e_isi, tyOf, Ty.le, e_call, ho, bLen, lstOf, oAdd, sizeLine_eq, z1, z3]
      rw [hide_same (by simp [locsLt, locsLts, lts_ints])]
      simp [rowD]
    | tup xs =>
      have hx : rowOks xs = true := by rw [rowOk] at h; exact h
      have hd : ∀ x ∈ xs, F__law_row k [x] st = .ok (.lst ((rowD x).map D.int)) st := fun x hm => by
        have h1 : rowOk x = true := by
          rw [rowOks_all] at hx
          exact List.all_eq_true.mp hx x hm
        have h2 := depth_mem hm
        rw [depthD] at hk
        have h3 := row_mem hm
        rw [rowD] at hz
        simp only [List.length_cons] at hz
        exact ih x h1 (by omega) (by omega)
      rw [rowD] at hz
      simp only [List.length_cons] at hz
      have d2 : CDivW (xs.length : Int) 256 := cdivW (by decide) (by decide)
      obtain ⟨y3, hl⟩ := lr_tup (R := F__law_row k) (st := st) (v := some (.tup xs)) (x2 := none) (x4 := none) xs [5, (xs.length : Int) / 256, (xs.length : Int) % 256] none hd (by simp only [List.length_cons, List.length_nil]; omega)
      have hf : sFor (fIt (fVar 0)) (.name 3) (sSet 1 (fBin oAdd (fVar 1) (fCall (F__law_row k) (fCons (fVar 3) fNil)))) [some (.tup xs), some (.lst [.int 5, .int ((xs.length : Int) / 256), .int ((xs.length : Int) % 256)]), none, none, none] st =
          .nx [some (.tup xs), some (.lst (([5, (xs.length : Int) / 256, (xs.length : Int) % 256] ++ rowDs xs).map D.int)), none, y3, none] st := by
        unfold sFor
        have e9 : fIt (fVar 0) [some (.tup xs), some (.lst [.int 5, .int ((xs.length : Int) / 256), .int ((xs.length : Int) % 256)]), none, none, none] st = .ok ⟨xs, []⟩ st := by simp [e_it, e_var, itOf]
        simp only [e9]
        exact hl
      simp [e_seq, e_if, e_or, e_bin, e_var, e_c, startE, oIsN, isNon, e_ret, e_lst, e_cons, e_nil, e_skip, e_isi, tyOf, Ty.le, e_set, e_call, bLen, bInt, itmOf, seqOf, oFdiv, oMod, d2, sizeLine_eq, hf]
      rw [hide_same (by simp [locsLt, locsLts, lts_ints])]
      simp [rowD]
    | _ => cases h
/-! ### digests -/
def digN (base : Int) (row : List Int) : Int := row.foldl (fun g o => (g * g + 31 * g + o + 1) % base) (7 % base)
theorem dig_step {base g o : Int} : (g * (g + 31) + o + 1) % base = (g * g + 31 * g + o + 1) % base := by
  rw [Int.mul_add, Int.mul_comm g 31]
theorem dig_range {base : Int} (hb : 0 < base) : ∀ (row : List Int) (g : Int), 0 ≤ g → g < base → 0 ≤ row.foldl (fun g o => (g * g + 31 * g + o + 1) % base) g ∧ row.foldl (fun g o => (g * g + 31 * g + o + 1) % base) g < base
  | [], g, h1, h2 => ⟨h1, h2⟩
  | o :: row, g, _, _ => dig_range hb row _ (Int.emod_nonneg _ (by omega)) (Int.emod_lt_of_pos _ hb)
theorem digby_is {st : Store} {base : Int} {row : List Int} (hb : 0 < base) (hb2 : base ≤ 9223372036854775808) : F_digest_by [.int base, .lst (row.map D.int)] st = .ok (.int (digN base row)) st := by
  have loop : ∀ (rw : List Int) (g : Int) (x3 : Option D), 0 ≤ g → g < base → ∃ y3, forL (sSet 2 (fBin oMod (fBin oAdd (fBin oAdd (fBin oAdd (fBin oMul (fVar 2) (fVar 2)) (fBin oMul (fC (.int 31)) (fVar 2))) (fVar 3)) (fC (.int 1))) (fVar 0))) (.name 3) [] (rw.map D.int) [some (.int base), some (.lst (row.map D.int)), some (.int g), x3] st =
      .nx [some (.int base), some (.lst (row.map D.int)), some (.int (rw.foldl (fun g o => (g * g + 31 * g + o + 1) % base) g)), y3] st := by
    intro rw
    induction rw with
    | nil => exact fun g x3 _ _ => ⟨x3, forL_nil⟩
    | cons o rw ih =>
      intro g x3 h1 h2
      obtain ⟨y3, h⟩ := ih ((g * g + 31 * g + o + 1) % base) (some (.int o)) (Int.emod_nonneg _ (by omega)) (Int.emod_lt_of_pos _ hb)
      refine ⟨y3, ?_⟩
      have m1 : CMul g g ∨ CMulW g g := cmul_r (by omega) (by omega)
      have m2 : CMul 31 g ∨ CMulW 31 g := cmul_r (by omega) (by omega)
      rw [List.map_cons, forL_cons]
      simp [bindT, e_set, e_bin, e_var, e_c, oMul, m1, m2, oAdd, oMod, hb]
      exact h
  obtain ⟨y3, h⟩ := loop row (7 % base) none (Int.emod_nonneg _ (by omega)) (Int.emod_lt_of_pos _ hb)
  unfold F_digest_by Fn.hide fnA fnOf g_digest_by
  have hf : sFor (fIt (fVar 1)) (.name 3) (sSet 2 (fBin oMod (fBin oAdd (fBin oAdd (fBin oAdd (fBin oMul (fVar 2) (fVar 2)) (fBin oMul (fC (.int 31)) (fVar 2))) (fVar 3)) (fC (.int 1))) (fVar 0))) [some (.int base), some (.lst (row.map D.int)), some (.int (7 % base)), none] st =
      .nx [some (.int base), some (.lst (row.map D.int)), some (.int (digN base row)), y3] st := by
    unfold sFor
    have e9 : fIt (fVar 1) [some (.int base), some (.lst (row.map D.int)), some (.int (7 % base)), none] st = .ok ⟨row.map D.int, []⟩ st := by simp [e_it, e_var, itOf]
    simp only [e9]
    exact h
  simp [e_seq, e_set, e_bin, e_c, e_var, startE, oMod, hb, hf, e_ret]
  exact hide_same rfl
theorem mixed_is {st : Store} {base : Int} {row : List Int} (hb : 0 < base) (hb2 : base ≤ 9223372036854775808) : F__law_mixed [.int base, .lst (row.map D.int)] st = .ok (.int (digN base row)) st := by
  have loop : ∀ (rw : List Int) (g : Int) (x3 : Option D), 0 ≤ g → g < base → ∃ y3, forL (sSet 2 (fBin oMod (fCall bInt (fCons (fBin oAdd (fBin oAdd (fBin oMul (fVar 2) (fBin oAdd (fVar 2) (fC (.int 31)))) (fVar 3)) (fC (.int 1))) fNil)) (fVar 0))) (.name 3) [] (rw.map D.int) [some (.int base), some (.lst (row.map D.int)), some (.int g), x3] st =
      .nx [some (.int base), some (.lst (row.map D.int)), some (.int (rw.foldl (fun g o => (g * g + 31 * g + o + 1) % base) g)), y3] st := by
    intro rw
    induction rw with
    | nil => exact fun g x3 _ _ => ⟨x3, forL_nil⟩
    | cons o rw ih =>
      intro g x3 h1 h2
      obtain ⟨y3, h⟩ := ih ((g * g + 31 * g + o + 1) % base) (some (.int o)) (Int.emod_nonneg _ (by omega)) (Int.emod_lt_of_pos _ hb)
      refine ⟨y3, ?_⟩
      have m1 : CMul g (g + 31) ∨ CMulW g (g + 31) := cmul_r (by omega) (by omega)
      rw [List.map_cons, forL_cons]
      simp [bindT, e_set, e_bin, e_var, e_c, e_call, e_cons, e_nil, bInt, oMul, m1, oAdd, oMod, hb]
      rw [dig_step]
      exact h
  obtain ⟨y3, h⟩ := loop row (7 % base) none (Int.emod_nonneg _ (by omega)) (Int.emod_lt_of_pos _ hb)
  unfold F__law_mixed Fn.hide fnA fnOf g__law_mixed
  have hf : sFor (fIt (fVar 1)) (.name 3) (sSet 2 (fBin oMod (fCall bInt (fCons (fBin oAdd (fBin oAdd (fBin oMul (fVar 2) (fBin oAdd (fVar 2) (fC (.int 31)))) (fVar 3)) (fC (.int 1))) fNil)) (fVar 0))) [some (.int base), some (.lst (row.map D.int)), some (.int (7 % base)), none] st =
      .nx [some (.int base), some (.lst (row.map D.int)), some (.int (digN base row)), y3] st := by
    unfold sFor
    have e9 : fIt (fVar 1) [some (.int base), some (.lst (row.map D.int)), some (.int (7 % base)), none] st = .ok ⟨row.map D.int, []⟩ st := by simp [e_it, e_var, itOf]
    simp only [e9]
    exact h
  simp [e_seq, e_set, e_bin, e_c, e_var, e_call, e_cons, e_nil, bInt, startE, oMod, hb, hf, e_ret]
  exact hide_same rfl
/-! ### the program's three ways in -/
/-- a value that the law asks about: plain, of bearable size, and shallow -/
structure Good (d : D) : Prop where
  row : rowOk d = true
  size : 22 * sizeD d ≤ 16777216
  depth : depthD d < 70
theorem Good.len {d : D} (g : Good d) : (rowD d).length ≤ 16777216 := Nat.le_trans (row_len g.row) g.size
theorem Good.val {d : D} (g : Good d) : val d = true := row_val g.row
theorem Good.small {d : D} (g : Good d) : sizeD d ≤ 16777216 := by have := g.size; omega
theorem valuedigest_is {st : Store} {base : Int} {d : D} (g : Good d) (hb : 0 < base) (hb2 : base ≤ 9223372036854775808) : F_value_digest [.int base, d] st = .ok (.int (digN base (rowD d))) st := by
  unfold F_value_digest Fn.hide fnA fnOf g_value_digest
  simp [e_ret, e_call, e_cons, e_nil, e_var, startE, rowof_is g.row g.size, digby_is hb hb2]
  exact hide_same rfl
theorem lawdigest_is {st : Store} {base : Int} {d : D} (g : Good d) (hb : 0 < base) (hb2 : base ≤ 9223372036854775808) : F__law_digest [.int base, d] st = .ok (.int (digN base (rowD d))) st := by
  unfold F__law_digest Fn.hide fnA fnOf g__law_digest
  simp [e_ret, e_call, e_cons, e_nil, e_var, startE, lawrow_is 70 d g.row g.depth g.len, mixed_is hb hb2]
  exact hide_same rfl
theorem valuerow_is {st : Store} {d : D} (g : Good d) (hp : plainB d 60 = true) : F_value_row [d] st = .ok (.tup ((rowD d).map D.int)) st := by
  unfold F_value_row Fn.hide fnA fnOf g_value_row
  simp [e_seq, e_if, e_not, e_ret, e_call, e_cons, e_nil, e_var, e_skip, startE, isplain_is g.val g.small, hp, rowof_is g.row g.size, bTuple, itmOf, seqOf, lstOf]
  exact hide_same (by rw [locsLt]; exact lts_ints _)
theorem valuerow_no {st : Store} {d : D} (hv : val d = true) (hz : sizeD d ≤ 16777216) (hp : plainB d 60 = false) : F_value_row [d] st = .exc ⟨"InvalidValue", []⟩ st := by
  unfold F_value_row Fn.hide fnA fnOf g_value_row
  simp [e_seq, e_if, e_not, e_call, e_cons, e_nil, e_var, startE, isplain_is hv hz, hp, e_raise]
  exact hide_exc
theorem needbase_is {st : Store} {base : Int} (h1 : 2 ≤ base) (h2 : base ≤ 2305843009213693951) : F_need_base [.int base] st = .ok .non st := by
  unfold F_need_base fnA fnOf g_need_base
  simp [e_if, e_not, e_call, e_cons, e_nil, e_var, e_c, startE, whole_int, h1, h2, e_skip]
theorem needbase_no {st : Store} {d : D} (h : val d = true) (hd : ∀ i, d = .int i → ¬ (2 ≤ i ∧ i ≤ 2305843009213693951)) : F_need_base [d] st = .exc ⟨"InvalidNumber", []⟩ st := by
  unfold F_need_base fnA fnOf g_need_base
  by_cases hi : ∃ i, d = .int i
  · obtain ⟨i, rfl⟩ := hi
    have := hd i rfl
    have e : (decide (2 ≤ i) && decide (i ≤ 2305843009213693951)) = false := by
      rw [← Bool.decide_and]
      exact decide_eq_false this
    simp only [e_if, e_not, e_call, e_cons, e_nil, e_var, e_c, startE, R.bind, List.map_cons, List.map_nil, List.length_cons, List.length_nil, Nat.sub_self, List.replicate_zero, List.append_nil, List.getElem?_cons_zero, whole_int, e, Bool.not_false, e_raise, if_true]
  · have w := whole_no (st := st) (d := d) (.int 2) d_BASES h (fun i e => hi ⟨i, e⟩)
    simp [e_if, e_not, e_call, e_cons, e_nil, e_var, e_c, startE, w, e_raise]
theorem digestof_is {st : Store} {base : Int} {d : D} (g : Good d) (hp : plainB d 60 = true) (h1 : 2 ≤ base) (h2 : base ≤ 2305843009213693951) : F_digest_of [.int base, d] st = .ok (.int (digN base (rowD d))) st := by
  unfold F_digest_of Fn.hide fnA fnOf g_digest_of
  simp [e_seq, e_expr, e_if, e_not, e_ret, e_call, e_cons, e_nil, e_var, e_skip, startE, needbase_is h1 h2, isplain_is g.val g.small, hp, valuedigest_is g (by omega : 0 < base) (by omega)]
  exact hide_same rfl
theorem digestof_no {st : Store} {d : D} (hv : val d = true) (hz : sizeD d ≤ 16777216) (hp : plainB d 60 = false) : F_digest_of [.int 1009, d] st = .exc ⟨"InvalidValue", []⟩ st := by
  unfold F_digest_of Fn.hide fnA fnOf g_digest_of
  simp [e_seq, e_expr, e_if, e_not, e_call, e_cons, e_nil, e_var, startE, needbase_is, isplain_is hv hz, hp, e_raise]
  exact hide_exc
theorem digestof_base {st : Store} {b : D} (h : val b = true) (hd : ∀ i, b = .int i → ¬ (2 ≤ i ∧ i ≤ 2305843009213693951)) : F_digest_of [b, .lst []] st = .exc ⟨"InvalidNumber", []⟩ st := by
  unfold F_digest_of Fn.hide fnA fnOf g_digest_of
  simp [e_seq, e_expr, e_call, e_cons, e_nil, e_var, startE, needbase_no h hd]
  exact hide_exc
theorem nobase_is {st : Store} {b : D} (h : val b = true) (hd : ∀ i, b = .int i → ¬ (2 ≤ i ∧ i ≤ 2305843009213693951)) : F__law_no_base [b] st = .ok (.bl true) st := by
  unfold F__law_no_base Fn.hide fnA fnOf g__law_no_base
  have hb : (sExpr (fCall F_digest_of (fCons (fVar 0) (fCons (fLst fNil) fNil)))) (startE 2 [b]) st = .exc ⟨"InvalidNumber", []⟩ (startE 2 [b]) st := by
    simp [e_expr, e_call, e_cons, e_nil, e_var, e_lst, startE, sizeLine_eq, digestof_base h hd]
  have ht : sTry (some 1) sub_InvalidNumber (sExpr (fCall F_digest_of (fCons (fVar 0) (fCons (fLst fNil) fNil)))) (fun a y => sRet (fEis 1 a true)) (startE 2 [b]) st = .rt (.bl true) st := by
    unfold sTry
    simp only [hb]
    have e1 : sub_InvalidNumber "InvalidNumber" = some true := by decide
    simp only [e1]
    rw [if_pos (by intro a; simp [e_ret, fEis, post, startE])]
    simp [e_ret, fEis, post, startE]
  simp [e_seq, ht]
  exact hide_same rfl
theorem refused_is {st : Store} {d : D} {by_ : Bool} (hv : val d = true) (hz : sizeD d ≤ 16777216) (hp : plainB d 60 = false) : F__law_refused [d, .bl by_] st = .ok (.bl true) st := by
  unfold F__law_refused Fn.hide fnA fnOf g__law_refused
  have hb : (sIf (fVar 1) (sExpr (fCall F_digest_of (fCons (fC (.int 1009)) (fCons (fVar 0) fNil)))) (sExpr (fCall F_value_row (fCons (fVar 0) fNil)))) (startE 3 [d, .bl by_]) st = .exc ⟨"InvalidValue", []⟩ (startE 3 [d, .bl by_]) st := by
    cases by_ <;> simp [e_if, e_expr, e_call, e_cons, e_nil, e_var, e_c, startE, digestof_no hv hz hp, valuerow_no hv hz hp]
  have ht : sTry (some 2) sub_InvalidValue (sIf (fVar 1) (sExpr (fCall F_digest_of (fCons (fC (.int 1009)) (fCons (fVar 0) fNil)))) (sExpr (fCall F_value_row (fCons (fVar 0) fNil)))) (fun a y => sRet (fAnd (fEis 2 a true) (fEis 2 a true))) (startE 3 [d, .bl by_]) st = .rt (.bl true) st := by
    unfold sTry
    simp only [hb]
    have e1 : sub_InvalidValue "InvalidValue" = some true := by decide
    simp only [e1]
    rw [if_pos (by intro a; simp [e_ret, e_and, fEis, post, startE])]
    simp [e_ret, e_and, fEis, post, startE]
  simp [e_seq, ht]
  exact hide_same rfl
end K61
namespace K61
open PySem PySem.Spec PyProof.Rows L2 Fl
/-! ### how values are shown -/
def sigs : List Nat := [97, 98, 122, 65, 90, 48, 57, 32, 126, 33, 35]
mutual
def niceB : D → Bool
  | .tup xs => niceBs xs
  | .int i => decide (0 ≤ i) && decide (i ≤ 18446744073709551616)
  | .str z => decide (z.length ≤ 20) && z.cps.toList.all fun c => sigs.contains c
  | .non => true
  | .bl _ => true
  | .lst _ => false
  | .frz _ => false
  | .loc _ => false
  | .obj _ => false
def niceBs : List D → Bool
  | [] => true
  | x :: xs => niceB x && niceBs xs
end
def tail1 (xs : List D) (r : List Nat) : List Nat := match xs with
  | [] => [44, 41]
  | _ :: _ => r
def digs (i : Int) : List Nat := (Nat.toDigits 10 i.toNat).map Char.toNat
mutual
def tx : D → List Nat
  | .tup xs => 40 :: txs xs
  | .non => [78, 111, 110, 101]
  | .bl true => [84, 114, 117, 101]
  | .bl false => [70, 97, 108, 115, 101]
  | .int i => digs i
  | .str z => 39 :: (z.cps.toList ++ [39])
  | .lst _ => []
  | .frz _ => []
  | .loc _ => []
  | .obj _ => []
def txs : List D → List Nat
  | [] => [41]
  | x :: xs => tx x ++ tail1 xs (txr xs)
def txr : List D → List Nat
  | [] => [41]
  | x :: xs => 44 :: 32 :: (tx x ++ txr xs)
end
theorem digs_ok (i : Int) : ∀ c ∈ digs i, 48 ≤ c ∧ c ≤ 57 := by
  intro c hc
  obtain ⟨ch, hch, e⟩ := List.mem_map.mp hc
  rw [← e]
  exact PyProof.Rows.digit_range (Nat.isDigit_of_mem_toDigits (by decide) (by decide) hch)
theorem digs_ne (i : Int) : digs i ≠ [] := by
  intro e
  have h := toDigits_len_ge 10 i.toNat
  rw [List.map_eq_nil_iff.mp e] at h
  exact absurd h (by decide)
theorem digs_inj {i j : Int} (hi : 0 ≤ i) (hj : 0 ≤ j) (h : digs i = digs j) : i = j := by
  have h1 := PySem.W.KIN.val_back i.toNat
  have h2 := PySem.W.KIN.val_back j.toNat
  unfold digs at h
  rw [h] at h1
  omega
/-- nothing that goes on a number -/
def stop (s : List Nat) : Prop := ∀ c r, s = c :: r → c = 44 ∨ c = 41
theorem split_digits : ∀ {A B s t : List Nat}, (∀ c ∈ A, 48 ≤ c ∧ c ≤ 57) → (∀ c ∈ B, 48 ≤ c ∧ c ≤ 57) → stop s → stop t → A ++ s = B ++ t → A = B ∧ s = t
  | [], [], _, _, _, _, _, _, h => ⟨rfl, h⟩
  | [], b :: B, s, t, _, hB, hs, _, h => by
    have := hs b (B ++ t) h
    have := hB b List.mem_cons_self
    omega
  | a :: A, [], s, t, hA, _, _, ht, h => by
    have := ht a (A ++ s) h.symm
    have := hA a List.mem_cons_self
    omega
  | a :: A, b :: B, s, t, hA, hB, hs, ht, h => by
    have h1 : a = b ∧ A ++ s = B ++ t := by simpa using h
    obtain ⟨h2, h3⟩ := split_digits (fun c hc => hA c (List.mem_cons_of_mem _ hc)) (fun c hc => hB c (List.mem_cons_of_mem _ hc)) hs ht h1.2
    exact ⟨by rw [h1.1, h2], h3⟩
theorem split_quote : ∀ {A B s t : List Nat}, (∀ c ∈ A, c ≠ 39) → (∀ c ∈ B, c ≠ 39) → A ++ 39 :: s = B ++ 39 :: t → A = B ∧ s = t
  | [], [], _, _, _, _, h => ⟨rfl, by simpa using h⟩
  | [], b :: B, s, t, _, hB, h => by
    have h1 : 39 = b ∧ s = B ++ 39 :: t := by simpa using h
    exact absurd h1.1.symm (hB b List.mem_cons_self)
  | a :: A, [], s, t, hA, _, h => by
    have h1 : a = 39 ∧ A ++ 39 :: s = t := by simpa using h
    exact absurd h1.1 (hA a List.mem_cons_self)
  | a :: A, b :: B, s, t, hA, hB, h => by
    have h1 : a = b ∧ A ++ 39 :: s = B ++ 39 :: t := by simpa using h
    obtain ⟨h2, h3⟩ := split_quote (fun c hc => hA c (List.mem_cons_of_mem _ hc)) (fun c hc => hB c (List.mem_cons_of_mem _ hc)) h1.2
    exact ⟨by rw [h1.1, h2], h3⟩
theorem sig_no39 {z : Str} (h : (z.cps.toList.all fun c => sigs.contains c) = true) : ∀ c ∈ z.cps.toList, c ≠ 39 := by
  intro c hc e
  have := List.all_eq_true.mp h c hc
  subst e
  revert this; decide
/-- the first sign tells the kind -/
theorem tx_head {d : D} (h : niceB d = true) : ∃ c r, tx d = c :: r ∧ c ≠ 41 ∧ c ≠ 44 := by
  cases d with
  | tup xs => exact ⟨_, _, by rw [tx], by decide, by decide⟩
  | non => exact ⟨_, _, by rw [tx], by decide, by decide⟩
  | bl b => cases b <;> exact ⟨_, _, by rw [tx], by decide, by decide⟩
  | str z => exact ⟨_, _, by rw [tx], by decide, by decide⟩
  | int i =>
    rw [tx]
    cases hd : digs i with
    | nil => exact absurd hd (digs_ne i)
    | cons c r =>
      have := digs_ok i c (by rw [hd]; exact List.mem_cons_self)
      exact ⟨c, r, rfl, by omega, by omega⟩
  | _ => cases h
theorem int_head {i : Int} {c : Nat} {s t : List Nat} (hc : c < 48 ∨ 57 < c) (h : digs i ++ s = c :: t) : False := by
  cases hd : digs i with
  | nil => exact absurd hd (digs_ne i)
  | cons b r =>
    have := digs_ok i b (by rw [hd]; exact List.mem_cons_self)
    rw [hd] at h
    have h1 : b = c ∧ r ++ s = t := by simpa using h
    omega
mutual
theorem tx_inj : ∀ (d e : D) (s t : List Nat), niceB d = true → niceB e = true → stop s → stop t → tx d ++ s = tx e ++ t → d = e ∧ s = t
  | .tup xs, e, s, t, hd, he, hs, ht, h => by
    rw [niceB] at hd
    cases e with
    | tup ys =>
      rw [niceB] at he
      rw [tx, tx, List.cons_append, List.cons_append] at h
      obtain ⟨h1, h2⟩ := txs_inj xs ys s t hd he hs ht (by simpa using h)
      exact ⟨by rw [h1], h2⟩
    | int i => rw [tx, tx] at h; exact (int_head (i := i) (c := 40) (by decide) h.symm).elim
    | bl b => cases b <;> simp [tx] at h
    | non => simp [tx] at h
    | str z => simp [tx] at h
    | _ => cases he
  | .non, e, s, t, _, he, _, _, h => by
    cases e with
    | non => exact ⟨rfl, by simpa [tx] using h⟩
    | tup ys => simp [tx] at h
    | int i => rw [tx, tx] at h; exact (int_head (i := i) (c := 78) (by decide) h.symm).elim
    | bl b => cases b <;> simp [tx] at h
    | str z => simp [tx] at h
    | _ => cases he
  | .bl a, e, s, t, _, he, _, _, h => by
    cases e with
    | bl b => cases a <;> cases b <;> simp [tx] at h <;> exact ⟨rfl, h⟩
    | non => cases a <;> simp [tx] at h
    | tup ys => cases a <;> simp [tx] at h
    | str z => cases a <;> simp [tx] at h
    | int i =>
      cases a
      · rw [tx, tx] at h; exact (int_head (i := i) (c := 70) (by decide) h.symm).elim
      · rw [tx, tx] at h; exact (int_head (i := i) (c := 84) (by decide) h.symm).elim
    | _ => cases he
  | .int i, e, s, t, hd, he, hs, ht, h => by
    rw [niceB, Bool.and_eq_true] at hd
    cases e with
    | int j =>
      rw [niceB, Bool.and_eq_true] at he
      rw [tx, tx] at h
      obtain ⟨h1, h2⟩ := split_digits (digs_ok i) (digs_ok j) hs ht h
      exact ⟨by rw [digs_inj (of_decide_eq_true hd.1) (of_decide_eq_true he.1) h1], h2⟩
    | non => rw [tx, tx] at h; exact (int_head (i := i) (c := 78) (by decide) h).elim
    | tup ys => rw [tx, tx] at h; exact (int_head (i := i) (c := 40) (by decide) h).elim
    | str z => rw [tx, tx] at h; exact (int_head (i := i) (c := 39) (by decide) h).elim
    | bl b =>
      cases b
      · rw [tx, tx] at h; exact (int_head (i := i) (c := 70) (by decide) h).elim
      · rw [tx, tx] at h; exact (int_head (i := i) (c := 84) (by decide) h).elim
    | _ => cases he
  | .str z, e, s, t, hd, he, hs, ht, h => by
    rw [niceB, Bool.and_eq_true] at hd
    cases e with
    | str y =>
      rw [niceB, Bool.and_eq_true] at he
      rw [tx, tx] at h
      have h1 : z.cps.toList ++ 39 :: s = y.cps.toList ++ 39 :: t := by simpa using h
      obtain ⟨h2, h3⟩ := split_quote (sig_no39 hd.2) (sig_no39 he.2) h1
      refine ⟨?_, h3⟩
      obtain ⟨a⟩ := z
      obtain ⟨b⟩ := y
      have : a = b := Array.toList_inj.mp h2
      rw [this]
    | non => simp [tx] at h
    | tup ys => simp [tx] at h
    | int i => rw [tx, tx] at h; exact (int_head (i := i) (c := 39) (by decide) h.symm).elim
    | bl b => cases b <;> simp [tx] at h
    | _ => cases he
  | .lst _, _, _, _, hd, _, _, _, _ => by cases hd
  | .frz _, _, _, _, hd, _, _, _, _ => by cases hd
  | .loc _, _, _, _, hd, _, _, _, _ => by cases hd
  | .obj _, _, _, _, hd, _, _, _, _ => by cases hd
theorem txs_inj : ∀ (d e : List D) (s t : List Nat), niceBs d = true → niceBs e = true → stop s → stop t → txs d ++ s = txs e ++ t → d = e ∧ s = t
  | [], [], s, t, _, _, _, _, h => ⟨rfl, by simpa [txs] using h⟩
  | [], y :: ys, s, t, _, he, _, _, h => by
    rw [niceBs, Bool.and_eq_true] at he
    obtain ⟨c, r, h1, h2, _⟩ := tx_head he.1
    rw [txs, txs, h1] at h
    simp at h
    exact absurd h.1.symm h2
  | x :: xs, [], s, t, hd, _, _, _, h => by
    rw [niceBs, Bool.and_eq_true] at hd
    obtain ⟨c, r, h1, h2, _⟩ := tx_head hd.1
    rw [txs, txs, h1] at h
    simp at h
    exact absurd h.1 h2
  | x :: xs, y :: ys, s, t, hd, he, hs, ht, h => by
    rw [niceBs, Bool.and_eq_true] at hd he
    rw [txs, txs, List.append_assoc, List.append_assoc] at h
    have st1 : ∀ (xs : List D) (s : List Nat), stop (tail1 xs (txr xs) ++ s) := by
      intro xs s c r e
      cases xs with
      | nil => simp [tail1] at e; exact .inl e.1.symm
      | cons a xs => simp [tail1, txr] at e; exact .inl e.1.symm
    obtain ⟨h1, h2⟩ := tx_inj x y _ _ hd.1 he.1 (st1 xs s) (st1 ys t) h
    cases xs with
    | nil =>
      cases ys with
      | nil => exact ⟨by rw [h1], by simpa [tail1] using h2⟩
      | cons b ys => simp [tail1, txr] at h2
    | cons a xs =>
      cases ys with
      | nil => simp [tail1, txr] at h2
      | cons b ys =>
        obtain ⟨h3, h4⟩ := txr_inj (a :: xs) (b :: ys) s t hd.2 he.2 hs ht h2
        exact ⟨by rw [h1, h3], h4⟩
theorem txr_inj : ∀ (d e : List D) (s t : List Nat), niceBs d = true → niceBs e = true → stop s → stop t → txr d ++ s = txr e ++ t → d = e ∧ s = t
  | [], [], s, t, _, _, _, _, h => ⟨rfl, by simpa [txr] using h⟩
  | [], y :: ys, s, t, _, _, _, _, h => by rw [txr, txr] at h; simp at h
  | x :: xs, [], s, t, _, _, _, _, h => by rw [txr, txr] at h; simp at h
  | x :: xs, y :: ys, s, t, hd, he, hs, ht, h => by
    rw [niceBs, Bool.and_eq_true] at hd he
    rw [txr, txr] at h
    have h' : tx x ++ (txr xs ++ s) = tx y ++ (txr ys ++ t) := by simpa using h
    have st1 : ∀ (xs : List D) (s : List Nat), stop (txr xs ++ s) := by
      intro xs s c r e
      cases xs with
      | nil => rw [txr] at e; simp at e; exact .inr e.1.symm
      | cons a xs => rw [txr] at e; simp at e; exact .inl e.1.symm
    obtain ⟨h1, h2⟩ := tx_inj x y _ _ hd.1 he.1 (st1 xs s) (st1 ys t) h'
    obtain ⟨h3, h4⟩ := txr_inj xs ys s t hd.2 he.2 hs ht h2
    exact ⟨by rw [h1, h3], h4⟩
end
/-! ### rows tell the values -/
theorem leI_inj : ∀ (k : Nat) (i j : Int), 0 ≤ i → 0 ≤ j → i < 256 ^ k → j < 256 ^ k → leI k i = leI k j → i = j
  | 0, i, j, h1, h2, h3, h4, _ => by simp at h3 h4; omega
  | k + 1, i, j, h1, h2, h3, h4, h => by
    rw [leI, leI] at h
    by_cases a : 0 < i
    · by_cases b : 0 < j
      · rw [if_pos a, if_pos b] at h
        have h5 : i % 256 = j % 256 ∧ leI k (i / 256) = leI k (j / 256) := by simpa using h
        have := leI_inj k (i / 256) (j / 256) (by omega) (by omega) (drop_256 h3) (drop_256 h4) h5.2
        omega
      · rw [if_pos a, if_neg b] at h; cases h
    · by_cases b : 0 < j
      · rw [if_neg a, if_pos b] at h; cases h
      · omega
theorem be_inj {i j : Int} (h1 : 0 ≤ i) (h2 : 0 ≤ j) (h3 : i ≤ 18446744073709551616) (h4 : j ≤ 18446744073709551616) (h : beI i = beI j) : i = j := by
  unfold beI at h
  have := congrArg List.reverse h
  rw [List.reverse_reverse, List.reverse_reverse] at this
  exact leI_inj 9 i j h1 h2 (by omega) (by omega) this
mutual
theorem row_inj : ∀ (d e : D) (s t : List Int), rowOk d = true → rowOk e = true → rowD d ++ s = rowD e ++ t → d = e ∧ s = t
  | .tup xs, e, s, t, hd, he, h => by
    rw [rowOk] at hd
    cases e with
    | tup ys =>
      rw [rowOk] at he
      rw [rowD, rowD] at h
      have h1 : (xs.length : Int) / 256 = (ys.length : Int) / 256 ∧ (xs.length : Int) % 256 = (ys.length : Int) % 256 ∧ rowDs xs ++ s = rowDs ys ++ t := by simpa using h
      obtain ⟨h2, h3⟩ := rows_inj xs ys s t hd he (by omega) h1.2.2
      exact ⟨by rw [h2], h3⟩
    | int i => simp [rowD] at h
    | bl b => cases b <;> simp [rowD] at h
    | non => simp [rowD] at h
    | str z => simp [rowD] at h
    | _ => cases he
  | .non, e, s, t, _, he, h => by
    cases e with
    | non => exact ⟨rfl, by simpa [rowD] using h⟩
    | tup ys => simp [rowD] at h
    | int i => simp [rowD] at h
    | bl b => cases b <;> simp [rowD] at h
    | str z => simp [rowD] at h
    | _ => cases he
  | .bl a, e, s, t, _, he, h => by
    cases e with
    | bl b => cases a <;> cases b <;> simp [rowD] at h <;> exact ⟨rfl, h⟩
    | non => cases a <;> simp [rowD] at h
    | tup ys => cases a <;> simp [rowD] at h
    | str z => cases a <;> simp [rowD] at h
    | int i => cases a <;> simp [rowD] at h
    | _ => cases he
  | .int i, e, s, t, hd, he, h => by
    rw [rowOk, Bool.and_eq_true] at hd
    cases e with
    | int j =>
      rw [rowOk, Bool.and_eq_true] at he
      rw [rowD, rowD] at h
      have h1 : (beI i).length = (beI j).length ∧ beI i ++ s = beI j ++ t := by
        have : ((beI i).length : Int) = ((beI j).length : Int) ∧ beI i ++ s = beI j ++ t := by simpa using h
        exact ⟨by omega, this.2⟩
      obtain ⟨h2, h3⟩ := List.append_inj h1.2 h1.1
      exact ⟨by rw [be_inj (of_decide_eq_true hd.2) (of_decide_eq_true he.2) (of_decide_eq_true hd.1) (of_decide_eq_true he.1) h2], h3⟩
    | non => simp [rowD] at h
    | tup ys => simp [rowD] at h
    | str z => simp [rowD] at h
    | bl b => cases b <;> simp [rowD] at h
    | _ => cases he
  | .str z, e, s, t, hd, he, h => by
    cases e with
    | str y =>
      rw [rowD, rowD] at h
      have h1 : z.length = y.length ∧ ords z ++ s = ords y ++ t := by
        have : ((z.length : Nat) : Int) = ((y.length : Nat) : Int) ∧ ords z ++ s = ords y ++ t := by simpa using h
        exact ⟨by omega, this.2⟩
      have hl : (ords z).length = (ords y).length := by
        have a : (ords z).length = z.length := by rw [ords, List.length_map]; rfl
        have b : (ords y).length = y.length := by rw [ords, List.length_map]; rfl
        rw [a, b, h1.1]
      obtain ⟨h2, h3⟩ := List.append_inj h1.2 hl
      refine ⟨?_, h3⟩
      have h4 : z.cps.toList = y.cps.toList := by
        unfold ords at h2
        exact (List.map_inj_right (fun a b hab => by omega)).mp h2
      obtain ⟨a⟩ := z
      obtain ⟨b⟩ := y
      have : a = b := Array.toList_inj.mp h4
      rw [this]
    | non => simp [rowD] at h
    | tup ys => simp [rowD] at h
    | int i => simp [rowD] at h
    | bl b => cases b <;> simp [rowD] at h
    | _ => cases he
  | .lst _, _, _, _, hd, _, _ => by cases hd
  | .frz _, _, _, _, hd, _, _ => by cases hd
  | .loc _, _, _, _, hd, _, _ => by cases hd
  | .obj _, _, _, _, hd, _, _ => by cases hd
theorem rows_inj : ∀ (d e : List D) (s t : List Int), rowOks d = true → rowOks e = true → d.length = e.length → rowDs d ++ s = rowDs e ++ t → d = e ∧ s = t
  | [], [], s, t, _, _, _, h => ⟨rfl, by simpa [rowDs] using h⟩
  | [], _ :: _, _, _, _, _, hl, _ => by simp at hl
  | _ :: _, [], _, _, _, _, hl, _ => by simp at hl
  | x :: xs, y :: ys, s, t, hd, he, hl, h => by
    rw [rowOks, Bool.and_eq_true] at hd he
    rw [rowDs, rowDs, List.append_assoc, List.append_assoc] at h
    obtain ⟨h1, h2⟩ := row_inj x y _ _ hd.1 he.1 h
    obtain ⟨h3, h4⟩ := rows_inj xs ys s t hd.2 he.2 (by simpa using hl) h2
    exact ⟨by rw [h1, h3], h4⟩
end
mutual
theorem nice_row : ∀ {d : D}, niceB d = true → rowOk d = true
  | .tup xs, h => by rw [niceB] at h; rw [rowOk]; exact nices_row h
  | .non, _ => rfl
  | .bl _, _ => rfl
  | .int i, h => by rw [niceB, Bool.and_eq_true] at h; rw [rowOk, h.1, h.2]; rfl
  | .str z, h => by rw [niceB, Bool.and_eq_true] at h; rw [rowOk]; exact h.1
  | .lst _, h => by cases h
  | .frz _, h => by cases h
  | .loc _, h => by cases h
  | .obj _, h => by cases h
theorem nices_row : ∀ {d : List D}, niceBs d = true → rowOks d = true
  | [], _ => rfl
  | x :: xs, h => by
    rw [niceBs, Bool.and_eq_true] at h
    rw [rowOks, nice_row h.1, nices_row h.2]
    rfl
end
/-! ### what repr gives -/
theorem sig_char : ∀ c ∈ sigs, Builtin.Str.reprChar 39 c = [c] := by decide +kernel
theorem repr_str {z : Str} (h : (z.cps.toList.all fun c => sigs.contains c) = true) : (reprText z).cps.toList = 39 :: (z.cps.toList ++ [39]) := by
  have hq : reprQuote z = 39 := by
    unfold reprQuote
    have : z.cps.contains 39 = false := by
      rw [← Array.contains_toList]
      refine Bool.eq_false_iff.mpr fun hc => ?_
      exact sig_no39 h 39 (by simpa using hc) rfl
    rw [this]
    rfl
  have key : ∀ (l acc : List Nat), (∀ c ∈ l, c ∈ sigs) → (l.foldl (fun out c => out ++ (Builtin.Str.reprChar 39 c).toArray) acc.toArray) = (acc ++ l).toArray := by
    intro l
    induction l with
    | nil => intro acc _; simp
    | cons c l ih =>
      intro acc hl
      rw [List.foldl_cons, sig_char c (hl c List.mem_cons_self)]
      have := ih (acc ++ [c]) fun d hd => hl d (List.mem_cons_of_mem _ hd)
      simpa using this
  have hm : ∀ c ∈ z.cps.toList, c ∈ sigs := fun c hc => by
    have := List.all_eq_true.mp h c hc
    simpa using this
  unfold reprText
  rw [hq]
  show ((z.cps.foldl (fun out c => out ++ (Builtin.Str.reprChar 39 c).toArray) #[39]).push 39).toList = _
  rw [← Array.foldl_toList, key z.cps.toList [39] hm]
  simp
theorem shown_int {i : Int} (h : 0 ≤ i) : (PyData.shown (.int i)).cps.toList = digs i := by
  obtain ⟨m, rfl⟩ := Int.eq_ofNat_of_zero_le h
  exact PySem.W.KIN.signs_num m
mutual
theorem nice_pd : ∀ {d : D}, niceB d = true → ∃ p, toPD d = some p ∧ p.shown.cps.toList = tx d ∧ p.showable = true ∧ p.depth ≤ depthD d
  | .tup xs, h => by
    rw [niceB] at h
    obtain ⟨ps, h1, h2, h3, h4, h5⟩ := nices_pd h
    refine ⟨.tuple ps, by rw [toPD, h1]; rfl, ?_, h3, by rw [PyData.depth, depthD]; omega⟩
    rw [PyData.shown, tx]
    exact h2
  | .non, _ => ⟨.none, rfl, by rw [PyData.shown, tx]; rfl, rfl, Nat.zero_le _⟩
  | .bl b, _ => ⟨.bool b, rfl, by cases b <;> (rw [PyData.shown, tx]; rfl), rfl, Nat.zero_le _⟩
  | .int i, h => by
    rw [niceB, Bool.and_eq_true] at h
    have h1 := of_decide_eq_true h.1
    have h2 := of_decide_eq_true h.2
    refine ⟨.int i, rfl, by rw [tx]; exact shown_int h1, ?_, Nat.zero_le _⟩
    rw [PyData.showable]
    refine decide_eq_true ?_
    by_cases h0 : i.natAbs = 0
    · rw [h0]; decide
    · have : i.natAbs.log2 < 65 := (Nat.log2_lt h0).mpr (by omega)
      omega
  | .str z, h => by
    rw [niceB, Bool.and_eq_true] at h
    exact ⟨.str z, rfl, by rw [PyData.shown, tx]; exact repr_str h.2, rfl, Nat.zero_le _⟩
  | .lst _, h => by cases h
  | .frz _, h => by cases h
  | .loc _, h => by cases h
  | .obj _, h => by cases h
theorem nices_pd : ∀ {d : List D}, niceBs d = true → ∃ ps, toPDs d = some ps ∧ (tupleText (PyData.shownAll ps)).cps.toList = 40 :: txs d ∧ PyData.showableAll ps = true ∧ PyData.depthAll ps ≤ depthDs d ∧
    (d ≠ [] → (Str.join ", " (PyData.shownAll ps)).cps.toList ++ [41] = (match d with | [] => [] | x :: xs => tx x ++ txr xs) ∧ ps.length = d.length)
  | [], _ => ⟨[], rfl, rfl, rfl, Nat.zero_le _, fun h => absurd rfl h⟩
  | x :: xs, h => by
    rw [niceBs, Bool.and_eq_true] at h
    obtain ⟨p, h1, h2, h3, h4⟩ := nice_pd h.1
    obtain ⟨ps, k1, k2, k3, k4, k5⟩ := nices_pd h.2
    have e1 : toPDs (x :: xs) = some (p :: ps) := by rw [toPDs, h1, k1]
    have e2 : PyData.showableAll (p :: ps) = true := by rw [PyData.showableAll, h3, k3]; rfl
    have e3 : PyData.depthAll (p :: ps) ≤ depthDs (x :: xs) := by rw [PyData.depthAll, depthDs]; omega
    cases xs with
    | nil =>
      have : ps = [] := by
        rw [toPDs] at k1
        exact (Option.some.inj k1).symm
      subst this
      refine ⟨[p], e1, ?_, e2, e3, fun _ => ⟨?_, rfl⟩⟩
      · show (("(" : Str) ++ PyData.shown p ++ (",)" : Str)).cps.toList = 40 :: (tx x ++ [44, 41])
        rw [PyProof.Rows.cps_toList_append, PyProof.Rows.cps_toList_append, h2]
        rfl
      · show (PyData.shown p).cps.toList ++ [41] = tx x ++ [41]
        rw [h2]
    | cons y ys =>
      obtain ⟨m1, m2⟩ := k5 (by simp)
      cases ps with
      | nil => simp at m2
      | cons q qs =>
        have ej : (Str.join ", " (PyData.shownAll (p :: q :: qs))).cps.toList ++ [41] = tx x ++ txr (y :: ys) := by
          show ((PyData.shown p) ++ (", " : Str) ++ Str.join ", " (PyData.shownAll (q :: qs))).cps.toList ++ [41] = _
          rw [PyProof.Rows.cps_toList_append, PyProof.Rows.cps_toList_append, h2, List.append_assoc, m1, txr]
          simp
          rfl
        refine ⟨p :: q :: qs, e1, ?_, e2, e3, fun _ => ⟨ej, by simp only [List.length_cons] at m2 ⊢; omega⟩⟩
        have hl : ((PyData.shownAll (p :: q :: qs)).length == 1) = false := by
          simp [PyData.shownAll]
        unfold tupleText
        rw [hl]
        show (("(" : Str) ++ Str.join ", " (PyData.shownAll (p :: q :: qs)) ++ (")" : Str)).cps.toList = _
        rw [PyProof.Rows.cps_toList_append, PyProof.Rows.cps_toList_append, List.append_assoc]
        have e41 : ((")" : String) : Str).cps.toList = [41] := rfl
        rw [e41, ej, txs, tail1]
        rfl
end
end K61
namespace K61
open PySem PySem.Spec PyProof.Rows L2 Fl
/-! ### how long the texts are -/
theorem digs_len {i : Int} (h0 : 0 ≤ i) (h : i ≤ 18446744073709551616) : (digs i).length ≤ 20 := by
  unfold digs
  rw [List.length_map]
  exact PyProof.Rows.digits10_le (by decide) (by omega)
mutual
theorem tx_len : ∀ {d : D}, niceB d = true → (tx d).length + 2 ≤ 30 * sizeD d
  | .tup xs, h => by
    rw [niceB] at h
    have := txs_len h
    rw [tx, sizeD, List.length_cons]
    omega
  | .non, _ => by simp [tx, sizeD]
  | .bl b, _ => by cases b <;> simp [tx, sizeD]
  | .int i, h => by
    rw [niceB, Bool.and_eq_true] at h
    have := digs_len (of_decide_eq_true h.1) (of_decide_eq_true h.2)
    rw [tx, sizeD]; omega
  | .str z, h => by
    rw [niceB, Bool.and_eq_true] at h
    have h1 : z.cps.toList.length ≤ 20 := of_decide_eq_true h.1
    rw [tx, sizeD]
    simp only [List.length_cons, List.length_append, List.length_nil]; omega
  | .lst _, h => by cases h
  | .frz _, h => by cases h
  | .loc _, h => by cases h
  | .obj _, h => by cases h
theorem txs_len : ∀ {d : List D}, niceBs d = true → (txs d).length ≤ 30 * sizeDs d + 2
  | [], _ => by simp [txs]
  | x :: xs, h => by
    rw [niceBs, Bool.and_eq_true] at h
    have h1 := tx_len h.1
    have h2 := txr_len h.2
    rw [txs, sizeDs, List.length_append]
    cases xs with
    | nil => simp [tail1, sizeDs]; omega
    | cons y ys => simp only [tail1]; omega
theorem txr_len : ∀ {d : List D}, niceBs d = true → (txr d).length ≤ 30 * sizeDs d + 1
  | [], _ => by simp [txr]
  | x :: xs, h => by
    rw [niceBs, Bool.and_eq_true] at h
    have h1 := tx_len h.1
    have h2 := txr_len h.2
    rw [txr, sizeDs]
    simp only [List.length_cons, List.length_append]; omega
end
theorem str_ext {a b : Str} (h : a.cps.toList = b.cps.toList) : a = b := by
  obtain ⟨x⟩ := a
  obtain ⟨y⟩ := b
  have : x = y := Array.toList_inj.mp h
  rw [this]
/-- what repr gives of a value -/
def shownD (d : D) : Str := ⟨(tx d).toArray⟩
theorem repr_is {st : Store} {d : D} (h : niceB d = true) (hd : depthD d < 70) (hz : 30 * sizeD d ≤ 16777216) : bRepr [d] st = .ok (.str (shownD d)) st := by
  obtain ⟨p, h1, h2, h3, h4⟩ := nice_pd h
  have hl := tx_len h
  have e : p.shown = shownD d := str_ext (by rw [h2]; rfl)
  have hr : res st d = d := by
    cases d with
    | loc _ => cases h
    | _ => rfl
  unfold bRepr
  simp only [hr, h1]
  have ok : reprOk p := by
    refine ⟨h3, by omega, ?_⟩
    rw [e, sizeLine_eq]
    show (tx d).toArray.size ≤ _
    rw [List.size_toArray]; omega
  rw [if_pos ok, e]
theorem shown_eq {d e : D} (h1 : niceB d = true) (h2 : niceB e = true) : (shownD d == shownD e) = decide (shownD d = shownD e) := by
  by_cases h : shownD d = shownD e
  · rw [h]; simp
  · rw [decide_eq_false h]; exact beq_eq_false_iff_ne.mpr h
theorem shown_inj {d e : D} (h1 : niceB d = true) (h2 : niceB e = true) (h : shownD d = shownD e) : d = e := by
  have h3 : tx d = tx e := by
    have := congrArg (fun s : Str => s.cps.toList) h
    simpa [shownD] using this
  refine (tx_inj d e [] [] h1 h2 ?_ ?_ (by rw [List.append_nil, List.append_nil]; exact h3)).1
  · intro c r e; cases e
  · intro c r e; cases e
/-! rows are shown alike -/
mutual
theorem row_small : ∀ {d : D} {n : Nat}, niceB d = true → plainB d n = true → ∀ x ∈ rowD d, 0 ≤ x ∧ x ≤ 1000
  | .tup xs, n, h, hp => by
    rw [niceB] at h
    rw [plainB, Bool.and_eq_true, Bool.and_eq_true] at hp
    have hl : xs.length ≤ 1000 := of_decide_eq_true hp.1
    intro x hx
    rw [rowD] at hx
    simp only [List.mem_cons] at hx
    rcases hx with rfl | rfl | rfl | hx
    · decide
    · omega
    · omega
    · exact rows_small h hp.2.2 x hx
  | .non, _, _, _ => by intro x hx; simp [rowD] at hx; omega
  | .bl b, _, _, _ => by intro x hx; cases b <;> simp [rowD] at hx <;> omega
  | .int i, _, h, _ => by
    intro x hx
    rw [rowD] at hx
    have hl := be_len i
    simp only [List.mem_cons] at hx
    rcases hx with rfl | rfl | hx
    · decide
    · omega
    · unfold beI at hx
      have key : ∀ (k : Nat) (i : Int), ∀ x ∈ leI k i, 0 ≤ x ∧ x ≤ 1000 := by
        intro k
        induction k with
        | zero => intro i x hx; cases hx
        | succ k ih =>
          intro i x hx
          rw [leI] at hx
          split at hx
          · rcases List.mem_cons.mp hx with rfl | hx
            · omega
            · exact ih _ x hx
          · cases hx
      exact key 9 i x (List.mem_reverse.mp hx)
  | .str z, _, h, _ => by
    intro x hx
    rw [niceB, Bool.and_eq_true] at h
    have hl : z.length ≤ 20 := of_decide_eq_true h.1
    rw [rowD] at hx
    simp only [List.mem_cons] at hx
    rcases hx with rfl | rfl | hx
    · decide
    · omega
    · obtain ⟨c, hc, rfl⟩ := List.mem_map.mp hx
      have h2 := List.all_eq_true.mp h.2 c hc
      have h3 : c ∈ sigs := by simpa using h2
      have h4 : ∀ c ∈ sigs, c ≤ 1000 := by decide
      have := h4 c h3
      omega
  | .lst _, _, h, _ => by cases h
  | .frz _, _, h, _ => by cases h
  | .loc _, _, h, _ => by cases h
  | .obj _, _, h, _ => by cases h
theorem rows_small : ∀ {d : List D} {n : Nat}, niceBs d = true → plainBs d n = true → ∀ x ∈ rowDs d, 0 ≤ x ∧ x ≤ 1000
  | [], _, _, _ => by intro x hx; cases hx
  | y :: ys, n, h, hp => by
    rw [niceBs, Bool.and_eq_true] at h
    rw [plainBs, Bool.and_eq_true] at hp
    intro x hx
    rw [rowDs] at hx
    rcases List.mem_append.mp hx with hx | hx
    · exact row_small h.1 hp.1 x hx
    · exact rows_small h.2 hp.2 x hx
end
theorem pds_ints : ∀ row : List Int, toPDs (row.map D.int) = some (row.map PyData.int)
  | [] => rfl
  | x :: xs => by rw [List.map_cons, toPDs, toPD, pds_ints xs]; rfl
theorem text_len : ∀ (ts : List Str) (k : Nat) (acc : Str), (∀ t ∈ ts, t.length ≤ 4) → (textFrom k acc ts).length ≤ acc.length + 6 * ts.length
  | [], _, _, _ => by simp [textFrom]
  | t :: ts, k, acc, h => by
    rw [textFrom]
    have := text_len ts (k + 1) (acc ++ (if k > 0 then ", " else "" : String) ++ t) (fun u hu => h u (List.mem_cons_of_mem _ hu))
    have h1 := h t List.mem_cons_self
    rw [strLen_append, strLen_append] at this
    have h2 : ((if k > 0 then ", " else "" : String) : Str).length ≤ 2 := by split <;> decide
    simp only [List.length_cons]
    omega
theorem shownAll_len : ∀ row : List Int, (PyData.shownAll (row.map PyData.int)).length = row.length
  | [] => rfl
  | x :: l => by rw [List.map_cons, PyData.shownAll, List.length_cons, List.length_cons, shownAll_len l]
theorem repr_row {st : Store} {row : List Int} (hs : ∀ x ∈ row, 0 ≤ x ∧ x ≤ 1000) (hl : 6 * row.length + 2 ≤ 16777216) : ∃ z, bRepr [.lst (row.map D.int)] st = .ok (.str z) st := by
  have hp : toPD (.lst (row.map D.int)) = some (.list (row.map PyData.int)) := by rw [toPD, pds_ints]; rfl
  refine ⟨(PyData.list (row.map PyData.int)).shown, ?_⟩
  unfold bRepr
  have hr : res st (.lst (row.map D.int)) = .lst (row.map D.int) := rfl
  simp only [hr, hp]
  have sh : ∀ l : List Int, (∀ x ∈ l, 0 ≤ x ∧ x ≤ 1000) → PyData.showableAll (l.map PyData.int) = true ∧ PyData.depthAll (l.map PyData.int) = 0 ∧ ∀ t ∈ PyData.shownAll (l.map PyData.int), t.length ≤ 4 := by
    intro l
    induction l with
    | nil => intro _; exact ⟨rfl, rfl, fun t ht => by cases ht⟩
    | cons x l ih =>
      intro h
      obtain ⟨a, b, c⟩ := ih fun y hy => h y (List.mem_cons_of_mem _ hy)
      obtain ⟨h1, h2⟩ := h x List.mem_cons_self
      refine ⟨?_, ?_, ?_⟩
      · rw [List.map_cons, PyData.showableAll, a, PyData.showable, Bool.and_true]
        refine decide_eq_true ?_
        by_cases h0 : x.natAbs = 0
        · rw [h0]; decide
        · have : x.natAbs.log2 < 65 := (Nat.log2_lt h0).mpr (by omega)
          omega
      · rw [List.map_cons, PyData.depthAll, b, PyData.depth]; rfl
      · intro t ht
        rw [List.map_cons, PyData.shownAll] at ht
        rcases List.mem_cons.mp ht with rfl | ht
        · have e := shown_int h1
          have hl : (digs x).length ≤ 4 := by
            unfold digs
            rw [List.length_map]
            exact PyProof.Rows.digits10_le (by decide) (by omega)
          show (PyData.shown (.int x)).cps.size ≤ 4
          rw [← Array.length_toList, e]
          exact hl
        · exact c t ht
  obtain ⟨a, b, c⟩ := sh row hs
  have ok : reprOk (.list (row.map PyData.int)) := by
    refine ⟨a, by rw [PyData.depth, b]; decide, ?_⟩
    show (listText (PyData.shownAll (row.map PyData.int))).length ≤ _
    have ln := shownAll_len row
    have := text_len (PyData.shownAll (row.map PyData.int)) 0 "[" c
    rw [listText, strLen_append, sizeLine_eq]
    have e1 : (("[" : String) : Str).length = 1 := rfl
    have e2 : (("]" : String) : Str).length = 1 := rfl
    rw [e1, ln] at this
    rw [e2]
    omega
  rw [if_pos ok]
/-! ### draws -/
theorem cup_keeps {st : Store} {l : Nat} {c : Cup} {tl : Store} : st.length ≤ (st.set l c.so ++ tl).length ∧ ∀ (m : Nat) (so : SO), m < st.length → (st.set l c.so ++ tl)[m]? = some so → st[m]? = some so ∨ soLt st.length so = true := by
  have hl : (st.set l c.so).length = st.length := List.length_set
  refine ⟨by rw [List.length_append, hl]; exact Nat.le_add_right _ _, fun m so hm e => ?_⟩
  have hm' : m < (st.set l c.so).length := by omega
  rw [List.getElem?_append_left hm'] at e
  by_cases hml : m = l
  · subst hml
    rw [List.getElem?_set_self hm] at e
    cases e
    exact .inr rfl
  · rw [List.getElem?_set_ne (Ne.symm hml)] at e
    exact .inl e
theorem hide_cup {st : Store} {l : Nat} {c : Cup} {d : D} (h2 : locsLt st.length d = true) (hd : ∀ l, d ≠ .loc l) {tl : Store} : hideF st (.ok d (st.set l c.so ++ tl)) = .ok d (st.set l c.so) := by
  have hl : (st.set l c.so).length = st.length := List.length_set
  have hh : hand st.length (st.set l c.so ++ tl) d = d := by
    cases d with
    | loc l => exact absurd rfl (hd l)
    | _ => rfl
  have tk : (st.set l c.so ++ tl).take st.length = st.set l c.so := by rw [← hl, List.take_left]
  unfold hideF
  simp only
  rw [if_pos ⟨cup_keeps.1, cup_keeps.2, by rw [hh]; exact h2⟩, hh, tk]
theorem hide_cup0 {st : Store} {l : Nat} {c : Cup} {d : D} (h2 : locsLt st.length d = true) (hd : ∀ l, d ≠ .loc l) : hideF st (.ok d (st.set l c.so)) = .ok d (st.set l c.so) := by
  have := hide_cup (l := l) (c := c) h2 hd (tl := [])
  rwa [List.append_nil] at this
theorem hide_list {st : Store} {l : Nat} {c : Cup} {xs : List D} (h2 : locsLts st.length xs = true) : hideF st (.ok (.loc st.length) (st.set l c.so ++ [.lst xs])) = .ok (.lst xs) (st.set l c.so) := by
  have hl : (st.set l c.so).length = st.length := List.length_set
  have at_ : (st.set l c.so ++ [SO.lst xs])[st.length]? = some (.lst xs) := by rw [← hl]; exact new_at
  have hh : hand st.length (st.set l c.so ++ [.lst xs]) (.loc st.length) = .lst xs := by
    refine (if_neg (by omega)).trans ?_
    simp only [at_]
  have tk : (st.set l c.so ++ [SO.lst xs]).take st.length = st.set l c.so := by rw [← hl, List.take_left]
  unfold hideF
  simp only
  rw [if_pos ⟨cup_keeps.1, cup_keeps.2, by rw [hh]; exact h2⟩, hh, tk]
/-- a comprehension whose items draw from the cup -/
theorem compL_cup {fe : FE} {t : Tg} {env : Fl.Env} {l n : Nat} {P : D → Prop} (he : ∀ (d : D), ∃ env', bindT t d env = some env' ∧ ∀ (s : Store) (c : Cup), s.length = n + 1 → CupAt s l c → ∃ (y : D) (c' : Cup), fe env' s = .ok y (s.set l c'.so) ∧ c'.ok ∧ P y) :
    ∀ (ds : List D) (st : Store) (acc : List D) (c : Cup), st.length = n → CupAt st l c → acc.length + ds.length ≤ 16777216 →
      ∃ (ys : List D) (c' : Cup), compL fYes fe t env n [] ds (st ++ [.lst acc]) = .ok (.loc n) (st.set l c'.so ++ [.lst (acc ++ ys)]) ∧ c'.ok ∧ ys.length = ds.length ∧ ∀ y ∈ ys, P y
  | [], st, acc, c, hn, hc, _ => by
    have e : st.set l c.so = st := by
      have hl := (List.getElem?_eq_some_iff.mp hc.1)
      obtain ⟨h1, h2⟩ := hl
      rw [← h2]; simp
    refine ⟨[], c, ?_, hc.2, rfl, fun y hy => by cases hy⟩
    rw [compL, if_pos (by intro p h; cases h), e, List.append_nil]
  | d :: ds, st, acc, c, hn, hc, hz => by
    obtain ⟨env', h1, h2⟩ := he d
    have hl := (List.getElem?_eq_some_iff.mp hc.1).1
    obtain ⟨y, c', h3, h4, h5⟩ := h2 (st ++ [.lst acc]) c (by rw [List.length_append, hn]; rfl) ⟨by rw [List.getElem?_append_left hl]; exact hc.1, hc.2⟩
    rw [List.length_cons] at hz
    have e1 : (st ++ [SO.lst acc]).set l c'.so = st.set l c'.so ++ [.lst acc] := List.set_append_left _ _ hl
    have hn' : (st.set l c'.so).length = n := by rw [List.length_set]; exact hn
    have e2 : (st.set l c'.so ++ [SO.lst acc])[n]? = some (.lst acc) := by rw [← hn']; exact new_at
    have e3 : (st.set l c'.so ++ [SO.lst acc]).set n (.lst (acc ++ [y])) = st.set l c'.so ++ [.lst (acc ++ [y])] := by rw [← hn']; exact new_set
    obtain ⟨ys, c2, k1, k2, k3, k4⟩ := compL_cup he ds (st.set l c'.so) (acc ++ [y]) c' hn' (hc.set h4) (by rw [List.length_append, List.length_singleton]; omega)
    refine ⟨y :: ys, c2, ?_, k2, by rw [List.length_cons, List.length_cons, k3], fun z hz => ?_⟩
    · rw [compL, if_pos (by intro p h; cases h), h1]
      simp only [fYes]
      rw [h3]
      simp only [e1, e2]
      rw [if_pos (by rw [sizeLine_eq]; omega), e3, k1]
      rw [List.set_set, List.append_assoc, List.singleton_append]
    · rcases List.mem_cons.mp hz with rfl | hz
      · exact h5
      · exact k4 z hz
theorem fComp_cup {fi : FI} {fe : FE} {t : Tg} {vs : List Nat} {env : Fl.Env} {st st1 : Store} {l : Nat} {P : D → Prop} {I : IR} {c : Cup} (hi : fi env st = .ok I st1) (h1 : ∃ c0 : Cup, st1 = st.set l c0.so) (hs : I.src = []) (hz : I.items.length ≤ 16777216) (hc : CupAt st1 l c)
    (he : ∀ (d : D), ∃ env', bindT t d (wipeE env vs) = some env' ∧ ∀ (s : Store) (c : Cup), s.length = st.length + 1 → CupAt s l c → ∃ (y : D) (c' : Cup), fe env' s = .ok y (s.set l c'.so) ∧ c'.ok ∧ P y) (hp : ∀ y, P y → locsLt st.length y = true) :
    ∃ (ys : List D) (c' : Cup), fHide (fComp fi t fYes fe vs) env st = .ok (.lst ys) (st.set l c'.so) ∧ c'.ok ∧ ys.length = I.items.length ∧ ∀ y ∈ ys, P y := by
  obtain ⟨c0, rfl⟩ := h1
  have hl : (st.set l c0.so).length = st.length := List.length_set
  obtain ⟨ys, c', k1, k2, k3, k4⟩ := compL_cup (n := st.length) he I.items (st.set l c0.so) [] c hl hc (by simpa using hz)
  refine ⟨ys, c', ?_, k2, k3, k4⟩
  unfold fHide fComp
  rw [hi]
  show hideF st (compL fYes fe t (wipeE env vs) (st.set l c0.so).length I.src I.items (st.set l c0.so ++ [.lst []])) = _
  rw [hl, hs, k1, List.set_set, List.nil_append]
  refine hide_list ?_
  clear k1 k3
  induction ys with
  | nil => rfl
  | cons y ys ih =>
    rw [locsLts, hp y (k4 y List.mem_cons_self), ih fun z hz => k4 z (List.mem_cons_of_mem _ hz)]
    rfl
/-- what is drawn -/
structure Drawn (n : Nat) (d : D) : Prop where
  nice : niceB d = true
  plain : ∀ m, n ≤ m → plainB d m = true
  depth : depthD d ≤ n
  size : sizeD d ≤ 302 * 5 ^ n
theorem nice_val {d : D} (h : niceB d = true) : val d = true := row_val (nice_row h)
theorem Drawn.flat {d : D} (n : Nat) (h : niceB d = true) (hn : ∀ xs, d ≠ .tup xs) : Drawn n d := by
  have hp : 1 ≤ 5 ^ n := Nat.one_le_pow _ _ (by decide)
  cases d with
  | tup xs => exact absurd rfl (hn xs)
  | non => exact ⟨h, fun _ _ => rfl, by rw [depthD]; omega, by rw [sizeD]; omega⟩
  | bl b => exact ⟨h, fun _ _ => rfl, by rw [depthD]; omega, by rw [sizeD]; omega⟩
  | int i => exact ⟨h, fun _ _ => h, by rw [depthD]; omega, by rw [sizeD]; omega⟩
  | str z =>
    refine ⟨h, fun _ _ => ?_, by rw [depthD]; omega, by rw [sizeD]; omega⟩
    rw [niceB, Bool.and_eq_true] at h
    exact h.1
  | _ => cases h
end K61
namespace K61
open PySem PySem.Spec PyProof.Rows L2 Fl
noncomputable abbrev pA0 : FE := fCall F__law_some (fCons (fVar 0) (fCons (fLst (fCons (fC .non) (fCons (fC (.bl true)) (fCons (fC (.bl false)) (fCons (fC (.int 0)) (fCons (fC (.str "")) fNil)))))) fNil))
noncomputable abbrev pA1 : FE := fCall F__law_some (fCons (fVar 0) (fCons (fLst (fCons (fC (.int 1)) (fCons (fC (.int 255)) (fCons (fC (.int 256)) (fCons (fBin oPow (fC (.int 2)) (fC (.int 64))) (fCons (fBin oSub (fBin oPow (fC (.int 2)) (fC (.int 63))) (fC (.int 1))) (fCons (fCall F__law_roll (fCons (fVar 0) (fCons (fC (.int 70000)) fNil))) (fCons (fCall F__law_roll (fCons (fVar 0) (fCons (fBin oPow (fC (.int 10)) (fC (.int 18))) fNil))) fNil)))))))) fNil))
noncomputable abbrev pA2 : FE := fJoin (fC (.str "")) (fHide (fComp (fRng1 (fCall F__law_some (fCons (fVar 0) (fCons (fLst (fCons (fC (.int 1)) (fCons (fC (.int 2)) (fCons (fC (.int 20)) fNil)))) fNil)))) (.name 4) fYes (fCall F__law_some (fCons (fVar 0) (fCons (fCall bList (fCons (fC (.str "abzAZ09 ~!#")) fNil)) fNil))) [4]))
noncomputable abbrev pS3 : FE := fIf (fAnd (fBin oEq (fVar 2) (fC (.int 7))) (fBin oEq (fCall F__law_roll (fCons (fVar 0) (fCons (fC (.int 9)) fNil))) (fC (.int 0)))) (fC (.int 300)) (fCall F__law_roll (fCons (fVar 0) (fCons (fC (.int 5)) fNil)))
noncomputable abbrev pR4 (R : Fn) : FE := fIf (fBin oGt (fVar 3) (fC (.int 4))) (fBin oMul (fTup (fCons (fCall R (fCons (fVar 0) (fCons (fC (.int 0)) fNil))) fNil)) (fVar 3)) (fCall bTuple (fCons (fHide (fComp (fRng1 (fVar 3)) (.name 4) fYes (fCall R (fCons (fVar 0) (fCons (fBin oSub (fVar 1) (fC (.int 1))) fNil))) [4])) fNil))
theorem plain_shape (R : Fn) : g__law_plain R = sSeq (sSet 2 (fCall F__law_roll (fCons (fVar 0) (fCons (fIf (fBin oGt (fVar 1) (fC (.int 0))) (fC (.int 8)) (fC (.int 5))) fNil)))) (sSeq (sIf (fBin oEq (fVar 2) (fC (.int 0))) (sRet pA0) sSkip) (sSeq (sIf (fBin oLt (fVar 2) (fC (.int 4))) (sRet pA1) sSkip) (sSeq (sIf (fBin oEq (fVar 2) (fC (.int 4))) (sRet pA2) sSkip) (sSeq (sSet 3 pS3) (sRet (pR4 R)))))) := rfl
theorem so_set {st : Store} {l : Nat} {a b : Cup} : (st.set l a.so).set l b.so = st.set l b.so := List.set_set ..
theorem at_set {st : Store} {l : Nat} {c c' : Cup} (h : CupAt st l c) (k : c'.ok) : CupAt (st.set l c'.so) l c' := h.set k
/-- a flat value is drawn -/
def Flat (d : D) : Prop := niceB d = true ∧ ∀ xs, d ≠ .tup xs
theorem some_ok {st : Store} {l : Nat} {c : Cup} {xs : List D} (h : CupAt st l c) (h1 : xs ≠ []) (h2 : xs.length ≤ 16777216) : ∃ x ∈ xs, ∃ c' : Cup, F__law_some [.loc l, .lst xs] st = .ok x (st.set l c'.so) ∧ c'.ok := by
  obtain ⟨x, hx, e, _⟩ := some_is h h1 h2
  have hp : (0 : Int) < xs.length := by
    cases xs with
    | nil => exact absurd rfl h1
    | cons _ _ => simp only [List.length_cons]; omega
  exact ⟨x, hx, _, e, rollC_ok h.2 hp⟩
section
variable {st : Store} {l : Nat} {c : Cup} {x1 x2 x3 x4 : Option D}
theorem a0_is (h : CupAt st l c) : ∃ (d : D) (c' : Cup), pA0 [some (.loc l), x1, x2, x3, x4] st = .ok d (st.set l c'.so) ∧ c'.ok ∧ Flat d := by
  obtain ⟨x, hx, c', e, ok⟩ := some_ok (xs := [.non, .bl true, .bl false, .int 0, .str ""]) h (by simp) (by simp)
  refine ⟨x, c', ?_, ok, ?_⟩
  · simp only [pA0, e_call, e_cons, e_nil, e_lst, e_c, e_var, R.bind, List.getElem?_cons_zero, sizeLine_eq]
    exact e
  · simp only [List.mem_cons, List.not_mem_nil, or_false] at hx
    rcases hx with rfl | rfl | rfl | rfl | rfl <;> exact ⟨by decide, by intro xs e; cases e⟩
theorem a1_is (h : CupAt st l c) : ∃ (d : D) (c' : Cup), pA1 [some (.loc l), x1, x2, x3, x4] st = .ok d (st.set l c'.so) ∧ c'.ok ∧ Flat d := by
  have e1 := roll_is h (m := 70000) (by decide) (by decide)
  have h1 := roll_at h (m := 70000) (by decide) (by decide)
  have e2 := roll_is h1 (m := 1000000000000000000) (by decide) (by decide)
  have h2 := roll_at h1 (m := 1000000000000000000) (by decide) (by decide)
  obtain ⟨x, hx, c', e, ok⟩ := some_ok (xs := [.int 1, .int 255, .int 256, .int 18446744073709551616, .int 9223372036854775807, .int (rollN c 70000), .int (rollN (rollC c 70000) 1000000000000000000)]) h2 (by simp) (by simp)
  rw [so_set, so_set] at e
  have p1 : CPow 2 64 := by decide
  have p2 : CPow 2 63 := by decide
  have p3 : CPow 10 18 := by decide
  refine ⟨x, c', ?_, ok, ?_⟩
  · have q1 : (2 : Int) ^ (Int.toNat 64) = 18446744073709551616 := by decide
    have q2 : (2 : Int) ^ (Int.toNat 63) = 9223372036854775808 := by decide
    have q3 : (10 : Int) ^ (Int.toNat 18) = 1000000000000000000 := by decide
    simp only [pA1, e_call, e_cons, e_nil, e_lst, e_c, e_var, e_bin, R.bind, List.getElem?_cons_zero, oPow, p1, p2, p3, if_true, q1, q2, q3, oSub, e1, e2, sizeLine_eq]
    rw [so_set]
    exact e
  · have r1 := rollN_nonneg (c := c) (m := 70000) (by decide)
    have r2 := rollN_lt (c := c) (m := 70000) (by decide)
    have r3 := rollN_nonneg (c := rollC c 70000) (m := 1000000000000000000) (by decide)
    have r4 := rollN_lt (c := rollC c 70000) (m := 1000000000000000000) (by decide)
    simp only [List.mem_cons, List.not_mem_nil, or_false] at hx
    rcases hx with rfl | rfl | rfl | rfl | rfl | rfl | rfl
    · exact ⟨by decide, by intro xs e; cases e⟩
    · exact ⟨by decide, by intro xs e; cases e⟩
    · exact ⟨by decide, by intro xs e; cases e⟩
    · exact ⟨by decide, by intro xs e; cases e⟩
    · exact ⟨by decide, by intro xs e; cases e⟩
    · refine ⟨?_, by intro xs e; cases e⟩
      rw [niceB, Bool.and_eq_true]
      exact ⟨decide_eq_true r1, decide_eq_true (by omega)⟩
    · refine ⟨?_, by intro xs e; cases e⟩
      rw [niceB, Bool.and_eq_true]
      exact ⟨decide_eq_true r3, decide_eq_true (by omega)⟩
/-- one of the signs -/
def Sign (d : D) : Prop := ∃ c ∈ sigs, d = .str ⟨#[c]⟩
theorem sign_list {s : Store} {env : Fl.Env} : fCall bList (fCons (fC (.str "abzAZ09 ~!#")) fNil) env s = .ok (.lst (sigs.map fun c => .str ⟨#[c]⟩)) s := by
  have e : ((("abzAZ09 ~!#" : String) : Str).cps.toList) = sigs := by decide +kernel
  have e2 : (("abzAZ09 ~!#" : String) : Str).length ≤ 16777216 := by decide +kernel
  simp only [e_call, e_cons, e_nil, e_c, R.bind, bList, sizeLine_eq]
  rw [if_pos e2, e]
theorem signs_join : ∀ ys : List D, (∀ y ∈ ys, Sign y) → ∃ zs : List Str, strsOf ys = some zs ∧ zs.length = ys.length ∧ ∀ z ∈ zs, ∃ c ∈ sigs, z = ⟨#[c]⟩
  | [], _ => ⟨[], rfl, rfl, fun z hz => by cases hz⟩
  | y :: ys, h => by
    obtain ⟨zs, h1, h2, h3⟩ := signs_join ys fun z hz => h z (List.mem_cons_of_mem _ hz)
    obtain ⟨c, hc, rfl⟩ := h y List.mem_cons_self
    refine ⟨⟨#[c]⟩ :: zs, by rw [strsOf, h1]; rfl, by rw [List.length_cons, List.length_cons, h2], fun z hz => ?_⟩
    rcases List.mem_cons.mp hz with rfl | hz
    · exact ⟨c, hc, rfl⟩
    · exact h3 z hz
theorem sum_ones : ∀ zs : List Str, (∀ z ∈ zs, ∃ c ∈ sigs, z = ⟨#[c]⟩) → (zs.map (·.length)).sum = zs.length
  | [], _ => rfl
  | z :: zs, h => by
    obtain ⟨c, _, rfl⟩ := h z List.mem_cons_self
    rw [List.map_cons, List.sum_cons, sum_ones zs fun y hy => h y (List.mem_cons_of_mem _ hy), List.length_cons]
    have : Str.length ⟨#[c]⟩ = 1 := rfl
    omega
theorem joined_nice {zs : List Str} (hl : zs.length ≤ 20) (h : ∀ z ∈ zs, ∃ c ∈ sigs, z = ⟨#[c]⟩) : niceB (.str (Txt.join "" zs)) = true := by
  have h0 : (("" : String) : Str).length = 0 := rfl
  have h1 : (Txt.join "" zs).length = zs.length := by
    show (Builtin.Str.glued "" zs).length = _
    rw [size_glued, sum_ones zs h, h0]
    omega
  rw [niceB, Bool.and_eq_true]
  refine ⟨decide_eq_true (by rw [h1]; exact hl), List.all_eq_true.mpr fun c hc => ?_⟩
  have hc' : c ∈ (Str.join "" zs).cps.toList := by
    have : Txt.join "" zs = Str.join "" zs := PySem.StrLaws.glued_eq_join _ _
    rw [← this]; exact hc
  rcases (PyProof.Rows.mem_join "" c zs).mp hc' with ⟨t, ht, hm⟩ | ⟨_, hm⟩
  · obtain ⟨b, hb, rfl⟩ := h t ht
    have : c = b := by simpa using hm
    subst this
    simpa using hb
  · have e0 : (("" : String) : Str).cps.toList = [] := rfl
    rw [e0] at hm; cases hm
theorem a2_is {x1 x2 x3 x4 : Option D} (h : CupAt st l c) : ∃ (d : D) (c' : Cup), pA2 [some (.loc l), x1, x2, x3, x4] st = .ok d (st.set l c'.so) ∧ c'.ok ∧ Flat d := by
  obtain ⟨x, hx, c1, e, ok⟩ := some_ok (xs := [.int 1, .int 2, .int 20]) h (by simp) (by simp)
  have hm : ∃ m : Nat, x = .int (m : Nat) ∧ m ≤ 20 := by
    simp only [List.mem_cons, List.not_mem_nil, or_false] at hx
    rcases hx with rfl | rfl | rfl
    · exact ⟨1, rfl, by decide⟩
    · exact ⟨2, rfl, by decide⟩
    · exact ⟨20, rfl, by decide⟩
  obtain ⟨m, rfl, hm⟩ := hm
  have hl := (List.getElem?_eq_some_iff.mp h.1).1
  have hi : fRng1 (fCall F__law_some (fCons (fVar 0) (fCons (fLst (fCons (fC (.int 1)) (fCons (fC (.int 2)) (fCons (fC (.int 20)) fNil)))) fNil))) [some (.loc l), x1, x2, x3, x4] st = .ok ⟨(List.range m).map fun k => .int (0 + (k : Nat)), []⟩ (st.set l c1.so) := by
    have g1 : -(2 : Int) ^ 62 ≤ (m : Int) ∧ (m : Int) < 2 ^ 62 := by constructor <;> omega
    simp only [fRng1, e_call, e_cons, e_nil, e_lst, e_c, e_var, R.bind, List.getElem?_cons_zero, sizeLine_eq]
    have z3 : [D.int 1, .int 2, .int 20].length ≤ 16777216 := by simp
    rw [if_pos z3]
    simp only [e]
    rw [if_pos g1]
    rfl
  obtain ⟨ys, c2, k1, k2, k3, k4⟩ := fComp_cup (fe := fCall F__law_some (fCons (fVar 0) (fCons (fCall bList (fCons (fC (.str "abzAZ09 ~!#")) fNil)) fNil))) (t := .name 4) (vs := [4]) (P := Sign) hi ⟨c1, rfl⟩ rfl (by simp; omega) (at_set h ok) (fun d => by
    refine ⟨_, rfl, fun s c3 _ h3 => ?_⟩
    obtain ⟨y, hy, c4, e4, ok4⟩ := some_ok (xs := sigs.map fun c => D.str ⟨#[c]⟩) h3 (by simp [sigs]) (by simp [sigs])
    refine ⟨y, c4, ?_, ok4, ?_⟩
    · have hv : (fVar 0) (((wipeE [some (.loc l), x1, x2, x3, x4] [4]).set 4 (some d))) s = .ok (.loc l) s := by simp [e_var, wipeE]
      have sl := sign_list (s := s) (env := ((wipeE [some (.loc l), x1, x2, x3, x4] [4]).set 4 (some d)))
      rw [e_call, e_cons, hv]
      simp only [R.bind, e_cons, e_nil, sl]
      exact e4
    · obtain ⟨b, hb, rfl⟩ := List.mem_map.mp hy
      exact ⟨b, hb, rfl⟩) (fun y ⟨b, _, e⟩ => by subst e; rfl)
  obtain ⟨zs, z1, z2, z3⟩ := signs_join ys k4
  have hz : zs.length ≤ 20 := by
    rw [z2, k3]
    simpa using hm
  refine ⟨.str (Txt.join "" zs), c2, ?_, k2, joined_nice hz z3, by intro xs e; cases e⟩
  unfold pA2 fJoin
  rw [e_c]
  simp only [R.bind, k1, seqOf, lstOf, Option.bind_some, z1]
  have h0 : (("" : String) : Str).length = 0 := rfl
  rw [if_pos (by rw [sum_ones zs z3, h0]; omega)]
theorem a3_is {x1 x3 x4 : Option D} {way : Int} (h : CupAt st l c) : ∃ (m : Nat) (c' : Cup), pS3 [some (.loc l), x1, some (.int way), x3, x4] st = .ok (.int m) (st.set l c'.so) ∧ c'.ok ∧ (m ≤ 4 ∨ (m = 300 ∧ way = 7)) := by
  have e5 := fun (s : Store) (c : Cup) (h : CupAt s l c) => roll_is h (m := 5) (by decide) (by decide)
  have n5 := fun (c : Cup) => rollN_nonneg (c := c) (m := 5) (by decide)
  have l5 := fun (c : Cup) => rollN_lt (c := c) (m := 5) (by decide)
  by_cases hw : way = 7
  · subst hw
    have e9 := roll_is h (m := 9) (by decide) (by decide)
    have h9 := roll_at h (m := 9) (by decide) (by decide)
    by_cases h0 : rollN c 9 = 0
    · refine ⟨300, _, ?_, rollC_ok h.2 (m := 9) (by decide), .inr ⟨rfl, rfl⟩⟩
      simp [pS3, e_fif, e_and, e_bin, e_var, e_c, e_call, e_cons, e_nil, oEq, res, canEq, cmpD, depD, eqD, e9, h0]
    · obtain ⟨m, hm⟩ := Int.eq_ofNat_of_zero_le (n5 (rollC c 9))
      have := l5 (rollC c 9)
      refine ⟨m, rollC (rollC c 9) 5, ?_, rollC_ok h9.2 (m := 5) (by decide), .inl (by omega)⟩
      have hb : (rollN c 9 == 0) = false := beq_eq_false_iff_ne.mpr h0
      simp [pS3, e_fif, e_and, e_bin, e_var, e_c, e_call, e_cons, e_nil, oEq, res, canEq, cmpD, depD, eqD, e9, hb, e5 _ _ h9, hm]
  · obtain ⟨m, hm⟩ := Int.eq_ofNat_of_zero_le (n5 c)
    have := l5 c
    refine ⟨m, rollC c 5, ?_, rollC_ok h.2 (m := 5) (by decide), .inl (by omega)⟩
    have hb : (way == 7) = false := beq_eq_false_iff_ne.mpr hw
    simp [pS3, e_fif, e_and, e_bin, e_var, e_c, e_call, e_cons, e_nil, oEq, res, canEq, cmpD, depD, eqD, hb, e5 _ _ h, hm]
theorem times_one (d : D) (n : Nat) : times [d] (n : Int) = List.replicate n d := by
  unfold times
  rw [Int.toNat_natCast]
  induction n with
  | zero => rfl
  | succ n ih => rw [List.replicate_succ, List.flatten_cons, ih]; rfl
theorem all_of {f : D → Bool} {xs : List D} (h : ∀ x ∈ xs, f x = true) : xs.all f = true := List.all_eq_true.mpr h
theorem niceBs_all : ∀ xs : List D, niceBs xs = xs.all niceB
  | [] => rfl
  | x :: xs => by rw [niceBs, List.all_cons, niceBs_all xs]
theorem sizeDs_le {b : Nat} : ∀ {xs : List D}, (∀ x ∈ xs, sizeD x ≤ b) → sizeDs xs ≤ xs.length * b
  | [], _ => by simp [sizeDs]
  | x :: xs, h => by
    have h1 := h x List.mem_cons_self
    have h2 := sizeDs_le fun y hy => h y (List.mem_cons_of_mem x hy)
    rw [sizeDs, List.length_cons, Nat.succ_mul]
    omega
theorem depthDs_le {b : Nat} : ∀ {xs : List D}, (∀ x ∈ xs, depthD x ≤ b) → depthDs xs ≤ b
  | [], _ => Nat.zero_le _
  | x :: xs, h => by
    have h1 := h x List.mem_cons_self
    have h2 := depthDs_le fun y hy => h y (List.mem_cons_of_mem x hy)
    rw [depthDs]
    omega
/-- a tuple of drawn things -/
theorem Drawn.tup {n : Nat} {xs : List D} (h : ∀ x ∈ xs, Drawn n x) (hl : xs.length ≤ 4) : Drawn (n + 1) (.tup xs) := by
  refine ⟨by rw [niceB, niceBs_all]; exact all_of fun x hx => (h x hx).nice, fun m hm => ?_, ?_, ?_⟩
  · rw [plainB, plainBs_all, decide_eq_true (by omega : xs.length ≤ 1000), decide_eq_true (by omega : m ≠ 0)]
    exact all_of fun x hx => (h x hx).plain (m - 1) (by omega)
  · have := depthDs_le fun x hx => (h x hx).depth
    rw [depthD]; omega
  · have h1 := sizeDs_le fun x hx => (h x hx).size
    have hp : 1 ≤ 5 ^ n := Nat.one_le_pow _ _ (by decide)
    have h2 : xs.length * (302 * 5 ^ n) ≤ 4 * (302 * 5 ^ n) := Nat.mul_le_mul_right _ hl
    rw [sizeD, Nat.pow_succ]
    omega
theorem Drawn.many {n m : Nat} {d : D} (h : Flat d) (hm : m ≤ 300) : Drawn (n + 1) (.tup (List.replicate m d)) := by
  have hd := Drawn.flat 0 h.1 h.2
  have mem : ∀ x ∈ List.replicate m d, x = d := fun x hx => (List.mem_replicate.mp hx).2
  refine ⟨by rw [niceB, niceBs_all]; exact all_of fun x hx => by rw [mem x hx]; exact h.1, fun k hk => ?_, ?_, ?_⟩
  · rw [plainB, plainBs_all, decide_eq_true (by rw [List.length_replicate]; omega : (List.replicate m d).length ≤ 1000), decide_eq_true (by omega : k ≠ 0)]
    exact all_of fun x hx => by rw [mem x hx]; exact hd.plain (k - 1) (Nat.zero_le _)
  · have := depthDs_le (b := 0) (xs := List.replicate m d) fun x hx => by rw [mem x hx]; exact hd.depth
    rw [depthD]; omega
  · have h1 : sizeD d ≤ 1 := by
      obtain ⟨_, hn⟩ := h
      cases d with
      | tup xs => exact absurd rfl (hn xs)
      | _ => simp [sizeD]
    have h2 := sizeDs_le (b := 1) (xs := List.replicate m d) fun x hx => by rw [mem x hx]; exact h1
    rw [List.length_replicate] at h2
    have hp : 1 ≤ 5 ^ n := Nat.one_le_pow _ _ (by decide)
    rw [sizeD, Nat.pow_succ]
    omega
theorem plain_is : ∀ (k n : Nat) (st : Store) (l : Nat) (c : Cup), n < k → n ≤ 10 → CupAt st l c → ∃ (d : D) (c' : Cup), F__law_plain k [.loc l, .int n] st = .ok d (st.set l c'.so) ∧ c'.ok ∧ Drawn n d ∧ (n = 0 → Flat d) := by
  intro k
  induction k with
  | zero => intro n st l c h; exact absurd h (Nat.not_lt_zero _)
  | succ k ih =>
    intro n st l c hk hn h
    show ∃ (d : D) (c' : Cup), Fn.hide (fnA 2 5 (g__law_plain (F__law_plain k))) [.loc l, .int n] st = .ok d (st.set l c'.so) ∧ _
    unfold Fn.hide fnA fnOf
    rw [plain_shape, if_pos (show ([D.loc l, D.int (n : Nat)]).length = 2 from rfl), e_seq]
    -- the first draw
    obtain ⟨m, hm, hm0, e0⟩ : ∃ m : Int, (m = 5 ∨ (m = 8 ∧ 0 < n)) ∧ 0 < m ∧ (sSet 2 (fCall F__law_roll (fCons (fVar 0) (fCons (fIf (fBin oGt (fVar 1) (fC (.int 0))) (fC (.int 8)) (fC (.int 5))) fNil)))) (startE 5 [.loc l, .int n]) st = .nx [some (.loc l), some (.int n), some (.int (rollN c m)), none, none] (st.set l (rollC c m).so) := by
      by_cases hz : 0 < n
      · have e := roll_is h (m := 8) (by decide) (by decide)
        have hz' : (0 : Int) < n := by omega
        exact ⟨8, .inr ⟨rfl, hz⟩, by decide, by simp [e_set, e_call, e_cons, e_nil, e_var, e_fif, e_bin, e_c, oGt, oIC, startE, hz', hz, e]⟩
      · have e := roll_is h (m := 5) (by decide) (by decide)
        have hz' : ¬ (0 : Int) < n := by omega
        exact ⟨5, .inl rfl, by decide, by simp [e_set, e_call, e_cons, e_nil, e_var, e_fif, e_bin, e_c, oGt, oIC, startE, hz', hz, e]⟩
    rw [e0]
    simp only
    have r0 := rollN_nonneg (c := c) hm0
    have r1 := rollN_lt (c := c) hm0
    have h1 := h.set (rollC_ok h.2 hm0)
    generalize hw : rollN c m = way at r0 r1
    generalize hc1 : rollC c m = c1 at h1
    -- ends by a value drawn
    have fin : ∀ (d : D) (c2 : Cup), Drawn n d → hideF st (.ok d (st.set l c2.so)) = .ok d (st.set l c2.so) := fun d c2 hd => hide_cup0 (val_lt (nice_val hd.nice)) (by
      intro q e
      subst e
      exact absurd hd.nice (by simp [niceB]))
    rw [e_seq, e_if]
    by_cases w0 : way = 0
    · obtain ⟨d, c2, e, ok, fl⟩ := a0_is (x1 := some (.int n)) (x2 := some (.int way)) (x3 := none) (x4 := none) h1
      rw [so_set] at e
      have t : (fBin oEq (fVar 2) (fC (.int 0))) [some (.loc l), some (.int n), some (.int way), none, none] (st.set l c1.so) = .ok (.bl true) (st.set l c1.so) := by simp [e_bin, e_var, e_c, oEq, res, canEq, cmpD, depD, eqD, w0]
      refine ⟨d, c2, ?_, ok, .flat n fl.1 fl.2, fun _ => fl⟩
      rw [t]
      simp only [e_ret, e]
      exact fin d c2 (.flat n fl.1 fl.2)
    have t0 : (fBin oEq (fVar 2) (fC (.int 0))) [some (.loc l), some (.int n), some (.int way), none, none] (st.set l c1.so) = .ok (.bl false) (st.set l c1.so) := by
      have : (way == 0) = false := beq_eq_false_iff_ne.mpr w0
      simp [e_bin, e_var, e_c, oEq, res, canEq, cmpD, depD, eqD, this]
    rw [t0]
    simp only [e_skip]
    rw [e_seq, e_if]
    by_cases w4 : way < 4
    · obtain ⟨d, c2, e, ok, fl⟩ := a1_is (x1 := some (.int n)) (x2 := some (.int way)) (x3 := none) (x4 := none) h1
      rw [so_set] at e
      have t : (fBin oLt (fVar 2) (fC (.int 4))) [some (.loc l), some (.int n), some (.int way), none, none] (st.set l c1.so) = .ok (.bl true) (st.set l c1.so) := by simp [e_bin, e_var, e_c, oLt, w4]
      refine ⟨d, c2, ?_, ok, .flat n fl.1 fl.2, fun _ => fl⟩
      rw [t]
      simp only [e_ret, e]
      exact fin d c2 (.flat n fl.1 fl.2)
    have t1 : (fBin oLt (fVar 2) (fC (.int 4))) [some (.loc l), some (.int n), some (.int way), none, none] (st.set l c1.so) = .ok (.bl false) (st.set l c1.so) := by simp [e_bin, e_var, e_c, oLt, w4]
    rw [t1]
    simp only [e_skip]
    rw [e_seq, e_if]
    by_cases w5 : way = 4
    · obtain ⟨d, c2, e, ok, fl⟩ := a2_is (x1 := some (.int n)) (x2 := some (.int way)) (x3 := none) (x4 := none) h1
      rw [so_set] at e
      have t : (fBin oEq (fVar 2) (fC (.int 4))) [some (.loc l), some (.int n), some (.int way), none, none] (st.set l c1.so) = .ok (.bl true) (st.set l c1.so) := by simp [e_bin, e_var, e_c, oEq, res, canEq, cmpD, depD, eqD, w5]
      refine ⟨d, c2, ?_, ok, .flat n fl.1 fl.2, fun _ => fl⟩
      rw [t]
      simp only [e_ret, e]
      exact fin d c2 (.flat n fl.1 fl.2)
    have t2 : (fBin oEq (fVar 2) (fC (.int 4))) [some (.loc l), some (.int n), some (.int way), none, none] (st.set l c1.so) = .ok (.bl false) (st.set l c1.so) := by
      have : (way == 4) = false := beq_eq_false_iff_ne.mpr w5
      simp [e_bin, e_var, e_c, oEq, res, canEq, cmpD, depD, eqD, this]
    rw [t2]
    simp only [e_skip]
    -- a tuple
    have hn0 : 0 < n := by
      rcases hm with rfl | ⟨_, z⟩
      · omega
      · exact z
    obtain ⟨n', rfl⟩ : ∃ n', n = n' + 1 := ⟨n - 1, by omega⟩
    obtain ⟨mn, c2, e3, ok3, hmn⟩ := a3_is (x1 := some (.int ((n' + 1 : Nat) : Int))) (x3 := none) (x4 := none) (way := way) h1
    rw [so_set] at e3
    have h2 := h.set ok3
    rw [e_seq, e_set, e3]
    simp only [List.set_cons_succ, List.set_cons_zero, e_ret, pR4]
    by_cases big : 4 < mn
    · have mn300 : mn = 300 := by omega
      obtain ⟨d, c3, e4, ok4, _, fl⟩ := ih 0 (st.set l c2.so) l c2 (by omega) (by omega) h2
      rw [so_set] at e4
      have e4' : F__law_plain k [.loc l, .int 0] (st.set l c2.so) = .ok d (st.set l c3.so) := e4
      have t : (fBin oGt (fVar 3) (fC (.int 4))) [some (.loc l), some (.int ((n' + 1 : Nat) : Int)), some (.int way), some (.int mn), none] (st.set l c2.so) = .ok (.bl true) (st.set l c2.so) := by
        have : (4 : Int) < mn := by omega
        simp [e_bin, e_var, e_c, oGt, oIC, this]
      have hd : Drawn (n' + 1) (.tup (List.replicate mn d)) := .many (fl rfl) (by omega)
      refine ⟨.tup (List.replicate mn d), c3, ?_, ok4, hd, fun z => absurd z (by omega)⟩
      have e5 : (fBin oMul (fTup (fCons (fCall (F__law_plain k) (fCons (fVar 0) (fCons (fC (.int 0)) fNil))) fNil)) (fVar 3)) [some (.loc l), some (.int ((n' + 1 : Nat) : Int)), some (.int way), some (.int mn), none] (st.set l c2.so) = .ok (.tup (List.replicate mn d)) (st.set l c3.so) := by
        have z1 : [d].length * (mn : Int).toNat ≤ 1000000 ∧ (mn : Int).natAbs ≤ 1000000 := by
          rw [mn300]; constructor <;> simp
        simp only [e_bin, e_tup, e_cons, e_nil, e_call, e_var, e_c, R.bind, List.getElem?_cons_zero, List.getElem?_cons_succ, e4', sizeLine_eq]
        rw [if_pos (by simp)]
        simp only [oMul]
        rw [if_pos z1, times_one]
      rw [fif_t t, e5]
      exact fin _ _ hd
    · have t : (fBin oGt (fVar 3) (fC (.int 4))) [some (.loc l), some (.int ((n' + 1 : Nat) : Int)), some (.int way), some (.int mn), none] (st.set l c2.so) = .ok (.bl false) (st.set l c2.so) := by
        have : ¬ (4 : Int) < mn := by omega
        simp [e_bin, e_var, e_c, oGt, oIC, this]
      have hi : fRng1 (fVar 3) [some (.loc l), some (.int ((n' + 1 : Nat) : Int)), some (.int way), some (.int mn), none] (st.set l c2.so) = .ok ⟨(List.range mn).map fun k => .int (0 + (k : Nat)), []⟩ (st.set l c2.so) := by
        exact rng1_is (by simp [e_var]) (by omega)
      obtain ⟨ys, c4, k1, k2, k3, k4⟩ := fComp_cup (st := st.set l c2.so) (fe := fCall (F__law_plain k) (fCons (fVar 0) (fCons (fBin oSub (fVar 1) (fC (.int 1))) fNil))) (t := .name 4) (vs := [4]) (P := Drawn n') hi ⟨c2, by rw [so_set]⟩ rfl (by simp; omega) h2 (fun d => by
        refine ⟨_, rfl, fun s c3 _ h3 => ?_⟩
        obtain ⟨y, c4, e4, ok4, dr, _⟩ := ih n' s l c3 (by omega) (by omega) h3
        refine ⟨y, c4, ?_, ok4, dr⟩
        have es : ((n' + 1 : Nat) : Int) - 1 = (n' : Nat) := by omega
        have ev : (fCall (F__law_plain k) (fCons (fVar 0) (fCons (fBin oSub (fVar 1) (fC (.int 1))) fNil))) ((wipeE [some (.loc l), some (.int ((n' + 1 : Nat) : Int)), some (.int way), some (.int mn), none] [4]).set 4 (some d)) s = F__law_plain k [.loc l, .int (((n' + 1 : Nat) : Int) - 1)] s := by
          generalize ((n' + 1 : Nat) : Int) = nn
          simp [e_call, e_cons, e_nil, e_bin, e_var, e_c, wipeE, oSub]
        rw [ev, es]
        exact e4) (fun y dr => val_lt (nice_val dr.nice))
      rw [so_set] at k1
      have hd : Drawn (n' + 1) (.tup ys) := .tup k4 (by rw [k3]; simp; omega)
      refine ⟨.tup ys, c4, ?_, k2, hd, fun z => absurd z (by omega)⟩
      have e5 : (fCall bTuple (fCons (fHide (fComp (fRng1 (fVar 3)) (.name 4) fYes (fCall (F__law_plain k) (fCons (fVar 0) (fCons (fBin oSub (fVar 1) (fC (.int 1))) fNil))) [4])) fNil)) [some (.loc l), some (.int ((n' + 1 : Nat) : Int)), some (.int way), some (.int mn), none] (st.set l c2.so) = .ok (.tup ys) (st.set l c4.so) := by
        rw [e_call, e_cons, k1]
        rfl
      rw [fif_f t, e5]
      exact fin _ _ hd
end
end K61
namespace K61
open PySem PySem.Spec PyProof.Rows L2 Fl
/-- a value that the law may ask about -/
structure Fit (d : D) : Prop where
  nice : niceB d = true
  plain : plainB d 60 = true
  depth : depthD d < 70
  size : 140 * sizeD d ≤ 16777216
theorem Fit.good {d : D} (h : Fit d) : Good d := ⟨nice_row h.nice, by have := h.size; omega, h.depth⟩
theorem Fit.val {d : D} (h : Fit d) : val d = true := nice_val h.nice
theorem Fit.size30 {d : D} (h : Fit d) : 30 * sizeD d ≤ 16777216 := by have := h.size; omega
theorem fit_of {n : Nat} {d : D} (h : Drawn n d) (hn : n ≤ 3) : Fit d := by
  have h5 : 5 ^ n ≤ 125 := Nat.le_trans (Nat.pow_le_pow_right (by decide) hn) (by decide)
  have := h.size
  have := h.depth
  exact ⟨h.nice, h.plain 60 (by omega), by omega, by omega⟩
theorem fit_one {d : D} (h : Drawn 3 d) : Fit (.tup [d]) := by
  have h1 := h.size
  have h2 := h.depth
  have h3 := h.plain 59 (by decide)
  have h4 := h.nice
  refine ⟨by rw [niceB, niceBs, h4, niceBs]; rfl, ?_, by rw [depthD, depthDs, depthDs]; omega, by rw [sizeD, sizeDs, sizeDs]; omega⟩
  rw [plainB, plainBs, h3, plainBs]
  rfl
section
variable {env : Fl.Env} {s : Store} {f g : FE} {d : D}
theorem str_ne {x : Str} : oNe (.str x) (.str x) s = .ok (.bl false) s := by simp [oNe, res, canEq, cmpD, depD, eqD]
theorem rowNe (h : Fit d) (hf : f env s = .ok (.tup ((rowD d).map D.int)) s) (hg : g env s = .ok d s) :
    fBin oNe (fCall bRepr (fCons (fCall bList (fCons f fNil)) fNil)) (fCall bRepr (fCons (fCall (F__law_row 70) (fCons g fNil)) fNil)) env s = .ok (.bl false) s := by
  have hl := row_len (nice_row h.nice)
  have hz := h.size
  obtain ⟨z, hz⟩ := repr_row (st := s) (row := rowD d) (row_small h.nice h.plain) (by omega)
  have e1 : fCall bList (fCons f fNil) env s = .ok (.lst ((rowD d).map D.int)) s := by rw [call_ok (cons_ok hf e_nil)]; rfl
  have e2 : fCall (F__law_row 70) (fCons g fNil) env s = .ok (.lst ((rowD d).map D.int)) s := by rw [call_ok (cons_ok hg e_nil)]; exact lawrow_is 70 d h.good.row h.depth h.good.len
  rw [bin_ok (d := .str z) (e := .str z) (s1 := s) (s2 := s) (by rw [call_ok (cons_ok e1 e_nil)]; exact hz) (by rw [call_ok (cons_ok e2 e_nil)]; exact hz), str_ne]
theorem digN_range {base : Int} (hb : 0 < base) (row : List Int) : 0 ≤ digN base row ∧ digN base row < base := dig_range hb row _ (Int.emod_nonneg _ (by omega)) (Int.emod_lt_of_pos _ hb)
theorem digNe {fb : FE} {base : Int} (h : Fit d) (h1 : 2 ≤ base) (h2 : base ≤ 2305843009213693951) (hb : fb env s = .ok (.int base) s) (hg : g env s = .ok d s) :
    fBin oNe (fCall bRepr (fCons (fCall F_digest_of (fCons fb (fCons g fNil))) fNil)) (fCall bRepr (fCons (fCall F__law_digest (fCons fb (fCons g fNil))) fNil)) env s = .ok (.bl false) s := by
  obtain ⟨r1, r2⟩ := digN_range (by omega : 0 < base) (rowD d)
  have hr := repr_is (st := s) (d := .int (digN base (rowD d))) (by rw [niceB, decide_eq_true r1, decide_eq_true (by omega)]; rfl) (by rw [depthD]; omega) (by rw [sizeD]; omega)
  have e1 : fCall F_digest_of (fCons fb (fCons g fNil)) env s = .ok (.int (digN base (rowD d))) s := by rw [call_ok (cons_ok hb (cons_ok hg e_nil))]; exact digestof_is h.good h.plain h1 h2
  have e2 : fCall F__law_digest (fCons fb (fCons g fNil)) env s = .ok (.int (digN base (rowD d))) s := by rw [call_ok (cons_ok hb (cons_ok hg e_nil))]; exact lawdigest_is h.good (by omega) (by omega)
  rw [bin_ok (s1 := s) (s2 := s) (by rw [call_ok (cons_ok e1 e_nil)]; exact hr) (by rw [call_ok (cons_ok e2 e_nil)]; exact hr), str_ne]
theorem eq_ints : ∀ a b : List Int, eqDs (a.map D.int) (b.map D.int) = decide (a = b)
  | [], [] => rfl
  | [], _ :: _ => rfl
  | _ :: _, [] => rfl
  | x :: a, y :: b => by
    rw [List.map_cons, List.map_cons, eqDs, eq_ints a b, eqD]
    by_cases h : x = y
    · subst h; simp
    · simp [h]
theorem cmp_ints : ∀ a b : List Int, cmpDs (a.map D.int) (b.map D.int) = true
  | [], _ => by cases ‹List Int› <;> rfl
  | _ :: _, [] => rfl
  | x :: a, y :: b => by rw [List.map_cons, List.map_cons, cmpDs, cmp_ints a b, cmpD]; rfl
theorem dep_ints : ∀ a : List Int, depDs (a.map D.int) = 0
  | [] => rfl
  | x :: a => by rw [List.map_cons, depDs, dep_ints a]; rfl
/-- rows are alike as the values' texts are -/
theorem same_is {e : D} {fr fm fv fo : FE} (hd : Fit d) (he : Fit e) (h1 : fr env s = .ok (.tup ((rowD d).map D.int)) s) (h2 : fm env s = .ok (.tup ((rowD e).map D.int)) s) (h3 : fv env s = .ok d s) (h4 : fo env s = .ok e s) :
    fBin oNe (fBin oEq fr fm) (fBin oEq (fCall bRepr (fCons fv fNil)) (fCall bRepr (fCons fo fNil))) env s = .ok (.bl false) s := by
  have e1 : fBin oEq fr fm env s = .ok (.bl (decide (rowD d = rowD e))) s := by
    rw [bin_ok h1 h2]
    unfold oEq
    have c : canEq (res s (.tup ((rowD d).map D.int))) (res s (.tup ((rowD e).map D.int))) = true := by
      show (cmpD (.tup ((rowD d).map D.int)) (.tup ((rowD e).map D.int)) && decide (min (depD (.tup ((rowD d).map D.int))) (depD (.tup ((rowD e).map D.int))) ≤ 100)) = true
      rw [cmpD, cmp_ints, depD, depD, dep_ints, dep_ints]; rfl
    rw [if_pos c]
    show R.ok (D.bl (eqD (.tup ((rowD d).map D.int)) (.tup ((rowD e).map D.int)))) s = _
    rw [eqD, eq_ints]
  have r1 := repr_is (st := s) hd.nice hd.depth hd.size30
  have r2 := repr_is (st := s) he.nice he.depth he.size30
  have e2 : fBin oEq (fCall bRepr (fCons fv fNil)) (fCall bRepr (fCons fo fNil)) env s = .ok (.bl (decide (shownD d = shownD e))) s := by
    rw [bin_ok (s1 := s) (s2 := s) (by rw [call_ok (cons_ok h3 e_nil)]; exact r1) (by rw [call_ok (cons_ok h4 e_nil)]; exact r2)]
    rw [← shown_eq hd.nice he.nice]
    simp [oEq, res, canEq, cmpD, depD, eqD]
  have e3 : decide (rowD d = rowD e) = decide (shownD d = shownD e) := by
    by_cases h : d = e
    · subst h; simp
    · rw [decide_eq_false fun q => h (row_inj d e [] [] (nice_row hd.nice) (nice_row he.nice) (by rw [q])).1, decide_eq_false fun q => h (shown_inj hd.nice he.nice q)]
  rw [bin_ok e1 e2, e3]
  cases decide (shownD d = shownD e) <;> simp [oNe, res, canEq, cmpD, depD, eqD]
end
/-! nests -/
def nest : Nat → D
  | 0 => .tup []
  | k + 1 => .tup [nest k]
theorem nest_facts : ∀ k, niceB (nest k) = true ∧ depthD (nest k) = k + 1 ∧ sizeD (nest k) = k + 1 ∧ (∀ n, plainB (nest k) n = decide (k < n))
  | 0 => ⟨rfl, rfl, rfl, fun n => by
    by_cases h : n = 0
    · subst h; rfl
    · have : 0 < n := by omega
      simp [nest, plainB, plainBs, h, this]⟩
  | k + 1 => by
    obtain ⟨a, b, c, e⟩ := nest_facts k
    refine ⟨by rw [nest, niceB, niceBs, a, niceBs]; rfl, by rw [nest, depthD, depthDs, b, depthDs]; omega, by rw [nest, sizeD, sizeDs, c, sizeDs], fun n => ?_⟩
    rw [nest, plainB, plainBs, e, plainBs]
    by_cases h : n = 0
    · subst h; simp
    · by_cases h2 : k < n - 1
      · rw [decide_eq_true h, decide_eq_true h2, decide_eq_true (by omega : k + 1 < n)]; rfl
      · rw [decide_eq_true h, decide_eq_false h2, decide_eq_false (by omega : ¬ k + 1 < n)]; rfl
theorem fit_nest : Fit (nest 59) := by
  obtain ⟨a, b, c, e⟩ := nest_facts 59
  exact ⟨a, by rw [e]; rfl, by omega, by omega⟩
theorem nest_loop {s : Store} {x0 x1 x3 x4 x5 x6 x9 x10 : Option D} : ∀ (ds : List D) (v : Option D) (k : Nat) (x8 : Option D), ∃ (y8 : Option D), forL (sSeq (sSet 2 (fVar 7)) (sSet 7 (fTup (fCons (fVar 7) fNil)))) (.name 8) [] ds [x0, x1, v, x3, x4, x5, x6, some (nest k), x8, x9, x10] s =
    .nx [x0, x1, (if ds = [] then v else some (nest (k + ds.length - 1))), x3, x4, x5, x6, some (nest (k + ds.length)), y8, x9, x10] s
  | [], v, k, x8 => ⟨x8, by rw [forL_nil]; rfl⟩
  | d :: ds, v, k, x8 => by
    obtain ⟨y8, h⟩ := nest_loop (s := s) (x0 := x0) (x1 := x1) (x3 := x3) (x4 := x4) (x5 := x5) (x6 := x6) (x9 := x9) (x10 := x10) ds (some (nest k)) (k + 1) (some d)
    refine ⟨y8, ?_⟩
    rw [forL_cons]
    have hb : (sSeq (sSet 2 (fVar 7)) (sSet 7 (fTup (fCons (fVar 7) fNil)))) [x0, x1, v, x3, x4, x5, x6, some (nest k), some d, x9, x10] s = .nx [x0, x1, some (nest k), x3, x4, x5, x6, some (nest (k + 1)), some d, x9, x10] s := by
      simp [e_seq, e_set, e_var, e_tup, e_cons, e_nil, sizeLine_eq, nest]
    simp only [bindT, List.set_cons_succ, List.set_cons_zero, hb, h]
    have e1 : k + 1 + ds.length = k + (d :: ds).length := by rw [List.length_cons]; omega
    rw [e1, if_neg (List.cons_ne_nil d ds)]
    by_cases hd : ds = []
    · subst hd; rfl
    · rw [if_neg hd]
theorem fit_many {m : Nat} {d : D} (h : Flat d) (hm : m ≤ 1000) : Fit (.tup (List.replicate m d)) := by
  have hd := Drawn.flat 0 h.1 h.2
  have mem : ∀ x ∈ List.replicate m d, x = d := fun x hx => (List.mem_replicate.mp hx).2
  refine ⟨by rw [niceB, niceBs_all]; exact all_of fun x hx => by rw [mem x hx]; exact h.1, ?_, ?_, ?_⟩
  · rw [plainB, plainBs_all, decide_eq_true (by rw [List.length_replicate]; omega : (List.replicate m d).length ≤ 1000)]
    exact all_of (f := fun x => plainB x 59) fun x hx => by rw [mem x hx]; exact hd.plain 59 (Nat.zero_le _)
  · have := depthDs_le (b := 0) (xs := List.replicate m d) fun x hx => by rw [mem x hx]; exact hd.depth
    rw [depthD]; omega
  · have h1 : sizeD d ≤ 1 := by
      obtain ⟨_, hn⟩ := h
      cases d with
      | tup xs => exact absurd rfl (hn xs)
      | _ => simp [sizeD]
    have h2 := sizeDs_le (b := 1) (xs := List.replicate m d) fun x hx => by rw [mem x hx]; exact h1
    rw [List.length_replicate] at h2
    rw [sizeD]; omega
end K61
namespace K61
open PySem PySem.Spec PyProof.Rows L2 Fl
/-- the store of the law: its cup -/
abbrev S (c : Cup) : Store := [c.so]
theorem at0 {c : Cup} (h : c.ok) : CupAt (S c) 0 c := ⟨rfl, h⟩
theorem set0 {c c' : Cup} : (S c).set 0 c'.so = S c' := rfl
theorem some0 {c : Cup} {xs : List D} (h : c.ok) (h1 : xs ≠ []) (h2 : xs.length ≤ 16777216) : ∃ x ∈ xs, ∃ c' : Cup, F__law_some [.loc 0, .lst xs] (S c) = .ok x (S c') ∧ c'.ok := some_ok (at0 h) h1 h2
theorem plain0 {c : Cup} (h : c.ok) (n : Nat) (hn : n < 4) : ∃ (d : D) (c' : Cup), F__law_plain 4 [.loc 0, .int n] (S c) = .ok d (S c') ∧ c'.ok ∧ Drawn n d ∧ (n = 0 → Flat d) := plain_is 4 n (S c) 0 c hn (by omega) (at0 h)
theorem roll0 {c : Cup} {m : Int} (h : c.ok) (hm : 0 < m) (hm2 : m < 340282366920938463463374607431768211456) : F__law_roll [.loc 0, .int m] (S c) = .ok (.int (rollN c m)) (S (rollC c m)) := roll_is (at0 h) hm hm2
section
variable {x0 x2 x3 x4 x5 x6 x7 x8 x9 x10 : Option D} {c : Cup}
theorem v1 : fVar 1 [x0, some (.loc 0), x2, x3, x4, x5, x6, x7, x8, x9, x10] (S c) = .ok (.loc 0) (S c) := rfl
/-- the base -/
theorem base_is (h : c.ok) : ∃ (b : Int) (c' : Cup), (fCall F__law_some (fCons (fVar 1) (fCons (fLst (fCons (fC (.int 2)) (fCons (fC (.int 3)) (fCons (fC (.int 10)) (fCons (fC (.int 1009)) (fCons (fBin oSub (fBin oPow (fC (.int 2)) (fC (.int 61))) (fC (.int 1))) (fCons (fBin oAdd (fC (.int 2)) (fCall F__law_roll (fCons (fVar 1) (fCons (fBin oPow (fC (.int 10)) (fC (.int 12))) fNil)))) fNil))))))) fNil))) [x0, some (.loc 0), x2, x3, x4, x5, x6, x7, x8, x9, x10] (S c) = .ok (.int b) (S c') ∧ c'.ok ∧ 2 ≤ b ∧ b ≤ 2305843009213693951 := by
  have e1 := roll0 h (m := 1000000000000) (by decide) (by decide)
  have r1 := rollN_nonneg (c := c) (m := 1000000000000) (by decide)
  have r2 := rollN_lt (c := c) (m := 1000000000000) (by decide)
  have ok1 := rollC_ok h (m := 1000000000000) (by decide)
  obtain ⟨x, hx, c', e, ok⟩ := some0 (c := rollC c 1000000000000) (xs := [.int 2, .int 3, .int 10, .int 1009, .int 2305843009213693951, .int (2 + rollN c 1000000000000)]) ok1 (by simp) (by simp)
  have p1 : CPow 2 61 := by decide
  have p3 : CPow 10 12 := by decide
  have q1 : (2 : Int) ^ (Int.toNat 61) = 2305843009213693952 := by decide
  have q3 : (10 : Int) ^ (Int.toNat 12) = 1000000000000 := by decide
  have ev : (fCall F__law_some (fCons (fVar 1) (fCons (fLst (fCons (fC (.int 2)) (fCons (fC (.int 3)) (fCons (fC (.int 10)) (fCons (fC (.int 1009)) (fCons (fBin oSub (fBin oPow (fC (.int 2)) (fC (.int 61))) (fC (.int 1))) (fCons (fBin oAdd (fC (.int 2)) (fCall F__law_roll (fCons (fVar 1) (fCons (fBin oPow (fC (.int 10)) (fC (.int 12))) fNil)))) fNil))))))) fNil))) [x0, some (.loc 0), x2, x3, x4, x5, x6, x7, x8, x9, x10] (S c) = .ok x (S c') := by
    simp only [e_call, e_cons, e_nil, e_lst, e_c, v1, e_bin, R.bind, oPow, p1, p3, if_true, q1, q3, oSub, oAdd, e1, sizeLine_eq]
    exact e
  simp only [List.mem_cons, List.not_mem_nil, or_false] at hx
  rcases hx with rfl | rfl | rfl | rfl | rfl | rfl
  · exact ⟨_, c', ev, ok, by decide, by decide⟩
  · exact ⟨_, c', ev, ok, by decide, by decide⟩
  · exact ⟨_, c', ev, ok, by decide, by decide⟩
  · exact ⟨_, c', ev, ok, by decide, by decide⟩
  · exact ⟨_, c', ev, ok, by decide, by decide⟩
  · exact ⟨_, c', ev, ok, by omega, by omega⟩
/-- another value -/
theorem other_is {v : D} (h : c.ok) (hv : Drawn 3 v) : ∃ (d : D) (c' : Cup), (fCall F__law_some (fCons (fVar 1) (fCons (fLst (fCons (fVar 2) (fCons (fTup (fCons (fVar 2) fNil)) (fCons (fCall (F__law_plain 4) (fCons (fVar 1) (fCons (fC (.int 2)) fNil))) (fCons (fBin oIx (fLst (fCons (fVar 2) fNil)) (fC (.int 0))) fNil))))) fNil))) [x0, some (.loc 0), some v, x3, x4, x5, x6, x7, x8, x9, x10] (S c) = .ok d (S c') ∧ c'.ok ∧ Fit d := by
  obtain ⟨p, c1, e1, ok1, dp, _⟩ := plain0 h 2 (by decide)
  obtain ⟨x, hx, c', e, ok⟩ := some0 (c := c1) (xs := [v, .tup [v], p, v]) ok1 (by simp) (by simp)
  have e1' : F__law_plain 4 [.loc 0, .int 2] (S c) = .ok p (S c1) := e1
  have v2 : ∀ c, fVar 2 [x0, some (.loc 0), some v, x3, x4, x5, x6, x7, x8, x9, x10] (S c) = .ok v (S c) := fun _ => rfl
  have i0 : atI [v] 0 = some v := rfl
  refine ⟨x, c', ?_, ok, ?_⟩
  · rw [call_ok (cons_ok v1 (cons_ok (lst_ok (ds := [v, .tup [v], p, v]) (s := S c1) (cons_ok (v2 c) (cons_ok (tup_ok (cons_ok (v2 c) e_nil) (by simp)) (cons_ok (by rw [call_ok (cons_ok v1 (cons_ok e_c e_nil))]; exact e1') (cons_ok (by rw [bin_ok (lst_ok (cons_ok (v2 c1) e_nil) (by simp)) e_c]; simp [oIx, seqOf, lstOf, i0]) e_nil)))) (by simp)) e_nil))]
    exact e
  · simp only [List.mem_cons, List.not_mem_nil, or_false] at hx
    rcases hx with rfl | rfl | rfl | rfl
    · exact fit_of hv (by decide)
    · exact fit_one hv
    · exact fit_of dp (by decide)
    · exact fit_of hv (by decide)
/-- what no value may be -/
structure Bad (d : D) : Prop where
  val : val d = true
  size : sizeD d ≤ 16777216
  plain : plainB d 60 = false
theorem bad_is (h : c.ok) : ∃ (d : D) (c' : Cup), (fCall F__law_some (fCons (fVar 1) (fCons (fLst (fCons (fNeg (fC (.int 1))) (fCons (fBin oAdd (fBin oPow (fC (.int 2)) (fC (.int 64))) (fC (.int 1))) (fCons (fBin oMul (fC (.str "a")) (fC (.int 21))) (fCons (fLst (fCons (fC (.int 1)) fNil)) (fCons (fTup (fCons (fC (.int 1)) (fCons (fLst (fCons (fC (.int 2)) fNil)) fNil))) (fCons (fBin oMul (fTup (fCons (fC .non) fNil)) (fC (.int 1001))) (fCons (fVar 7) (fCons (fTup (fCons (fTup (fCons (fVar 2) (fCons (fNeg (fC (.int 7))) fNil))) fNil)) fNil))))))))) fNil))) [x0, some (.loc 0), some (nest 59), x3, x4, x5, x6, some (nest 60), x8, x9, x10] (S c) = .ok d (S c') ∧ c'.ok ∧ Bad d := by
  obtain ⟨z, hz, hzl⟩ : ∃ z : Str, oMul (.str "a") (.int 21) (S c) = .ok (.str z) (S c) ∧ z.length = 21 := by
    refine ⟨⟨(times [97] 21).toArray⟩, ?_, by decide +kernel⟩
    have hl : (("a" : String) : Str).length = 1 := rfl
    have hc : (("a" : String) : Str).cps.toList = [97] := rfl
    simp only [oMul, hl, hc]
    rw [if_pos (by decide)]
  obtain ⟨x, hx, c', e, ok⟩ := some0 (xs := [.int (-1), .int 18446744073709551617, .str z, .lst [.int 1], .tup [.int 1, .lst [.int 2]], .tup (List.replicate 1001 .non), nest 60, .tup [.tup [nest 59, .int (-7)]]]) h (by simp) (by simp)
  have v2 : fVar 2 [x0, some (.loc 0), some (nest 59), x3, x4, x5, x6, some (nest 60), x8, x9, x10] (S c) = .ok (nest 59) (S c) := rfl
  have v7 : fVar 7 [x0, some (.loc 0), some (nest 59), x3, x4, x5, x6, some (nest 60), x8, x9, x10] (S c) = .ok (nest 60) (S c) := rfl
  have ng : ∀ (i : Int) (env : Fl.Env), fNeg (fC (.int i)) env (S c) = .ok (.int (-i)) (S c) := fun _ _ => rfl
  have pw : ∀ env : Fl.Env, fBin oAdd (fBin oPow (fC (.int 2)) (fC (.int 64))) (fC (.int 1)) env (S c) = .ok (.int 18446744073709551617) (S c) := by
    intro env
    have p1 : CPow 2 64 := by decide
    have q1 : (2 : Int) ^ (Int.toNat 64) = 18446744073709551616 := by decide
    rw [bin_ok (d := .int 18446744073709551616) (s1 := S c) (by rw [bin_ok e_c e_c]; simp only [oPow, p1, if_true, q1]) e_c]
    rfl
  have rp : ∀ env : Fl.Env, fBin oMul (fTup (fCons (fC .non) fNil)) (fC (.int 1001)) env (S c) = .ok (.tup (List.replicate 1001 .non)) (S c) := by
    intro env
    rw [bin_ok (tup_ok (cons_ok e_c e_nil) (by simp)) e_c]
    show oMul (.tup [.non]) (.int ((1001 : Nat) : Int)) (S c) = _
    simp only [oMul]
    rw [if_pos (by simp), times_one]
  obtain ⟨n1, n2, n3, n4⟩ := nest_facts 60
  obtain ⟨m1, m2, m3, m4⟩ := nest_facts 59
  refine ⟨x, c', ?_, ok, ?_⟩
  · rw [call_ok (cons_ok v1 (cons_ok (lst_ok (cons_ok (ng 1 _) (cons_ok (pw _) (cons_ok (by rw [bin_ok e_c e_c]; exact hz) (cons_ok (lst_ok (cons_ok e_c e_nil) (by simp)) (cons_ok (tup_ok (cons_ok e_c (cons_ok (lst_ok (cons_ok e_c e_nil) (by simp)) e_nil)) (by simp)) (cons_ok (rp _) (cons_ok v7 (cons_ok (tup_ok (cons_ok (tup_ok (cons_ok v2 (cons_ok (ng 7 _) e_nil)) (by simp)) e_nil) (by simp)) e_nil)))))))) (by simp)) e_nil))]
    exact e
  · simp only [List.mem_cons, List.not_mem_nil, or_false] at hx
    rcases hx with rfl | rfl | rfl | rfl | rfl | rfl | rfl | rfl
    · exact ⟨rfl, by simp [sizeD], by decide⟩
    · exact ⟨rfl, by simp [sizeD], by decide⟩
    · exact ⟨by rw [val, hzl]; rfl, by simp [sizeD], by rw [plainB, hzl]; rfl⟩
    · exact ⟨by decide, by simp [sizeD], by decide⟩
    · exact ⟨by decide, by simp [sizeD, sizeDs], by decide⟩
    · refine ⟨by rw [val, vals_all]; exact all_of fun x hx => by rw [(List.mem_replicate.mp hx).2]; rfl, ?_, ?_⟩
      · have := sizeDs_le (b := 1) (xs := List.replicate 1001 D.non) fun x hx => by rw [(List.mem_replicate.mp hx).2]; decide
        rw [List.length_replicate] at this
        rw [sizeD]; omega
      · rw [plainB, List.length_replicate]; rfl
    · exact ⟨nice_val n1, by omega, by rw [n4]; rfl⟩
    · have a1 := nice_val m1
      have a2 : plainB (nest 59) 58 = false := by rw [m4]; rfl
      generalize nest 59 = q at a1 a2 m3
      exact ⟨by simp [val, vals, a1], by simp [sizeD, sizeDs, m3], by simp [plainB, plainBs, a2]⟩
/-- the last things walked -/
theorem last_is {b : Int} (h : c.ok) (h1 : 2 ≤ b) (h2 : b ≤ 2305843009213693951) : ∃ (y9 : Option D) (c' : Cup), (sFor (fIt (fLst (fCons (fVar 2) (fCons (fBin oMul (fTup (fCons (fCall (F__law_plain 4) (fCons (fVar 1) (fCons (fC (.int 0)) fNil))) fNil)) (fIf (fBin oEq (fCall F__law_roll (fCons (fVar 1) (fCons (fC (.int 8)) fNil))) (fC (.int 0))) (fC (.int 1000)) (fC (.int 40)))) fNil)))) (.name 9) (sIf (fOr (fBin oNe (fCall bRepr (fCons (fCall bList (fCons (fCall F_value_row (fCons (fVar 9) fNil)) fNil)) fNil)) (fCall bRepr (fCons (fCall (F__law_row 70) (fCons (fVar 9) fNil)) fNil))) (fBin oNe (fCall bRepr (fCons (fCall F_digest_of (fCons (fVar 3) (fCons (fVar 9) fNil))) fNil)) (fCall bRepr (fCons (fCall F__law_digest (fCons (fVar 3) (fCons (fVar 9) fNil))) fNil)))) (sRet (fC (.bl false))) sSkip)) [x0, some (.loc 0), some (nest 59), some (.int b), x4, x5, x6, x7, x8, x9, x10] (S c) =
    .nx [x0, some (.loc 0), some (nest 59), some (.int b), x4, x5, x6, x7, x8, y9, x10] (S c') ∧ c'.ok := by
  obtain ⟨p, c1, e1, ok1, _, fl⟩ := plain0 h 0 (by decide)
  have e1' : F__law_plain 4 [.loc 0, .int 0] (S c) = .ok p (S c1) := e1
  have fp := fl rfl
  obtain ⟨m, c2, ok2, hm, em⟩ : ∃ (m : Nat) (c2 : Cup), c2.ok ∧ m ≤ 1000 ∧ ∀ x9, (fIf (fBin oEq (fCall F__law_roll (fCons (fVar 1) (fCons (fC (.int 8)) fNil))) (fC (.int 0))) (fC (.int 1000)) (fC (.int 40))) [x0, some (.loc 0), some (nest 59), some (.int b), x4, x5, x6, x7, x8, x9, x10] (S c1) = .ok (.int (m : Nat)) (S c2) := by
    have e8 := roll0 ok1 (m := 8) (by decide) (by decide)
    have ok8 := rollC_ok ok1 (m := 8) (by decide)
    by_cases h0 : rollN c1 8 = 0
    · refine ⟨1000, _, ok8, by decide, fun x9 => ?_⟩
      rw [fif_t (s := S (rollC c1 8)) (by rw [bin_ok (by rw [call_ok (cons_ok v1 (cons_ok e_c e_nil))]; exact e8) e_c]; simp [oEq, res, canEq, cmpD, depD, eqD, h0])]
      rfl
    · refine ⟨40, _, ok8, by decide, fun x9 => ?_⟩
      have hb : (rollN c1 8 == 0) = false := beq_eq_false_iff_ne.mpr h0
      rw [fif_f (s := S (rollC c1 8)) (by rw [bin_ok (by rw [call_ok (cons_ok v1 (cons_ok e_c e_nil))]; exact e8) e_c]; simp [oEq, res, canEq, cmpD, depD, eqD, hb])]
      rfl
  have fits : ∀ d ∈ [nest 59, .tup (List.replicate m p)], Fit d := by
    intro d hd
    simp only [List.mem_cons, List.not_mem_nil, or_false] at hd
    rcases hd with rfl | rfl
    · exact fit_nest
    · exact fit_many fp hm
  have body : ∀ (d : D), Fit d → (sIf (fOr (fBin oNe (fCall bRepr (fCons (fCall bList (fCons (fCall F_value_row (fCons (fVar 9) fNil)) fNil)) fNil)) (fCall bRepr (fCons (fCall (F__law_row 70) (fCons (fVar 9) fNil)) fNil))) (fBin oNe (fCall bRepr (fCons (fCall F_digest_of (fCons (fVar 3) (fCons (fVar 9) fNil))) fNil)) (fCall bRepr (fCons (fCall F__law_digest (fCons (fVar 3) (fCons (fVar 9) fNil))) fNil)))) (sRet (fC (.bl false))) sSkip) [x0, some (.loc 0), some (nest 59), some (.int b), x4, x5, x6, x7, x8, some d, x10] (S c2) = .nx [x0, some (.loc 0), some (nest 59), some (.int b), x4, x5, x6, x7, x8, some d, x10] (S c2) := by
    intro d fd
    have v9 : fVar 9 [x0, some (.loc 0), some (nest 59), some (.int b), x4, x5, x6, x7, x8, some d, x10] (S c2) = .ok d (S c2) := rfl
    have v3 : fVar 3 [x0, some (.loc 0), some (nest 59), some (.int b), x4, x5, x6, x7, x8, some d, x10] (S c2) = .ok (.int b) (S c2) := rfl
    have vr : fCall F_value_row (fCons (fVar 9) fNil) [x0, some (.loc 0), some (nest 59), some (.int b), x4, x5, x6, x7, x8, some d, x10] (S c2) = .ok (.tup ((rowD d).map D.int)) (S c2) := by
      rw [call_ok (cons_ok v9 e_nil)]
      exact valuerow_is fd.good fd.plain
    rw [sif_f (by rw [or_f (rowNe fd vr v9)]; exact digNe fd h1 h2 v3 v9)]
    rfl
  have items : fIt (fLst (fCons (fVar 2) (fCons (fBin oMul (fTup (fCons (fCall (F__law_plain 4) (fCons (fVar 1) (fCons (fC (.int 0)) fNil))) fNil)) (fIf (fBin oEq (fCall F__law_roll (fCons (fVar 1) (fCons (fC (.int 8)) fNil))) (fC (.int 0))) (fC (.int 1000)) (fC (.int 40)))) fNil))) [x0, some (.loc 0), some (nest 59), some (.int b), x4, x5, x6, x7, x8, x9, x10] (S c) = .ok ⟨[nest 59, .tup (List.replicate m p)], []⟩ (S c2) := by
    have v2 : fVar 2 [x0, some (.loc 0), some (nest 59), some (.int b), x4, x5, x6, x7, x8, x9, x10] (S c) = .ok (nest 59) (S c) := rfl
    have mul : fBin oMul (fTup (fCons (fCall (F__law_plain 4) (fCons (fVar 1) (fCons (fC (.int 0)) fNil))) fNil)) (fIf (fBin oEq (fCall F__law_roll (fCons (fVar 1) (fCons (fC (.int 8)) fNil))) (fC (.int 0))) (fC (.int 1000)) (fC (.int 40))) [x0, some (.loc 0), some (nest 59), some (.int b), x4, x5, x6, x7, x8, x9, x10] (S c) = .ok (.tup (List.replicate m p)) (S c2) := by
      rw [bin_ok (tup_ok (ds := [p]) (s := S c1) (cons_ok (by rw [call_ok (cons_ok v1 (cons_ok e_c e_nil))]; exact e1') e_nil) (by simp)) (em x9)]
      simp only [oMul]
      rw [if_pos ⟨by rw [Int.toNat_natCast]; simp; omega, by omega⟩, times_one]
    rw [e_it, lst_ok (cons_ok v2 (cons_ok mul e_nil)) (by simp)]
    rfl
  refine ⟨some (.tup (List.replicate m p)), c2, for_nx items ?_, ok2⟩
  show forL _ _ [] [nest 59, .tup (List.replicate m p)] _ _ = _
  rw [forL_cons]
  simp only [bindT, List.set_cons_succ, List.set_cons_zero]
  rw [body _ (fits _ (by simp))]
  simp only
  rw [forL_cons]
  simp only [bindT, List.set_cons_succ, List.set_cons_zero]
  rw [body _ (fits _ (by simp))]
  simp only
  rw [forL_nil]
/-- no base -/
theorem nobase_end (h : c.ok) : ∃ c' : Cup, (fCall F__law_no_base (fCons (fCall F__law_some (fCons (fVar 1) (fCons (fLst (fCons (fC (.int 1)) (fCons (fC (.int 0)) (fCons (fBin oPow (fC (.int 2)) (fC (.int 61))) (fCons (fC (.bl true)) (fCons (fC .non) (fCons (fC (.str "7")) (fCons (fNeg (fC (.int 5))) fNil)))))))) fNil))) fNil)) [x0, some (.loc 0), x2, x3, x4, x5, x6, x7, x8, x9, x10] (S c) = .ok (.bl true) (S c') := by
  obtain ⟨x, hx, c', e, ok⟩ := some0 (xs := [.int 1, .int 0, .int 2305843009213693952, .bl true, .non, .str "7", .int (-5)]) h (by simp) (by simp)
  refine ⟨c', ?_⟩
  have p1 : CPow 2 61 := by decide
  have q1 : (2 : Int) ^ (Int.toNat 61) = 2305843009213693952 := by decide
  have pw : fBin oPow (fC (.int 2)) (fC (.int 61)) [x0, some (.loc 0), x2, x3, x4, x5, x6, x7, x8, x9, x10] (S c) = .ok (.int 2305843009213693952) (S c) := by
    rw [bin_ok e_c e_c]; simp only [oPow, p1, if_true, q1]
  rw [call_ok (cons_ok (d := x) (s1 := S c') (by rw [call_ok (cons_ok v1 (cons_ok (lst_ok (cons_ok e_c (cons_ok e_c (cons_ok pw (cons_ok e_c (cons_ok e_c (cons_ok e_c (cons_ok rfl e_nil))))))) (by simp)) e_nil))]; exact e) e_nil)]
  simp only [List.mem_cons, List.not_mem_nil, or_false] at hx
  rcases hx with rfl | rfl | rfl | rfl | rfl | rfl | rfl
  · exact nobase_is rfl (fun i e => by cases e; omega)
  · exact nobase_is rfl (fun i e => by cases e; omega)
  · exact nobase_is rfl (fun i e => by cases e; omega)
  · exact nobase_is rfl (fun i e => by cases e)
  · exact nobase_is rfl (fun i e => by cases e)
  · exact nobase_is (by decide +kernel) (fun i e => by cases e)
  · exact nobase_is rfl (fun i e => by cases e; omega)
end
end K61
namespace K61
open PySem PySem.Spec PyProof.Rows L2 Fl
theorem law_true (ns : List Int) (hn : ns.length ≤ 63) : ∃ st, F_law [.frz (ns.map D.int)] [] = .ok (.bl true) st := by
  unfold F_law fnA fnOf g_law
  have s0 : startE 11 [.frz (ns.map D.int)] = [some (.frz (ns.map D.int)), none, none, none, none, none, none, none, none, none, none] := rfl
  rw [if_pos (show [D.frz (ns.map D.int)].length = 1 from rfl), s0]
  have c0 := cup0_ok ns
  have k1 : (sSet 1 (fCall F__law_cup (fCons (fVar 0) fNil))) [some (.frz (ns.map D.int)), none, none, none, none, none, none, none, none, none, none] [] = .nx [some (.frz (ns.map D.int)), some (.loc 0), none, none, none, none, none, none, none, none, none] (S (cup0 ns)) := by
    rw [set_ok (by rw [call_ok (cons_ok rfl e_nil)]; exact cup_is hn)]
    rfl
  rw [seq_nx k1]
  obtain ⟨v, c1, e1, o1, dv, _⟩ := plain0 c0 3 (by decide)
  have e1' : F__law_plain 4 [.loc 0, .int 3] (S (cup0 ns)) = .ok v (S c1) := e1
  obtain ⟨b, c2, e2, o2, b1, b2⟩ := base_is (x0 := some (.frz (ns.map D.int))) (x2 := none) (x3 := none) (x4 := none) (x5 := none) (x6 := none) (x7 := none) (x8 := none) (x9 := none) (x10 := none) o1
  rw [seq_nx (par_ok (by rw [call_ok (cons_ok v1 (cons_ok e_c e_nil))]; exact e1') e2)]
  simp only [List.set_cons_succ, List.set_cons_zero]
  obtain ⟨w, c3, e3, o3, fw⟩ := other_is (x0 := some (.frz (ns.map D.int))) (x3 := some (.int b)) (x4 := none) (x5 := none) (x6 := none) (x7 := none) (x8 := none) (x9 := none) (x10 := none) o2 dv
  have fv := fit_of dv (by decide)
  rw [seq_nx (set_ok e3)]
  simp only [List.set_cons_succ, List.set_cons_zero]
  -- the two rows
  have r1 : ∀ (x : D) (i : Nat) (env : Fl.Env), fVar i env (S c3) = .ok x (S c3) → Fit x → fCall F_value_row (fCons (fVar i) fNil) env (S c3) = .ok (.tup ((rowD x).map D.int)) (S c3) := by
    intro x i env hx fx
    rw [call_ok (cons_ok hx e_nil)]
    exact valuerow_is fx.good fx.plain
  rw [seq_nx (par_ok (r1 v 2 _ rfl fv) (r1 w 4 _ rfl fw))]
  simp only [List.set_cons_succ, List.set_cons_zero]
  have t1 : (fNot (fIsi .tup (fVar 5))) [some (.frz (ns.map D.int)), some (.loc 0), some v, some (.int b), some w, some (.tup ((rowD v).map D.int)), some (.tup ((rowD w).map D.int)), none, none, none, none] (S c3) = .ok (.bl false) (S c3) := rfl
  rw [seq_nx ((sif_f (by rw [or_f t1, or_f (rowNe fv rfl rfl)]; exact rowNe fw rfl rfl)).trans e_skip)]
  rw [seq_nx ((sif_f (same_is fv fw rfl rfl rfl rfl)).trans e_skip)]
  rw [seq_nx ((sif_f (digNe fv b1 b2 rfl rfl)).trans e_skip)]
  rw [seq_nx (set_ok (tup_ok e_nil (by simp)))]
  simp only [List.set_cons_succ, List.set_cons_zero]
  -- the nest
  obtain ⟨y8, h8⟩ := nest_loop (s := S c3) (x0 := some (.frz (ns.map D.int))) (x1 := some (.loc 0)) (x3 := some (.int b)) (x4 := some w) (x5 := some (.tup ((rowD v).map D.int))) (x6 := some (.tup ((rowD w).map D.int))) (x9 := none) (x10 := none) ((List.range 60).map fun k => D.int (0 + (k : Nat))) (some v) 0 none
  have k8 : (sFor (fRng1 (fC (.int 60))) (.name 8) (sSeq (sSet 2 (fVar 7)) (sSet 7 (fTup (fCons (fVar 7) fNil))))) [some (.frz (ns.map D.int)), some (.loc 0), some v, some (.int b), some w, some (.tup ((rowD v).map D.int)), some (.tup ((rowD w).map D.int)), some (nest 0), none, none, none] (S c3) =
      .nx [some (.frz (ns.map D.int)), some (.loc 0), some (nest 59), some (.int b), some w, some (.tup ((rowD v).map D.int)), some (.tup ((rowD w).map D.int)), some (nest 60), y8, none, none] (S c3) := by
    refine for_nx (rng1_is (m := 60) e_c (by decide)) ?_
    refine h8.trans ?_
    have ln : ((List.range 60).map fun k => D.int (0 + (k : Nat))).length = 60 := by rw [List.length_map, List.length_range]
    have ne : ((List.range 60).map fun k => D.int (0 + (k : Nat))) ≠ [] := by
      intro e
      rw [e] at ln
      cases ln
    rw [if_neg ne, ln]
  have n0 : (D.tup []) = nest 0 := rfl
  rw [n0, seq_nx k8]
  obtain ⟨y9, c4, h9, o4⟩ := last_is (x0 := some (.frz (ns.map D.int))) (x4 := some w) (x5 := some (.tup ((rowD v).map D.int))) (x6 := some (.tup ((rowD w).map D.int))) (x7 := some (nest 60)) (x8 := y8) (x9 := none) (x10 := none) o3 b1 b2
  rw [seq_nx h9]
  obtain ⟨bad, c5, e5, o5, hb⟩ := bad_is (x0 := some (.frz (ns.map D.int))) (x3 := some (.int b)) (x4 := some w) (x5 := some (.tup ((rowD v).map D.int))) (x6 := some (.tup ((rowD w).map D.int))) (x8 := y8) (x9 := y9) (x10 := none) o4
  rw [seq_nx (set_ok e5)]
  simp only [List.set_cons_succ, List.set_cons_zero]
  have rf : ∀ (q : Bool) (env : Fl.Env), fVar 10 env (S c5) = .ok bad (S c5) → fNot (fCall F__law_refused (fCons (fVar 10) (fCons (fC (.bl q)) fNil))) env (S c5) = .ok (.bl false) (S c5) := by
    intro q env hx
    rw [not_ok (b := true) (s := S c5) (by rw [call_ok (cons_ok hx (cons_ok e_c e_nil))]; exact refused_is hb.val hb.size hb.plain)]
    rfl
  rw [seq_nx ((sif_f (by rw [or_f (rf true _ rfl)]; exact rf false _ rfl)).trans e_skip)]
  obtain ⟨c6, e6⟩ := nobase_end (x0 := some (.frz (ns.map D.int))) (x2 := some (nest 59)) (x3 := some (.int b)) (x4 := some w) (x5 := some (.tup ((rowD v).map D.int))) (x6 := some (.tup ((rowD w).map D.int))) (x7 := some (nest 60)) (x8 := y8) (x9 := y9) (x10 := some bad) o5
  rw [ret_ok e6]
  exact ⟨_, rfl⟩
end K61
namespace K61
open PySem PySem.Spec PyProof.Rows L2 Fl
def top (i : Nat) : Stmt := PySem.Challenge.pw_gasahead_k61_rows_and_digests.main.body.getD i (.Pass ⟨0, 0, 0, 0⟩)
structure Facts (K : Fg) (mg : Mg) : Prop where
  d__law_cup : DefOk K mg "_law_cup" (top 24) ["script"]
  d__law_roll : DefOk K mg "_law_roll" (top 25) ["cup", "many"]
  d__law_some : DefOk K mg "_law_some" (top 26) ["cup", "things"]
  d_is_whole : DefOk K mg "is_whole" (top 5) ["value", "low", "high"]
  d_need_base : DefOk K mg "need_base" (top 13) ["value"]
  d_digest_by : DefOk K mg "digest_by" (top 19) ["base", "row"]
  d_number_bytes : DefOk K mg "number_bytes" (top 16) ["number"]
  d_flat_row : DefOk K mg "flat_row" (top 17) ["value"]
  d_row_of : DefOk K mg "row_of" (top 18) ["value"]
  d_value_digest : DefOk K mg "value_digest" (top 20) ["base", "value"]
  d_is_flat : DefOk K mg "is_flat" (top 14) ["value"]
  d_is_plain : DefOk K mg "is_plain" (top 15) ["value"]
  d_digest_of : DefOk K mg "digest_of" (top 22) ["base", "value"]
  d__law_no_base : DefOk K mg "_law_no_base" (top 32) ["value"]
  d__law_plain : DefOk K mg "_law_plain" (top 27) ["cup", "deep"]
  d_value_row : DefOk K mg "value_row" (top 21) ["value"]
  d__law_mixed : DefOk K mg "_law_mixed" (top 29) ["base", "row"]
  d__law_row : DefOk K mg "_law_row" (top 28) ["value"]
  d__law_digest : DefOk K mg "_law_digest" (top 30) ["base", "value"]
  d__law_refused : DefOk K mg "_law_refused" (top 31) ["value", "by_digest"]
  d_law : DefOk K mg "law" (top 33) ["script"]
  n_abs : mg "abs" = none
  n_bool : mg "bool" = none
  n_int : mg "int" = none
  n_isinstance : mg "isinstance" = none
  n_len : mg "len" = none
  n_list : mg "list" = none
  n_ord : mg "ord" = none
  n_range : mg "range" = none
  n_repr : mg "repr" = none
  n_str : mg "str" = none
  n_tuple : mg "tuple" = none
  c_BASES : KC K mg "BASES" d_BASES
  c_FIRST : KC K mg "FIRST" d_FIRST
  c_GREAT : KC K mg "GREAT" d_GREAT
  c_ITEMS : KC K mg "ITEMS" d_ITEMS
  c_LONGEST : KC K mg "LONGEST" d_LONGEST
  c_NESTED : KC K mg "NESTED" d_NESTED
  x_InvalidNumber : ExcT K mg "InvalidNumber"
  x_InvalidValue : ExcT K mg "InvalidValue"
  s_InvalidNumber : CatchT K mg "InvalidNumber" sub_InvalidNumber
  s_InvalidValue : CatchT K mg "InvalidValue" sub_InvalidValue
  i_InvalidNumber_GasError : EisT K mg "InvalidNumber" "GasError" true
  i_InvalidValue_GasError : EisT K mg "InvalidValue" "GasError" true
  i_InvalidValue_ValueError : EisT K mg "InvalidValue" "ValueError" true
section
variable {P : Program} {w : World} {K : Fg} {mg : Mg} {base : Heap}
theorem sc__law_cup : FnScope ["script", "cell"] ["script"] (defScope (top 24)) := ⟨rfl, rfl, rfl, by decide +kernel, rfl, by decide +kernel, by decide +kernel⟩
theorem ok__law_cup (T : Facts K mg) : FnT P w K mg base 1 "_law_cup" F__law_cup 1 := FnT.body (N := ["script", "cell"]) (ps := ["script"]) (g := g__law_cup) T.d__law_cup sc__law_cup fun f cdv A outer s H E G hr tk hp => (by exact (psb_cons (by exact (ps_st G (by exact (pf_cb call_abs cs_abs (by exact (pfa_cons (by exact (pf_ix (by exact (pf_op op_addAll os_add (by exact (pf_ct (call_list_all rfl) cs_list (by exact (pfa_cons (pf_var 0) pfa_nil)) T.n_list rfl)) (by exact (pf_lst (by exact (pfa_cons pf_int pfa_nil)))))) pf_int)) pfa_nil)) T.n_abs rfl)))) (by exact (psb_one (by exact (ps_rt (by exact (pf_new (by exact (pfa_cons (by exact (pf_if (by exact (pt_cm op_ge os_ic (pf_var 1) (by exact (pf_op op_pow os_pow pf_int pf_int)) (nomark _))) (by exact (pf_op op_fdivW os_fdiv (pf_var 1) pf_int)) pf_int)) (pfa_cons (by exact (pf_op op_addAll os_add (by exact (pf_op op_mod os_mod (by exact (pf_ct call_int1 cs_int (by exact (pfa_cons (by exact (pf_op op_addAll os_add (by exact (pf_op op_mulAll os_mul (pf_var 1) pf_int)) pf_int)) pfa_nil)) T.n_int rfl)) pf_int)) pf_int)) pfa_nil)))))))))))
theorem sc__law_roll : FnScope ["cup", "many", "found", "deep"] ["cup", "many"] (defScope (top 25)) := ⟨rfl, rfl, rfl, by decide +kernel, rfl, by decide +kernel, by decide +kernel⟩
theorem ok__law_roll (T : Facts K mg) : FnT P w K mg base 1 "_law_roll" F__law_roll 2 := FnT.body (N := ["cup", "many", "found", "deep"]) (ps := ["cup", "many"]) (g := g__law_roll) T.d__law_roll sc__law_roll fun f cdv A outer s H E G hr tk hp => (by exact (psb_cons (by exact (ps_iff (by exact (pt_cm op_gt os_ic (by exact (pf_ix (pf_var 0) pf_int)) pf_int (nomark _))) (by exact (psb_cons (by exact (ps_st G (by exact (pf_op op_mod os_mod (by exact (pf_ct call_int1 cs_int (by exact (pfa_cons (by exact (pf_ix (pf_var 0) pf_int)) pfa_nil)) T.n_int rfl)) (pf_var 1))))) (by exact (psb_cons (by exact (ps_ix (by exact (pf_op op_fdivW os_fdiv (by exact (pf_ix (pf_var 0) pf_int)) (pf_var 1))) (pf_var 0) pf_int)) (by exact (psb_one (by exact (ps_rt (pf_var 2))))))))) psb_nil)) (by exact (psb_cons (by exact (ps_ix (by exact (pf_op op_mod os_mod (by exact (pf_ct call_int1 cs_int (by exact (pfa_cons (by exact (pf_op op_addAll os_add (by exact (pf_op op_mulAll os_mul (by exact (pf_ix (pf_var 0) pf_int)) pf_int)) pf_int)) pfa_nil)) T.n_int rfl)) pf_int)) (pf_var 0) pf_int)) (by exact (psb_cons (by exact (ps_st G (by exact (pf_op op_mod os_mod (by exact (pf_ct call_int1 cs_int (by exact (pfa_cons (by exact (pf_op op_mulAll os_mul (by exact (pf_ix (pf_var 0) pf_int)) (by exact (pf_op op_addAll os_add (by exact (pf_ix (pf_var 0) pf_int)) pf_int)))) pfa_nil)) T.n_int rfl)) pf_int)))) (by exact (psb_one (by exact (ps_rt (by exact (pf_op op_mod os_mod (by exact (pf_ct call_int1 cs_int (by exact (pfa_cons (by exact (pf_op op_fdivW os_fdiv (pf_var 3) pf_int)) pfa_nil)) T.n_int rfl)) (pf_var 1)))))))))))))
theorem sc__law_some : FnScope ["cup", "things"] ["cup", "things"] (defScope (top 26)) := ⟨rfl, rfl, rfl, by decide +kernel, rfl, by decide +kernel, by decide +kernel⟩
theorem ok__law_some (T : Facts K mg) : FnT P w K mg base 2 "_law_some" F__law_some 2 := FnT.body (N := ["cup", "things"]) (ps := ["cup", "things"]) (g := g__law_some) T.d__law_some sc__law_some fun f cdv A outer s H E G hr tk hp => (by exact (psb_one (by exact (ps_rt (by exact (pf_ix (pf_var 1) (by exact (pf_callT (ok__law_roll T) G (hr.mono (by decide)) tk (by exact (pfa_cons (pf_var 0) (pfa_cons (by exact (pf_cb call_len cs_len (by exact (pfa_cons (pf_var 1) pfa_nil)) T.n_len rfl)) pfa_nil)))))))))))
theorem sc_is_whole : FnScope ["value", "low", "high"] ["value", "low", "high"] (defScope (top 5)) := ⟨rfl, rfl, rfl, by decide +kernel, rfl, by decide +kernel, by decide +kernel⟩
theorem ok_is_whole (T : Facts K mg) : FnT P w K mg base 1 "is_whole" F_is_whole 3 := FnT.body (N := ["value", "low", "high"]) (ps := ["value", "low", "high"]) (g := g_is_whole) T.d_is_whole sc_is_whole fun f cdv A outer s H E G hr tk hp => (by exact (psb_one (by exact (ps_rt (by exact (pf_and (by exact (pf_isi .int (pf_var 0) T.n_isinstance T.n_int rfl (by decide))) (pf_and (by exact (pf_not (by exact (pf_isi .bl (pf_var 0) T.n_isinstance T.n_bool rfl (by decide))))) (pf_one (by exact (Fl.pf_chain op_le os_ic op_le os_ic (pf_var 1) (pf_var 0) (pf_var 2)))))))))))
theorem sc_need_base : FnScope ["value"] ["value"] (defScope (top 13)) := ⟨rfl, rfl, rfl, by decide +kernel, rfl, by decide +kernel, by decide +kernel⟩
theorem ok_need_base (T : Facts K mg) : FnT P w K mg base 2 "need_base" F_need_base 1 := FnT.body (N := ["value"]) (ps := ["value"]) (g := g_need_base) T.d_need_base sc_need_base fun f cdv A outer s H E G hr tk hp => (by exact (psb_one (by exact (ps_iff (by exact (pt_no (by exact (pt_pl (by exact (pf_callT (ok_is_whole T) G (hr.mono (by decide)) tk (by exact (pfa_cons (pf_var 0) (pfa_cons pf_int (pfa_cons (by exact (pf_glob T.c_BASES)) pfa_nil)))))))))) (by exact (psb_one (by exact (ps_raT rfl tk T.x_InvalidNumber)))) psb_nil))))
theorem sc_digest_by : FnScope ["base", "row", "digest", "one"] ["base", "row"] (defScope (top 19)) := ⟨rfl, rfl, rfl, by decide +kernel, rfl, by decide +kernel, by decide +kernel⟩
theorem ok_digest_by (T : Facts K mg) : FnT P w K mg base 1 "digest_by" F_digest_by 2 := (FnT.body (N := ["base", "row", "digest", "one"]) (ps := ["base", "row"]) (g := g_digest_by) T.d_digest_by sc_digest_by fun f cdv A outer s H E G hr tk hp => (by exact (psb_cons (by exact (ps_st G (by exact (pf_op op_mod os_mod (by exact (pf_glob T.c_FIRST)) (pf_var 0))))) (by exact (psb_cons (by exact (ps_fo hp rfl (by exact (pfi_it (pf_var 1))) (pfg_name 3 (pg_n 3 G.nd)) (by exact (psb_one (by exact (ps_st G (by exact (pf_op op_mod os_mod (by exact (pf_op op_addAll os_add (by exact (pf_op op_addAll os_add (by exact (pf_op op_addAll os_add (by exact (pf_op op_mulAll os_mul (pf_var 2) (pf_var 2))) (by exact (pf_op op_mulAll os_mul pf_int (pf_var 2))))) (pf_var 3))) pf_int)) (pf_var 0))))))))) (by exact (psb_one (by exact (ps_rt (pf_var 2)))))))))).hide
theorem sc_number_bytes : FnScope ["number", "found"] ["number"] (defScope (top 16)) := ⟨rfl, rfl, rfl, by decide +kernel, rfl, by decide +kernel, by decide +kernel⟩
theorem ok_number_bytes (T : Facts K mg) : FnT P w K mg base 1 "number_bytes" F_number_bytes 1 := (FnT.body (N := ["number", "found"]) (ps := ["number"]) (g := g_number_bytes) T.d_number_bytes sc_number_bytes fun f cdv A outer s H E G hr tk hp => (by exact (psb_cons (by exact (ps_st G (by exact (pf_new pfa_nil)))) (by exact (psb_cons (by exact (ps_wh hp (by exact (pt_cm op_gt os_ic (pf_var 0) pf_int (nomark _))) (by exact (psb_cons (by exact (ps_exp (by exact (pf_app (pf_var 1) (by exact (pf_op op_mod os_mod (pf_var 0) pf_int)))))) (by exact (psb_one (by exact (ps_st G (by exact (pf_op op_fdivW os_fdiv (pf_var 0) pf_int)))))))))) (by exact (psb_one (by exact (ps_rt (by exact (pf_rev2 (pf_var 1)))))))))))).hide
theorem sc_flat_row : FnScope ["value", "found", "sign"] ["value"] (defScope (top 17)) := ⟨rfl, rfl, rfl, by decide +kernel, rfl, by decide +kernel, by decide +kernel⟩
theorem ok_flat_row (T : Facts K mg) : FnT P w K mg base 2 "flat_row" F_flat_row 1 := (FnT.body (N := ["value", "found", "sign"]) (ps := ["value"]) (g := g_flat_row) T.d_flat_row sc_flat_row fun f cdv A outer s H E G hr tk hp => (by exact (psb_cons (by exact (ps_iff (by exact (pt_cm op_isN os_isN (pf_var 0) pf_non (nomark _))) (by exact (psb_one (by exact (ps_rt (by exact (pf_lst (by exact (pfa_cons pf_int pfa_nil)))))))) psb_nil)) (by exact (psb_cons (by exact (ps_iff (by exact (pt_pl (by exact (pf_isi .bl (pf_var 0) T.n_isinstance T.n_bool rfl (by decide))))) (by exact (psb_one (by exact (ps_rt (by exact (pf_lst (by exact (pfa_cons (by exact (pf_if (by exact (pt_pl (pf_var 0))) pf_int pf_int)) pfa_nil)))))))) psb_nil)) (by exact (psb_cons (by exact (ps_iff (by exact (pt_pl (by exact (pf_isi .int (pf_var 0) T.n_isinstance T.n_int rfl (by decide))))) (by exact (psb_cons (by exact (ps_st G (by exact (pf_callT (ok_number_bytes T) G (hr.mono (by decide)) tk (by exact (pfa_cons (pf_var 0) pfa_nil)))))) (by exact (psb_one (by exact (ps_rt (by exact (pf_op op_addAll os_add (by exact (pf_lst (by exact (pfa_cons pf_int (pfa_cons (by exact (pf_cb call_len cs_len (by exact (pfa_cons (pf_var 1) pfa_nil)) T.n_len rfl)) pfa_nil))))) (pf_var 1))))))))) psb_nil)) (by exact (psb_one (by exact (ps_rt (by exact (pf_op op_addAll os_add (by exact (pf_lst (by exact (pfa_cons pf_int (pfa_cons (by exact (pf_cb call_len cs_len (by exact (pfa_cons (pf_var 0) pfa_nil)) T.n_len rfl)) pfa_nil))))) (by exact (pf_hide (pf_comp G rfl [("sign", 2)] (by exact (pfi_it (pf_var 0))) (by change blkC ["value", "found", "sign"] (defScope (top 17)) _ _ = true; decide +kernel) (fun _ _ _ _ _ => (pfg_name 2 (pg_n 2 (gx_blk G).nd))) (fun _ _ _ _ _ => pfts_nil) (fun _ _ _ _ _ => (by exact (pf_cb call_ord cs_ord (by exact (pfa_cons (pf_var 2) pfa_nil)) T.n_ord rfl))))))))))))))))))).hide
theorem sc_row_of : FnScope ["value", "row", "line", "one"] ["value"] (defScope (top 18)) := ⟨rfl, rfl, rfl, by decide +kernel, rfl, by decide +kernel, by decide +kernel⟩
theorem ok_row_of (T : Facts K mg) : FnT P w K mg base 3 "row_of" F_row_of 1 := (FnT.body (N := ["value", "row", "line", "one"]) (ps := ["value"]) (g := g_row_of) T.d_row_of sc_row_of fun f cdv A outer s H E G hr tk hp => (by exact (psb_cons (by exact (ps_pr G rfl (by exact (pf_new pfa_nil)) (by exact (pf_new (by exact (pfa_cons (pf_var 0) pfa_nil)))))) (by exact (psb_cons (by exact (ps_wh hp (by exact (pt_cm (op_neAll G) os_ne (pf_var 2) (by exact (pf_lst pfa_nil)) (nomark _))) (by exact (psb_cons (by exact (ps_st G (by exact (pf_pop (pf_var 2))))) (by exact (psb_one (by exact (ps_iff (by exact (pt_pl (by exact (pf_isi .tup (pf_var 3) T.n_isinstance T.n_tuple rfl (by decide))))) (by exact (psb_cons (by exact (ps_au G (by exact (pf_lst (by exact (pfa_cons pf_int (pfa_cons (by exact (pf_op op_fdivW os_fdiv (by exact (pf_cb call_len cs_len (by exact (pfa_cons (pf_var 3) pfa_nil)) T.n_len rfl)) pf_int)) (pfa_cons (by exact (pf_op op_mod os_mod (by exact (pf_cb call_len cs_len (by exact (pfa_cons (pf_var 3) pfa_nil)) T.n_len rfl)) pf_int)) pfa_nil)))))))) (by exact (psb_one (by exact (ps_au G (by exact (pf_rev2 (pf_var 3))))))))) (by exact (psb_one (by exact (ps_au G (by exact (pf_callT (ok_flat_row T) G (hr.mono (by decide)) tk (by exact (pfa_cons (pf_var 3) pfa_nil)))))))))))))))) (by exact (psb_one (by exact (ps_rt (pf_var 1)))))))))).hide
theorem sc_value_digest : FnScope ["base", "value"] ["base", "value"] (defScope (top 20)) := ⟨rfl, rfl, rfl, by decide +kernel, rfl, by decide +kernel, by decide +kernel⟩
theorem ok_value_digest (T : Facts K mg) : FnT P w K mg base 4 "value_digest" F_value_digest 2 := (FnT.body (N := ["base", "value"]) (ps := ["base", "value"]) (g := g_value_digest) T.d_value_digest sc_value_digest fun f cdv A outer s H E G hr tk hp => (by exact (psb_one (by exact (ps_rt (by exact (pf_callT (ok_digest_by T) G (hr.mono (by decide)) tk (by exact (pfa_cons (pf_var 0) (pfa_cons (by exact (pf_callT (ok_row_of T) G (hr.mono (by decide)) tk (by exact (pfa_cons (pf_var 1) pfa_nil)))) pfa_nil)))))))))).hide
theorem sc_is_flat : FnScope ["value"] ["value"] (defScope (top 14)) := ⟨rfl, rfl, rfl, by decide +kernel, rfl, by decide +kernel, by decide +kernel⟩
theorem ok_is_flat (T : Facts K mg) : FnT P w K mg base 2 "is_flat" F_is_flat 1 := FnT.body (N := ["value"]) (ps := ["value"]) (g := g_is_flat) T.d_is_flat sc_is_flat fun f cdv A outer s H E G hr tk hp => (by exact (psb_cons (by exact (ps_iff (by exact (pt_w (pw_or' (by exact (pt_cm op_isN os_isN (pf_var 0) pf_non (nomark _))) (pw_o1 (by exact (pt_pl (by exact (pf_isi .bl (pf_var 0) T.n_isinstance T.n_bool rfl (by decide))))))))) (by exact (psb_one (by exact (ps_rt pf_bl)))) psb_nil)) (by exact (psb_one (by exact (ps_rt (by exact (pf_or (by exact (pf_callT (ok_is_whole T) G (hr.mono (by decide)) tk (by exact (pfa_cons (pf_var 0) (pfa_cons pf_int (pfa_cons (by exact (pf_glob T.c_GREAT)) pfa_nil)))))) (pf_one (by exact (pf_and (by exact (pf_isi .str (pf_var 0) T.n_isinstance T.n_str rfl (by decide))) (pf_one (by exact (pf_cmp op_le os_ic (by exact (pf_cb call_len cs_len (by exact (pfa_cons (pf_var 0) pfa_nil)) T.n_len rfl)) (by exact (pf_glob T.c_LONGEST)) (nomark _)))))))))))))))
theorem sc_is_plain : FnScope ["value", "line", "one", "deep", "part"] ["value"] (defScope (top 15)) := ⟨rfl, rfl, rfl, by decide +kernel, rfl, by decide +kernel, by decide +kernel⟩
theorem ok_is_plain (T : Facts K mg) : FnT P w K mg base 3 "is_plain" F_is_plain 1 := (FnT.body (N := ["value", "line", "one", "deep", "part"]) (ps := ["value"]) (g := g_is_plain) T.d_is_plain sc_is_plain fun f cdv A outer s H E G hr tk hp => (by exact (psb_cons (by exact (ps_st G (by exact (pf_new (by exact (pfa_cons (by exact (pf_tup (by exact (pfa_cons (pf_var 0) (pfa_cons pf_int pfa_nil))))) pfa_nil)))))) (by exact (psb_cons (by exact (ps_wh hp (by exact (pt_cm (op_neAll G) os_ne (pf_var 1) (by exact (pf_lst pfa_nil)) (nomark _))) (by exact (psb_cons (by exact (ps_as (by exact (pf_pop (pf_var 1))) (pfg_tup rfl (pfgs_cons (pg_n 2 G.nd) (pfgs_cons (pg_n 3 G.nd) pfgs_nil))))) (by exact (psb_one (by exact (ps_iff (by exact (pt_pl (by exact (pf_isi .tup (pf_var 2) T.n_isinstance T.n_tuple rfl (by decide))))) (by exact (psb_cons (by exact (ps_iff (by exact (pt_w (pw_or' (by exact (pt_cm op_gt os_ic (by exact (pf_cb call_len cs_len (by exact (pfa_cons (pf_var 2) pfa_nil)) T.n_len rfl)) (by exact (pf_glob T.c_ITEMS)) (nomark _))) (pw_o1 (by exact (pt_cm (op_eqAll G) os_eq (pf_var 3) (by exact (pf_glob T.c_NESTED)) (nomark _))))))) (by exact (psb_one (by exact (ps_rt pf_bl)))) psb_nil)) (by exact (psb_one (by exact (ps_au G (by exact (pf_hide (pf_comp G rfl [("part", 4)] (by exact (pfi_it (pf_var 2))) (by change blkC ["value", "line", "one", "deep", "part"] (defScope (top 15)) _ _ = true; decide +kernel) (fun _ _ _ _ _ => (pfg_name 4 (pg_n 4 (gx_blk G).nd))) (fun _ _ _ _ _ => pfts_nil) (fun _ _ _ _ _ => (by exact (pf_tup (by exact (pfa_cons (pf_var 4) (pfa_cons (by exact (pf_op op_addAll os_add (pf_var 3) pf_int)) pfa_nil))))))))))))))) (by exact (psb_one (by exact (ps_iff (by exact (pt_no (by exact (pt_pl (by exact (pf_callT (ok_is_flat T) G (hr.mono (by decide)) tk (by exact (pfa_cons (pf_var 2) pfa_nil)))))))) (by exact (psb_one (by exact (ps_rt pf_bl)))) psb_nil)))))))))))) (by exact (psb_one (by exact (ps_rt pf_bl))))))))).hide
theorem sc_digest_of : FnScope ["base", "value"] ["base", "value"] (defScope (top 22)) := ⟨rfl, rfl, rfl, by decide +kernel, rfl, by decide +kernel, by decide +kernel⟩
theorem ok_digest_of (T : Facts K mg) : FnT P w K mg base 5 "digest_of" F_digest_of 2 := (FnT.body (N := ["base", "value"]) (ps := ["base", "value"]) (g := g_digest_of) T.d_digest_of sc_digest_of fun f cdv A outer s H E G hr tk hp => (by exact (psb_cons (by exact (ps_exp (by exact (pf_callT (ok_need_base T) G (hr.mono (by decide)) tk (by exact (pfa_cons (pf_var 0) pfa_nil)))))) (by exact (psb_cons (by exact (ps_iff (by exact (pt_no (by exact (pt_pl (by exact (pf_callT (ok_is_plain T) G (hr.mono (by decide)) tk (by exact (pfa_cons (pf_var 1) pfa_nil)))))))) (by exact (psb_one (by exact (ps_raT rfl tk T.x_InvalidValue)))) psb_nil)) (by exact (psb_one (by exact (ps_rt (by exact (pf_callT (ok_value_digest T) G (hr.mono (by decide)) tk (by exact (pfa_cons (pf_var 0) (pfa_cons (pf_var 1) pfa_nil)))))))))))))).hide
theorem sc__law_no_base : FnScope ["value", "e"] ["value"] (defScope (top 32)) := ⟨rfl, rfl, rfl, by decide +kernel, rfl, by decide +kernel, by decide +kernel⟩
theorem ok__law_no_base (T : Facts K mg) : FnT P w K mg base 6 "_law_no_base" F__law_no_base 1 := (FnT.body (N := ["value", "e"]) (ps := ["value"]) (g := g__law_no_base) T.d__law_no_base sc__law_no_base fun f cdv A outer s H E G hr tk hp => (by exact (psb_cons (by exact (ps_tryT G rfl rfl T.s_InvalidNumber tk (fun W pn xe tkT hpT => (by exact (psb_one (by exact (ps_exp (by exact (pf_callT (ok_digest_of T) (gx_tr G) (hr.mono (by decide)) tkT (by exact (pfa_cons (pf_var 0) (pfa_cons (by exact (pf_lst pfa_nil)) pfa_nil)))))))))) (fun a oe C pn h1 hz hf => (by exact (psb_one (by exact (ps_rt (by exact (pf_eisT (i := 1) T.i_InvalidNumber_GasError h1 hz hf T.n_isinstance))))))))) (by exact (psb_one (by exact (ps_rt pf_bl))))))).hide
theorem sc__law_plain : FnScope ["cup", "deep", "way", "many", "k"] ["cup", "deep"] (defScope (top 27)) := ⟨rfl, rfl, rfl, by decide +kernel, rfl, by decide +kernel, by decide +kernel⟩
theorem ok__law_plain (T : Facts K mg) : ∀ k : Nat, FnT P w K mg base (2 + k) "_law_plain" (F__law_plain k) 2
  | 0 => (FnT.never T.d__law_plain).mono (Nat.zero_le _)
  | k + 1 => by
    have hR := ok__law_plain T k
    exact (FnT.body (N := ["cup", "deep", "way", "many", "k"]) (ps := ["cup", "deep"]) (g := g__law_plain (F__law_plain k)) T.d__law_plain sc__law_plain fun f cdv A outer s H E G hr tk hp => (by exact (psb_cons (by exact (ps_st G (by exact (pf_callT (ok__law_roll T) G (hr.mono (Nat.le_trans (by decide) (Nat.le_add_right 2 _))) tk (by exact (pfa_cons (pf_var 0) (pfa_cons (by exact (pf_if (by exact (pt_cm op_gt os_ic (pf_var 1) pf_int (nomark _))) pf_int pf_int)) pfa_nil))))))) (by exact (psb_cons (by exact (ps_iff (by exact (pt_cm (op_eqAll G) os_eq (pf_var 2) pf_int (nomark _))) (by exact (psb_one (by exact (ps_rt (by exact (pf_callT (ok__law_some T) G (hr.mono (Nat.le_trans (by decide) (Nat.le_add_right 2 _))) tk (by exact (pfa_cons (pf_var 0) (pfa_cons (by exact (pf_lst (by exact (pfa_cons pf_non (pfa_cons pf_bl (pfa_cons pf_bl (pfa_cons pf_int (pfa_cons pf_str pfa_nil)))))))) pfa_nil))))))))) psb_nil)) (by exact (psb_cons (by exact (ps_iff (by exact (pt_cm op_ltAll os_lt (pf_var 2) pf_int (nomark _))) (by exact (psb_one (by exact (ps_rt (by exact (pf_callT (ok__law_some T) G (hr.mono (Nat.le_trans (by decide) (Nat.le_add_right 2 _))) tk (by exact (pfa_cons (pf_var 0) (pfa_cons (by exact (pf_lst (by exact (pfa_cons pf_int (pfa_cons pf_int (pfa_cons pf_int (pfa_cons (by exact (pf_op op_pow os_pow pf_int pf_int)) (pfa_cons (by exact (pf_op op_sub os_sub (by exact (pf_op op_pow os_pow pf_int pf_int)) pf_int)) (pfa_cons (by exact (pf_callT (ok__law_roll T) G (hr.mono (Nat.le_trans (by decide) (Nat.le_add_right 2 _))) tk (by exact (pfa_cons (pf_var 0) (pfa_cons pf_int pfa_nil))))) (pfa_cons (by exact (pf_callT (ok__law_roll T) G (hr.mono (Nat.le_trans (by decide) (Nat.le_add_right 2 _))) tk (by exact (pfa_cons (pf_var 0) (pfa_cons (by exact (pf_op op_pow os_pow pf_int pf_int)) pfa_nil))))) pfa_nil)))))))))) pfa_nil))))))))) psb_nil)) (by exact (psb_cons (by exact (ps_iff (by exact (pt_cm (op_eqAll G) os_eq (pf_var 2) pf_int (nomark _))) (by exact (psb_one (by exact (ps_rt (by exact (Fl.pf_join pf_str (by exact (pf_hide (pf_comp G rfl [("k", 4)] (by exact (pfi_rng1 (by exact (pf_callT (ok__law_some T) G (hr.mono (Nat.le_trans (by decide) (Nat.le_add_right 2 _))) tk (by exact (pfa_cons (pf_var 0) (pfa_cons (by exact (pf_lst (by exact (pfa_cons pf_int (pfa_cons pf_int (pfa_cons pf_int pfa_nil)))))) pfa_nil))))) T.n_range)) (by change blkC ["cup", "deep", "way", "many", "k"] (defScope (top 27)) _ _ = true; decide +kernel) (fun _ _ _ _ _ => (pfg_name 4 (pg_n 4 (gx_blk G).nd))) (fun _ _ _ _ _ => pfts_nil) (fun _ _ _ _ _ => (by exact (pf_callT (ok__law_some T) (gx_blk G) (hr.mono (Nat.le_trans (by decide) (Nat.le_add_right 2 _))) takes_blk (by exact (pfa_cons (pf_var 0) (pfa_cons (by exact (pf_ct (call_list_all rfl) cs_list (by exact (pfa_cons pf_str pfa_nil)) T.n_list rfl)) pfa_nil))))))))))))))) psb_nil)) (by exact (psb_cons (by exact (ps_st G (by exact (pf_if (by exact (pt_w (pw_an (by exact (pt_cm (op_eqAll G) os_eq (pf_var 2) pf_int (nomark _))) (pw_a1 (by exact (pt_cm (op_eqAll G) os_eq (by exact (pf_callT (ok__law_roll T) G (hr.mono (Nat.le_trans (by decide) (Nat.le_add_right 2 _))) tk (by exact (pfa_cons (pf_var 0) (pfa_cons pf_int pfa_nil))))) pf_int (nomark _))))))) pf_int (by exact (pf_callT (ok__law_roll T) G (hr.mono (Nat.le_trans (by decide) (Nat.le_add_right 2 _))) tk (by exact (pfa_cons (pf_var 0) (pfa_cons pf_int pfa_nil))))))))) (by exact (psb_one (by exact (ps_rt (by exact (pf_if (by exact (pt_cm op_gt os_ic (pf_var 3) pf_int (nomark _))) (by exact (pf_op op_mulAll os_mul (by exact (pf_tup (by exact (pfa_cons (by exact (pf_callT hR G (hr.mono (Nat.le_refl _)) tk (by exact (pfa_cons (pf_var 0) (pfa_cons pf_int pfa_nil))))) pfa_nil)))) (pf_var 3))) (by exact (pf_ct call_tuple_of cs_tuple (by exact (pfa_cons (by exact (pf_hide (pf_comp G rfl [("k", 4)] (by exact (pfi_rng1 (pf_var 3) T.n_range)) (by change blkC ["cup", "deep", "way", "many", "k"] (defScope (top 27)) _ _ = true; decide +kernel) (fun _ _ _ _ _ => (pfg_name 4 (pg_n 4 (gx_blk G).nd))) (fun _ _ _ _ _ => pfts_nil) (fun _ _ _ _ _ => (by exact (pf_callT hR (gx_blk G) (hr.mono (Nat.le_refl _)) takes_blk (by exact (pfa_cons (pf_var 0) (pfa_cons (by exact (pf_op op_sub os_sub (pf_var 1) pf_int)) pfa_nil))))))))) pfa_nil)) T.n_tuple rfl))))))))))))))))))).hide
theorem sc_value_row : FnScope ["value"] ["value"] (defScope (top 21)) := ⟨rfl, rfl, rfl, by decide +kernel, rfl, by decide +kernel, by decide +kernel⟩
theorem ok_value_row (T : Facts K mg) : FnT P w K mg base 4 "value_row" F_value_row 1 := (FnT.body (N := ["value"]) (ps := ["value"]) (g := g_value_row) T.d_value_row sc_value_row fun f cdv A outer s H E G hr tk hp => (by exact (psb_cons (by exact (ps_iff (by exact (pt_no (by exact (pt_pl (by exact (pf_callT (ok_is_plain T) G (hr.mono (by decide)) tk (by exact (pfa_cons (pf_var 0) pfa_nil)))))))) (by exact (psb_one (by exact (ps_raT rfl tk T.x_InvalidValue)))) psb_nil)) (by exact (psb_one (by exact (ps_rt (by exact (pf_ct call_tuple_of cs_tuple (by exact (pfa_cons (by exact (pf_callT (ok_row_of T) G (hr.mono (by decide)) tk (by exact (pfa_cons (pf_var 0) pfa_nil)))) pfa_nil)) T.n_tuple rfl))))))))).hide
theorem sc__law_mixed : FnScope ["base", "row", "digest", "one"] ["base", "row"] (defScope (top 29)) := ⟨rfl, rfl, rfl, by decide +kernel, rfl, by decide +kernel, by decide +kernel⟩
theorem ok__law_mixed (T : Facts K mg) : FnT P w K mg base 1 "_law_mixed" F__law_mixed 2 := (FnT.body (N := ["base", "row", "digest", "one"]) (ps := ["base", "row"]) (g := g__law_mixed) T.d__law_mixed sc__law_mixed fun f cdv A outer s H E G hr tk hp => (by exact (psb_cons (by exact (ps_st G (by exact (pf_op op_mod os_mod (by exact (pf_ct call_int1 cs_int (by exact (pfa_cons pf_int pfa_nil)) T.n_int rfl)) (pf_var 0))))) (by exact (psb_cons (by exact (ps_fo hp rfl (by exact (pfi_it (pf_var 1))) (pfg_name 3 (pg_n 3 G.nd)) (by exact (psb_one (by exact (ps_st G (by exact (pf_op op_mod os_mod (by exact (pf_ct call_int1 cs_int (by exact (pfa_cons (by exact (pf_op op_addAll os_add (by exact (pf_op op_addAll os_add (by exact (pf_op op_mulAll os_mul (pf_var 2) (by exact (pf_op op_addAll os_add (pf_var 2) pf_int)))) (pf_var 3))) pf_int)) pfa_nil)) T.n_int rfl)) (pf_var 0))))))))) (by exact (psb_one (by exact (ps_rt (pf_var 2)))))))))).hide
theorem sc__law_row : FnScope ["value", "found", "turn", "one", "sign"] ["value"] (defScope (top 28)) := ⟨rfl, rfl, rfl, by decide +kernel, rfl, by decide +kernel, by decide +kernel⟩
theorem ok__law_row (T : Facts K mg) : ∀ k : Nat, FnT P w K mg base (0 + k) "_law_row" (F__law_row k) 1
  | 0 => (FnT.never T.d__law_row).mono (Nat.zero_le _)
  | k + 1 => by
    have hR := ok__law_row T k
    exact (FnT.body (N := ["value", "found", "turn", "one", "sign"]) (ps := ["value"]) (g := g__law_row (F__law_row k)) T.d__law_row sc__law_row fun f cdv A outer s H E G hr tk hp => (by exact (psb_cons (by exact (ps_iff (by exact (pt_w (pw_or' (by exact (pt_cm op_isN os_isN (pf_var 0) pf_non (nomark _))) (pw_o1 (by exact (pt_pl (by exact (pf_isi .bl (pf_var 0) T.n_isinstance T.n_bool rfl (by decide))))))))) (by exact (psb_one (by exact (ps_rt (by exact (pf_lst (by exact (pfa_cons (by exact (pf_if (by exact (pt_cm op_isN os_isN (pf_var 0) pf_non (nomark _))) pf_int (by exact (pf_if (by exact (pt_pl (pf_var 0))) pf_int pf_int)))) pfa_nil)))))))) psb_nil)) (by exact (psb_cons (by exact (ps_iff (by exact (pt_pl (by exact (pf_isi .int (pf_var 0) T.n_isinstance T.n_int rfl (by decide))))) (by exact (psb_cons (by exact (ps_st G (by exact (pf_lst pfa_nil)))) (by exact (psb_cons (by exact (ps_fo hp rfl (by exact (pfi_rng1 pf_int T.n_range)) (pfg_name 2 (pg_n 2 G.nd)) (by exact (psb_one (by exact (ps_iff (by exact (pt_cm op_gt os_ic (pf_var 0) pf_int (nomark _))) (by exact (psb_one (by exact (ps_pr G rfl (by exact (pf_op op_addAll os_add (by exact (pf_lst (by exact (pfa_cons (by exact (pf_op op_mod os_mod (by exact (pf_ct call_int1 cs_int (by exact (pfa_cons (pf_var 0) pfa_nil)) T.n_int rfl)) pf_int)) pfa_nil)))) (pf_var 1))) (by exact (pf_op op_fdivW os_fdiv (pf_var 0) pf_int)))))) psb_nil)))))) (by exact (psb_one (by exact (ps_rt (by exact (pf_op op_addAll os_add (by exact (pf_lst (by exact (pfa_cons pf_int (pfa_cons (by exact (pf_cb call_len cs_len (by exact (pfa_cons (pf_var 1) pfa_nil)) T.n_len rfl)) pfa_nil))))) (pf_var 1))))))))))) psb_nil)) (by exact (psb_cons (by exact (ps_iff (by exact (pt_pl (by exact (pf_isi .str (pf_var 0) T.n_isinstance T.n_str rfl (by decide))))) (by exact (psb_one (by exact (ps_rt (by exact (pf_op op_addAll os_add (by exact (pf_lst (by exact (pfa_cons pf_int (pfa_cons (by exact (pf_cb call_len cs_len (by exact (pfa_cons (pf_var 0) pfa_nil)) T.n_len rfl)) pfa_nil))))) (by exact (pf_hide (pf_comp G rfl [("sign", 4)] (by exact (pfi_it (pf_var 0))) (by change blkC ["value", "found", "turn", "one", "sign"] (defScope (top 28)) _ _ = true; decide +kernel) (fun _ _ _ _ _ => (pfg_name 4 (pg_n 4 (gx_blk G).nd))) (fun _ _ _ _ _ => pfts_nil) (fun _ _ _ _ _ => (by exact (pf_cb call_ord cs_ord (by exact (pfa_cons (pf_var 4) pfa_nil)) T.n_ord rfl)))))))))))) psb_nil)) (by exact (psb_cons (by exact (ps_st G (by exact (pf_lst (by exact (pfa_cons pf_int (pfa_cons (by exact (pf_op op_fdivW os_fdiv (by exact (pf_cb call_len cs_len (by exact (pfa_cons (pf_var 0) pfa_nil)) T.n_len rfl)) pf_int)) (pfa_cons (by exact (pf_op op_mod os_mod (by exact (pf_ct call_int1 cs_int (by exact (pfa_cons (by exact (pf_cb call_len cs_len (by exact (pfa_cons (pf_var 0) pfa_nil)) T.n_len rfl)) pfa_nil)) T.n_int rfl)) pf_int)) pfa_nil)))))))) (by exact (psb_cons (by exact (ps_fo hp rfl (by exact (pfi_it (pf_var 0))) (pfg_name 3 (pg_n 3 G.nd)) (by exact (psb_one (by exact (ps_st G (by exact (pf_op op_addAll os_add (pf_var 1) (by exact (pf_callT hR G (hr.mono (Nat.le_refl _)) tk (by exact (pfa_cons (pf_var 3) pfa_nil)))))))))))) (by exact (psb_one (by exact (ps_rt (pf_var 1)))))))))))))))).hide
theorem sc__law_digest : FnScope ["base", "value"] ["base", "value"] (defScope (top 30)) := ⟨rfl, rfl, rfl, by decide +kernel, rfl, by decide +kernel, by decide +kernel⟩
theorem ok__law_digest (T : Facts K mg) : FnT P w K mg base 71 "_law_digest" F__law_digest 2 := (FnT.body (N := ["base", "value"]) (ps := ["base", "value"]) (g := g__law_digest) T.d__law_digest sc__law_digest fun f cdv A outer s H E G hr tk hp => (by exact (psb_one (by exact (ps_rt (by exact (pf_callT (ok__law_mixed T) G (hr.mono (by decide)) tk (by exact (pfa_cons (pf_var 0) (pfa_cons (by exact (pf_callT (ok__law_row T 70) G (hr.mono (by decide)) tk (by exact (pfa_cons (pf_var 1) pfa_nil)))) pfa_nil)))))))))).hide
theorem sc__law_refused : FnScope ["value", "by_digest", "e"] ["value", "by_digest"] (defScope (top 31)) := ⟨rfl, rfl, rfl, by decide +kernel, rfl, by decide +kernel, by decide +kernel⟩
theorem ok__law_refused (T : Facts K mg) : FnT P w K mg base 6 "_law_refused" F__law_refused 2 := (FnT.body (N := ["value", "by_digest", "e"]) (ps := ["value", "by_digest"]) (g := g__law_refused) T.d__law_refused sc__law_refused fun f cdv A outer s H E G hr tk hp => (by exact (psb_cons (by exact (ps_tryT G rfl rfl T.s_InvalidValue tk (fun W pn xe tkT hpT => (by exact (psb_one (by exact (ps_iff (by exact (pt_pl (pf_var 1))) (by exact (psb_one (by exact (ps_exp (by exact (pf_callT (ok_digest_of T) (gx_tr G) (hr.mono (by decide)) tkT (by exact (pfa_cons pf_int (pfa_cons (pf_var 0) pfa_nil))))))))) (by exact (psb_one (by exact (ps_exp (by exact (pf_callT (ok_value_row T) (gx_tr G) (hr.mono (by decide)) tkT (by exact (pfa_cons (pf_var 0) pfa_nil))))))))))))) (fun a oe C pn h1 hz hf => (by exact (psb_one (by exact (ps_rt (by exact (pf_and (by exact (pf_eisT (i := 2) T.i_InvalidValue_GasError h1 hz hf T.n_isinstance)) (pf_one (by exact (pf_eisT (i := 2) T.i_InvalidValue_ValueError h1 hz hf T.n_isinstance)))))))))))) (by exact (psb_one (by exact (ps_rt pf_bl))))))).hide
theorem sc_law : FnScope ["script", "cup", "value", "base", "other", "row", "more", "deep", "turn", "one", "bad"] ["script"] (defScope (top 33)) := ⟨rfl, rfl, rfl, by decide +kernel, rfl, by decide +kernel, by decide +kernel⟩
theorem ok_law (T : Facts K mg) {f : Addr} {fd : FuncData} (F1 : Fun K "law" "law" (top 33) f fd) : FnG P w K mg base 72 f fd ["script"] F_law := FnG.body (N := ["script", "cup", "value", "base", "other", "row", "more", "deep", "turn", "one", "bad"]) (ps := ["script"]) (g := g_law) F1 sc_law fun cdv A outer s H E G hr tk hp => (by exact (psb_cons (by exact (ps_st G (by exact (pf_callT (ok__law_cup T) G (hr.mono (by decide)) tk (by exact (pfa_cons (pf_var 0) pfa_nil)))))) (by exact (psb_cons (by exact (ps_pr G rfl (by exact (pf_callT (ok__law_plain T 4) G (hr.mono (by decide)) tk (by exact (pfa_cons (pf_var 1) (pfa_cons pf_int pfa_nil))))) (by exact (pf_callT (ok__law_some T) G (hr.mono (by decide)) tk (by exact (pfa_cons (pf_var 1) (pfa_cons (by exact (pf_lst (by exact (pfa_cons pf_int (pfa_cons pf_int (pfa_cons pf_int (pfa_cons pf_int (pfa_cons (by exact (pf_op op_sub os_sub (by exact (pf_op op_pow os_pow pf_int pf_int)) pf_int)) (pfa_cons (by exact (pf_op op_addAll os_add pf_int (by exact (pf_callT (ok__law_roll T) G (hr.mono (by decide)) tk (by exact (pfa_cons (pf_var 1) (pfa_cons (by exact (pf_op op_pow os_pow pf_int pf_int)) pfa_nil))))))) pfa_nil))))))))) pfa_nil))))))) (by exact (psb_cons (by exact (ps_st G (by exact (pf_callT (ok__law_some T) G (hr.mono (by decide)) tk (by exact (pfa_cons (pf_var 1) (pfa_cons (by exact (pf_lst (by exact (pfa_cons (pf_var 2) (pfa_cons (by exact (pf_tup (by exact (pfa_cons (pf_var 2) pfa_nil)))) (pfa_cons (by exact (pf_callT (ok__law_plain T 4) G (hr.mono (by decide)) tk (by exact (pfa_cons (pf_var 1) (pfa_cons pf_int pfa_nil))))) (pfa_cons (by exact (pf_ix (by exact (pf_lst (by exact (pfa_cons (pf_var 2) pfa_nil)))) pf_int)) pfa_nil))))))) pfa_nil))))))) (by exact (psb_cons (by exact (ps_pr G rfl (by exact (pf_callT (ok_value_row T) G (hr.mono (by decide)) tk (by exact (pfa_cons (pf_var 2) pfa_nil)))) (by exact (pf_callT (ok_value_row T) G (hr.mono (by decide)) tk (by exact (pfa_cons (pf_var 4) pfa_nil)))))) (by exact (psb_cons (by exact (ps_iff (by exact (pt_w (pw_or' (by exact (pt_no (by exact (pt_pl (by exact (pf_isi .tup (pf_var 5) T.n_isinstance T.n_tuple rfl (by decide))))))) (pw_or' (by exact (pt_cm (op_neAll G) os_ne (by exact (pf_cb (call_repr G) cs_repr (by exact (pfa_cons (by exact (pf_ct (call_list_all rfl) cs_list (by exact (pfa_cons (pf_var 5) pfa_nil)) T.n_list rfl)) pfa_nil)) T.n_repr rfl)) (by exact (pf_cb (call_repr G) cs_repr (by exact (pfa_cons (by exact (pf_callT (ok__law_row T 70) G (hr.mono (by decide)) tk (by exact (pfa_cons (pf_var 2) pfa_nil)))) pfa_nil)) T.n_repr rfl)) (nomark _))) (pw_o1 (by exact (pt_cm (op_neAll G) os_ne (by exact (pf_cb (call_repr G) cs_repr (by exact (pfa_cons (by exact (pf_ct (call_list_all rfl) cs_list (by exact (pfa_cons (pf_var 6) pfa_nil)) T.n_list rfl)) pfa_nil)) T.n_repr rfl)) (by exact (pf_cb (call_repr G) cs_repr (by exact (pfa_cons (by exact (pf_callT (ok__law_row T 70) G (hr.mono (by decide)) tk (by exact (pfa_cons (pf_var 4) pfa_nil)))) pfa_nil)) T.n_repr rfl)) (nomark _)))))))) (by exact (psb_one (by exact (ps_rt pf_bl)))) psb_nil)) (by exact (psb_cons (by exact (ps_iff (by exact (pt_cm (op_neAll G) os_ne (by exact (pf_cmp (op_eqAll G) os_eq (pf_var 5) (pf_var 6) (nomark _))) (by exact (pf_cmp (op_eqAll G) os_eq (by exact (pf_cb (call_repr G) cs_repr (by exact (pfa_cons (pf_var 2) pfa_nil)) T.n_repr rfl)) (by exact (pf_cb (call_repr G) cs_repr (by exact (pfa_cons (pf_var 4) pfa_nil)) T.n_repr rfl)) (nomark _))) (nomark _))) (by exact (psb_one (by exact (ps_rt pf_bl)))) psb_nil)) (by exact (psb_cons (by exact (ps_iff (by exact (pt_cm (op_neAll G) os_ne (by exact (pf_cb (call_repr G) cs_repr (by exact (pfa_cons (by exact (pf_callT (ok_digest_of T) G (hr.mono (by decide)) tk (by exact (pfa_cons (pf_var 3) (pfa_cons (pf_var 2) pfa_nil))))) pfa_nil)) T.n_repr rfl)) (by exact (pf_cb (call_repr G) cs_repr (by exact (pfa_cons (by exact (pf_callT (ok__law_digest T) G (hr.mono (by decide)) tk (by exact (pfa_cons (pf_var 3) (pfa_cons (pf_var 2) pfa_nil))))) pfa_nil)) T.n_repr rfl)) (nomark _))) (by exact (psb_one (by exact (ps_rt pf_bl)))) psb_nil)) (by exact (psb_cons (by exact (ps_st G (by exact (pf_tup pfa_nil)))) (by exact (psb_cons (by exact (ps_fo hp rfl (by exact (pfi_rng1 pf_int T.n_range)) (pfg_name 8 (pg_n 8 G.nd)) (by exact (psb_cons (by exact (ps_st G (pf_var 7))) (by exact (psb_one (by exact (ps_st G (by exact (pf_tup (by exact (pfa_cons (pf_var 7) pfa_nil)))))))))))) (by exact (psb_cons (by exact (ps_fo hp rfl (by exact (pfi_it (by exact (pf_lst (by exact (pfa_cons (pf_var 2) (pfa_cons (by exact (pf_op op_mulAll os_mul (by exact (pf_tup (by exact (pfa_cons (by exact (pf_callT (ok__law_plain T 4) G (hr.mono (by decide)) tk (by exact (pfa_cons (pf_var 1) (pfa_cons pf_int pfa_nil))))) pfa_nil)))) (by exact (pf_if (by exact (pt_cm (op_eqAll G) os_eq (by exact (pf_callT (ok__law_roll T) G (hr.mono (by decide)) tk (by exact (pfa_cons (pf_var 1) (pfa_cons pf_int pfa_nil))))) pf_int (nomark _))) pf_int pf_int)))) pfa_nil))))))) (pfg_name 9 (pg_n 9 G.nd)) (by exact (psb_one (by exact (ps_iff (by exact (pt_w (pw_or' (by exact (pt_cm (op_neAll G) os_ne (by exact (pf_cb (call_repr G) cs_repr (by exact (pfa_cons (by exact (pf_ct (call_list_all rfl) cs_list (by exact (pfa_cons (by exact (pf_callT (ok_value_row T) G (hr.mono (by decide)) tk (by exact (pfa_cons (pf_var 9) pfa_nil)))) pfa_nil)) T.n_list rfl)) pfa_nil)) T.n_repr rfl)) (by exact (pf_cb (call_repr G) cs_repr (by exact (pfa_cons (by exact (pf_callT (ok__law_row T 70) G (hr.mono (by decide)) tk (by exact (pfa_cons (pf_var 9) pfa_nil)))) pfa_nil)) T.n_repr rfl)) (nomark _))) (pw_o1 (by exact (pt_cm (op_neAll G) os_ne (by exact (pf_cb (call_repr G) cs_repr (by exact (pfa_cons (by exact (pf_callT (ok_digest_of T) G (hr.mono (by decide)) tk (by exact (pfa_cons (pf_var 3) (pfa_cons (pf_var 9) pfa_nil))))) pfa_nil)) T.n_repr rfl)) (by exact (pf_cb (call_repr G) cs_repr (by exact (pfa_cons (by exact (pf_callT (ok__law_digest T) G (hr.mono (by decide)) tk (by exact (pfa_cons (pf_var 3) (pfa_cons (pf_var 9) pfa_nil))))) pfa_nil)) T.n_repr rfl)) (nomark _))))))) (by exact (psb_one (by exact (ps_rt pf_bl)))) psb_nil)))))) (by exact (psb_cons (by exact (ps_st G (by exact (pf_callT (ok__law_some T) G (hr.mono (by decide)) tk (by exact (pfa_cons (pf_var 1) (pfa_cons (by exact (pf_lst (by exact (pfa_cons (by exact (pf_ng pf_int)) (pfa_cons (by exact (pf_op op_addAll os_add (by exact (pf_op op_pow os_pow pf_int pf_int)) pf_int)) (pfa_cons (by exact (pf_op op_mulAll os_mul pf_str pf_int)) (pfa_cons (by exact (pf_lst (by exact (pfa_cons pf_int pfa_nil)))) (pfa_cons (by exact (pf_tup (by exact (pfa_cons pf_int (pfa_cons (by exact (pf_lst (by exact (pfa_cons pf_int pfa_nil)))) pfa_nil))))) (pfa_cons (by exact (pf_op op_mulAll os_mul (by exact (pf_tup (by exact (pfa_cons pf_non pfa_nil)))) pf_int)) (pfa_cons (pf_var 7) (pfa_cons (by exact (pf_tup (by exact (pfa_cons (by exact (pf_tup (by exact (pfa_cons (pf_var 2) (pfa_cons (by exact (pf_ng pf_int)) pfa_nil))))) pfa_nil)))) pfa_nil))))))))))) pfa_nil))))))) (by exact (psb_cons (by exact (ps_iff (by exact (pt_w (pw_or' (by exact (pt_no (by exact (pt_pl (by exact (pf_callT (ok__law_refused T) G (hr.mono (by decide)) tk (by exact (pfa_cons (pf_var 10) (pfa_cons pf_bl pfa_nil))))))))) (pw_o1 (by exact (pt_no (by exact (pt_pl (by exact (pf_callT (ok__law_refused T) G (hr.mono (by decide)) tk (by exact (pfa_cons (pf_var 10) (pfa_cons pf_bl pfa_nil))))))))))))) (by exact (psb_one (by exact (ps_rt pf_bl)))) psb_nil)) (by exact (psb_one (by exact (ps_rt (by exact (pf_callT (ok__law_no_base T) G (hr.mono (by decide)) tk (by exact (pfa_cons (by exact (pf_callT (ok__law_some T) G (hr.mono (by decide)) tk (by exact (pfa_cons (pf_var 1) (pfa_cons (by exact (pf_lst (by exact (pfa_cons pf_int (pfa_cons pf_int (pfa_cons (by exact (pf_op op_pow os_pow pf_int pf_int)) (pfa_cons pf_bl (pfa_cons pf_non (pfa_cons pf_str (pfa_cons (by exact (pf_ng pf_int)) pfa_nil)))))))))) pfa_nil))))) pfa_nil))))))))))))))))))))))))))))))))
theorem law_end (T : Facts K mg) {f : Addr} {fd : FuncData} (F1 : Fun K "law" "law" (top 33) f fd) : ∃ fd : FuncData, (∀ (s : Shared) (u : Value), BindsTo s fd ⟨[u], []⟩ [("script", u)]) ∧ ∀ base : Heap, K.In base → base.Ns mainGlobals mg → FnG P w K mg base 72 f fd ["script"] F_law := by
  refine ⟨fd, fun s u => ?_, fun base _ _ => ok_law T F1⟩
  obtain ⟨oc, od, kV, doc, pm, an, cdv, ct, osl, rfl, _⟩ := F1.ex
  exact .of_eq rfl
end
end K61
open PySem PySem.W PyProof.Rows
set_option maxHeartbeats 0 in
theorem PySem.Challenge.cw_gasahead_k61_rows_and_digests_holds : PySem.Challenge.rw_gasahead_k61_rows_and_digests.Holds := by
  w_on; o_law; k_head; (case hw => w_witness2)
  k_fill
  refine Fl.walkG (l := PySem.Challenge.rw_gasahead_k61_rows_and_digests) (n := 63) (k := 72) (x := "script") ⟨rfl, by decide, by decide⟩ rfl (by decide) rfl (fun w h Y => PySem.W.kIn_of Y) (fun _ _ => K61.F_law) ?P (fun _ _ ns h => K61.law_true ns h)
  case P =>
    intro w mg fa h KX G GX hmg
    have d__law_cup : Fl.DefOk (L2.KOf KX) mg "_law_cup" (K61.top 24) ["script"] := by
      unfold L2.KOf
      refine' Fl.DefOk.make KX G ?a ?l ?c ?k ?b
      (case a => k_is); (case l => k_is); (case c => k_is); (case k => k_is)
      (case b => exact fun _ _ _ _ _ _ us hl => match us, hl with | [_], _ => rfl)
    have d__law_roll : Fl.DefOk (L2.KOf KX) mg "_law_roll" (K61.top 25) ["cup", "many"] := by
      unfold L2.KOf
      refine' Fl.DefOk.make KX G ?a ?l ?c ?k ?b
      (case a => k_is); (case l => k_is); (case c => k_is); (case k => k_is)
      (case b => exact fun _ _ _ _ _ _ us hl => match us, hl with | [_, _], _ => rfl)
    have d__law_some : Fl.DefOk (L2.KOf KX) mg "_law_some" (K61.top 26) ["cup", "things"] := by
      unfold L2.KOf
      refine' Fl.DefOk.make KX G ?a ?l ?c ?k ?b
      (case a => k_is); (case l => k_is); (case c => k_is); (case k => k_is)
      (case b => exact fun _ _ _ _ _ _ us hl => match us, hl with | [_, _], _ => rfl)
    have d_is_whole : Fl.DefOk (L2.KOf KX) mg "is_whole" (K61.top 5) ["value", "low", "high"] := by
      unfold L2.KOf
      refine' Fl.DefOk.make KX G ?a ?l ?c ?k ?b
      (case a => k_is); (case l => k_is); (case c => k_is); (case k => k_is)
      (case b => exact fun _ _ _ _ _ _ us hl => match us, hl with | [_, _, _], _ => rfl)
    have d_need_base : Fl.DefOk (L2.KOf KX) mg "need_base" (K61.top 13) ["value"] := by
      unfold L2.KOf
      refine' Fl.DefOk.make KX G ?a ?l ?c ?k ?b
      (case a => k_is); (case l => k_is); (case c => k_is); (case k => k_is)
      (case b => exact fun _ _ _ _ _ _ us hl => match us, hl with | [_], _ => rfl)
    have d_digest_by : Fl.DefOk (L2.KOf KX) mg "digest_by" (K61.top 19) ["base", "row"] := by
      unfold L2.KOf
      refine' Fl.DefOk.make KX G ?a ?l ?c ?k ?b
      (case a => k_is); (case l => k_is); (case c => k_is); (case k => k_is)
      (case b => exact fun _ _ _ _ _ _ us hl => match us, hl with | [_, _], _ => rfl)
    have d_number_bytes : Fl.DefOk (L2.KOf KX) mg "number_bytes" (K61.top 16) ["number"] := by
      unfold L2.KOf
      refine' Fl.DefOk.make KX G ?a ?l ?c ?k ?b
      (case a => k_is); (case l => k_is); (case c => k_is); (case k => k_is)
      (case b => exact fun _ _ _ _ _ _ us hl => match us, hl with | [_], _ => rfl)
    have d_flat_row : Fl.DefOk (L2.KOf KX) mg "flat_row" (K61.top 17) ["value"] := by
      unfold L2.KOf
      refine' Fl.DefOk.make KX G ?a ?l ?c ?k ?b
      (case a => k_is); (case l => k_is); (case c => k_is); (case k => k_is)
      (case b => exact fun _ _ _ _ _ _ us hl => match us, hl with | [_], _ => rfl)
    have d_row_of : Fl.DefOk (L2.KOf KX) mg "row_of" (K61.top 18) ["value"] := by
      unfold L2.KOf
      refine' Fl.DefOk.make KX G ?a ?l ?c ?k ?b
      (case a => k_is); (case l => k_is); (case c => k_is); (case k => k_is)
      (case b => exact fun _ _ _ _ _ _ us hl => match us, hl with | [_], _ => rfl)
    have d_value_digest : Fl.DefOk (L2.KOf KX) mg "value_digest" (K61.top 20) ["base", "value"] := by
      unfold L2.KOf
      refine' Fl.DefOk.make KX G ?a ?l ?c ?k ?b
      (case a => k_is); (case l => k_is); (case c => k_is); (case k => k_is)
      (case b => exact fun _ _ _ _ _ _ us hl => match us, hl with | [_, _], _ => rfl)
    have d_is_flat : Fl.DefOk (L2.KOf KX) mg "is_flat" (K61.top 14) ["value"] := by
      unfold L2.KOf
      refine' Fl.DefOk.make KX G ?a ?l ?c ?k ?b
      (case a => k_is); (case l => k_is); (case c => k_is); (case k => k_is)
      (case b => exact fun _ _ _ _ _ _ us hl => match us, hl with | [_], _ => rfl)
    have d_is_plain : Fl.DefOk (L2.KOf KX) mg "is_plain" (K61.top 15) ["value"] := by
      unfold L2.KOf
      refine' Fl.DefOk.make KX G ?a ?l ?c ?k ?b
      (case a => k_is); (case l => k_is); (case c => k_is); (case k => k_is)
      (case b => exact fun _ _ _ _ _ _ us hl => match us, hl with | [_], _ => rfl)
    have d_digest_of : Fl.DefOk (L2.KOf KX) mg "digest_of" (K61.top 22) ["base", "value"] := by
      unfold L2.KOf
      refine' Fl.DefOk.make KX G ?a ?l ?c ?k ?b
      (case a => k_is); (case l => k_is); (case c => k_is); (case k => k_is)
      (case b => exact fun _ _ _ _ _ _ us hl => match us, hl with | [_, _], _ => rfl)
    have d__law_no_base : Fl.DefOk (L2.KOf KX) mg "_law_no_base" (K61.top 32) ["value"] := by
      unfold L2.KOf
      refine' Fl.DefOk.make KX G ?a ?l ?c ?k ?b
      (case a => k_is); (case l => k_is); (case c => k_is); (case k => k_is)
      (case b => exact fun _ _ _ _ _ _ us hl => match us, hl with | [_], _ => rfl)
    have d__law_plain : Fl.DefOk (L2.KOf KX) mg "_law_plain" (K61.top 27) ["cup", "deep"] := by
      unfold L2.KOf
      refine' Fl.DefOk.make KX G ?a ?l ?c ?k ?b
      (case a => k_is); (case l => k_is); (case c => k_is); (case k => k_is)
      (case b => exact fun _ _ _ _ _ _ us hl => match us, hl with | [_, _], _ => rfl)
    have d_value_row : Fl.DefOk (L2.KOf KX) mg "value_row" (K61.top 21) ["value"] := by
      unfold L2.KOf
      refine' Fl.DefOk.make KX G ?a ?l ?c ?k ?b
      (case a => k_is); (case l => k_is); (case c => k_is); (case k => k_is)
      (case b => exact fun _ _ _ _ _ _ us hl => match us, hl with | [_], _ => rfl)
    have d__law_mixed : Fl.DefOk (L2.KOf KX) mg "_law_mixed" (K61.top 29) ["base", "row"] := by
      unfold L2.KOf
      refine' Fl.DefOk.make KX G ?a ?l ?c ?k ?b
      (case a => k_is); (case l => k_is); (case c => k_is); (case k => k_is)
      (case b => exact fun _ _ _ _ _ _ us hl => match us, hl with | [_, _], _ => rfl)
    have d__law_row : Fl.DefOk (L2.KOf KX) mg "_law_row" (K61.top 28) ["value"] := by
      unfold L2.KOf
      refine' Fl.DefOk.make KX G ?a ?l ?c ?k ?b
      (case a => k_is); (case l => k_is); (case c => k_is); (case k => k_is)
      (case b => exact fun _ _ _ _ _ _ us hl => match us, hl with | [_], _ => rfl)
    have d__law_digest : Fl.DefOk (L2.KOf KX) mg "_law_digest" (K61.top 30) ["base", "value"] := by
      unfold L2.KOf
      refine' Fl.DefOk.make KX G ?a ?l ?c ?k ?b
      (case a => k_is); (case l => k_is); (case c => k_is); (case k => k_is)
      (case b => exact fun _ _ _ _ _ _ us hl => match us, hl with | [_, _], _ => rfl)
    have d__law_refused : Fl.DefOk (L2.KOf KX) mg "_law_refused" (K61.top 31) ["value", "by_digest"] := by
      unfold L2.KOf
      refine' Fl.DefOk.make KX G ?a ?l ?c ?k ?b
      (case a => k_is); (case l => k_is); (case c => k_is); (case k => k_is)
      (case b => exact fun _ _ _ _ _ _ us hl => match us, hl with | [_, _], _ => rfl)
    have d_law : Fl.DefOk (L2.KOf KX) mg "law" (K61.top 33) ["script"] := by
      unfold L2.KOf
      refine' Fl.DefOk.make KX G ?a ?l ?c ?k ?b
      (case a => k_is); (case l => k_is); (case c => k_is); (case k => k_is)
      (case b => exact fun _ _ _ _ _ _ us hl => match us, hl with | [_], _ => rfl)
    have n_abs : mg "abs" = none := PySem.W.mg_none_of KX G (by k_is)
    have n_bool : mg "bool" = none := PySem.W.mg_none_of KX G (by k_is)
    have n_int : mg "int" = none := PySem.W.mg_none_of KX G (by k_is)
    have n_isinstance : mg "isinstance" = none := PySem.W.mg_none_of KX G (by k_is)
    have n_len : mg "len" = none := PySem.W.mg_none_of KX G (by k_is)
    have n_list : mg "list" = none := PySem.W.mg_none_of KX G (by k_is)
    have n_ord : mg "ord" = none := PySem.W.mg_none_of KX G (by k_is)
    have n_range : mg "range" = none := PySem.W.mg_none_of KX G (by k_is)
    have n_repr : mg "repr" = none := PySem.W.mg_none_of KX G (by k_is)
    have n_str : mg "str" = none := PySem.W.mg_none_of KX G (by k_is)
    have n_tuple : mg "tuple" = none := PySem.W.mg_none_of KX G (by k_is)
    have c_BASES : Fl.KC (L2.KOf KX) mg "BASES" K61.d_BASES := Fl.KC.loose GX (by simp)
    have c_FIRST : Fl.KC (L2.KOf KX) mg "FIRST" K61.d_FIRST := by
      unfold L2.KOf
      refine' Fl.KC.ofInt (PySem.W.mg_of KX G ?a)
      (case a => k_is)
    have c_GREAT : Fl.KC (L2.KOf KX) mg "GREAT" K61.d_GREAT := Fl.KC.loose GX (by simp)
    have c_ITEMS : Fl.KC (L2.KOf KX) mg "ITEMS" K61.d_ITEMS := by
      unfold L2.KOf
      refine' Fl.KC.ofInt (PySem.W.mg_of KX G ?a)
      (case a => k_is)
    have c_LONGEST : Fl.KC (L2.KOf KX) mg "LONGEST" K61.d_LONGEST := by
      unfold L2.KOf
      refine' Fl.KC.ofInt (PySem.W.mg_of KX G ?a)
      (case a => k_is)
    have c_NESTED : Fl.KC (L2.KOf KX) mg "NESTED" K61.d_NESTED := by
      unfold L2.KOf
      refine' Fl.KC.ofInt (PySem.W.mg_of KX G ?a)
      (case a => k_is)
    have x_InvalidNumber : Fl.ExcT (L2.KOf KX) mg "InvalidNumber" := by
      unfold L2.KOf
      refine' Fl.ExcT.make KX G ?a ?b ?c ?d ?e
      (case a => k_is); (case b => k_is); (case c => first | k_exc | k_is); (case d => k_is); (case e => k_is)
    have x_InvalidValue : Fl.ExcT (L2.KOf KX) mg "InvalidValue" := by
      unfold L2.KOf
      refine' Fl.ExcT.make KX G ?a ?b ?c ?d ?e
      (case a => k_is); (case b => k_is); (case c => first | k_exc | k_is); (case d => k_is); (case e => k_is)
    have s_InvalidNumber : Fl.CatchT (L2.KOf KX) mg "InvalidNumber" K61.sub_InvalidNumber := by
      unfold L2.KOf
      refine' Fl.CatchT.make KX G ?a K61.only_InvalidNumber ?fInvalidNumber
      (case a => k_is)
      intro y b D h hm
      rcases K61.cases_InvalidNumber h with ⟨rfl, rfl⟩ | ⟨rfl, rfl⟩
      · refine' Fl.catch_one hm (PySem.W.mg_of KX G ?mInvalidNumberInvalidNumber) (PySem.W.exm_ref ?aInvalidNumberInvalidNumber ?bInvalidNumberInvalidNumber ?cInvalidNumberInvalidNumber ?dInvalidNumberInvalidNumber)
        (case mInvalidNumberInvalidNumber => k_is); (case aInvalidNumberInvalidNumber => k_is); (case bInvalidNumberInvalidNumber => k_is); (case cInvalidNumberInvalidNumber => k_is); (case dInvalidNumberInvalidNumber => first | rfl | k_is)
      · refine' Fl.catch_one hm (PySem.W.mg_of KX G ?mInvalidNumberInvalidValue) (PySem.W.exm_ref ?aInvalidNumberInvalidValue ?bInvalidNumberInvalidValue ?cInvalidNumberInvalidValue ?dInvalidNumberInvalidValue)
        (case mInvalidNumberInvalidValue => k_is); (case aInvalidNumberInvalidValue => k_is); (case bInvalidNumberInvalidValue => k_is); (case cInvalidNumberInvalidValue => k_is); (case dInvalidNumberInvalidValue => first | rfl | k_is)
    have s_InvalidValue : Fl.CatchT (L2.KOf KX) mg "InvalidValue" K61.sub_InvalidValue := by
      unfold L2.KOf
      refine' Fl.CatchT.make KX G ?a K61.only_InvalidValue ?fInvalidValue
      (case a => k_is)
      intro y b D h hm
      rcases K61.cases_InvalidValue h with ⟨rfl, rfl⟩ | ⟨rfl, rfl⟩
      · refine' Fl.catch_one hm (PySem.W.mg_of KX G ?mInvalidValueInvalidNumber) (PySem.W.exm_ref ?aInvalidValueInvalidNumber ?bInvalidValueInvalidNumber ?cInvalidValueInvalidNumber ?dInvalidValueInvalidNumber)
        (case mInvalidValueInvalidNumber => k_is); (case aInvalidValueInvalidNumber => k_is); (case bInvalidValueInvalidNumber => k_is); (case cInvalidValueInvalidNumber => k_is); (case dInvalidValueInvalidNumber => first | rfl | k_is)
      · refine' Fl.catch_one hm (PySem.W.mg_of KX G ?mInvalidValueInvalidValue) (PySem.W.exm_ref ?aInvalidValueInvalidValue ?bInvalidValueInvalidValue ?cInvalidValueInvalidValue ?dInvalidValueInvalidValue)
        (case mInvalidValueInvalidValue => k_is); (case aInvalidValueInvalidValue => k_is); (case bInvalidValueInvalidValue => k_is); (case cInvalidValueInvalidValue => k_is); (case dInvalidValueInvalidValue => first | rfl | k_is)
    have i_InvalidNumber_GasError : Fl.EisT (L2.KOf KX) mg "InvalidNumber" "GasError" true := by
      unfold L2.KOf
      refine' Fl.EisT.make KX G ?a ?g1 ?g2 ?g3 ?g4 ?g5 ?g6 ?g7 ?g8 ?m ?k
      (case a => k_is); (case g1 => k_is); (case g2 => k_is); (case g3 => k_is); (case g4 => k_is); (case g5 => k_is); (case g6 => k_is); (case g7 => k_is); (case g8 => k_is); (case m => k_is); (case k => first | rfl | k_is)
    have i_InvalidValue_GasError : Fl.EisT (L2.KOf KX) mg "InvalidValue" "GasError" true := by
      unfold L2.KOf
      refine' Fl.EisT.make KX G ?a ?g1 ?g2 ?g3 ?g4 ?g5 ?g6 ?g7 ?g8 ?m ?k
      (case a => k_is); (case g1 => k_is); (case g2 => k_is); (case g3 => k_is); (case g4 => k_is); (case g5 => k_is); (case g6 => k_is); (case g7 => k_is); (case g8 => k_is); (case m => k_is); (case k => first | rfl | k_is)
    have i_InvalidValue_ValueError : Fl.EisT (L2.KOf KX) mg "InvalidValue" "ValueError" true := by
      unfold L2.KOf
      refine' Fl.EisT.makeB KX G ?a ?g1 ?g2 ?g3 ?g4 ?g5 ?g6 ?g7 ?g8 ?m rfl (by decide) ?k
      (case a => k_is); (case g1 => k_is); (case g2 => k_is); (case g3 => k_is); (case g4 => k_is); (case g5 => k_is); (case g6 => k_is); (case g7 => k_is); (case g8 => k_is); (case m => k_is); (case k => first | rfl | k_is)
    have T : K61.Facts (L2.KOf KX) mg := ⟨d__law_cup, d__law_roll, d__law_some, d_is_whole, d_need_base, d_digest_by, d_number_bytes, d_flat_row, d_row_of, d_value_digest, d_is_flat, d_is_plain, d_digest_of, d__law_no_base, d__law_plain, d_value_row, d__law_mixed, d__law_row, d__law_digest, d__law_refused, d_law, n_abs, n_bool, n_int, n_isinstance, n_len, n_list, n_ord, n_range, n_repr, n_str, n_tuple, c_BASES, c_FIRST, c_GREAT, c_ITEMS, c_LONGEST, c_NESTED, x_InvalidNumber, x_InvalidValue, s_InvalidNumber, s_InvalidValue, i_InvalidNumber_GasError, i_InvalidValue_GasError, i_InvalidValue_ValueError⟩
    obtain ⟨f, fd, F1, m, kp, bi⟩ := T.d_law
    have e := hmg.symm.trans m
    cases e
    exact K61.law_end T F1
