import PyProof.Rows.All
import Wide.All
import OpenK.AllK
import Wide.FinOn
import HandS.ForMost
import HandS.ForExc
import HandS.CallSlots
import HandS.Wide
import HandS.Text
import HandS.Strs
import KE.DataEq
import KE.DataCmp
import KE.DataMinMax
import KE.DataFind
import KE.DataIsa
import KE.DataAny
import KE.SortData
import KE.DatumIndex
import HandS.WordsExc
import HandS.TryMany
import HandS.Defaults
import HandS.IsInst
import HandS.Style
import HandS.HeadHook2
import HandS.HeadHook1
import HandS.HeadEnd
import HandS.Head2
import HandS.More
import HandS.TupSets
import HandS.Dict
import HandS.DictTup
import HandS.Conv
import HandS.TupLen
import HandS.ExcIs
import HandS.HeadHook4
import PySem.Challenge.RW_fieldshow_k26_ways_are_checked
set_option Elab.async false
set_option linter.all false
set_option maxRecDepth 100000
set_option maxHeartbeats 0
namespace FS
open PySem PySem.Spec L2
abbrev PD := PyData
abbrev Ct := Addr → Nat
abbrev Zn := Addr → Prop
def one (a : Addr) : Ct := fun b => if b = a then 1 else 0
def zero : Ct := fun _ => 0
/-- what a local name holds: frozen data, a list of one's own, a dict of one's own -/
inductive L where
  | fz (d : PD)
  | lst (ls : List L)
  | dic (kvs : List (PD × PD))
/-- .. or an instance (own: it may be changed) of the class with a number -/
inductive M where
  | v (l : L)
  | o (own : Bool) (t : Nat) (fs : List (Str × L))
abbrev M.fz (d : PD) : M := .v (.fz d)
abbrev M.lst (ls : List L) : M := .v (.lst ls)
abbrev M.dic (kvs : List (PD × PD)) : M := .v (.dic kvs)
mutual
def L.pd : L → PD
  | .fz d => d
  | .lst ls => .list (L.pds ls)
  | .dic kvs => .dict kvs
def L.pds : List L → List PD
  | [] => []
  | l :: ls => l.pd :: L.pds ls
end
def L.frzF : List (Str × L) → List (Str × L)
  | [] => []
  | (f, l) :: r => (f, .fz l.pd) :: L.frzF r
def M.frz : M → M
  | .v l => .v (.fz l.pd)
  | .o _ t fs => .o false t (L.frzF fs)
abbrev Env' := List (Option M)
def frzE : Env' → Env'
  | [] => []
  | none :: r => none :: frzE r
  | some m :: r => some m.frz :: frzE r
mutual
def immut : PD → Bool
  | .none => true
  | .bool _ => true
  | .int _ => true
  | .str _ => true
  | .tuple ds => immutA ds
  | _ => false
def immutA : List PD → Bool
  | [] => true
  | d :: ds => immut d && immutA ds
end
/-! ### what stands for data in a heap -/
/-- a list, a tuple of the module -/
def KcL (K : PySem.W.Frag) (a : Addr) (xs : List V) : Prop :=
  ∃ (o : Obj) (its : Array Value) (n : Nat), K.lookup a = some o ∧ o.cls = .type "list" ∧ o.dict = none ∧ o.data = .seq its n ∧ its.size ≤ sizeLine ∧ Vals xs its.toList
def KcT (K : PySem.W.Frag) (a : Addr) (xs : List V) : Prop :=
  ∃ (o : Obj) (its : Array Value) (n : Nat), K.lookup a = some o ∧ o.cls = .type "tuple" ∧ o.data = .seq its n ∧ its.size ≤ sizeLine ∧ Vals xs its.toList
def keyD : PD → Option Key
  | .int i => some (.inl i)
  | .str s => some (.inr s)
  | _ => none
def keyDs : List PD → Option (List Key)
  | [] => some []
  | d :: ds => (keyD d).bind fun k => (keyDs ds).map fun ks => k :: ks
def keyT : PD → Option (List Key)
  | .tuple ds => keyDs ds
  | _ => none
mutual
inductive Fz (K : PySem.W.Frag) (H : Hp) (z : Zn) : PD → V → Prop
  | non : Fz K H z .none .non
  | bl (b : Bool) : Fz K H z (.bool b) (.bl b)
  | int (i : Int) : Fz K H z (.int i) (.int i)
  | str (s : Str) : Fz K H z (.str s) (.str s)
  | lst {a : Addr} {vs : List V} {ds : List PD} : (z a ∧ Rd H a (.lst vs)) ∨ KcL K a vs → FzA K H z ds vs → Fz K H z (.list ds) (.ref a)
  | tup {a : Addr} {vs : List V} {ds : List PD} : (z a ∧ H a = some (.tup vs)) → FzA K H z ds vs → Fz K H z (.tuple ds) (.ref a)
  | dik {a : Addr} {kvs : List (PD × PD)} {kw : List (Key × V)} : z a → Rd H a (.dK kw) → FzD K H z kvs kw → Fz K H z (.dict kvs) (.ref a)
  | dit {a : Addr} {kvs : List (PD × PD)} {kw : List (List Key × V)} : z a → Rd H a (.dT kw) → FzT K H z kvs kw → Fz K H z (.dict kvs) (.ref a)
inductive FzA (K : PySem.W.Frag) (H : Hp) (z : Zn) : List PD → List V → Prop
  | nil : FzA K H z [] []
  | cons {d : PD} {v : V} {ds : List PD} {vs : List V} : Fz K H z d v → FzA K H z ds vs → FzA K H z (d :: ds) (v :: vs)
inductive FzD (K : PySem.W.Frag) (H : Hp) (z : Zn) : List (PD × PD) → List (Key × V) → Prop
  | nil : FzD K H z [] []
  | cons {k d : PD} {k' : Key} {v : V} {r : List (PD × PD)} {r' : List (Key × V)} : keyD k = some k' → Fz K H z d v → FzD K H z r r' → FzD K H z ((k, d) :: r) ((k', v) :: r')
inductive FzT (K : PySem.W.Frag) (H : Hp) (z : Zn) : List (PD × PD) → List (List Key × V) → Prop
  | nil : FzT K H z [] []
  | cons {k d : PD} {k' : List Key} {v : V} {r : List (PD × PD)} {r' : List (List Key × V)} : keyT k = some k' → Fz K H z d v → FzT K H z r r' → FzT K H z ((k, d) :: r) ((k', v) :: r')
end
mutual
inductive RpL (K : PySem.W.Frag) (H : Hp) (z : Zn) : L → V → Ct → Prop
  | fz {d : PD} {v : V} {c : Ct} : Fz K H z d v → (∀ a, c a = 0) → RpL K H z (.fz d) v c
  | lst {a : Addr} {vs : List V} {ls : List L} {c c' : Ct} : H a = some (.lst vs) → RpA K H z ls vs c' → (∀ b, c b = one a b + c' b) → RpL K H z (.lst ls) (.ref a) c
  | dik {a : Addr} {kvs : List (PD × PD)} {kw : List (Key × V)} {c : Ct} : H a = some (.dK kw) → FzD K H z kvs kw → (∀ b, c b = one a b) → RpL K H z (.dic kvs) (.ref a) c
  | dit {a : Addr} {kvs : List (PD × PD)} {kw : List (List Key × V)} {c : Ct} : H a = some (.dT kw) → FzT K H z kvs kw → (∀ b, c b = one a b) → RpL K H z (.dic kvs) (.ref a) c
inductive RpA (K : PySem.W.Frag) (H : Hp) (z : Zn) : List L → List V → Ct → Prop
  | nil {c : Ct} : (∀ a, c a = 0) → RpA K H z [] [] c
  | cons {l : L} {v : V} {ls : List L} {vs : List V} {c c1 c2 : Ct} : RpL K H z l v c1 → RpA K H z ls vs c2 → (∀ a, c a = c1 a + c2 a) → RpA K H z (l :: ls) (v :: vs) c
end
inductive RpF (K : PySem.W.Frag) (H : Hp) (z : Zn) : List (Str × L) → List (Str × V) → Ct → Prop
  | nil {c : Ct} : (∀ a, c a = 0) → RpF K H z [] [] c
  | cons {f : Str} {l : L} {v : V} {r : List (Str × L)} {r' : List (Str × V)} {c c1 c2 : Ct} : RpL K H z l v c1 → RpF K H z r r' c2 → (∀ a, c a = c1 a + c2 a) → RpF K H z ((f, l) :: r) ((f, v) :: r') c
inductive Rp (K : PySem.W.Frag) (tb : Nat → Addr) (H : Hp) (z : Zn) : M → V → Ct → Prop
  | v {l : L} {x : V} {c : Ct} : RpL K H z l x c → Rp K tb H z (.v l) x c
  | ins {a dx : Addr} {t : Nat} {fs : List (Str × L)} {fv : List (Str × V)} {c c' : Ct} : H a = some (.ins (tb t) dx fv) → RpF K H z fs fv c' → (∀ b, c b = one a b + c' b) → Rp K tb H z (.o true t fs) (.ref a) c
  | fin {a dx : Addr} {t : Nat} {fs : List (Str × L)} {fv : List (Str × V)} {c c' : Ct} : z a → H a = some (.ins (tb t) dx fv) → RpF K H z fs fv c' → (∀ b, c' b = 0) → (∀ b, c b = 0) → Rp K tb H z (.o false t fs) (.ref a) c
/-- the slots -/
inductive RpE (K : PySem.W.Frag) (tb : Nat → Addr) (H : Hp) (z : Zn) : Env' → St → Ct → Prop
  | nil {c : Ct} : (∀ a, c a = 0) → RpE K tb H z [] [] c
  | no {δ : Env'} {σ : St} {x : Option V} {c : Ct} : RpE K tb H z δ σ c → RpE K tb H z (none :: δ) (x :: σ) c
  | yes {m : M} {x : V} {δ : Env'} {σ : St} {c c1 c2 : Ct} : Rp K tb H z m x c1 → RpE K tb H z δ σ c2 → (∀ a, c a = c1 a + c2 a) → RpE K tb H z (some m :: δ) (some x :: σ) c
/-! ### another heap -/
theorem Rd.eq {H H' : Hp} {a : Addr} {u : HO} (h : Rd H a u) (e : H' a = H a) : Rd H' a u := by
  unfold Rd at *
  rw [e]
  exact h
section
variable {K : PySem.W.Frag} {tb : Nat → Addr} {H H' : Hp} {z z' : Zn}
mutual
theorem Fz.mono (hz : ∀ a, z a → z' a) (hH : ∀ a, z a → H' a = H a) : ∀ {d : PD} {v : V}, Fz K H z d v → Fz K H' z' d v
  | _, _, .non => .non
  | _, _, .bl b => .bl b
  | _, _, .int i => .int i
  | _, _, .str s => .str s
  | _, _, .lst h r => .lst (h.imp (fun q => ⟨hz _ q.1, Rd.eq q.2 (hH _ q.1)⟩) id) (FzA.mono hz hH r)
  | _, _, .tup h r => .tup ⟨hz _ h.1, (hH _ h.1).trans h.2⟩ (FzA.mono hz hH r)
  | _, _, .dik q h r => .dik (hz _ q) (Rd.eq h (hH _ q)) (FzD.mono hz hH r)
  | _, _, .dit q h r => .dit (hz _ q) (Rd.eq h (hH _ q)) (FzT.mono hz hH r)
theorem FzA.mono (hz : ∀ a, z a → z' a) (hH : ∀ a, z a → H' a = H a) : ∀ {ds : List PD} {vs : List V}, FzA K H z ds vs → FzA K H' z' ds vs
  | _, _, .nil => .nil
  | _, _, .cons h r => .cons (Fz.mono hz hH h) (FzA.mono hz hH r)
theorem FzD.mono (hz : ∀ a, z a → z' a) (hH : ∀ a, z a → H' a = H a) : ∀ {ds : List (PD × PD)} {vs : List (Key × V)}, FzD K H z ds vs → FzD K H' z' ds vs
  | _, _, .nil => .nil
  | _, _, .cons e h r => .cons e (Fz.mono hz hH h) (FzD.mono hz hH r)
theorem FzT.mono (hz : ∀ a, z a → z' a) (hH : ∀ a, z a → H' a = H a) : ∀ {ds : List (PD × PD)} {vs : List (List Key × V)}, FzT K H z ds vs → FzT K H' z' ds vs
  | _, _, .nil => .nil
  | _, _, .cons e h r => .cons e (Fz.mono hz hH h) (FzT.mono hz hH r)
end
theorem one_self (a : Addr) : one a a = 1 := if_pos rfl
theorem one_ne {a b : Addr} (h : b ≠ a) : one a b = 0 := if_neg h
theorem one_pos {a b : Addr} (h : 0 < one a b) : b = a := by
  unfold one at h
  split at h
  · assumption
  · exact absurd h (Nat.lt_irrefl _)
mutual
theorem RpL.mono (hz : ∀ a, z a → z' a) (hH : ∀ a, z a → H' a = H a) : ∀ {l : L} {v : V} {c : Ct}, RpL K H z l v c → (∀ a, 0 < c a → H' a = H a) → RpL K H' z' l v c
  | _, _, _, .fz h e, _ => .fz (h.mono hz hH) e
  | _, _, _, .lst (a := a) h r e, hc => .lst ((hc a (by rw [e, one_self]; omega)).trans h) (RpA.mono hz hH r fun b hb => hc b (by rw [e]; omega)) e
  | _, _, _, .dik (a := a) h r e, hc => .dik ((hc a (by rw [e, one_self]; omega)).trans h) (r.mono hz hH) e
  | _, _, _, .dit (a := a) h r e, hc => .dit ((hc a (by rw [e, one_self]; omega)).trans h) (r.mono hz hH) e
theorem RpA.mono (hz : ∀ a, z a → z' a) (hH : ∀ a, z a → H' a = H a) : ∀ {l : List L} {v : List V} {c : Ct}, RpA K H z l v c → (∀ a, 0 < c a → H' a = H a) → RpA K H' z' l v c
  | _, _, _, .nil e, _ => .nil e
  | _, _, _, .cons h r e, hc => .cons (RpL.mono hz hH h fun a ha => hc a (by rw [e]; omega)) (RpA.mono hz hH r fun a ha => hc a (by rw [e]; omega)) e
end
theorem RpF.mono (hz : ∀ a, z a → z' a) (hH : ∀ a, z a → H' a = H a) : ∀ {l : List (Str × L)} {v : List (Str × V)} {c : Ct}, RpF K H z l v c → (∀ a, 0 < c a → H' a = H a) → RpF K H' z' l v c
  | _, _, _, .nil e, _ => .nil e
  | _, _, _, .cons h r e, hc => .cons (RpL.mono hz hH h fun a ha => hc a (by rw [e]; omega)) (RpF.mono hz hH r fun a ha => hc a (by rw [e]; omega)) e
theorem Rp.mono (hz : ∀ a, z a → z' a) (hH : ∀ a, z a → H' a = H a) {m : M} {v : V} {c : Ct} (h : Rp K tb H z m v c) (hc : ∀ a, 0 < c a → H' a = H a) : Rp K tb H' z' m v c := by
  cases h with
  | v h => exact .v (h.mono hz hH hc)
  | ins h r e =>
    rename_i a dx t fs fv c'
    exact .ins ((hc a (by rw [e, one_self]; omega)).trans h) (r.mono hz hH fun b hb => hc b (by rw [e]; omega)) e
  | fin q h r e e' =>
    exact .fin (hz _ q) ((hH _ q).trans h) (r.mono hz hH fun b hb => by rw [e] at hb; exact absurd hb (Nat.lt_irrefl _)) e e'
theorem RpE.mono (hz : ∀ a, z a → z' a) (hH : ∀ a, z a → H' a = H a) : ∀ {δ : Env'} {σ : St} {c : Ct}, RpE K tb H z δ σ c → (∀ a, 0 < c a → H' a = H a) → RpE K tb H' z' δ σ c
  | _, _, _, .nil e, _ => .nil e
  | _, _, _, .no h, hc => .no (RpE.mono hz hH h hc)
  | _, _, _, .yes h r e, hc => .yes (Rp.mono hz hH h fun a ha => hc a (by rw [e]; omega)) (RpE.mono hz hH r fun a ha => hc a (by rw [e]; omega)) e
/-! ### freezing -/
mutual
theorem RpL.freeze (hz : ∀ a, z a → z' a) : ∀ {l : L} {v : V} {c : Ct}, RpL K H z l v c → (∀ a, 0 < c a → z' a) → Fz K H z' l.pd v
  | _, _, _, .fz h e, _ => h.mono hz fun _ _ => rfl
  | _, _, _, .lst (a := a) h r e, hc => .lst (.inl ⟨hc a (by rw [e, one_self]; omega), .inl h⟩) (RpA.freeze hz r fun b hb => hc b (by rw [e]; omega))
  | _, _, _, .dik (a := a) h r e, hc => .dik (hc a (by rw [e, one_self]; omega)) (.inl h) (r.mono hz fun _ _ => rfl)
  | _, _, _, .dit (a := a) h r e, hc => .dit (hc a (by rw [e, one_self]; omega)) (.inl h) (r.mono hz fun _ _ => rfl)
theorem RpA.freeze (hz : ∀ a, z a → z' a) : ∀ {l : List L} {v : List V} {c : Ct}, RpA K H z l v c → (∀ a, 0 < c a → z' a) → FzA K H z' (L.pds l) v
  | _, _, _, .nil e, _ => .nil
  | _, _, _, .cons h r e, hc => .cons (RpL.freeze hz h fun a ha => hc a (by rw [e]; omega)) (RpA.freeze hz r fun a ha => hc a (by rw [e]; omega))
end
theorem RpF.freeze (hz : ∀ a, z a → z' a) : ∀ {l : List (Str × L)} {v : List (Str × V)} {c : Ct}, RpF K H z l v c → (∀ a, 0 < c a → z' a) → RpF K H z' (L.frzF l) v zero
  | _, _, _, .nil e, _ => .nil fun _ => rfl
  | _, _, _, .cons h r e, hc => .cons (c1 := zero) (c2 := zero) (.fz (h.freeze hz fun a ha => hc a (by rw [e]; omega)) fun _ => rfl) (RpF.freeze hz r fun a ha => hc a (by rw [e]; omega)) fun _ => rfl
theorem Rp.freeze (hz : ∀ a, z a → z' a) {m : M} {v : V} {c : Ct} (h : Rp K tb H z m v c) (hc : ∀ a, 0 < c a → z' a) : Rp K tb H z' m.frz v zero := by
  cases h with
  | v h => exact .v (.fz (h.freeze hz hc) fun _ => rfl)
  | ins h r e =>
    rename_i a dx t fs fv c'
    exact .fin (c' := zero) (hc a (by rw [e, one_self]; omega)) h (r.freeze hz fun b hb => hc b (by rw [e]; omega)) (fun _ => rfl) fun _ => rfl
  | fin q h r e e' => exact .fin (c' := zero) (hz _ q) h (r.freeze hz fun b hb => by rw [e] at hb; exact absurd hb (Nat.lt_irrefl _)) (fun _ => rfl) fun _ => rfl
theorem RpE.freeze (hz : ∀ a, z a → z' a) : ∀ {δ : Env'} {σ : St} {c : Ct}, RpE K tb H z δ σ c → (∀ a, 0 < c a → z' a) → RpE K tb H z' (frzE δ) σ zero
  | _, _, _, .nil e, _ => .nil fun _ => rfl
  | _, _, _, .no h, hc => .no (RpE.freeze hz h hc)
  | _, _, _, .yes h r e, hc => .yes (c1 := zero) (c2 := zero) (h.freeze hz fun a ha => hc a (by rw [e]; omega)) (RpE.freeze hz r fun a ha => hc a (by rw [e]; omega)) fun _ => rfl
/-! ### what can't be changed needs no mutable node -/
mutual
theorem Fz.immut (hz : ∀ a, z a → (∃ xs, Rd H a (.tup xs)) → z' a) : ∀ {d : PD} {v : V}, Fz K H z d v → immut d = true → Fz K H z' d v
  | _, _, .non, _ => .non
  | _, _, .bl b, _ => .bl b
  | _, _, .int i, _ => .int i
  | _, _, .str s, _ => .str s
  | _, _, .tup h r, e => .tup ⟨hz _ h.1 ⟨_, .inl h.2⟩, h.2⟩ (FzA.immut hz r e)
  | _, _, .lst _ _, e => absurd e Bool.false_ne_true
  | _, _, .dik _ _ _, e => absurd e Bool.false_ne_true
  | _, _, .dit _ _ _, e => absurd e Bool.false_ne_true
theorem FzA.immut (hz : ∀ a, z a → (∃ xs, Rd H a (.tup xs)) → z' a) : ∀ {d : List PD} {v : List V}, FzA K H z d v → immutA d = true → FzA K H z' d v
  | _, _, .nil, _ => .nil
  | _, _, .cons h r, e => by
    have e' := Bool.and_eq_true_iff.mp e
    exact .cons (Fz.immut hz h e'.1) (FzA.immut hz r e'.2)
end
/-! ### slots -/
theorem RpE.len : ∀ {δ : Env'} {σ : St} {c : Ct}, RpE K tb H z δ σ c → δ.length = σ.length
  | _, _, _, .nil _ => rfl
  | _, _, _, .no h => congrArg (· + 1) (RpE.len h)
  | _, _, _, .yes _ h _ => congrArg (· + 1) (RpE.len h)
theorem RpE.get : ∀ {δ : Env'} {σ : St} {c : Ct} {i : Nat} {m : M}, RpE K tb H z δ σ c → δ[i]? = some (some m) →
    ∃ v c1 c2, σ[i]? = some (some v) ∧ Rp K tb H z m v c1 ∧ (∀ a, c a = c1 a + c2 a) ∧ RpE K tb H z (δ.set i none) σ c2
  | _, _, _, 0, m, .yes (c1 := c1) (c2 := c2) h r e, q => by
    have q' : some _ = some _ := Option.some.inj q
    cases q'
    exact ⟨_, c1, c2, rfl, h, e, .no r⟩
  | _, _, _, i + 1, m, .no h, q => by
    obtain ⟨v, c1, c2, e1, e2, e3, e4⟩ := RpE.get (i := i) h (by simpa using q)
    exact ⟨v, c1, c2, by simpa using e1, e2, e3, .no e4⟩
  | _, _, _, i + 1, m, .yes (c1 := c0) h r e, q => by
    obtain ⟨v, c1, c2, e1, e2, e3, e4⟩ := RpE.get (i := i) r (by simpa using q)
    exact ⟨v, c1, fun a => c0 a + c2 a, by simpa using e1, e2, fun a => by show _ = c1 a + (c0 a + c2 a); rw [e, e3]; omega, .yes h e4 fun _ => rfl⟩
theorem RpE.drop : ∀ {δ : Env'} {σ : St} {c : Ct} (i : Nat), RpE K tb H z δ σ c → ∃ c2, (∀ a, c2 a ≤ c a) ∧ RpE K tb H z (δ.set i none) σ c2
  | _, _, c, _, .nil e => ⟨c, fun _ => Nat.le_refl _, .nil e⟩
  | _, _, c, 0, .no h => ⟨c, fun _ => Nat.le_refl _, .no h⟩
  | _, _, c, 0, .yes (c2 := c2) h r e => ⟨c2, fun a => by rw [e]; omega, .no r⟩
  | _, _, c, i + 1, .no h => by
    obtain ⟨c2, e1, e2⟩ := RpE.drop i h
    exact ⟨c2, e1, .no e2⟩
  | _, _, c, i + 1, .yes (c1 := c1) h r e => by
    obtain ⟨c2, e1, e2⟩ := RpE.drop i r
    exact ⟨fun a => c1 a + c2 a, fun a => by have := e1 a; show c1 a + c2 a ≤ _; rw [e]; omega, .yes h e2 fun _ => rfl⟩
/-- a slot without a value may hold anything -/
theorem RpE.any : ∀ {δ : Env'} {σ : St} {c : Ct} (i : Nat) (x : Option V), RpE K tb H z (δ.set i none) σ c → RpE K tb H z (δ.set i none) (σ.set i x) c
  | [], _, _, _, _, .nil e => .nil e
  | _ :: _, _, _, 0, _, .no h => .no h
  | none :: _, _, _, i + 1, x, .no h => .no (RpE.any i x h)
  | some _ :: _, _, _, i + 1, x, .yes h r e => .yes h (RpE.any i x r) e
/-- .. filled -/
theorem RpE.put : ∀ {δ : Env'} {σ : St} {c c1 : Ct} {i : Nat} {m : M} {v : V}, RpE K tb H z (δ.set i none) σ c → i < δ.length → σ[i]? = some (some v) → Rp K tb H z m v c1 →
    RpE K tb H z (δ.set i (some m)) σ fun a => c1 a + c a
  | [], _, _, _, _, _, _, _, h, _, _ => absurd h (Nat.not_lt_zero _)
  | _ :: _, x :: _, _, _, 0, _, v, .no h, _, q, r => by
    obtain rfl : x = some v := by simpa using q
    exact .yes r h fun _ => rfl
  | none :: _, _, _, _, i + 1, _, _, .no h, hl, q, r => .no (RpE.put h (Nat.lt_of_succ_lt_succ hl) (by simpa using q) r)
  | some _ :: _, _, _, c1, i + 1, _, _, .yes (c1 := d1) (c2 := d2) h t e, hl, q, r => .yes h (RpE.put t (Nat.lt_of_succ_lt_succ hl) (by simpa using q) r) fun a => by show _ = d1 a + (c1 a + d2 a); rw [e]; omega
theorem RpE.store {δ : Env'} {σ : St} {c c1 : Ct} {i : Nat} {m : M} {v : V} (h : RpE K tb H z (δ.set i none) σ c) (hl : i < δ.length) (r : Rp K tb H z m v c1) :
    RpE K tb H z (δ.set i (some m)) (σ.set i (some v)) fun a => c1 a + c a := by
  refine RpE.put (RpE.any i (some v) h) hl ?_ r
  have e := RpE.len h
  rw [List.length_set] at e
  exact List.getElem?_set_self (by omega)
end
end FS
namespace FS
open PySem PySem.Spec L2
inductive R (α : Type) where
  | ok (a : α) (δ : Env')
  | ex (n : Nat) (δ : Env')
  | bad
def R.bind {α β : Type} (r : R α) (f : α → Env' → R β) : R β :=
  match r with
  | .ok a δ => f a δ
  | .ex n δ => .ex n δ
  | .bad => .bad
abbrev EF := Env' → R M
/-- z: what is frozen; c: what is owned -/
structure Wf (H : Hp) (z : Zn) (c : Ct) : Prop where
  zt : ∀ a, z a → H a ≠ none
  zc : ∀ a, z a → c a = 0
  c1 : ∀ a, c a ≤ 1
  cm : ∀ a, 0 < c a → Mut (H a)
theorem mut_ne {H : Hp} {a : Addr} (h : Mut (H a)) : H a ≠ none := fun e => by rw [e] at h; exact h
structure Step (H : Hp) (z : Zn) (c : Ct) (H' : Hp) (z' : Zn) (c' : Ct) : Prop where
  keep : ∀ a, H a ≠ none → c a = 0 → H' a = H a
  zin : ∀ a, z a → z' a
  src : ∀ a, z' a ∨ 0 < c' a → z a ∨ 0 < c a ∨ H a = none
  dom : ∀ a, H a ≠ none → H' a ≠ none
theorem Wf.mono {H : Hp} {z : Zn} {c c' : Ct} (w : Wf H z c) (h : ∀ a, c' a ≤ c a) : Wf H z c' :=
  ⟨w.zt, fun a q => by have := w.zc a q; have := h a; omega, fun a => Nat.le_trans (h a) (w.c1 a), fun a q => w.cm a (Nat.lt_of_lt_of_le q (h a))⟩
theorem Step.refl (H : Hp) (z : Zn) (c : Ct) : Step H z c H z c := ⟨fun _ _ _ => rfl, fun _ h => h, fun _ h => h.imp id .inl, fun _ h => h⟩
theorem Step.mono {H H' : Hp} {z z' : Zn} {c c' c'' : Ct} (s : Step H z c H' z' c') (h : ∀ a, c'' a ≤ c' a) : Step H z c H' z' c'' :=
  ⟨s.keep, s.zin, fun a q => s.src a (q.imp id fun r => Nat.lt_of_lt_of_le r (h a)), s.dom⟩
theorem Step.trans {H H1 H2 : Hp} {z z1 z2 : Zn} {c c1 c2 : Ct} (a : Step H z c H1 z1 c1) (w1 : Wf H1 z1 c1) (b : Step H1 z1 c1 H2 z2 c2) : Step H z c H2 z2 c2 where
  keep := fun x hx hc => by
    have e1 := a.keep x hx hc
    have h1 : H1 x ≠ none := by rw [e1]; exact hx
    have c0 : c1 x = 0 := by
      rcases Nat.eq_zero_or_pos (c1 x) with h | h
      · exact h
      · rcases a.src x (.inr h) with q | q | q
        · exact w1.zc x (a.zin x q)
        · omega
        · exact absurd q hx
    exact (b.keep x h1 c0).trans e1
  zin := fun x h => b.zin x (a.zin x h)
  src := fun x h => by
    rcases b.src x h with q | q | q
    · exact a.src x (.inl q)
    · exact a.src x (.inr q)
    · refine .inr (.inr ?_)
      cases e : H x with
      | none => rfl
      | some o => exact absurd q (a.dom x (by rw [e]; exact fun z => nomatch z))
  dom := fun x h => b.dom x (a.dom x h)
section
variable {K : PySem.W.Frag} {tb : Nat → Addr} {H H' H1 : Hp} {z z' z1 : Zn} {c c' c1 : Ct} {σ : St} {δ δ' : Env'}
theorem Step.on (s : Step H z c H' z' c') (w : Wf H z c) : ∀ a, z a → H' a = H a := fun a q => s.keep a (w.zt a q) (w.zc a q)
theorem Step.fz (s : Step H z c H' z' c') (w : Wf H z c) {d : PD} {v : V} (h : Fz K H z d v) : Fz K H' z' d v := h.mono s.zin (s.on w)
theorem Step.fzA (s : Step H z c H' z' c') (w : Wf H z c) {d : List PD} {v : List V} (h : FzA K H z d v) : FzA K H' z' d v := h.mono s.zin (s.on w)
/-- behind an expression: the slots, the value -/
def AftE (K : PySem.W.Frag) (tb : Nat → Addr) (H : Hp) (z : Zn) (c : Ct) (δ' : Env') (σ : St) (m : M) (v : V) (H' : Hp) : Prop :=
  ∃ z' c' cm, RpE K tb H' z' δ' σ c' ∧ Rp K tb H' z' m v cm ∧ Wf H' z' (fun a => c' a + cm a) ∧ Step H z c H' z' fun a => c' a + cm a
def AftP (K : PySem.W.Frag) (tb : Nat → Addr) (H : Hp) (z : Zn) (c : Ct) (δ' : Env') (σ : St) (d : PD) (v : V) (H' : Hp) : Prop :=
  ∃ z' c', RpE K tb H' z' δ' σ c' ∧ Fz K H' z' d v ∧ Wf H' z' c' ∧ Step H z c H' z' c'
def Aft (K : PySem.W.Frag) (tb : Nat → Addr) (H : Hp) (z : Zn) (c : Ct) (δ' : Env') (σ : St) (H' : Hp) : Prop :=
  ∃ z' c', RpE K tb H' z' δ' σ c' ∧ Wf H' z' c' ∧ Step H z c H' z' c'
theorem AftE.toP {l : L} {v : V} (h : AftE K tb H z c δ' σ (.v l) v H') : AftP K tb H z c δ' σ l.pd v H' := by
  obtain ⟨z1, c1, cm, hE, hR, hw, hs⟩ := h
  cases hR with
  | v hR =>
    refine ⟨fun a => z1 a ∨ 0 < cm a, c1, hE.mono (fun _ => .inl) (fun _ _ => rfl) fun _ _ => rfl, hR.freeze (fun _ => .inl) fun _ => .inr, ⟨fun a q => ?_, fun a q => ?_, fun a => ?_, fun a q => ?_⟩, ⟨hs.keep, fun a q => .inl (hs.zin a q), fun a q => ?_, hs.dom⟩⟩
    · rcases q with q | q
      · exact hw.zt a q
      · exact mut_ne (hw.cm a (by show 0 < c1 a + cm a; omega))
    · rcases q with q | q
      · have q' : c1 a + cm a = 0 := hw.zc a q
        omega
      · have q' : c1 a + cm a ≤ 1 := hw.c1 a
        omega
    · have q' : c1 a + cm a ≤ 1 := hw.c1 a
      omega
    · exact hw.cm a (by show 0 < c1 a + cm a; omega)
    · refine hs.src a ?_
      show z1 a ∨ 0 < c1 a + cm a
      rcases q with (q | q) | q
      · exact .inl q
      · exact .inr (by omega)
      · exact .inr (by omega)
theorem AftP.toE {d : PD} {v : V} (h : AftP K tb H z c δ' σ d v H') : AftE K tb H z c δ' σ (.fz d) v H' := by
  obtain ⟨z1, c1, hE, hF, hw, hs⟩ := h
  exact ⟨z1, c1, zero, hE, .v (.fz hF fun _ => rfl), hw.mono fun a => Nat.le_refl _, hs.mono fun a => Nat.le_refl _⟩
theorem AftE.trans {m : M} {v : V} (s : Step H z c H1 z1 c1) (w : Wf H1 z1 c1) (h : AftE K tb H1 z1 c1 δ' σ m v H') : AftE K tb H z c δ' σ m v H' := by
  obtain ⟨z', c', cm, hE, hR, hw, hs⟩ := h
  exact ⟨z', c', cm, hE, hR, hw, s.trans w hs⟩
theorem Aft.trans (s : Step H z c H1 z1 c1) (w : Wf H1 z1 c1) (h : Aft K tb H1 z1 c1 δ' σ H') : Aft K tb H z c δ' σ H' := by
  obtain ⟨z', c', hE, hw, hs⟩ := h
  exact ⟨z', c', hE, hw, s.trans w hs⟩
/-- a builtin's answer: what was stands, the rest is new -/
def NewM (K : PySem.W.Frag) (tb : Nat → Addr) (H : Hp) (z : Zn) (m : M) (v : V) (H' : Hp) : Prop :=
  ∃ z' cm, (∀ a, H a ≠ none → H' a = H a) ∧ (∀ a, z a → z' a) ∧ (∀ a, z' a ∨ 0 < cm a → z a ∨ H a = none) ∧ Rp K tb H' z' m v cm ∧ Wf H' z' cm
theorem NewM.aft {m : M} {v : V} (hE : RpE K tb H z δ σ c) (w : Wf H z c) (h : NewM K tb H z m v H') : AftE K tb H z c δ σ m v H' := by
  obtain ⟨z', cm, k, zi, sr, hR, hw⟩ := h
  have cn : ∀ a, 0 < c a → H a ≠ none := fun a q => mut_ne (w.cm a q)
  have z0 : ∀ a, 0 < c a → ¬ z' a := fun a q hz => by
    rcases sr a (.inl hz) with r | r
    · have := w.zc a r; omega
    · exact cn a q r
  have m0 : ∀ a, 0 < c a → cm a = 0 := fun a q => by
    rcases Nat.eq_zero_or_pos (cm a) with r | r
    · exact r
    · rcases sr a (.inr r) with r | r
      · have := w.zc a r; omega
      · exact absurd r (cn a q)
  refine ⟨z', c, cm, hE.mono zi (fun a q => k a (w.zt a q)) fun a q => k a (cn a q), hR, ⟨hw.zt, fun a q => ?_, fun a => ?_, fun a q => ?_⟩, ⟨fun a h1 _ => k a h1, zi, fun a q => ?_, fun a h => by rw [k a h]; exact h⟩⟩
  · show c a + cm a = 0
    have h1 := hw.zc a q
    rcases Nat.eq_zero_or_pos (c a) with r | r
    · omega
    · exact absurd q (z0 a r)
  · show c a + cm a ≤ 1
    have h1 := hw.c1 a
    have h2 := w.c1 a
    rcases Nat.eq_zero_or_pos (c a) with r | r
    · omega
    · have := m0 a r; omega
  · have q : 0 < c a + cm a := q
    rcases Nat.eq_zero_or_pos (c a) with r | r
    · exact hw.cm a (by omega)
    · rw [k a (cn a r)]; exact w.cm a r
  · rcases q with q | q
    · rcases sr a (.inl q) with r | r
      · exact .inl r
      · exact .inr (.inr r)
    · have q : 0 < c a + cm a := q
      rcases Nat.eq_zero_or_pos (c a) with r | r
      · rcases sr a (.inr (by omega)) with r | r
        · exact .inl r
        · exact .inr (.inr r)
      · exact .inr (.inl r)
/-- nothing new -/
theorem NewM.at {d : PD} {v : V} (hz : ∀ a, z a → H a ≠ none) (h : Fz K H z d v) : NewM K tb H z (.fz d) v H :=
  ⟨z, zero, fun _ _ => rfl, fun _ h => h, fun a q => q.imp id fun r => absurd r (Nat.lt_irrefl _), .v (.fz h fun _ => rfl), hz, fun _ _ => rfl, fun _ => Nat.zero_le _, fun _ r => absurd r (Nat.lt_irrefl _)⟩
theorem FzA.rpA : ∀ {ds : List PD} {vs : List V}, FzA K H z ds vs → RpA K H z (ds.map .fz) vs zero
  | _, _, .nil => .nil fun _ => rfl
  | _, _, .cons h r => .cons (c1 := zero) (c2 := zero) (.fz h fun _ => rfl) (FzA.rpA r) fun _ => rfl
/-- a new list -/
theorem NewM.lst {ds : List PD} {vs : List V} {p : Addr} (hz : ∀ a, z a → H a ≠ none) (hp : H p = none) (h : FzA K H z ds vs) : NewM K tb H z (.lst (ds.map .fz)) (.ref p) (upd H p (.lst vs)) := by
  have np : ∀ a, H a ≠ none → a ≠ p := fun a h e => h (e ▸ hp)
  refine ⟨z, one p, fun a h => upd_ne (np a h), fun _ h => h, fun a q => q.imp id fun r => by rw [one_pos r]; exact hp, .v (.lst upd_same ((h.mono (fun _ q => q) fun a q => upd_ne (np a (hz a q))).rpA) fun _ => rfl), fun a q => by rw [upd_ne (np a (hz a q))]; exact hz a q, fun a q => one_ne (np a (hz a q)), fun a => ?_, fun a q => ?_⟩
  · unfold one; split <;> omega
  · rw [one_pos q, upd_same]; trivial
/-- a new tuple -/
theorem NewM.tup {ds : List PD} {vs : List V} {p : Addr} (hz : ∀ a, z a → H a ≠ none) (hp : H p = none) (h : FzA K H z ds vs) : NewM K tb H z (.fz (.tuple ds)) (.ref p) (upd H p (.tup vs)) := by
  have np : ∀ a, H a ≠ none → a ≠ p := fun a h e => h (e ▸ hp)
  refine ⟨fun a => z a ∨ a = p, zero, fun a h => upd_ne (np a h), fun _ h => .inl h, fun a q => ?_, .v (.fz (.tup ⟨.inr rfl, upd_same⟩ (h.mono (fun _ => .inl) fun a q => upd_ne (np a (hz a q)))) fun _ => rfl), fun a q => ?_, fun _ _ => rfl, fun _ => Nat.zero_le _, fun _ r => absurd r (Nat.lt_irrefl _)⟩
  · rcases q with (q | q) | q
    · exact .inl q
    · rw [q]; exact .inr hp
    · exact absurd q (Nat.lt_irrefl _)
  · rcases q with q | q
    · rw [upd_ne (np a (hz a q))]; exact hz a q
    · rw [q, upd_same]; exact fun z => nomatch z
end
/-! ### judgements -/
section
variable (K : PySem.W.Frag) (tb : Nat → Addr) (W : WX)
/-- what an expression's result asks of the rest -/
def Out (H : Hp) (z : Zn) (c : Ct) (σ : St) (r : R M) (Q : VK) : Prop :=
  match r with
  | .ok m δ' => ∀ v H', AftE K tb H z c δ' σ m v H' → Q v H'
  | .ex n δ' => ∀ H', Aft K tb H z c δ' σ H' → W (.ref (tb n)) none σ H'
  | .bad => False
def OutP (H : Hp) (z : Zn) (c : Ct) (σ : St) (r : R M) (Q : V → Hp → PD → Env' → Prop) : Prop :=
  match r with
  | .ok (.v l) δ' => ∀ v H', AftP K tb H z c δ' σ l.pd v H' → Q v H' l.pd δ'
  | .ok _ _ => False
  | .ex n δ' => ∀ H', Aft K tb H z c δ' σ H' → W (.ref (tb n)) none σ H'
  | .bad => False
def OutB (H : Hp) (z : Zn) (c : Ct) (σ : St) (r : R Bool) (Q : Bool → Hp → Prop) : Prop :=
  match r with
  | .ok b δ' => ∀ H', Aft K tb H z c δ' σ H' → Q b H'
  | .ex n δ' => ∀ H', Aft K tb H z c δ' σ H' → W (.ref (tb n)) none σ H'
  | .bad => False
def tD (F : EF) : TE := fun σ H Q => ∃ δ z c, RpE K tb H z δ σ c ∧ Wf H z c ∧ Out K tb W H z c σ (F δ) Q
def tT (F : Env' → R Bool) : TT := fun σ H Q => ∃ δ z c, RpE K tb H z δ σ c ∧ Wf H z c ∧ OutB K tb W H z c σ (F δ) Q
end
section
variable {K : PySem.W.Frag} {tb : Nat → Addr} {W : WX} {H H' H1 : Hp} {z z' z1 : Zn} {c c' c1 : Ct} {σ : St} {δ δ' : Env'} {X : Cx} {e : Expr} {t t' : TE}
theorem Out.step {r : R M} {Q : VK} (s : Step H z c H1 z1 c1) (w : Wf H1 z1 c1) (h : Out K tb W H z c σ r Q) : Out K tb W H1 z1 c1 σ r Q := by
  cases r with
  | ok m δ' => exact fun v H' a => h v H' (a.trans s w)
  | ex n δ' => exact fun H' a => h H' (a.trans s w)
  | bad => exact h
theorem OutB.step {r : R Bool} {Q : Bool → Hp → Prop} (s : Step H z c H1 z1 c1) (w : Wf H1 z1 c1) (h : OutB K tb W H z c σ r Q) : OutB K tb W H1 z1 c1 σ r Q := by
  cases r with
  | ok m δ' => exact fun H' a => h H' (a.trans s w)
  | ex n δ' => exact fun H' a => h H' (a.trans s w)
  | bad => exact h
theorem _root_.L2.PE.wk (h : PE X e t) (i : ∀ σ H Q, t' σ H Q → t σ H Q) : PE X e t' := ⟨fun pins s σ H Q I q => h.run pins s σ H Q I (i σ H Q q)⟩
theorem _root_.L2.PT.wk {t t' : TT} (h : PT X e t) (i : ∀ σ H Q, t' σ H Q → t σ H Q) : PT X e t' := ⟨fun pins s σ H Q I q => h.run pins s σ H Q I (i σ H Q q)⟩
theorem _root_.L2.PS.wk {st : Stmt} {t t' : TS} (h : PS X st t) (i : ∀ D σ H, t' D σ H → t D σ H) : PS X st t' := ⟨fun pins s σ H D I q => h.run pins s σ H D I (i D σ H q)⟩
abbrev DE (tb : Nat → Addr) (W : WX) (X : Cx) (e : Expr) (F : EF) : Prop := PE X e (tD X.K tb W F)
abbrev DT (tb : Nat → Addr) (W : WX) (X : Cx) (e : Expr) (F : Env' → R Bool) : Prop := PT X e (tT X.K tb W F)
/-- run an operand: what it asks of the rest, its value frozen -/
theorem run_P {F : EF} {α : Type} {f : PD → Env' → R α} {Q : VK} (hE : RpE K tb H z δ σ c) (w : Wf H z c)
    (hok : ∀ l δ1, F δ = .ok (.v l) δ1 → ∀ v H1 z1 c1, RpE K tb H1 z1 δ1 σ c1 → Fz K H1 z1 l.pd v → Wf H1 z1 c1 → Step H z c H1 z1 c1 → Q v H1)
    (hex : ∀ n δ1, F δ = .ex n δ1 → ∀ H', Aft K tb H z c δ1 σ H' → W (.ref (tb n)) none σ H') (hno : ∀ own t fs δ1, F δ ≠ .ok (.o own t fs) δ1) (hbad : F δ ≠ .bad) : tD K tb W F σ H Q := by
  refine ⟨δ, z, c, hE, w, ?_⟩
  cases e : F δ with
  | ok m δ1 =>
    cases m with
    | v l =>
      intro v H' a
      obtain ⟨z1, c1, h1, h2, h3, h4⟩ := AftE.toP a
      exact hok l δ1 e v H' z1 c1 h1 h2 h3 h4
    | o own t fs => exact absurd e (hno own t fs δ1)
  | ex n δ1 => exact hex n δ1 e
  | bad => exact absurd e hbad
end
/-- the operand's data -/
def R.p {α : Type} (r : R M) (f : PD → Env' → R α) : R α :=
  match r with
  | .ok (.v l) δ => f l.pd δ
  | .ok _ _ => .bad
  | .ex n δ => .ex n δ
  | .bad => .bad
section
variable {K : PySem.W.Frag} {tb : Nat → Addr} {W : WX} {H H' H1 : Hp} {z z' z1 : Zn} {c c' c1 : Ct} {σ : St} {δ δ' : Env'} {X : Cx} {e : Expr} {t t' : TE}
/-- an operand, then the rest -/
theorem go_P {F : EF} {f : PD → Env' → R M} {Q Q1 : VK} (hE : RpE K tb H z δ σ c) (w : Wf H z c) (h : Out K tb W H z c σ ((F δ).p f) Q)
    (k : ∀ d δ1 v H1 z1 c1, RpE K tb H1 z1 δ1 σ c1 → Fz K H1 z1 d v → Wf H1 z1 c1 → Step H z c H1 z1 c1 → Out K tb W H1 z1 c1 σ (f d δ1) Q → Q1 v H1) : tD K tb W F σ H Q1 := by
  refine ⟨δ, z, c, hE, w, ?_⟩
  cases e : F δ with
  | ok m δ1 =>
    rw [e] at h
    cases m with
    | v l =>
      intro v H' a
      obtain ⟨z1, c1, h1, h2, h3, h4⟩ := AftE.toP a
      exact k l.pd δ1 v H' z1 c1 h1 h2 h3 h4 (Out.step h4 h3 h)
    | o own t fs => exact h.elim
  | ex n δ1 => rw [e] at h; exact h
  | bad => rw [e] at h; exact h.elim
theorem go_PB {F : EF} {f : PD → Env' → R Bool} {Q : Bool → Hp → Prop} {Q1 : VK} (hE : RpE K tb H z δ σ c) (w : Wf H z c) (h : OutB K tb W H z c σ ((F δ).p f) Q)
    (k : ∀ d δ1 v H1 z1 c1, RpE K tb H1 z1 δ1 σ c1 → Fz K H1 z1 d v → Wf H1 z1 c1 → Step H z c H1 z1 c1 → OutB K tb W H1 z1 c1 σ (f d δ1) Q → Q1 v H1) : tD K tb W F σ H Q1 := by
  refine ⟨δ, z, c, hE, w, ?_⟩
  cases e : F δ with
  | ok m δ1 =>
    rw [e] at h
    cases m with
    | v l =>
      intro v H' a
      obtain ⟨z1, c1, h1, h2, h3, h4⟩ := AftE.toP a
      exact k l.pd δ1 v H' z1 c1 h1 h2 h3 h4 (OutB.step h4 h3 h)
    | o own t fs => exact h.elim
  | ex n δ1 => rw [e] at h; exact h
  | bad => rw [e] at h; exact h.elim
/-! ### names, constants -/
def eC (d : PD) : EF := fun δ => .ok (.fz d) δ
theorem Out.const {d : PD} {v : V} {Q : VK} (hE : RpE K tb H z δ σ c) (w : Wf H z c) (hd : Fz K H z d v) (h : Out K tb W H z c σ (.ok (.fz d) δ) Q) : Q v H :=
  h v H (NewM.aft hE w (NewM.at w.zt hd))
theorem de_const {d : PD} {v : V} (h : PE X e (tC v)) (hd : ∀ H z, Fz X.K H z d v) : DE tb W X e (eC d) := h.wk fun σ H Q ⟨δ, z, c, hE, w, h⟩ => Out.const hE w (hd H z) h
theorem de_int {i : Int} {j pos} : DE tb W X (.Constant (.int i) j pos) (eC (.int i)) := de_const pe_int fun _ _ => .int i
theorem de_bool {b : Bool} {j pos} : DE tb W X (.Constant (.bool b) j pos) (eC (.bool b)) := de_const pe_bl fun _ _ => .bl b
theorem de_none {j pos} : DE tb W X (.Constant .none j pos) (eC .none) := de_const pe_non fun _ _ => .non
theorem de_str {s : Str} {j pos} : DE tb W X (.Constant (.str s) j pos) (eC (.str s)) := de_const pe_str fun _ _ => .str s
/-- a name: what it holds is frozen -/
def eN (i : Nat) : EF := fun δ =>
  match δ[i]? with
  | some (some (.v (.fz d))) => .ok (.fz d) δ
  | some (some m) => .ok m.frz (δ.set i (some m.frz))
  | _ => .bad
theorem set_none_set (δ : Env') (i : Nat) (x y : Option M) : (δ.set i x).set i y = δ.set i y := by
  rw [List.set_set]
theorem lt_of_get {δ : Env'} {i : Nat} {x : Option M} (h : δ[i]? = some x) : i < δ.length := (List.getElem?_eq_some_iff.mp h).1
theorem aft_frz {i : Nat} {m : M} {v : V} (hE : RpE K tb H z δ σ c) (w : Wf H z c) (hi : δ[i]? = some (some m)) (hv : σ[i]? = some (some v)) : AftE K tb H z c (δ.set i (some m.frz)) σ m.frz v H := by
  obtain ⟨v', c1, c2, e1, e2, e3, e4⟩ := hE.get hi
  rw [hv] at e1
  cases e1
  have h1 : ∀ a, c1 a ≤ c a := fun a => by rw [e3]; omega
  have f := e2.freeze (z' := fun a => z a ∨ 0 < c1 a) (fun _ => .inl) fun _ => .inr
  refine ⟨fun a => z a ∨ 0 < c1 a, fun a => zero a + c2 a, zero, RpE.put (e4.mono (fun _ => .inl) (fun _ _ => rfl) fun _ _ => rfl) (lt_of_get hi) hv f, f, ⟨fun a q => ?_, fun a q => ?_, fun a => ?_, fun a q => ?_⟩, ⟨fun _ _ _ => rfl, fun _ => .inl, fun a q => ?_, fun _ h => h⟩⟩
  · rcases q with q | q
    · exact w.zt a q
    · exact mut_ne (w.cm a (by rw [e3]; omega))
  · show zero a + c2 a + zero a = 0
    have := e3 a
    rcases q with q | q
    · have := w.zc a q; unfold zero; omega
    · have := w.c1 a; unfold zero; omega
  · show zero a + c2 a + zero a ≤ 1
    have := e3 a
    have := w.c1 a
    unfold zero; omega
  · have q : 0 < zero a + c2 a + zero a := q
    unfold zero at q
    exact w.cm a (by rw [e3]; omega)
  · have := e3 a
    rcases q with (q | q) | q
    · exact .inl q
    · exact .inr (.inl (by omega))
    · have q : 0 < zero a + c2 a + zero a := q
      unfold zero at q
      exact .inr (.inl (by omega))
theorem de_name {i : Nat} (h : PE X e (tVar i)) : DE tb W X e (eN i) := h.wk fun σ H Q ⟨δ, z, c, hE, w, h⟩ => by
  unfold eN at h
  split at h
  · rename_i d q
    obtain ⟨v, c1, c2, e1, e2, e3, e4⟩ := hE.get q
    refine ⟨v, e1, Out.const hE w ?_ h⟩
    cases e2 with
    | v r => cases r with
      | fz r _ => exact r
  · rename_i m _ q
    obtain ⟨v, c1, c2, e1, e2, e3, e4⟩ := hE.get q
    exact ⟨v, e1, h v H (aft_frz hE w q e1)⟩
  · exact h.elim
/-- a name that is given away -/
def eMv (i : Nat) : EF := fun δ =>
  match δ[i]? with
  | some (some m) => .ok m (δ.set i none)
  | _ => .bad
theorem de_move {i : Nat} (h : PE X e (tVar i)) : DE tb W X e (eMv i) := h.wk fun σ H Q ⟨δ, z, c, hE, w, h⟩ => by
  unfold eMv at h
  split at h
  · rename_i m q
    obtain ⟨v, c1, c2, e1, e2, e3, e4⟩ := hE.get q
    refine ⟨v, e1, h v H ⟨z, c2, c1, e4, e2, w.mono fun a => by rw [e3]; omega, (Step.refl H z c).mono fun a => by rw [e3]; omega⟩⟩
  · exact h.elim
/-! ### a look: nothing is frozen by it -/
def ePk (F : EF) : EF := fun δ =>
  match F (frzE δ) with
  | .ok (.v (.fz d)) _ => if immut d then .ok (.fz d) δ else .bad
  | .ex n _ => .ex n δ
  | _ => .bad
theorem pk_wf (w : Wf H z c) : Wf H (fun a => z a ∨ 0 < c a) zero :=
  ⟨fun a q => by rcases q with q | q; exact w.zt a q; exact mut_ne (w.cm a q), fun _ _ => rfl, fun _ => Nat.zero_le _, fun _ q => absurd q (Nat.lt_irrefl _)⟩
theorem pk_back {δ1 : Env'} (hE : RpE K tb H z δ σ c) (w : Wf H z c) (h : Step H (fun a => z a ∨ 0 < c a) zero H' z' c') (w' : Wf H' z' c') :
    RpE K tb H' (fun a => z' a ∧ c a = 0) δ σ c ∧ Wf H' (fun a => z' a ∧ c a = 0) c ∧ Step H z c H' (fun a => z' a ∧ c a = 0) c := by
  have k : ∀ a, H a ≠ none → H' a = H a := fun a q => h.keep a q rfl
  refine ⟨hE.mono (fun a q => ⟨h.zin a (.inl q), w.zc a q⟩) (fun a q => k a (w.zt a q)) fun a q => k a (mut_ne (w.cm a q)), ⟨fun a q => w'.zt a q.1, fun a q => q.2, w.c1, fun a q => by rw [k a (mut_ne (w.cm a q))]; exact w.cm a q⟩,
    ⟨fun a q _ => k a q, fun a q => ⟨h.zin a (.inl q), w.zc a q⟩, fun a q => ?_, h.dom⟩⟩
  rcases q with ⟨q, q0⟩ | q
  · rcases h.src a (.inl q) with (r | r) | r | r
    · exact .inl r
    · omega
    · exact absurd r (Nat.lt_irrefl _)
    · exact .inr (.inr r)
  · exact .inr (.inl q)
theorem pk_imm {d : PD} {v : V} (w : Wf H z c) (h : Step H (fun a => z a ∨ 0 < c a) zero H' z' c') (hd : Fz K H' z' d v) (hi : immut d = true) : Fz K H' (fun a => z' a ∧ c a = 0) d v :=
  hd.immut (fun a q ⟨xs, r⟩ => ⟨q, by
    rcases Nat.eq_zero_or_pos (c a) with p | p
    · exact p
    · have m := w.cm a p
      rw [← h.keep a (mut_ne m) rfl] at m
      rcases r with r | ⟨o, r⟩ <;> (rw [r] at m; exact m.elim)⟩) hi
theorem de_peek {F : EF} (h : DE tb W X e F) : DE tb W X e (ePk F) := PE.wk h fun σ H Q ⟨δ, z, c, hE, w, h⟩ => by
  refine ⟨frzE δ, fun a => z a ∨ 0 < c a, zero, RpE.mono (fun _ q => q) (fun _ _ => rfl) (hE.freeze (fun _ => .inl) fun _ => .inr) (fun _ _ => rfl), pk_wf w, ?_⟩
  unfold ePk at h
  cases e : F (frzE δ) with
  | ok m δ1 =>
    rw [e] at h
    cases m with
    | v l =>
      cases l with
      | fz d =>
        intro v H' a
        obtain ⟨z1, c1, h1, h2, h3, h4⟩ := AftE.toP a
        dsimp only at h
        by_cases hi : immut d = true
        · rw [if_pos hi] at h
          obtain ⟨b1, b2, b3⟩ := pk_back (δ1 := δ1) hE w h4 h3
          exact h v H' (AftP.toE ⟨_, _, b1, pk_imm w h4 h2 hi, b2, b3⟩)
        · rw [if_neg hi] at h
          exact h.elim
      | lst _ => exact h.elim
      | dic _ => exact h.elim
    | o _ _ _ => exact h.elim
  | ex n δ1 =>
    rw [e] at h
    intro H' a
    obtain ⟨z1, c1, h1, h3, h4⟩ := a
    obtain ⟨b1, b2, b3⟩ := pk_back (δ1 := δ1) hE w h4 h3
    exact h H' ⟨_, _, b1, b2, b3⟩
  | bad => rw [e] at h; exact h.elim
def tPk (F : Env' → R Bool) : Env' → R Bool := fun δ =>
  match F (frzE δ) with
  | .ok b _ => .ok b δ
  | .ex n _ => .ex n δ
  | .bad => .bad
theorem dt_peek {F : Env' → R Bool} (h : DT tb W X e F) : DT tb W X e (tPk F) := PT.wk h fun σ H Q ⟨δ, z, c, hE, w, h⟩ => by
  refine ⟨frzE δ, fun a => z a ∨ 0 < c a, zero, hE.freeze (fun _ => .inl) fun _ => .inr, pk_wf w, ?_⟩
  unfold tPk at h
  cases e : F (frzE δ) with
  | ok b δ1 =>
    rw [e] at h
    intro H' ⟨z1, c1, h1, h3, h4⟩
    obtain ⟨b1, b2, b3⟩ := pk_back (δ1 := δ1) hE w h4 h3
    exact h H' ⟨_, _, b1, b2, b3⟩
  | ex n δ1 =>
    rw [e] at h
    intro H' ⟨z1, c1, h1, h3, h4⟩
    obtain ⟨b1, b2, b3⟩ := pk_back (δ1 := δ1) hE w h4 h3
    exact h H' ⟨_, _, b1, b2, b3⟩
  | bad => rw [e] at h; exact h.elim
end
end FS
namespace FS
open PySem PySem.Spec L2
/-! ### data that is plain and not too deep -/
mutual
def okN : Nat → PD → Bool
  | _, .none => true
  | _, .bool _ => true
  | _, .int _ => true
  | _, .str _ => true
  | 0, .list _ => false
  | n + 1, .list ds => okNs n ds
  | 0, .tuple _ => false
  | n + 1, .tuple ds => okNs n ds
  | _, .dict _ => false
def okNs : Nat → List PD → Bool
  | _, [] => true
  | n, d :: ds => okN n d && okNs n ds
end
mutual
theorem okN_plain : ∀ {n : Nat} {d : PD}, okN n d = true → d.plain = true ∧ d.depth ≤ n
  | n, .none, _ => ⟨rfl, by simp [PyData.depth]⟩
  | n, .bool _, _ => ⟨rfl, by simp [PyData.depth]⟩
  | n, .int _, _ => ⟨rfl, by simp [PyData.depth]⟩
  | n, .str _, _ => ⟨rfl, by simp [PyData.depth]⟩
  | 0, .list ds, h => by simp [okN] at h
  | n + 1, .list ds, h => by
    have q := okNs_plain (n := n) (d := ds) (by simpa [okN] using h)
    exact ⟨by simpa [PyData.plain] using q.1, by simp only [PyData.depth]; omega⟩
  | 0, .tuple ds, h => by simp [okN] at h
  | n + 1, .tuple ds, h => by
    have q := okNs_plain (n := n) (d := ds) (by simpa [okN] using h)
    exact ⟨by simpa [PyData.plain] using q.1, by simp only [PyData.depth]; omega⟩
  | n, .dict _, h => by cases n <;> simp [okN] at h
theorem okNs_plain : ∀ {n : Nat} {d : List PD}, okNs n d = true → PyData.plainAll d = true ∧ PyData.depthAll d ≤ n
  | n, [], _ => ⟨rfl, by simp [PyData.depthAll]⟩
  | n, d :: ds, h => by
    have h' := Bool.and_eq_true_iff.mp (show (okN n d && okNs n ds) = true by simpa [okNs] using h)
    have q := okN_plain (n := n) (d := d) h'.1
    have q2 := okNs_plain (n := n) (d := ds) h'.2
    exact ⟨by simp [PyData.plainAll, q.1, q2.1], by simp only [PyData.depthAll]; omega⟩
end
section
variable {K : PySem.W.Frag} {tb : Nat → Addr} {W : WX} {H H' : Hp} {z : Zn} {X : Cx} {pins : List (Addr × Obj)} {σ : St} {s : Shared}
/-! ### from frozen data to the library's readings -/
theorem KcL.sq {a : Addr} {vs : List V} (h : KcL K a vs) : SqL K H a vs := .inr h
theorem KcT.sq {a : Addr} {vs : List V} (h : KcT K a vs) : SqT K H a vs := .inr h
theorem sqL_of {a : Addr} {vs : List V} (h : (z a ∧ Rd H a (.lst vs)) ∨ KcL K a vs) : SqL K H a vs := h.elim (fun q => .inl q.2) KcL.sq
theorem sqT_of {a : Addr} {vs : List V} (h : (z a ∧ Rd H a (.tup vs)) ∨ KcT K a vs) : SqT K H a vs := h.elim (fun q => .inl q.2) .inr
mutual
theorem Fz.dp : ∀ {d : PD} {v : V}, Fz K H z d v → d.plain = true → Dp K H v d
  | _, _, .non, _ => .non
  | _, _, .bl b, _ => .bl b
  | _, _, .int i, _ => .int i
  | _, _, .str x, _ => .str x
  | _, _, .lst h r, e => .lst (sqL_of h) (FzA.dp r e)
  | _, _, .tup h r, e => .tup (.inl (.inl h.2)) (FzA.dp r e)
  | _, _, .dik _ _ _, e => absurd e Bool.false_ne_true
  | _, _, .dit _ _ _, e => absurd e Bool.false_ne_true
theorem FzA.dp : ∀ {d : List PD} {v : List V}, FzA K H z d v → PyData.plainAll d = true → DpAll K H v d
  | _, _, .nil, _ => .nil
  | _, _, .cons h r, e => by
    have e' := Bool.and_eq_true_iff.mp e
    exact .cons (Fz.dp h e'.1) (FzA.dp r e'.2)
end
theorem Fz.rd (I : Inv X pins σ H s) {d : PD} {v : V} {u : Value} (h : Fz X.K H z d v) (e : d.plain = true) (r : RelV v u) : ∃ as, Reads s.heap u d as := Dp.reads I d v u (h.dp e) r
theorem FzA.len : ∀ {d : List PD} {v : List V}, FzA K H z d v → d.length = v.length
  | _, _, .nil => rfl
  | _, _, .cons _ r => congrArg (· + 1) (FzA.len r)
theorem FzA.get : ∀ {d : List PD} {v : List V} {i : Nat} {x : PD}, FzA K H z d v → d[i]? = some x → ∃ y, v[i]? = some y ∧ Fz K H z x y
  | _, _, 0, _, .cons h _, e => by
    obtain rfl := Option.some.inj e
    exact ⟨_, rfl, h⟩
  | _, _, i + 1, _, .cons _ r, e => by
    obtain ⟨y, e1, q⟩ := FzA.get (i := i) r (by simpa using e)
    exact ⟨y, by simpa using e1, q⟩
theorem FzA.get' : ∀ {d : List PD} {v : List V} {i : Nat} {y : V}, FzA K H z d v → v[i]? = some y → ∃ x, d[i]? = some x ∧ Fz K H z x y
  | _, _, 0, _, .cons h _, e => by
    obtain rfl := Option.some.inj e
    exact ⟨_, rfl, h⟩
  | _, _, i + 1, _, .cons _ r, e => by
    obtain ⟨x, e1, q⟩ := FzA.get' (i := i) r (by simpa using e)
    exact ⟨x, by simpa using e1, q⟩
theorem FzA.app : ∀ {d d' : List PD} {v v' : List V}, FzA K H z d v → FzA K H z d' v' → FzA K H z (d ++ d') (v ++ v')
  | _, _, _, _, .nil, h => h
  | _, _, _, _, .cons h r, q => .cons h (FzA.app r q)
theorem FzA.take : ∀ {d : List PD} {v : List V} (n : Nat), FzA K H z d v → FzA K H z (d.take n) (v.take n)
  | _, _, 0, _ => .nil
  | _, _, _ + 1, .nil => .nil
  | _, _, n + 1, .cons h r => .cons h (FzA.take n r)
theorem FzA.drop : ∀ {d : List PD} {v : List V} (n : Nat), FzA K H z d v → FzA K H z (d.drop n) (v.drop n)
  | _, _, 0, h => h
  | _, _, _ + 1, .nil => .nil
  | _, _, n + 1, .cons _ r => FzA.drop n r
theorem FzA.rev {d : List PD} {v : List V} (h : FzA K H z d v) : FzA K H z d.reverse v.reverse := by
  have go : ∀ {d : List PD} {v : List V} {d' : List PD} {v' : List V}, FzA K H z d v → FzA K H z d' v' → FzA K H z (d.reverseAux d') (v.reverseAux v') := by
    intro d
    induction d with
    | nil =>
      intro v d' v' h q
      cases h
      exact q
    | cons x r ih =>
      intro v d' v' h q
      cases h with
      | cons h0 r0 => exact ih (v := _) (d' := x :: d') (v' := _ :: v') r0 (.cons h0 q)
  exact go h .nil
theorem FzA.rep {d : List PD} {v : List V} (h : FzA K H z d v) : ∀ k : Nat, FzA K H z (List.replicate k d).flatten (List.replicate k v).flatten
  | 0 => .nil
  | k + 1 => by
    rw [List.replicate_succ, List.replicate_succ, List.flatten_cons, List.flatten_cons]
    exact h.app (FzA.rep h k)
theorem Fz.list {ds : List PD} {v : V} (h : Fz K H z (.list ds) v) : ∃ a vs, v = .ref a ∧ ((z a ∧ Rd H a (.lst vs)) ∨ KcL K a vs) ∧ FzA K H z ds vs := by
  cases h with
  | lst h r => exact ⟨_, _, rfl, h, r⟩
theorem Fz.tuple {ds : List PD} {v : V} (h : Fz K H z (.tuple ds) v) : ∃ a vs, v = .ref a ∧ ((z a ∧ Rd H a (.tup vs)) ∨ KcT K a vs) ∧ FzA K H z ds vs := by
  cases h with
  | tup h r => exact ⟨_, _, rfl, .inl ⟨h.1, .inl h.2⟩, r⟩
theorem Fz.tupleP {ds : List PD} {v : V} (h : Fz K H z (.tuple ds) v) : ∃ a vs, v = .ref a ∧ z a ∧ H a = some (.tup vs) ∧ FzA K H z ds vs := by
  cases h with
  | tup h r => exact ⟨_, _, rfl, h.1, h.2, r⟩
theorem Fz.int_ {i : Int} {v : V} (h : Fz K H z (.int i) v) : v = .int i := by cases h; rfl
theorem Fz.str_ {i : Str} {v : V} (h : Fz K H z (.str i) v) : v = .str i := by cases h; rfl
theorem Fz.bool_ {i : Bool} {v : V} (h : Fz K H z (.bool i) v) : v = .bl i := by cases h; rfl
theorem Fz.ints : ∀ {ns : List Int} {vs : List V}, FzA K H z (ns.map .int) vs → vs = ns.map V.int
  | [], _, .nil => rfl
  | n :: ns, _, .cons h r => by rw [h.int_, Fz.ints (ns := ns) r]; rfl
theorem Fz.strs : ∀ {ns : List Str} {vs : List V}, FzA K H z (ns.map .str) vs → vs = ns.map V.str
  | [], _, .nil => rfl
  | n :: ns, _, .cons h r => by rw [h.str_, Fz.strs (ns := ns) r]; rfl
/-! ### the form of a rule over data -/
def rP (K : PySem.W.Frag) (tb : Nat → Addr) (g : PD → PD → Option M) : R2 := fun x y H Q =>
  ∃ z d1 d2 m, (∀ a, z a → H a ≠ none) ∧ Fz K H z d1 x ∧ Fz K H z d2 y ∧ g d1 d2 = some m ∧ ∀ v H', NewM K tb H z m v H' → Q v H'
def rU1 (K : PySem.W.Frag) (tb : Nat → Addr) (g : PD → Option M) : V → Hp → VK → Prop := fun x H Q =>
  ∃ z d m, (∀ a, z a → H a ≠ none) ∧ Fz K H z d x ∧ g d = some m ∧ ∀ v H', NewM K tb H z m v H' → Q v H'
def rC (K : PySem.W.Frag) (tb : Nat → Addr) (g : List PD → Option M) : List V → Hp → VK → Prop := fun xs H Q =>
  ∃ z ds m, (∀ a, z a → H a ≠ none) ∧ FzA K H z ds xs ∧ g ds = some m ∧ ∀ v H', NewM K tb H z m v H' → Q v H'
/-- a method of frozen data -/
def rM (K : PySem.W.Frag) (tb : Nat → Addr) (g : PD → List PD → Option M) : V → List V → Hp → VK → Prop := fun x xs H Q =>
  ∃ z d ds m, (∀ a, z a → H a ≠ none) ∧ Fz K H z d x ∧ FzA K H z ds xs ∧ g d ds = some m ∧ ∀ v H', NewM K tb H z m v H' → Q v H'
def eB2 (g : PD → PD → Option M) (F G : EF) : EF := fun δ => (F δ).p fun a δ1 => (G δ1).p fun b δ2 => match g a b with
  | some m => .ok m δ2
  | none => .bad
def eU1 (g : PD → Option M) (F : EF) : EF := fun δ => (F δ).p fun a δ1 => match g a with
  | some m => .ok m δ1
  | none => .bad
variable {a b e : Expr} {F G : EF} {pos : Pos}
theorem d2_of {g : PD → PD → Option M} {σ : St} {H : Hp} {Q : VK} (h : tD K tb W (eB2 g F G) σ H Q) : tOp (rP K tb g) (tD K tb W F) (tD K tb W G) σ H Q := by
  obtain ⟨δ, z, c, hE, w, h⟩ := h
  refine go_P hE w h fun d δ1 v H1 z1 c1 hE1 f1 w1 s1 h1 => ?_
  refine go_P hE1 w1 h1 fun d2 δ2 v2 H2 z2 c2 hE2 f2 w2 s2 h2 => ?_
  cases e : g d d2 with
  | none => rw [e] at h2; exact h2.elim
  | some m =>
    rw [e] at h2
    exact ⟨z2, d, d2, m, w2.zt, s2.fz w1 f1, f2, e, fun v H' q => h2 v H' (q.aft hE2 w2)⟩
theorem de_bin {op : Operator} {g : PD → PD → Option M} (ho : OpR X (binaryOp op) (rP X.K tb g)) (ha : DE tb W X a F) (hb : DE tb W X b G) : DE tb W X (.BinOp a op b pos) (eB2 g F G) :=
  (pe_op ho ha hb).wk fun _ _ _ => d2_of
theorem de_cmp {op : CmpOp} {g : PD → PD → Option M} (ho : OpR X (compareOp op) (rP X.K tb g)) (ha : DE tb W X a F) (hb : DE tb W X b G) (hm : behindInMarks op b = false) : DE tb W X (.Compare a [op] [b] pos) (eB2 g F G) :=
  (pe_cmpR ho ha hb hm).wk fun _ _ _ => d2_of
theorem de_un {op : UnaryOp} {g : PD → Option M} (ho : UnR X (unaryOp op) (rU1 X.K tb g)) (ha : DE tb W X a F) : DE tb W X (.UnaryOp op a pos) (eU1 g F) :=
  (pe_un ho ha).wk fun σ H Q ⟨δ, z, c, hE, w, h⟩ => go_P hE w h fun d δ1 v H1 z1 c1 hE1 f1 w1 s1 h1 => by
    cases e : g d with
    | none => rw [e] at h1; exact h1.elim
    | some m =>
      rw [e] at h1
      exact ⟨z1, d, m, w1.zt, f1, e, fun v H' q => h1 v H' (q.aft hE1 w1)⟩
theorem de_ix {g : PD → PD → Option M} (hr : IxR X (rP X.K tb g)) (ha : DE tb W X a F) (hb : DE tb W X b G) (hs : PlainIx b) : DE tb W X (.Subscript a b pos) (eB2 g F G) :=
  (pe_ix hr ha hb hs).wk fun _ _ _ => d2_of
/-! ### arithmetic -/
def big : Nat := 16777216
theorem big_eq : sizeLine = big := by rw [sizeLine_eq]; rfl
def mulOk (i j : Int) : Bool := decide (i.natAbs.log2 + j.natAbs.log2 < 1000000)
def divOk (j : Int) : Bool := decide (0 < j) && decide (j.natAbs.log2 < 9000)
def gAdd : PD → PD → Option M
  | .int i, .int j => some (.fz (.int (i + j)))
  | .str x, .str y => if x.length + y.length ≤ big then some (.fz (.str (x ++ y))) else none
  | .list xs, .list ys => if xs.length + ys.length ≤ big then some (.lst ((xs ++ ys).map .fz)) else none
  | .tuple xs, .tuple ys => if xs.length + ys.length ≤ big ∧ xs ≠ [] ∧ ys ≠ [] then some (.fz (.tuple (xs ++ ys))) else none
  | _, _ => none
def gSub : PD → PD → Option M
  | .int i, .int j => some (.fz (.int (i - j)))
  | _, _ => none
def gMul : PD → PD → Option M
  | .int i, .int j => if mulOk i j then some (.fz (.int (i * j))) else none
  | _, _ => none
def gDiv : PD → PD → Option M
  | .int i, .int j => if divOk j then some (.fz (.int (i / j))) else none
  | _, _ => none
def gMod : PD → PD → Option M
  | .int i, .int j => if 0 < j then some (.fz (.int (i % j))) else none
  | _, _ => none
def gPow : PD → PD → Option M
  | .int i, .int j => if 0 ≤ j ∧ j ≤ 1000000 ∧ i.natAbs < 2 ^ 64 then some (.fz (.int (i ^ j.toNat))) else none
  | _, _ => none
theorem new_int {i : Int} (hz : ∀ a, z a → H a ≠ none) : NewM K tb H z (.fz (.int i)) (.int i) H := NewM.at hz (.int i)
theorem new_bl {i : Bool} (hz : ∀ a, z a → H a ≠ none) : NewM K tb H z (.fz (.bool i)) (.bl i) H := NewM.at hz (.bl i)
theorem new_str {i : Str} (hz : ∀ a, z a → H a ≠ none) : NewM K tb H z (.fz (.str i)) (.str i) H := NewM.at hz (.str i)
theorem isL_of {h : Heap} {a : Addr} {its : Array Value} (p : PlainL h a its) : h.IsList a its := p.isList
theorem op_gSub : OpR X (binaryOp .Sub) (rP X.K tb gSub) := fun pins s σ H x y v u Q I rx ry ⟨z, d1, d2, m, hz, f1, f2, g, q⟩ => by
  unfold gSub at g
  split at g <;> cases g
  rw [f1.int_] at rx
  rw [f2.int_] at ry
  exact op_sub pins s σ H _ _ v u Q I rx ry ⟨_, _, rfl, rfl, q _ _ (new_int hz)⟩
theorem op_gDiv : OpR X (binaryOp .FloorDiv) (rP X.K tb gDiv) := fun pins s σ H x y v u Q I rx ry ⟨z, d1, d2, m, hz, f1, f2, g, q⟩ => by
  unfold gDiv at g
  split at g
  · split at g <;> cases g
    rename_i h
    have h' := Bool.and_eq_true_iff.mp h
    rw [f1.int_] at rx
    rw [f2.int_] at ry
    exact op_fdivW pins s σ H _ _ v u Q I rx ry ⟨_, _, rfl, rfl, ⟨of_decide_eq_true h'.1, of_decide_eq_true h'.2⟩, q _ _ (new_int hz)⟩
  · cases g
theorem op_gMod : OpR X (binaryOp .Mod) (rP X.K tb gMod) := fun pins s σ H x y v u Q I rx ry ⟨z, d1, d2, m, hz, f1, f2, g, q⟩ => by
  unfold gMod at g
  split at g
  · split at g <;> cases g
    rename_i h
    rw [f1.int_] at rx
    rw [f2.int_] at ry
    exact op_mod pins s σ H _ _ v u Q I rx ry ⟨_, _, rfl, rfl, h, q _ _ (new_int hz)⟩
  · cases g
theorem op_gPow : OpR X (binaryOp .Pow) (rP X.K tb gPow) := fun pins s σ H x y v u Q I rx ry ⟨z, d1, d2, m, hz, f1, f2, g, q⟩ => by
  unfold gPow at g
  split at g
  · split at g <;> cases g
    rename_i h
    rw [f1.int_] at rx
    rw [f2.int_] at ry
    exact op_pow pins s σ H _ _ v u Q I rx ry ⟨_, _, rfl, rfl, h, q _ _ (new_int hz)⟩
  · cases g
/-- a new list in the heap -/
theorem fin_lst (I : Inv X pins σ H s) {ds : List PD} {vs : List V} {its : List Value} {Q : VK} (hz : ∀ a, z a → H a ≠ none) (f : FzA X.K H z ds vs) (r : Vals vs its) (hl : vs.length ≤ sizeLine)
    (q : ∀ v H', NewM X.K tb H z (.lst (ds.map .fz)) v H' → Q v H') : EP X pins σ Q (.ref s.heap.objs.size) { s with heap := s.heap.push { cls := .type "list", data := .seq its.toArray } } :=
  ⟨.ref _, _, I.lnew (t' := s.toks) r hl, rfl, q _ _ (NewM.lst hz I.fresh f)⟩
theorem op_gAdd : OpR X (binaryOp .Add) (rP X.K tb gAdd) := fun pins s σ H x y v u Q I rx ry ⟨z, d1, d2, m, hz, f1, f2, g, q⟩ => by
  unfold gAdd at g
  split at g
  · cases g
    rw [f1.int_] at rx
    rw [f2.int_] at ry
    exact op_add pins s σ H _ _ v u Q I rx ry ⟨_, _, rfl, rfl, q _ _ (new_int hz)⟩
  · split at g <;> cases g
    rename_i h
    rw [f1.str_] at rx
    rw [f2.str_] at ry
    exact op_add_str pins s σ H _ _ v u Q I rx ry ⟨_, _, rfl, rfl, by rw [big_eq]; exact h, q _ _ (new_str hz)⟩
  · split at g <;> cases g
    rename_i h
    obtain ⟨l, xs, rfl, hH, f1⟩ := f1.list
    obtain ⟨b, zs, rfl, hB, f2⟩ := f2.list
    cases rx
    cases ry
    obtain ⟨its, r, pl, _⟩ := I.list (sqL_of hH)
    obtain ⟨its2, r2, pl2, _⟩ := I.list (sqL_of hB)
    obtain ⟨⟨c1, d1, t1, q1⟩, n, e, hc1, _, hd1⟩ := pl
    obtain ⟨⟨c2, d2, t2, q2⟩, n2, e2, hc2, _, hd2⟩ := pl2
    simp only at hc1 hd1 hc2 hd2
    subst hc1 hd1 hc2 hd2
    have l1 := f1.len
    have l2 := f2.len
    have l3 := r.length
    have l4 := r2.length
    refine PySem.concat_meets ⟨_, e, rfl⟩ ⟨_, e2, rfl⟩ noFill_list_add seq_list_add PySem.F.slot_list_add PySem.F.entry_list_add (PySem.F.args_list_add_2 _ _) (PyProof.Rows.list_addW l b its.toArray its2.toArray n n2 _ _ _ _ (by rw [List.size_toArray, List.size_toArray, big_eq]; omega)) ⟨e, e2, ?_⟩
    have ea : its.toArray ++ its2.toArray = (its ++ its2).toArray := by simp
    rw [ea]
    exact fin_lst I hz (f1.app f2) (r.append r2) (by rw [List.length_append, big_eq]; omega) q
  · split at g <;> cases g
    rename_i h
    obtain ⟨a, xs, rfl, hH, f1⟩ := f1.tuple
    obtain ⟨b, ys, rfl, hB, f2⟩ := f2.tuple
    have l1 := f1.len
    have l2 := f2.len
    have nx : xs ≠ [] := fun e => by rw [e] at f1; cases f1; exact h.2.1 rfl
    have ny : ys ≠ [] := fun e => by rw [e] at f2; cases f2; exact h.2.2 rfl
    exact op_catT pins s σ H _ _ v u Q I rx ry ⟨a, b, xs, ys, rfl, rfl, sqT_of hH, sqT_of hB, nx, by rw [big_eq]; omega, fun e => absurd e ny, fun _ p hp => q _ _ (NewM.tup hz hp (f1.app f2))⟩
  · cases g
theorem op_gMul : OpR X (binaryOp .Mult) (rP X.K tb gMul) := fun pins s σ H x y v u Q I rx ry ⟨z, d1, d2, m, hz, f1, f2, g, q⟩ => by
  unfold gMul at g
  split at g
  · split at g <;> cases g
    rename_i h
    rw [f1.int_] at rx
    rw [f2.int_] at ry
    exact op_mulW pins s σ H _ _ v u Q I rx ry ⟨_, _, rfl, rfl, (show _ < _ from of_decide_eq_true h), q _ _ (new_int hz)⟩
  · cases g
def gNeg : PD → Option M
  | .int i => some (.fz (.int (-i)))
  | _ => none
theorem un_gNeg : UnR X (unaryOp .USub) (rU1 X.K tb gNeg) := fun pins s σ H x v Q I rx ⟨z, d, m, hz, f, g, q⟩ => by
  unfold gNeg at g
  split at g <;> cases g
  rw [f.int_] at rx
  exact un_neg pins s σ H _ v Q I rx ⟨_, rfl, q _ _ (new_int hz)⟩
/-! ### comparisons -/
def gBool2 (ok : PD → PD → Bool) (f : PD → PD → Bool) : PD → PD → Option M := fun a b => if ok a b then some (.fz (.bool (f a b))) else none
def okEq (a b : PD) : Bool := okN 12 a && okN 12 b
def okLt (a b : PD) : Bool := PySem.W.alike a b && okN 12 a && okN 12 b && (match a with | .none => false | _ => true)
def gEq : PD → PD → Option M := gBool2 okEq PyData.eqv
def gNe : PD → PD → Option M := gBool2 okEq fun a b => !PyData.eqv a b
def gLt : PD → PD → Option M := gBool2 okLt PySem.W.dataLt
def gLe : PD → PD → Option M := gBool2 okLt fun a b => !PySem.W.dataLt b a
def gGt : PD → PD → Option M := gBool2 okLt fun a b => PySem.W.dataLt b a
def gGe : PD → PD → Option M := gBool2 okLt fun a b => !PySem.W.dataLt a b
theorem room12 {A : Around} {a b : Nat} (hu : A.units + 64 < cLine) (h : a ≤ 12) : A.units + 1 + min a b < cLine := by
  have := Nat.min_le_left a b
  omega
theorem op_bool2 {op : CmpOp} {ok f : PD → PD → Bool}
    (hr : ∀ (s : Shared) (Q : Value → Shared → Prop) (u v : Value) (a b : PD) (as bs : List Addr), ok a b = true → Reads s.heap u a as → Reads s.heap v b bs → Q (.bool (f a b)) s → wpAny (model X.prog X.w) X.A (compareOp op u v) Q X.xe s)
    (hp : ∀ a b, ok a b = true → a.plain = true ∧ b.plain = true) : OpR X (compareOp op) (rP X.K tb (gBool2 ok f)) := fun pins s σ H x y v u Q I rx ry ⟨z, d1, d2, m, hz, f1, f2, g, q⟩ => by
  unfold gBool2 at g
  split at g <;> cases g
  rename_i h
  obtain ⟨p1, p2⟩ := hp _ _ h
  obtain ⟨as, r1⟩ := f1.rd I p1 rx
  obtain ⟨bs, r2⟩ := f2.rd I p2 ry
  exact hr s _ v u d1 d2 as bs h r1 r2 ⟨.bl _, H, I, rfl, q _ _ (new_bl hz)⟩
theorem okEq_of {a b : PD} (h : okEq a b = true) : (a.plain = true ∧ a.depth ≤ 12) ∧ b.plain = true ∧ b.depth ≤ 12 := by
  have h' := Bool.and_eq_true_iff.mp h
  exact ⟨okN_plain h'.1, okN_plain h'.2⟩
theorem okLt_of {a b : PD} (h : okLt a b = true) : PySem.W.alike a b = true ∧ (a.plain = true ∧ a.depth ≤ 12) ∧ (b.plain = true ∧ b.depth ≤ 12) ∧ a ≠ .none := by
  unfold okLt at h
  simp only [Bool.and_eq_true] at h
  obtain ⟨⟨⟨h1, h2⟩, h3⟩, h4⟩ := h
  exact ⟨h1, okN_plain h2, okN_plain h3, fun e => by rw [e] at h4; exact absurd h4 Bool.false_ne_true⟩
theorem op_gEq (hu : X.A.units + 64 < cLine) : OpR X (compareOp .Eq) (rP X.K tb gEq) := op_bool2 (fun s Q u v a b as bs h r1 r2 q => by
  obtain ⟨⟨p1, e1⟩, p2, e2⟩ := okEq_of h
  exact SeqAt.eq_plain r1 r2 p1 p2 (by have := room12 (b := b.depth) hu e1; omega) q) fun a b h => ⟨(okEq_of h).1.1, (okEq_of h).2.1⟩
theorem op_gNe (hu : X.A.units + 64 < cLine) : OpR X (compareOp .NotEq) (rP X.K tb gNe) := op_bool2 (fun s Q u v a b as bs h r1 r2 q => by
  obtain ⟨⟨p1, e1⟩, p2, e2⟩ := okEq_of h
  exact SeqAt.ne_plain r1 r2 p1 p2 (by have := room12 (b := b.depth) hu e1; omega) q) fun a b h => ⟨(okEq_of h).1.1, (okEq_of h).2.1⟩
theorem op_gLt (hu : X.A.units + 64 < cLine) : OpR X (compareOp .Lt) (rP X.K tb gLt) := op_bool2 (fun s Q u v a b as bs h r1 r2 q => by
  obtain ⟨h1, ⟨p1, e1⟩, ⟨p2, e2⟩, hn⟩ := okLt_of h
  exact PySem.W.lt_data r1 r2 h1 hn (by have := room12 (b := b.depth) hu e1; omega) q) fun a b h => ⟨(okLt_of h).2.1.1, (okLt_of h).2.2.1.1⟩
theorem op_gLe (hu : X.A.units + 64 < cLine) : OpR X (compareOp .LtE) (rP X.K tb gLe) := op_bool2 (fun s Q u v a b as bs h r1 r2 q => by
  obtain ⟨h1, ⟨p1, e1⟩, ⟨p2, e2⟩, hn⟩ := okLt_of h
  exact PySem.W.le_data r1 r2 h1 hn (by have := room12 (b := b.depth) hu e1; omega) q) fun a b h => ⟨(okLt_of h).2.1.1, (okLt_of h).2.2.1.1⟩
theorem op_gGt (hu : X.A.units + 64 < cLine) : OpR X (compareOp .Gt) (rP X.K tb gGt) := op_bool2 (fun s Q u v a b as bs h r1 r2 q => by
  obtain ⟨h1, ⟨p1, e1⟩, ⟨p2, e2⟩, hn⟩ := okLt_of h
  exact PySem.W.gt_data r1 r2 h1 hn (by have := room12 (b := b.depth) hu e1; omega) q) fun a b h => ⟨(okLt_of h).2.1.1, (okLt_of h).2.2.1.1⟩
theorem op_gGe (hu : X.A.units + 64 < cLine) : OpR X (compareOp .GtE) (rP X.K tb gGe) := op_bool2 (fun s Q u v a b as bs h r1 r2 q => by
  obtain ⟨h1, ⟨p1, e1⟩, ⟨p2, e2⟩, hn⟩ := okLt_of h
  exact PySem.W.ge_data r1 r2 h1 hn (by have := room12 (b := b.depth) hu e1; omega) q) fun a b h => ⟨(okLt_of h).2.1.1, (okLt_of h).2.2.1.1⟩
/-- x is None -/
def isNone : PD → Bool
  | .none => true
  | _ => false
def gIs : PD → PD → Option M := gBool2 (fun _ b => isNone b) fun a _ => isNone a
def gIsNot : PD → PD → Option M := gBool2 (fun _ b => isNone b) fun a _ => !isNone a
theorem Fz.isNone {d : PD} {x : V} (h : Fz K H z d x) : decide (x = .non) = isNone d := by cases h <;> rfl
theorem op_gIs : OpR X (compareOp .Is) (rP X.K tb gIs) := fun pins s σ H x y v u Q I rx ry ⟨z, d1, d2, m, hz, f1, f2, g, q⟩ => by
  unfold gIs gBool2 at g
  split at g <;> cases g
  rename_i h
  have e : y = .non := of_decide_eq_true (f2.isNone.trans h)
  exact op_isN pins s σ H x y v u Q I rx ry ⟨e, by rw [f1.isNone]; exact q _ _ (new_bl hz)⟩
theorem op_gIsNot : OpR X (compareOp .IsNot) (rP X.K tb gIsNot) := fun pins s σ H x y v u Q I rx ry ⟨z, d1, d2, m, hz, f1, f2, g, q⟩ => by
  unfold gIsNot gBool2 at g
  split at g <;> cases g
  rename_i h
  have e : y = .non := of_decide_eq_true (f2.isNone.trans h)
  exact op_notN pins s σ H x y v u Q I rx ry ⟨e, by rw [f1.isNone]; exact q _ _ (new_bl hz)⟩
/-- x in xs: a list, a tuple; a sign in a text -/
def okIn (d c : PD) : Bool := match c with
  | .list ds => okN 12 d && okNs 12 ds
  | .tuple ds => okN 12 d && okNs 12 ds
  | _ => false
def isInD (d c : PD) : Bool := match c with
  | .list ds => ds.any fun y => PyData.eqv y d
  | .tuple ds => ds.any fun y => PyData.eqv y d
  | _ => false
def gInL : PD → PD → Option M := gBool2 okIn isInD
def gNinL : PD → PD → Option M := gBool2 okIn fun d c => !isInD d c
theorem okIn_plain (a b : PD) (h : okIn a b = true) : a.plain = true ∧ b.plain = true := by
  unfold okIn at h
  split at h
  · have h' := Bool.and_eq_true_iff.mp h
    exact ⟨(okN_plain h'.1).1, by simpa [PyData.plain] using (okNs_plain h'.2).1⟩
  · have h' := Bool.and_eq_true_iff.mp h
    exact ⟨(okN_plain h'.1).1, by simpa [PyData.plain] using (okNs_plain h'.2).1⟩
  · cases h
theorem op_gIn (hu : X.A.units + 64 < cLine) : OpR X (compareOp .In) (rP X.K tb gInL) := op_bool2 (fun s Q u v a b as bs h r1 r2 q => by
  unfold okIn at h
  split at h
  · have h' := Bool.and_eq_true_iff.mp h
    have h1 := okN_plain h'.1
    have h2 := okNs_plain h'.2
    exact SeqAt.in_list_data r2 r1 h2.1 h1.1 (room12 hu h2.2) q
  · have h' := Bool.and_eq_true_iff.mp h
    have h1 := okN_plain h'.1
    have h2 := okNs_plain h'.2
    exact SeqAt.in_tuple_data r2 r1 h2.1 h1.1 (room12 hu h2.2) q
  · cases h) okIn_plain
theorem op_gNin (hu : X.A.units + 64 < cLine) : OpR X (compareOp .NotIn) (rP X.K tb gNinL) := op_bool2 (fun s Q u v a b as bs h r1 r2 q => by
  unfold okIn at h
  split at h
  · have h' := Bool.and_eq_true_iff.mp h
    have h1 := okN_plain h'.1
    have h2 := okNs_plain h'.2
    exact SeqAt.notIn_list_data r2 r1 h2.1 h1.1 (room12 hu h2.2) q
  · have h' := Bool.and_eq_true_iff.mp h
    have h1 := okN_plain h'.1
    have h2 := okNs_plain h'.2
    exact SeqAt.notIn_tuple_data r2 r1 h2.1 h1.1 (room12 hu h2.2) q
  · cases h) okIn_plain
/-! ### an item -/
def gIx : PD → PD → Option M
  | .list ds, .int i => (atI ds i).map .fz
  | .tuple ds, .int i => (atI ds i).map .fz
  | .str x, .int i => if x.length ≤ big then (atI x.cps.toList i).map fun c => .fz (.str ⟨#[c]⟩) else none
  | _, _ => none
theorem atI_len {α β : Type} {xs : List α} {ys : List β} (h : xs.length = ys.length) {i : Int} {x : α} (e : atI xs i = some x) : ∃ j, ixN ys.length i = some j ∧ xs[j]? = some x := by
  unfold atI at e
  rw [h] at e
  cases q : ixN ys.length i with
  | none => rw [q] at e; cases e
  | some j => rw [q] at e; exact ⟨j, rfl, e⟩
theorem FzA.at {ds : List PD} {vs : List V} {i : Int} {d : PD} (f : FzA K H z ds vs) (e : atI ds i = some d) : ∃ v, atI vs i = some v ∧ Fz K H z d v := by
  obtain ⟨j, h1, h2⟩ := atI_len f.len e
  obtain ⟨v, h3, h4⟩ := f.get h2
  refine ⟨v, ?_, h4⟩
  unfold atI
  rw [h1]
  exact h3
theorem ix_gIx : IxR X (rP X.K tb gIx) := fun value slice pins s σ H x y v u Q I rx ry ⟨z, d1, d2, m, hz, f1, f2, g, q⟩ hs => by
  unfold gIx at g
  split at g
  · rename_i ds i
    cases e : atI ds i with
    | none => rw [e] at g; cases g
    | some d =>
      rw [e] at g
      cases g
      obtain ⟨a, vs, rfl, hH, f⟩ := f1.list
      obtain ⟨w, e2, f3⟩ := f.at e
      rw [f2.int_] at ry
      exact ix_list value slice pins s σ H _ _ v u Q I rx ry ⟨a, vs, i, w, rfl, rfl, sqL_of hH, e2, q _ _ (NewM.at hz f3)⟩ hs
  · rename_i ds i
    cases e : atI ds i with
    | none => rw [e] at g; cases g
    | some d =>
      rw [e] at g
      cases g
      obtain ⟨a, vs, rfl, hH, f⟩ := f1.tuple
      obtain ⟨w, e2, f3⟩ := f.at e
      rw [f2.int_] at ry
      exact ix_tup value slice pins s σ H _ _ v u Q I rx ry ⟨a, vs, i, w, rfl, rfl, sqT_of hH, e2, q _ _ (NewM.at hz f3)⟩ hs
  · rename_i z0 i
    split at g
    · rename_i hl
      cases e : atI z0.cps.toList i with
      | none => rw [e] at g; cases g
      | some d =>
        rw [e] at g
        cases g
        rw [f1.str_] at rx
        rw [f2.int_] at ry
        exact ix_str value slice pins s σ H _ _ v u Q I rx ry ⟨z0, i, d, rfl, rfl, by rw [big_eq]; exact hl, e, q _ _ (new_str hz)⟩ hs
    · cases g
  · cases g
end
end FS
namespace FS
open PySem PySem.Spec L2
section
variable {K : PySem.W.Frag} {tb : Nat → Addr} {W : WX} {H H' H1 : Hp} {z z' z1 : Zn} {c c' c1 : Ct} {σ : St} {δ δ' : Env'} {X : Cx} {pins : List (Addr × Obj)} {s : Shared}
variable {a b e : Expr} {F G : EF} {pos : Pos} {es : List Expr}
/-! ### tests -/
abbrev BF := Env' → R Bool
def tE (F : EF) : BF := fun δ => (F δ).p fun d δ1 => match d with
  | .bool b => .ok b δ1
  | _ => .bad
theorem test_of {Q : Bool → Hp → Prop} (h : tT K tb W (tE F) σ H Q) : tD K tb W F σ H fun x H' => ∃ k, x = .bl k ∧ Q k H' := by
  obtain ⟨δ, z, c, hE, w, h⟩ := h
  refine go_PB hE w h fun d δ1 v H1 z1 c1 hE1 f1 w1 s1 h1 => ?_
  cases d with
  | bool k => exact ⟨k, f1.bool_, h1 H1 ⟨z1, c1, hE1, w1, Step.refl _ _ _⟩⟩
  | _ => exact h1.elim
theorem dt_cmp {op : CmpOp} {g : PD → PD → Option M} (ho : OpR X (compareOp op) (rP X.K tb g)) (ha : DE tb W X a F) (hb : DE tb W X b G) (hm : behindInMarks op b = false) : DT tb W X (.Compare a [op] [b] pos) (tE (eB2 g F G)) :=
  (pt_cmpR ho ha hb hm).wk fun σ H Q h => d2_of (test_of h)
def truD : PD → Option Bool
  | .none => some false
  | .bool b => some b
  | .int i => some (i != 0)
  | .str x => if x.length ≤ big then some ((x.length : Int) != 0) else none
  | .list ds => some (!ds.isEmpty)
  | .tuple ds => some (!ds.isEmpty)
  | .dict _ => none
def tTru (F : EF) : BF := fun δ => (F δ).p fun d δ1 => match truD d with
  | some b => .ok b δ1
  | none => .bad
theorem FzA.emp {ds : List PD} {vs : List V} (f : FzA K H z ds vs) : ds.isEmpty = vs.isEmpty := by cases f <;> rfl
theorem Fz.tru {d : PD} {x : V} {k : Bool} (f : Fz K H z d x) (h : truD d = some k) : TruV K x H k := by
  unfold truD at h
  split at h
  · cases f; cases h; rfl
  · cases f; cases h; rfl
  · cases f; cases h; rfl
  · split at h
    · rename_i q
      cases h
      cases f
      exact ⟨by rw [big_eq]; exact q, rfl⟩
    · cases h
  · cases h
    cases f with
    | lst q r => exact .inl ⟨_, sqL_of q, by rw [r.emp]⟩
  · cases h
    cases f with
    | tup q r => exact .inr (.inl ⟨_, (Or.inl (Or.inl q.2)), by rw [r.emp]⟩)
  · cases h
theorem dt_tru (ha : DE tb W X a F) (he : ∀ whole, isTrue a X.env whole = (do let v ← whole; standAt a.pos; holding [v] (truthy v)) := by intro _; rfl) : DT tb W X a (tTru F) :=
  (pt_truth ha he).wk fun σ H Q ⟨δ, z, c, hE, w, h⟩ => go_PB hE w h fun d δ1 v H1 z1 c1 hE1 f1 w1 s1 h1 => by
    cases e : truD d with
    | none => rw [e] at h1; exact h1.elim
    | some k => rw [e] at h1; exact ⟨k, f1.tru e, h1 H1 ⟨z1, c1, hE1, w1, Step.refl _ _ _⟩⟩
theorem go_B {F : BF} {f : Bool → Env' → R Bool} {Q Q1 : Bool → Hp → Prop} (hE : RpE K tb H z δ σ c) (w : Wf H z c) (h : OutB K tb W H z c σ ((F δ).bind f) Q)
    (k : ∀ b δ1 H1 z1 c1, RpE K tb H1 z1 δ1 σ c1 → Wf H1 z1 c1 → Step H z c H1 z1 c1 → OutB K tb W H1 z1 c1 σ (f b δ1) Q → Q1 b H1) : tT K tb W F σ H Q1 := by
  refine ⟨δ, z, c, hE, w, ?_⟩
  cases e : F δ with
  | ok b δ1 =>
    rw [e] at h
    intro H' ⟨z1, c1, h1, h3, h4⟩
    exact k b δ1 H' z1 c1 h1 h3 h4 (OutB.step h4 h3 h)
  | ex n δ1 => rw [e] at h; exact h
  | bad => rw [e] at h; exact h.elim
theorem go_BE {F : BF} {f : Bool → Env' → R M} {Q : VK} {Q1 : Bool → Hp → Prop} (hE : RpE K tb H z δ σ c) (w : Wf H z c) (h : Out K tb W H z c σ ((F δ).bind f) Q)
    (k : ∀ b δ1 H1 z1 c1, RpE K tb H1 z1 δ1 σ c1 → Wf H1 z1 c1 → Step H z c H1 z1 c1 → Out K tb W H1 z1 c1 σ (f b δ1) Q → Q1 b H1) : tT K tb W F σ H Q1 := by
  refine ⟨δ, z, c, hE, w, ?_⟩
  cases e : F δ with
  | ok b δ1 =>
    rw [e] at h
    intro H' ⟨z1, c1, h1, h3, h4⟩
    exact k b δ1 H' z1 c1 h1 h3 h4 (Out.step h4 h3 h)
  | ex n δ1 => rw [e] at h; exact h
  | bad => rw [e] at h; exact h.elim
theorem outB_here {b : Bool} {Q : Bool → Hp → Prop} (hE : RpE K tb H z δ σ c) (w : Wf H z c) (h : OutB K tb W H z c σ (.ok b δ) Q) : Q b H := h H ⟨z, c, hE, w, Step.refl _ _ _⟩
def tNt (F : BF) : BF := fun δ => (F δ).bind fun b δ1 => .ok (!b) δ1
def tAn (F G : BF) : BF := fun δ => (F δ).bind fun b δ1 => if b then G δ1 else .ok false δ1
def tOr' (F G : BF) : BF := fun δ => (F δ).bind fun b δ1 => if b then .ok true δ1 else G δ1
variable {A B : BF} {rest : List Expr}
theorem dt_not (ha : DT tb W X a A) : DT tb W X (.UnaryOp .Not a pos) (tNt A) :=
  (pt_not ha).wk fun σ H Q ⟨δ, z, c, hE, w, h⟩ => go_B hE w h fun b δ1 H1 z1 c1 hE1 w1 s1 h1 => outB_here hE1 w1 h1
abbrev DW (tb : Nat → Addr) (W : WX) (X : Cx) (e : Expr) (F : BF) : Prop := PW X e (tT X.K tb W F)
theorem _root_.L2.PW.wk {t t' : TT} (h : PW X e t) (i : ∀ σ H Q, t' σ H Q → t σ H Q) : PW X e t' := ⟨fun wh pins s σ H Q I q => h.run wh pins s σ H Q I (i σ H Q q)⟩
theorem dw_and1 (ha : DT tb W X a A) : DW tb W X (.BoolOp .And [a] pos) A := pw_and1 ha
theorem dw_or1 (ha : DT tb W X a A) : DW tb W X (.BoolOp .Or [a] pos) A := pw_or1 ha
theorem dw_and (ha : DT tb W X a A) (hb : DW tb W X (.BoolOp .And (b :: rest) pos) B) : DW tb W X (.BoolOp .And (a :: b :: rest) pos) (tAn A B) :=
  (pw_and ha hb).wk fun σ H Q ⟨δ, z, c, hE, w, h⟩ => go_B hE w h fun b δ1 H1 z1 c1 hE1 w1 s1 h1 => by
    cases b with
    | true => rw [if_pos rfl]; exact ⟨δ1, z1, c1, hE1, w1, h1⟩
    | false => rw [if_neg Bool.false_ne_true]; exact outB_here hE1 w1 h1
theorem dw_or (ha : DT tb W X a A) (hb : DW tb W X (.BoolOp .Or (b :: rest) pos) B) : DW tb W X (.BoolOp .Or (a :: b :: rest) pos) (tOr' A B) :=
  (pw_or ha hb).wk fun σ H Q ⟨δ, z, c, hE, w, h⟩ => go_B hE w h fun b δ1 H1 z1 c1 hE1 w1 s1 h1 => by
    cases b with
    | true => rw [if_pos rfl]; exact outB_here hE1 w1 h1
    | false => rw [if_neg Bool.false_ne_true]; exact ⟨δ1, z1, c1, hE1, w1, h1⟩
theorem dw_t (h : DW tb W X e A) : DT tb W X e A := h.pt
/-- a test as a value -/
def eT (A : BF) : EF := fun δ => (A δ).bind fun b δ1 => .ok (.fz (.bool b)) δ1
def eIf (A : BF) (F G : EF) : EF := fun δ => (A δ).bind fun b δ1 => if b then F δ1 else G δ1
def eAn (F G : EF) : EF := fun δ => (F δ).p fun d δ1 => match d with
  | .bool true => G δ1
  | .bool false => .ok (.fz (.bool false)) δ1
  | _ => .bad
def eOr (F G : EF) : EF := fun δ => (F δ).p fun d δ1 => match d with
  | .bool true => .ok (.fz (.bool true)) δ1
  | .bool false => G δ1
  | _ => .bad
def eNt (F : EF) : EF := fun δ => (F δ).p fun d δ1 => match d with
  | .bool b => .ok (.fz (.bool (!b))) δ1
  | _ => .bad
variable {tc : Expr}
theorem de_if (hc : DT tb W X tc A) (ha : DE tb W X a F) (hb : DE tb W X b G) : DE tb W X (.IfExp tc a b pos) (eIf A F G) :=
  (pe_ifExp hc ha hb).wk fun σ H Q ⟨δ, z, c, hE, w, h⟩ => go_BE hE w h fun b δ1 H1 z1 c1 hE1 w1 s1 h1 => by
    cases b with
    | true => rw [if_pos rfl]; exact ⟨δ1, z1, c1, hE1, w1, h1⟩
    | false => rw [if_neg Bool.false_ne_true]; exact ⟨δ1, z1, c1, hE1, w1, h1⟩
theorem de_one {op} (ha : DE tb W X a F) : DE tb W X (.BoolOp op [a] pos) F := pe_one ha
theorem de_and (ha : DE tb W X a F) (hb : DE tb W X (.BoolOp .And (b :: rest) pos) G) : DE tb W X (.BoolOp .And (a :: b :: rest) pos) (eAn F G) :=
  (pe_and ha hb).wk fun σ H Q ⟨δ, z, c, hE, w, h⟩ => go_P hE w h fun d δ1 v H1 z1 c1 hE1 f1 w1 s1 h1 => by
    cases d with
    | bool k =>
      refine ⟨k, f1.bool_, ?_⟩
      cases k with
      | true => rw [if_pos rfl]; exact ⟨δ1, z1, c1, hE1, w1, h1⟩
      | false => rw [if_neg Bool.false_ne_true]; exact Out.const hE1 w1 (.bl false) h1
    | _ => exact h1.elim
theorem de_or (ha : DE tb W X a F) (hb : DE tb W X (.BoolOp .Or (b :: rest) pos) G) : DE tb W X (.BoolOp .Or (a :: b :: rest) pos) (eOr F G) :=
  (pe_or ha hb).wk fun σ H Q ⟨δ, z, c, hE, w, h⟩ => go_P hE w h fun d δ1 v H1 z1 c1 hE1 f1 w1 s1 h1 => by
    cases d with
    | bool k =>
      refine ⟨k, f1.bool_, ?_⟩
      cases k with
      | true => rw [if_pos rfl]; exact Out.const hE1 w1 (.bl true) h1
      | false => rw [if_neg Bool.false_ne_true]; exact ⟨δ1, z1, c1, hE1, w1, h1⟩
    | _ => exact h1.elim
theorem de_not (ha : DE tb W X a F) : DE tb W X (.UnaryOp .Not a pos) (eNt F) :=
  (pe_not ha).wk fun σ H Q ⟨δ, z, c, hE, w, h⟩ => go_P hE w h fun d δ1 v H1 z1 c1 hE1 f1 w1 s1 h1 => by
    cases d with
    | bool k => exact ⟨k, f1.bool_, Out.const hE1 w1 (.bl _) h1⟩
    | _ => exact h1.elim
/-- a < b < c -/
def eCh (g g' : PD → PD → Option M) (F G Hh : EF) : EF := fun δ => (F δ).p fun x δ1 => (G δ1).p fun y δ2 => match g x y with
  | some (.v (.fz (.bool true))) => (Hh δ2).p fun u δ3 => match g' y u with
    | some m => .ok m δ3
    | none => .bad
  | some (.v (.fz (.bool false))) => .ok (.fz (.bool false)) δ2
  | _ => .bad
variable {Hh : EF} {cc : Expr}
/-- a comparison's answer is a bool and makes nothing -/
def Cmp (g : PD → PD → Option M) : Prop := ∀ a b m, g a b = some m → ∃ k, m = .fz (.bool k)
theorem cmp_bool2 {ok f : PD → PD → Bool} : Cmp (gBool2 ok f) := fun a b m h => by
  unfold gBool2 at h
  split at h <;> cases h
  exact ⟨_, rfl⟩
theorem chain_of {g g' : PD → PD → Option M} (cg : Cmp g) {σ : St} {H : Hp} {Q : VK} (h : tD K tb W (eCh g g' F G Hh) σ H Q) :
    tChain (rP K tb g) (rP K tb g') (tD K tb W F) (tD K tb W G) (tD K tb W Hh) σ H Q := by
  obtain ⟨δ, z, c, hE, w, h⟩ := h
  refine go_P hE w h fun d δ1 v H1 z1 c1 hE1 f1 w1 s1 h1 => ?_
  refine go_P hE1 w1 h1 fun d2 δ2 v2 H2 z2 c2 hE2 f2 w2 s2 h2 => ?_
  cases e : g d d2 with
  | none => rw [e] at h2; exact h2.elim
  | some m =>
    rw [e] at h2
    obtain ⟨k, rfl⟩ := cg _ _ _ e
    refine ⟨z2, d, d2, _, w2.zt, s2.fz w1 f1, f2, e, fun x H3 nw => ?_⟩
    obtain ⟨z3, c3, cm, hE3, hR3, w3, s3⟩ := nw.aft hE2 w2
    have ex : x = .bl k := by
      cases hR3 with
      | v r => cases r with
        | fz r _ => exact r.bool_
    have s3' : Step H2 z2 c2 H3 z3 c3 := s3.mono fun a => Nat.le_add_right _ _
    have w3' : Wf H3 z3 c3 := w3.mono fun a => Nat.le_add_right _ _
    refine ⟨k, ex, ?_⟩
    cases k with
    | true =>
      rw [if_pos rfl]
      refine go_P hE3 w3' (Out.step s3' w3' h2) fun d4 δ4 v4 H4 z4 c4 hE4 f4 w4 s4 h4 => ?_
      cases e' : g' d2 d4 with
      | none => rw [e'] at h4; exact h4.elim
      | some m' =>
        rw [e'] at h4
        exact ⟨z4, d2, d4, m', w4.zt, s4.fz w3' (s3'.fz w2 f2), f4, e', fun v H' q => h4 v H' (q.aft hE4 w4)⟩
    | false =>
      rw [if_neg Bool.false_ne_true]
      rw [← ex]
      exact (Out.step s3' w3' h2) x H3 (NewM.aft hE3 w3' (NewM.at w3'.zt (ex ▸ .bl false)))
theorem de_chain {op op' : CmpOp} {g g' : PD → PD → Option M} (ho : OpR X (compareOp op) (rP X.K tb g)) (ho' : OpR X (compareOp op') (rP X.K tb g')) (cg : Cmp g) (ha : DE tb W X a F) (hb : DE tb W X b G) (hc : DE tb W X cc Hh)
    (hm : lastMarks [op, op'] [b, cc] = false := by with_unfolding_all rfl) : DE tb W X (.Compare a [op, op'] [b, cc] pos) (eCh g g' F G Hh) := (pe_chain ho ho' ha hb hc hm).wk fun _ _ _ => chain_of cg
theorem dt_chain {op op' : CmpOp} {g g' : PD → PD → Option M} (ho : OpR X (compareOp op) (rP X.K tb g)) (ho' : OpR X (compareOp op') (rP X.K tb g')) (cg : Cmp g) (ha : DE tb W X a F) (hb : DE tb W X b G) (hc : DE tb W X cc Hh)
    (hm : lastMarks [op, op'] [b, cc] = false := by with_unfolding_all rfl) : DT tb W X (.Compare a [op, op'] [b, cc] pos) (tE (eCh g g' F G Hh)) := (pt_chain ho ho' ha hb hc hm).wk fun _ _ _ h => chain_of cg (test_of h)
/-! ### arguments -/
/-- a value (frozen), or a name that is lent -/
inductive Arg where
  | val (m : M)
  | io (i : Nat)
inductive RpG (K : PySem.W.Frag) (tb : Nat → Addr) (H : Hp) (z : Zn) (σ : St) : List Arg → List V → Prop
  | nil : RpG K tb H z σ [] []
  | val {m : M} {v : V} {as : List Arg} {vs : List V} : Rp K tb H z m v zero → RpG K tb H z σ as vs → RpG K tb H z σ (.val m :: as) (v :: vs)
  | io {i : Nat} {v : V} {as : List Arg} {vs : List V} : σ[i]? = some (some v) → RpG K tb H z σ as vs → RpG K tb H z σ (.io i :: as) (v :: vs)
theorem RpG.mono (hz : ∀ a, z a → z' a) (hH : ∀ a, z a → H' a = H a) : ∀ {as : List Arg} {vs : List V}, RpG K tb H z σ as vs → RpG K tb H' z' σ as vs
  | _, _, .nil => .nil
  | _, _, .val h r => .val (h.mono hz hH fun _ q => absurd q (Nat.lt_irrefl _)) (RpG.mono hz hH r)
  | _, _, .io h r => .io h (RpG.mono hz hH r)
def pds : List Arg → Option (List PD)
  | [] => some []
  | .val (.v l) :: r => (pds r).map fun ds => l.pd :: ds
  | _ => none
theorem Rp.v0 {l : L} {v : V} (h : Rp K tb H z (.v l) v zero) : Fz K H z l.pd v := by
  cases h with
  | v r => exact r.freeze (fun _ q => q) fun _ q => absurd q (Nat.lt_irrefl _)
theorem RpG.pds : ∀ {as : List Arg} {vs : List V} {ds : List PD}, RpG K tb H z σ as vs → FS.pds as = some ds → FzA K H z ds vs
  | _, _, _, .nil, e => by cases e; exact .nil
  | _, _, _, .val (m := .v l) (as := as) h r, e => by
    cases q : FS.pds as with
    | none => simp [FS.pds, q] at e
    | some d2 =>
      simp only [FS.pds, q, Option.map_some, Option.some.injEq] at e
      subst e
      exact .cons h.v0 (RpG.pds r q)
  | _, _, _, .val (m := .o _ _ _) _ _, e => by cases e
  | _, _, _, .io _ _, e => by cases e
abbrev AF := Env' → R (List Arg)
def tA (K : PySem.W.Frag) (tb : Nat → Addr) (W : WX) (A : AF) : TA := fun σ H Q => ∃ δ z c, RpE K tb H z δ σ c ∧ Wf H z c ∧
  match A δ with
  | .ok as δ' => ∀ vs H' z' c', RpE K tb H' z' δ' σ c' → RpG K tb H' z' σ as vs → Wf H' z' c' → Step H z c H' z' c' → Q vs H'
  | .ex n δ' => ∀ H', Aft K tb H z c δ' σ H' → W (.ref (tb n)) none σ H'
  | .bad => False
abbrev DA (tb : Nat → Addr) (W : WX) (X : Cx) (es : List Expr) (A : AF) : Prop := PA X es (tA X.K tb W A)
theorem _root_.L2.PA.wk {t t' : TA} (h : PA X es t) (i : ∀ σ H Q, t' σ H Q → t σ H Q) : PA X es t' := ⟨fun p pins s σ H Q I q => h.run p pins s σ H Q I (i σ H Q q)⟩
def aN : AF := fun δ => .ok [] δ
def aV (F : EF) (A : AF) : AF := fun δ => (F δ).bind fun m δ1 => (A δ1).bind fun as δ2 => .ok (.val m.frz :: as) δ2
def aI (i : Nat) (A : AF) : AF := fun δ => (A δ).bind fun as δ2 => .ok (.io i :: as) δ2
theorem AftE.frzM {m : M} {v : V} (h : AftE K tb H z c δ' σ m v H') : ∃ z' c', RpE K tb H' z' δ' σ c' ∧ Rp K tb H' z' m.frz v zero ∧ Wf H' z' c' ∧ Step H z c H' z' c' := by
  obtain ⟨z1, c1, cm, hE, hR, hw, hs⟩ := h
  refine ⟨fun a => z1 a ∨ 0 < cm a, c1, hE.mono (fun _ => .inl) (fun _ _ => rfl) fun _ _ => rfl, hR.freeze (fun _ => .inl) fun _ => .inr, ⟨fun a q => ?_, fun a q => ?_, fun a => ?_, fun a q => ?_⟩, ⟨hs.keep, fun a q => .inl (hs.zin a q), fun a q => ?_, hs.dom⟩⟩
  · rcases q with q | q
    · exact hw.zt a q
    · exact mut_ne (hw.cm a (by show 0 < c1 a + cm a; omega))
  · rcases q with q | q
    · have q' : c1 a + cm a = 0 := hw.zc a q
      omega
    · have q' : c1 a + cm a ≤ 1 := hw.c1 a
      omega
  · have q' : c1 a + cm a ≤ 1 := hw.c1 a
    omega
  · exact hw.cm a (by show 0 < c1 a + cm a; omega)
  · refine hs.src a ?_
    show z1 a ∨ 0 < c1 a + cm a
    rcases q with (q | q) | q
    · exact .inl q
    · exact .inr (by omega)
    · exact .inr (by omega)
theorem da_nil : DA tb W X [] aN := pa_nil.wk fun σ H Q ⟨δ, z, c, hE, w, h⟩ => h [] H z c hE .nil w (Step.refl _ _ _)
theorem da_val {A : AF} (ha : DE tb W X e F) (hr : DA tb W X es A) (hs : starEach (e :: es) X.env = (false, eval e X.env) :: starEach es X.env := by rfl) : DA tb W X (e :: es) (aV F A) :=
  (pa_cons ha hr hs).wk fun σ H Q ⟨δ, z, c, hE, w, h⟩ => by
    refine ⟨δ, z, c, hE, w, ?_⟩
    cases e1 : F δ with
    | ok m δ1 =>
      intro v H1 af
      obtain ⟨z1, c1, hE1, f1, w1, s1⟩ := AftE.frzM af
      refine ⟨δ1, z1, c1, hE1, w1, ?_⟩
      cases e2 : A δ1 with
      | ok as δ2 =>
        intro vs H2 z2 c2 hE2 f2 w2 s2
        have h' : (aV F A) δ = .ok (.val m.frz :: as) δ2 := by unfold aV; rw [e1]; show (A δ1).bind _ = _; rw [e2]; rfl
        rw [h'] at h
        exact h (v :: vs) H2 z2 c2 hE2 (.val (f1.mono s2.zin (s2.on w1) fun _ q => absurd q (Nat.lt_irrefl _)) f2) w2 (s1.trans w1 s2)
      | ex n δ2 =>
        have h' : (aV F A) δ = .ex n δ2 := by unfold aV; rw [e1]; show (A δ1).bind _ = _; rw [e2]; rfl
        rw [h'] at h
        exact fun H' af' => h H' (af'.trans s1 w1)
      | bad =>
        have h' : (aV F A) δ = .bad := by unfold aV; rw [e1]; show (A δ1).bind _ = _; rw [e2]; rfl
        rw [h'] at h
        exact h
    | ex n δ1 =>
      have h' : (aV F A) δ = .ex n δ1 := by unfold aV; rw [e1]; rfl
      rw [h'] at h
      exact h
    | bad =>
      have h' : (aV F A) δ = .bad := by unfold aV; rw [e1]; rfl
      rw [h'] at h
      exact h
/-- a name that is lent: it must hold something -/
def aIo (i : Nat) (A : AF) : AF := fun δ => match δ[i]? with
  | some (some _) => (A δ).bind fun as δ2 => .ok (.io i :: as) δ2
  | _ => .bad
theorem da_io {A : AF} {i : Nat} (ha : PE X e (tVar i)) (hr : DA tb W X es A) (hs : starEach (e :: es) X.env = (false, eval e X.env) :: starEach es X.env := by rfl) : DA tb W X (e :: es) (aIo i A) :=
  (pa_cons ha hr hs).wk fun σ H Q ⟨δ, z, c, hE, w, h⟩ => by
    unfold aIo at h
    cases q : δ[i]? with
    | none => rw [q] at h; exact h.elim
    | some o =>
      rw [q] at h
      cases o with
      | none => exact h.elim
      | some m =>
        obtain ⟨v, c1, c2, e1, _⟩ := hE.get q
        refine ⟨v, e1, δ, z, c, hE, w, ?_⟩
        dsimp only at h
        cases e2 : A δ with
        | ok as δ2 =>
          rw [e2] at h
          exact fun vs H2 z2 c2 hE2 f2 w2 s2 => h (v :: vs) H2 z2 c2 hE2 (.io e1 f2) w2 s2
        | ex n δ2 => rw [e2] at h; exact h
        | bad => rw [e2] at h; exact h
/-! ### displays, calls of what is built in -/
def eDs (g : List PD → Option M) (A : AF) : EF := fun δ => (A δ).bind fun as δ1 => match pds as with
  | some ds => match g ds with
    | some m => .ok m δ1
    | none => .bad
  | none => .bad
theorem go_A {A : AF} {g : List PD → Option M} {Q : VK} {Q1 : List V → Hp → Prop} (hE : RpE K tb H z δ σ c) (w : Wf H z c) (h : Out K tb W H z c σ (eDs g A δ) Q)
    (k : ∀ ds m vs H1 z1, (∀ a, z1 a → H1 a ≠ none) → FzA K H1 z1 ds vs → g ds = some m → (∀ v H', NewM K tb H1 z1 m v H' → Q v H') → Q1 vs H1) : tA K tb W A σ H Q1 := by
  refine ⟨δ, z, c, hE, w, ?_⟩
  unfold eDs at h
  cases e : A δ with
  | ok as δ1 =>
    rw [e] at h
    intro vs H1 z1 c1 hE1 f1 w1 s1
    have h : Out K tb W H z c σ (match pds as with
      | some ds => match g ds with
        | some m => .ok m δ1
        | none => .bad
      | none => .bad) Q := h
    cases e2 : pds as with
    | none => rw [e2] at h; exact h.elim
    | some ds =>
      rw [e2] at h
      dsimp only at h
      cases e3 : g ds with
      | none => rw [e3] at h; exact h.elim
      | some m =>
        rw [e3] at h
        exact k ds m vs H1 z1 w1.zt (f1.pds e2) e3 fun v H' q => (Out.step s1 w1 h) v H' (q.aft hE1 w1)
  | ex n δ1 => rw [e] at h; exact h
  | bad => rw [e] at h; exact h
def gLst (ds : List PD) : Option M := if ds.length ≤ big then some (.lst (ds.map .fz)) else none
def gTup (ds : List PD) : Option M := if ds.length ≤ big then some (.fz (.tuple ds)) else none
theorem de_list {A : AF} (h : DA tb W X es A) : DE tb W X (.List es pos) (eDs gLst A) := (pe_lst h).wk fun σ H Q ⟨δ, z, c, hE, w, h⟩ => go_A hE w h fun ds m vs H1 z1 hz f g q => by
  unfold gLst at g
  split at g <;> cases g
  rename_i hl
  exact ⟨by rw [← f.len, big_eq]; exact hl, fun p hp => q _ _ (NewM.lst hz hp f)⟩
theorem de_tup {x1} {A : AF} (h : DA tb W X es A) : DE tb W X (.Tuple es x1 pos) (eDs gTup A) := (pe_tup h).wk fun σ H Q ⟨δ, z, c, hE, w, h⟩ => go_A hE w h fun ds m vs H1 z1 hz f g q => by
  unfold gTup at g
  split at g <;> cases g
  rename_i hl
  exact ⟨by rw [← f.len, big_eq]; exact hl, fun p hp => q _ _ (NewM.tup hz hp f)⟩
variable {x : Str} {p : Pos} {id T : String}
theorem de_callB {A : AF} {g : List PD → Option M} (hc : CallR X (.builtin id) (rC X.K tb g)) (hg : Gl X x) (hm : X.mg x = none) (hv : bootBuiltins x = some (.builtin id)) (ha : DA tb W X (e :: es) A) (hn : x ≠ "__name__" := by decide) (hdb : (x == ("__debug__" : Str)) = false := by decide)
    (he : starEach (e :: es) X.env = (false, eval e X.env) :: starEach es X.env := by rfl) (hpl : (backTo pos (starEach es X.env)).any (·.1) = false := by rfl) : DE tb W X (.Call (.Name x p) (e :: es) [] pos) (eDs g A) :=
  (pe_callB hc hg hm hv ha hn hdb he hpl).wk fun σ H Q ⟨δ, z, c, hE, w, h⟩ => go_A hE w h fun ds m vs H1 z1 hz f g q => ⟨z1, ds, m, hz, f, g, q⟩
theorem de_callTy {A : AF} {g : List PD → Option M} (hc : CallR X (.type T) (rC X.K tb g)) (hg : Gl X x) (hm : X.mg x = none) (hv : bootBuiltins x = some (.type T)) (ha : DA tb W X (e :: es) A) (hn : x ≠ "__name__" := by decide) (hdb : (x == ("__debug__" : Str)) = false := by decide)
    (he : starEach (e :: es) X.env = (false, eval e X.env) :: starEach es X.env := by rfl) (hpl : (backTo pos (starEach es X.env)).any (·.1) = false := by rfl) : DE tb W X (.Call (.Name x p) (e :: es) [] pos) (eDs g A) :=
  (pe_callTy hc hg hm hv ha hn hdb he hpl).wk fun σ H Q ⟨δ, z, c, hE, w, h⟩ => go_A hE w h fun ds m vs H1 z1 hz f g q => ⟨z1, ds, m, hz, f, g, q⟩
def gLen : List PD → Option M
  | [.list ds] => some (.fz (.int ds.length))
  | [.tuple ds] => some (.fz (.int ds.length))
  | [.str s] => if s.length ≤ big then some (.fz (.int s.length)) else none
  | _ => none
theorem FzA.one {d : PD} {vs : List V} (f : FzA K H z [d] vs) : ∃ v, vs = [v] ∧ Fz K H z d v := by
  cases f with
  | cons h r => cases r; exact ⟨_, rfl, h⟩
theorem FzA.two {d d2 : PD} {vs : List V} (f : FzA K H z [d, d2] vs) : ∃ v v2, vs = [v, v2] ∧ Fz K H z d v ∧ Fz K H z d2 v2 := by
  cases f with
  | cons h r =>
    obtain ⟨v2, rfl, h2⟩ := FzA.one r
    exact ⟨_, _, rfl, h, h2⟩
theorem cr_gLen : CallR X (.builtin "len") (rC X.K tb gLen) := fun pins s σ H xs us Q I r ⟨z, ds, m, hz, f, g, q⟩ => by
  unfold gLen at g
  split at g
  · cases g
    obtain ⟨v, rfl, f1⟩ := f.one
    obtain ⟨a, vs, rfl, hH, f2⟩ := f1.list
    exact call_len_seq pins s σ H _ us Q I r ⟨a, vs, rfl, .inl (sqL_of hH), by rw [← f2.len]; exact q _ _ (new_int hz)⟩
  · cases g
    obtain ⟨v, rfl, f1⟩ := f.one
    obtain ⟨a, vs, rfl, hH, f2⟩ := f1.tuple
    exact call_len_seq pins s σ H _ us Q I r ⟨a, vs, rfl, .inr (sqT_of hH), by rw [← f2.len]; exact q _ _ (new_int hz)⟩
  · split at g <;> cases g
    rename_i hl
    obtain ⟨v, rfl, f1⟩ := f.one
    rw [f1.str_] at r
    exact call_len_str pins s σ H _ us Q I r ⟨_, rfl, by rw [big_eq]; exact hl, q _ _ (new_int hz)⟩
  · cases g
end
end FS
namespace FS
open PySem PySem.Spec L2
inductive SR where
  | nx (δ : Env')
  | rt (m : M) (δ : Env')
  | bk (δ : Env')
  | ct (δ : Env')
  | ex (n : Nat) (δ : Env')
  | bad
abbrev SF := Env' → SR
def R.s {α : Type} (r : R α) (f : α → Env' → SR) : SR :=
  match r with
  | .ok a δ => f a δ
  | .ex n δ => .ex n δ
  | .bad => .bad
def pinOk (pin : List (Nat × V)) (σ : St) : Prop := ∀ p ∈ pin, σ[p.1]? = some (some p.2)
section
variable (K : PySem.W.Frag) (tb : Nat → Addr) (pin : List (Nat × V)) (W : WX)
def AftS (H : Hp) (z : Zn) (c : Ct) (δ' : Env') (σ' : St) (H' : Hp) : Prop := pinOk pin σ' ∧ Aft K tb H z c δ' σ' H'
def AftR (H : Hp) (z : Zn) (c : Ct) (δ' : Env') (m : M) (v : V) (σ' : St) (H' : Hp) : Prop := pinOk pin σ' ∧ AftE K tb H z c δ' σ' m v H'
def OutS (H : Hp) (z : Zn) (c : Ct) (r : SR) (D : Ends) : Prop :=
  match r with
  | .nx δ' => ∀ σ' H', AftS K tb pin H z c δ' σ' H' → D.nx σ' H'
  | .rt m δ' => ∀ v σ' H', AftR K tb pin H z c δ' m v σ' H' → D.rt v H'
  | .bk δ' => ∀ σ' H', AftS K tb pin H z c δ' σ' H' → D.bk σ' H'
  | .ct δ' => ∀ σ' H', AftS K tb pin H z c δ' σ' H' → D.ct σ' H'
  | .ex n δ' => ∀ σ' H', AftS K tb pin H z c δ' σ' H' → W (.ref (tb n)) none σ' H'
  | .bad => False
def tS (S : SF) : TS := fun D σ H => pinOk pin σ ∧ ∃ δ z c, RpE K tb H z δ σ c ∧ Wf H z c ∧ OutS K tb pin W H z c (S δ) D
end
section
variable {K : PySem.W.Frag} {tb : Nat → Addr} {pin : List (Nat × V)} {W : WX} {H H' H1 : Hp} {z z' z1 : Zn} {c c' c1 : Ct} {σ σ1 : St} {δ δ' : Env'} {X : Cx} {D : Ends}
variable {a b e : Expr} {F G : EF} {pos : Pos} {es : List Expr} {st : Stmt} {rest body : List Stmt} {S T U : SF} {A : BF}
abbrev DS (tb : Nat → Addr) (pin : List (Nat × V)) (W : WX) (X : Cx) (st : Stmt) (S : SF) : Prop := PS X st (tS X.K tb pin W S)
abbrev DB (tb : Nat → Addr) (pin : List (Nat × V)) (W : WX) (X : Cx) (st : List Stmt) (S : SF) : Prop := PSs X st (tS X.K tb pin W S)
theorem _root_.L2.PSs.wk {st : List Stmt} {t t' : TS} (h : PSs X st t) (i : ∀ D σ H, t' D σ H → t D σ H) : PSs X st t' := ⟨fun pins s σ H D I q => h.run pins s σ H D I (i D σ H q)⟩
theorem OutS.step {r : SR} (s : Step H z c H1 z1 c1) (w : Wf H1 z1 c1) (h : OutS K tb pin W H z c r D) : OutS K tb pin W H1 z1 c1 r D := by
  cases r with
  | nx δ' => exact fun σ' H' a => h σ' H' ⟨a.1, a.2.trans s w⟩
  | rt m δ' => exact fun v σ' H' a => h v σ' H' ⟨a.1, a.2.trans s w⟩
  | bk δ' => exact fun σ' H' a => h σ' H' ⟨a.1, a.2.trans s w⟩
  | ct δ' => exact fun σ' H' a => h σ' H' ⟨a.1, a.2.trans s w⟩
  | ex n δ' => exact fun σ' H' a => h σ' H' ⟨a.1, a.2.trans s w⟩
  | bad => exact h
/-- an expression in a statement -/
theorem go_S {f : M → Env' → SR} {Q1 : VK} (hp : pinOk pin σ) (hE : RpE K tb H z δ σ c) (w : Wf H z c) (h : OutS K tb pin W H z c ((F δ).s f) D)
    (k : ∀ m δ1 v H1 z1 c1 cm, RpE K tb H1 z1 δ1 σ c1 → Rp K tb H1 z1 m v cm → Wf H1 z1 (fun a => c1 a + cm a) → Step H z c H1 z1 (fun a => c1 a + cm a) → OutS K tb pin W H1 z1 (fun a => c1 a + cm a) (f m δ1) D → Q1 v H1) : tD K tb W F σ H Q1 := by
  refine ⟨δ, z, c, hE, w, ?_⟩
  cases e : F δ with
  | ok m δ1 =>
    rw [e] at h
    intro v H' ⟨z1, c1, cm, h1, h2, h3, h4⟩
    exact k m δ1 v H' z1 c1 cm h1 h2 h3 h4 (OutS.step h4 h3 h)
  | ex n δ1 => rw [e] at h; exact fun H' a => h σ H' ⟨hp, a⟩
  | bad => rw [e] at h; exact h.elim
theorem go_SB {f : Bool → Env' → SR} {Q1 : Bool → Hp → Prop} (hp : pinOk pin σ) (hE : RpE K tb H z δ σ c) (w : Wf H z c) (h : OutS K tb pin W H z c ((A δ).s f) D)
    (k : ∀ b δ1 H1 z1 c1, RpE K tb H1 z1 δ1 σ c1 → Wf H1 z1 c1 → Step H z c H1 z1 c1 → OutS K tb pin W H1 z1 c1 (f b δ1) D → Q1 b H1) : tT K tb W A σ H Q1 := by
  refine ⟨δ, z, c, hE, w, ?_⟩
  cases e : A δ with
  | ok b δ1 =>
    rw [e] at h
    intro H' ⟨z1, c1, h1, h3, h4⟩
    exact k b δ1 H' z1 c1 h1 h3 h4 (OutS.step h4 h3 h)
  | ex n δ1 => rw [e] at h; exact fun H' a => h σ H' ⟨hp, a⟩
  | bad => rw [e] at h; exact h.elim
/-! ### blocks -/
def sNl : SF := fun δ => .nx δ
def sSq (S T : SF) : SF := fun δ => match S δ with
  | .nx δ1 => T δ1
  | r => r
theorem seq_of (h : tS K tb pin W (sSq S T) D σ H) : tSeq (tS K tb pin W S) (tS K tb pin W T) D σ H := by
  obtain ⟨hp, δ, z, c, hE, w, h⟩ := h
  refine ⟨hp, δ, z, c, hE, w, ?_⟩
  unfold sSq at h
  cases e : S δ with
  | nx δ1 =>
    rw [e] at h
    intro σ' H' ⟨hp', z1, c1, hE1, w1, s1⟩
    exact ⟨hp', δ1, z1, c1, hE1, w1, OutS.step s1 w1 h⟩
  | rt m δ1 => rw [e] at h; exact h
  | bk δ1 => rw [e] at h; exact h
  | ct δ1 => rw [e] at h; exact h
  | ex n δ1 => rw [e] at h; exact h
  | bad => rw [e] at h; exact h
theorem db_nil : DB tb pin W X [] sNl := pss_nil.wk fun D σ H ⟨hp, δ, z, c, hE, w, h⟩ => h σ H ⟨hp, z, c, hE, w, Step.refl _ _ _⟩
theorem db_one (h : DS tb pin W X st S) : DB tb pin W X [st] S := pss_one h
theorem db_cons (h : DS tb pin W X st S) (r : DB tb pin W X rest T) : DB tb pin W X (st :: rest) (sSq S T) := (pss_cons h r).wk fun _ _ _ => seq_of
theorem ds_pass : DS tb pin W X (.Pass pos) sNl := ps_pass.wk fun D σ H ⟨hp, δ, z, c, hE, w, h⟩ => h σ H ⟨hp, z, c, hE, w, Step.refl _ _ _⟩
def sBk : SF := fun δ => .bk δ
def sCt : SF := fun δ => .ct δ
theorem ds_break : DS tb pin W X (.Break pos) sBk := ps_break.wk fun D σ H ⟨hp, δ, z, c, hE, w, h⟩ => h σ H ⟨hp, z, c, hE, w, Step.refl _ _ _⟩
theorem ds_cont : DS tb pin W X (.Continue pos) sCt := ps_continue.wk fun D σ H ⟨hp, δ, z, c, hE, w, h⟩ => h σ H ⟨hp, z, c, hE, w, Step.refl _ _ _⟩
def sEx (F : EF) : SF := fun δ => (F δ).s fun _ δ1 => .nx δ1
theorem ds_expr (he : DE tb W X e F) (hs : swapsWith e none pos.line X.env = pure false := by rfl) : DS tb pin W X (.Expr e pos) (sEx F) :=
  (ps_expr he hs).wk fun D σ H ⟨hp, δ, z, c, hE, w, h⟩ => go_S hp hE w h fun m δ1 v H1 z1 c1 cm hE1 r1 w1 s1 h1 => h1 σ H1 ⟨hp, z1, c1, hE1, w1.mono fun _ => Nat.le_add_right _ _, (Step.refl _ _ _).mono fun _ => Nat.le_add_right _ _⟩
def sRt (F : EF) : SF := fun δ => (F δ).s fun m δ1 => .rt m δ1
theorem ds_ret (he : DE tb W X e F) : DS tb pin W X (.Return (some e) pos) (sRt F) :=
  (ps_ret he).wk fun D σ H ⟨hp, δ, z, c, hE, w, h⟩ => go_S hp hE w h fun m δ1 v H1 z1 c1 cm hE1 r1 w1 s1 h1 => h1 v σ H1 ⟨hp, z1, c1, cm, hE1, r1, w1, Step.refl _ _ _⟩
def sRn : SF := fun δ => .rt (.fz .none) δ
theorem ds_retN : DS tb pin W X (.Return none pos) sRn := ps_retN.wk fun D σ H ⟨hp, δ, z, c, hE, w, h⟩ => h .non σ H ⟨hp, NewM.aft hE w (NewM.at w.zt .non)⟩
def sIf (A : BF) (S T : SF) : SF := fun δ => (A δ).s fun b δ1 => if b then S δ1 else T δ1
theorem ds_if {x y : List Stmt} (hc : DT tb W X e A) (ha : DB tb pin W X x S) (hb : DB tb pin W X y T) : DS tb pin W X (.If e x y pos) (sIf A S T) :=
  (ps_if hc ha hb).wk fun D σ H ⟨hp, δ, z, c, hE, w, h⟩ => go_SB hp hE w h fun b δ1 H1 z1 c1 hE1 w1 s1 h1 => by
    cases b with
    | true => rw [if_pos rfl]; exact ⟨hp, δ1, z1, c1, hE1, w1, h1⟩
    | false => rw [if_neg Bool.false_ne_true]; exact ⟨hp, δ1, z1, c1, hE1, w1, h1⟩
/-! ### names stored -/
theorem pin_set {i : Nat} {x : Option V} (h : pinOk pin σ) (hi : (pin.all fun p => decide (p.1 ≠ i)) = true) : pinOk pin (σ.set i x) := fun p hp => by
  have q := of_decide_eq_true (List.all_eq_true.mp hi p hp)
  rw [List.getElem?_set_ne (Ne.symm q)]
  exact h p hp
theorem aft_set {i : Nat} {m : M} {v : V} {cm : Ct} (hE : RpE K tb H z δ σ c) (hl : i < δ.length) (r : Rp K tb H z m v cm) : ∃ c', RpE K tb H z (δ.set i (some m)) (σ.set i (some v)) c' ∧ ∀ a, c' a ≤ c a + cm a := by
  obtain ⟨c2, h1, h2⟩ := hE.drop i
  exact ⟨_, RpE.store h2 hl r, fun a => by have := h1 a; show cm a + c2 a ≤ _; omega⟩
def sAs (i : Nat) (F : EF) : SF := fun δ => (F δ).s fun m δ1 => if i < δ1.length then .nx (δ1.set i (some m)) else .bad
theorem asg_of {i : Nat} (hi : (pin.all fun p => decide (p.1 ≠ i)) = true) (h : tS K tb pin W (sAs i F) D σ H) : tAsg (tD K tb W F) (gName i) D σ H := by
  obtain ⟨hp, δ, z, c, hE, w, h⟩ := h
  refine go_S hp hE w h fun m δ1 v H1 z1 c1 cm hE1 r1 w1 s1 h1 => ?_
  split at h1
  · rename_i hl
    obtain ⟨c', h2, h3⟩ := aft_set hE1 hl r1
    exact h1 _ H1 ⟨pin_set hp hi, z1, c', h2, w1.mono h3, (Step.refl _ _ _).mono h3⟩
  · exact h1.elim
theorem ds_set {i : Nat} {x : Str} {pos' : Pos} (hN : X.N.Nodup) (hi : X.N[i]? = some x) (hx : Loc X.env.scope x) (hpn : (pin.all fun p => decide (p.1 ≠ i)) = true) (he : DE tb W X e F) (hs : swapsWith e (some (.Name x pos')) pos.line X.env = pure false := by rfl) (hf : X.fn x = true ∨ X.env.scope.names.lookup x = some .local := by first | exact .inl rfl | exact .inr rfl | assumption) :
    DS tb pin W X (.Assign [.Name x pos'] e pos) (sAs i F) := (ps_set hN hi hx he hs hf).wk fun D σ H => asg_of hpn
/-- targets -/
def tGd (K : PySem.W.Frag) (tb : Nat → Addr) (pin : List (Nat × V)) (is : List Nat) (G : PD → Env' → Option Env') : TG := fun v σ H Q =>
  ∃ δ z c d δ', RpE K tb H z δ σ c ∧ Wf H z c ∧ Fz K H z d v ∧ G d δ = some δ' ∧ ∀ σ' c', RpE K tb H z δ' σ' c' → (∀ a, c' a ≤ c a) → (pinOk pin σ → pinOk pin σ') → (∀ vs, (∀ i ∈ is, i ∈ vs) → wipe σ' vs = wipe σ vs) → Q σ' H
abbrev DG (tb : Nat → Addr) (pin : List (Nat × V)) (X : Cx) (tg : Expr) (is : List Nat) (G : PD → Env' → Option Env') : Prop := PG X tg (tGd X.K tb pin is G)
theorem wipe_set {i : Nat} {x : Option V} : ∀ {vs : List Nat} {σ : St}, i ∈ vs → wipe (σ.set i x) vs = wipe σ vs
  | v :: vs, σ, h => by
    unfold wipe
    by_cases hv : i ∈ vs
    · rw [wipe_set hv]
    · have e : i = v := (List.mem_cons.mp h).resolve_right hv
      subst e
      have go : ∀ {vs : List Nat}, i ∉ vs → wipe (σ.set i x) vs = (wipe σ vs).set i x := by
        intro vs
        induction vs with
        | nil => intro _; rfl
        | cons w vs ih =>
          intro hn
          unfold wipe
          rw [ih fun q => hn (List.mem_cons_of_mem _ q), List.set_comm]
          rintro rfl
          exact hn List.mem_cons_self
      rw [go hv, List.set_set]
theorem _root_.L2.PG.wk {tg : Expr} {t t' : TG} (h : PG X tg t) (i : ∀ v σ H Q, t' v σ H Q → t v σ H Q) : PG X tg t' := ⟨fun pins s σ H v u Q I r q => h.run pins s σ H v u Q I r (i v σ H Q q)⟩
def gN (i : Nat) : PD → Env' → Option Env' := fun d δ => if i < δ.length then some (δ.set i (some (.fz d))) else none
theorem dg_name {i : Nat} {x : Str} (hN : X.N.Nodup) (hi : X.N[i]? = some x) (hx : Loc X.env.scope x) (hpn : (pin.all fun p => decide (p.1 ≠ i)) = true) (hf : X.fn x = true ∨ X.env.scope.names.lookup x = some .local := by first | exact .inl rfl | exact .inr rfl | assumption) : DG tb pin X (.Name x pos) [i] (gN i) :=
  (pg_name hN hi hx hf).wk fun v σ H Q ⟨δ, z, c, d, δ', hE, w, f, g, q⟩ => by
    unfold gN at g
    split at g <;> cases g
    rename_i hl
    obtain ⟨c', h2, h3⟩ := aft_set hE hl (.v (.fz f fun _ => rfl : RpL _ _ _ (.fz d) v zero) : Rp _ tb _ _ _ _ _)
    exact q _ c' h2 (fun a => by have := h3 a; exact this) (fun h => pin_set h hpn) fun vs hv => wipe_set (hv i List.mem_cons_self)
/-- several names -/
def setAll : List Nat → List PD → Env' → Option Env'
  | [], [], δ => some δ
  | i :: is, d :: ds, δ => if i < δ.length then setAll is ds (δ.set i (some (.fz d))) else none
  | _, _, _ => none
def gNs : List Nat → TGs
  | [] => gNil
  | i :: is => gCons (gName i) (gNs is)
def gUp (is : List Nat) : PD → Env' → Option Env' := fun d δ => match d with
  | .tuple ds => setAll is ds δ
  | .list ds => setAll is ds δ
  | _ => none
theorem setAll_len : ∀ {is : List Nat} {ds : List PD} {δ δ' : Env'}, setAll is ds δ = some δ' → ds.length = is.length
  | [], [], _, _, _ => rfl
  | i :: is, d :: ds, δ, δ', h => by
    unfold setAll at h
    split at h
    · simp [setAll_len h]
    · cases h
  | [], _ :: _, _, _, h => by cases h
  | _ :: _, [], _, _, h => by cases h
theorem setAll_of : ∀ {is : List Nat} {ds : List PD} {δ δ' : Env'} {σ : St} {c : Ct} {vs : List V} {Q : St → Hp → Prop}, setAll is ds δ = some δ' → FzA K H z ds vs → RpE K tb H z δ σ c → Wf H z c → (is.all fun i => pin.all fun p => decide (p.1 ≠ i)) = true →
    (∀ σ' c', RpE K tb H z δ' σ' c' → (∀ a, c' a ≤ c a) → (pinOk pin σ → pinOk pin σ') → (∀ vs, (∀ i ∈ is, i ∈ vs) → wipe σ' vs = wipe σ vs) → Q σ' H) → gNs is vs σ H Q
  | [], [], _, _, _, c, _, Q, h, f, hE, _, _, q => by
    cases h
    cases f
    exact ⟨rfl, q _ c hE (fun _ => Nat.le_refl _) id fun _ _ => rfl⟩
  | i :: is, d :: ds, δ, δ', σ, c, _, Q, h, f, hE, w, hp, q => by
    unfold setAll at h
    split at h
    · rename_i hl
      cases f with
      | cons f1 f2 =>
        have hp' := Bool.and_eq_true_iff.mp (show ((pin.all fun p => decide (p.1 ≠ i)) && is.all fun i => pin.all fun p => decide (p.1 ≠ i)) = true from hp)
        obtain ⟨c1, h2, h3⟩ := aft_set hE hl (.v (.fz f1 fun _ => rfl : RpL _ _ _ (.fz d) _ zero) : Rp _ tb _ _ _ _ _)
        have h3' : ∀ a, c1 a ≤ c a := fun a => h3 a
        exact ⟨_, _, rfl, setAll_of h f2 h2 (w.mono h3') hp'.2 fun σ' c' a1 a2 a3 a4 => q σ' c' a1 (fun a => Nat.le_trans (a2 a) (h3' a)) (fun hh => a3 (pin_set hh hp'.1)) fun vs hv => (a4 vs fun j hj => hv j (List.mem_cons_of_mem _ hj)).trans (wipe_set (hv i List.mem_cons_self))⟩
    · cases h
  | [], _ :: _, _, _, _, _, _, _, h, _, _, _, _, _ => by cases h
  | _ :: _, [], _, _, _, _, _, _, h, _, _, _, _, _ => by cases h
theorem dg_tup {is : List Nat} {k : Nat} {n : Nat} (hc : X.calm = true) (h : PGs X es (gNs is)) (hpn : (is.all fun i => pin.all fun p => decide (p.1 ≠ i)) = true)
    (hn : (assignEach es X.env).length = is.length := by rfl) (hst : (assignEach es X.env).findIdx? (·.1) = none := by rfl) : DG tb pin X (.Tuple es k pos) is (gUp is) := by
  refine ⟨fun pins s σ H v u Q I r ⟨δ, z, c, d, δ', hE, w, f, g, q⟩ => ?_⟩
  unfold gUp at g
  split at g
  · obtain ⟨a, vs, rfl, hH, f2⟩ := f.tuple
    exact (pg_tup hc h hn hst).run pins s σ H _ u Q I r ⟨a, vs, rfl, sqT_of hH, by rw [← f2.len]; exact setAll_len g, setAll_of g f2 hE w hpn q⟩
  · obtain ⟨a, vs, rfl, hH, f2⟩ := f.list
    exact (pg_lst hc h hn hst).run pins s σ H _ u Q I r ⟨a, vs, rfl, sqL_of hH, by rw [← f2.len]; exact setAll_len g, setAll_of g f2 hE w hpn q⟩
  · cases g
/-- target = e, by the target's rule (the value is frozen) -/
def sAg (G : PD → Env' → Option Env') (F : EF) : SF := fun δ => match F δ with
  | .ok (.v l) δ1 => (match G l.pd δ1 with
    | some δ2 => .nx δ2
    | none => .bad)
  | .ok _ _ => .bad
  | .ex n δ1 => .ex n δ1
  | .bad => .bad
theorem ds_asg {tg : Expr} {is : List Nat} {G : PD → Env' → Option Env'} (he : DE tb W X e F) (hg : DG tb pin X tg is G) (hs : swapsWithSole [tg] e pos.line X.env = pure false := by rfl) (hw : swappedStores [tg] e X.env = pure none := by rfl)
    (h1 : (assignEach [tg] X.env).map (·.2) = [assign tg X.env] := by rfl) : DS tb pin W X (.Assign [tg] e pos) (sAg G F) :=
  (ps_asg he hg hs hw h1).wk fun D σ H ⟨hp, δ, z, c, hE, w, h⟩ => by
    refine ⟨δ, z, c, hE, w, ?_⟩
    unfold sAg at h
    cases e1 : F δ with
    | ok m δ1 =>
      rw [e1] at h
      cases m with
      | v l =>
        intro v H1 a
        obtain ⟨z1, c1, hE1, f1, w1, s1⟩ := AftE.toP a
        dsimp only at h
        cases e2 : G l.pd δ1 with
        | none => rw [e2] at h; exact h.elim
        | some δ2 =>
          rw [e2] at h
          exact ⟨δ1, z1, c1, l.pd, δ2, hE1, w1, f1, e2, fun σ' c' h3 h4 h5 _ => h σ' H1 ⟨h5 hp, z1, c', h3, w1.mono h4, s1.mono h4⟩⟩
      | o _ _ _ => exact h.elim
    | ex n δ1 => rw [e1] at h; exact fun H' a => h σ H' ⟨hp, a⟩
    | bad => rw [e1] at h; exact h.elim
/-! ### what is walked -/
def ItS (K : PySem.W.Frag) (J : It) (H : Hp) (z : Zn) (ds : List PD) : Prop :=
  ∃ vs, FzA K H z ds vs ∧ ∀ H', (∀ a, z a → H' a = H a) → (∀ i v, vs[i]? = some v → J.go i H') ∧ (∀ i v x H'', vs[i]? = some v → J.yld i H' x H'' → H'' = H' ∧ x = v) ∧ ∀ i, vs.length ≤ i → J.stop i H'
abbrev IF := Env' → R (List PD)
def tI (K : PySem.W.Frag) (tb : Nat → Addr) (W : WX) (F : IF) : TI := fun σ H Rr => ∃ δ z c, RpE K tb H z δ σ c ∧ Wf H z c ∧
  match F δ with
  | .ok ds δ' => ∀ J H' z' c', RpE K tb H' z' δ' σ c' → Wf H' z' c' → Step H z c H' z' c' → ItS K J H' z' ds → Rr J H'
  | .ex n δ' => ∀ H', Aft K tb H z c δ' σ H' → W (.ref (tb n)) none σ H'
  | .bad => False
abbrev DI (tb : Nat → Addr) (W : WX) (X : Cx) (tg e : Expr) (F : IF) : Prop := PI X tg e (tI X.K tb W F)
theorem _root_.L2.PI.wk {tg : Expr} {t t' : TI} (h : PI X tg e t) (i : ∀ σ H Q, t' σ H Q → t σ H Q) : PI X tg e t' := ⟨fun pins s σ H Q I q => h.run pins s σ H Q I (i σ H Q q)⟩
theorem its_list {a : Addr} {vs : List V} {ds : List PD} (h : (z a ∧ Rd H a (.lst vs)) ∨ KcL K a vs) (f : FzA K H z ds vs) : ItS K (Itl K a) H z ds := by
  refine ⟨vs, f, fun H' hz => ?_⟩
  have hs : SqL K H' a vs := sqL_of (z := z) (h.imp (fun q => ⟨q.1, Rd.eq q.2 (hz _ q.1)⟩) id)
  exact ⟨fun i v e => ⟨vs, v, hs, e⟩, fun i v x H'' e ⟨y1, y2⟩ => ⟨y1, Option.some.inj ((y2 vs hs).symm.trans e)⟩, fun i hi => ⟨vs, hs, hi⟩⟩
theorem its_tup {a : Addr} {vs : List V} {ds : List PD} (h : (z a ∧ Rd H a (.tup vs)) ∨ KcT K a vs) (f : FzA K H z ds vs) : ItS K (Itt K a) H z ds := by
  refine ⟨vs, f, fun H' hz => ?_⟩
  have hs : SqT K H' a vs := sqT_of (z := z) (h.imp (fun q => ⟨q.1, Rd.eq q.2 (hz _ q.1)⟩) id)
  exact ⟨fun i v e => ⟨vs, v, hs, e⟩, fun i v x H'' e ⟨y1, y2⟩ => ⟨y1, Option.some.inj ((y2 vs hs).symm.trans e)⟩, fun i hi => ⟨vs, hs, hi⟩⟩
theorem FzA.intsV : ∀ ns : List Int, FzA K H z (ns.map .int) (ns.map V.int)
  | [] => .nil
  | n :: ns => .cons (.int n) (FzA.intsV ns)
theorem FzA.strsV : ∀ ns : List Str, FzA K H z (ns.map .str) (ns.map V.str)
  | [] => .nil
  | n :: ns => .cons (.str n) (FzA.strsV ns)
def rangeD (lo : Int) (n : Nat) : List PD := (List.range n).map fun i => .int (lo + (i : Nat))
theorem its_range {lo : Int} {n : Nat} : ItS K (Itr lo n) H z (rangeD lo n) := by
  refine ⟨(List.range n).map fun i => V.int (lo + (i : Nat)), ?_, fun H' hz => ⟨fun i v e => ?_, fun i v x H'' e ⟨y1, y2⟩ => ?_, fun i hi => by show n ≤ i; simpa using hi⟩⟩
  · have := FzA.intsV (K := K) (H := H) (z := z) ((List.range n).map fun i => lo + (i : Nat))
    simpa [rangeD, List.map_map, Function.comp_def] using this
  · have h := (List.getElem?_eq_some_iff.mp e).1
    show i < n
    simpa using h
  · refine ⟨y1, ?_⟩
    obtain ⟨h, e⟩ := List.getElem?_eq_some_iff.mp e
    rw [y2, ← e]
    simp
def signs (x : Str) : List Str := x.cps.toList.map fun c => ⟨#[c]⟩
theorem its_str {x : Str} : ItS K (Its x) H z ((signs x).map .str) := by
  refine ⟨(signs x).map V.str, FzA.strsV _, fun H' hz => ⟨fun i v e => ?_, fun i v y H'' e ⟨y1, k, y2, y3⟩ => ⟨y1, ?_⟩, fun i hi => by show x.cps.size ≤ i; simpa [signs] using hi⟩⟩
  · have h := (List.getElem?_eq_some_iff.mp e).1
    show i < x.cps.size
    simpa [signs] using h
  · obtain ⟨h, e⟩ := List.getElem?_eq_some_iff.mp e
    rw [y3, ← e]
    have h' : i < x.cps.size := by simpa [signs] using h
    rw [Array.getElem?_eq_getElem h'] at y2
    have y2 := Option.some.inj y2
    simp [signs, ← y2]
def seqD : PD → Option (List PD)
  | .list ds => some ds
  | .tuple ds => some ds
  | .str x => some ((signs x).map .str)
  | _ => none
def iE (F : EF) : IF := fun δ => (F δ).p fun d δ1 => match seqD d with
  | some ds => .ok ds δ1
  | none => .bad
theorem di_seq {tg : Expr} (ha : DE tb W X e F) : DI tb W X tg e (iE F) := by
  refine ⟨fun pins s σ H Rr I ⟨δ, z, c, hE, w, h⟩ => ?_⟩
  unfold iE at h
  cases e1 : F δ with
  | ok m δ1 =>
    rw [e1] at h
    cases m with
    | v l =>
      have h : match (match seqD l.pd with
        | some ds => R.ok ds δ1
        | none => R.bad : R (List PD)) with
        | .ok ds δ' => ∀ J H' z' c', RpE X.K tb H' z' δ' σ c' → Wf H' z' c' → Step H z c H' z' c' → ItS X.K J H' z' ds → Rr J H'
        | .ex n δ' => ∀ H', Aft X.K tb H z c δ' σ H' → W (.ref (tb n)) none σ H'
        | .bad => False := h
      cases q : l.pd with
      | list ds =>
        rw [q] at h
        refine (pi_list ha).run pins s σ H Rr I ⟨δ, z, c, hE, w, ?_⟩
        rw [e1]
        intro v H' a
        obtain ⟨z1, c1, h1, h2, h3, h4⟩ := AftE.toP a
        rw [q] at h2
        obtain ⟨p, vs, rfl, hH, f⟩ := h2.list
        exact ⟨p, rfl, ⟨vs, sqL_of hH⟩, h (Itl X.K p) H' z1 c1 h1 h3 h4 (its_list hH f)⟩
      | tuple ds =>
        rw [q] at h
        refine (pi_tup ha).run pins s σ H Rr I ⟨δ, z, c, hE, w, ?_⟩
        rw [e1]
        intro v H' a
        obtain ⟨z1, c1, h1, h2, h3, h4⟩ := AftE.toP a
        rw [q] at h2
        obtain ⟨p, vs, rfl, hH, f⟩ := h2.tuple
        exact ⟨p, rfl, ⟨vs, sqT_of hH⟩, h (Itt X.K p) H' z1 c1 h1 h3 h4 (its_tup hH f)⟩
      | str x =>
        rw [q] at h
        refine (pi_str ha).run pins s σ H Rr I ⟨δ, z, c, hE, w, ?_⟩
        rw [e1]
        intro v H' a
        obtain ⟨z1, c1, h1, h2, h3, h4⟩ := AftE.toP a
        rw [q] at h2
        exact ⟨x, h2.str_, h (Its x) H' z1 c1 h1 h3 h4 its_str⟩
      | none => rw [q] at h; exact h.elim
      | bool _ => rw [q] at h; exact h.elim
      | int _ => rw [q] at h; exact h.elim
      | dict _ => rw [q] at h; exact h.elim
    | o own t fs => exact h.elim
  | ex n δ1 =>
    rw [e1] at h
    refine (pi_list ha).run pins s σ H Rr I ⟨δ, z, c, hE, w, ?_⟩
    rw [e1]
    exact h
  | bad => rw [e1] at h; exact h.elim
/-- range(..) -/
def small62 (i : Int) : Bool := decide (-(2 ^ 62) ≤ i) && decide (i < 2 ^ 62)
def rng1 : List PD → Option (List PD)
  | [.int j] => if small62 j then some (rangeD 0 j.toNat) else none
  | _ => none
def rng2 : List PD → Option (List PD)
  | [.int i, .int j] => if small62 i && small62 j then some (rangeD i (j - i).toNat) else none
  | _ => none
def rangeDn (hi : Int) (n : Nat) : List PD := (List.range n).map fun i => .int (hi - (i : Nat))
/-- range(i, j, -1) -/
def rng3 : List PD → Option (List PD)
  | [.int i, .int j, .int k] => if small62 i && small62 j && decide (k = -1) then some (rangeDn i (i - j).toNat) else none
  | _ => none
def iR (rng : List PD → Option (List PD)) (A : AF) : IF := fun δ => (A δ).bind fun as δ1 => match pds as with
  | some ds => match rng ds with
    | some rs => .ok rs δ1
    | none => .bad
  | none => .bad
variable {Af : AF} {p : Pos} {tg : Expr}
theorem go_R {rng : List PD → Option (List PD)} {Rr : It → Hp → Prop} {Q1 : List V → Hp → Prop} (h : tI K tb W (iR rng Af) σ H Rr)
    (k : ∀ ds rs vs H1 z1, FzA K H1 z1 ds vs → rng ds = some rs → (∀ J, ItS K J H1 z1 rs → Rr J H1) → Q1 vs H1) : tA K tb W Af σ H Q1 := by
  obtain ⟨δ, z, c, hE, w, h⟩ := h
  refine ⟨δ, z, c, hE, w, ?_⟩
  unfold iR at h
  cases e : Af δ with
  | ok as δ1 =>
    rw [e] at h
    intro vs H1 z1 c1 hE1 f1 w1 s1
    cases e2 : pds as with
    | none => simp only [R.bind, e2] at h
    | some ds =>
      cases e3 : rng ds with
      | none => simp only [R.bind, e2, e3] at h
      | some rs =>
        simp only [R.bind, e2, e3] at h
        exact k ds rs vs H1 z1 (f1.pds e2) e3 fun J hJ => h J H1 z1 c1 hE1 w1 s1 hJ
  | ex n δ1 => rw [e] at h; exact h
  | bad => rw [e] at h; exact h.elim
theorem small62_of {i : Int} (h : small62 i = true) : -(2 ^ 62) ≤ i ∧ i < 2 ^ 62 := by
  have h' := Bool.and_eq_true_iff.mp h
  exact ⟨of_decide_eq_true h'.1, of_decide_eq_true h'.2⟩
theorem di_range1 (hg : Gl X "range") (hm : X.mg "range" = none) (ha : DA tb W X [a] Af) (hs : starEach [a] X.env = [(false, eval a X.env)] := by rfl) : DI tb W X tg (.Call (.Name "range" p) [a] [] pos) (iR rng1 Af) :=
  (pi_range1 hg hm ha hs).wk fun σ H Q h => go_R h fun ds rs vs H1 z1 f g q => by
    unfold rng1 at g
    split at g
    · split at g <;> cases g
      rename_i j hj
      obtain ⟨v, rfl, f1⟩ := f.one
      obtain ⟨h1, h2⟩ := small62_of hj
      exact ⟨_, by rw [f1.int_], h1, h2, q _ its_range⟩
    · cases g
theorem di_range2 (hg : Gl X "range") (hm : X.mg "range" = none) (ha : DA tb W X [a, b] Af) (hs : starEach [a, b] X.env = [(false, eval a X.env), (false, eval b X.env)] := by rfl) (hs2 : starEach [b] X.env = [(false, eval b X.env)] := by rfl) :
    DI tb W X tg (.Call (.Name "range" p) [a, b] [] pos) (iR rng2 Af) :=
  (pi_range2 hg hm ha hs hs2).wk fun σ H Q h => go_R h fun ds rs vs H1 z1 f g q => by
    unfold rng2 at g
    split at g
    · split at g <;> cases g
      rename_i i j hj
      obtain ⟨v, v2, rfl, f1, f2⟩ := f.two
      have hj' := Bool.and_eq_true_iff.mp hj
      obtain ⟨h1, h2⟩ := small62_of hj'.1
      obtain ⟨h3, h4⟩ := small62_of hj'.2
      exact ⟨_, _, by rw [f1.int_, f2.int_], ⟨h1, h2, h3, h4⟩, q _ its_range⟩
    · cases g
/-! ### for -/
def sLoop (G : PD → Env' → Option Env') (S : SF) : List PD → SF
  | [], δ => .nx δ
  | d :: ds, δ => match G d δ with
    | none => .bad
    | some δ1 => match S δ1 with
      | .nx δ2 => sLoop G S ds δ2
      | .ct δ2 => sLoop G S ds δ2
      | .bk δ2 => .nx δ2
      | r => r
def sFor (F : IF) (G : PD → Env' → Option Env') (S : SF) : SF := fun δ => (F δ).s fun ds δ1 => sLoop G S ds δ1
theorem ds_for {is : List Nat} {G : PD → Env' → Option Env'} {tg iter : Expr} {If : IF} (hp : PassesOwn (model X.prog X.w) X.A X.env X.xe) (hc : X.calm = true) (hi : DI tb W X tg iter If) (hg : DG tb pin X tg is G) (hb : DB tb pin W X body S)
    (hs : ∀ x, foldedSetIterable iter X.env x = pure x := by intro _; rfl) : DS tb pin W X (.For tg iter body [] pos) (sFor If G S) :=
  (ps_for hp hc hi hg hb hs).wk fun D σ H ⟨hpo, δ, z, c, hE, w, h⟩ => by
    refine ⟨δ, z, c, hE, w, ?_⟩
    unfold sFor at h
    cases e1 : If δ with
    | bad => rw [e1] at h; exact h.elim
    | ex n δ1 => rw [e1] at h; exact fun H' a => h σ H' ⟨hpo, a⟩
    | ok ds δ1 =>
      rw [e1] at h
      intro J H1 z1 c1 hE1 w1 s1 ⟨vs, fv, hJ⟩
      have h : OutS X.K tb pin W H z c (sLoop G S ds δ1) D := h
      have h := OutS.step s1 w1 h
      have hlen := fv.len
      refine ⟨fun i m σ2 H2 => m = vs.length - i ∧ i ≤ vs.length ∧ pinOk pin σ2 ∧ ∃ δ2 z2 c2, RpE X.K tb H2 z2 δ2 σ2 c2 ∧ Wf H2 z2 c2 ∧ Step H1 z1 c1 H2 z2 c2 ∧ OutS X.K tb pin W H2 z2 c2 (sLoop G S (ds.drop i) δ2) D,
        ⟨vs.length, by simp, Nat.zero_le _, hpo, δ1, z1, c1, hE1, w1, Step.refl _ _ _, by simpa using h⟩, ?_⟩
      rintro i m σ2 H2 ⟨rfl, hi, hp2, δ2, z2, c2, hE2, w2, s2, h2⟩
      obtain ⟨j1, j2, j3⟩ := hJ H2 (s2.on w1)
      by_cases hlt : i < vs.length
      · have hv : vs[i]? = some vs[i] := List.getElem?_eq_getElem hlt
        refine .inr ⟨j1 i _ hv, fun σ' H' => (pinOk pin σ' ∧ ∃ δ3 z3 c3, RpE X.K tb H' z3 δ3 σ' c3 ∧ Wf H' z3 c3 ∧ Step H1 z1 c1 H' z3 c3 ∧ OutS X.K tb pin W H' z3 c3 (sLoop G S (ds.drop (i + 1)) δ3) D),
          fun σ' H' q => ⟨vs.length - (i + 1), by omega, rfl, hlt, q⟩, fun x H' y => ?_⟩
        obtain ⟨hH, rfl⟩ := j2 i _ x H' hv y
        have hH := hH.symm
        subst hH
        obtain ⟨d, hd, fd⟩ := fv.get' hv
        have hds : ds.drop i = d :: ds.drop (i + 1) := by
          obtain ⟨hh, e⟩ := List.getElem?_eq_some_iff.mp hd
          rw [← e]
          exact List.drop_eq_getElem_cons hh
        rw [hds] at h2
        unfold sLoop at h2
        cases e2 : G d δ2 with
        | none => rw [e2] at h2; exact h2.elim
        | some δ3 =>
          rw [e2] at h2
          dsimp only at h2
          refine ⟨δ2, z2, c2, d, δ3, hE2, w2, fd.mono s2.zin (s2.on w1), e2, fun σ' c' a1 a2 a3 _ => ⟨a3 hp2, δ3, z2, c', a1, w2.mono a2, ?_⟩⟩
          have s3 : Step H2 z2 c2 H2 z2 c' := (Step.refl _ _ _).mono a2
          have w3 : Wf H2 z2 c' := w2.mono a2
          have h3 := OutS.step s3 w3 h2
          have sb := s2.trans w2 s3
          have again : ∀ {δ4 : Env'}, OutS X.K tb pin W H2 z2 c' (sLoop G S (ds.drop (i + 1)) δ4) D → ∀ σ4 H4, AftS X.K tb pin H2 z2 c' δ4 σ4 H4 →
              (pinOk pin σ4 ∧ ∃ δ3 z3 c3, RpE X.K tb H4 z3 δ3 σ4 c3 ∧ Wf H4 z3 c3 ∧ Step H1 z1 c1 H4 z3 c3 ∧ OutS X.K tb pin W H4 z3 c3 (sLoop G S (ds.drop (i + 1)) δ3) D) :=
            fun {δ4} h4 σ4 H4 ⟨p4, z4, c4, hE4, w4, s4⟩ => ⟨p4, δ4, z4, c4, hE4, w4, sb.trans w3 s4, OutS.step s4 w4 h4⟩
          cases e3 : S δ3 with
          | nx δ4 => rw [e3] at h3; exact again h3
          | ct δ4 => rw [e3] at h3; exact again h3
          | bk δ4 => rw [e3] at h3; exact h3
          | rt m δ4 => rw [e3] at h3; exact h3
          | ex n δ4 => rw [e3] at h3; exact h3
          | bad => rw [e3] at h3; exact h3
      · have e : i = vs.length := by omega
        rw [List.drop_of_length_le (by omega)] at h2
        exact .inl ⟨j3 i (by omega), h2 σ2 H2 ⟨hp2, z2, c2, hE2, w2, Step.refl _ _ _⟩⟩
/-! ### while -/
def whileN (A : BF) (S : SF) : Nat → Env' → Option SR
  | 0, _ => none
  | n + 1, δ => match A δ with
    | .ok true δ1 => (match S δ1 with
      | .nx δ2 => whileN A S n δ2
      | .ct δ2 => whileN A S n δ2
      | .bk δ2 => some (.nx δ2)
      | r => some r)
    | .ok false δ1 => some (.nx δ1)
    | .ex k δ1 => some (.ex k δ1)
    | .bad => some .bad
open Classical in
noncomputable def sWh (A : BF) (S : SF) : SF := fun δ => match whileN A S 1000000 δ with
  | some r => r
  | none => if h : ∃ r n, whileN A S n δ = some r then Classical.choose h else .bad
theorem whileN_mono {A : BF} {S : SF} : ∀ {n : Nat} {δ : Env'} {r : SR}, whileN A S n δ = some r → ∀ k, whileN A S (n + k) δ = some r
  | 0, _, _, h, _ => by cases h
  | n + 1, δ, r, h, k => by
    rw [Nat.add_right_comm]
    unfold whileN at h ⊢
    cases e : A δ with
    | ok b δ1 =>
      rw [e] at h
      cases b with
      | true =>
        dsimp only at h ⊢
        cases e2 : S δ1 with
        | nx δ2 => rw [e2] at h; exact whileN_mono (n := n) h k
        | ct δ2 => rw [e2] at h; exact whileN_mono (n := n) h k
        | bk δ2 => rw [e2] at h; exact h
        | rt m δ2 => rw [e2] at h; exact h
        | ex m δ2 => rw [e2] at h; exact h
        | bad => rw [e2] at h; exact h
      | false => exact h
    | ex _ _ => rw [e] at h; exact h
    | bad => rw [e] at h; exact h
theorem sWh_eq {A : BF} {S : SF} {n : Nat} {δ : Env'} {r : SR} (h : whileN A S n δ = some r) : sWh A S δ = r := by
  have key : ∀ {k : Nat} {r' : SR}, whileN A S k δ = some r' → r' = r := fun {k r'} hk => by
    have h1 := whileN_mono h k
    have h2 := whileN_mono hk n
    rw [Nat.add_comm] at h2
    exact Option.some.inj (h2.symm.trans h1)
  unfold sWh
  cases e : whileN A S 1000000 δ with
  | some r' => exact key e
  | none =>
    have ex : ∃ r n, whileN A S n δ = some r := ⟨r, n, h⟩
    dsimp only
    rw [dif_pos ex]
    obtain ⟨k, hk⟩ := Classical.choose_spec ex
    exact key hk
theorem ds_while (hp : PassesOwn (model X.prog X.w) X.A X.env X.xe) (hc : DT tb W X e A) (hb : DB tb pin W X body S) : DS tb pin W X (.While e body [] pos) (sWh A S) :=
  (ps_while hp hc hb).wk fun D σ H ⟨hpo, δ, z, c, hE, w, h⟩ => by
    have ex : ∃ r n, whileN A S n δ = some r := by
      by_cases ex : ∃ r n, whileN A S n δ = some r
      · exact ex
      · unfold sWh at h
        cases e : whileN A S 1000000 δ with
        | some r => exact absurd ⟨r, _, e⟩ ex
        | none =>
          rw [e] at h
          dsimp only at h
          rw [dif_neg ex] at h
          exact h.elim
    obtain ⟨r, n, hn⟩ := ex
    rw [sWh_eq hn] at h
    refine ⟨fun m σ2 H2 => pinOk pin σ2 ∧ ∃ δ2 z2 c2, RpE X.K tb H2 z2 δ2 σ2 c2 ∧ Wf H2 z2 c2 ∧ whileN A S m δ2 = some r ∧ OutS X.K tb pin W H2 z2 c2 r D, ⟨n, hpo, δ, z, c, hE, w, hn, h⟩, ?_⟩
    rintro m σ2 H2 ⟨hp2, δ2, z2, c2, hE2, w2, hm, h2⟩
    cases m with
    | zero => cases hm
    | succ m =>
      unfold whileN at hm
      refine ⟨δ2, z2, c2, hE2, w2, ?_⟩
      cases e1 : A δ2 with
      | ok b δ3 =>
        rw [e1] at hm
        intro H3 ⟨z3, c3, hE3, w3, s3⟩
        have h3 := OutS.step s3 w3 h2
        cases b with
        | true =>
          rw [if_pos rfl]
          dsimp only at hm
          refine ⟨fun σ' H' => (pinOk pin σ' ∧ ∃ δ2 z2 c2, RpE X.K tb H' z2 δ2 σ' c2 ∧ Wf H' z2 c2 ∧ whileN A S m δ2 = some r ∧ OutS X.K tb pin W H' z2 c2 r D), fun σ' H' q => ⟨m, Nat.lt_succ_self _, q⟩, hp2, δ3, z3, c3, hE3, w3, ?_⟩
          cases e2 : S δ3 with
          | nx δ4 => rw [e2] at hm; exact fun σ4 H4 ⟨p4, z4, c4, hE4, w4, s4⟩ => ⟨p4, δ4, z4, c4, hE4, w4, hm, OutS.step s4 w4 h3⟩
          | ct δ4 => rw [e2] at hm; exact fun σ4 H4 ⟨p4, z4, c4, hE4, w4, s4⟩ => ⟨p4, δ4, z4, c4, hE4, w4, hm, OutS.step s4 w4 h3⟩
          | bk δ4 => rw [e2] at hm; cases hm; exact h3
          | rt m δ4 => rw [e2] at hm; cases hm; exact h3
          | ex k δ4 => rw [e2] at hm; cases hm; exact h3
          | bad => rw [e2] at hm; cases hm; exact h3
        | false =>
          rw [if_neg Bool.false_ne_true]
          cases hm
          exact h3 σ2 H3 ⟨hp2, z3, c3, hE3, w3, Step.refl _ _ _⟩
      | ex k δ3 => rw [e1] at hm; cases hm; exact fun H' a => h2 σ2 H' ⟨hp2, a⟩
      | bad => rw [e1] at hm; cases hm; exact h2
end
end FS
namespace FS
open PySem PySem.Spec L2
section
variable {K : PySem.W.Frag} {tb : Nat → Addr} {pin : List (Nat × V)} {W : WX} {H H' H1 : Hp} {z z' z1 : Zn} {c c' c1 : Ct} {σ σ1 : St} {δ δ' : Env'} {X : Cx} {D : Ends}
variable {a b e : Expr} {F G : EF} {pos : Pos} {es : List Expr} {st : Stmt} {rest body : List Stmt} {S T U : SF} {A : BF}
/-- what is owned beside (f) stays -/
theorem Step.frame {f : Ct} (w : Wf H z (fun a => c a + f a)) (w' : Wf H' z' c') (s : Step H z c H' z' c') :
    (∀ a, 0 < f a → H' a = H a) ∧ Wf H' z' (fun a => c' a + f a) ∧ Step H z (fun a => c a + f a) H' z' (fun a => c' a + f a) := by
  have f0 : ∀ a, 0 < f a → c a = 0 ∧ H a ≠ none ∧ ¬ z a := fun a q => by
    have h1 : c a + f a ≤ 1 := w.c1 a
    exact ⟨by omega, mut_ne (w.cm a (by show 0 < c a + f a; omega)), fun hz => by have h2 : c a + f a = 0 := w.zc a hz; omega⟩
  have k : ∀ a, 0 < f a → H' a = H a := fun a q => s.keep a (f0 a q).2.1 (f0 a q).1
  have c0 : ∀ a, 0 < f a → c' a = 0 ∧ ¬ z' a := fun a q => by
    obtain ⟨h1, h2, h3⟩ := f0 a q
    have no : ∀ r, (z' a ∨ 0 < c' a) → r = True → False := fun r h _ => by
      rcases s.src a h with q' | q' | q'
      · exact h3 q'
      · omega
      · exact h2 q'
    refine ⟨?_, fun h => no True (.inl h) rfl⟩
    rcases Nat.eq_zero_or_pos (c' a) with h | h
    · exact h
    · exact (no True (.inr h) rfl).elim
  refine ⟨k, ⟨w'.zt, fun a q => ?_, fun a => ?_, fun a q => ?_⟩, ⟨fun a h1 h2 => s.keep a h1 (by have h2 : c a + f a = 0 := h2; omega), s.zin, fun a q => ?_, s.dom⟩⟩
  · show c' a + f a = 0
    have := w'.zc a q
    rcases Nat.eq_zero_or_pos (f a) with h | h
    · omega
    · exact absurd q (c0 a h).2
  · show c' a + f a ≤ 1
    have h1 : c a + f a ≤ 1 := w.c1 a
    have := w'.c1 a
    rcases Nat.eq_zero_or_pos (f a) with h | h
    · omega
    · have := (c0 a h).1; omega
  · have q : 0 < c' a + f a := q
    rcases Nat.eq_zero_or_pos (f a) with h | h
    · exact w'.cm a (by omega)
    · rw [k a h]; exact w.cm a (by show 0 < c a + f a; omega)
  · rcases Nat.eq_zero_or_pos (f a) with h | h
    · rcases s.src a (q.imp id fun r => by have r : 0 < c' a + f a := r; omega) with r | r | r
      · exact .inl r
      · exact .inr (.inl (by show 0 < c a + f a; omega))
      · exact .inr (.inr r)
    · exact .inr (.inl (by show 0 < c a + f a; omega))
theorem Wf.upd {p : Addr} {o : HO} (w : Wf H z c) (hp : 0 < c p) (mo : Mut (some o)) : Wf (L2.upd H p o) z c ∧ Step H z c (L2.upd H p o) z c := by
  have hd : ∀ a, H a ≠ none → (L2.upd H p o) a ≠ none := fun a q => by
    by_cases e : a = p
    · rw [e, upd_same]; exact fun z => nomatch z
    · rw [upd_ne e]; exact q
  refine ⟨⟨fun a q => hd a (w.zt a q), w.zc, w.c1, fun a q => ?_⟩, ⟨fun a _ h2 => upd_ne fun e => by rw [e] at h2; omega, fun _ h => h, fun a q => q.imp id .inl, hd⟩⟩
  by_cases e : a = p
  · rw [e, upd_same]; exact mo
  · rw [upd_ne e]; exact w.cm a q
theorem Wf.congr {c2 : Ct} (w : Wf H z c) (h : ∀ a, c a = c2 a) : Wf H z c2 := w.mono fun a => by rw [h]; exact Nat.le_refl _
theorem Step.congr {c2 c2' : Ct} (s : Step H z c H' z' c') (h : ∀ a, c a = c2 a) (h' : ∀ a, c' a = c2' a) : Step H z c2 H' z' c2' := by
  have e1 : c = c2 := funext h
  have e2 : c' = c2' := funext h'
  subst e1 e2
  exact s
/-- slots without a value are looked at by nobody -/
theorem RpE.congr : ∀ {δ : Env'} {σ σ1 : St} {c : Ct}, RpE K tb H z δ σ c → σ.length = σ1.length → (∀ (i : Nat) (m : M), δ[i]? = some (some m) → σ1[i]? = σ[i]?) → RpE K tb H z δ σ1 c
  | _, _, [], _, .nil e, _, _ => .nil e
  | _, _, _ :: _, _, .nil e, hl, _ => by cases hl
  | _, _, [], _, .no h, hl, _ => by cases hl
  | _, _, x :: σ1, _, .no h, hl, q => .no (RpE.congr h (Nat.succ.inj hl) fun i m e => by simpa using q (i + 1) m (by simpa using e))
  | _, _, [], _, .yes h r e, hl, _ => by cases hl
  | _, _, x :: σ1, _, .yes (m := m) (x := v) h r e, hl, q => by
    have e0 : x = some v := by simpa using q 0 m rfl
    subst e0
    exact .yes h (RpE.congr r (Nat.succ.inj hl) fun i m e => by simpa using q (i + 1) m (by simpa using e)) e
def wipeE (δ : Env') : List Nat → Env'
  | [] => δ
  | v :: vs => (wipeE δ vs).set v none
def backE (δ0 : Env') : List Nat → Env' → Env'
  | [], δ => δ
  | v :: vs, δ => (backE δ0 vs δ).set v (δ0.getD v none)
def keepOk (δ : Env') (vs : List Nat) : Bool := vs.all fun v => match δ[v]? with
  | some none => true
  | some (some (.v (.fz _))) => true
  | _ => false
theorem wipeE_of : ∀ {vs : List Nat} {δ : Env'} {σ : St} {c : Ct}, RpE K tb H z δ σ c → ∃ c', RpE K tb H z (wipeE δ vs) (wipe σ vs) c' ∧ ∀ a, c' a ≤ c a
  | [], _, _, c, h => ⟨c, h, fun _ => Nat.le_refl _⟩
  | v :: vs, _, _, c, h => by
    obtain ⟨c1, h1, h2⟩ := wipeE_of (vs := vs) h
    obtain ⟨c2, h3, h4⟩ := h1.drop v
    exact ⟨c2, RpE.any v none h4, fun a => Nat.le_trans (h3 a) (h2 a)⟩
theorem wipeE_len : ∀ {vs : List Nat} {δ : Env'}, (wipeE δ vs).length = δ.length
  | [], _ => rfl
  | v :: vs, _ => by unfold wipeE; rw [List.length_set, wipeE_len]
theorem wipeE_none : ∀ {vs : List Nat} {δ : Env'} {v : Nat} {m : M}, (wipeE δ vs)[v]? = some (some m) → v ∉ vs ∧ δ[v]? = some (some m)
  | [], _, _, _, h => ⟨by simp, h⟩
  | w :: vs, δ, v, m, h => by
    unfold wipeE at h
    by_cases e : w = v
    · subst e
      by_cases hl : w < (wipeE δ vs).length
      · rw [List.getElem?_set_self hl] at h; cases h
      · rw [List.getElem?_eq_none (by simpa using hl)] at h; cases h
    · rw [List.getElem?_set_ne e] at h
      obtain ⟨h1, h2⟩ := wipeE_none h
      exact ⟨by simp [h1, Ne.symm e], h2⟩
theorem backE_of {δ0 : Env'} : ∀ {vs : List Nat} {δ : Env'} {σ : St} {c : Ct}, RpE K tb H z δ σ c → δ0.length = δ.length →
    (∀ v ∈ vs, ∀ m, δ0[v]? = some (some m) → ∃ d x, m = .fz d ∧ σ[v]? = some (some x) ∧ Fz K H z d x) → ∃ c', RpE K tb H z (backE δ0 vs δ) σ c' ∧ (∀ a, c' a ≤ c a) ∧ (backE δ0 vs δ).length = δ.length
  | [], _, _, c, h, _, _ => ⟨c, h, fun _ => Nat.le_refl _, rfl⟩
  | v :: vs, δ, σ, c, h, hl, hk => by
    obtain ⟨c1, h1, h2, h5⟩ := backE_of (vs := vs) h hl fun w hw => hk w (List.mem_cons_of_mem _ hw)
    obtain ⟨c2, h3, h4⟩ := h1.drop v
    have hlen : ∀ x, ((backE δ0 vs δ).set v x).length = δ.length := fun x => by rw [List.length_set, h5]
    unfold backE
    cases q : δ0[v]? with
    | none =>
      have e : δ0.getD v none = none := by simp [List.getD, q]
      rw [e]
      exact ⟨c2, h4, fun a => Nat.le_trans (h3 a) (h2 a), hlen _⟩
    | some o =>
      have e : δ0.getD v none = o := by simp [List.getD, q]
      rw [e]
      cases o with
      | none => exact ⟨c2, h4, fun a => Nat.le_trans (h3 a) (h2 a), hlen _⟩
      | some m =>
        obtain ⟨d, x, rfl, e1, f⟩ := hk v List.mem_cons_self m q
        have hv : v < (backE δ0 vs δ).length := by rw [h5, ← hl]; exact (List.getElem?_eq_some_iff.mp q).1
        refine ⟨_, RpE.put h4 hv e1 (.v (.fz f fun _ => rfl : RpL _ _ _ _ _ zero)), fun a => ?_, hlen _⟩
        have := h3 a
        have := h2 a
        show 0 + c2 a ≤ c a
        omega
theorem RpA.app : ∀ {l l' : List L} {v v' : List V} {c c' : Ct}, RpA K H z l v c → RpA K H z l' v' c' → RpA K H z (l ++ l') (v ++ v') fun a => c a + c' a
  | _, _, _, _, c, c', .nil e, h => by
    have e2 : (fun a => c a + c' a) = c' := funext fun a => by rw [e]; omega
    rw [e2]; exact h
  | _, _, _, _, c, c', .cons (c1 := c1) (c2 := c2) h r e, q => .cons h (RpA.app r q) fun a => by show c a + c' a = c1 a + (c2 a + c' a); rw [e]; omega
theorem wipe_wipe {own : List Nat} : ∀ (vs : List Nat) (σ : St), (∀ v ∈ vs, v ∈ own) → wipe (wipe σ vs) own = wipe σ own
  | [], _, _ => rfl
  | v :: r, σ, h => by
    show wipe ((wipe σ r).set v none) own = wipe σ own
    rw [wipe_set (h v List.mem_cons_self)]
    exact wipe_wipe r σ fun u hu => h u (List.mem_cons_of_mem _ hu)
/-! ### list comprehensions -/
def cLoop (own : List Nat) (G : PD → Env' → Option Env') (T : BF) (E : EF) : List PD → Env' → Option (List L × Env')
  | [], δ => some ([], δ)
  | d :: ds, δ => match G d δ with
    | none => none
    | some δ1 => match T δ1 with
      | .ok true δ2 => (match E δ2 with
        | .ok (.v l) δ3 => (cLoop own G T E ds (wipeE δ3 own)).map fun r => (l :: r.1, r.2)
        | _ => none)
      | .ok false δ2 => cLoop own G T E ds (wipeE δ2 own)
      | _ => none
def eLc (own : List Nat) (F : IF) (G : PD → Env' → Option Env') (T : BF) (E : EF) : EF := fun δ => (F δ).bind fun ds δ1 =>
  if keepOk δ1 own = true ∧ ds.length ≤ big then match cLoop own G T E ds (wipeE δ1 own) with
    | some r => .ok (.lst r.1) (backE δ1 own (wipeE r.2 own))
    | none => .bad
  else .bad
def Wno : WX := fun _ _ _ _ => False
def tY : BF := fun δ => .ok true δ
theorem lc_of {own is : List Nat} {If : IF} {Gf : PD → Env' → Option Env'} {Tf : BF} {Ef : EF} {Q : VK} (hown : ∀ i ∈ is, i ∈ own) (h : tD K tb W (eLc own If Gf Tf Ef) σ H Q) :
    tLc (tI K tb W If) (tGd K tb [] is Gf) (tT K tb Wno Tf) (tD K tb Wno Ef) own σ H Q := by
  obtain ⟨δ, z, c, hE, w, h⟩ := h
  refine ⟨δ, z, c, hE, w, ?_⟩
  unfold eLc at h
  cases e1 : If δ with
  | bad => rw [e1] at h; exact h.elim
  | ex n δ1 => rw [e1] at h; exact h
  | ok ds δ1 =>
    rw [e1] at h
    intro J H1 z1 c1 hE1 w1 s1 ⟨vs, fv, hJ⟩ D hD
    have h : Out K tb W H z c σ (if keepOk δ1 own = true ∧ ds.length ≤ big then match cLoop own Gf Tf Ef ds (wipeE δ1 own) with
      | some r => .ok (.lst r.1) (backE δ1 own (wipeE r.2 own))
      | none => .bad
    else .bad) Q := h
    by_cases hk : keepOk δ1 own = true ∧ ds.length ≤ big
    case neg => rw [if_neg hk] at h; exact h.elim
    rw [if_pos hk] at h
    obtain ⟨hk, hbig⟩ := hk
    cases cl : cLoop own Gf Tf Ef ds (wipeE δ1 own) with
    | none => rw [cl] at h; exact h.elim
    | some r =>
      obtain ⟨ls, δe⟩ := r
      rw [cl] at h
      have hlen := fv.len
      have nD : ∀ a, H1 a ≠ none → a ≠ D := fun a q e => q (e ▸ hD)
      obtain ⟨cw, hEw, hcw⟩ := wipeE_of (vs := own) hE1
      refine ⟨fun i m H2 => m = vs.length - i ∧ i ≤ vs.length ∧ ∃ δ3 z3 c3 la va ca lr, RpE K tb H2 z3 δ3 (wipe σ own) c3 ∧ H2 D = some (.lst va) ∧ RpA K H2 z3 la va ca ∧ Wf H2 z3 (fun a => c3 a + (ca a + one D a)) ∧
        Step H1 z1 c1 H2 z3 (fun a => c3 a + (ca a + one D a)) ∧ cLoop own Gf Tf Ef (ds.drop i) δ3 = some (lr, δe) ∧ la ++ lr = ls ∧ la.length ≤ i ∧ δ3.length = δ1.length,
        ⟨vs.length, by simp, Nat.zero_le _, wipeE δ1 own, z1, cw, [], [], zero, ls, hEw.mono (fun _ q => q) (fun a q => upd_ne (nD a (w1.zt a q))) (fun a q => upd_ne (nD a (mut_ne (w1.cm a (Nat.lt_of_lt_of_le q (hcw a)))))), upd_same, .nil fun _ => rfl, ?_, ?_, by simpa using cl, rfl, Nat.le_refl _, wipeE_len⟩, ?_⟩
      · refine ⟨fun a q => by rw [upd_ne (nD a (w1.zt a q))]; exact w1.zt a q, fun a q => ?_, fun a => ?_, fun a q => ?_⟩
        · show cw a + (0 + one D a) = 0
          have := hcw a
          have := w1.zc a q
          rw [one_ne (nD a (w1.zt a q))]
          omega
        · show cw a + (0 + one D a) ≤ 1
          have := hcw a
          have := w1.c1 a
          by_cases e : a = D
          · subst e
            have : cw a = 0 := by
              rcases Nat.eq_zero_or_pos (cw a) with q | q
              · exact q
              · exact absurd hD (mut_ne (w1.cm a (by omega)))
            rw [one_self]; omega
          · rw [one_ne e]; omega
        · have q : 0 < cw a + (0 + one D a) := q
          by_cases e : a = D
          · subst e; rw [upd_same]; trivial
          · rw [upd_ne e]
            rw [one_ne e] at q
            exact w1.cm a (by have := hcw a; omega)
      · refine ⟨fun a q _ => upd_ne (nD a q), fun _ q => q, fun a q => ?_, fun a q => by rw [upd_ne (nD a q)]; exact q⟩
        rcases q with q | q
        · exact .inl q
        · have q : 0 < cw a + (0 + one D a) := q
          by_cases e : a = D
          · subst e; exact .inr (.inr hD)
          · rw [one_ne e] at q
            exact .inr (.inl (by have := hcw a; omega))
      · rintro i m H2 ⟨rfl, hi, δ3, z3, c3, la, va, ca, lr, hE3, hD3, hA3, w3, s3, cl3, ela, hla, hl3⟩
        have w3' : Wf H2 z3 c3 := w3.mono fun a => Nat.le_add_right _ _
        have zs : ∀ a, z1 a → H2 a = H1 a := s3.on w1
        obtain ⟨j1, j2, j3⟩ := hJ H2 zs
        have lva : la.length = va.length := by
          have go : ∀ {l : List L} {v : List V} {c : Ct}, RpA K H2 z3 l v c → l.length = v.length := by
            intro l
            induction l with
            | nil => intro v c h; cases h; rfl
            | cons x r ih => intro v c h; cases h with | cons _ h2 _ => simp [ih h2]
          exact go hA3
        by_cases hlt : i < vs.length
        · have hv : vs[i]? = some vs[i] := List.getElem?_eq_getElem hlt
          refine .inr ⟨j1 i _ hv, fun H' => ∃ δ4 z4 c4 la va ca lr, RpE K tb H' z4 δ4 (wipe σ own) c4 ∧ H' D = some (.lst va) ∧ RpA K H' z4 la va ca ∧ Wf H' z4 (fun a => c4 a + (ca a + one D a)) ∧
            Step H1 z1 c1 H' z4 (fun a => c4 a + (ca a + one D a)) ∧ cLoop own Gf Tf Ef (ds.drop (i + 1)) δ4 = some (lr, δe) ∧ la ++ lr = ls ∧ la.length ≤ i + 1 ∧ δ4.length = δ1.length,
            fun H' q => ⟨vs.length - (i + 1), by omega, rfl, hlt, q⟩, fun x H' y => ?_⟩
          obtain ⟨hH, rfl⟩ := j2 i _ x H' hv y
          have hH := hH.symm
          subst hH
          obtain ⟨d, hd, fd⟩ := fv.get' hv
          have hds : ds.drop i = d :: ds.drop (i + 1) := by
            obtain ⟨hh, e⟩ := List.getElem?_eq_some_iff.mp hd
            rw [← e]
            exact List.drop_eq_getElem_cons hh
          rw [hds] at cl3
          unfold cLoop at cl3
          cases e2 : Gf d δ3 with
          | none => rw [e2] at cl3; cases cl3
          | some δ4 =>
            rw [e2] at cl3
            dsimp only at cl3
            refine ⟨δ3, z3, c3, d, δ4, hE3, w3', fd.mono s3.zin zs, e2, fun σ' c' a1 a2 _ a4 => ?_⟩
            have hw : wipe σ' own = wipe σ own := (a4 own hown).trans (wipe_wipe own σ fun _ q => q)
            have hl4 : δ4.length = δ1.length := (a1.len.trans (by
              have e1 := hE3.len
              have : (wipe σ' own).length = (wipe σ own).length := by rw [hw]
              rw [wipe_length] at this
              rw [this, ← e1])).trans hl3
            refine ⟨hw, ?_⟩
            have w4 : Wf H2 z3 c' := w3'.mono a2
            have w4t : Wf H2 z3 (fun a => c' a + (ca a + one D a)) := w3.mono fun a => by have := a2 a; show c' a + (ca a + one D a) ≤ c3 a + (ca a + one D a); omega
            have s4t : Step H1 z1 c1 H2 z3 (fun a => c' a + (ca a + one D a)) := s3.mono fun a => by have := a2 a; show c' a + (ca a + one D a) ≤ c3 a + (ca a + one D a); omega
            refine ⟨δ4, z3, c', a1, w4, ?_⟩
            cases e3 : Tf δ4 with
            | bad => rw [e3] at cl3; cases cl3
            | ex n δ5 => rw [e3] at cl3; cases cl3
            | ok bb δ5 =>
              rw [e3] at cl3
              intro H5 ⟨z5, c5, hE5, w5, s5⟩
              obtain ⟨k5, w5t, s5t⟩ := Step.frame w4t w5 s5
              have hD5 : H5 D = some (.lst va) := (k5 D (by show 0 < ca D + one D D; rw [one_self]; omega)).trans hD3
              have hA5 : RpA K H5 z5 la va ca := hA3.mono s5.zin (s5.on w4) fun a q => k5 a (by show 0 < ca a + one D a; omega)
              have s5t' := s4t.trans w4t s5t
              cases bb with
              | false =>
                rw [if_neg Bool.false_ne_true]
                dsimp only at cl3
                obtain ⟨c6, hE6, h6⟩ := wipeE_of (vs := own) hE5
                rw [hw] at hE6
                have hle : ∀ a, c6 a + (ca a + one D a) ≤ c5 a + (ca a + one D a) := fun a => by have := h6 a; omega
                exact ⟨wipeE δ5 own, z5, c6, la, va, ca, lr, hE6, hD5, hA5, w5t.mono hle, s5t'.mono hle, cl3, ela, by omega, wipeE_len.trans (hE5.len.trans (a1.len.symm.trans hl4))⟩
              | true =>
                rw [if_pos rfl]
                dsimp only at cl3
                refine ⟨δ5, z5, c5, hE5, w5, ?_⟩
                cases e4 : Ef δ5 with
                | bad => rw [e4] at cl3; cases cl3
                | ex n δ6 => rw [e4] at cl3; cases cl3
                | ok mm δ6 =>
                  rw [e4] at cl3
                  cases mm with
                  | o _ _ _ => cases cl3
                  | v l =>
                    dsimp only at cl3
                    intro y H6 ⟨z6, c6, cm, hE6, hR6, w6, s6⟩
                    obtain ⟨k6, w6t, s6t⟩ := Step.frame w5t w6 s6
                    have hD6 : H6 D = some (.lst va) := (k6 D (by show 0 < ca D + one D D; rw [one_self]; omega)).trans hD5
                    have hA6 : RpA K H6 z6 la va ca := hA5.mono s6.zin (s6.on w5) fun a q => k6 a (by show 0 < ca a + one D a; omega)
                    have s6t' := s5t'.trans w5t s6t
                    cases e5 : cLoop own Gf Tf Ef (ds.drop (i + 1)) (wipeE δ6 own) with
                    | none => rw [e5] at cl3; cases cl3
                    | some rr =>
                      obtain ⟨lr2, δx⟩ := rr
                      rw [e5] at cl3
                      simp only [Option.map_some, Option.some.injEq, Prod.mk.injEq] at cl3
                      obtain ⟨rfl, rfl⟩ := cl3
                      refine ⟨va, hD6, by rw [← lva, big_eq]; have : i < ds.length := by omega
                                          omega, ?_⟩
                      have pD : 0 < c6 D + cm D + (ca D + one D D) := by rw [one_self]; omega
                      obtain ⟨w7, s7⟩ := Wf.upd (p := D) (o := .lst (va ++ [y])) w6t pD trivial
                      have oD : ∀ a, z6 a → a ≠ D := fun a q e => by
                        subst e
                        have q2 : c6 a + cm a + (ca a + one a a) = 0 := w6t.zc a q
                        rw [one_self] at q2; omega
                      have cD : c6 D + cm D + ca D = 0 := by
                        have q2 : c6 D + cm D + (ca D + one D D) ≤ 1 := w6t.c1 D
                        rw [one_self] at q2; omega
                      have nDc : ∀ (cc : Ct) a, cc D = 0 → 0 < cc a → a ≠ D := fun cc a h1 h2 e => by rw [e, h1] at h2; exact Nat.lt_irrefl _ h2
                      obtain ⟨c8, hE8, h8⟩ := wipeE_of (vs := own) (hE6.mono (fun _ q => q) (fun a q => upd_ne (oD a q)) fun a q => upd_ne (o := .lst (va ++ [y])) (nDc c6 a (by omega) q))
                      rw [hw] at hE8
                      have hR8 : RpL K (upd H6 D (.lst (va ++ [y]))) z6 l y cm := by
                        cases hR6 with
                        | v r => exact r.mono (fun _ q => q) (fun a q => upd_ne (oD a q)) fun a q => upd_ne (nDc cm a (by omega) q)
                      have hA8 := (hA6.mono (fun _ q => q) (fun a q => upd_ne (oD a q)) fun a q => upd_ne (o := .lst (va ++ [y])) (nDc ca a (by omega) q)).app
                        (.cons (c2 := zero) hR8 (.nil fun _ => rfl) fun a => by show cm a = cm a + 0; omega)
                      have hle : ∀ a, c8 a + ((ca a + cm a) + one D a) ≤ c6 a + cm a + (ca a + one D a) := fun a => by have := h8 a; omega
                      exact ⟨wipeE δ6 own, z6, c8, la ++ [l], va ++ [y], fun a => ca a + cm a, lr2, hE8, upd_same, hA8, w7.mono hle, (s6t'.trans w6t s7).mono hle, e5, by rw [← ela]; simp, by simp; omega,
                        wipeE_len.trans (hE6.len.trans (a1.len.symm.trans hl4))⟩
        · have e : i = vs.length := by omega
          rw [List.drop_of_length_le (by omega)] at cl3
          unfold cLoop at cl3
          simp only [Option.some.injEq, Prod.mk.injEq] at cl3
          obtain ⟨rfl, rfl⟩ := cl3
          rw [List.append_nil] at ela
          subst ela
          refine .inl ⟨j3 i (by omega), ?_⟩
          obtain ⟨c9, hE9, h9⟩ := wipeE_of (vs := own) hE3
          have hEc : RpE K tb H2 z3 (wipeE δ3 own) σ c9 := RpE.congr hE9 (by rw [wipe_length, wipe_length]) fun j m q => by
            obtain ⟨q1, _⟩ := wipeE_none q
            rw [wipe_out q1, wipe_out q1]
          obtain ⟨c10, hE10, h10, _⟩ := backE_of (δ0 := δ1) (vs := own) hEc (by rw [wipeE_len, hl3]) fun v hv m q => by
            have hq := List.all_eq_true.mp hk v hv
            rw [q] at hq
            obtain ⟨x, cc1, cc2, e1, r1, _⟩ := hE1.get q
            cases m with
            | o _ _ _ => cases hq
            | v l =>
              cases l with
              | fz d =>
                cases r1 with
                | v r => cases r with
                  | fz f _ => exact ⟨d, x, rfl, e1, f.mono s3.zin zs⟩
              | lst _ => cases hq
              | dic _ => cases hq
          have hle : ∀ a, c10 a + (one D a + ca a) ≤ c3 a + (ca a + one D a) := fun a => by have := h9 a; have := h10 a; omega
          exact h (.ref D) H2 ⟨z3, c10, fun a => one D a + ca a, hE10, .v (.lst hD3 hA3 fun _ => rfl), w3.mono hle, (s1.trans w1 s3).mono hle⟩
variable {tg iter elt : Expr} {ifs : List Expr} {scope : Scope} {own : List (Str × Nat)} {is : List Nat} {If : IF} {Gf : PD → Env' → Option Env'} {Tf : BF} {Ef : EF}
abbrev DTs (tb : Nat → Addr) (W : WX) (X : Cx) (ifs : List Expr) (F : BF) : Prop := PTs X ifs (tT X.K tb W F)
theorem dts_nil : DTs tb W X [] tY := ⟨fun pins s σ H Q I ⟨δ, z, c, hE, w, h⟩ => pts_nil.run pins s σ H Q I (outB_here hE w h)⟩
theorem dts_one {c : Expr} (h : DT tb W X c Tf) : DTs tb W X [c] Tf := pts_one h
theorem de_lc (hc : X.calm = true) (hN : X.N.Nodup) (hi : DI tb W X tg iter If) (ok : BlkOk X.N X.env.scope scope own)
    (hg : ∀ (s : Shared) (H : Hp) (C : Addr) (cl : List (Str × Addr)) (fp : List Addr), DG tb [] (X.blk s H scope (compEnvC scope cl C X.env) fp) tg is Gf) (ht : ∀ (s : Shared) (H : Hp) (C : Addr) (cl : List (Str × Addr)) (fp : List Addr), DTs tb Wno (X.blk s H scope (compEnvC scope cl C X.env) fp) ifs Tf)
    (he : ∀ (s : Shared) (H : Hp) (C : Addr) (cl : List (Str × Addr)) (fp : List Addr), DE tb Wno (X.blk s H scope (compEnvC scope cl C X.env) fp) elt Ef) (hown : ∀ i ∈ is, i ∈ own.map (·.2) := by decide) (hs : ∀ x, foldedSetIterable iter X.env x = pure x := by intro _; rfl) :
    DE tb W X (.ListComp elt [⟨tg, iter, ifs, 0⟩] scope pos) (eLc (own.map (·.2)) If Gf Tf Ef) := (pe_lc hc hN hi ok hg ht he hs).wk fun σ H Q h => lc_of hown h
/-- name = [..] on one line -/
theorem ds_setLc {i : Nat} {y : Str} {py : Pos} {spos : Pos} (hc : X.calm = true) (hN : X.N.Nodup) (hy : X.N[i]? = some y) (hyl : X.env.scope.names.lookup y = some .local) (hpn : (pin.all fun p => decide (p.1 ≠ i)) = true)
    (hsw : swapsWith (.ListComp elt [⟨tg, iter, ifs, 0⟩] scope pos) (some (.Name y py)) spos.line X.env = pure true) (hi : DI tb W X tg iter If) (ok : BlkOk X.N X.env.scope scope own)
    (hg : ∀ (s : Shared) (H : Hp) (C : Addr) (cl : List (Str × Addr)) (fp : List Addr), DG tb [] (X.blk s H scope (compEnvC scope cl C X.env) fp) tg is Gf) (ht : ∀ (s : Shared) (H : Hp) (C : Addr) (cl : List (Str × Addr)) (fp : List Addr), DTs tb Wno (X.blk s H scope (compEnvC scope cl C X.env) fp) ifs Tf)
    (he : ∀ (s : Shared) (H : Hp) (C : Addr) (cl : List (Str × Addr)) (fp : List Addr), DE tb Wno (X.blk s H scope (compEnvC scope cl C X.env) fp) elt Ef) (hown : ∀ i ∈ is, i ∈ own.map (·.2) := by decide) (hs : ∀ x, foldedSetIterable iter X.env x = pure x := by intro _; rfl) :
    DS tb pin W X (.Assign [.Name y py] (.ListComp elt [⟨tg, iter, ifs, 0⟩] scope pos) spos) (sAs i (eLc (own.map (·.2)) If Gf Tf Ef)) :=
  (ps_setLc hc hN hy hyl hsw hi ok hg ht he hs).wk fun D σ H ⟨hp, δ, z, c, hE, w, h⟩ => lc_of (W := W) (Q := fun x H1 => gName i x σ H1 D.nx) hown (by
    refine go_S hp hE w h fun m δ1 v H1 z1 c1 cm hE1 r1 w1 s1 h1 => ?_
    split at h1
    · rename_i hl
      obtain ⟨c', h2, h3⟩ := aft_set hE1 hl r1
      exact h1 _ H1 ⟨pin_set hp hpn, z1, c', h2, w1.mono h3, (Step.refl _ _ _).mono h3⟩
    · exact h1.elim)
end
end FS
namespace FS
open PySem PySem.Spec L2
/-! ### arguments as a callee has them -/
inductive FR where
  | ret (m : M) (ms : List M)
  | ex (n : Nat) (ms : List M)
  | bad
abbrev Sem := List M → FR
inductive RpM (K : PySem.W.Frag) (tb : Nat → Addr) (H : Hp) (z : Zn) : List M → List V → Ct → Prop
  | nil {c : Ct} : (∀ a, c a = 0) → RpM K tb H z [] [] c
  | cons {m : M} {v : V} {ms : List M} {vs : List V} {c c1 c2 : Ct} : Rp K tb H z m v c1 → RpM K tb H z ms vs c2 → (∀ a, c a = c1 a + c2 a) → RpM K tb H z (m :: ms) (v :: vs) c
def spD (K : PySem.W.Frag) (tb : Nat → Addr) (np : Nat) (sem : Sem) : Sp := fun vs H Q E => ∃ ms z c, RpM K tb H z ms vs c ∧ Wf H z c ∧ ms.length = np ∧
  match sem ms with
  | .ret m ms' => ∀ v H' z' c' cm, RpM K tb H' z' ms' vs c' → Rp K tb H' z' m v cm → Wf H' z' (fun a => c' a + cm a) → Step H z c H' z' (fun a => c' a + cm a) → Q v H'
  | .ex n ms' => ∀ H' z' c', RpM K tb H' z' ms' vs c' → Wf H' z' c' → Step H z c H' z' c' → E (.ref (tb n)) none H'
  | .bad => False
section
variable {K : PySem.W.Frag} {tb : Nat → Addr} {pin : List (Nat × V)} {W : WX} {H H' H1 : Hp} {z z' z1 : Zn} {c c' c1 : Ct} {σ σ1 : St} {δ δ' : Env'} {X : Cx} {D : Ends}
variable {a b e : Expr} {F G : EF} {pos : Pos} {es : List Expr} {st : Stmt} {rest body : List Stmt} {S T U : SF} {A : AF}
theorem RpM.len : ∀ {ms : List M} {vs : List V} {c : Ct}, RpM K tb H z ms vs c → ms.length = vs.length
  | _, _, _, .nil _ => rfl
  | _, _, _, .cons _ r _ => congrArg (· + 1) (RpM.len r)
def takeA : List Arg → Env' → Option (List M × Env')
  | [], δ => some ([], δ)
  | .val m :: r, δ => (takeA r δ).map fun q => (m :: q.1, q.2)
  | .io i :: r, δ => match δ[i]? with
    | some (some m) => (takeA r (δ.set i none)).map fun q => (m :: q.1, q.2)
    | _ => none
def putA : List Arg → List M → Env' → Env'
  | .val _ :: r, _ :: ms, δ => putA r ms δ
  | .io i :: r, m :: ms, δ => (putA r ms δ).set i (some m)
  | _, _, δ => δ
theorem takeA_of : ∀ {as : List Arg} {δ : Env'} {ms : List M} {δ2 : Env'} {vs : List V} {c : Ct}, RpG K tb H z σ as vs → RpE K tb H z δ σ c → takeA as δ = some (ms, δ2) →
    ∃ cm c2, RpM K tb H z ms vs cm ∧ RpE K tb H z δ2 σ c2 ∧ (∀ a, c a = cm a + c2 a) ∧ δ2.length = δ.length
  | _, _, _, _, _, c, .nil, hE, e => by
    cases e
    exact ⟨zero, c, .nil fun _ => rfl, hE, fun a => by show _ = 0 + _; omega, rfl⟩
  | _, δ, _, _, _, c, .val (as := as) h r, hE, e => by
    unfold takeA at e
    cases q : takeA as δ with
    | none => rw [q] at e; cases e
    | some p =>
      obtain ⟨ms, δ2⟩ := p
      rw [q] at e
      cases e
      obtain ⟨cm, c2, h1, h2, h3, h4⟩ := takeA_of r hE q
      exact ⟨cm, c2, .cons (c1 := zero) h h1 fun a => by show _ = 0 + _; omega, h2, h3, h4⟩
  | _, δ, _, _, _, c, .io (i := i) (as := as) h r, hE, e => by
    unfold takeA at e
    cases q0 : δ[i]? with
    | none => rw [q0] at e; cases e
    | some o =>
      rw [q0] at e
      cases o with
      | none => cases e
      | some m =>
        dsimp only at e
        obtain ⟨v, d1, d2, e1, e2, e3, e4⟩ := hE.get q0
        rw [h] at e1
        cases e1
        cases q : takeA as (δ.set i none) with
        | none => rw [q] at e; cases e
        | some p =>
          obtain ⟨ms, δ2⟩ := p
          rw [q] at e
          cases e
          obtain ⟨cm, c2, h1, h2, h3, h4⟩ := takeA_of r e4 q
          exact ⟨fun a => d1 a + cm a, c2, .cons e2 h1 fun _ => rfl, h2, fun a => by have := e3 a; have := h3 a; show c a = d1 a + cm a + c2 a; omega, by rw [h4, List.length_set]⟩
theorem putA_of : ∀ {as : List Arg} {δ : Env'} {ms : List M} {vs : List V} {cm c2 : Ct}, RpG K tb H1 z1 σ as vs → RpM K tb H z ms vs cm → RpE K tb H z δ σ c2 → (∀ i, .io i ∈ as → i < δ.length) →
    ∃ c', RpE K tb H z (putA as ms δ) σ c' ∧ (∀ a, c' a ≤ cm a + c2 a) ∧ (putA as ms δ).length = δ.length
  | _, _, _, _, cm, c2, .nil, hM, hE, hl => ⟨c2, by cases hM; exact hE, fun a => Nat.le_add_left _ _, by cases hM; rfl⟩
  | _, δ, _, _, cm, c2, .val h r, .cons (c1 := d1) (c2 := d2) _ hM e, hE, hl => by
    obtain ⟨c', h1, h2, h3⟩ := putA_of r hM hE fun i hi => hl i (List.mem_cons_of_mem _ hi)
    exact ⟨c', h1, fun a => by have := h2 a; have := e a; omega, h3⟩
  | _, δ, _, _, cm, c2, .io (i := i) h r, .cons (c1 := d1) (c2 := d2) hm hM e, hE, hl => by
    obtain ⟨c', h1, h2, h3⟩ := putA_of r hM hE fun i hi => hl i (List.mem_cons_of_mem _ hi)
    obtain ⟨c3, h4, h5⟩ := h1.drop i
    have hi := hl i List.mem_cons_self
    unfold putA
    exact ⟨fun a => d1 a + c3 a, RpE.put h5 (by rw [h3]; exact hi) h hm, fun a => by have := h2 a; have := e a; have := h4 a; show d1 a + c3 a ≤ _; omega, by rw [List.length_set, h3]⟩
def eCl (sem : Sem) (A : AF) : EF := fun δ => (A δ).bind fun as δ1 => match takeA as δ1 with
  | none => .bad
  | some p => match sem p.1 with
    | .ret m ms' => .ok m (putA as ms' p.2)
    | .ex n ms' => .ex n (putA as ms' p.2)
    | .bad => .bad
theorem takeA_io : ∀ {as : List Arg} {δ : Env'} {ms : List M} {δ2 : Env'}, takeA as δ = some (ms, δ2) → ∀ i, .io i ∈ as → i < δ.length
  | [], _, _, _, _, _, hi => by cases hi
  | .val m :: as, δ, _, _, e, i, hi => by
    unfold takeA at e
    cases q : takeA as δ with
    | none => rw [q] at e; cases e
    | some p => exact takeA_io (δ2 := p.2) (ms := p.1) q i (by cases hi with | tail _ h => exact h)
  | .io j :: as, δ, _, _, e, i, hi => by
    unfold takeA at e
    cases q0 : δ[j]? with
    | none => rw [q0] at e; cases e
    | some o =>
      rw [q0] at e
      cases o with
      | none => cases e
      | some m =>
        dsimp only at e
        cases hi with
        | head => exact lt_of_get q0
        | tail _ h =>
          cases q : takeA as (δ.set j none) with
          | none => rw [q] at e; cases e
          | some p =>
            have := takeA_io (δ2 := p.2) (ms := p.1) q i h
            rwa [List.length_set] at this
/-- a def that can be called -/
structure Cal (P : Program) (w : World) (K : PySem.W.Frag) (mg : Str → Option Value) (base : Heap) (tb : Nat → Addr) (k : Nat) (x : Str) (ps : List Str) (sem : Sem) : Prop where
  ex : ∃ f fd, FnOk P w K mg base (L2.CX P w) k f fd ps (spD K tb ps.length sem) ∧ mg x = some (.ref f) ∧ PySem.W.keepIn K (.ref f) = true ∧ Binds K fd ps []
theorem call_of {sem : Sem} {np : Nat} {Q : VK} (h : tD K tb W (eCl sem A) σ H Q) (hnp : ∀ as δ δ1 p, A δ = .ok as δ1 → takeA as δ1 = some p → p.1.length = np) : tCallSD (spD K tb np sem) [] (WE W) (tA K tb W A) σ H Q := by
  obtain ⟨δ, z, c, hE, w, h⟩ := h
  refine ⟨δ, z, c, hE, w, ?_⟩
  unfold eCl at h
  cases e1 : A δ with
  | bad => rw [e1] at h; exact h
  | ex n δ1 => rw [e1] at h; exact h
  | ok as δ1 =>
    rw [e1] at h
    intro vs H1 z1 c1 hE1 g1 w1 s1
    have h : Out K tb W H z c σ (match takeA as δ1 with
      | none => .bad
      | some p => match sem p.1 with
        | .ret m ms' => .ok m (putA as ms' p.2)
        | .ex n ms' => .ex n (putA as ms' p.2)
        | .bad => .bad) Q := h
    cases e2 : takeA as δ1 with
    | none => rw [e2] at h; exact h.elim
    | some p =>
      rw [e2] at h
      dsimp only at h
      obtain ⟨ms, δ2⟩ := p
      obtain ⟨cm, c2, hM, hE2, hc, hl⟩ := takeA_of g1 hE1 e2
      have hio : ∀ i, Arg.io i ∈ as → i < δ2.length := fun i hi => by rw [hl]; exact takeA_io e2 i hi
      have w2 : Wf H1 z1 (fun a => cm a + c2 a) := w1.congr hc
      have wm : Wf H1 z1 cm := w2.mono fun a => Nat.le_add_right _ _
      rw [List.append_nil]
      refine ⟨ms, z1, cm, hM, wm, hnp as δ δ1 _ e1 e2, ?_⟩
      have s1' : Step H z c H1 z1 (fun a => cm a + c2 a) := s1.congr (fun _ => rfl) hc
      cases e3 : sem ms with
      | bad => rw [e3] at h; exact h
      | ret m ms' =>
        rw [e3] at h
        intro v H' z' c' cr hM' hR' w' s'
        obtain ⟨k, wt, st⟩ := Step.frame w2 w' s'
        have hE' := hE2.mono s'.zin (s'.on wm) fun a q => k a q
        obtain ⟨c3, h1, h2, _⟩ := putA_of g1 hM' hE' hio
        have hle : ∀ a, c3 a + cr a ≤ c' a + cr a + c2 a := fun a => by have := h2 a; omega
        exact h v H' ⟨z', c3, cr, h1, hR', wt.mono hle, (s1'.trans w2 st).mono hle⟩
      | ex n ms' =>
        rw [e3] at h
        intro H' z' c' hM' w' s'
        obtain ⟨k, wt, st⟩ := Step.frame w2 w' s'
        have hE' := hE2.mono s'.zin (s'.on wm) fun a q => k a q
        obtain ⟨c3, h1, h2, _⟩ := putA_of g1 hM' hE' hio
        exact h H' ⟨z', c3, h1, wt.mono h2, (s1'.trans w2 st).mono h2⟩
/-- how many arguments -/
def ArgN (A : AF) (n : Nat) : Prop := ∀ δ as δ1, A δ = .ok as δ1 → as.length = n
theorem argN_nil : ArgN aN 0 := fun δ as δ1 h => by cases h; rfl
theorem argN_val {n : Nat} (h : ArgN A n) : ArgN (aV F A) (n + 1) := fun δ as δ1 e => by
  unfold aV at e
  cases e1 : F δ with
  | bad => rw [e1] at e; cases e
  | ex _ _ => rw [e1] at e; cases e
  | ok m δ2 =>
    rw [e1] at e
    have e : (A δ2).bind (fun as δ2 => R.ok (.val m.frz :: as) δ2) = .ok as δ1 := e
    cases e2 : A δ2 with
    | bad => rw [e2] at e; cases e
    | ex _ _ => rw [e2] at e; cases e
    | ok as' δ3 => rw [e2] at e; cases e; simp [h _ _ _ e2]
theorem argN_io {n i : Nat} (h : ArgN A n) : ArgN (aIo i A) (n + 1) := fun δ as δ1 e => by
  unfold aIo at e
  split at e
  · cases e2 : A δ with
    | bad => rw [e2] at e; cases e
    | ex _ _ => rw [e2] at e; cases e
    | ok as' δ3 => rw [e2] at e; cases e; simp [h _ _ _ e2]
  · cases e
theorem takeA_len : ∀ {as : List Arg} {δ : Env'} {p : List M × Env'}, takeA as δ = some p → p.1.length = as.length
  | [], _, _, e => by cases e; rfl
  | .val m :: as, δ, _, e => by
    unfold takeA at e
    cases q : takeA as δ with
    | none => rw [q] at e; cases e
    | some p => rw [q] at e; cases e; simp [takeA_len q]
  | .io j :: as, δ, _, e => by
    unfold takeA at e
    split at e
    · rename_i m _
      cases q : takeA as (δ.set j none) with
      | none => rw [q] at e; cases e
      | some p => rw [q] at e; cases e; simp [takeA_len q]
    · cases e
variable {k j : Nat} {x : Str} {ps : List Str} {sem : Sem} {p : Pos}
theorem de_call {n : Nat} (C : Cal X.prog X.w X.K X.mg X.base tb k x ps sem) (tk : Takes X W) (hr : Room j X.A) (hg : Gl X x) (ha : DA tb W X (e :: es) A) (hn : ArgN A n) (hkj : k ≤ j := by first | decide | omega) (hps : ps.length = n := by rfl) (hdb : (x == ("__debug__" : Str)) = false := by decide)
    (he : starEach (e :: es) X.env = (false, eval e X.env) :: starEach es X.env := by rfl) (hpl : (backTo pos (starEach es X.env)).any (·.1) = false := by rfl) :
    DE tb W X (.Call (.Name x p) (e :: es) [] pos) (eCl sem A) := by
  obtain ⟨f, fd, F, hm, hk, hb⟩ := C.ex
  exact (pe_callSD F (hr.mono hkj) hg hm hk hb .nil (fun σ => passAt tk σ) ha hdb he hpl).wk fun σ H Q h => call_of h fun as δ δ1 p e1 e2 => by rw [takeA_len e2, hn _ _ _ e1, hps]
/-- without an argument; nothing is raised -/
def eCl0 (sem : Sem) : EF := fun δ => match sem [] with
  | .ret m _ => .ok m δ
  | _ => .bad
theorem de_call0 (C : Cal X.prog X.w X.K X.mg X.base tb k x [] sem) (hr : Room j X.A) (hg : Gl X x) (hkj : k ≤ j := by first | decide | omega) (hdb : (x == ("__debug__" : Str)) = false := by decide) : DE tb W X (.Call (.Name x p) [] [] pos) (eCl0 sem) := by
  obtain ⟨f, fd, F, hm, hk, hb⟩ := C.ex
  refine (pe_call0 F (hr.mono hkj) hg hm hk hb .nil passL hdb).wk fun σ H Q ⟨δ, z, c, hE, w, h⟩ => ?_
  refine ⟨[], z, zero, .nil fun _ => rfl, w.mono fun _ => Nat.zero_le _, rfl, ?_⟩
  unfold eCl0 at h
  cases e : sem [] with
  | bad => rw [e] at h; exact h
  | ex _ _ => rw [e] at h; exact h.elim
  | ret m ms' =>
    rw [e] at h
    intro v H' z' c' cr hM' hR' w' s'
    have w2 : Wf H z (fun a => zero a + c a) := w.congr fun a => by show c a = 0 + c a; omega
    obtain ⟨k, wt, st⟩ := Step.frame w2 w' s'
    have hE' := hE.mono s'.zin (s'.on (w.mono fun _ => Nat.zero_le _)) fun a q => k a q
    have hle : ∀ a, c a + cr a ≤ c' a + cr a + c a := fun a => by omega
    exact h v H' ⟨z', c, cr, hE', hR', wt.mono hle, (st.mono hle).congr (fun a => by show 0 + c a = c a; omega) fun _ => rfl⟩
/-! ### a def -/
def frzM : M → Bool
  | .v (.fz _) => true
  | .o false _ _ => true
  | _ => false
/-- what is lent must be handed back; the rest is frozen -/
def okArgs (io : List Nat) : Nat → List M → Bool
  | _, [] => true
  | i, m :: ms => (decide (i ∈ io) || frzM m) && okArgs io (i + 1) ms
def backA (io : List Nat) : Nat → List M → Env' → Option (List M)
  | _, [], _ => some []
  | i, m :: ms, o :: δ => if i ∈ io then (match o with
      | some m' => (backA io (i + 1) ms δ).map (m' :: ·)
      | none => none) else (backA io (i + 1) ms δ).map (m :: ·)
  | _, _ :: _, [] => none
def frOf (io : List Nat) (ms : List M) : SR → FR
  | .nx δ => match backA io 0 ms δ with
    | some ms' => .ret (.fz .none) ms'
    | none => .bad
  | .rt m δ => match backA io 0 ms δ with
    | some ms' => .ret m ms'
    | none => .bad
  | .ex n δ => match backA io 0 ms δ with
    | some ms' => .ex n ms'
    | none => .bad
  | _ => .bad
def semOf (n np : Nat) (io : List Nat) (S : SF) : Sem := fun ms => if ms.length = np ∧ okArgs io 0 ms = true then frOf io ms (S (ms.map some ++ List.replicate (n - np) none)) else .bad
def pinL (io : List Nat) (vs : List V) : List (Nat × V) := io.map fun i => (i, vs.getD i .non)
theorem RpM.env : ∀ {ms : List M} {vs : List V} {c : Ct} (n : Nat), RpM K tb H z ms vs c → RpE K tb H z (ms.map some ++ List.replicate n none) (vs.map some ++ List.replicate n none) c
  | _, _, _, 0, .nil e => .nil e
  | _, _, _, n + 1, .nil e => .no (RpM.env n (.nil e))
  | _, _, _, n, .cons h r e => .yes h (RpM.env n r) e
theorem frzM_zero {m : M} {v : V} (h : Rp K tb H z m v c) (e : frzM m = true) : ∀ a, c a = 0 := by
  cases h with
  | v r =>
    cases r with
    | fz _ q => exact q
    | lst _ _ _ => cases e
    | dik _ _ _ => cases e
    | dit _ _ _ => cases e
  | ins _ _ _ => cases e
  | fin _ _ _ _ q => exact q
theorem backA_of {io : List Nat} : ∀ {ms : List M} {vs : List V} {i : Nat} {δ : Env'} {σ : St} {ms' : List M} {c c' : Ct}, RpM K tb H z ms vs c → okArgs io i ms = true → RpE K tb H' z' δ σ c' → backA io i ms δ = some ms' → (∀ a, z a → z' a) → (∀ a, z a → H' a = H a) →
    (∀ j v, i + j ∈ io → vs[j]? = some v → σ[j]? = some (some v)) → ∃ c2, RpM K tb H' z' ms' vs c2 ∧ ∀ a, c2 a ≤ c' a
  | [], _, _, _, _, _, _, c', .nil _, _, _, e, _, _, _ => by
    cases e
    exact ⟨zero, .nil fun _ => rfl, fun _ => Nat.zero_le _⟩
  | m :: ms, _, i, [], _, _, _, _, .cons _ _ _, _, _, e, _, _, _ => by cases e
  | m :: ms, v :: vs, i, o :: δ, x :: σ, ms', c, c', .cons h r hc, ok, hE, e, hz, hH, hp => by
    have ok' := Bool.and_eq_true_iff.mp (show ((decide (i ∈ io) || frzM m) && okArgs io (i + 1) ms) = true from ok)
    have hp' : ∀ j w, i + 1 + j ∈ io → vs[j]? = some w → σ[j]? = some (some w) := fun j w h1 h2 => by
      have := hp (j + 1) w (by rwa [show i + (j + 1) = i + 1 + j by omega]) (by simpa using h2)
      simpa using this
    unfold backA at e
    by_cases hi : i ∈ io
    · rw [if_pos hi] at e
      cases o with
      | none => cases e
      | some m' =>
        dsimp only at e
        cases q : backA io (i + 1) ms δ with
        | none => rw [q] at e; cases e
        | some ms2 =>
          rw [q] at e
          cases e
          have hx : x = some v := by simpa using hp 0 v (by simpa using hi) rfl
          subst hx
          cases hE with
          | yes hm hr hcc =>
            rename_i d1 d2
            obtain ⟨c2, h1, h2⟩ := backA_of r ok'.2 hr q hz hH hp'
            exact ⟨fun a => d1 a + c2 a, .cons hm h1 fun _ => rfl, fun a => by have := h2 a; have := hcc a; show d1 a + c2 a ≤ _; omega⟩
    · rw [if_neg hi] at e
      cases q : backA io (i + 1) ms δ with
      | none => rw [q] at e; cases e
      | some ms2 =>
        rw [q] at e
        cases e
        have fm : frzM m = true := by
          have := ok'.1
          simpa [hi] using this
        have z0 := frzM_zero h fm
        have h' := h.mono (H' := H') hz hH fun a q => by rw [z0] at q; exact absurd q (Nat.lt_irrefl _)
        have tail : ∃ d, RpE K tb H' z' δ σ d ∧ ∀ a, d a ≤ c' a := by
          cases hE with
          | no hr => exact ⟨_, hr, fun _ => Nat.le_refl _⟩
          | yes hm hr hcc => exact ⟨_, hr, fun a => by have := hcc a; omega⟩
        obtain ⟨d, hd1, hd2⟩ := tail
        obtain ⟨c2, h1, h2⟩ := backA_of r ok'.2 hd1 q hz hH hp'
        exact ⟨c2, .cons h' h1 fun a => by rw [z0]; omega, fun a => Nat.le_trans (h2 a) (hd2 a)⟩
  | m :: ms, _ :: _, i, o :: δ, [], _, _, _, .cons _ _ _, _, hE, _, _, _, _ => by cases hE
end
/-- a wish of the body's -/
abbrev WOf (E : XK) : WX := fun cls d _ H => E cls d H
section
variable {P : Program} {w : World} {K : PySem.W.Frag} {mg : Str → Option Value} {base : Heap} {tb : Nat → Addr}
theorem pinOk_start {io : List Nat} {n : Nat} {vs : List V} (h : ∀ i ∈ io, i < vs.length) : pinOk (pinL io vs) (vs.map some ++ List.replicate n none) := fun p hp => by
  obtain ⟨i, hi, rfl⟩ := List.mem_map.mp hp
  have hl := h i hi
  rw [List.getElem?_append_left (by simpa using hl)]
  simp [List.getD, hl]
theorem fn_D {x qual : Str} {st : Stmt} {f : Addr} {fd : FuncData} {N ps : List Str} {k : Nat} (F : FunD K x qual (defArgs st) (defBody st) (defScope st) [] [] f fd) (S0 : FnScope N ps (defScope st)) (io : List Nat) (S : SF) (hio : (io.all fun i => decide (i < ps.length)) = true)
    (hb : ∀ (cdv : Value) (A : Around) (outer : List Env) (s : Shared) (H : Hp) (vs : List V) (E : XK), Room k (A.deeper (PyProof.Rows.envOfC qual (defScope st) s.heap.objs.size f cdv)) →
      Takes (cxOf (L2.CX P w) P w K mg base N qual (defScope st) f cdv A outer s H E) (WOf E) →
      PassesOwn (model P w) (cxOf (L2.CX P w) P w K mg base N qual (defScope st) f cdv A outer s H E).A (cxOf (L2.CX P w) P w K mg base N qual (defScope st) f cdv A outer s H E).env (cxOf (L2.CX P w) P w K mg base N qual (defScope st) f cdv A outer s H E).xe →
      DB tb (pinL io vs) (WOf E) (cxOf (L2.CX P w) P w K mg base N qual (defScope st) f cdv A outer s H E) (defBody st) S) :
    FnOk P w K mg base (L2.CX P w) (k + 1) f fd ps (spD K tb ps.length (semOf N.length ps.length io S)) := by
  refine F.ok S0 (fun vs H Q E ⟨ms, z, c, hM, _, hl, _⟩ => by rw [← hM.len]; exact hl) fun cdv A outer s H vs Q E hr ⟨ms, z, c, hM, w, hl, h⟩ => ?_
  refine ⟨_, hb cdv A outer s H vs E hr (takes_of rfl rfl rfl rfl) (passes_of rfl), ?_⟩
  have hlv : vs.length = ps.length := by rw [← hM.len]; exact hl
  have hio' : ∀ i ∈ io, i < vs.length := fun i hi => by rw [hlv]; exact of_decide_eq_true (List.all_eq_true.mp hio i hi)
  have hst : L2.start N vs = vs.map some ++ List.replicate (N.length - ps.length) none := by unfold L2.start; rw [hlv]
  rw [hst]
  refine ⟨pinOk_start hio', ms.map some ++ List.replicate (N.length - ps.length) none, z, c, RpM.env _ hM, w, ?_⟩
  unfold semOf at h
  by_cases hok : ms.length = ps.length ∧ okArgs io 0 ms = true
  case neg => rw [if_neg hok] at h; exact h.elim
  rw [if_pos hok] at h
  have hpin : ∀ {σ : St}, pinOk (pinL io vs) σ → ∀ j v, 0 + j ∈ io → vs[j]? = some v → σ[j]? = some (some v) := fun {σ} hp j v hj hv => by
    rw [Nat.zero_add] at hj
    have := hp (j, vs.getD j .non) (List.mem_map.mpr ⟨j, hj, rfl⟩)
    simpa [List.getD, hv] using this
  cases e : S (ms.map some ++ List.replicate (N.length - ps.length) none) with
  | bad => rw [e] at h; exact h
  | bk _ => rw [e] at h; exact h.elim
  | ct _ => rw [e] at h; exact h.elim
  | nx δ' =>
    rw [e] at h
    intro σ' H' ⟨hp, z', c', hE, w', s'⟩
    unfold frOf at h
    dsimp only at h
    cases q : backA io 0 ms δ' with
    | none => rw [q] at h; exact h.elim
    | some ms' =>
      rw [q] at h
      obtain ⟨c2, h1, h2⟩ := backA_of hM hok.2 hE q s'.zin (s'.on w) (hpin hp)
      have hle : ∀ a, c2 a + zero a ≤ c' a := fun a => by have := h2 a; show c2 a + 0 ≤ _; omega
      exact h .non H' z' c2 zero h1 (.v (.fz .non fun _ => rfl)) (w'.mono hle) (s'.mono hle)
  | rt m δ' =>
    rw [e] at h
    intro v σ' H' ⟨hp, z', c', cm, hE, hR, w', s'⟩
    unfold frOf at h
    dsimp only at h
    cases q : backA io 0 ms δ' with
    | none => rw [q] at h; exact h.elim
    | some ms' =>
      rw [q] at h
      obtain ⟨c2, h1, h2⟩ := backA_of hM hok.2 hE q s'.zin (s'.on w) (hpin hp)
      have hle : ∀ a, c2 a + cm a ≤ c' a + cm a := fun a => by have := h2 a; omega
      exact h v H' z' c2 cm h1 hR (w'.mono hle) (s'.mono hle)
  | ex n δ' =>
    rw [e] at h
    intro σ' H' ⟨hp, z', c', hE, w', s'⟩
    unfold frOf at h
    dsimp only at h
    cases q : backA io 0 ms δ' with
    | none => rw [q] at h; exact h.elim
    | some ms' =>
      rw [q] at h
      obtain ⟨c2, h1, h2⟩ := backA_of hM hok.2 hE q s'.zin (s'.on w) (hpin hp)
      exact h H' z' c2 h1 (w'.mono h2) (s'.mono h2)
/-- a def that is never run -/
theorem fn_bad {x qual : Str} {st : Stmt} {f : Addr} {fd : FuncData} {ps : List Str} {k : Nat} : FnOk P w K mg base (L2.CX P w) k f fd ps (spD K tb ps.length fun _ => .bad) :=
  ⟨fun vs H Q E ⟨ms, z, c, hM, _, hl, _⟩ => by rw [← hM.len]; exact hl, fun A outer s H args us vs Q E _ _ _ _ ⟨ms, z, c, hM, w, hl, h⟩ => h.elim⟩
/-- the law -/
def spLaw (K : PySem.W.Frag) : Sp := fun vs H Q _ => ∃ (a : Addr) (ns : List Int), vs = [.ref a] ∧ ns.length ≤ 63 ∧ SqL K H a (ns.map V.int) ∧ ∀ H', Q (.bl true) H'
theorem fn_law {x qual : Str} {st : Stmt} {f : Addr} {fd : FuncData} {N : List Str} {k : Nat} (F : FunD K x qual (defArgs st) (defBody st) (defScope st) [] [] f fd) (S0 : FnScope N ["script"] (defScope st)) (S : SF)
    (hS : ∀ ns : List Int, ns.length ≤ 63 → ∃ δ', S (some (.fz (.list (ns.map .int))) :: List.replicate (N.length - 1) none) = .rt (.fz (.bool true)) δ')
    (hb : ∀ (cdv : Value) (A : Around) (outer : List Env) (s : Shared) (H : Hp) (vs : List V) (E : XK), Room k (A.deeper (PyProof.Rows.envOfC qual (defScope st) s.heap.objs.size f cdv)) →
      Takes (cxOf CX0 P w K mg base N qual (defScope st) f cdv A outer s H E).nox Wno →
      PassesOwn (model P w) (cxOf CX0 P w K mg base N qual (defScope st) f cdv A outer s H E).nox.A (cxOf CX0 P w K mg base N qual (defScope st) f cdv A outer s H E).nox.env (cxOf CX0 P w K mg base N qual (defScope st) f cdv A outer s H E).nox.xe →
      DB tb (pinL [] vs) Wno (cxOf CX0 P w K mg base N qual (defScope st) f cdv A outer s H E).nox (defBody st) S) :
    FnOk P w K mg base CX0 (k + 1) f fd ["script"] (spLaw K) := by
  refine F.ok S0 (fun vs H Q E ⟨a, ns, e, _⟩ => by rw [e]; rfl) fun cdv A outer s H vs Q E hr ⟨a, ns, e, hl, hq, h⟩ => ?_
  refine ⟨_, PSs.nox (hb cdv A outer s H vs E hr takes0 PassesOwn.never), ?_⟩
  subst e
  obtain ⟨δ', hδ⟩ := hS ns hl
  have fIn : ∀ (z : Zn) (ns : List Int), FzA K H z (ns.map .int) (ns.map V.int) := fun z ns => FzA.intsV ns
  have hst : L2.start N [V.ref a] = some (.ref a) :: List.replicate (N.length - 1) none := rfl
  rw [hst]
  have fin : ∀ z : Zn, (∀ b, z b → H b ≠ none) → ((z a ∧ Rd H a (.lst (ns.map V.int))) ∨ KcL K a (ns.map V.int)) → tS K tb (pinL [] [V.ref a]) Wno S { nx := fun _ H' => Q .non H', rt := Q } (some (.ref a) :: List.replicate (N.length - 1) none) H := fun z hz hh => by
    refine ⟨(fun p hp => nomatch hp), some (.fz (.list (ns.map .int))) :: List.replicate (N.length - 1) none, z, zero, RpM.env (vs := [.ref a]) (ms := [.fz (.list (ns.map .int))]) _ (.cons (c1 := zero) (c2 := zero) (.v (.fz (.lst hh (fIn z ns)) fun _ => rfl)) (.nil fun _ => rfl) fun _ => rfl), ⟨hz, fun _ _ => rfl, fun _ => Nat.zero_le _, fun _ q => absurd q (Nat.lt_irrefl _)⟩, ?_⟩
    rw [hδ]
    intro v σ' H' ⟨_, z', c', cm, _, hR, _⟩
    have ev : v = .bl true := by cases hR with | v r => cases r with | fz f _ => exact f.bool_
    rw [ev]
    exact h H'
  rcases hq with hq | hq
  · refine fin (fun b => b = a) (fun b e => ?_) (.inl ⟨rfl, hq⟩)
    rw [e]
    rcases hq with hq | ⟨o, hq⟩ <;> (rw [hq]; exact fun z => nomatch z)
  · exact fin (fun _ => False) (fun _ q => q.elim) (.inr hq)
end
/-! ### raise, try -/
abbrev veB : List Value := [.type "ValueError", .type "Exception", .type "BaseException", .type "object"]
/-- an exception class of the text -/
structure ExcC (K : PySem.W.Frag) (mg : Str → Option Value) (x : Str) (a : Addr) : Prop where
  q : PySem.W.excIn K a veB "ValueError.__new__" = true
  g : mg x = some (.ref a)
  k : PySem.W.keepIn K (.ref a) = true
  b : PySem.W.subIn K (.ref a) (.type "BaseException") = some true
  t : PySem.W.typeIn K (.ref a) = some (.type "type")
section
variable {K : PySem.W.Frag} {tb : Nat → Addr} {pin : List (Nat × V)} {W : WX} {H H' H1 : Hp} {z z' z1 : Zn} {c c' c1 : Ct} {σ σ1 : St} {δ δ' : Env'} {X : Cx} {D : Ends}
variable {a b e : Expr} {F G : EF} {pos p p2 p3 : Pos} {es : List Expr} {st : Stmt} {rest body : List Stmt} {S T U : SF} {A : AF} {x m : Str} {n j : Nat}
def sRs (n : Nat) : SF := fun δ => .ex n δ
theorem raise_of {n : Nat} (h : tS K tb pin W (sRs n) D σ H) : W (.ref (tb n)) none σ H := by
  obtain ⟨hp, δ, z, c, hE, w, h⟩ := h
  exact h σ H ⟨hp, z, c, hE, w, Step.refl _ _ _⟩
theorem ds_raise (n : Nat) (hc : X.calm = true) (tk : Takes X W) (C : ExcC X.K X.mg x (tb n)) (hg : Gl X x) (hdb : (x == ("__debug__" : Str)) = false := by decide) : DS tb pin W X (.Raise (some (.Call (.Name x p) [.Constant (.str m) j p2] [] pos)) none p3) (sRs n) :=
  (ps_raise hc tk (pmk_own PySem.F.excBase_ValueError C.q C.g C.k (raises_own C.b C.t) hg hdb)).wk fun D σ H h => raise_of h
/-- class n is caught by class c: all are below the one with the number 0 -/
def subX (n c : Nat) : Bool := decide (n = c) || decide (c = 0)
def pick : List (Nat × SF) → Nat → SF
  | [], n, δ => .ex n δ
  | (c, S) :: r, n, δ => if subX n c then S δ else pick r n δ
def sTr (B : SF) (hs : List (Nat × SF)) : SF := fun δ => match B δ with
  | .ex n δ1 => pick hs n δ1
  | r => r
/-- no exception leaves the except suites -/
inductive HdsD (tb : Nat → Addr) (pin : List (Nat × V)) (X : Cx) : List ExceptHandler → List (Nat × SF) → Prop
  | nil : HdsD tb pin X [] []
  | cons {x : Str} {c : Nat} {S : SF} {b₀ : Stmt} {suite : List Stmt} {np pos' : Pos} {hds : List ExceptHandler} {l : List (Nat × SF)} (hc : Names X x (.ref (tb c)))
      (hsu : ∀ (a : Addr) (pn : List (Addr × Obj)), DB tb pin Wno (X.suite a pn) (b₀ :: suite) S) (r : HdsD tb pin X hds l) : HdsD tb pin X (.ExceptHandler (some (.Name x np)) none (b₀ :: suite) pos' :: hds) ((c, S) :: l)
theorem HdsD.ok : ∀ {hds : List ExceptHandler} {l : List (Nat × SF)}, HdsD tb pin X hds l → HdsOk X hds (l.map fun q => (.ref (tb q.1), fun _ _ _ => tS X.K tb pin Wno q.2))
  | _, _, .nil => .nil
  | _, _, .cons hc hsu r => .cons hc (fun a oe cls d pn _ _ => hsu a ((a, oe) :: pn)) (HdsD.ok r)
theorem Names.exc {c : Nat} (C : ExcC X.K X.mg x (tb c)) (hg : Gl X x) (hdb : (x == ("__debug__" : Str)) = false := by decide) : Names X x (.ref (tb c)) := ⟨hg, hdb, .inl C.g⟩
theorem OutS.wno {S : SF} (hp : pinOk pin σ) (hE : RpE K tb H z δ σ c) (w : Wf H z c) (hn : ∀ n δ', S δ ≠ .ex n δ') (h : OutS K tb pin W H z c (S δ) D) : tS K tb pin Wno S D σ H := by
  refine ⟨hp, δ, z, c, hE, w, ?_⟩
  cases e : S δ with
  | nx δ1 => rw [e] at h; exact h
  | rt m δ1 => rw [e] at h; exact h
  | bk δ1 => rw [e] at h; exact h
  | ct δ1 => rw [e] at h; exact h
  | ex n δ1 => exact absurd e (hn n δ1)
  | bad => rw [e] at h; exact h
/-- the semantics of a suite that raises is bad -/
def noEx (S : SF) : SF := fun δ => match S δ with
  | .ex _ _ => .bad
  | r => r
def noExs : List (Nat × SF) → List (Nat × SF)
  | [] => []
  | (c, S) :: r => (c, noEx S) :: noExs r
theorem pick_of : ∀ {l : List (Nat × SF)} {n : Nat}, (∀ q ∈ l, PySem.W.exmOne K (.ref (tb n)) (.ref (tb q.1)) = some (subX n q.1)) → pinOk pin σ → RpE K tb H z δ σ c → Wf H z c →
    OutS K tb pin W H z c (pick (noExs l) n δ) D → wMany K W D (l.map fun q => (.ref (tb q.1), fun _ _ _ => tS K tb pin Wno q.2)) (.ref (tb n)) none σ H
  | [], n, _, hp, hE, w, h => h σ H ⟨hp, z, c, hE, w, Step.refl _ _ _⟩
  | (c0, S) :: l, n, hs, hp, hE, w, h => by
    unfold noExs pick at h
    refine ⟨subX n c0, hs (c0, S) List.mem_cons_self, fun hb a _ => ?_, fun hb => ?_⟩
    · rw [if_pos hb] at h
      have h : OutS K tb pin W H z c (noEx S δ) D := h
      unfold noEx at h
      cases e2 : S δ with
      | ex k δ1 => rw [e2] at h; exact h.elim
      | nx δ1 => rw [e2] at h; exact OutS.wno (W := W) (S := S) hp hE w (fun n δ' q => by rw [e2] at q; cases q) (by rw [e2]; exact h)
      | rt m δ1 => rw [e2] at h; exact OutS.wno (W := W) (S := S) hp hE w (fun n δ' q => by rw [e2] at q; cases q) (by rw [e2]; exact h)
      | bk δ1 => rw [e2] at h; exact OutS.wno (W := W) (S := S) hp hE w (fun n δ' q => by rw [e2] at q; cases q) (by rw [e2]; exact h)
      | ct δ1 => rw [e2] at h; exact OutS.wno (W := W) (S := S) hp hE w (fun n δ' q => by rw [e2] at q; cases q) (by rw [e2]; exact h)
      | bad => rw [e2] at h; exact h.elim
    · rw [if_neg (by rw [hb]; exact Bool.false_ne_true)] at h
      exact pick_of (fun q hq => hs q (List.mem_cons_of_mem _ hq)) hp hE w h
theorem ds_try {h₀ : ExceptHandler} {hds : List ExceptHandler} {l : List (Nat × SF)} (hs : ∀ n, ∀ q ∈ l, PySem.W.exmOne X.K (.ref (tb n)) (.ref (tb q.1)) = some (subX n q.1)) (hst : X.stack = X.env :: X.outer) (hf : X.env.frame = some X.env.locals) (tk : Takes X W)
    (hb : ∀ (W : WX) (pn : List (Addr × Obj)) (xe : Value → Shared → Prop), Takes (X.tr pn xe) W → PassesOwn (model X.prog X.w) X.A X.env xe → DB tb pin W (X.tr pn xe) body S) (hh : HdsD tb pin X (h₀ :: hds) l) :
    DS tb pin W X (.Try body (h₀ :: hds) [] [] pos) (sTr S (noExs l)) :=
  (ps_try_many (tb := fun W => tS X.K tb pin W S) hst hf tk hb hh.ok).wk fun D σ H ⟨hp, δ, z, c, hE, w, h⟩ => by
    refine ⟨hp, δ, z, c, hE, w, ?_⟩
    unfold sTr at h
    cases e : S δ with
    | nx δ1 => rw [e] at h; exact h
    | rt m δ1 => rw [e] at h; exact h
    | bk δ1 => rw [e] at h; exact h
    | ct δ1 => rw [e] at h; exact h
    | bad => rw [e] at h; exact h
    | ex n δ1 =>
      rw [e] at h
      intro σ' H' ⟨hp', z', c', hE', w', s'⟩
      exact pick_of (hs n) hp' hE' w' (OutS.step s' w' h)
end
end FS
namespace FS
open PySem PySem.Spec L2
section
variable {K : PySem.W.Frag} {tb : Nat → Addr} {pin : List (Nat × V)} {W : WX} {H H' H1 : Hp} {z z' z1 : Zn} {c c' c1 : Ct} {σ σ1 : St} {δ δ' : Env'} {X : Cx} {D : Ends}
variable {a b e : Expr} {F G : EF} {pos p apos : Pos} {es : List Expr} {st : Stmt} {rest body : List Stmt} {S T U : SF} {A : AF} {x m : Str} {n i j : Nat}
/-! ### a list of one's own in a slot -/
theorem RpE.getV {i : Nat} {m : M} (hE : RpE K tb H z δ σ c) (hi : δ[i]? = some (some m)) : ∃ v, σ[i]? = some (some v) := by
  obtain ⟨v, _, _, e, _⟩ := hE.get hi
  exact ⟨v, e⟩
theorem own_lst {i : Nat} {ls : List L} (hE : RpE K tb H z δ σ c) (hi : δ[i]? = some (some (.v (.lst ls)))) :
    ∃ a vs ca cr, σ[i]? = some (some (.ref a)) ∧ H a = some (.lst vs) ∧ RpA K H z ls vs ca ∧ (∀ b, c b = one a b + ca b + cr b) ∧ RpE K tb H z (δ.set i none) σ cr := by
  obtain ⟨v, c1, c2, e1, e2, e3, e4⟩ := hE.get hi
  cases e2 with
  | v r =>
    cases r with
    | lst h r e => exact ⟨_, _, _, c2, e1, h, r, fun b => by rw [e3, e], e4⟩
theorem own_put {i : Nat} {a : Addr} {ls : List L} {vs : List V} {ca cr : Ct} (hl : i < δ.length) (hv : σ[i]? = some (some (.ref a))) (hA : RpA K H z ls vs ca) (hE : RpE K tb H z (δ.set i none) σ cr)
    (w : Wf H z fun b => one a b + ca b + cr b) : RpE K tb (upd H a (.lst vs)) z (δ.set i (some (.v (.lst ls)))) σ fun b => one a b + ca b + cr b := by
  have c0 : one a a + ca a + cr a ≤ 1 := w.c1 a
  have z0 : ∀ b, z b → b ≠ a := fun b q e => by
    have h : one a b + ca b + cr b = 0 := w.zc b q
    rw [e, one_self] at h
    omega
  rw [one_self] at c0
  have nca : ∀ b, 0 < ca b → b ≠ a := fun b q e => by rw [e] at q; omega
  have ncr : ∀ b, 0 < cr b → b ≠ a := fun b q e => by rw [e] at q; omega
  have hE' := hE.mono (H' := upd H a (.lst vs)) (fun _ q => q) (fun b q => upd_ne (z0 b q)) fun b q => upd_ne (ncr b q)
  have hA' := hA.mono (H' := upd H a (.lst vs)) (fun _ q => q) (fun b q => upd_ne (z0 b q)) fun b q => upd_ne (nca b q)
  exact RpE.put hE' hl hv (.v (.lst upd_same hA' fun _ => rfl))
theorem RpA.len : ∀ {ls : List L} {vs : List V} {c : Ct}, RpA K H z ls vs c → ls.length = vs.length
  | _, _, _, .nil _ => rfl
  | _, _, _, .cons _ r _ => congrArg (· + 1) (RpA.len r)
theorem RpA.set : ∀ {ls : List L} {vs : List V} {c cm : Ct} (j : Nat) {l : L} {y : V}, RpA K H z ls vs c → RpL K H z l y cm → ∃ c', RpA K H z (ls.set j l) (vs.set j y) c' ∧ ∀ a, c' a ≤ c a + cm a
  | _, _, c, cm, j, _, _, .nil e, _ => ⟨c, .nil e, fun a => Nat.le_add_right _ _⟩
  | _, _, c, cm, 0, _, _, .cons (c1 := d1) (c2 := d2) h r e, q => ⟨fun a => cm a + d2 a, .cons q r fun _ => rfl, fun a => by have := e a; show cm a + d2 a ≤ _; omega⟩
  | _, _, c, cm, j + 1, _, _, .cons (c1 := d1) (c2 := d2) h r e, q => by
    obtain ⟨c', h1, h2⟩ := RpA.set j r q
    exact ⟨fun a => d1 a + c' a, .cons h h1 fun _ => rfl, fun a => by have := e a; have := h2 a; show d1 a + c' a ≤ _; omega⟩
/-- x.append(e) -/
def sApp (i : Nat) (F : EF) : SF := fun δ => match δ[i]? with
  | some (some (.v (.lst _))) => (F δ).s fun m δ1 => (match m, δ1[i]? with
    | .v l, some (some (.v (.lst ls))) => if ls.length < big then .nx (δ1.set i (some (.lst (ls ++ [l])))) else .bad
    | _, _ => .bad)
  | _ => .bad
theorem ds_app (ho : PE X a (tVar i)) (he : DE tb W X e F) (hbase : attributeBase a (Str.ofString "append") X.env (eval a X.env) = eval a X.env := by rfl)
    (hfew : ((backTo pos (starEach [e] X.env)).all (fun x => !x.1) && (backToKw pos (keywordEach [] X.env)).all (fun x => x.1.isSome)
      && decide (([e] : List Expr).length + ([] : List Keyword).length + (if ([] : List Keyword).isEmpty then 0 else 1) < 30)) = true := by rfl)
    (hline : (apos.endLine == pos.line) = true := by rfl) (hs : starEach [e] X.env = (false, eval e X.env) :: starEach [] X.env := by rfl) (hplain : (backTo pos (starEach [] X.env)).any (·.1) = false := by rfl)
    (hsw : swapsWith (.Call (.Attribute a (Str.ofString "append") apos) [e] [] pos) none p.line X.env = pure false := by rfl) :
    DS tb pin W X (.Expr (.Call (.Attribute a (Str.ofString "append") apos) [e] [] pos) p) (sApp i F) :=
  (ps_expr (pe_bm PySem.F.plainAttrs_list PySem.F.slot_list_append PySem.F.type_list_append mt_append ho (pa_cons he pa_nil hs) hbase hfew hline hs hplain) hsw).wk fun D σ H ⟨hp, δ, z, c, hE, w, h⟩ => by
    unfold sApp at h
    cases q0 : δ[i]? with
    | none => rw [q0] at h; exact h.elim
    | some o0 =>
      rw [q0] at h
      cases o0 with
      | none => exact h.elim
      | some m0 =>
        cases m0 with
        | o _ _ _ => exact h.elim
        | v l0 =>
          cases l0 with
          | fz _ => exact h.elim
          | dic _ => exact h.elim
          | lst ls0 =>
            dsimp only at h
            obtain ⟨a, vs0, _, _, ev, hH, _, _, _⟩ := own_lst hE q0
            refine ⟨.ref a, ev, .inl ⟨rfl, vs0, .inl (.inl hH)⟩, ?_⟩
            refine go_S hp hE w h fun m δ1 v H1 z1 c1 cm hE1 r1 w1 s1 h1 => ?_
            cases m with
            | o _ _ _ => exact h1.elim
            | v l =>
              cases q1 : δ1[i]? with
              | none => rw [q1] at h1; exact h1.elim
              | some o1 =>
                rw [q1] at h1
                cases o1 with
                | none => exact h1.elim
                | some m1 =>
                  cases m1 with
                  | o _ _ _ => exact h1.elim
                  | v l1 =>
                    cases l1 with
                    | fz _ => exact h1.elim
                    | dic _ => exact h1.elim
                    | lst ls =>
                      dsimp only at h1
                      by_cases hb : ls.length < big
                      case neg => rw [if_neg hb] at h1; exact h1.elim
                      rw [if_pos hb] at h1
                      obtain ⟨a', vs, ca, cr, ev', hH', hA, hc, hE2⟩ := own_lst hE1 q1
                      rw [ev] at ev'
                      cases ev'
                      have r1' : RpL X.K H1 z1 l v cm := by cases r1 with | v r => exact r
                      have hA2 : RpA X.K H1 z1 (ls ++ [l]) (vs ++ [v]) fun b => ca b + cm b := hA.app (.cons (c2 := zero) r1' (.nil fun _ => rfl) fun b => by show cm b = cm b + 0; omega)
                      have w2 : Wf H1 z1 fun b => one a b + (ca b + cm b) + cr b := w1.congr fun b => by have := hc b; show c1 b + cm b = _; omega
                      have hE3 := own_put (lt_of_get q1) ev hA2 hE2 w2
                      have pa : 0 < one a a + (ca a + cm a) + cr a := by rw [one_self]; omega
                      obtain ⟨w3, s3⟩ := Wf.upd (o := .lst (vs ++ [v])) w2 pa trivial
                      refine ⟨a, vs, v, rfl, rfl, hH', by rw [← hA.len, big_eq]; exact hb, ?_⟩
                      exact h1 σ _ ⟨hp, z1, _, hE3, w3, s3.congr (fun b => by have := hc b; show _ = c1 b + cm b; omega) fun _ => rfl⟩
/-- x[i] = e -/
def stK (i : Nat) (m mi : M) : SF := fun δ => match m, mi, δ[i]? with
  | .v l, .v (.fz (.int k)), some (some (.v (.lst ls))) => (match ixN ls.length k with
    | some j => .nx (δ.set i (some (.lst (ls.set j l))))
    | none => .bad)
  | _, _, _ => .bad
def sSt (i : Nat) (Fi Fv : EF) : SF := fun δ => (Fv δ).s fun m δ1 => match δ1[i]? with
  | some (some _) => (Fi δ1).s fun mi δ2 => stK i m mi δ2
  | _ => .bad
theorem ixN_lt {n : Nat} {k : Int} {j : Nat} (h : ixN n k = some j) : j < n := (ixN_seq h).2.1
theorem ds_store {ix : Expr} {Fi Fv : EF} {spos : Pos} (hv : DE tb W X e Fv) (ho : PE X a (tVar i)) (hi : DE tb W X ix Fi) (hs : swapsWithSole [.Subscript a ix spos] e pos.line X.env = pure false := by rfl) (hw : swappedStores [.Subscript a ix spos] e X.env = pure none := by rfl)
    (h1 : (assignEach [.Subscript a ix spos] X.env).map (·.2) = [assign (.Subscript a ix spos) X.env] := by rfl)
    (ha : ∀ v, assign (.Subscript a ix spos) X.env v = (do
      let ov ← holding [v] (eval a X.env)
      let iv ← holding [v, ov] (eval ix X.env)
      standAt spos
      holding [v, ov, iv] (setItem ov iv v)
      release [v, ov, iv] []) := by intro _; rfl) : DS tb pin W X (.Assign [.Subscript a ix spos] e pos) (sSt i Fi Fv) :=
  (ps_asg hv (pg_sub ho hi set_list ha) hs hw h1).wk fun D σ H ⟨hp, δ, z, c, hE, w, h⟩ => by
    unfold sSt at h
    refine go_S hp hE w h fun m δ1 v H1 z1 c1 cm hE1 r1 w1 s1 h1 => ?_
    cases q1 : δ1[i]? with
    | none => rw [q1] at h1; exact h1.elim
    | some o1 =>
      rw [q1] at h1
      cases o1 with
      | none => exact h1.elim
      | some m1 =>
        dsimp only at h1
        obtain ⟨x, ev⟩ := hE1.getV q1
        refine ⟨x, ev, ?_⟩
        refine ⟨δ1, z1, c1, hE1, w1.mono fun _ => Nat.le_add_right _ _, ?_⟩
        cases e1 : Fi δ1 with
        | bad => rw [e1] at h1; exact h1.elim
        | ex n δ2 =>
          rw [e1] at h1
          intro H' ⟨z', c', hE', w', s'⟩
          obtain ⟨k, wt, st⟩ := Step.frame w1 w' s'
          exact h1 σ H' ⟨hp, z', c', hE', w', st.mono fun _ => Nat.le_add_right _ _⟩
        | ok mi δ2 =>
          rw [e1] at h1
          intro iv H' ⟨z', c', ci, hE', ri, w', s'⟩
          obtain ⟨k, wt, st⟩ := Step.frame w1 w' s'
          have h2 : OutS X.K tb pin W H1 z1 (fun a => c1 a + cm a) (stK i m mi δ2) D := h1
          unfold stK at h2
          split at h2
          · rename_i l k0 ls q2
            cases e3 : ixN ls.length k0 with
            | none => rw [e3] at h2; exact h2.elim
            | some j =>
              rw [e3] at h2
              dsimp only at h2
              obtain ⟨a', vs, ca, cr, ev', hH', hA, hc, hE2⟩ := own_lst hE' q2
              rw [ev] at ev'
              cases ev'
              have rl : RpL X.K H1 z1 l v cm := by cases r1 with | v r => exact r
              have rl' : RpL X.K H' z' l v cm := rl.mono s'.zin (s'.on (w1.mono fun _ => Nat.le_add_right _ _)) fun a q => k a q
              have ri' : iv = .int k0 := by cases ri with | v r => cases r with | fz f _ => exact f.int_
              obtain ⟨ca', hA2, hc2⟩ := hA.set j rl'
              have w2 : Wf H' z' fun b => one a' b + ca' b + cr b := wt.mono fun b => by have := hc b; have := hc2 b; show _ ≤ c' b + ci b + cm b; omega
              have hE3 := own_put (lt_of_get q2) ev hA2 hE2 w2
              have pa : 0 < one a' a' + ca' a' + cr a' := by rw [one_self]; omega
              obtain ⟨w3, s3⟩ := Wf.upd (o := .lst (vs.set j v)) w2 pa trivial
              refine ⟨a', vs, k0, j, rfl, ri', hH', by rw [← hA.len]; exact e3, ?_⟩
              refine h2 σ _ ⟨hp, z', _, hE3, w3, ?_⟩
              exact (st.mono (c'' := fun b => one a' b + ca' b + cr b) fun b => by have := hc b; have := hc2 b; show _ ≤ c' b + ci b + cm b; omega).trans w2 s3
          · exact h2.elim
/-! ### [..] * n of a fresh list -/
def fzs : List L → Option (List PD)
  | [] => some []
  | .fz d :: r => (fzs r).map (d :: ·)
  | _ => none
theorem fzs_of : ∀ {ls : List L} {ds : List PD}, fzs ls = some ds → ls = ds.map .fz
  | [], _, h => by cases h; rfl
  | .fz d :: r, _, h => by
    unfold fzs at h
    cases e : fzs r with
    | none => rw [e] at h; cases h
    | some ds => rw [e] at h; cases h; simp [fzs_of e]
  | .lst _ :: _, _, h => by cases h
  | .dic _ :: _, _, h => by cases h
theorem RpA.fzA : ∀ {ds : List PD} {vs : List V} {c : Ct}, RpA K H z (ds.map .fz) vs c → FzA K H z ds vs
  | [], _, _, .nil _ => .nil
  | _ :: _, _, _, .cons h r _ => by
    cases h with
    | fz f _ => exact .cons f (RpA.fzA r)
def gMulL (m : M) (d : PD) : Option M := match m, d with
  | .v (.lst ls), .int k => (fzs ls).bind fun ds => if -(2 ^ 63) ≤ k ∧ k < 2 ^ 63 ∧ ds.length * k.toNat ≤ big then some (.lst ((List.replicate k.toNat ds).flatten.map .fz)) else none
  | _, _ => none
def eMulL (F G : EF) : EF := fun δ => (F δ).bind fun m δ1 => (G δ1).p fun d δ2 => match gMulL m d with
  | some m' => .ok m' δ2
  | none => .bad
theorem de_mulL (ha : DE tb W X a F) (hb : DE tb W X b G) : DE tb W X (.BinOp a .Mult b pos) (eMulL F G) :=
  (pe_op op_rep ha hb).wk fun σ H Q ⟨δ, z, c, hE, w, h⟩ => by
    refine ⟨δ, z, c, hE, w, ?_⟩
    unfold eMulL at h
    cases e1 : F δ with
    | bad => rw [e1] at h; exact h
    | ex n δ1 => rw [e1] at h; exact h
    | ok m δ1 =>
      rw [e1] at h
      intro v H1 ⟨z1, c1, cm, hE1, r1, w1, s1⟩
      have h : Out X.K tb W H z c σ ((G δ1).p fun d δ2 => match gMulL m d with
        | some m' => .ok m' δ2
        | none => .bad) Q := h
      refine ⟨δ1, z1, c1, hE1, w1.mono fun _ => Nat.le_add_right _ _, ?_⟩
      cases e2 : G δ1 with
      | bad => rw [e2] at h; exact h
      | ex n δ2 =>
        rw [e2] at h
        intro H' ⟨z', c', hE', w', s'⟩
        obtain ⟨k, wt, st⟩ := Step.frame w1 w' s'
        exact h H' ⟨z', c', hE', w', (s1.trans w1 st).mono fun _ => Nat.le_add_right _ _⟩
      | ok mi δ2 =>
        rw [e2] at h
        cases mi with
        | o _ _ _ => exact h.elim
        | v l =>
          intro iv H' ⟨z', c', ci, hE', ri, w', s'⟩
          obtain ⟨k, wt, st⟩ := Step.frame w1 w' s'
          have h2 : Out X.K tb W H z c σ (match gMulL m l.pd with
            | some m' => .ok m' δ2
            | none => .bad) Q := h
          cases e3 : gMulL m l.pd with
          | none => rw [e3] at h2; exact h2.elim
          | some m' =>
            rw [e3] at h2
            generalize ek : l.pd = dd at e3
            have key : ∃ ls k0, m = .v (.lst ls) ∧ dd = .int k0 ∧ ((fzs ls).bind fun ds => if -(2 ^ 63) ≤ k0 ∧ k0 < 2 ^ 63 ∧ ds.length * k0.toNat ≤ big then some (M.lst ((List.replicate k0.toNat ds).flatten.map .fz)) else none) = some m' := by
              unfold gMulL at e3
              split at e3
              · exact ⟨_, _, rfl, rfl, e3⟩
              · cases e3
            obtain ⟨ls, k0, rfl, rfl, e5⟩ := key
            · clear e3
              cases e4 : fzs ls with
              | none => rw [e4] at e5; cases e5
              | some ds =>
                rw [e4] at e5
                simp only [Option.bind_some] at e5
                split at e5 <;> cases e5
                rename_i hh
                obtain ⟨g1, g2, g3⟩ := hh
                have els := fzs_of e4
                subst els
                have r1' : Rp X.K tb H' z' (.v (.lst (ds.map .fz))) v cm := r1.mono s'.zin (s'.on (w1.mono fun _ => Nat.le_add_right _ _)) fun a q => k a q
                have fi : Fz X.K H' (fun a => z' a ∨ 0 < ci a) l.pd iv := by
                  cases ri with | v r => exact r.freeze (fun _ => .inl) fun _ => .inr
                rw [ek] at fi
                cases r1' with
                | v r =>
                  cases r with
                  | lst hH hA hc =>
                    rename_i a vs ca
                    have fA := RpA.fzA hA
                    refine ⟨a, k0, vs, rfl, fi.int_, hH, g1, g2, by rw [← fA.len, big_eq]; exact g3, fun p hp => ?_⟩
                    have w3 : Wf H' z' c' := w'.mono fun _ => Nat.le_add_right _ _
                    have nw := NewM.lst (tb := tb) w3.zt hp (fA.rep k0.toNat)
                    have st2 : Step H z c H' z' c' := (s1.trans w1 st).mono fun b => by show c' b ≤ c' b + ci b + cm b; omega
                    exact (Out.step st2 w3 h2) _ _ (nw.aft hE' w3)
end
end FS
namespace FS
open PySem PySem.Spec L2
section
variable {K : PySem.W.Frag} {tb : Nat → Addr} {pin : List (Nat × V)} {W : WX} {H H' H1 : Hp} {z z' z1 : Zn} {c c' c1 : Ct} {σ σ1 : St} {δ δ' : Env'} {X : Cx} {D : Ends} {pins : List (Addr × Obj)} {s : Shared}
variable {a b e : Expr} {F G : EF} {pos p apos : Pos} {es : List Expr} {st : Stmt} {rest body : List Stmt} {S T U : SF} {A : AF} {x m : Str} {n i j : Nat}
/-! ### isinstance -/
def tyD : PD → String
  | .none => "NoneType"
  | .bool _ => "bool"
  | .int _ => "int"
  | .str _ => "str"
  | .list _ => "list"
  | .tuple _ => "tuple"
  | .dict _ => "dict"
theorem kit_fz (I : Inv X pins σ H s) {d : PD} {v : V} {u : Value} (rx : RelV v u) (f : Fz X.K H z d v) : ∃ P : Heap → Prop, PySem.W.KitX X.K u (.type (tyD d)) P ∧ P s.heap := by
  have go : ∀ {t : Value}, TyX X.K H v t → ∃ P : Heap → Prop, PySem.W.KitX X.K u t P ∧ P s.heap := fun ty => by
    obtain ⟨P, h1, h2, _⟩ := kit_of I rx ty
    exact ⟨P, h1, h2⟩
  cases f with
  | non => exact go (.base .non)
  | bl b => exact go (.base (.bl b))
  | int i => exact go (.base (.int i))
  | str x => exact go (.base (.str x))
  | lst h r =>
    rcases h with ⟨_, h | ⟨o, h⟩⟩ | ⟨o, its, n, h, h2, _⟩
    · exact go (.base (.lst h))
    · exact go (.base (.frz h))
    · exact go (.kList h h2)
  | tup h r => exact go (.base (.tup h.2))
  | dik q h r =>
    rcases h with h | ⟨o, h⟩
    · exact go (.base (.dK h))
    · exact go (.fDict h)
  | dit q h r =>
    rename_i a kvs kw
    rcases h with h | ⟨ob, h⟩
    · exact go (.base (.dT h))
    · cases (show u = Value.ref a from rx)
      obtain ⟨_, _, _, xs, _, o, es, ep, h1, h2, _⟩ := (show ObjOk X.prog X.w H s.heap a (.frz ob (.dT kw)) from I.hok a _ h)
      exact ⟨_, PySem.W.kitx_dict, ⟨o, h1, h2.1⟩⟩
theorem fz_nob {d : PD} {v : V} {u : Value} (rx : RelV v u) (f : Fz K H z d v) (n : String) : u ≠ .builtin n := by
  cases f with
  | non => cases (show u = Value.none from rx); exact fun q => nomatch q
  | bl b => cases (show u = Value.bool b from rx); exact fun q => nomatch q
  | int i => obtain ⟨t, e⟩ := (show ∃ t, u = Value.int i t from rx); rw [e]; exact fun q => nomatch q
  | str i => obtain ⟨t, e⟩ := (show ∃ t, u = Value.str i t from rx); rw [e]; exact fun q => nomatch q
  | lst _ _ => rw [show u = Value.ref _ from rx]; exact fun q => nomatch q
  | tup _ _ => rw [show u = Value.ref _ from rx]; exact fun q => nomatch q
  | dik _ _ _ => rw [show u = Value.ref _ from rx]; exact fun q => nomatch q
  | dit _ _ _ => rw [show u = Value.ref _ from rx]; exact fun q => nomatch q
def IsaT (T : String) (f : PD → Bool) : Prop := ∀ d, kitB (tyD d) T = some (f d)
theorem isa_int : IsaT "int" PyData.isInt := fun d => by cases d <;> (dsimp only [tyD, PyData.isInt]; decide +kernel)
theorem isa_bool : IsaT "bool" PyData.isBool := fun d => by cases d <;> (dsimp only [tyD, PyData.isBool]; decide +kernel)
theorem isa_str : IsaT "str" PyData.isStr := fun d => by cases d <;> (dsimp only [tyD, PyData.isStr]; decide +kernel)
theorem isa_list : IsaT "list" PyData.isList := fun d => by cases d <;> (dsimp only [tyD, PyData.isList]; decide +kernel)
theorem isa_tuple : IsaT "tuple" PyData.isTuple := fun d => by cases d <;> (dsimp only [tyD, PyData.isTuple]; decide +kernel)
theorem isa_dict : IsaT "dict" PyData.isDict := fun d => by cases d <;> (dsimp only [tyD, PyData.isDict]; decide +kernel)
def gIsa (f : PD → Bool) : PD → Option M := fun d => some (.fz (.bool (f d)))
def rIsa (K : PySem.W.Frag) (T : String) (f : PD → Bool) : List V → Hp → VK → Prop := fun xs H Q => ∃ (z : Zn) (d : PD) (v : V), xs = [v, .ty T] ∧ Fz K H z d v ∧ Q (.bl (f d)) H
theorem cr_isa {T : String} {f : PD → Bool} (hT : IsaT T f) : CallR X (.builtin "isinstance") (rIsa X.K T f) := by
  intro pins s σ H xs us Q I r h
  obtain ⟨z, d, v, rfl, fd, q⟩ := h
  obtain ⟨u1, u2, rfl, r1, r2⟩ := vals2 r
  cases (show u2 = Value.type T from r2)
  obtain ⟨P, Z, p⟩ := kit_fz I r1 fd
  exact PySem.W.kia_one Z I.kIn p (kit_ty (hT d)) (fz_nob r1 fd _) fun tk => ⟨.bl _, H, I.tok tk, rfl, q⟩
theorem de_isa {T : String} {f : PD → Bool} {y : Str} {py : Pos} (hT : IsaT T f) (hg : Gl X "isinstance") (hm : X.mg "isinstance" = none) (hgT : Gl X y) (hmT : X.mg y = none) (hvT : bootBuiltins y = some (.type T)) (he : DE tb W X e F)
    (hv : bootBuiltins "isinstance" = some (.builtin "isinstance") := by rfl) (hn : ("isinstance" : Str) ≠ "__name__" := by decide) (hdb : (("isinstance" : Str) == ("__debug__" : Str)) = false := by decide) (hn2 : y ≠ "__name__" := by decide) (hd2 : (y == ("__debug__" : Str)) = false := by decide)
    (he1 : starEach (e :: [.Name y py]) X.env = (false, eval e X.env) :: starEach [.Name y py] X.env := by rfl) (he2 : starEach [.Name y py] X.env = (false, eval (.Name y py) X.env) :: starEach [] X.env := by rfl) (hpl : (backTo pos (starEach [.Name y py] X.env)).any (·.1) = false := by rfl) :
    DE tb W X (.Call (.Name "isinstance" p) [e, .Name y py] [] pos) (eU1 (gIsa f) F) :=
  (pe_callB (cr_isa hT) hg hm hv (pa_cons he (pa_cons (pe_bltn hgT hmT hvT (v := .ty T) rfl hn2 hd2) pa_nil he2) he1) hn hdb he1 hpl).wk fun σ H Q ⟨δ, z, c, hE, w, h⟩ => go_P hE w h fun d δ1 v H1 z1 c1 hE1 f1 w1 s1 h1 =>
    ⟨z1, d, v, rfl, f1, h1 _ _ ((new_bl w1.zt).aft hE1 w1)⟩
/-! ### min, max, abs -/
def alikeB (xs : List PD) : Bool := xs.all fun x => (xs.all fun y => PySem.W.alike x y) && !isNone x
theorem alikeB_of {xs : List PD} (h : alikeB xs = true) : PySem.W.AlikeAll xs := by
  unfold alikeB at h
  simp only [List.all_eq_true, Bool.and_eq_true] at h
  exact ⟨fun x hx y hy => (h x hx).1 y hy, fun x hx e => by have := (h x hx).2; rw [e] at this; cases this⟩
theorem fz_reads_at (I : Inv X pins σ H s) {ds : List PD} {vs : List V} {us : List Value} (f : FzA X.K H z ds vs) (r : Vals vs us) {h' : Heap} (hk : ∀ b o, s.heap.get? b = some o → h'.get? b = some o) {i : Nat} {u : Value} {d : PD} {bs : List Addr}
    (hu : us[i]? = some u) (hd : Reads h' u d bs) (hp : PyData.plainAll ds = true) : ∃ v, RelV v u ∧ Fz X.K H z d v := by
  have hl := r.length
  have hi : i < us.length := (List.getElem?_eq_some_iff.mp hu).1
  obtain ⟨v, hv⟩ : ∃ v, vs[i]? = some v := ⟨_, List.getElem?_eq_getElem (by omega)⟩
  obtain ⟨u', hu', rv⟩ := r.get hv
  rw [hu] at hu'
  cases hu'
  obtain ⟨d', hd', f'⟩ := f.get' hv
  have pl : ∀ {ds : List PD} {j : Nat} {d : PD}, PyData.plainAll ds = true → ds[j]? = some d → d.plain = true := by
    intro ds
    induction ds with
    | nil => intro j d _ h; cases h
    | cons x r ih =>
      intro j d hq h
      have hq' := Bool.and_eq_true_iff.mp hq
      cases j with
      | zero => cases h; exact hq'.1
      | succ j => exact ih hq'.2 h
  obtain ⟨as, rd⟩ := f'.rd I (pl hp hd') rv
  have e := (PySem.SeqAt.plain_unique d' d _ _ _ (pl hp hd') (PyProof.Rows.Reads.keeps hk rd) hd)
  exact ⟨v, rv, e ▸ f'⟩
theorem rdsAll (I : Inv X pins σ H s) : ∀ {ds : List PD} {vs : List V} {us : List Value}, FzA X.K H z ds vs → Vals vs us → PyData.plainAll ds = true → ∃ as, ReadsAll s.heap us ds as
  | _, _, _, .nil, .nil, _ => ⟨_, .nil⟩
  | _, _, _, .cons h r, .cons rv rr, e => by
    have e' := Bool.and_eq_true_iff.mp e
    obtain ⟨as, h1⟩ := h.rd I e'.1 rv
    obtain ⟨bs, h2⟩ := rdsAll I r rr e'.2
    exact ⟨_, .cons h1 h2⟩
def gMM (g : PD → List PD → PD) (gi : Int → Int → Int) : List PD → Option M
  | [.list (x :: xs)] => if alikeB (x :: xs) && okNs 12 (x :: xs) then some (.fz (g x xs)) else none
  | [.tuple (x :: xs)] => if alikeB (x :: xs) && okNs 12 (x :: xs) then some (.fz (g x xs)) else none
  | [.int i, .int j] => some (.fz (.int (gi i j)))
  | _ => none
def gMin := gMM PySem.W.minD fun i j => if j < i then j else i
def gMax := gMM PySem.W.maxD fun i j => if j > i then j else i
theorem cr_gMin (hc : X.calm = true) (hu : X.A.units + 64 < cLine) : CallR X (.builtin "min") (rC X.K tb gMin) := fun pins s σ H xs us Q I r ⟨z, ds, m, hz, f, g, q⟩ => by
  unfold gMin gMM at g
  split at g
  · split at g <;> cases g
    rename_i x xs hok
    have hok' := Bool.and_eq_true_iff.mp hok
    have hp := okNs_plain hok'.2
    obtain ⟨v, rfl, f1⟩ := f.one
    obtain ⟨a, vs, rfl, hH, f2⟩ := f1.list
    obtain ⟨its, rv, hl, _⟩ := I.list (sqL_of hH)
    rw [Vals.ref1 r]
    obtain ⟨as, rs⟩ := rdsAll I f2 rv hp.1
    refine PySem.W.min_list_data (vs := its.toArray) (I.ok.hd hc) hl.isList rs (alikeB_of hok'.1) (by have := hp.2; omega) fun i v h' tk bs hv hr hk => ?_
    obtain ⟨w, rw', fw⟩ := fz_reads_at I f2 rv hk (by simpa using hv) hr hp.1
    exact ⟨w, H, I.kept hk, rw', q _ _ (NewM.at hz fw)⟩
  · split at g <;> cases g
    rename_i x xs hok
    have hok' := Bool.and_eq_true_iff.mp hok
    have hp := okNs_plain hok'.2
    obtain ⟨v, rfl, f1⟩ := f.one
    obtain ⟨a, vs, rfl, hH, f2⟩ := f1.tuple
    obtain ⟨its, rv, hl, _⟩ := I.tuple (sqT_of hH)
    rw [Vals.ref1 r]
    obtain ⟨as, rs⟩ := rdsAll I f2 rv hp.1
    refine PySem.W.min_tuple_data (vs := its.toArray) (I.ok.hd hc) hl rs (alikeB_of hok'.1) (by have := hp.2; omega) fun i v h' tk bs hv hr hk => ?_
    obtain ⟨w, rw', fw⟩ := fz_reads_at I f2 rv hk (by simpa using hv) hr hp.1
    exact ⟨w, H, I.kept hk, rw', q _ _ (NewM.at hz fw)⟩
  · cases g
    rename_i i j
    obtain ⟨v, v2, rfl, f1, f2⟩ := f.two
    rw [f1.int_, f2.int_] at r
    exact call_min2 hc pins s σ H _ us Q I r ⟨i, j, rfl, q _ _ (new_int hz)⟩
  · cases g
theorem cr_gMax (hc : X.calm = true) (hu : X.A.units + 64 < cLine) : CallR X (.builtin "max") (rC X.K tb gMax) := fun pins s σ H xs us Q I r ⟨z, ds, m, hz, f, g, q⟩ => by
  unfold gMax gMM at g
  split at g
  · split at g <;> cases g
    rename_i x xs hok
    have hok' := Bool.and_eq_true_iff.mp hok
    have hp := okNs_plain hok'.2
    obtain ⟨v, rfl, f1⟩ := f.one
    obtain ⟨a, vs, rfl, hH, f2⟩ := f1.list
    obtain ⟨its, rv, hl, _⟩ := I.list (sqL_of hH)
    rw [Vals.ref1 r]
    obtain ⟨as, rs⟩ := rdsAll I f2 rv hp.1
    refine PySem.W.max_list_data (vs := its.toArray) (I.ok.hd hc) hl.isList rs (alikeB_of hok'.1) (by have := hp.2; omega) fun i v h' tk bs hv hr hk => ?_
    obtain ⟨w, rw', fw⟩ := fz_reads_at I f2 rv hk (by simpa using hv) hr hp.1
    exact ⟨w, H, I.kept hk, rw', q _ _ (NewM.at hz fw)⟩
  · split at g <;> cases g
    rename_i x xs hok
    have hok' := Bool.and_eq_true_iff.mp hok
    have hp := okNs_plain hok'.2
    obtain ⟨v, rfl, f1⟩ := f.one
    obtain ⟨a, vs, rfl, hH, f2⟩ := f1.tuple
    obtain ⟨its, rv, hl, _⟩ := I.tuple (sqT_of hH)
    rw [Vals.ref1 r]
    obtain ⟨as, rs⟩ := rdsAll I f2 rv hp.1
    refine PySem.W.max_tuple_data (vs := its.toArray) (I.ok.hd hc) hl rs (alikeB_of hok'.1) (by have := hp.2; omega) fun i v h' tk bs hv hr hk => ?_
    obtain ⟨w, rw', fw⟩ := fz_reads_at I f2 rv hk (by simpa using hv) hr hp.1
    exact ⟨w, H, I.kept hk, rw', q _ _ (NewM.at hz fw)⟩
  · cases g
    rename_i i j
    obtain ⟨v, v2, rfl, f1, f2⟩ := f.two
    rw [f1.int_, f2.int_] at r
    exact call_max2 hc pins s σ H _ us Q I r ⟨i, j, rfl, q _ _ (new_int hz)⟩
  · cases g
def gAbs : List PD → Option M
  | [.int i] => some (.fz (.int (if i < 0 then -i else i)))
  | _ => none
theorem cr_gAbs : CallR X (.builtin "abs") (rC X.K tb gAbs) := fun pins s σ H xs us Q I r ⟨z, ds, m, hz, f, g, q⟩ => by
  unfold gAbs at g
  split at g <;> cases g
  rename_i i
  obtain ⟨v, rfl, f1⟩ := f.one
  rw [f1.int_] at r
  exact call_abs pins s σ H _ us Q I r ⟨i, rfl, q _ _ (new_int hz)⟩
/-- list(x), tuple(x) -/
def gListOf : List PD → Option M
  | [.list ds] => some (.lst (ds.map .fz))
  | [.tuple ds] => some (.lst (ds.map .fz))
  | _ => none
def gTupOf : List PD → Option M
  | [.list ds] => some (.fz (.tuple ds))
  | [.tuple ds] => some (.fz (.tuple ds))
  | _ => none
theorem cr_gListOf : CallR X (.type "list") (rC X.K tb gListOf) := fun pins s σ H xs us Q I r ⟨z, ds, m, hz, f, g, q⟩ => by
  unfold gListOf at g
  split at g <;> cases g
  · obtain ⟨v, rfl, f1⟩ := f.one
    obtain ⟨a, vs, rfl, hH, f2⟩ := f1.list
    exact call_list_of pins s σ H _ us Q I r ⟨a, vs, rfl, .inl (sqL_of hH), fun l hl => q _ _ (NewM.lst hz hl f2)⟩
  · obtain ⟨v, rfl, f1⟩ := f.one
    obtain ⟨a, vs, rfl, hH, f2⟩ := f1.tuple
    exact call_list_of pins s σ H _ us Q I r ⟨a, vs, rfl, .inr (sqT_of hH), fun l hl => q _ _ (NewM.lst hz hl f2)⟩
theorem cr_gTupOf : CallR X (.type "tuple") (rC X.K tb gTupOf) := fun pins s σ H xs us Q I r ⟨z, ds, m, hz, f, g, q⟩ => by
  unfold gTupOf at g
  split at g <;> cases g
  · obtain ⟨v, rfl, f1⟩ := f.one
    obtain ⟨a, vs, rfl, hH, f2⟩ := f1.list
    exact call_tuple_of pins s σ H _ us Q I r ⟨a, vs, rfl, .inl ⟨sqL_of hH, fun l hl => q _ _ (NewM.tup hz hl f2)⟩⟩
  · obtain ⟨v, rfl, f1⟩ := f.one
    obtain ⟨a, vs, rfl, hH, f2⟩ := f1.tuple
    exact call_tuple_of pins s σ H _ us Q I r ⟨a, vs, rfl, .inr ⟨sqT_of hH, q _ _ (NewM.at hz f1)⟩⟩
def allInt : List PD → Option (List Int)
  | [] => some []
  | .int i :: r => (allInt r).map (i :: ·)
  | _ => none
theorem allInt_of : ∀ {ds : List PD} {ns : List Int}, allInt ds = some ns → ds = ns.map .int
  | [], _, h => by cases h; rfl
  | .int i :: r, ns, h => by
    unfold allInt at h
    cases e : allInt r with
    | none => rw [e] at h; cases h
    | some ms => rw [e] at h; cases h; simp [allInt_of e]
  | .none :: _, _, h => by cases h
  | .bool _ :: _, _, h => by cases h
  | .str _ :: _, _, h => by cases h
  | .list _ :: _, _, h => by cases h
  | .tuple _ :: _, _, h => by cases h
  | .dict _ :: _, _, h => by cases h
/-- sum(xs) of a list of ints -/
def gSum : List PD → Option M
  | [.list ds] => (allInt ds).map fun ns => .fz (.int ns.sum)
  | _ => none
theorem cr_gSum (hc : X.calm = true) : CallR X (.builtin "sum") (rC X.K tb gSum) := fun pins s σ H xs us Q I r ⟨z, ds, m, hz, f, g, q⟩ => by
  unfold gSum at g
  split at g
  · rename_i ds
    cases e : allInt ds with
    | none => rw [e] at g; cases g
    | some ns =>
      rw [e] at g
      cases g
      obtain ⟨v, rfl, f1⟩ := f.one
      obtain ⟨a, vs, rfl, hH, f2⟩ := f1.list
      have ed := allInt_of e
      subst ed
      have ev := Fz.ints f2
      subst ev
      exact cr_sum hc pins s σ H _ us Q I r ⟨a, ns, rfl, sqL_of hH, q _ _ (new_int hz)⟩
  · cases g
/-- sorted(xs) -/
def sortB (xs : List PD) : Bool := (xs.all fun x => xs.all fun y => PySem.W.alike x y) && ((xs.all fun x => match x with | .tuple (_ :: _) => true | _ => false) || xs.all fun x => match x with | .none => false | .tuple _ => false | _ => true)
theorem sortB_of {xs : List PD} (h : sortB xs = true) : PySem.W.AllAlike xs ∧ PySem.W.Sortable xs := by
  unfold sortB at h
  rw [Bool.and_eq_true, Bool.or_eq_true] at h
  obtain ⟨h1, h2⟩ := h
  simp only [List.all_eq_true] at h1
  refine ⟨fun d hd d' hd' => h1 d hd d' hd', h2.imp (fun h d hd => ?_) fun h d hd => ?_⟩
  · have := List.all_eq_true.mp h d hd
    cases d with
    | tuple ys =>
      cases ys with
      | nil => cases this
      | cons x r => exact ⟨x, r, rfl⟩
    | _ => cases this
  · have := List.all_eq_true.mp h d hd
    cases d with
    | none => cases this
    | tuple _ => cases this
    | _ => exact ⟨(fun e => nomatch e), fun xs e => nomatch e⟩
def sortD (ds : List PD) : List PD := ds.mergeSort (PySem.W.dataLe false id)
def gSorted : List PD → Option M
  | [.list ds] => if sortB ds && okNs 12 ds then some (.lst ((sortD ds).map .fz)) else none
  | _ => none
theorem eachIs_of (I : Inv X pins σ H s) : ∀ {ds : List PD} {vs : List V} {us : List Value}, FzA X.K H z ds vs → Vals vs us → PyData.plainAll ds = true →
    PySem.W.EachIs (fun u d => ∃ v, RelV v u ∧ Fz X.K H z d v) us ds ∧ PySem.W.EachIs (fun u d => ∃ as, Reads s.heap u d as) us ds
  | _, _, _, .nil, .nil, _ => ⟨.nil, .nil⟩
  | _, _, _, .cons h r, .cons rv rr, e => by
    have e' := Bool.and_eq_true_iff.mp e
    obtain ⟨h1, h2⟩ := eachIs_of I r rr e'.2
    exact ⟨.cons ⟨_, rv, h⟩ h1, .cons (h.rd I e'.1 rv) h2⟩
theorem eachIs_back : ∀ {ds : List PD} {us : List Value}, PySem.W.EachIs (fun u d => ∃ v, RelV v u ∧ Fz K H z d v) us ds → ∃ vs, FzA K H z ds vs ∧ Vals vs us
  | _, _, .nil => ⟨[], .nil, .nil⟩
  | _, _, .cons ⟨v, rv, f⟩ r => by
    obtain ⟨vs, h1, h2⟩ := eachIs_back r
    exact ⟨v :: vs, .cons f h1, .cons rv h2⟩
theorem okNs_mem : ∀ {ds : List PD} {n : Nat} {d : PD}, okNs n ds = true → d ∈ ds → okN n d = true
  | [], _, _, _, h => by cases h
  | x :: r, n, d, h, hd => by
    have h' := Bool.and_eq_true_iff.mp (show (okN n x && okNs n r) = true by simpa [okNs] using h)
    rcases List.mem_cons.mp hd with e | hd
    · rw [e]; exact h'.1
    · exact okNs_mem h'.2 hd
theorem cr_gSorted (hu : X.A.units + 64 < cLine) : CallR X (.builtin "sorted") (rC X.K tb gSorted) := fun pins s σ H xs us Q I r ⟨z, ds, m, hz, f, g, q⟩ => by
  unfold gSorted at g
  split at g
  · split at g <;> cases g
    rename_i ds hok
    have hok' := Bool.and_eq_true_iff.mp hok
    have hp := okNs_plain hok'.2
    obtain ⟨h1, h2⟩ := sortB_of hok'.1
    obtain ⟨v, rfl, f1⟩ := f.one
    obtain ⟨a, vs, rfl, hH, f2⟩ := f1.list
    obtain ⟨its, rv, hl, hsz⟩ := I.list (sqL_of hH)
    rw [Vals.ref1 r]
    obtain ⟨e1, e2⟩ := eachIs_of I f2 rv hp.1
    refine PySem.W.sorted_data (enc := fun d : PD => d) hl.isList e1 e2 (by simpa using h1) (by simpa using h2) (by rw [f2.len]; exact hsz)
      (fun d hd => by have := (okN_plain (okNs_mem hok'.2 hd)).2; omega) fun out hlen he => ?_
    obtain ⟨vs', f3, rv'⟩ := eachIs_back he
    obtain ⟨ep, he'⟩ := PyProof.Rows.sortedAll_at s.heap its (List.toArray out)
    have hfr : H (s.heap.objs.size + 1) = none := I.hok.fresh (Nat.le_succ _)
    have hz' : vs'.length ≤ sizeLine := by rw [rv'.length, hlen, f2.len]; exact hsz
    exact ⟨.ref _, upd H (s.heap.objs.size + 1) (.lst vs'), I.laid (t' := s.toks) (fun _ _ => PyProof.Rows.sortedAll_old) (Nat.le_succ _) ⟨hz', out, ep, rv', he'⟩, rfl, q _ _ (NewM.lst hz hfr f3)⟩
  · cases g
/-! ### slices -/
def cutD (xs : List PD) (lo hi : Option Int) : List PD := (xs.drop (HT.sIx xs.length 0 lo)).take (HT.sIx xs.length xs.length hi - HT.sIx xs.length 0 lo)
theorem FzA.cut {ds : List PD} {vs : List V} (f : FzA K H z ds vs) (lo hi : Option Int) : FzA K H z (cutD ds lo hi) (cutV vs lo hi) := by
  unfold cutD cutV
  rw [f.len]
  exact (f.drop _).take _
def gSl : PD → Option Int → Option Int → Option M
  | .list ds, lo, hi => some (.lst ((cutD ds lo hi).map .fz))
  | .tuple ds, lo, hi => if ¬ (HT.sIx ds.length 0 lo = 0 ∧ HT.sIx ds.length ds.length hi = ds.length) then some (.fz (.tuple (cutD ds lo hi))) else none
  | _, _, _ => none
def rSl (K : PySem.W.Frag) (tb : Nat → Addr) : V → Option Int → Option Int → Hp → VK → Prop := fun x lo hi H Q =>
  ∃ z d m, (∀ a, z a → H a ≠ none) ∧ Fz K H z d x ∧ gSl d lo hi = some m ∧ ∀ v H', NewM K tb H z m v H' → Q v H'
theorem sl_gSl : SlR X (rSl X.K tb) := fun pins s σ H x v vl vu lo hi sl Q I rx hs pl pu ⟨z, d, m, hz, f, g, q⟩ => by
  unfold gSl at g
  split at g
  · cases g
    obtain ⟨a, vs, rfl, hH, f2⟩ := f.list
    exact sl_list pins s σ H _ v vl vu lo hi sl Q I rx hs pl pu ⟨a, vs, rfl, sqL_of hH, fun p hp => q _ _ (NewM.lst hz hp (f2.cut lo hi))⟩
  · split at g <;> cases g
    rename_i hw
    obtain ⟨a, vs, rfl, hH, f2⟩ := f.tuple
    rw [f2.len] at hw
    exact sl_tup pins s σ H _ v vl vu lo hi sl Q I rx hs pl pu ⟨a, vs, rfl, sqT_of hH, hw, fun p hp => q _ _ (NewM.tup hz hp (f2.cut lo hi))⟩
  · cases g
/-- a bound of a slice -/
abbrev OF := Env' → R (Option Int)
def oN : OF := fun δ => .ok none δ
def oE (F : EF) : OF := fun δ => (F δ).bind fun m δ1 => match m with
  | .v (.fz (.int i)) => .ok (some i) δ1
  | _ => .bad
def tO (K : PySem.W.Frag) (tb : Nat → Addr) (W : WX) (F : OF) : TO := fun σ H Q => ∃ δ z c, RpE K tb H z δ σ c ∧ Wf H z c ∧
  match F δ with
  | .ok o δ' => ∀ H' z' c', RpE K tb H' z' δ' σ c' → Wf H' z' c' → Step H z c H' z' c' → Q o H'
  | .ex n δ' => ∀ H', Aft K tb H z c δ' σ H' → W (.ref (tb n)) none σ H'
  | .bad => False
abbrev DO (tb : Nat → Addr) (W : WX) (X : Cx) (e : Option Expr) (F : OF) : Prop := PO X e (tO X.K tb W F)
theorem _root_.L2.PO.wk {e : Option Expr} {t t' : TO} (h : PO X e t) (i : ∀ σ H Q, t' σ H Q → t σ H Q) : PO X e t' := ⟨fun pins s σ H Q I q => h.run pins s σ H Q I (i σ H Q q)⟩
theorem do_none : DO tb W X none oN := po_none.wk fun σ H Q ⟨δ, z, c, hE, w, h⟩ => h H z c hE w (Step.refl _ _ _)
theorem do_some (h : DE tb W X e F) : DO tb W X (some e) (oE F) := (po_some h).wk fun σ H Q ⟨δ, z, c, hE, w, h⟩ => by
  refine ⟨δ, z, c, hE, w, ?_⟩
  unfold oE at h
  cases e1 : F δ with
  | bad => rw [e1] at h; exact h
  | ex n δ1 => rw [e1] at h; exact h
  | ok m δ1 =>
    rw [e1] at h
    intro v H' ⟨z', c', cm, hE', hR, w', s'⟩
    cases m with
    | o _ _ _ => exact h.elim
    | v l =>
      cases l with
      | lst _ => exact h.elim
      | dic _ => exact h.elim
      | fz d =>
        cases d with
        | int i =>
          have ev : v = .int i := by cases hR with | v r => cases r with | fz f _ => exact f.int_
          exact ⟨i, ev, h H' z' c' hE' (w'.mono fun _ => Nat.le_add_right _ _) (s'.mono fun _ => Nat.le_add_right _ _)⟩
        | _ => exact h.elim
def eSl (F : EF) (Lo Hi : OF) : EF := fun δ => (F δ).p fun d δ1 => (Lo δ1).bind fun lo δ2 => (Hi δ2).bind fun hi δ3 => match gSl d lo hi with
  | some m => .ok m δ3
  | none => .bad
theorem go_O {F : OF} {f : Option Int → Env' → R M} {Q : VK} {Q1 : Option Int → Hp → Prop} (hE : RpE K tb H z δ σ c) (w : Wf H z c) (h : Out K tb W H z c σ ((F δ).bind f) Q)
    (k : ∀ o δ1 H1 z1 c1, RpE K tb H1 z1 δ1 σ c1 → Wf H1 z1 c1 → Step H z c H1 z1 c1 → Out K tb W H1 z1 c1 σ (f o δ1) Q → Q1 o H1) : tO K tb W F σ H Q1 := by
  refine ⟨δ, z, c, hE, w, ?_⟩
  cases e : F δ with
  | ok o δ1 =>
    rw [e] at h
    exact fun H' z1 c1 h1 h3 h4 => k o δ1 H' z1 c1 h1 h3 h4 (Out.step h4 h3 h)
  | ex n δ1 => rw [e] at h; exact h
  | bad => rw [e] at h; exact h.elim
theorem de_slice {lo hi : Option Expr} {Lo Hi : OF} {p2 : Pos} (he : DE tb W X e F) (hl : DO tb W X lo Lo) (hh : DO tb W X hi Hi) : DE tb W X (.Subscript e (.Slice lo hi none p2) pos) (eSl F Lo Hi) :=
  (pe_slice sl_gSl he hl hh).wk fun σ H Q ⟨δ, z, c, hE, w, h⟩ => go_P hE w h fun d δ1 v H1 z1 c1 hE1 f1 w1 s1 h1 => go_O hE1 w1 h1 fun lo δ2 H2 z2 c2 hE2 w2 s2 h2 => go_O hE2 w2 h2 fun hi δ3 H3 z3 c3 hE3 w3 s3 h3 => by
    cases e : gSl d lo hi with
    | none => rw [e] at h3; exact h3.elim
    | some m =>
      rw [e] at h3
      exact ⟨z3, d, m, w3.zt, s3.fz w2 (s2.fz w1 f1), e, fun v H' q => h3 v H' (q.aft hE3 w3)⟩
end
end FS
namespace FS
open PySem PySem.Spec L2
theorem Cal.mono {P : Program} {w : World} {K : PySem.W.Frag} {mg : Str → Option Value} {base : Heap} {tb : Nat → Addr} {j k : Nat} {x : Str} {ps : List Str} {sem : Sem} (C : Cal P w K mg base tb j x ps sem) (h : j ≤ k) : Cal P w K mg base tb k x ps sem := by
  obtain ⟨f, fd, F, r⟩ := C.ex
  exact ⟨f, fd, F.mono h, r⟩
section
variable {K : PySem.W.Frag} {tb : Nat → Addr} {pin : List (Nat × V)} {W : WX} {H H' H1 : Hp} {z z' z1 : Zn} {c c' c1 : Ct} {σ σ1 : St} {δ δ' : Env'} {X : Cx} {D : Ends} {pins : List (Addr × Obj)} {s : Shared}
variable {a b e : Expr} {F G : EF} {pos p apos : Pos} {es : List Expr} {st : Stmt} {rest body : List Stmt} {S T U : SF} {A : AF} {x y m : Str} {n i j : Nat}
theorem de_gint {k : Int} (h : ∃ t, X.mg x = some (.int k t)) (hg : Gl X x) (hd : (x == ("__debug__" : Str)) = false := by decide) : DE tb W X (.Name x pos) (eC (.int k)) := by
  obtain ⟨t, h⟩ := h
  exact de_const (pe_glob (v := .int k) hg h ⟨t, rfl⟩ hd) fun _ _ => .int k
theorem de_gstr {k : Str} (h : ∃ t, X.mg x = some (.str k t)) (hg : Gl X x) (hd : (x == ("__debug__" : Str)) = false := by decide) : DE tb W X (.Name x pos) (eC (.str k)) := by
  obtain ⟨t, h⟩ := h
  exact de_const (pe_glob (v := .str k) hg h ⟨t, rfl⟩ hd) fun _ _ => .str k
/-- a, b = e, f -/
def setAs : List Nat → List Arg → Env' → Option Env'
  | [], [], δ => some δ
  | i :: is, .val m :: as, δ => if i < δ.length then setAs is as (δ.set i (some m)) else none
  | _, _, _ => none
def sPar (is : List Nat) (A : AF) : SF := fun δ => (A δ).s fun as δ1 => match setAs is as δ1 with
  | some δ2 => .nx δ2
  | none => .bad
def setVs : List Nat → List V → St → St
  | i :: is, v :: vs, σ => setVs is vs (σ.set i (some v))
  | _, _, σ => σ
theorem setAs_of : ∀ {is : List Nat} {as : List Arg} {δ δ' : Env'} {σ σ0 : St} {c : Ct} {vs : List V}, setAs is as δ = some δ' → RpG K tb H z σ0 as vs → RpE K tb H z δ σ c → (is.all fun i => pin.all fun p => decide (p.1 ≠ i)) = true →
    ∃ c', RpE K tb H z δ' (setVs is vs σ) c' ∧ (∀ a, c' a ≤ c a) ∧ (pinOk pin σ → pinOk pin (setVs is vs σ)) ∧ vs.length = is.length
  | [], [], _, _, _, _, c, _, h, g, hE, _ => by
    cases h
    cases g
    exact ⟨c, hE, fun _ => Nat.le_refl _, id, rfl⟩
  | i :: is, .val m :: as, δ, δ', σ, σ0, c, _, h, .val hm g, hE, hp => by
    unfold setAs at h
    split at h
    · rename_i hl
      have hp' := Bool.and_eq_true_iff.mp (show ((pin.all fun p => decide (p.1 ≠ i)) && is.all fun i => pin.all fun p => decide (p.1 ≠ i)) = true from hp)
      obtain ⟨c1, h2, h3⟩ := aft_set hE hl hm
      obtain ⟨c2, h4, h5, h6, h7⟩ := setAs_of h g h2 hp'.2
      exact ⟨c2, h4, fun a => Nat.le_trans (h5 a) (by have := h3 a; exact this), fun q => h6 (pin_set q hp'.1), by simp [h7]⟩
    · cases h
  | i :: is, .io _ :: _, _, _, _, _, _, _, h, _, _, _ => by cases h
  | [], _ :: _, _, _, _, _, _, _, h, _, _, _ => by cases h
  | _ :: _, [], _, _, _, _, _, _, h, _, _, _ => by cases h
theorem go_par {is : List Nat} {Q1 : List V → Hp → Prop} (hpn : (is.all fun i => pin.all fun p => decide (p.1 ≠ i)) = true) (h : tS K tb pin W (sPar is A) D σ H) (k : ∀ vs H', vs.length = is.length → D.nx (setVs is vs σ) H' → Q1 vs H') : tA K tb W A σ H Q1 := by
  obtain ⟨hp, δ, z, c, hE, w, h⟩ := h
  refine ⟨δ, z, c, hE, w, ?_⟩
  unfold sPar at h
  cases e1 : A δ with
  | bad => rw [e1] at h; exact h
  | ex n δ1 => rw [e1] at h; exact fun H' a => h σ H' ⟨hp, a⟩
  | ok as δ1 =>
    rw [e1] at h
    intro vs H1 z1 c1 hE1 g1 w1 s1
    have h : OutS K tb pin W H z c (match setAs is as δ1 with
      | some δ2 => .nx δ2
      | none => .bad) D := h
    cases e2 : setAs is as δ1 with
    | none => rw [e2] at h; exact h.elim
    | some δ2 =>
      rw [e2] at h
      obtain ⟨c2, h1, h2, h3, h4⟩ := setAs_of (pin := pin) e2 g1 hE1 hpn
      exact k vs H1 h4 (h _ H1 ⟨h3 hp, z1, c2, h1, w1.mono h2, s1.mono h2⟩)
theorem ds_par {px py pt : Pos} {kt k2 pt2} (hc : X.calm = true) (hN : X.N.Nodup) (hi : X.N[i]? = some x) (hj : X.N[j]? = some y) (hij : i ≠ j)
    (hx : X.env.scope.names.lookup x = some .local) (hy : X.env.scope.names.lookup y = some .local) (ha : DA tb W X [a, b] A) (hpn : ([i, j].all fun i => pin.all fun p => decide (p.1 ≠ i)) = true)
    (hw : swappedStores [.Tuple [.Name x px, .Name y py] kt pt] (.Tuple [a, b] k2 pt2) X.env = pure (some [x, y]))
    (hs : swapsWithSole [.Tuple [.Name x px, .Name y py] kt pt] (.Tuple [a, b] k2 pt2) pos.line X.env = pure false := by rfl) :
    DS tb pin W X (.Assign [.Tuple [.Name x px, .Name y py] kt pt] (.Tuple [a, b] k2 pt2) pos) (sPar [i, j] A) :=
  (ps_par hc hN hi hj hij hx hy ha hw hs).wk fun D σ H h => go_par hpn h fun vs H' hl q => by
    match vs, hl with
    | [v, w], _ => exact ⟨v, w, rfl, q⟩
theorem ds_par3 {l : Nat} {u : Str} {cc : Expr} {px py pz pt : Pos} {kt k2 pt2} (hc : X.calm = true) (hN : X.N.Nodup) (hi : X.N[i]? = some x) (hj : X.N[j]? = some y) (hl : X.N[l]? = some u) (hij : i ≠ j) (hil : i ≠ l) (hjl : j ≠ l)
    (hx : X.env.scope.names.lookup x = some .local) (hy : X.env.scope.names.lookup y = some .local) (hu : X.env.scope.names.lookup u = some .local) (ha : DA tb W X [a, b, cc] A) (hpn : ([i, j, l].all fun i => pin.all fun p => decide (p.1 ≠ i)) = true)
    (hw : swappedStores [.Tuple [.Name x px, .Name y py, .Name u pz] kt pt] (.Tuple [a, b, cc] k2 pt2) X.env = pure (some [x, y, u]))
    (hs : swapsWithSole [.Tuple [.Name x px, .Name y py, .Name u pz] kt pt] (.Tuple [a, b, cc] k2 pt2) pos.line X.env = pure false := by rfl) :
    DS tb pin W X (.Assign [.Tuple [.Name x px, .Name y py, .Name u pz] kt pt] (.Tuple [a, b, cc] k2 pt2) pos) (sPar [i, j, l] A) :=
  (ps_par3 hc hN hi hj hl hij hil hjl hx hy hu ha hw hs).wk fun D σ H h => go_par hpn h fun vs H' hl q => by
    match vs, hl with
    | [v, w, v3], _ => exact ⟨v, w, v3, rfl, q⟩
/-- x += e, x -= e of ints -/
def sAug (i : Nat) (f : Int → Int → Int) (F : EF) : SF := fun δ => match δ[i]? with
  | some (some (.v (.fz (.int k)))) => (F δ).s fun m δ1 => (match m with
    | .v (.fz (.int k')) => if i < δ1.length then .nx (δ1.set i (some (.fz (.int (f k k'))))) else .bad
    | _ => .bad)
  | _ => .bad
theorem ds_aug {op : Operator} {f : Int → Int → Int} {pos' : Pos} (ho : PIp X op (ipI f)) (hN : X.N.Nodup) (hi : X.N[i]? = some x) (hx : Loc X.env.scope x) (hpn : (pin.all fun p => decide (p.1 ≠ i)) = true) (he : DE tb W X e F) (hf : X.fn x = true ∨ X.env.scope.names.lookup x = some .local := by first | exact .inl rfl | exact .inr rfl | assumption) :
    DS tb pin W X (.AugAssign (.Name x pos') op e pos) (sAug i f F) :=
  (ps_aug hN hi hx he ho hf).wk fun D σ H ⟨hp, δ, z, c, hE, w, h⟩ => by
    unfold sAug at h
    split at h
    · rename_i k q
      obtain ⟨v, c1, c2, e1, e2, _, _⟩ := hE.get q
      have ev : v = .int k := by cases e2 with | v r => cases r with | fz f _ => exact f.int_
      subst ev
      refine ⟨_, e1, ?_⟩
      refine go_S hp hE w h fun m δ1 v H1 z1 c1 cm hE1 r1 w1 s1 h1 => ?_
      split at h1
      · rename_i k'
        split at h1
        · rename_i hl
          have ev : v = .int k' := by cases r1 with | v r => cases r with | fz f _ => exact f.int_
          obtain ⟨c', h2, h3⟩ := aft_set hE1 hl (.v (.fz (.int (f k k')) fun _ => rfl : RpL X.K H1 z1 (.fz (.int (f k k'))) _ zero) : Rp _ tb _ _ _ _ _)
          have hle : ∀ a, c' a ≤ c1 a + cm a := fun a => by have := h3 a; unfold zero at this; omega
          exact ⟨k, k', rfl, ev, h1 _ H1 ⟨pin_set hp hpn, z1, c', h2, w1.mono hle, (Step.refl _ _ _).mono hle⟩⟩
        · exact h1.elim
      · exact h1.elim
    · exact h.elim
end
end FS
namespace FS
open PySem PySem.Spec L2
section
variable {K : PySem.W.Frag} {tb : Nat → Addr} {pin : List (Nat × V)} {W : WX} {H H' H1 : Hp} {z z' z1 : Zn} {c c' c1 : Ct} {σ σ1 : St} {δ δ' : Env'} {X : Cx} {D : Ends} {pins : List (Addr × Obj)} {s : Shared}
variable {a b e : Expr} {F G : EF} {pos p p2 q : Pos}
/-! ### len(set(xs)) -/
theorem nodup_sub {α : Type} [BEq α] [LawfulBEq α] : ∀ {l m : List α}, l.Nodup → (∀ x ∈ l, x ∈ m) → l.length ≤ m.length
  | [], _, _, _ => Nat.zero_le _
  | x :: l, m, h, hs => by
    obtain ⟨h1, h2⟩ := List.nodup_cons.mp h
    have hx := hs x List.mem_cons_self
    have := nodup_sub (l := l) (m := m.erase x) h2 fun y hy => (List.mem_erase_of_ne (fun e => h1 (by rw [← e]; exact hy))).mpr (hs y (List.mem_cons_of_mem _ hy))
    have hl := List.length_erase_of_mem hx
    have hp : 0 < m.length := List.length_pos_of_mem hx
    simp only [List.length_cons]
    omega
/-- each one once -/
def ddL {α : Type} [DecidableEq α] : List α → List α
  | [] => []
  | x :: r => if x ∈ r then ddL r else x :: ddL r
theorem mem_ddL {α : Type} [DecidableEq α] : ∀ {l : List α} {x : α}, x ∈ ddL l ↔ x ∈ l
  | [], _ => Iff.rfl
  | y :: r, x => by
    unfold ddL
    split
    · rename_i h
      rw [mem_ddL]
      exact ⟨List.mem_cons_of_mem _, fun q => (List.mem_cons.mp q).elim (fun e => by rw [e]; exact h) id⟩
    · rw [List.mem_cons, mem_ddL, List.mem_cons]
theorem nodup_ddL {α : Type} [DecidableEq α] : ∀ l : List α, (ddL l).Nodup
  | [] => List.nodup_nil
  | y :: r => by
    unfold ddL
    split
    · exact nodup_ddL r
    · rename_i h
      exact List.nodup_cons.mpr ⟨fun q => h (mem_ddL.mp q), nodup_ddL r⟩
def tupIs : List PD → Option (List (List Int))
  | [] => some []
  | .tuple ds :: r => (allInt ds).bind fun ns => (tupIs r).map (ns :: ·)
  | _ => none
theorem fz_tups : ∀ {ds : List PD} {kss : List (List Int)} {vs : List V}, tupIs ds = some kss → FzA K H z ds vs → ∃ ks : List (Addr × List Int), ks.map (·.2) = kss ∧ vs = ks.map (fun p => V.ref p.1) ∧ ∀ p ∈ ks, SqT K H p.1 (p.2.map V.int)
  | [], _, _, h, .nil => by
    cases h
    exact ⟨[], rfl, rfl, fun p hp => by cases hp⟩
  | .tuple ds :: r, kss, _, h, .cons f fr => by
    unfold tupIs at h
    cases e : allInt ds with
    | none => rw [e] at h; cases h
    | some ns =>
      rw [e] at h
      cases e2 : tupIs r with
      | none => rw [e2] at h; cases h
      | some rs =>
        rw [e2] at h
        simp only [Option.bind_some, Option.map_some, Option.some.injEq] at h
        subst h
        obtain ⟨ks, h1, h2, h3⟩ := fz_tups e2 fr
        obtain ⟨a, ws, rfl, hH, fw⟩ := f.tuple
        have ed := allInt_of e
        subst ed
        have ew := Fz.ints fw
        subst ew
        refine ⟨(a, ns) :: ks, by simp [h1], by simp [h2], fun p hp => ?_⟩
        rcases List.mem_cons.mp hp with rfl | hp
        · exact sqT_of hH
        · exact h3 p hp
  | .none :: _, _, _, h, _ => by cases h
  | .bool _ :: _, _, _, h, _ => by cases h
  | .int _ :: _, _, _, h, _ => by cases h
  | .str _ :: _, _, _, h, _ => by cases h
  | .list _ :: _, _, _, h, _ => by cases h
  | .dict _ :: _, _, _, h, _ => by cases h
def gLenSet : PD → Option M
  | .list ds => if ds.length < 64 then (tupIs ds).map fun ks => .fz (.int (ddL ks).length) else none
  | _ => none
theorem tupIs_len : ∀ {ds : List PD} {kss : List (List Int)}, tupIs ds = some kss → kss.length = ds.length
  | [], _, h => by cases h; rfl
  | .tuple ds :: r, kss, h => by
    unfold tupIs at h
    cases e : allInt ds with
    | none => rw [e] at h; cases h
    | some ns =>
      rw [e] at h
      cases e2 : tupIs r with
      | none => rw [e2] at h; cases h
      | some rs =>
        rw [e2] at h
        simp only [Option.bind_some, Option.map_some, Option.some.injEq] at h
        subst h
        simp [tupIs_len e2]
  | .none :: _, _, h => by cases h
  | .bool _ :: _, _, h => by cases h
  | .int _ :: _, _, h => by cases h
  | .str _ :: _, _, h => by cases h
  | .list _ :: _, _, h => by cases h
  | .dict _ :: _, _, h => by cases h
theorem de_lenSet (hc : X.calm = true) (hu : X.A.units + 64 < cLine) (hg : Gl X "len") (hm : X.mg "len" = none) (hg2 : Gl X "set") (hm2 : X.mg "set" = none) (ha : DE tb W X a F)
    (na : starEach [a] X.env = (false, eval a X.env) :: starEach [] X.env := by rfl) : DE tb W X (.Call (.Name "len" p) [.Call (.Name "set" p2) [a] [] q] [] pos) (eU1 gLenSet F) := by
  refine ⟨fun pins s σ H Q I ⟨δ, z, c, hE, w, h⟩ => ?_⟩
  refine PyProof.Rows.Call_ (ld_blt I hg hm PySem.boot_len ?_)
  refine PyProof.Rows.callWith_builtin1 (PyProof.Rows.args_cons ?_ rfl) rfl rfl
  refine PyProof.Rows.Call_ (ld_blt I hg2 hm2 PyProof.Rows.boot_set ?_)
  have go : tD X.K tb W F σ H fun x H1 => ∃ z1 d m, (∀ a, z1 a → H1 a ≠ none) ∧ Fz X.K H1 z1 d x ∧ gLenSet d = some m ∧ ∀ v H', NewM X.K tb H1 z1 m v H' → Q v H' := go_P hE w h fun d δ1 v H1 z1 c1 hE1 f1 w1 s1 h1 => by
    cases e : gLenSet d with
    | none => rw [e] at h1; exact h1.elim
    | some m =>
      rw [e] at h1
      exact ⟨z1, d, m, w1.zt, f1, e, fun v H' q => h1 v H' (q.aft hE1 w1)⟩
  refine PyProof.Rows.callWith_type1 (PyProof.Rows.args_cons (thn (ha.run pins s σ H _ I go) fun v s1 ⟨x, H1, I1, r1, q1⟩ => PyProof.Rows.args_nil ?_) na) na rfl
  obtain ⟨z1, d, m, hz, f, g, q⟩ := q1
  unfold gLenSet at g
  split at g
  · rename_i ds
    split at g
    · rename_i hlt
      cases et : tupIs ds with
      | none => rw [et] at g; cases g
      | some kss =>
        rw [et] at g
        simp only [Option.map_some, Option.some.injEq] at g
        subst g
        obtain ⟨l, vs, rfl, hH, fv⟩ := f.list
        obtain ⟨ks, h1, h2, h3⟩ := fz_tups et fv
        subst h2
        cases r1
        obtain ⟨its, rv, pl, _⟩ := I1.list (sqL_of hH)
        have hf : ks.length < 64 := by have := tupIs_len et; rw [← h1, List.length_map] at this; omega
        refine call_set_tups (P := X.prog) (w := X.w) ks (I1.ok.hd hc) pl.isList (by simpa using refs_of_vals rv) (fun p hp => I1.isT (h3 p hp)) hf (by omega) fun h' tk L es ep t R g k => ?_
        have J : Inv X pins σ H1 { s1 with heap := h', toks := tk } := I1.kept k
        refine PyProof.Rows.args_nil ?_
        obtain ⟨o, ho, hex, hd⟩ := R.ob
        have hes : es.size = L.length := by
          have hh := congrArg List.length R.rows
          unfold rowsOf at hh
          rw [Array.length_toList, List.length_map] at hh
          exact hh
        have hlen : L.length = (ddL kss).length := by
          have sub1 : ∀ y ∈ L.map (·.2), y ∈ ddL kss := fun y hy => by
            obtain ⟨p, hp, rfl⟩ := List.mem_map.mp hy
            rw [mem_ddL, ← h1]
            exact List.mem_map.mpr ⟨p, List.mem_of_mem_take (g.sub p hp), rfl⟩
          have sub2 : ∀ y ∈ ddL kss, y ∈ L.map (·.2) := fun y hy => by
            rw [mem_ddL, ← h1] at hy
            obtain ⟨p, hp, rfl⟩ := List.mem_map.mp hy
            exact g.all p (by rw [List.take_length]; exact hp)
          have l1 := nodup_sub R.nd sub1
          have l2 := nodup_sub (nodup_ddL kss) sub2
          rw [List.length_map] at l1 l2
          omega
        refine call_len_set ho hex hd (R.fits (s := { s1 with heap := h', toks := tk })) (by rw [hes]; have := R.few; omega) ⟨.int (ddL kss).length, H1, J.tok _, ⟨_, by rw [hes, hlen]⟩, q _ _ (new_int hz)⟩
    · cases g
  · cases g
end
end FS
namespace FS
open PySem PySem.Spec L2
section
variable {K : PySem.W.Frag} {tb : Nat → Addr} {pin : List (Nat × V)} {W : WX} {H H' H1 : Hp} {z z' z1 : Zn} {c c' c1 : Ct} {σ σ1 : St} {δ δ' : Env'} {X : Cx} {D : Ends} {pins : List (Addr × Obj)} {s : Shared}
variable {a b e : Expr} {F G : EF} {pos p p2 q : Pos}
/-! ### an empty dict -/
def eDn : EF := fun δ => .ok (.dic []) δ
theorem NewM.own1 {l : L} {p : Addr} {o : HO} (hz : ∀ a, z a → H a ≠ none) (hp : H p = none) (mo : Mut (some o)) (r : ∀ c, (∀ b, c b = one p b) → RpL K (upd H p o) z l (.ref p) c) : NewM K tb H z (.v l) (.ref p) (upd H p o) := by
  have np : ∀ a, H a ≠ none → a ≠ p := fun a h e => h (e ▸ hp)
  refine ⟨z, one p, fun a h => upd_ne (np a h), fun _ h => h, fun a q => q.imp id fun r => by rw [one_pos r]; exact hp, .v (r _ fun _ => rfl), fun a q => by rw [upd_ne (np a (hz a q))]; exact hz a q, fun a q => one_ne (np a (hz a q)), fun a => ?_, fun a q => ?_⟩
  · unfold one; split <;> omega
  · rw [one_pos q, upd_same]; exact mo
theorem de_dnewK : DE tb W X (.Dict [] [] pos) eDn := pe_dnewK.wk fun σ H Q ⟨δ, z, c, hE, w, h⟩ p hp => h _ _ (NewM.aft hE w (NewM.own1 w.zt hp trivial fun c hc => .dik upd_same .nil hc))
theorem de_dnewT : DE tb W X (.Dict [] [] pos) eDn := pe_dnewT.wk fun σ H Q ⟨δ, z, c, hE, w, h⟩ p hp => h _ _ (NewM.aft hE w (NewM.own1 w.zt hp trivial fun c hc => .dit upd_same .nil hc))
end
end FS
namespace FS
open PySem PySem.Spec L2
section
variable {K : PySem.W.Frag} {tb : Nat → Addr} {pin : List (Nat × V)} {W : WX} {H H' H1 : Hp} {z z' z1 : Zn} {c c' c1 : Ct} {σ σ1 : St} {δ δ' : Env'} {X : Cx} {D : Ends}
variable {a b e : Expr} {F G : EF} {pos : Pos} {es : List Expr} {st : Stmt} {rest body : List Stmt} {S T U : SF} {A : BF}
/-! ### comprehensions with two for -/
def cLoop2 (own own1 : List Nat) (G : PD → Env' → Option Env') (T : BF) (F1 : IF) (G1 : PD → Env' → Option Env') (T1 : BF) (E : EF) : List PD → Env' → Option (List L × Env')
  | [], δ => some ([], δ)
  | d :: ds, δ => match G d δ with
    | none => none
    | some δ1 => match T δ1 with
      | .ok true δ2 => (match F1 δ2 with
        | .ok ds1 δ3 => (match cLoop own1 G1 T1 E ds1 (wipeE δ3 own1) with
          | some r1 => (cLoop2 own own1 G T F1 G1 T1 E ds (wipeE r1.2 own)).map fun r => (r1.1 ++ r.1, r.2)
          | none => none)
        | _ => none)
      | .ok false δ2 => cLoop2 own own1 G T F1 G1 T1 E ds (wipeE δ2 own)
      | _ => none
def eLc2 (own own1 : List Nat) (F : IF) (G : PD → Env' → Option Env') (T : BF) (F1 : IF) (G1 : PD → Env' → Option Env') (T1 : BF) (E : EF) : EF := fun δ => (F δ).bind fun ds δ1 =>
  if keepOk δ1 own = true then match cLoop2 own own1 G T F1 G1 T1 E ds (wipeE δ1 own) with
    | some r => if r.1.length ≤ big then .ok (.lst r.1) (backE δ1 own (wipeE r.2 own)) else .bad
    | none => .bad
  else .bad
theorem lc2_of {own own1 is is1 : List Nat} {If : IF} {Gf : PD → Env' → Option Env'} {Tf : BF} {F1 : IF} {G1 : PD → Env' → Option Env'} {T1 : BF} {Ef : EF} {Q : VK} (hown : ∀ i ∈ is, i ∈ own) (hown1 : ∀ i ∈ is1, i ∈ own1) (hv1 : ∀ i ∈ own1, i ∈ own) (h : tD K tb W (eLc2 own own1 If Gf Tf F1 G1 T1 Ef) σ H Q) :
    tLc2 (tI K tb W If) (tGd K tb [] is Gf) (tT K tb Wno Tf) (tI K tb Wno F1) (tGd K tb [] is1 G1) (tT K tb Wno T1) (tD K tb Wno Ef) own own1 σ H Q := by
  obtain ⟨δ, z, c, hE, w, h⟩ := h
  refine ⟨δ, z, c, hE, w, ?_⟩
  unfold eLc2 at h
  cases e1 : If δ with
  | bad => rw [e1] at h; exact h.elim
  | ex n δ1 => rw [e1] at h; exact h
  | ok ds δ1 =>
    rw [e1] at h
    intro J H1 z1 c1 hE1 w1 s1 ⟨vs, fv, hJ⟩ D hD
    have h : Out K tb W H z c σ (if keepOk δ1 own = true then match cLoop2 own own1 Gf Tf F1 G1 T1 Ef ds (wipeE δ1 own) with
      | some r => if r.1.length ≤ big then .ok (.lst r.1) (backE δ1 own (wipeE r.2 own)) else .bad
      | none => .bad
    else .bad) Q := h
    by_cases hk : keepOk δ1 own = true
    case neg => rw [if_neg hk] at h; exact h.elim
    rw [if_pos hk] at h
    cases cl : cLoop2 own own1 Gf Tf F1 G1 T1 Ef ds (wipeE δ1 own) with
    | none => rw [cl] at h; exact h.elim
    | some r =>
      obtain ⟨ls, δe⟩ := r
      rw [cl] at h
      dsimp only at h
      by_cases hbig : ls.length ≤ big
      case neg => rw [if_neg hbig] at h; exact h.elim
      rw [if_pos hbig] at h
      have hlen := fv.len
      have nD : ∀ a, H1 a ≠ none → a ≠ D := fun a q e => q (e ▸ hD)
      obtain ⟨cw, hEw, hcw⟩ := wipeE_of (vs := own) hE1
      refine ⟨fun i m H2 => m = vs.length - i ∧ i ≤ vs.length ∧ ∃ δ3 z3 c3 la va ca lr, RpE K tb H2 z3 δ3 (wipe σ own) c3 ∧ H2 D = some (.lst va) ∧ RpA K H2 z3 la va ca ∧ Wf H2 z3 (fun a => c3 a + (ca a + one D a)) ∧
        Step H1 z1 c1 H2 z3 (fun a => c3 a + (ca a + one D a)) ∧ cLoop2 own own1 Gf Tf F1 G1 T1 Ef (ds.drop i) δ3 = some (lr, δe) ∧ la ++ lr = ls ∧ δ3.length = δ1.length,
        ⟨vs.length, by simp, Nat.zero_le _, wipeE δ1 own, z1, cw, [], [], zero, ls, hEw.mono (fun _ q => q) (fun a q => upd_ne (nD a (w1.zt a q))) (fun a q => upd_ne (nD a (mut_ne (w1.cm a (Nat.lt_of_lt_of_le q (hcw a)))))), upd_same, .nil fun _ => rfl, ?_, ?_, by simpa using cl, rfl, wipeE_len⟩, ?_⟩
      · refine ⟨fun a q => by rw [upd_ne (nD a (w1.zt a q))]; exact w1.zt a q, fun a q => ?_, fun a => ?_, fun a q => ?_⟩
        · show cw a + (0 + one D a) = 0
          have := hcw a
          have := w1.zc a q
          rw [one_ne (nD a (w1.zt a q))]
          omega
        · show cw a + (0 + one D a) ≤ 1
          have := hcw a
          have := w1.c1 a
          by_cases e : a = D
          · subst e
            have : cw a = 0 := by
              rcases Nat.eq_zero_or_pos (cw a) with q | q
              · exact q
              · exact absurd hD (mut_ne (w1.cm a (by omega)))
            rw [one_self]; omega
          · rw [one_ne e]; omega
        · have q : 0 < cw a + (0 + one D a) := q
          by_cases e : a = D
          · subst e; rw [upd_same]; trivial
          · rw [upd_ne e]
            rw [one_ne e] at q
            exact w1.cm a (by have := hcw a; omega)
      · refine ⟨fun a q _ => upd_ne (nD a q), fun _ q => q, fun a q => ?_, fun a q => by rw [upd_ne (nD a q)]; exact q⟩
        rcases q with q | q
        · exact .inl q
        · have q : 0 < cw a + (0 + one D a) := q
          by_cases e : a = D
          · subst e; exact .inr (.inr hD)
          · rw [one_ne e] at q
            exact .inr (.inl (by have := hcw a; omega))
      · rintro i m H2 ⟨rfl, hi, δ3, z3, c3, la, va, ca, lr, hE3, hD3, hA3, w3, s3, cl3, ela, hl3⟩
        have w3' : Wf H2 z3 c3 := w3.mono fun a => Nat.le_add_right _ _
        have zs : ∀ a, z1 a → H2 a = H1 a := s3.on w1
        obtain ⟨j1, j2, j3⟩ := hJ H2 zs
        by_cases hlt : i < vs.length
        · have hv : vs[i]? = some vs[i] := List.getElem?_eq_getElem hlt
          refine .inr ⟨j1 i _ hv, fun H' => ∃ δ4 z4 c4 la va ca lr, RpE K tb H' z4 δ4 (wipe σ own) c4 ∧ H' D = some (.lst va) ∧ RpA K H' z4 la va ca ∧ Wf H' z4 (fun a => c4 a + (ca a + one D a)) ∧
            Step H1 z1 c1 H' z4 (fun a => c4 a + (ca a + one D a)) ∧ cLoop2 own own1 Gf Tf F1 G1 T1 Ef (ds.drop (i + 1)) δ4 = some (lr, δe) ∧ la ++ lr = ls ∧ δ4.length = δ1.length,
            fun H' q => ⟨vs.length - (i + 1), by omega, rfl, hlt, q⟩, fun x H' y => ?_⟩
          obtain ⟨hH, rfl⟩ := j2 i _ x H' hv y
          have hH := hH.symm
          subst hH
          obtain ⟨d, hd, fd⟩ := fv.get' hv
          have hds : ds.drop i = d :: ds.drop (i + 1) := by
            obtain ⟨hh, e⟩ := List.getElem?_eq_some_iff.mp hd
            rw [← e]
            exact List.drop_eq_getElem_cons hh
          rw [hds] at cl3
          unfold cLoop2 at cl3
          cases e2 : Gf d δ3 with
          | none => rw [e2] at cl3; cases cl3
          | some δ4 =>
            rw [e2] at cl3
            dsimp only at cl3
            refine ⟨δ3, z3, c3, d, δ4, hE3, w3', fd.mono s3.zin zs, e2, fun σ' c' a1 a2 _ a4 => ?_⟩
            have hw : wipe σ' own = wipe σ own := (a4 own hown).trans (wipe_wipe own σ fun _ q => q)
            have hl4 : δ4.length = δ1.length := (a1.len.trans (by
              have e1 := hE3.len
              have : (wipe σ' own).length = (wipe σ own).length := by rw [hw]
              rw [wipe_length] at this
              rw [this, ← e1])).trans hl3
            refine ⟨hw, ?_⟩
            have w4 : Wf H2 z3 c' := w3'.mono a2
            have w4t : Wf H2 z3 (fun a => c' a + (ca a + one D a)) := w3.mono fun a => by have := a2 a; show c' a + (ca a + one D a) ≤ c3 a + (ca a + one D a); omega
            have s4t : Step H1 z1 c1 H2 z3 (fun a => c' a + (ca a + one D a)) := s3.mono fun a => by have := a2 a; show c' a + (ca a + one D a) ≤ c3 a + (ca a + one D a); omega
            refine ⟨δ4, z3, c', a1, w4, ?_⟩
            cases e3 : Tf δ4 with
            | bad => rw [e3] at cl3; cases cl3
            | ex n δ5 => rw [e3] at cl3; cases cl3
            | ok bb δ5 =>
              rw [e3] at cl3
              intro H5 ⟨z5, c5, hE5, w5, s5⟩
              obtain ⟨k5, w5t, s5t⟩ := Step.frame w4t w5 s5
              have hD5 : H5 D = some (.lst va) := (k5 D (by show 0 < ca D + one D D; rw [one_self]; omega)).trans hD3
              have hA5 : RpA K H5 z5 la va ca := hA3.mono s5.zin (s5.on w4) fun a q => k5 a (by show 0 < ca a + one D a; omega)
              have s5t' := s4t.trans w4t s5t
              cases bb with
              | false =>
                rw [if_neg Bool.false_ne_true]
                dsimp only at cl3
                obtain ⟨c6, hE6, h6⟩ := wipeE_of (vs := own) hE5
                rw [hw] at hE6
                have hle : ∀ a, c6 a + (ca a + one D a) ≤ c5 a + (ca a + one D a) := fun a => by have := h6 a; omega
                exact ⟨wipeE δ5 own, z5, c6, la, va, ca, lr, hE6, hD5, hA5, w5t.mono hle, s5t'.mono hle, cl3, ela, wipeE_len.trans (hE5.len.trans (a1.len.symm.trans hl4))⟩
              | true =>
                rw [if_pos rfl]
                dsimp only at cl3
                refine ⟨δ5, z5, c5, hE5, w5, ?_⟩
                cases e4 : F1 δ5 with
                | bad => rw [e4] at cl3; cases cl3
                | ex n δ6 => rw [e4] at cl3; cases cl3
                | ok ds1 δ6 =>
                  rw [e4] at cl3
                  dsimp only at cl3
                  intro J1 H6 z6 c6 hE6 w6 s6 ⟨vs1, fv1, hJ1⟩
                  obtain ⟨k6, w6t, s6t⟩ := Step.frame w5t w6 s6
                  have hD6 : H6 D = some (.lst va) := (k6 D (by show 0 < ca D + one D D; rw [one_self]; omega)).trans hD5
                  have hA6 : RpA K H6 z6 la va ca := hA5.mono s6.zin (s6.on w5) fun a q => k6 a (by show 0 < ca a + one D a; omega)
                  have s6t' := s5t'.trans w5t s6t
                  have hl6 : δ6.length = δ1.length := hE6.len.trans (a1.len.symm.trans hl4)
                  cases e5 : cLoop own1 G1 T1 Ef ds1 (wipeE δ6 own1) with
                  | none => rw [e5] at cl3; cases cl3
                  | some r1 =>
                    obtain ⟨ls1, δe1⟩ := r1
                    rw [e5] at cl3
                    dsimp only at cl3
                    cases e6 : cLoop2 own own1 Gf Tf F1 G1 T1 Ef (ds.drop (i + 1)) (wipeE δe1 own) with
                    | none => rw [e6] at cl3; cases cl3
                    | some rr =>
                      obtain ⟨lr2, δx⟩ := rr
                      rw [e6] at cl3
                      simp only [Option.map_some, Option.some.injEq, Prod.mk.injEq] at cl3
                      obtain ⟨rfl, rfl⟩ := cl3
                      obtain ⟨cw6, hEw6, hcw6⟩ := wipeE_of (vs := own1) hE6
                      have hle6 : ∀ a, cw6 a + (ca a + one D a) ≤ c6 a + (ca a + one D a) := fun a => by have := hcw6 a; omega
                      refine ⟨fun j k Hj => k = vs1.length - j ∧ j ≤ vs1.length ∧ ∃ δ7 z7 c7 la7 va7 ca7 lr7, RpE K tb Hj z7 δ7 (wipe σ' own1) c7 ∧ Hj D = some (.lst va7) ∧ RpA K Hj z7 la7 va7 ca7 ∧ Wf Hj z7 (fun a => c7 a + (ca7 a + one D a)) ∧
                        Step H6 z6 (fun a => c6 a + (ca a + one D a)) Hj z7 (fun a => c7 a + (ca7 a + one D a)) ∧ cLoop own1 G1 T1 Ef (ds1.drop j) δ7 = some (lr7, δe1) ∧ la7 ++ lr7 = la ++ ls1 ∧ δ7.length = δ1.length,
                        ⟨vs1.length, by simp, Nat.zero_le _, wipeE δ6 own1, z6, cw6, la, va, ca, ls1, hEw6, hD6, hA6, w6t.mono hle6, (Step.refl _ _ _).mono hle6, by simpa using e5, rfl, wipeE_len.trans hl6⟩, ?_⟩
                      rintro j k Hj ⟨rfl, hj, δ7, z7, c7, la7, va7, ca7, lr7, hE7, hD7, hA7, w7, s7, cl7, ela7, hl7⟩
                      have w7' : Wf Hj z7 c7 := w7.mono fun a => Nat.le_add_right _ _
                      have zs7 : ∀ a, z6 a → Hj a = H6 a := s7.on w6t
                      obtain ⟨j1', j2', j3'⟩ := hJ1 Hj zs7
                      have lva : la7.length = va7.length := by
                        have go : ∀ {l : List L} {v : List V} {c : Ct}, RpA K Hj z7 l v c → l.length = v.length := by
                          intro l
                          induction l with
                          | nil => intro v c h; cases h; rfl
                          | cons x r ih => intro v c h; cases h with | cons _ h2 _ => simp [ih h2]
                        exact go hA7
                      by_cases hlt1 : j < vs1.length
                      · have hv' : vs1[j]? = some vs1[j] := List.getElem?_eq_getElem hlt1
                        refine .inr ⟨j1' j _ hv', fun H' => ∃ δ8 z8 c8 la8 va8 ca8 lr8, RpE K tb H' z8 δ8 (wipe σ' own1) c8 ∧ H' D = some (.lst va8) ∧ RpA K H' z8 la8 va8 ca8 ∧ Wf H' z8 (fun a => c8 a + (ca8 a + one D a)) ∧
                          Step H6 z6 (fun a => c6 a + (ca a + one D a)) H' z8 (fun a => c8 a + (ca8 a + one D a)) ∧ cLoop own1 G1 T1 Ef (ds1.drop (j + 1)) δ8 = some (lr8, δe1) ∧ la8 ++ lr8 = la ++ ls1 ∧ δ8.length = δ1.length,
                          fun H' q => ⟨vs1.length - (j + 1), by omega, rfl, hlt1, q⟩, fun x H' y => ?_⟩
                        obtain ⟨hH, rfl⟩ := j2' j _ x H' hv' y
                        have hH := hH.symm
                        subst hH
                        obtain ⟨d1, hd1, fd1⟩ := fv1.get' hv'
                        have hds1 : ds1.drop j = d1 :: ds1.drop (j + 1) := by
                          obtain ⟨hh, e⟩ := List.getElem?_eq_some_iff.mp hd1
                          rw [← e]
                          exact List.drop_eq_getElem_cons hh
                        rw [hds1] at cl7
                        unfold cLoop at cl7
                        cases e8 : G1 d1 δ7 with
                        | none => rw [e8] at cl7; cases cl7
                        | some δ8 =>
                          rw [e8] at cl7
                          dsimp only at cl7
                          refine ⟨δ7, z7, c7, d1, δ8, hE7, w7', fd1.mono s7.zin zs7, e8, fun σ'' c'' b1 b2 _ b4 => ?_⟩
                          have hw1 : wipe σ'' own1 = wipe σ' own1 := (b4 own1 hown1).trans (wipe_wipe own1 σ' fun _ q => q)
                          have hl8 : δ8.length = δ1.length := (b1.len.trans (by
                            have e1 := hE7.len
                            have : (wipe σ'' own1).length = (wipe σ' own1).length := by rw [hw1]
                            rw [wipe_length] at this
                            rw [this, ← e1])).trans hl7
                          refine ⟨hw1, ?_⟩
                          have w8 : Wf Hj z7 c'' := w7'.mono b2
                          have w8t : Wf Hj z7 (fun a => c'' a + (ca7 a + one D a)) := w7.mono fun a => by have := b2 a; show c'' a + (ca7 a + one D a) ≤ c7 a + (ca7 a + one D a); omega
                          have s8t : Step H6 z6 (fun a => c6 a + (ca a + one D a)) Hj z7 (fun a => c'' a + (ca7 a + one D a)) := s7.mono fun a => by have := b2 a; show c'' a + (ca7 a + one D a) ≤ c7 a + (ca7 a + one D a); omega
                          refine ⟨δ8, z7, c'', b1, w8, ?_⟩
                          cases e9 : T1 δ8 with
                          | bad => rw [e9] at cl7; cases cl7
                          | ex n δ9 => rw [e9] at cl7; cases cl7
                          | ok bb1 δ9 =>
                            rw [e9] at cl7
                            intro H9 ⟨z9, c9, hE9, w9, s9⟩
                            obtain ⟨k9, w9t, s9t⟩ := Step.frame w8t w9 s9
                            have hD9 : H9 D = some (.lst va7) := (k9 D (by show 0 < ca7 D + one D D; rw [one_self]; omega)).trans hD7
                            have hA9 : RpA K H9 z9 la7 va7 ca7 := hA7.mono s9.zin (s9.on w8) fun a q => k9 a (by show 0 < ca7 a + one D a; omega)
                            have s9t' := s8t.trans w8t s9t
                            cases bb1 with
                            | false =>
                              rw [if_neg Bool.false_ne_true]
                              dsimp only at cl7
                              obtain ⟨ca1, hEa, ha6⟩ := wipeE_of (vs := own1) hE9
                              rw [hw1] at hEa
                              have hle : ∀ a, ca1 a + (ca7 a + one D a) ≤ c9 a + (ca7 a + one D a) := fun a => by have := ha6 a; omega
                              exact ⟨wipeE δ9 own1, z9, ca1, la7, va7, ca7, lr7, hEa, hD9, hA9, w9t.mono hle, s9t'.mono hle, cl7, ela7, wipeE_len.trans (hE9.len.trans (b1.len.symm.trans hl8))⟩
                            | true =>
                              rw [if_pos rfl]
                              dsimp only at cl7
                              refine ⟨δ9, z9, c9, hE9, w9, ?_⟩
                              cases e10 : Ef δ9 with
                              | bad => rw [e10] at cl7; cases cl7
                              | ex n δa => rw [e10] at cl7; cases cl7
                              | ok mm δa =>
                                rw [e10] at cl7
                                cases mm with
                                | o _ _ _ => cases cl7
                                | v l =>
                                  dsimp only at cl7
                                  intro y Ha ⟨za, cA, cm, hEa, hRa, wa, sa⟩
                                  obtain ⟨ka, wat, sat⟩ := Step.frame w9t wa sa
                                  have hDa : Ha D = some (.lst va7) := (ka D (by show 0 < ca7 D + one D D; rw [one_self]; omega)).trans hD9
                                  have hAa : RpA K Ha za la7 va7 ca7 := hA9.mono sa.zin (sa.on w9) fun a q => ka a (by show 0 < ca7 a + one D a; omega)
                                  have sat' := s9t'.trans w9t sat
                                  cases e11 : cLoop own1 G1 T1 Ef (ds1.drop (j + 1)) (wipeE δa own1) with
                                  | none => rw [e11] at cl7; cases cl7
                                  | some rr =>
                                    obtain ⟨lr9, δx⟩ := rr
                                    rw [e11] at cl7
                                    simp only [Option.map_some, Option.some.injEq, Prod.mk.injEq] at cl7
                                    obtain ⟨rfl, rfl⟩ := cl7
                                    have hbl : la7.length < big := by
                                      have q1 := congrArg List.length ela7
                                      have q2 := congrArg List.length ela
                                      simp only [List.length_append, List.length_cons] at q1 q2
                                      omega
                                    refine ⟨va7, hDa, by rw [← lva, big_eq]; exact hbl, ?_⟩
                                    have pD : 0 < cA D + cm D + (ca7 D + one D D) := by rw [one_self]; omega
                                    obtain ⟨wu, su⟩ := Wf.upd (p := D) (o := .lst (va7 ++ [y])) wat pD trivial
                                    have oD : ∀ a, za a → a ≠ D := fun a q e => by
                                      subst e
                                      have q2 : cA a + cm a + (ca7 a + one a a) = 0 := wat.zc a q
                                      rw [one_self] at q2; omega
                                    have cD : cA D + cm D + ca7 D = 0 := by
                                      have q2 : cA D + cm D + (ca7 D + one D D) ≤ 1 := wat.c1 D
                                      rw [one_self] at q2; omega
                                    have nDc : ∀ (cc : Ct) a, cc D = 0 → 0 < cc a → a ≠ D := fun cc a h1 h2 e => by rw [e, h1] at h2; exact Nat.lt_irrefl _ h2
                                    obtain ⟨cB, hEB, hB⟩ := wipeE_of (vs := own1) (hEa.mono (fun _ q => q) (fun a q => upd_ne (oD a q)) fun a q => upd_ne (o := .lst (va7 ++ [y])) (nDc cA a (by omega) q))
                                    rw [hw1] at hEB
                                    have hRB : RpL K (upd Ha D (.lst (va7 ++ [y]))) za l y cm := by
                                      cases hRa with
                                      | v r => exact r.mono (fun _ q => q) (fun a q => upd_ne (oD a q)) fun a q => upd_ne (nDc cm a (by omega) q)
                                    have hAB := (hAa.mono (fun _ q => q) (fun a q => upd_ne (oD a q)) fun a q => upd_ne (o := .lst (va7 ++ [y])) (nDc ca7 a (by omega) q)).app
                                      (.cons (c2 := zero) hRB (.nil fun _ => rfl) fun a => by show cm a = cm a + 0; omega)
                                    have hle : ∀ a, cB a + ((ca7 a + cm a) + one D a) ≤ cA a + cm a + (ca7 a + one D a) := fun a => by have := hB a; omega
                                    exact ⟨wipeE δa own1, za, cB, la7 ++ [l], va7 ++ [y], fun a => ca7 a + cm a, lr9, hEB, upd_same, hAB, wu.mono hle, (sat'.trans wat su).mono hle, e11, by rw [← ela7]; simp,
                                      wipeE_len.trans (hEa.len.trans (b1.len.symm.trans hl8))⟩
                      · have e : j = vs1.length := by omega
                        have hlen1 := fv1.len
                        rw [List.drop_of_length_le (by omega)] at cl7
                        unfold cLoop at cl7
                        simp only [Option.some.injEq, Prod.mk.injEq] at cl7
                        obtain ⟨rfl, rfl⟩ := cl7
                        rw [List.append_nil] at ela7
                        refine .inl ⟨j3' j (by omega), ?_⟩
                        obtain ⟨cC, hEC, hC⟩ := wipeE_of (vs := own) hE7
                        rw [wipe_wipe own1 σ' hv1, hw] at hEC
                        have hle : ∀ a, cC a + (ca7 a + one D a) ≤ c7 a + (ca7 a + one D a) := fun a => by have := hC a; omega
                        exact ⟨wipeE δ7 own, z7, cC, la7, va7, ca7, lr2, hEC, hD7, hA7, w7.mono hle, (s6t'.trans w6t s7).mono hle, e6, by rw [ela7, List.append_assoc]; exact ela, wipeE_len.trans hl7⟩
        · have e : i = vs.length := by omega
          rw [List.drop_of_length_le (by omega)] at cl3
          unfold cLoop2 at cl3
          simp only [Option.some.injEq, Prod.mk.injEq] at cl3
          obtain ⟨rfl, rfl⟩ := cl3
          rw [List.append_nil] at ela
          subst ela
          refine .inl ⟨j3 i (by omega), ?_⟩
          obtain ⟨c9, hE9, h9⟩ := wipeE_of (vs := own) hE3
          have hEc : RpE K tb H2 z3 (wipeE δ3 own) σ c9 := RpE.congr hE9 (by rw [wipe_length, wipe_length]) fun j m q => by
            obtain ⟨q1, _⟩ := wipeE_none q
            rw [wipe_out q1, wipe_out q1]
          obtain ⟨c10, hE10, h10, _⟩ := backE_of (δ0 := δ1) (vs := own) hEc (by rw [wipeE_len, hl3]) fun v hv m q => by
            have hq := List.all_eq_true.mp hk v hv
            rw [q] at hq
            obtain ⟨x, cc1, cc2, e1, r1, _⟩ := hE1.get q
            cases m with
            | o _ _ _ => cases hq
            | v l =>
              cases l with
              | fz d =>
                cases r1 with
                | v r => cases r with
                  | fz f _ => exact ⟨d, x, rfl, e1, f.mono s3.zin zs⟩
              | lst _ => cases hq
              | dic _ => cases hq
          have hle : ∀ a, c10 a + (one D a + ca a) ≤ c3 a + (ca a + one D a) := fun a => by have := h9 a; have := h10 a; omega
          exact h (.ref D) H2 ⟨z3, c10, fun a => one D a + ca a, hE10, .v (.lst hD3 hA3 fun _ => rfl), w3.mono hle, (s1.trans w1 s3).mono hle⟩
end
end FS
namespace FS
open PySem PySem.Spec L2
section
variable {K : PySem.W.Frag} {tb : Nat → Addr} {pin : List (Nat × V)} {W : WX} {H H' H1 : Hp} {z z' z1 : Zn} {c c' c1 : Ct} {σ σ1 : St} {δ δ' : Env'} {X : Cx} {D : Ends}
variable {a b e : Expr} {F G : EF} {pos : Pos} {es : List Expr} {st : Stmt} {rest body : List Stmt} {S T U : SF} {A : BF}
variable {tg iter tg1 iter1 elt : Expr} {ifs ifs1 : List Expr} {scope : Scope} {own : List (Str × Nat)} {is is1 own1 : List Nat} {If F1 : IF} {Gf G1 : PD → Env' → Option Env'} {Tf T1 : BF} {Ef : EF}
theorem de_lc2 (hc : X.calm = true) (hN : X.N.Nodup) (hi : DI tb W X tg iter If) (ok : BlkOk X.N X.env.scope scope own)
    (hg : ∀ (s : Shared) (H : Hp) (C : Addr) (cl : List (Str × Addr)) (fp : List Addr), DG tb [] (X.blk s H scope (compEnvC scope cl C X.env) fp) tg is Gf) (ht : ∀ (s : Shared) (H : Hp) (C : Addr) (cl : List (Str × Addr)) (fp : List Addr), DTs tb Wno (X.blk s H scope (compEnvC scope cl C X.env) fp) ifs Tf)
    (hi1 : ∀ (s : Shared) (H : Hp) (C : Addr) (cl : List (Str × Addr)) (fp : List Addr), DI tb Wno (X.blk s H scope (compEnvC scope cl C X.env) fp) tg1 iter1 F1)
    (hg1 : ∀ (s : Shared) (H : Hp) (C : Addr) (cl : List (Str × Addr)) (fp : List Addr), DG tb [] (X.blk s H scope (compEnvC scope cl C X.env) fp) tg1 is1 G1) (ht1 : ∀ (s : Shared) (H : Hp) (C : Addr) (cl : List (Str × Addr)) (fp : List Addr), DTs tb Wno (X.blk s H scope (compEnvC scope cl C X.env) fp) ifs1 T1)
    (he : ∀ (s : Shared) (H : Hp) (C : Addr) (cl : List (Str × Addr)) (fp : List Addr), DE tb Wno (X.blk s H scope (compEnvC scope cl C X.env) fp) elt Ef) (hown : ∀ i ∈ is, i ∈ own.map (·.2) := by decide) (hown1 : ∀ i ∈ is1, i ∈ own1 := by decide) (hv1 : ∀ i ∈ own1, i ∈ own.map (·.2) := by decide)
    (hs : ∀ x, foldedSetIterable iter X.env x = pure x := by intro _; rfl) (hs1 : ∀ (env : Env) (x : Value), foldedSetIterable iter1 env x = pure x := by intro _ _; rfl) :
    DE tb W X (.ListComp elt [⟨tg, iter, ifs, 0⟩, ⟨tg1, iter1, ifs1, 0⟩] scope pos) (eLc2 (own.map (·.2)) own1 If Gf Tf F1 G1 T1 Ef) := (pe_lc2 hc hN hi ok hv1 hg ht hi1 hg1 ht1 he hs hs1).wk fun σ H Q h => lc2_of hown hown1 hv1 h
end
end FS
namespace FS
open PySem PySem.Spec L2
section
variable {K : PySem.W.Frag} {tb : Nat → Addr} {pin : List (Nat × V)} {W : WX} {H H' H1 : Hp} {z z' z1 : Zn} {c c' c1 : Ct} {σ σ1 : St} {δ δ' : Env'} {X : Cx} {D : Ends}
variable {a b e : Expr} {pos : Pos}
/-! ### a look that makes a new list of things that don't change -/
def fzImm : L → Bool
  | .fz d => immut d
  | _ => false
def ePkN (F : EF) : EF := fun δ =>
  match F (frzE δ) with
  | .ok (.v (.lst ls)) _ => if ls.all fzImm then .ok (.v (.lst ls)) δ else .bad
  | .ex n _ => .ex n δ
  | _ => .bad
theorem pkn_all (w : Wf H z c) (h : Step H (fun a => z a ∨ 0 < c a) zero H' z' c') : ∀ {ls : List L} {vs : List V} {cc : Ct}, RpA K H' z' ls vs cc → ls.all fzImm = true → RpA K H' (fun a => z' a ∧ c a = 0) ls vs cc
  | [], _, _, .nil e, _ => .nil e
  | .fz d :: r, _, _, .cons (.fz f e0) r' e, q => by
    have q' := Bool.and_eq_true_iff.mp (show (fzImm (.fz d) && r.all fzImm) = true from q)
    exact .cons (.fz (pk_imm w h f q'.1) e0) (pkn_all w h r' q'.2) e
  | .lst _ :: r, _, _, _, q => by
    have q' := Bool.and_eq_true_iff.mp (show (false && r.all fzImm) = true from q)
    exact absurd q'.1 Bool.false_ne_true
  | .dic _ :: r, _, _, _, q => by
    have q' := Bool.and_eq_true_iff.mp (show (false && r.all fzImm) = true from q)
    exact absurd q'.1 Bool.false_ne_true
theorem de_peekN {F : EF} (h : DE tb W X e F) : DE tb W X e (ePkN F) := PE.wk h fun σ H Q ⟨δ, z, c, hE, w, h⟩ => by
  refine ⟨frzE δ, fun a => z a ∨ 0 < c a, zero, RpE.mono (fun _ q => q) (fun _ _ => rfl) (hE.freeze (fun _ => .inl) fun _ => .inr) (fun _ _ => rfl), pk_wf w, ?_⟩
  unfold ePkN at h
  cases e : F (frzE δ) with
  | ok m δ1 =>
    rw [e] at h
    cases m with
    | v l =>
      cases l with
      | fz d => exact h.elim
      | lst ls =>
        intro v H' ⟨z1, c1, cm, h1, h2, h3, h4⟩
        dsimp only at h
        by_cases hi : ls.all fzImm = true
        · rw [if_pos hi] at h
          obtain ⟨b1, b2, b3⟩ := pk_back (δ1 := δ1) hE w h4 h3
          have hz : ∀ a, (z a ∨ 0 < c a) → z1 a := h4.zin
          have m0 : ∀ a, 0 < cm a → H a = none := fun a q => by
            rcases h4.src a (.inr (show 0 < c1 a + cm a by omega)) with r | r | r
            · have := h3.zc a (hz a r)
              have : c1 a + cm a = 0 := this
              omega
            · exact absurd r (Nat.lt_irrefl _)
            · exact r
          have c0 : ∀ a, 0 < cm a → c a = 0 := fun a q => by
            rcases Nat.eq_zero_or_pos (c a) with p | p
            · exact p
            · exact absurd (m0 a q) (mut_ne (w.cm a p))
          refine h v H' ⟨fun a => z1 a ∧ c a = 0, c, cm, b1, ?_, ⟨b2.zt, fun a q => ?_, fun a => ?_, fun a q => ?_⟩, ⟨fun a q q2 => h4.keep a q rfl, b3.zin, fun a q => ?_, b3.dom⟩⟩
          · cases h2 with
            | v r =>
              cases r with
              | lst g ra e2 => exact .v (.lst g (pkn_all w h4 ra hi) e2)
          · have q1 := b2.zc a q
            have q2 : c1 a + cm a = 0 := h3.zc a q.1
            show c a + cm a = 0
            have q1 : c a = 0 := q1
            omega
          · show c a + cm a ≤ 1
            have q2 : c1 a + cm a ≤ 1 := h3.c1 a
            have q3 := w.c1 a
            rcases Nat.eq_zero_or_pos (cm a) with p | p
            · omega
            · have := c0 a p; omega
          · have q : 0 < c a + cm a := q
            rcases Nat.eq_zero_or_pos (cm a) with p | p
            · exact b2.cm a (by omega)
            · exact h3.cm a (show 0 < c1 a + cm a by omega)
          · rcases q with q | q
            · exact b3.src a (.inl q)
            · have q : 0 < c a + cm a := q
              rcases Nat.eq_zero_or_pos (cm a) with p | p
              · exact .inr (.inl (by omega))
              · exact .inr (.inr (m0 a p))
        · rw [if_neg hi] at h
          exact h.elim
      | dic _ => exact h.elim
    | o _ _ _ => exact h.elim
  | ex n δ1 =>
    rw [e] at h
    intro H' a
    obtain ⟨z1, c1, h1, h3, h4⟩ := a
    obtain ⟨b1, b2, b3⟩ := pk_back (δ1 := δ1) hE w h4 h3
    exact h H' ⟨_, _, b1, b2, b3⟩
  | bad => rw [e] at h; exact h.elim
end
end FS
namespace FS
open PySem PySem.Spec L2
section
variable {K : PySem.W.Frag} {tb : Nat → Addr} {pin : List (Nat × V)} {W : WX} {H H' H1 : Hp} {z z' z1 : Zn} {c c' c1 : Ct} {σ σ1 : St} {δ δ' : Env'} {X : Cx} {D : Ends}
variable {a b e : Expr} {F G : EF} {pos : Pos}
/-! ### an own list looked at by an index that changes something else -/
def ixoK (i : Nat) (d : PD) (δ1 : Env') : R M := match δ1[i]?, d with
  | some (some (.v (.lst ls))), .int k => (match atI (L.pds ls) k with
    | some e => if immut e then .ok (.fz e) δ1 else .bad
    | none => .bad)
  | _, _ => .bad
def eIxO (i : Nat) (G : EF) : EF := fun δ => match δ[i]? with
  | some (some (.v (.lst _))) => (G δ).p fun d δ1 => ixoK i d δ1
  | _ => .bad
theorem de_ixO {i : Nat} (ha : PE X a (tVar i)) (hb : DE tb W X b G) (hs : PlainIx b) : DE tb W X (.Subscript a b pos) (eIxO i G) :=
  (pe_ix ix_list ha hb hs).wk fun σ H Q ⟨δ, z, c, hE, w, h⟩ => by
    unfold eIxO at h
    split at h
    · rename_i ls0 q0
      obtain ⟨v, c1, c2, e1, e2, e3, e4⟩ := hE.get q0
      refine ⟨v, e1, go_P hE w h fun d δ1 y H1 z1 c1' hE1 f1 w1 s1 h1 => ?_⟩
      unfold ixoK at h1
      split at h1
      · rename_i ls k q1
        obtain ⟨v', d1, d2, g1, g2, g3, g4⟩ := hE1.get q1
        have hv : v' = v := by
          rw [e1] at g1
          exact (Option.some.inj (Option.some.inj g1)).symm
        subst hv
        cases g2 with
        | v r => cases r with
          | lst gg ra re =>
            rename_i p vs cc
            have fA : FzA X.K H1 (fun a => z1 a ∨ 0 < c1' a) (L.pds ls) vs := RpA.freeze (fun _ => .inl) ra fun a q => .inr (by rw [g3, re]; omega)
            cases ea : atI (L.pds ls) k with
            | none => rw [ea] at h1; exact h1.elim
            | some el =>
              rw [ea] at h1
              dsimp only at h1
              by_cases hi : immut el = true
              · rw [if_pos hi] at h1
                obtain ⟨wv, e5, f5⟩ := fA.at ea
                have f6 : Fz X.K H1 z1 el wv := f5.immut (fun a q ⟨xs, r⟩ => by
                  rcases q with q | q
                  · exact q
                  · have m := w1.cm a q
                    rcases r with r | ⟨o, r⟩ <;> (rw [r] at m; exact m.elim)) hi
                rw [f1.int_]
                exact ⟨p, vs, k, wv, rfl, rfl, sqL_of (z := fun _ => True) (.inl ⟨trivial, .inl gg⟩), e5, Out.const hE1 w1 f6 h1⟩
              · rw [if_neg hi] at h1; exact h1.elim
      · exact h1.elim
    · exact h.elim
end
end FS
namespace FS
open PySem PySem.Spec L2
section
variable {prog : Program} {w : World} {A : Around} {E : Value → Shared → Prop} {s : Shared} {l : Addr} {vs : Array Value} {xs : List PyData} {x : Value} {d : PyData} {as bs : List Addr} {Q : Value → Shared → Prop}
theorem index_list_data {j : Nat} (hl : s.heap.IsList l vs) (rs : ReadsAll s.heap vs.toList xs as) (rx : Reads s.heap x d bs) (hxs : PyData.plainAll xs = true) (hd : d.plain = true) (hu : A.units + 1 + min (PyData.depthAll xs) d.depth < cLine)
    (hp : SeqAt.dataPlace xs d = some j) (hsz : vs.size ≤ sizeLine) (h : Q (.int (j : Nat) s.toks) { s with toks := s.toks + 1 }) : wpAny (model prog w) A (call (.builtin "list.index") [.ref l, x]) Q E s := by
  obtain ⟨⟨cls, dd, data, sl⟩, ho, hc, n, hd'⟩ := id hl
  simp only at hc hd'
  subst hc hd'
  obtain ⟨hj, hit, hno⟩ := SeqAt.hit_at rs hxs hp
  rw [sizeLine_eq] at hsz
  exact call_meets F.slot_list_index ⟨_, ho, rfl⟩ F.entry_list_index (F.args_list_index_2 _ _) (SeqAt.list_indexAt l vs n dd sl x _ j hj (by omega) hit hno) ⟨ho, SeqAt.items_plain rs rx hxs hd hu, h⟩
end
section
variable {K : PySem.W.Frag} {tb : Nat → Addr} {pin : List (Nat × V)} {W : WX} {H H' H1 : Hp} {z z' z1 : Zn} {c c' c1 : Ct} {σ σ1 : St} {δ δ' : Env'} {X : Cx} {D : Ends}
variable {a b e : Expr} {F G : EF} {pos p p2 q apos : Pos} {i : Nat}
/-! ### x.index(y) -/
def rIdxD (K : PySem.W.Frag) : V → List V → Hp → VK → Prop := fun x xs H Q => ∃ (z : Zn) (ds : List PD) (b : PD) (j : Nat) (v : V), Fz K H z (.list ds) x ∧ xs = [v] ∧ Fz K H z b v ∧ okNs 12 ds = true ∧ okN 12 b = true ∧ SeqAt.dataPlace ds b = some j ∧ Q (.int (j : Nat)) H
theorem mt_idxD (hu : X.A.units + 64 < cLine) : MtR X "list.index" (rIdxD X.K) := fun pins s σ H x xs v us Q I rx rv ⟨z, ds, b, j, y, f1, e, f2, h1, h2, hp, q⟩ => by
  subst e
  obtain ⟨a, vs, rfl, hH, f⟩ := f1.list
  obtain ⟨its, rv', hl, hlen⟩ := I.list (sqL_of hH)
  cases rx
  obtain ⟨u, rfl, ru⟩ := rv.one
  have p1 := okNs_plain h1
  have p2 := okN_plain h2
  obtain ⟨as, rs⟩ := rdsAll I f rv' p1.1
  obtain ⟨bs, rx⟩ := f2.rd I p2.1 ru
  refine index_list_data (vs := its.toArray) hl.isList (by simpa using rs) rx p1.1 p2.1 (room12 hu p1.2) hp (by have := rv'.length; rw [List.size_toArray]; omega) ?_
  exact ⟨.int (j : Nat), H, I.tok _, ⟨_, rfl⟩, q⟩
def eIdx (F G : EF) : EF := fun δ => (F δ).p fun a δ1 => match a with
  | .list ds => (G δ1).p fun b δ2 => if okNs 12 ds && okN 12 b then (match SeqAt.dataPlace ds b with
    | some j => .ok (.fz (.int (j : Nat))) δ2
    | none => .bad) else .bad
  | _ => .bad
theorem de_idx (hu : X.A.units + 64 < cLine) (ho : DE tb W X a F) (he : DE tb W X e G) (hbase : attributeBase a (Str.ofString "index") X.env (eval a X.env) = eval a X.env := by rfl)
    (hfew : ((backTo pos (starEach [e] X.env)).all (fun x => !x.1) && (backToKw pos (keywordEach [] X.env)).all (fun x => x.1.isSome)
      && decide (([e] : List Expr).length + ([] : List Keyword).length + (if ([] : List Keyword).isEmpty then 0 else 1) < 30)) = true := by rfl)
    (hline : (apos.endLine == pos.line) = true := by rfl) (hs : starEach [e] X.env = (false, eval e X.env) :: starEach [] X.env := by rfl) (hplain : (backTo pos (starEach [] X.env)).any (·.1) = false := by rfl) :
    DE tb W X (.Call (.Attribute a (Str.ofString "index") apos) [e] [] pos) (eIdx F G) :=
  (pe_bm PySem.F.plainAttrs_list PySem.F.slot_list_index PySem.F.type_list_index (mt_idxD hu) ho (pa_cons he pa_nil hs) hbase hfew hline hs hplain).wk fun σ H Q ⟨δ, z, c, hE, w, h⟩ => by
    refine go_P hE w h fun d δ1 v H1 z1 c1 hE1 f1 w1 s1 h1 => ?_
    cases d with
    | list ds =>
      obtain ⟨a, vs, ev, hH, f⟩ := f1.list
      refine ⟨by rw [ev]; exact .inl ⟨rfl, vs, sqL_of hH⟩, ?_⟩
      refine go_P hE1 w1 h1 fun b δ2 u H2 z2 c2 hE2 f2 w2 s2 h2 => ?_
      by_cases hk : (okNs 12 ds && okN 12 b) = true
      case neg => rw [if_neg hk] at h2; exact h2.elim
      rw [if_pos hk] at h2
      have hk' := Bool.and_eq_true_iff.mp hk
      cases ep : SeqAt.dataPlace ds b with
      | none => rw [ep] at h2; exact h2.elim
      | some j =>
        rw [ep] at h2
        exact ⟨z2, ds, b, j, u, s2.fz w1 f1, rfl, f2, hk'.1, hk'.2, ep, Out.const hE2 w2 (.int _) h2⟩
    | _ => exact h1.elim
/-! ### x.extend(e) -/
def sExt (i : Nat) (F : EF) : SF := fun δ => match δ[i]? with
  | some (some (.v (.lst _))) => (F δ).s fun m δ1 => (match m, δ1[i]? with
    | .v (.lst ls'), some (some (.v (.lst ls))) => if ls.length + ls'.length ≤ big then .nx (δ1.set i (some (.lst (ls ++ ls')))) else .bad
    | _, _ => .bad)
  | _ => .bad
theorem ds_ext (ho : PE X a (tVar i)) (he : DE tb W X e F) (hbase : attributeBase a (Str.ofString "extend") X.env (eval a X.env) = eval a X.env := by rfl)
    (hfew : ((backTo pos (starEach [e] X.env)).all (fun x => !x.1) && (backToKw pos (keywordEach [] X.env)).all (fun x => x.1.isSome)
      && decide (([e] : List Expr).length + ([] : List Keyword).length + (if ([] : List Keyword).isEmpty then 0 else 1) < 30)) = true := by rfl)
    (hline : (apos.endLine == pos.line) = true := by rfl) (hs : starEach [e] X.env = (false, eval e X.env) :: starEach [] X.env := by rfl) (hplain : (backTo pos (starEach [] X.env)).any (·.1) = false := by rfl)
    (hsw : swapsWith (.Call (.Attribute a (Str.ofString "extend") apos) [e] [] pos) none p.line X.env = pure false := by rfl) :
    DS tb pin W X (.Expr (.Call (.Attribute a (Str.ofString "extend") apos) [e] [] pos) p) (sExt i F) :=
  (ps_expr (pe_bm PySem.F.plainAttrs_list PySem.F.slot_list_extend PySem.F.type_list_extend mt_extend ho (pa_cons he pa_nil hs) hbase hfew hline hs hplain) hsw).wk fun D σ H ⟨hp, δ, z, c, hE, w, h⟩ => by
    unfold sExt at h
    cases q0 : δ[i]? with
    | none => rw [q0] at h; exact h.elim
    | some o0 =>
      rw [q0] at h
      cases o0 with
      | none => exact h.elim
      | some m0 =>
        cases m0 with
        | o _ _ _ => exact h.elim
        | v l0 =>
          cases l0 with
          | fz _ => exact h.elim
          | dic _ => exact h.elim
          | lst ls0 =>
            dsimp only at h
            obtain ⟨a, vs0, _, _, ev, hH, _, _, _⟩ := own_lst hE q0
            refine ⟨.ref a, ev, .inl ⟨rfl, vs0, .inl (.inl hH)⟩, ?_⟩
            refine go_S hp hE w h fun m δ1 v H1 z1 c1 cm hE1 r1 w1 s1 h1 => ?_
            cases m with
            | o _ _ _ => exact h1.elim
            | v l =>
              cases l with
              | fz _ => exact h1.elim
              | dic _ => exact h1.elim
              | lst ls' =>
              cases q1 : δ1[i]? with
              | none => rw [q1] at h1; exact h1.elim
              | some o1 =>
                rw [q1] at h1
                cases o1 with
                | none => exact h1.elim
                | some m1 =>
                  cases m1 with
                  | o _ _ _ => exact h1.elim
                  | v l1 =>
                    cases l1 with
                    | fz _ => exact h1.elim
                    | dic _ => exact h1.elim
                    | lst ls =>
                      dsimp only at h1
                      by_cases hb : ls.length + ls'.length ≤ big
                      case neg => rw [if_neg hb] at h1; exact h1.elim
                      rw [if_pos hb] at h1
                      obtain ⟨a', vs, ca, cr, ev', hH', hA, hc, hE2⟩ := own_lst hE1 q1
                      rw [ev] at ev'
                      cases ev'
                      cases r1 with
                      | v r1 =>
                        cases r1 with
                        | lst hb1 rb eb =>
                          rename_i pb zs cb
                          have hA2 : RpA X.K H1 z1 (ls ++ ls') (vs ++ zs) fun b => ca b + cb b := hA.app rb
                          have w2 : Wf H1 z1 fun b => one a b + (ca b + cb b) + cr b := w1.mono fun b => by have := hc b; have := eb b; show _ ≤ c1 b + cm b; omega
                          have hE3 := own_put (lt_of_get q1) ev hA2 hE2 w2
                          have pa : 0 < one a a + (ca a + cb a) + cr a := by rw [one_self]; omega
                          obtain ⟨w3, s3⟩ := Wf.upd (o := .lst (vs ++ zs)) w2 pa trivial
                          refine ⟨a, pb, vs, zs, rfl, rfl, hH', hb1, by rw [← hA.len, ← rb.len, big_eq]; exact hb, ?_⟩
                          exact h1 σ _ ⟨hp, z1, _, hE3, w3, ((Step.refl H1 z1 fun b => c1 b + cm b).mono fun b => by have := hc b; have := eb b; show one a b + (ca b + cb b) + cr b ≤ c1 b + cm b; omega).trans w2 s3⟩
/-! ### sorted(set(..)) of pairs of small numbers -/
def ltP : List Int → List Int → Bool
  | [x, y], [x', y'] => decide (x < x') || (decide (x = x') && decide (y < y'))
  | _, _ => false
def insP (x : List Int) : List (List Int) → List (List Int)
  | [] => [x]
  | y :: r => if x = y then y :: r else if ltP x y then x :: y :: r else y :: insP x r
def ascP : List (List Int) → List (List Int)
  | [] => []
  | x :: r => insP x (ascP r)
def pairOk : List Int → Bool
  | [x, y] => decide (0 ≤ x) && decide (x < 64) && (decide (0 ≤ y) && decide (y < 64))
  | _ => false
theorem pairOk_iff {p : List Int} (h : pairOk p = true) : ∃ x y, p = [x, y] ∧ 0 ≤ x ∧ x < 64 ∧ 0 ≤ y ∧ y < 64 := by
  unfold pairOk at h
  split at h
  · rename_i x y
    simp only [Bool.and_eq_true, decide_eq_true_eq] at h
    exact ⟨x, y, rfl, h.1.1, h.1.2, h.2.1, h.2.2⟩
  · cases h
theorem mem_insP {x y : List Int} : ∀ {l : List (List Int)}, y ∈ insP x l ↔ y = x ∨ y ∈ l
  | [] => by simp [insP]
  | z :: r => by
    unfold insP
    split
    · rename_i e; subst e; simp
    · split
      · simp
      · simp only [List.mem_cons, mem_insP (l := r)]
        constructor <;> intro h <;> rcases h with h | h | h <;> simp [h]
theorem mem_ascP {y : List Int} : ∀ {l : List (List Int)}, y ∈ ascP l ↔ y ∈ l
  | [] => Iff.rfl
  | x :: r => by
    unfold ascP
    rw [mem_insP, mem_ascP (l := r), List.mem_cons]
theorem ltP_iff {x y x' y' : Int} : ltP [x, y] [x', y'] = true ↔ x < x' ∨ (x = x' ∧ y < y') := by
  unfold ltP
  simp
theorem ltP_tr {a b c : List Int} (ha : pairOk a = true) (hb : pairOk b = true) (hc : pairOk c = true) (h : ltP a b = true) (h' : ltP b c = true) : ltP a c = true := by
  obtain ⟨x, y, rfl, _⟩ := pairOk_iff ha
  obtain ⟨x1, y1, rfl, _⟩ := pairOk_iff hb
  obtain ⟨x2, y2, rfl, _⟩ := pairOk_iff hc
  rw [ltP_iff] at *
  omega
theorem ltP_tot {a b : List Int} (ha : pairOk a = true) (hb : pairOk b = true) (ne : a ≠ b) (h : ltP a b ≠ true) : ltP b a = true := by
  obtain ⟨x, y, rfl, _⟩ := pairOk_iff ha
  obtain ⟨x1, y1, rfl, _⟩ := pairOk_iff hb
  have h2 : ¬ (x < x1 ∨ (x = x1 ∧ y < y1)) := fun q => h (ltP_iff.mpr q)
  refine ltP_iff.mpr ?_
  by_cases e : x = x1
  · subst e
    by_cases e : y = y1
    · subst e; exact absurd rfl ne
    · omega
  · omega
theorem ltP_irr {a : List Int} (ha : pairOk a = true) : ltP a a ≠ true := by
  obtain ⟨x, y, rfl, _⟩ := pairOk_iff ha
  intro h
  have := ltP_iff.mp h
  omega
theorem insP_asc {x : List Int} (hx : pairOk x = true) : ∀ {l : List (List Int)}, (∀ y ∈ l, pairOk y = true) → l.Pairwise (fun a b => ltP a b = true) → (insP x l).Pairwise fun a b => ltP a b = true
  | [], _, _ => by simp [insP]
  | z :: r, hl, h => by
    have hz := hl z List.mem_cons_self
    have hr := fun y hy => hl y (List.mem_cons_of_mem _ hy)
    obtain ⟨h1, h2⟩ := List.pairwise_cons.mp h
    unfold insP
    split
    · exact h
    · rename_i ne
      split
      · rename_i hlt
        refine List.pairwise_cons.mpr ⟨fun b hb => ?_, h⟩
        rcases List.mem_cons.mp hb with rfl | hb
        · exact hlt
        · exact ltP_tr hx hz (hr b hb) hlt (h1 b hb)
      · rename_i hlt
        refine List.pairwise_cons.mpr ⟨fun b hb => ?_, insP_asc hx hr h2⟩
        rcases mem_insP.mp hb with rfl | hb
        · exact ltP_tot hx hz ne hlt
        · exact h1 b hb
theorem ascP_asc : ∀ {l : List (List Int)}, (∀ y ∈ l, pairOk y = true) → (ascP l).Pairwise fun a b => ltP a b = true
  | [], _ => .nil
  | x :: r, hl => insP_asc (hl x List.mem_cons_self) (fun y hy => hl y (List.mem_cons_of_mem _ (mem_ascP.mp hy))) (ascP_asc fun y hy => hl y (List.mem_cons_of_mem _ hy))
theorem asc_eq : ∀ {l m : List (List Int)}, (∀ y ∈ l, pairOk y = true) → l.Pairwise (fun a b => ltP a b = true) → m.Pairwise (fun a b => ltP a b = true) → (∀ y, y ∈ l ↔ y ∈ m) → l = m
  | [], [], _, _, _, _ => rfl
  | [], y :: m, _, _, _, h => by have := (h y).mpr List.mem_cons_self; cases this
  | x :: l, [], _, _, _, h => by have := (h x).mp List.mem_cons_self; cases this
  | x :: l, y :: m, hk, h1, h2, h => by
    obtain ⟨a1, a2⟩ := List.pairwise_cons.mp h1
    obtain ⟨b1, b2⟩ := List.pairwise_cons.mp h2
    have kx := hk x List.mem_cons_self
    have ky := hk y ((h y).mpr List.mem_cons_self)
    have e : x = y := by
      rcases List.mem_cons.mp ((h x).mp List.mem_cons_self) with q | q
      · exact q
      · rcases List.mem_cons.mp ((h y).mpr List.mem_cons_self) with q' | q'
        · exact q'.symm
        · exact absurd (ltP_tr kx ky kx (a1 y q') (b1 x q)) (ltP_irr kx)
    subst e
    congr 1
    refine asc_eq (fun y hy => hk y (List.mem_cons_of_mem _ hy)) a2 b2 fun y => ⟨fun hy => ?_, fun hy => ?_⟩
    · rcases List.mem_cons.mp ((h y).mp (List.mem_cons_of_mem _ hy)) with q | q
      · subst q; exact absurd (a1 y hy) (ltP_irr kx)
      · exact q
    · rcases List.mem_cons.mp ((h y).mpr (List.mem_cons_of_mem _ hy)) with q | q
      · subst q; exact absurd (b1 y hy) (ltP_irr kx)
      · exact q
def tupD (ns : List Int) : PD := .tuple (ns.map .int)
def gSortSet : PD → Option M
  | .list ds => if ds.length < 64 then (match tupIs ds with
    | some kss => if kss.all pairOk then some (.lst ((ascP kss).map fun k => .fz (tupD k))) else none
    | none => none) else none
  | _ => none
theorem NewM.lst' {ds : List PD} {vs : List V} {p : Addr} {H0 : Hp} (hz : ∀ a, z a → H a ≠ none) (k : ∀ a, H a ≠ none → H0 a = H a) (hp : H0 p = none) (h : FzA K H z ds vs) : NewM K tb H z (.lst (ds.map .fz)) (.ref p) (upd H0 p (.lst vs)) := by
  have np : ∀ a, H a ≠ none → a ≠ p := fun a h e => by rw [e] at h; exact h ((k p h).symm.trans hp)
  have hpn : H p = none := by
    cases e : H p with
    | none => rfl
    | some o => exact absurd rfl (np p (by rw [e]; exact fun z => nomatch z))
  have kk : ∀ a, H a ≠ none → upd H0 p (.lst vs) a = H a := fun a h => (upd_ne (np a h)).trans (k a h)
  refine ⟨z, one p, kk, fun _ h => h, fun a q => q.imp id fun r => by rw [one_pos r]; exact hpn, .v (.lst upd_same ((h.mono (fun _ q => q) fun a q => kk a (hz a q)).rpA) fun _ => rfl), fun a q => by rw [kk a (hz a q)]; exact hz a q, fun a q => one_ne (np a (hz a q)), fun a => ?_, fun a q => ?_⟩
  · unfold one; split <;> omega
  · rw [one_pos q, upd_same]; trivial
theorem fz_backs : ∀ {ks : List (Addr × List Int)}, (∀ p ∈ ks, Fz K H z (tupD p.2) (.ref p.1)) → FzA K H z ((ks.map (·.2)).map tupD) (ks.map fun p => V.ref p.1)
  | [], _ => .nil
  | p :: r, h => .cons (h p List.mem_cons_self) (fz_backs fun q hq => h q (List.mem_cons_of_mem _ hq))
theorem fz_tups' : ∀ {ds : List PD} {kss : List (List Int)} {vs : List V}, tupIs ds = some kss → FzA K H z ds vs → ∃ ks : List (Addr × List Int), ks.map (·.2) = kss ∧ vs = ks.map (fun p => V.ref p.1) ∧ ∀ p ∈ ks, Fz K H z (tupD p.2) (.ref p.1)
  | [], _, _, h, .nil => by
    cases h
    exact ⟨[], rfl, rfl, fun p hp => by cases hp⟩
  | .tuple ds :: r, kss, _, h, .cons f fr => by
    unfold tupIs at h
    cases e : allInt ds with
    | none => rw [e] at h; cases h
    | some ns =>
      rw [e] at h
      cases e2 : tupIs r with
      | none => rw [e2] at h; cases h
      | some rs =>
        rw [e2] at h
        simp only [Option.bind_some, Option.map_some, Option.some.injEq] at h
        subst h
        obtain ⟨ks, h1, h2, h3⟩ := fz_tups' e2 fr
        have ed := allInt_of e
        subst ed
        obtain ⟨a, ws, rfl, hH, fw⟩ := f.tuple
        refine ⟨(a, ns) :: ks, by simp [h1], by simp [h2], fun p hp => ?_⟩
        rcases List.mem_cons.mp hp with rfl | hp
        · exact f
        · exact h3 p hp
  | .none :: _, _, _, h, _ => by cases h
  | .bool _ :: _, _, _, h, _ => by cases h
  | .int _ :: _, _, _, h, _ => by cases h
  | .str _ :: _, _, _, h, _ => by cases h
  | .list _ :: _, _, _, h, _ => by cases h
  | .dict _ :: _, _, _, h, _ => by cases h
theorem de_sortSet (hc : X.calm = true) (hu : X.A.units + 64 < cLine) (hg : Gl X "sorted") (hm : X.mg "sorted" = none) (hg2 : Gl X "set") (hm2 : X.mg "set" = none) (ha : DE tb W X a F)
    (na : starEach [a] X.env = (false, eval a X.env) :: starEach [] X.env := by rfl) (nb : starEach [.Call (.Name "set" p2) [a] [] q] X.env = (false, eval (.Call (.Name "set" p2) [a] [] q) X.env) :: starEach [] X.env := by rfl) :
    DE tb W X (.Call (.Name "sorted" p) [.Call (.Name "set" p2) [a] [] q] [] pos) (eU1 gSortSet F) := by
  have h1 : PE X (.Call (.Name "set" p2) [a] [] q) (tCB (rSetOfT X.K X.prog X.w) _) := pe_callTy (cr_setOfT hc hu) hg2 hm2 (by rfl) (pa_cons ha pa_nil na) (by decide) (by decide) na rfl
  refine (pe_callB (cr_sortedT hc) hg hm (by rfl) (pa_cons h1 pa_nil nb) (by decide) (by decide) nb rfl).wk fun σ H Q ⟨δ, z, c, hE, w, h⟩ => ?_
  refine go_P hE w h fun d δ1 v H1 z1 c1 hE1 f1 w1 s1 h1 => ?_
  unfold gSortSet at h1
  cases d with
  | list ds =>
    dsimp only at h1
    by_cases hl : ds.length < 64
    case neg => rw [if_neg hl] at h1; exact h1.elim
    rw [if_pos hl] at h1
    cases et : tupIs ds with
    | none => rw [et] at h1; exact h1.elim
    | some kss =>
      rw [et] at h1
      dsimp only at h1
      by_cases hk : kss.all pairOk = true
      case neg => rw [if_neg hk] at h1; exact h1.elim
      rw [if_pos hk] at h1
      have hk' := List.all_eq_true.mp hk
      obtain ⟨l, vs, ev, hH, fv⟩ := f1.list
      obtain ⟨ks, e1, e2, e3⟩ := fz_tups' et fv
      subst e2
      have sq : ∀ p ∈ ks, SqT X.K H1 p.1 (p.2.map V.int) := fun p hp => by
        obtain ⟨a', ws, ea, hH', fw⟩ := (e3 p hp).tuple
        cases ea
        rw [Fz.ints fw] at hH'
        exact sqT_of hH'
      refine ⟨l, ks, by rw [ev], sqL_of hH, sq, by have := tupIs_len et; rw [← e1, List.length_map] at this; omega, fun a0 L ha0 sub sup => ?_⟩
      have kp0 : ∀ b, H1 b ≠ none → upd H1 a0 (SetTO X.prog X.w a0 L) b = H1 b := fun b hb => upd_ne fun e => hb (e ▸ ha0)
      have sqL' : ∀ p ∈ L, SqT X.K (upd H1 a0 (SetTO X.prog X.w a0 L)) p.1 (p.2.map V.int) := fun p hp => by
        obtain ⟨a', ws, ea, hH', fw⟩ := ((e3 p (sub p hp)).mono (fun _ q => q) fun b q => kp0 b (w1.zt b q)).tuple
        cases ea
        rw [Fz.ints fw] at hH'
        exact sqT_of hH'
      have okL : ∀ p ∈ L, pairOk p.2 = true := fun p hp => hk' _ (by rw [← e1]; exact List.mem_map.mpr ⟨p, sub p hp, rfl⟩)
      refine ⟨a0, L, 2, 64, rfl, upd_same, sqL', by decide, fun p hp => ?_, fun L' p0 perm nd few pw hp0 => ?_⟩
      · obtain ⟨x, y, e, b1, b2, b3, b4⟩ := pairOk_iff (okL p hp)
        rw [e]
        refine ⟨rfl, fun m hm => ?_⟩
        rcases List.mem_cons.mp hm with rfl | hm
        · exact ⟨b1, b2⟩
        · rw [List.mem_singleton.mp hm]; exact ⟨b3, b4⟩
      · have okL' : ∀ p ∈ L', pairOk p.2 = true := fun p hp => okL p (perm.mem_iff.mp hp)
        have pw' : (L'.map (·.2)).Pairwise fun a b => ltP a b = true := by
          have nd' : L'.Pairwise fun a b => a.2 ≠ b.2 := List.pairwise_map.mp nd
          refine List.pairwise_map.mpr ?_
          refine (List.Pairwise.and pw nd').imp_of_mem fun {a b} ha hb ⟨q1, q2⟩ => ?_
          obtain ⟨x, y, e, b1, b2, b3, b4⟩ := pairOk_iff (okL' a ha)
          obtain ⟨x', y', e', b1', b2', b3', b4'⟩ := pairOk_iff (okL' b hb)
          rw [e, e'] at q1 q2 ⊢
          exact ltP_iff.mpr (pair_lt q1 q2 ⟨b1, b2⟩ ⟨b3, b4⟩ ⟨b1', b2'⟩ ⟨b3', b4'⟩)
        have ee : L'.map (·.2) = ascP kss := by
          refine asc_eq (fun y hy => ?_) pw' (ascP_asc fun y hy => hk' y hy) fun y => ?_
          · obtain ⟨p, hp, rfl⟩ := List.mem_map.mp hy
            exact okL' p hp
          · rw [mem_ascP, ← e1]
            constructor
            · intro hy
              obtain ⟨p, hp, rfl⟩ := List.mem_map.mp hy
              exact List.mem_map.mpr ⟨p, sub p (perm.mem_iff.mp hp), rfl⟩
            · intro hy
              obtain ⟨p, hp, rfl⟩ := List.mem_map.mp hy
              obtain ⟨q, hq, eq⟩ := List.mem_map.mp (sup p hp)
              exact List.mem_map.mpr ⟨q, perm.mem_iff.mpr hq, eq⟩
        have fL : FzA X.K H1 z1 ((ascP kss).map tupD) (L'.map fun q => V.ref q.1) := by
          rw [← ee]
          exact fz_backs fun p hp => e3 p (sub p (perm.mem_iff.mp hp))
        have em : (ascP kss).map (fun k => FS.L.fz (tupD k)) = ((ascP kss).map tupD).map FS.L.fz := by rw [List.map_map]; rfl
        rw [em] at h1
        exact h1 _ _ ((NewM.lst' w1.zt kp0 hp0 fL).aft hE1 w1)
  | _ => exact h1.elim
end
end FS
namespace FS
open PySem PySem.Spec L2
/-! ### dicts: the data -/
section
variable {κ : Type} [DecidableEq κ]
def putDk (f : PD → Option κ) (kvs : List (PD × PD)) (k d : PD) : List (PD × PD) :=
  if (kvs.any fun kv => decide (f kv.1 = f k)) = true then kvs.map (fun kv => if f kv.1 = f k then (kv.1, d) else kv) else kvs ++ [(k, d)]
def getDk (f : PD → Option κ) (kvs : List (PD × PD)) (k : PD) : Option PD := (kvs.find? fun kv => decide (f kv.1 = f k)).map (·.2)
end
def isKd (d : PD) : Bool := (keyD d).isSome
def isKt (d : PD) : Bool := (keyT d).isSome
def putD (kvs : List (PD × PD)) (k d : PD) : List (PD × PD) := if isKd k then putDk keyD kvs k d else putDk keyT kvs k d
def getD' (kvs : List (PD × PD)) (k : PD) : Option PD := if isKd k then getDk keyD kvs k else getDk keyT kvs k
section
variable {K : PySem.W.Frag} {tb : Nat → Addr} {pin : List (Nat × V)} {W : WX} {H H' H1 : Hp} {z z' z1 : Zn} {c c' c1 : Ct} {σ σ1 : St} {δ δ' : Env'} {X : Cx} {D : Ends}
theorem FzD.any {k : PD} {k' : Key} (hk : keyD k = some k') : ∀ {kvs : List (PD × PD)} {kw : List (Key × V)}, FzD K H z kvs kw → (kvs.any fun kv => decide (keyD kv.1 = keyD k)) = kw.any fun kv => decide (kv.1 = k')
  | _, _, .nil => rfl
  | _, _, .cons e f r => by
    have ih := FzD.any hk r
    rw [hk] at ih
    simp only [List.any_cons, e, hk, Option.some.injEq, ih]
theorem FzD.map {k d : PD} {k' : Key} {v : V} (hk : keyD k = some k') (hd : Fz K H z d v) : ∀ {kvs : List (PD × PD)} {kw : List (Key × V)}, FzD K H z kvs kw →
    FzD K H z (kvs.map fun kv => if keyD kv.1 = keyD k then (kv.1, d) else kv) (kw.map fun kv => if kv.1 = k' then (kv.1, v) else kv)
  | _, _, .nil => .nil
  | (k0, d0) :: kvs, (k0', v0) :: kw, .cons e f r => by
    rw [List.map_cons, List.map_cons]
    by_cases h : k0' = k'
    · rw [if_pos (show keyD k0 = keyD k by rw [e, hk, h]), if_pos h]
      exact .cons e hd (FzD.map hk hd r)
    · rw [if_neg (show ¬ keyD k0 = keyD k by rw [e, hk]; exact fun q => h (Option.some.inj q)), if_neg h]
      exact .cons e f (FzD.map hk hd r)
theorem FzD.app : ∀ {a a' : List (PD × PD)} {b b' : List (Key × V)}, FzD K H z a b → FzD K H z a' b' → FzD K H z (a ++ a') (b ++ b')
  | _, _, _, _, .nil, h => h
  | _, _, _, _, .cons e f r, h => .cons e f (FzD.app r h)
theorem FzD.put {k d : PD} {k' : Key} {v : V} {kvs : List (PD × PD)} {kw : List (Key × V)} (hk : keyD k = some k') (hd : Fz K H z d v) (h : FzD K H z kvs kw) : FzD K H z (putDk keyD kvs k d) (putK kw k' v) := by
  unfold putDk putK
  rw [FzD.any hk h]
  split
  · exact FzD.map hk hd h
  · exact h.app (.cons hk hd .nil)
theorem FzD.get {k : PD} {k' : Key} (hk : keyD k = some k') : ∀ {kvs : List (PD × PD)} {kw : List (Key × V)}, FzD K H z kvs kw → (∃ d v, getDk keyD kvs k = some d ∧ valV kw k' = some v ∧ Fz K H z d v) ∨ (getDk keyD kvs k = none ∧ valV kw k' = none)
  | _, _, .nil => .inr ⟨rfl, rfl⟩
  | (k0, d0) :: kvs, (k0', v0) :: kw, .cons e f r => by
    by_cases h : k0' = k'
    · refine .inl ⟨d0, v0, ?_, valV_pos h, f⟩
      unfold getDk
      rw [List.find?_cons_of_pos (by simp [e, hk, h])]; rfl
    · have e1 : getDk keyD ((k0, d0) :: kvs) k = getDk keyD kvs k := by
        unfold getDk
        rw [List.find?_cons_of_neg (by simp [e, hk, h])]
      rw [e1, valV_neg h]
      exact FzD.get hk r
theorem FzT.any {k : PD} {k' : List Key} (hk : keyT k = some k') : ∀ {kvs : List (PD × PD)} {kw : List (List Key × V)}, FzT K H z kvs kw → (kvs.any fun kv => decide (keyT kv.1 = keyT k)) = kw.any fun kv => decide (kv.1 = k')
  | _, _, .nil => rfl
  | _, _, .cons e f r => by
    have ih := FzT.any hk r
    rw [hk] at ih
    simp only [List.any_cons, e, hk, Option.some.injEq, ih]
theorem FzT.map {k d : PD} {k' : List Key} {v : V} (hk : keyT k = some k') (hd : Fz K H z d v) : ∀ {kvs : List (PD × PD)} {kw : List (List Key × V)}, FzT K H z kvs kw →
    FzT K H z (kvs.map fun kv => if keyT kv.1 = keyT k then (kv.1, d) else kv) (kw.map fun kv => if kv.1 = k' then (kv.1, v) else kv)
  | _, _, .nil => .nil
  | (k0, d0) :: kvs, (k0', v0) :: kw, .cons e f r => by
    rw [List.map_cons, List.map_cons]
    by_cases h : k0' = k'
    · rw [if_pos (show keyT k0 = keyT k by rw [e, hk, h]), if_pos h]
      exact .cons e hd (FzT.map hk hd r)
    · rw [if_neg (show ¬ keyT k0 = keyT k by rw [e, hk]; exact fun q => h (Option.some.inj q)), if_neg h]
      exact .cons e f (FzT.map hk hd r)
theorem FzT.app : ∀ {a a' : List (PD × PD)} {b b' : List (List Key × V)}, FzT K H z a b → FzT K H z a' b' → FzT K H z (a ++ a') (b ++ b')
  | _, _, _, _, .nil, h => h
  | _, _, _, _, .cons e f r, h => .cons e f (FzT.app r h)
theorem FzT.put {k d : PD} {k' : List Key} {v : V} {kvs : List (PD × PD)} {kw : List (List Key × V)} (hk : keyT k = some k') (hd : Fz K H z d v) (h : FzT K H z kvs kw) : FzT K H z (putDk keyT kvs k d) (putK kw k' v) := by
  unfold putDk putK
  rw [FzT.any hk h]
  split
  · exact FzT.map hk hd h
  · exact h.app (.cons hk hd .nil)
theorem FzT.get {k : PD} {k' : List Key} (hk : keyT k = some k') : ∀ {kvs : List (PD × PD)} {kw : List (List Key × V)}, FzT K H z kvs kw → (∃ d v, getDk keyT kvs k = some d ∧ valV kw k' = some v ∧ Fz K H z d v) ∨ (getDk keyT kvs k = none ∧ valV kw k' = none)
  | _, _, .nil => .inr ⟨rfl, rfl⟩
  | (k0, d0) :: kvs, (k0', v0) :: kw, .cons e f r => by
    by_cases h : k0' = k'
    · refine .inl ⟨d0, v0, ?_, valV_pos h, f⟩
      unfold getDk
      rw [List.find?_cons_of_pos (by simp [e, hk, h])]; rfl
    · have e1 : getDk keyT ((k0, d0) :: kvs) k = getDk keyT kvs k := by
        unfold getDk
        rw [List.find?_cons_of_neg (by simp [e, hk, h])]
      rw [e1, valV_neg h]
      exact FzT.get hk r
/-! ### keys -/
theorem Fz.keyD {d : PD} {v : V} {k : Key} (f : Fz K H z d v) (h : FS.keyD d = some k) : v = kV k := by
  cases f <;> simp [FS.keyD] at h <;> subst h <;> rfl
theorem FzA.keyDs : ∀ {ds : List PD} {vs : List V} {ks : List Key}, FzA K H z ds vs → FS.keyDs ds = some ks → vs = ks.map kV
  | _, _, _, .nil, h => by cases h; rfl
  | d :: ds, _, ks, .cons f r, h => by
    unfold FS.keyDs at h
    cases e : FS.keyD d with
    | none => rw [e] at h; cases h
    | some k =>
      rw [e] at h
      cases e2 : FS.keyDs ds with
      | none => rw [e2] at h; cases h
      | some kr =>
        rw [e2] at h
        simp only [Option.bind_some, Option.map_some, Option.some.injEq] at h
        subst h
        rw [f.keyD e, FzA.keyDs r e2]; rfl
theorem Fz.keyT {d : PD} {v : V} {ks : List Key} (f : Fz K H z d v) (h : FS.keyT d = some ks) : ∃ b, v = .ref b ∧ H b = some (.tup (ks.map kV)) := by
  cases d with
  | tuple ds =>
    obtain ⟨a, vs, rfl, _, hH, fa⟩ := f.tupleP
    rw [fa.keyDs h] at hH
    exact ⟨a, rfl, hH⟩
  | _ => cases h
theorem kd_kt {d : PD} {k : Key} (h : FS.keyD d = some k) : FS.keyT d = none := by cases d <;> simp [FS.keyD, FS.keyT] at h ⊢
theorem FzD.noT {b : PD} {kt : List Key} (hkt : FS.keyT b = some kt) : ∀ {kvs : List (PD × PD)} {kw : List (Key × V)}, FzD K H z kvs kw → getDk FS.keyT kvs b = none
  | _, _, .nil => rfl
  | _, _, .cons e f r => by
    have ih := FzD.noT hkt r
    unfold getDk at ih ⊢
    rw [List.find?_cons_of_neg (by rw [kd_kt e, hkt]; simp)]
    exact ih
theorem FzT.noD {b : PD} {kd : Key} (hkd : FS.keyD b = some kd) : ∀ {kvs : List (PD × PD)} {kw : List (List Key × V)}, FzT K H z kvs kw → getDk FS.keyD kvs b = none
  | _, _, .nil => rfl
  | (k, _) :: _, _, .cons e f r => by
    have ih := FzT.noD hkd r
    unfold getDk at ih ⊢
    have hn : FS.keyD k = none := by
      cases q : FS.keyD k with
      | none => rfl
      | some x => rw [kd_kt q] at e; cases e
    rw [List.find?_cons_of_neg (by rw [hn, hkd]; simp)]
    exact ih
/-! ### d[k] -/
def eDg (F G : EF) : EF := fun δ => (F δ).p fun a δ1 => (G δ1).p fun b δ2 => match a with
  | .dict kvs => if isKd b || isKt b then (match getD' kvs b with
    | some d => .ok (.fz d) δ2
    | none => .bad) else .bad
  | _ => .bad
/-- a reading of a frozen dict -/
theorem Fz.dget {kvs : List (PD × PD)} {b d : PD} {v u : V} (f : Fz K H z (.dict kvs) v) (g : Fz K H z b u) (h : getD' kvs b = some d) (hk : (isKd b || isKt b) = true) : ∃ a w, v = .ref a ∧ DGet H a u (some w) ∧ Fz K H z d w := by
  unfold getD' at h
  cases f with
  | dik q hr fd =>
    by_cases hb : isKd b = true
    · rw [if_pos hb] at h
      obtain ⟨k', hk'⟩ := Option.isSome_iff_exists.mp hb
      rcases fd.get hk' with ⟨d', w, e1, e2, e3⟩ | ⟨e1, _⟩
      · rw [h] at e1; cases e1
        exact ⟨_, w, rfl, .inl ⟨_, k', hr, g.keyD hk', e2.symm⟩, e3⟩
      · rw [h] at e1; cases e1
    · rw [if_neg hb] at h
      exfalso
      have ht : isKt b = true := by simpa [hb] using hk
      obtain ⟨kt, hkt⟩ := Option.isSome_iff_exists.mp ht
      rw [fd.noT hkt] at h; cases h
  | dit q hr fd =>
    by_cases hb : isKd b = true
    · rw [if_pos hb] at h
      exfalso
      obtain ⟨kd, hkd⟩ := Option.isSome_iff_exists.mp hb
      rw [fd.noD hkd] at h; cases h
    · rw [if_neg hb] at h
      have ht : isKt b = true := by simpa [hb] using hk
      obtain ⟨k', hk'⟩ := Option.isSome_iff_exists.mp ht
      rcases fd.get hk' with ⟨d', w, e1, e2, e3⟩ | ⟨e1, _⟩
      · rw [h] at e1; cases e1
        obtain ⟨p, rfl, hp⟩ := g.keyT hk'
        exact ⟨_, w, rfl, .inr ⟨_, k', p, hr, rfl, hp, e2.symm⟩, e3⟩
      · rw [h] at e1; cases e1
theorem de_dget {a b : Expr} {F G : EF} {pos : Pos} (hu : X.A.units + 64 < cLine) (ha : DE tb W X a F) (hb : DE tb W X b G) (hs : NoSl b) : DE tb W X (.Subscript a b pos) (eDg F G) :=
  (pe_dget (by omega) ha hb hs).wk fun σ H Q ⟨δ, z, c, hE, w, h⟩ => by
    refine go_P hE w h fun d δ1 v H1 z1 c1 hE1 f1 w1 s1 h1 => ?_
    refine go_P hE1 w1 h1 fun b δ2 u H2 z2 c2 hE2 f2 w2 s2 h2 => ?_
    cases d with
    | dict kvs =>
      have h2 : Out X.K tb W H2 z2 c2 σ (if isKd b || isKt b then (match getD' kvs b with
        | some d => .ok (.fz d) δ2
        | none => .bad) else .bad) Q := h2
      by_cases hk : (isKd b || isKt b) = true
      case neg => rw [if_neg hk] at h2; exact h2.elim
      rw [if_pos hk] at h2
      cases eg : getD' kvs b with
      | none => rw [eg] at h2; exact h2.elim
      | some x =>
        rw [eg] at h2
        obtain ⟨p, wv, ev, g, fw⟩ := (s2.fz w1 f1).dget f2 eg hk
        exact ⟨p, wv, ev, g, Out.const hE2 w2 fw h2⟩
    | _ => exact h2.elim
/-! ### k in d -/
def okKind (kvs : List (PD × PD)) (b : PD) : Bool := match kvs with
  | [] => false
  | (k, _) :: _ => (isKd k && isKd b) || (isKt k && isKt b)
theorem okKind_or {kvs : List (PD × PD)} {b : PD} (h : okKind kvs b = true) : (isKd b || isKt b) = true := by
  unfold okKind at h
  split at h
  · cases h
  · simp only [Bool.or_eq_true, Bool.and_eq_true] at h ⊢
    rcases h with h | h
    · exact .inl h.2
    · exact .inr h.2
theorem kt_kd {d : PD} {k : List Key} (h : FS.keyT d = some k) : FS.keyD d = none := by
  cases q : FS.keyD d with
  | none => rfl
  | some x => rw [kd_kt q] at h; cases h
theorem FzD.kind {b : PD} : ∀ {kvs : List (PD × PD)} {kw : List (Key × V)}, FzD K H z kvs kw → okKind kvs b = true → isKd b = true
  | _, _, .nil, h => by cases h
  | (k, _) :: _, _, .cons e f r, h => by
    unfold okKind at h
    have : isKt k = false := by unfold isKt; rw [kd_kt e]; rfl
    simp only [this, Bool.false_and, Bool.or_false, Bool.and_eq_true] at h
    exact h.2
theorem FzT.kind {b : PD} : ∀ {kvs : List (PD × PD)} {kw : List (List Key × V)}, FzT K H z kvs kw → okKind kvs b = true → isKt b = true ∧ isKd b = false
  | _, _, .nil, h => by cases h
  | (k, _) :: _, _, .cons e f r, h => by
    unfold okKind at h
    have : isKd k = false := by unfold isKd; rw [kt_kd e]; rfl
    simp only [this, Bool.false_and, Bool.false_or, Bool.and_eq_true] at h
    refine ⟨h.2, ?_⟩
    obtain ⟨x, hx⟩ := Option.isSome_iff_exists.mp h.2
    unfold isKd
    rw [kt_kd hx]; rfl
theorem Fz.dgetO {kvs : List (PD × PD)} {b : PD} {v u : V} (f : Fz K H z (.dict kvs) v) (g : Fz K H z b u) (hk : okKind kvs b = true) : ∃ a o, v = .ref a ∧ DGet H a u o ∧ o.isSome = (getD' kvs b).isSome := by
  cases e : getD' kvs b with
  | some d =>
    obtain ⟨a, w, h1, h2, _⟩ := f.dget g e (okKind_or hk)
    exact ⟨a, some w, h1, h2, rfl⟩
  | none =>
    unfold getD' at e
    cases f with
    | dik q hr fd =>
      have hb := fd.kind hk
      rw [if_pos hb] at e
      obtain ⟨k', hk'⟩ := Option.isSome_iff_exists.mp hb
      rcases fd.get hk' with ⟨d', w, e1, e2, e3⟩ | ⟨_, e2⟩
      · rw [e] at e1; cases e1
      · exact ⟨_, none, rfl, .inl ⟨_, k', hr, g.keyD hk', e2.symm⟩, rfl⟩
    | dit q hr fd =>
      obtain ⟨ht, hb⟩ := fd.kind hk
      rw [if_neg (by rw [hb]; decide)] at e
      obtain ⟨k', hk'⟩ := Option.isSome_iff_exists.mp ht
      rcases fd.get hk' with ⟨d', w, e1, e2, e3⟩ | ⟨_, e2⟩
      · rw [e] at e1; cases e1
      · obtain ⟨p, rfl, hp⟩ := g.keyT hk'
        exact ⟨_, none, rfl, .inr ⟨_, k', p, hr, rfl, hp, e2.symm⟩, rfl⟩
def eDi (n : Bool → Bool) (F G : EF) : EF := fun δ => (F δ).p fun b δ1 => (G δ1).p fun a δ2 => match a with
  | .dict kvs => if okKind kvs b then .ok (.fz (.bool (n (getD' kvs b).isSome))) δ2 else .bad
  | _ => .bad
theorem di_core {F G : EF} {Q : VK} {n : Bool → Bool} (h : tD K tb W (eDi n F G) σ H Q) : (tD K tb W F) σ H fun y H1 => (tD K tb W G) σ H1 fun x H2 => ∃ p o, x = .ref p ∧ DGet H2 p y o ∧ Q (.bl (n o.isSome)) H2 := by
  obtain ⟨δ, z, c, hE, w, h⟩ := h
  refine go_P hE w h fun b δ1 u H1 z1 c1 hE1 f1 w1 s1 h1 => ?_
  refine go_P hE1 w1 h1 fun d δ2 v H2 z2 c2 hE2 f2 w2 s2 h2 => ?_
  cases d with
  | dict kvs =>
    have h2 : Out K tb W H2 z2 c2 σ (if okKind kvs b then .ok (.fz (.bool (n (getD' kvs b).isSome))) δ2 else .bad) Q := h2
    by_cases hk : okKind kvs b = true
    case neg => rw [if_neg hk] at h2; exact h2.elim
    rw [if_pos hk] at h2
    obtain ⟨p, o, ev, g, eo⟩ := f2.dgetO (s2.fz w1 f1) hk
    refine ⟨p, o, ev, g, ?_⟩
    rw [eo]
    exact Out.const hE2 w2 (.bl _) h2
  | _ => exact h2.elim
theorem de_din {a b : Expr} {F G : EF} {pos : Pos} (hu : X.A.units + 64 < cLine) (ha : DE tb W X a F) (hb : DE tb W X b G) (h1 : behindInMarks .In b = false) : DE tb W X (.Compare a [.In] [b] pos) (eDi id F G) :=
  (pe_cmp (pc_din (by omega) ha hb) h1).wk fun σ H Q h => di_core h
theorem de_dnin {a b : Expr} {F G : EF} {pos : Pos} (hu : X.A.units + 64 < cLine) (ha : DE tb W X a F) (hb : DE tb W X b G) (h1 : behindInMarks .NotIn b = false) : DE tb W X (.Compare a [.NotIn] [b] pos) (eDi not F G) :=
  (pe_cmp (pc_dnotin (by omega) ha hb) h1).wk fun σ H Q h => di_core h
theorem dt_din {a b : Expr} {F G : EF} {pos : Pos} (hu : X.A.units + 64 < cLine) (ha : DE tb W X a F) (hb : DE tb W X b G) (h1 : behindInMarks .In b = false) : DT tb W X (.Compare a [.In] [b] pos) (tE (eDi id F G)) :=
  (pt_cmp (pc_din (by omega) ha hb) h1).wk fun σ H Q h => by
    unfold tB
    exact di_core (Q := fun x H' => ∃ k, x = .bl k ∧ Q k H') (test_of h)
theorem dt_dnin {a b : Expr} {F G : EF} {pos : Pos} (hu : X.A.units + 64 < cLine) (ha : DE tb W X a F) (hb : DE tb W X b G) (h1 : behindInMarks .NotIn b = false) : DT tb W X (.Compare a [.NotIn] [b] pos) (tE (eDi not F G)) :=
  (pt_cmp (pc_dnotin (by omega) ha hb) h1).wk fun σ H Q h => by
    unfold tB
    exact di_core (Q := fun x H' => ∃ k, x = .bl k ∧ Q k H') (test_of h)
/-! ### len(d) -/
def gLenD : PD → Option M
  | .dict kvs => some (.fz (.int (kvs.length : Nat)))
  | _ => none
theorem FzD.len : ∀ {a : List (PD × PD)} {b : List (Key × V)}, FzD K H z a b → a.length = b.length
  | _, _, .nil => rfl
  | _, _, .cons _ _ r => congrArg (· + 1) (FzD.len r)
theorem FzT.len : ∀ {a : List (PD × PD)} {b : List (List Key × V)}, FzT K H z a b → a.length = b.length
  | _, _, .nil => rfl
  | _, _, .cons _ _ r => congrArg (· + 1) (FzT.len r)
/-! ### d[k] = e -/
theorem _root_.L2.Inv.reT {pins : List (Addr × Obj)} {s : Shared} {a : Addr} (I : Inv X pins σ H s) (e : H a = some (.dK [])) : Inv X pins σ (upd H a (.dT [])) s := by
  obtain ⟨_, hs, vs, rel, o, es, ep, h1, h2, h3, _, h5, _⟩ := dk_of I.hok e
  cases rel
  have he : es.toList = [] := by cases hh : es.toList with
    | nil => rfl
    | cons x r => rw [hh] at h5; cases h5
  have J := Inv.write (x := a) (e := a) (o := .dT []) (h' := s.heap) (t' := s.toks) I (by rw [e]; exact True.intro) (.inl rfl) (fun b u _ q => q) ⟨o, h1⟩ ⟨Nat.zero_le _, hs, [], .nil, o, es, ep, h1, h2, h3, he, List.nodup_nil⟩
  exact J
theorem _root_.L2.Inv.reK {pins : List (Addr × Obj)} {s : Shared} {a : Addr} (I : Inv X pins σ H s) (e : H a = some (.dT [])) : Inv X pins σ (upd H a (.dK [])) s := by
  obtain ⟨_, hs, xs, rel, o, es, ep, h1, h2, h3, h4, _⟩ := (show ObjOk X.prog X.w H s.heap a (.dT []) from I.hok a _ e)
  cases rel
  have he : es.toList = [] := h4
  have he2 : es = #[] := by cases es; simp at he; rw [he]
  subst he2
  have J := Inv.write (x := a) (e := a) (o := .dK []) (h' := s.heap) (t' := s.toks) I (by rw [e]; exact True.intro) (.inl rfl) (fun b u _ q => q) ⟨o, h1⟩ ⟨Nat.zero_le _, hs, [], .nil, o, #[], ep, h1, h2, h3, (fun x hx => by simp at hx), .nil, List.nodup_nil⟩
  exact J
def Retype (H : Hp) (a : Addr) (H' : Hp) : Prop := H' = H ∨ (H a = some (.dK []) ∧ H' = upd H a (.dT [])) ∨ (H a = some (.dT []) ∧ H' = upd H a (.dK []))
def sDPut2 (td ty tv : TE) : TS := fun D σ H => tv σ H fun v H1 => td σ H1 fun x H2 => ty σ H2 fun y H3 => ∃ a H4 H5, x = .ref a ∧ Retype H3 a H4 ∧ DPut H4 a y v H5 ∧ D.nx σ H5
theorem ps_dput2 {o i value : Expr} {pos pos' : Pos} {td ty tv : TE} (hu : X.A.units + 1 < cLine) (ho : PE X o td) (hi : PE X i ty) (hv : PE X value tv) (hs : swapsWith value (some (.Subscript o i pos')) pos.line X.env = pure false) :
    PS X (.Assign [.Subscript o i pos'] value pos) (sDPut2 td ty tv) := by
  refine ⟨fun pins s σ H D I h => ?_⟩
  refine PySem.wpAny_Assign_Subscript (thn (hv.run pins s σ H _ I h) fun r s1 ⟨v, H1, I1, rv, q1⟩ => thn (ho.run pins s1 σ H1 _ I1 q1) fun u s2 ⟨x, H2, I2, rx, q2⟩ => thn (hi.run pins s2 σ H2 _ I2 q2) fun iv s3 ⟨y, H3, I3, ry, a, H4, H5, ex, rt, g, q3⟩ => ?_) hs
  subst ex
  obtain rfl : u = Value.ref a := rx
  have I4 : Inv X pins σ H4 s3 := by
    rcases rt with rfl | ⟨e, rfl⟩ | ⟨e, rfl⟩
    · exact I3
    · exact I3.reT e
    · exact I3.reK e
  exact d_setItem hu I4 g ry rv fun s4 I4 => ⟨σ, H5, I4, q3⟩
def R.ps (r : R M) (f : PD → Env' → SR) : SR := match r with
  | .ok (.v l) δ => f l.pd δ
  | .ok _ _ => .bad
  | .ex n δ => .ex n δ
  | .bad => .bad
theorem go_SP {F : EF} {f : PD → Env' → SR} {Q1 : VK} (hp : pinOk pin σ) (hE : RpE K tb H z δ σ c) (w : Wf H z c) (h : OutS K tb pin W H z c ((F δ).ps f) D)
    (k : ∀ d δ1 v H1 z1 c1, RpE K tb H1 z1 δ1 σ c1 → Fz K H1 z1 d v → Wf H1 z1 c1 → Step H z c H1 z1 c1 → OutS K tb pin W H1 z1 c1 (f d δ1) D → Q1 v H1) : tD K tb W F σ H Q1 := by
  refine ⟨δ, z, c, hE, w, ?_⟩
  cases e : F δ with
  | ok m δ1 =>
    rw [e] at h
    cases m with
    | v l =>
      intro v H' a
      obtain ⟨z1, c1, h1, h2, h3, h4⟩ := AftE.toP a
      exact k l.pd δ1 v H' z1 c1 h1 h2 h3 h4 (OutS.step h4 h3 h)
    | o own t fs => exact h.elim
  | ex n δ1 => rw [e] at h; exact fun H' a => h σ H' ⟨hp, a⟩
  | bad => rw [e] at h; exact h.elim
theorem own_dic {i : Nat} {kvs : List (PD × PD)} (hE : RpE K tb H z δ σ c) (hi : δ[i]? = some (some (.v (.dic kvs)))) :
    ∃ a cr, σ[i]? = some (some (.ref a)) ∧ ((∃ kw, H a = some (.dK kw) ∧ FzD K H z kvs kw) ∨ ∃ kw, H a = some (.dT kw) ∧ FzT K H z kvs kw) ∧ (∀ b, c b = one a b + cr b) ∧ RpE K tb H z (δ.set i none) σ cr := by
  obtain ⟨v, c1, c2, e1, e2, e3, e4⟩ := hE.get hi
  cases e2 with
  | v r =>
    cases r with
    | dik h r e => exact ⟨_, c2, e1, .inl ⟨_, h, r⟩, fun b => by rw [e3, e], e4⟩
    | dit h r e => exact ⟨_, c2, e1, .inr ⟨_, h, r⟩, fun b => by rw [e3, e], e4⟩
def dpK (i : Nat) (d kd : PD) (δ : Env') : SR := match δ[i]? with
  | some (some (.v (.dic kvs))) => if ((kvs.isEmpty && (isKd kd || isKt kd)) || okKind kvs kd) && decide (kvs.length < big) then .nx (δ.set i (some (.dic (putD kvs kd d)))) else .bad
  | _ => .bad
def sDp (i : Nat) (Fi Fv : EF) : SF := fun δ => (Fv δ).ps fun d δ1 => match δ1[i]? with
  | some (some _) => (Fi δ1).ps fun kd δ2 => dpK i d kd δ2
  | _ => .bad
theorem FzD.step {s : Step H z c H' z' c'} (w : Wf H z c) {a : List (PD × PD)} {b : List (Key × V)} (h : FzD K H z a b) : FzD K H' z' a b := h.mono s.zin (s.on w)
theorem upd_upd {H : Hp} {a : Addr} {x y : HO} : upd (upd H a x) a y = upd H a y := by
  funext b
  by_cases h : b = a
  · subst h; rw [upd_same, upd_same]
  · rw [upd_ne h, upd_ne h, upd_ne h]
theorem ds_dput {ix e o : Expr} {i : Nat} {Fi Fv : EF} {pos spos : Pos} (hu : X.A.units + 64 < cLine) (hv : DE tb W X e Fv) (ho : PE X o (tVar i)) (hi : DE tb W X ix Fi) (hs : swapsWith e (some (.Subscript o ix spos)) pos.line X.env = pure false := by rfl) :
    DS tb pin W X (.Assign [.Subscript o ix spos] e pos) (sDp i Fi Fv) :=
  (ps_dput2 (by omega) ho hi hv hs).wk fun D σ H ⟨hp, δ, z, c, hE, w, h⟩ => by
    unfold sDp at h
    refine go_SP hp hE w h fun d δ1 v H1 z1 c1 hE1 f1 w1 s1 h1 => ?_
    cases q1 : δ1[i]? with
    | none => rw [q1] at h1; exact h1.elim
    | some o1 =>
      rw [q1] at h1
      cases o1 with
      | none => exact h1.elim
      | some m1 =>
        dsimp only at h1
        obtain ⟨x, ev⟩ := hE1.getV q1
        refine ⟨x, ev, ?_⟩
        refine go_SP hp hE1 w1 h1 fun kd δ2 y H2 z2 c2 hE2 f2 w2 s2 h2 => ?_
        unfold dpK at h2
        cases q2 : δ2[i]? with
        | none => rw [q2] at h2; exact h2.elim
        | some o2 =>
          rw [q2] at h2
          cases o2 with
          | none => exact h2.elim
          | some m2 =>
            cases m2 with
            | o _ _ _ => exact h2.elim
            | v l2 =>
              cases l2 with
              | fz _ => exact h2.elim
              | lst _ => exact h2.elim
              | dic kvs =>
                dsimp only at h2
                by_cases hk : (((kvs.isEmpty && (isKd kd || isKt kd)) || okKind kvs kd) && decide (kvs.length < big)) = true
                case neg => rw [if_neg hk] at h2; exact h2.elim
                rw [if_pos hk] at h2
                have hk' := Bool.and_eq_true_iff.mp hk
                have hl : kvs.length < big := of_decide_eq_true hk'.2
                obtain ⟨a, cr, ev2, hd, hc, hE3⟩ := own_dic hE2 q2
                rw [ev] at ev2
                cases ev2
                have fd := s2.fz w1 f1
                have za : ∀ b, z2 b → b ≠ a := fun b q e => by
                  have := w2.zc b q
                  rw [hc, e, one_self] at this; omega
                have ca : ∀ b, 0 < cr b → b ≠ a := fun b q e => by
                  have := w2.c1 a
                  rw [hc, one_self] at this
                  rw [e] at q; omega
                -- the end: any node at a that stands for the new dict
                have fin : ∀ u : HO, Mut (some u) → (∀ H5 : Hp, H5 = upd H2 a u → RpL X.K H5 z2 (.dic (putD kvs kd d)) (.ref a) (one a)) → D.nx σ (upd H2 a u) := fun u mu hr => by
                  have hE4 := hE3.mono (H' := upd H2 a u) (fun _ q => q) (fun b q => upd_ne (za b q)) fun b q => upd_ne (ca b q)
                  have hE5 := RpE.put hE4 (lt_of_get q2) ev (.v (hr _ rfl))
                  obtain ⟨w3, s3⟩ := Wf.upd (o := u) w2 (show 0 < c2 a by rw [hc, one_self]; omega) mu
                  exact h2 σ _ ⟨hp, z2, _, hE5, w3.congr hc, s3.congr (fun _ => rfl) hc⟩
                have mono : ∀ (u : HO) {d : PD} {v : V}, Fz X.K H2 z2 d v → Fz X.K (upd H2 a u) z2 d v := fun u {d v} f => f.mono (fun _ q => q) fun b q => upd_ne (za b q)
                have monoD : ∀ (u : HO) {a' : List (PD × PD)} {b' : List (Key × V)}, FzD X.K H2 z2 a' b' → FzD X.K (upd H2 a u) z2 a' b' := fun u {a' b'} f => f.mono (fun _ q => q) fun b q => upd_ne (za b q)
                have monoT : ∀ (u : HO) {a' : List (PD × PD)} {b' : List (List Key × V)}, FzT X.K H2 z2 a' b' → FzT X.K (upd H2 a u) z2 a' b' := fun u {a' b'} f => f.mono (fun _ q => q) fun b q => upd_ne (za b q)
                have hcons : kvs ≠ [] → okKind kvs kd = true := fun hne => by
                  have := hk'.1
                  cases kvs with
                  | nil => exact absurd rfl hne
                  | cons x r => simpa using this
                by_cases hkd : isKd kd = true
                · obtain ⟨k', hk1⟩ := Option.isSome_iff_exists.mp hkd
                  have ep : putD kvs kd d = putDk FS.keyD kvs kd d := by unfold putD; rw [if_pos hkd]
                  have yk := f2.keyD hk1
                  -- a dK node
                  have go : ∀ kw, FzD X.K H2 z2 kvs kw → D.nx σ (upd H2 a (.dK (putK kw k' v))) := fun kw fkw => fin _ trivial fun H5 e5 => by
                    subst e5
                    rw [ep]
                    exact .dik upd_same (monoD _ (fkw.put hk1 fd)) fun _ => rfl
                  rcases hd with ⟨kw, hH, fkw⟩ | ⟨kw, hH, fkw⟩
                  · exact ⟨a, H2, _, rfl, .inl rfl, .inl ⟨kw, k', hH, yk, by rw [← fkw.len, big_eq]; exact hl, rfl⟩, go kw fkw⟩
                  · cases fkw with
                    | nil =>
                      refine ⟨a, _, _, rfl, .inr (.inr ⟨hH, rfl⟩), .inl ⟨[], k', upd_same, yk, by rw [big_eq]; decide, rfl⟩, ?_⟩
                      rw [upd_upd]
                      exact go [] .nil
                    | cons e f r =>
                      exfalso
                      have := (FzT.cons e f r).kind (hcons (by intro q; cases q))
                      rw [hkd] at this
                      exact Bool.noConfusion this.2
                · have hkt : isKt kd = true := by
                    have h3 := hk'.1
                    rcases Bool.or_eq_true_iff.mp h3 with h3 | h3
                    · have := (Bool.and_eq_true_iff.mp h3).2
                      simpa [hkd] using this
                    · have := okKind_or h3
                      simpa [hkd] using this
                  obtain ⟨k', hk1⟩ := Option.isSome_iff_exists.mp hkt
                  have ep : putD kvs kd d = putDk FS.keyT kvs kd d := by unfold putD; rw [if_neg hkd]
                  obtain ⟨p, yp, hp2⟩ := f2.keyT hk1
                  have pa : p ≠ a := fun e => by
                    rcases hd with ⟨kw, hH, _⟩ | ⟨kw, hH, _⟩ <;> (rw [← e, hp2] at hH; cases hH)
                  have go : ∀ kw, FzT X.K H2 z2 kvs kw → D.nx σ (upd H2 a (.dT (putK kw k' v))) := fun kw fkw => fin _ trivial fun H5 e5 => by
                    subst e5
                    rw [ep]
                    exact .dit upd_same (monoT _ (fkw.put hk1 fd)) fun _ => rfl
                  rcases hd with ⟨kw, hH, fkw⟩ | ⟨kw, hH, fkw⟩
                  · cases fkw with
                    | nil =>
                      refine ⟨a, _, _, rfl, .inr (.inl ⟨hH, rfl⟩), .inr ⟨[], k', p, upd_same, yp, (upd_ne pa).trans hp2, by rw [big_eq]; decide, rfl⟩, ?_⟩
                      rw [upd_upd]
                      exact go [] .nil
                    | cons e f r =>
                      exfalso
                      exact hkd ((FzD.cons e f r).kind (hcons (by intro q; cases q)))
                  · exact ⟨a, H2, _, rfl, .inl rfl, .inr ⟨kw, k', p, hH, yp, hp2, by rw [← fkw.len, big_eq]; exact hl, rfl⟩, go kw fkw⟩
end
end FS
namespace FS
open PySem PySem.Spec L2
/-! ### instances -/
section
variable {K : PySem.W.Frag} {tb : Nat → Addr} {pin : List (Nat × V)} {W : WX} {H H' H1 : Hp} {z z' z1 : Zn} {c c' c1 : Ct} {σ σ1 : St} {δ δ' : Env'} {X : Cx} {D : Ends}
variable {a b e o : Expr} {F G : EF} {pos p p2 q apos : Pos} {i t : Nat} {es : List Expr} {A : AF} {ps : List Str} {sem : Sem} {k j : Nat} {x m f : Str}
structure CalM (P : Program) (w : World) (K : PySem.W.Frag) (mg : Str → Option Value) (base : Heap) (tb : Nat → Addr) (k : Nat) (t : Nat) (m : Str) (ps : List Str) (sem : Sem) : Prop where
  ex : ∃ f fd, FnOk P w K mg base (L2.CX P w) k f fd ps (spD K tb ps.length sem) ∧ Meth K (tb t) m f ∧ Binds K fd ps []
structure CalI (P : Program) (w : World) (K : PySem.W.Frag) (mg : Str → Option Value) (base : Heap) (tb : Nat → Addr) (k : Nat) (t : Nat) (x : Str) (ps : List Str) (sem : Sem) : Prop where
  ex : ∃ f fd, FnOk P w K mg base (L2.CX P w) k f fd ps (spD K tb ps.length sem) ∧ Mk K (tb t) f ∧ mg x = some (.ref (tb t)) ∧ Binds K fd ps []
theorem RpF.lookup {f : Str} {l : L} : ∀ {fs : List (Str × L)} {fv : List (Str × V)} {c : Ct}, RpF K H z fs fv c → fs.lookup f = some l → ∃ v cl, fv.lookup f = some v ∧ RpL K H z l v cl ∧ ∀ a, cl a ≤ c a
  | _, _, _, .nil _, h => by cases h
  | _, _, _, .cons (f := g) (c1 := c1) (c2 := c2) hl r e, h => by
    rw [List.lookup_cons] at h ⊢
    cases q : f == g with
    | true =>
      rw [q] at h
      dsimp only at h ⊢
      cases h
      exact ⟨_, c1, rfl, hl, fun a => by rw [e]; omega⟩
    | false =>
      rw [q] at h
      obtain ⟨v, cl, h1, h2, h3⟩ := RpF.lookup r h
      exact ⟨v, cl, h1, h2, fun a => by have := h3 a; rw [e]; omega⟩
theorem RpF.none {f : Str} : ∀ {fs : List (Str × L)} {fv : List (Str × V)} {c : Ct}, RpF K H z fs fv c → fs.lookup f = none → fv.lookup f = none
  | _, _, _, .nil _, _ => rfl
  | _, _, _, .cons (f := g) hl r e, h => by
    rw [List.lookup_cons] at h ⊢
    cases q : f == g with
    | true => rw [q] at h; cases h
    | false => rw [q] at h; exact RpF.none r h
theorem RpF.len : ∀ {fs : List (Str × L)} {fv : List (Str × V)} {c : Ct}, RpF K H z fs fv c → fs.length = fv.length
  | _, _, _, .nil _ => rfl
  | _, _, _, .cons _ r _ => congrArg (· + 1) (RpF.len r)
def putL (f : Str) (l : L) : List (Str × L) → List (Str × L)
  | [] => [(f, l)]
  | (g, x) :: r => if g = f then (g, l) :: r else (g, x) :: putL f l r
theorem RpF.put {f : Str} {l : L} {v : V} {cm : Ct} (hl : RpL K H z l v cm) : ∀ {fs : List (Str × L)} {fv : List (Str × V)} {c : Ct}, RpF K H z fs fv c → ∃ c', RpF K H z (putL f l fs) (putF f v fv) c' ∧ ∀ a, c' a ≤ c a + cm a
  | _, _, c, .nil e => ⟨fun a => cm a + zero a, .cons hl (.nil fun _ => rfl) fun _ => rfl, fun a => by show cm a + 0 ≤ _; omega⟩
  | _, _, c, .cons (f := g) (c1 := c1) (c2 := c2) h r e => by
    unfold putL putF
    by_cases q : g = f
    · rw [if_pos q, if_pos q]
      exact ⟨fun a => cm a + c2 a, .cons hl r fun _ => rfl, fun a => by have := e a; show cm a + c2 a ≤ _; omega⟩
    · rw [if_neg q, if_neg q]
      obtain ⟨c', h1, h2⟩ := RpF.put hl r
      exact ⟨fun a => c1 a + c' a, .cons h h1 fun _ => rfl, fun a => by have := e a; have := h2 a; show c1 a + c' a ≤ _; omega⟩
/-! e.f -/
def eFld (t : Nat) (f : Str) (F : EF) : EF := fun δ => match F δ with
  | .ok (.o _ t' fs) δ1 => if t' = t then (match fs.lookup f with
    | some l => .ok (.fz l.pd) δ1
    | none => .bad) else .bad
  | .ex n δ1 => .ex n δ1
  | _ => .bad
theorem frzF_lookup {f : Str} : ∀ {fs : List (Str × L)}, (L.frzF fs).lookup f = (fs.lookup f).map fun l => L.fz l.pd
  | [] => rfl
  | (g, l) :: r => by
    unfold L.frzF
    rw [List.lookup_cons, List.lookup_cons]
    cases f == g with
    | true => rfl
    | false => exact frzF_lookup
theorem de_fld (he : DE tb W X e F) (cl : Cls X.K (tb t)) (na : NoAttr X.K (tb t) f) (hb : attributeBase e f X.env (eval e X.env) = eval e X.env := by rfl) : DE tb W X (.Attribute e f pos) (eFld t f F) :=
  (pe_fld he hb).wk fun σ H Q ⟨δ, z, c, hE, w, h⟩ => by
    refine ⟨δ, z, c, hE, w, ?_⟩
    unfold eFld at h
    cases e1 : F δ with
    | bad => rw [e1] at h; exact h.elim
    | ex n δ1 => rw [e1] at h; exact h
    | ok m δ1 =>
      rw [e1] at h
      cases m with
      | v l => exact h.elim
      | o own t' fs =>
        dsimp only at h
        intro v H' aft
        by_cases ht : t' = t
        case neg => rw [if_neg ht] at h; exact h.elim
        rw [if_pos ht] at h
        subst ht
        obtain ⟨z1, c1, hE1, hR, w1, s1⟩ := aft.frzM
        cases el : fs.lookup f with
        | none => rw [el] at h; exact h.elim
        | some l =>
          rw [el] at h
          cases hR with
          | fin hz hH hF e0 e0' =>
            rename_i a dx fv c'
            have hlk : (L.frzF fs).lookup f = some (.fz l.pd) := by rw [frzF_lookup, el]; rfl
            obtain ⟨y, cy, h1, h2, h3⟩ := hF.lookup hlk
            cases h2 with
            | fz hf _ => exact ⟨a, _, dx, fv, y, rfl, hH, cl, na, h1, h y H' (AftP.toE ⟨z1, c1, hE1, hf, w1, s1⟩)⟩
/-! self.f = e -/
theorem own_ins {own : Bool} {t : Nat} {fs : List (Str × L)} (hE : RpE K tb H z δ σ c) (hi : δ[i]? = some (some (.o own t fs))) :
    ∃ a dx fv cf, σ[i]? = some (some (.ref a)) ∧ H a = some (.ins (tb t) dx fv) ∧ RpF K H z fs fv cf := by
  obtain ⟨v, c1, c2, e1, e2, e3, e4⟩ := hE.get hi
  cases e2 with
  | ins h r e => exact ⟨_, _, _, _, e1, h, r⟩
  | fin q h r e e' => exact ⟨_, _, _, _, e1, h, r⟩
theorem own_insT {t : Nat} {fs : List (Str × L)} (hE : RpE K tb H z δ σ c) (hi : δ[i]? = some (some (.o true t fs))) :
    ∃ a dx fv cf cr, σ[i]? = some (some (.ref a)) ∧ H a = some (.ins (tb t) dx fv) ∧ RpF K H z fs fv cf ∧ (∀ b, c b = one a b + cf b + cr b) ∧ RpE K tb H z (δ.set i none) σ cr := by
  obtain ⟨v, c1, c2, e1, e2, e3, e4⟩ := hE.get hi
  cases e2 with
  | ins h r e => exact ⟨_, _, _, _, c2, e1, h, r, fun b => by rw [e3, e], e4⟩
theorem own_putI {a dx : Addr} {fs : List (Str × L)} {fv : List (Str × V)} {cf cr : Ct} (hl : i < δ.length) (hv : σ[i]? = some (some (.ref a))) (hA : RpF K H z fs fv cf) (hE : RpE K tb H z (δ.set i none) σ cr)
    (w : Wf H z fun b => one a b + cf b + cr b) : RpE K tb (upd H a (.ins (tb t) dx fv)) z (δ.set i (some (.o true t fs))) σ fun b => one a b + cf b + cr b := by
  have c0 : one a a + cf a + cr a ≤ 1 := w.c1 a
  have z0 : ∀ b, z b → b ≠ a := fun b q e => by
    have h : one a b + cf b + cr b = 0 := w.zc b q
    rw [e, one_self] at h
    omega
  rw [one_self] at c0
  have nca : ∀ b, 0 < cf b → b ≠ a := fun b q e => by rw [e] at q; omega
  have ncr : ∀ b, 0 < cr b → b ≠ a := fun b q e => by rw [e] at q; omega
  have hE' := hE.mono (H' := upd H a (.ins (tb t) dx fv)) (fun _ q => q) (fun b q => upd_ne (z0 b q)) fun b q => upd_ne (ncr b q)
  have hA' := hA.mono (H' := upd H a (.ins (tb t) dx fv)) (fun _ q => q) (fun b q => upd_ne (z0 b q)) fun b q => upd_ne (nca b q)
  exact RpE.put hE' hl hv (.ins upd_same hA' fun _ => rfl)
def fsK (t i : Nat) (f : Str) (l : L) (o : Option (Option M)) (δ : Env') : SR := match o with
  | some (some (.o true t' fs)) => if t' = t ∧ fs.length < 900 then .nx (δ.set i (some (.o true t (putL f l fs)))) else .bad
  | _ => .bad
def sFs (t i : Nat) (f : Str) (F : EF) : SF := fun δ => (F δ).s fun m δ1 => match m with
  | .v l => fsK t i f l δ1[i]? δ1
  | _ => .bad
theorem ds_fset {pos' : Pos} (hv : DE tb W X e F) (ho : PE X o (tVar i)) (cl : Cls X.K (tb t)) (na : NoAttr X.K (tb t) f) (hs : swapsWith e (some (.Attribute o f pos')) pos.line X.env = pure false := by rfl) :
    DS tb pin W X (.Assign [.Attribute o f pos'] e pos) (sFs t i f F) :=
  (ps_fld ho hv hs).wk fun D σ H ⟨hp, δ, z, c, hE, w, h⟩ => by
    unfold sFs at h
    refine go_S hp hE w h fun m δ1 v H1 z1 c1 cm hE1 r1 w1 s1 h1 => ?_
    cases m with
    | o _ _ _ => exact h1.elim
    | v l =>
      dsimp only at h1
      unfold fsK at h1
      split at h1
      · rename_i t' fs q1
        by_cases hc : t' = t ∧ fs.length < 900
        case neg => rw [if_neg hc] at h1; exact h1.elim
        rw [if_pos hc] at h1
        obtain ⟨rfl, hlen⟩ := hc
        obtain ⟨a, dx, fv, cf, cr, ev, hH, hF, hcc, hE2⟩ := own_insT hE1 q1
        have rl : RpL X.K H1 z1 l v cm := by cases r1 with | v r => exact r
        obtain ⟨cf', hF2, hc2⟩ := hF.put (f := f) rl
        have w2 : Wf H1 z1 fun b => one a b + cf' b + cr b := w1.mono fun b => by have := hcc b; have := hc2 b; show _ ≤ c1 b + cm b; omega
        have hE3 := own_putI (dx := dx) (t := t') (lt_of_get q1) ev hF2 hE2 w2
        have pa : 0 < one a a + cf' a + cr a := by rw [one_self]; omega
        obtain ⟨w3, s3⟩ := Wf.upd (o := .ins (tb t') dx (putF f v fv)) w2 pa trivial
        refine ⟨.ref a, ev, a, _, dx, fv, rfl, hH, cl, na, by rw [← hF.len]; omega, ?_⟩
        exact h1 σ _ ⟨hp, z1, _, hE3, w3, ((Step.refl H1 z1 fun b => c1 b + cm b).mono fun b => by have := hcc b; have := hc2 b; show one a b + cf' b + cr b ≤ c1 b + cm b; omega).trans w2 s3⟩
      · exact h1.elim
end
end FS
namespace FS
open PySem PySem.Spec L2
section
variable {K : PySem.W.Frag} {tb : Nat → Addr} {pin : List (Nat × V)} {W : WX} {H H' H1 : Hp} {z z' z1 : Zn} {c c' c1 : Ct} {σ σ1 : St} {δ δ' : Env'} {X : Cx} {D : Ends}
variable {a b e o : Expr} {F G : EF} {pos p p2 q apos : Pos} {i t : Nat} {es : List Expr} {A : AF} {ps : List Str} {sem : Sem} {k j n : Nat} {x m f : Str} {np : Nat}
/-! ### calls that raise nothing -/
def eClN (sem : Sem) (A : AF) : EF := fun δ => (A δ).bind fun as δ1 => match takeA as δ1 with
  | none => .bad
  | some p => match sem p.1 with
    | .ret m ms' => .ok m (putA as ms' p.2)
    | _ => .bad
theorem callN_of {Q : VK} (h : tD K tb W (eClN sem A) σ H Q) (hnp : ∀ as δ δ1 p, A δ = .ok as δ1 → takeA as δ1 = some p → p.1.length = np) : tA K tb W A σ H fun vs H1 => spD K tb np sem (vs ++ []) H1 Q E0 := by
  obtain ⟨δ, z, c, hE, w, h⟩ := h
  refine ⟨δ, z, c, hE, w, ?_⟩
  unfold eClN at h
  cases e1 : A δ with
  | bad => rw [e1] at h; exact h
  | ex n δ1 => rw [e1] at h; exact h
  | ok as δ1 =>
    rw [e1] at h
    intro vs H1 z1 c1 hE1 g1 w1 s1
    have h : Out K tb W H z c σ (match takeA as δ1 with
      | none => .bad
      | some p => match sem p.1 with
        | .ret m ms' => .ok m (putA as ms' p.2)
        | _ => .bad) Q := h
    cases e2 : takeA as δ1 with
    | none => rw [e2] at h; exact h.elim
    | some p =>
      rw [e2] at h
      dsimp only at h
      obtain ⟨ms, δ2⟩ := p
      obtain ⟨cm, c2, hM, hE2, hc, hl⟩ := takeA_of g1 hE1 e2
      have hio : ∀ i, Arg.io i ∈ as → i < δ2.length := fun i hi => by rw [hl]; exact takeA_io e2 i hi
      have w2 : Wf H1 z1 (fun a => cm a + c2 a) := w1.congr hc
      have wm : Wf H1 z1 cm := w2.mono fun a => Nat.le_add_right _ _
      rw [List.append_nil]
      refine ⟨ms, z1, cm, hM, wm, hnp as δ δ1 _ e1 e2, ?_⟩
      have s1' : Step H z c H1 z1 (fun a => cm a + c2 a) := s1.congr (fun _ => rfl) hc
      cases e3 : sem ms with
      | bad => rw [e3] at h; exact h
      | ret m ms' =>
        rw [e3] at h
        intro v H' z' c' cr hM' hR' w' s'
        obtain ⟨k, wt, st⟩ := Step.frame w2 w' s'
        have hE' := hE2.mono s'.zin (s'.on wm) fun a q => k a q
        obtain ⟨c3, h1, h2, _⟩ := putA_of g1 hM' hE' hio
        have hle : ∀ a, c3 a + cr a ≤ c' a + cr a + c2 a := fun a => by have := h2 a; omega
        exact h v H' ⟨z', c3, cr, h1, hR', wt.mono hle, (s1'.trans w2 st).mono hle⟩
      | ex n ms' => rw [e3] at h; exact h.elim
/-! ### o.m(..) -/
theorem tio_of {i : Nat} {Q : List V → Hp → Prop} (h : tA K tb W (aIo i A) σ H Q) : ∃ v, σ[i]? = some (some v) ∧ tA K tb W A σ H fun vs H1 => Q (v :: vs) H1 := by
  obtain ⟨δ, z, c, hE, w, h⟩ := h
  unfold aIo at h
  cases q : δ[i]? with
  | none => rw [q] at h; exact h.elim
  | some o =>
    rw [q] at h
    cases o with
    | none => exact h.elim
    | some m =>
      obtain ⟨v, c1, c2, e1, _⟩ := hE.get q
      refine ⟨v, e1, δ, z, c, hE, w, ?_⟩
      dsimp only at h
      cases e2 : A δ with
      | ok as δ2 =>
        rw [e2] at h
        exact fun vs H2 z2 c2 hE2 f2 w2 s2 => h (v :: vs) H2 z2 c2 hE2 (.io e1 f2) w2 s2
      | ex n δ2 => rw [e2] at h; exact h
      | bad => rw [e2] at h; exact h
def isO (t : Nat) (m : Str) : Option (Option M) → Bool
  | some (some (.o _ t' fs)) => decide (t' = t) && (fs.lookup m).isNone
  | _ => false
/-- the receiver is lent -/
def eMe (t : Nat) (m : Str) (i : Nat) (sem : Sem) (A : AF) : EF := fun δ => if isO t m δ[i]? then eClN sem (aIo i A) δ else .bad
theorem me_of {Q : VK} (h : tD K tb W (eMe t m i sem A) σ H Q) (hnp : ∀ as δ δ1 p, aIo i A δ = .ok as δ1 → takeA as δ1 = some p → p.1.length = np) :
    tMeth (tb t) m (spD K tb np sem) [] E0 (tVar i) (tA K tb W A) σ H Q := by
  obtain ⟨δ, z, c, hE, w, h⟩ := h
  unfold eMe at h
  by_cases hi : isO t m δ[i]? = true
  case neg => rw [if_neg hi] at h; exact h.elim
  rw [if_pos hi] at h
  have h2 : tD K tb W (eClN sem (aIo i A)) σ H Q := ⟨δ, z, c, hE, w, h⟩
  obtain ⟨v, ev, hA⟩ := tio_of (callN_of h2 hnp)
  refine ⟨v, ev, ?_⟩
  unfold isO at hi
  split at hi
  · rename_i own t' fs q
    have hi' := Bool.and_eq_true_iff.mp hi
    have ht : t' = t := of_decide_eq_true hi'.1
    subst ht
    obtain ⟨a, dx, fv, cf, e1, hH, hF⟩ := own_ins hE q
    rw [ev] at e1
    cases e1
    exact ⟨a, dx, fv, rfl, hH, hF.none (Option.isNone_iff_eq_none.mp hi'.2), hA⟩
  · cases hi
theorem de_meth {pl : PySem.Sem Bool} (C : CalM X.prog X.w X.K X.mg X.base tb k t m ps sem) (cl : Cls X.K (tb t)) (hr : Room j X.A) (ho : PE X o (tVar i)) (ha : DA tb W X (e :: es) A) (hn : ArgN (aIo i A) n) (hkj : k ≤ j := by first | decide | omega) (hps : ps.length = n := by rfl)
    (hst : starEach (e :: es) X.env = (false, eval e X.env) :: starEach es X.env := by rfl) (hpl : (backTo pos (starEach es X.env)).any (·.1) = false := by rfl)
    (ht : eval (.Call (.Attribute o m apos) (e :: es) [] pos) X.env = (do
      let ov ← eval o X.env
      standAt apos.atName
      let (f, first) ← holding [ov] (getMethod ov m pl)
      callWith pos f first (backTo pos (starEach (e :: es) X.env)) (backToKw pos (keywordEach [] X.env))) := by rfl) :
    DE tb W X (.Call (.Attribute o m apos) (e :: es) [] pos) (eMe t m i sem A) := by
  obtain ⟨f, fd, F, hm, hb⟩ := C.ex
  exact (pe_meth (pl := pl) ho cl hm F (hr.mono hkj) hb .nil passL ha hst hpl ht).wk fun σ H Q h => me_of h fun as δ δ1 p e1 e2 => by rw [takeA_len e2, hn _ _ _ e1, hps]
theorem de_meth0 {pl : PySem.Sem Bool} (C : CalM X.prog X.w X.K X.mg X.base tb k t m ps sem) (cl : Cls X.K (tb t)) (hr : Room j X.A) (ho : PE X o (tVar i)) (hkj : k ≤ j := by first | decide | omega) (hps : ps.length = 1 := by rfl)
    (ht : eval (.Call (.Attribute o m apos) [] [] pos) X.env = (do
      let ov ← eval o X.env
      standAt apos.atName
      let (f, first) ← holding [ov] (getMethod ov m pl)
      callWith pos f first (backTo pos (starEach [] X.env)) (backToKw pos (keywordEach [] X.env))) := by rfl) :
    DE tb W X (.Call (.Attribute o m apos) [] [] pos) (eMe t m i sem aN) := by
  obtain ⟨f, fd, F, hm, hb⟩ := C.ex
  refine (pe_meth0 (pl := pl) ho cl hm F (hr.mono hkj) hb .nil passL ht).wk fun σ H Q h => ?_
  obtain ⟨v, ev, a, dx, fs, e1, e2, e3, δ, z, c, hE, w, h4⟩ := me_of (np := 1) h fun as δ δ1 p e1 e2 => by rw [takeA_len e2, argN_io argN_nil _ _ _ e1]
  refine ⟨v, ev, a, dx, fs, e1, e2, e3, ?_⟩
  rw [hps]
  exact h4 [] H z c hE .nil w (Step.refl _ _ _)
theorem RpM.mono (hz : ∀ a, z a → z' a) (hH : ∀ a, z a → H' a = H a) : ∀ {ms : List M} {vs : List V} {c : Ct}, RpM K tb H z ms vs c → (∀ a, 0 < c a → H' a = H a) → RpM K tb H' z' ms vs c
  | _, _, _, .nil e, _ => .nil e
  | _, _, _, .cons h r e, hc => .cons (h.mono hz hH fun a q => hc a (by rw [e]; omega)) (RpM.mono hz hH r fun a q => hc a (by rw [e]; omega)) e
/-! ### C(..) -/
def eMk (t : Nat) (sem : Sem) (A : AF) : EF := fun δ => (A δ).bind fun as δ1 => match takeA as δ1 with
  | none => .bad
  | some p => match sem (.o true t [] :: p.1) with
    | .ret (.v (.fz .none)) (m' :: ms') => .ok m' (putA as ms' p.2)
    | _ => .bad
theorem mk_of {Q : VK} (h : tD K tb W (eMk t sem A) σ H Q) (hnp : ∀ as δ δ1 p, A δ = .ok as δ1 → takeA as δ1 = some p → p.1.length + 1 = np) : tMake (tb t) (spD K tb np sem) [] E0 (tA K tb W A) σ H Q := by
  obtain ⟨δ, z, c, hE, w, h⟩ := h
  refine ⟨δ, z, c, hE, w, ?_⟩
  unfold eMk at h
  cases e1 : A δ with
  | bad => rw [e1] at h; exact h
  | ex n δ1 => rw [e1] at h; exact h
  | ok as δ1 =>
    rw [e1] at h
    intro vs H1 z1 c1 hE1 g1 w1 s1 x dx hx hdx hne
    have h : Out K tb W H z c σ (match takeA as δ1 with
      | none => .bad
      | some p => match sem (.o true t [] :: p.1) with
        | .ret (.v (.fz .none)) (m' :: ms') => .ok m' (putA as ms' p.2)
        | _ => .bad) Q := h
    cases e2 : takeA as δ1 with
    | none => rw [e2] at h; exact h.elim
    | some p =>
      rw [e2] at h
      dsimp only at h
      obtain ⟨ms, δ2⟩ := p
      obtain ⟨cm, c2, hM, hE2, hc, hl⟩ := takeA_of g1 hE1 e2
      have hio : ∀ i, Arg.io i ∈ as → i < δ2.length := fun i hi => by rw [hl]; exact takeA_io e2 i hi
      have w2 : Wf H1 z1 (fun a => cm a + c2 a) := w1.congr hc
      rw [List.append_nil]
      -- the new heap
      have nx : ∀ a, H1 a ≠ none → a ≠ x := fun a q e => q (e ▸ hx)
      have nd : ∀ a, H1 a ≠ none → a ≠ dx := fun a q e => q (e ▸ hdx)
      have kp : ∀ a, H1 a ≠ none → upd (upd H1 dx (.own x)) x (.ins (tb t) dx []) a = H1 a := fun a q => (upd_ne (nx a q)).trans (upd_ne (nd a q))
      have mx : ∀ a, 0 < cm a + c2 a → a ≠ x := fun a q => nx a (mut_ne (w2.cm a q))
      have zn : ∀ a, z1 a → H1 a ≠ none := w2.zt
      have w3 : Wf (upd (upd H1 dx (.own x)) x (.ins (tb t) dx [])) z1 (fun a => (one x a + cm a) + c2 a) := by
        refine ⟨fun a q => by rw [kp a (zn a q)]; exact zn a q, fun a q => ?_, fun a => ?_, fun a q => ?_⟩
        · have h0 : cm a + c2 a = 0 := w2.zc a q
          have h1 : one x a = 0 := one_ne (nx a (zn a q))
          show one x a + cm a + c2 a = 0
          omega
        · have h0 : cm a + c2 a ≤ 1 := w2.c1 a
          show one x a + cm a + c2 a ≤ 1
          by_cases ha : a = x
          · have h1 : cm a + c2 a = 0 := by
              rcases Nat.eq_zero_or_pos (cm a + c2 a) with r | r
              · exact r
              · exact absurd ha (mx a r)
            have h2 : one x a = 1 := by rw [ha]; exact one_self x
            omega
          · have h1 : one x a = 0 := one_ne ha
            omega
        · by_cases ha : a = x
          · rw [ha, upd_same]; trivial
          · have h1 : one x a = 0 := one_ne ha
            have q : 0 < one x a + cm a + c2 a := q
            have q2 : 0 < cm a + c2 a := by omega
            rw [kp a (mut_ne (w2.cm a q2))]
            exact w2.cm a q2
      have s3 : Step H1 z1 (fun a => cm a + c2 a) (upd (upd H1 dx (.own x)) x (.ins (tb t) dx [])) z1 (fun a => (one x a + cm a) + c2 a) := by
        refine ⟨fun a q _ => kp a q, fun a q => q, fun a q => ?_, fun a q => by rw [kp a q]; exact q⟩
        by_cases ha : a = x
        · rw [ha]; exact .inr (.inr hx)
        · have h1 : one x a = 0 := one_ne ha
          rcases q with q | q
          · exact .inl q
          · have q : 0 < one x a + cm a + c2 a := q
            exact .inr (.inl (by show 0 < cm a + c2 a; omega))
      have hM' : RpM K tb (upd (upd H1 dx (.own x)) x (.ins (tb t) dx [])) z1 (.o true t [] :: ms) (.ref x :: vs) (fun a => one x a + cm a) := by
        refine .cons (c1 := one x) (c2 := cm) (.ins (c' := zero) upd_same (.nil fun _ => rfl) fun _ => rfl) ?_ fun _ => rfl
        exact hM.mono (fun _ q => q) (fun a q => kp a (zn a q)) fun a q => kp a (mut_ne (w2.cm a (by show 0 < cm a + c2 a; omega)))
      have hE3 := hE2.mono (H' := upd (upd H1 dx (.own x)) x (.ins (tb t) dx [])) (z' := z1) (fun _ q => q) (fun a q => kp a (zn a q)) fun a q => kp a (mut_ne (w2.cm a (by show 0 < cm a + c2 a; omega)))
      have g3 := g1.mono (H' := upd (upd H1 dx (.own x)) x (.ins (tb t) dx [])) (z' := z1) (fun _ q => q) (fun a q => kp a (zn a q))
      have wm : Wf (upd (upd H1 dx (.own x)) x (.ins (tb t) dx [])) z1 (fun a => one x a + cm a) := w3.mono fun a => Nat.le_add_right _ _
      refine ⟨.o true t [] :: ms, z1, _, hM', wm, by have := hnp as δ δ1 _ e1 e2; simpa using this, ?_⟩
      have s1' : Step H z c H1 z1 (fun a => cm a + c2 a) := s1.congr (fun _ => rfl) hc
      cases e3 : sem (.o true t [] :: ms) with
      | bad => rw [e3] at h; exact h
      | ex n ms' => rw [e3] at h; exact h.elim
      | ret m0 ms' =>
        rw [e3] at h
        intro v H' z' c' cr hR hv w' s'
        split at h
        · rename_i m' ms'' heq
          cases heq
          obtain ⟨k, wt, st⟩ := Step.frame w3 w' s'
          have hE' := hE3.mono s'.zin (s'.on wm) fun a q => k a q
          cases hR with
          | cons hm' hM'' ee =>
            rename_i d1 d2
            obtain ⟨c3, h1, h2, _⟩ := putA_of g3 hM'' hE' hio
            have hvn : v = .non := by cases hv with | v r => cases r with | fz ff _ => cases ff; rfl
            refine ⟨hvn, ?_⟩
            have hle : ∀ a, c3 a + d1 a ≤ c' a + cr a + c2 a := fun a => by have := h2 a; have := ee a; omega
            exact h (.ref x) H' ⟨z', c3, d1, h1, hm', wt.mono hle, ((s1'.trans w2 s3).trans w3 st).mono hle⟩
        · exact h.elim
theorem de_make (C : CalI X.prog X.w X.K X.mg X.base tb k t x ps sem) (hr : Room (j + 1) X.A) (hg : Gl X x) (ha : DA tb W X (e :: es) A) (hn : ArgN A n) (hkj : k ≤ j := by first | decide | omega) (hps : ps.length = n + 1 := by rfl) (hdb : (x == ("__debug__" : Str)) = false := by decide)
    (he : starEach (e :: es) X.env = (false, eval e X.env) :: starEach es X.env := by rfl) (hpl : (backTo pos (starEach es X.env)).any (·.1) = false := by rfl) :
    DE tb W X (.Call (.Name x p) (e :: es) [] pos) (eMk t sem A) := by
  obtain ⟨f, fd, F, hm, hmg, hb⟩ := C.ex
  exact (pe_make hm F (hr.mono (Nat.succ_le_succ hkj)) hg hmg hb .nil passL ha hdb he hpl).wk fun σ H Q h => mk_of h fun as δ δ1 p e1 e2 => by rw [takeA_len e2, hn _ _ _ e1, hps]
theorem de_make0 (C : CalI X.prog X.w X.K X.mg X.base tb k t x ps sem) (hr : Room (j + 1) X.A) (hg : Gl X x) (hkj : k ≤ j := by first | decide | omega) (hps : ps.length = 1 := by rfl) (hdb : (x == ("__debug__" : Str)) = false := by decide) :
    DE tb W X (.Call (.Name x p) [] [] pos) (eMk t sem aN) := by
  obtain ⟨f, fd, F, hm, hmg, hb⟩ := C.ex
  refine (pe_make0 hm F (hr.mono (Nat.succ_le_succ hkj)) hg hmg hb .nil passL hdb).wk fun σ H Q h => ?_
  obtain ⟨δ, z, c, hE, w, h4⟩ := mk_of (np := 1) h fun as δ δ1 p e1 e2 => by rw [takeA_len e2, argN_nil _ _ _ e1]
  rw [hps]
  exact h4 [] H z c hE .nil w (Step.refl _ _ _)
end
end FS
namespace FS
open PySem PySem.Spec L2
section
variable {K : PySem.W.Frag} {tb : Nat → Addr} {pin : List (Nat × V)} {W : WX} {H H' H1 : Hp} {z z' z1 : Zn} {c c' c1 : Ct} {σ σ1 : St} {δ δ' : Env'} {X : Cx} {D : Ends}
variable {a b e o : Expr} {F G : EF} {pos p p2 q apos fpos : Pos} {i t : Nat} {f : Str}
/-! ### a list in a field -/
theorem RpF.hole {f : Str} {ls : List L} : ∀ {fs : List (Str × L)} {fv : List (Str × V)} {c : Ct}, RpF K H z fs fv c → fs.lookup f = some (.lst ls) →
    ∃ (p : Addr) (vs : List V) (cl cr : Ct), fv.lookup f = some (.ref p) ∧ H p = some (.lst vs) ∧ RpA K H z ls vs cl ∧ (∀ b, c b = one p b + cl b + cr b) ∧
      ∀ (H2 : Hp) (z2 : Zn) (l2 : L) (c2 : Ct), (∀ a, z a → z2 a) → (∀ a, z a → H2 a = H a) → (∀ a, 0 < cr a → H2 a = H a) → RpL K H2 z2 l2 (.ref p) c2 → RpF K H2 z2 (putL f l2 fs) fv fun b => c2 b + cr b
  | _, _, _, .nil _, h => by cases h
  | (g, l) :: fs, (_, v) :: fv, c, .cons (c1 := c1) (c2 := c2) hl r e, h => by
    rw [List.lookup_cons] at h
    rw [List.lookup_cons]
    cases q : f == g with
    | true =>
      rw [q] at h
      dsimp only at h ⊢
      cases h
      have hg : g = f := (beq_iff_eq.mp q).symm
      cases hl with
      | lst hH hA ee =>
        rename_i p vs cl
        refine ⟨p, vs, cl, c2, rfl, hH, hA, fun b => by rw [e, ee], fun H2 z2 l2 c2' hz h1 h2 hr => ?_⟩
        unfold putL
        rw [if_pos hg]
        exact .cons hr (r.mono hz h1 h2) fun _ => rfl
    | false =>
      rw [q] at h
      have hg : ¬ g = f := fun x => by rw [x] at q; simp at q
      obtain ⟨p, vs, cl, cr, h1, h2, h3, h4, h5⟩ := RpF.hole r h
      refine ⟨p, vs, cl, fun b => c1 b + cr b, h1, h2, h3, fun b => by have := h4 b; have := e b; show c b = one p b + cl b + (c1 b + cr b); omega, fun H2 z2 l2 c2' hz k1 k2 hr => ?_⟩
      unfold putL
      rw [if_neg hg]
      exact .cons (hl.mono hz k1 fun a q => k2 a (by show 0 < c1 a + cr a; omega)) (h5 H2 z2 l2 c2' hz k1 (fun a q => k2 a (by show 0 < c1 a + cr a; omega)) hr) fun b => by show c2' b + (c1 b + cr b) = c1 b + (c2' b + cr b); omega
def sAppF (t i : Nat) (f : Str) (F : EF) : SF := fun δ => match δ[i]? with
  | some (some (.o true t' fs)) => (match fs.lookup f with
    | some (.lst ls) => if t' = t ∧ ls.length < big then (F (δ.set i none)).s fun m δ1 => (match m with
      | .v l => .nx (δ1.set i (some (.o true t (putL f (.lst (ls ++ [l])) fs))))
      | _ => .bad) else .bad
    | _ => .bad)
  | _ => .bad
theorem ds_appF (ho : PE X o (tVar i)) (cl : Cls X.K (tb t)) (na : NoAttr X.K (tb t) f) (he : DE tb W X e F) (hb : attributeBase o f X.env (eval o X.env) = eval o X.env := by rfl)
    (hbase : attributeBase (.Attribute o f fpos) (Str.ofString "append") X.env (eval (.Attribute o f fpos) X.env) = eval (.Attribute o f fpos) X.env := by rfl)
    (hfew : ((backTo pos (starEach [e] X.env)).all (fun x => !x.1) && (backToKw pos (keywordEach [] X.env)).all (fun x => x.1.isSome)
      && decide (([e] : List Expr).length + ([] : List Keyword).length + (if ([] : List Keyword).isEmpty then 0 else 1) < 30)) = true := by rfl)
    (hline : (apos.endLine == pos.line) = true := by rfl) (hs : starEach [e] X.env = (false, eval e X.env) :: starEach [] X.env := by rfl) (hplain : (backTo pos (starEach [] X.env)).any (·.1) = false := by rfl)
    (hsw : swapsWith (.Call (.Attribute (.Attribute o f fpos) (Str.ofString "append") apos) [e] [] pos) none p.line X.env = pure false := by rfl) :
    DS tb pin W X (.Expr (.Call (.Attribute (.Attribute o f fpos) (Str.ofString "append") apos) [e] [] pos) p) (sAppF t i f F) :=
  (ps_expr (pe_bm PySem.F.plainAttrs_list PySem.F.slot_list_append PySem.F.type_list_append mt_append (pe_fld ho hb) (pa_cons he pa_nil hs) hbase hfew hline hs hplain) hsw).wk fun D σ H ⟨hp, δ, z, c, hE, w, h⟩ => by
    unfold sAppF at h
    split at h
    · rename_i t' fs q0
      split at h
      · rename_i ls el
        by_cases hc0 : t' = t ∧ ls.length < big
        case neg => rw [if_neg hc0] at h; exact h.elim
        rw [if_pos hc0] at h
        obtain ⟨ht, hbig⟩ := hc0
        subst ht
        obtain ⟨a, dx, fv, cf, cr0, ev, hHa, hF, hc, hE2⟩ := own_insT hE q0
        obtain ⟨pp, vs, cl', crf, hlk, hHp, hA, hcf, hole⟩ := hF.hole el
        refine ⟨.ref a, ev, a, _, dx, fv, .ref pp, rfl, hHa, cl, na, hlk, .inl ⟨rfl, vs, .inl (.inl hHp)⟩, ?_⟩
        have wf : Wf H z fun b => cr0 b + (one a b + cf b) := w.congr fun b => by rw [hc]; omega
        have w0 : Wf H z cr0 := wf.mono fun b => Nat.le_add_right _ _
        refine ⟨δ.set i none, z, cr0, hE2, w0, ?_⟩
        cases e1 : F (δ.set i none) with
        | bad => rw [e1] at h; exact h.elim
        | ex n δ1 =>
          rw [e1] at h
          intro H' ⟨z', c', hE', w', s'⟩
          obtain ⟨_, wt, st⟩ := Step.frame wf w' s'
          exact h σ H' ⟨hp, z', c', hE', w', (st.congr (fun b => by rw [hc]; omega) fun _ => rfl).mono fun b => Nat.le_add_right _ _⟩
        | ok m δ1 =>
          rw [e1] at h
          intro v H1 ⟨z1, c1, cm, hE1, r1, w1, s1⟩
          cases m with
          | o _ _ _ => exact h.elim
          | v l =>
            have h : OutS X.K tb pin W H z c (.nx (δ1.set i (some (.o true t' (putL f (.lst (ls ++ [l])) fs))))) D := h
            have rl : RpL X.K H1 z1 l v cm := by cases r1 with | v r => exact r
            obtain ⟨kp, wt, st⟩ := Step.frame wf w1 s1
            -- addresses
            have t1 : ∀ b, c1 b + cm b + (one a b + (one pp b + cl' b + crf b)) ≤ 1 := fun b => by have h3 : c1 b + cm b + (one a b + cf b) ≤ 1 := wt.c1 b; rw [hcf] at h3; exact h3
            have ap : a ≠ pp := fun e => by have := t1 a; rw [one_self, e, one_self] at this; omega
            have onz : ∀ b, z b → H1 b = H b := s1.on w0
            have kH : ∀ b, 0 < one a b + cf b → H1 b = H b := kp
            have hp1 : H1 pp = some (.lst vs) := (kH pp (by rw [hcf, one_self]; omega)).trans hHp
            have ha1 : H1 a = some (.ins (tb t') dx fv) := (kH a (by rw [one_self]; omega)).trans hHa
            refine ⟨pp, vs, v, rfl, rfl, hp1, by rw [← hA.len, big_eq]; exact hbig, ?_⟩
            have zp : ∀ b, z1 b → b ≠ pp := fun b q e => by
              have h3 : c1 b + cm b + (one a b + cf b) = 0 := wt.zc b q
              rw [e, hcf, one_self] at h3; omega
            have za : ∀ b, z1 b → b ≠ a := fun b q e => by
              have h3 : c1 b + cm b + (one a b + cf b) = 0 := wt.zc b q
              rw [e, one_self] at h3; omega
            have np : ∀ b, 0 < c1 b ∨ 0 < cm b ∨ 0 < cl' b ∨ 0 < crf b → b ≠ pp := fun b q e => by
              have := t1 b; rw [e, one_self] at this; rw [e] at q; omega
            let H2 : Hp := upd H1 pp (.lst (vs ++ [v]))
            have u2 : ∀ b, b ≠ pp → H2 b = H1 b := fun b q => upd_ne q
            have hA1 : RpA X.K H1 z1 ls vs cl' := hA.mono s1.zin onz fun b q => kH b (by rw [hcf]; omega)
            have hA2 : RpA X.K H2 z1 (ls ++ [l]) (vs ++ [v]) fun b => cl' b + cm b := (hA1.app (.cons (c2 := zero) rl (.nil fun _ => rfl) fun b => by show cm b = cm b + 0; omega)).mono (fun _ q => q) (fun b q => u2 b (zp b q)) fun b q => u2 b (np b (by omega))
            have hL : RpL X.K H2 z1 (.lst (ls ++ [l])) (.ref pp) fun b => one pp b + (cl' b + cm b) := .lst upd_same hA2 fun _ => rfl
            have hF2 := hole H2 z1 _ _ s1.zin (fun b q => (u2 b (zp b (s1.zin b q))).trans (onz b q)) (fun b q => (u2 b (np b (by omega))).trans (kH b (by rw [hcf]; omega))) hL
            have hE3 : RpE X.K tb H2 z1 δ1 σ c1 := hE1.mono (fun _ q => q) (fun b q => u2 b (zp b q)) fun b q => u2 b (np b (by omega))
            obtain ⟨c3, k1, k2⟩ := hE3.drop i
            have hil : i < δ1.length := by rw [hE1.len, ← hE.len]; exact lt_of_get q0
            have hR : Rp X.K tb H2 z1 (.o true t' (putL f (.lst (ls ++ [l])) fs)) (.ref a) fun b => one a b + (one pp b + (cl' b + cm b) + crf b) := .ins ((u2 a ap).trans ha1) hF2 fun _ => rfl
            have hE4 := RpE.put k2 hil ev hR
            have wn : Wf H1 z1 fun b => one a b + (one pp b + (cl' b + cm b) + crf b) + c3 b := wt.mono fun b => by
              have h3 := k1 b
              have h4 := hcf b
              show _ ≤ c1 b + cm b + (one a b + cf b)
              omega
            obtain ⟨w3, s3⟩ := Wf.upd (p := pp) (o := .lst (vs ++ [v])) wn (by rw [one_self]; omega) trivial
            refine h σ H2 ⟨hp, z1, _, hE4, w3, ?_⟩
            have st2 : Step H z c H1 z1 fun b => one a b + (one pp b + (cl' b + cm b) + crf b) + c3 b := (st.congr (fun b => by rw [hc]; omega) fun _ => rfl).mono fun b => by
              have h3 := k1 b
              have h4 := hcf b
              show _ ≤ c1 b + cm b + (one a b + cf b)
              omega
            exact st2.trans wn s3
      · exact h.elim
    · exact h.elim
end
end FS
namespace FS
open PySem PySem.Spec L2
section
variable {K : PySem.W.Frag} {tb : Nat → Addr} {pin : List (Nat × V)} {W : WX} {H H' H1 H2 : Hp} {z z' z1 z2 : Zn} {c c' c1 c2 cm : Ct} {σ σ1 : St} {δ δ' δ1 : Env'} {X : Cx} {D : Ends}
variable {a b e o ix : Expr} {F G Fi Fv : EF} {pos p p2 q apos fpos : Pos} {i t : Nat} {g : Str} {ls : List L}
theorem RpE.congrC (h : RpE K tb H z δ σ c) (e : ∀ b, c b = c' b) : RpE K tb H z δ σ c' := (funext e : c = c') ▸ h
theorem RpA.congrC {ls : List L} {vs : List V} (h : RpA K H z ls vs c) (e : ∀ b, c b = c' b) : RpA K H z ls vs c' := (funext e : c = c') ▸ h
/-! ### places: a slot with a list of one's own, a field with one -/
inductive Pl where
  | s (i : Nat)
  | f (i t : Nat) (g : Str)
def getP : Pl → Env' → Option (List L)
  | .s i, δ => match δ[i]? with
    | some (some (.v (.lst ls))) => some ls
    | _ => none
  | .f i t g, δ => match δ[i]? with
    | some (some (.o true t' fs)) => if t' = t then (match fs.lookup g with
      | some (.lst ls) => some ls
      | _ => none) else none
    | _ => none
def putP : Pl → List L → Env' → Env'
  | .s i, ls, δ => δ.set i (some (.lst ls))
  | .f i _ g, ls, δ => match δ[i]? with
    | some (some (.o true t' fs)) => δ.set i (some (.o true t' (putL g (.lst ls) fs)))
    | _ => δ
def tP (K : PySem.W.Frag) : Pl → TE
  | .s i => tVar i
  | .f i _ g => tFld K (tVar i) g
def PlOk (K : PySem.W.Frag) (tb : Nat → Addr) : Pl → Prop
  | .s _ => True
  | .f _ t g => Cls K (tb t) ∧ NoAttr K (tb t) g
theorem getP_s (h : getP (.s i) δ = some ls) : δ[i]? = some (some (.v (.lst ls))) := by
  have h : (match δ[i]? with
    | some (some (.v (.lst ls))) => some ls
    | _ => none) = some ls := h
  generalize δ[i]? = o at *
  rcases o with _ | _ | (_ | _ | _) | _ <;> first | (cases h; rfl) | cases h
theorem getP_f (h : getP (.f i t g) δ = some ls) : ∃ fs, δ[i]? = some (some (.o true t fs)) ∧ fs.lookup g = some (.lst ls) := by
  have h : (match δ[i]? with
    | some (some (.o true t' fs)) => if t' = t then (match fs.lookup g with
      | some (.lst ls) => some ls
      | _ => none) else none
    | _ => none) = some ls := h
  generalize δ[i]? = o at *
  rcases o with _ | _ | _ | ⟨b, t', fs⟩
  · cases h
  · cases h
  · cases h
  · cases b with
    | false => cases h
    | true =>
      dsimp only at h
      by_cases ht : t' = t
      case neg => rw [if_neg ht] at h; cases h
      rw [if_pos ht] at h
      subst ht
      refine ⟨fs, rfl, ?_⟩
      generalize fs.lookup g = x at *
      rcases x with _ | (_ | _ | _) <;> first | (cases h; rfl) | cases h
theorem own_P {P : Pl} (hE : RpE K tb H z δ σ c) (ok : PlOk K tb P) (h : getP P δ = some ls) : ∃ (a : Addr) (vs : List V) (ca cr : Ct), (∀ Q : VK, Q (.ref a) H → tP K P σ H Q) ∧ H a = some (.lst vs) ∧ RpA K H z ls vs ca ∧ (∀ b, c b = one a b + ca b + cr b) ∧
    ∀ (H2 : Hp) (z2 : Zn) (ls2 : List L) (vs2 : List V) (c2 : Ct), (∀ b, z b → z2 b) → (∀ b, z b → H2 b = H b) → (∀ b, 0 < cr b → H2 b = H b) → H2 a = some (.lst vs2) → RpA K H2 z2 ls2 vs2 c2 → RpE K tb H2 z2 (putP P ls2 δ) σ fun b => one a b + c2 b + cr b := by
  cases P with
  | s i =>
    have q := getP_s h
    obtain ⟨a, vs, ca, cr, ev, hH, hA, hc, hE2⟩ := own_lst hE q
    refine ⟨a, vs, ca, cr, fun Q k => ⟨_, ev, k⟩, hH, hA, hc, fun H2 z2 ls2 vs2 c2 k1 k2 k3 k4 k5 => ?_⟩
    exact RpE.put (hE2.mono k1 k2 k3) (lt_of_get q) ev (.v (.lst k4 k5 fun _ => rfl))
  | f i t g =>
    obtain ⟨fs, q, el⟩ := getP_f h
    obtain ⟨a0, dx, fv, cf, cr0, ev, hHa, hF, hc, hE2⟩ := own_insT hE q
    obtain ⟨pp, vs, cl', crf, hlk, hHp, hA, hcf, hole⟩ := hF.hole el
    refine ⟨pp, vs, cl', fun b => one a0 b + crf b + cr0 b, fun Q k => ⟨.ref a0, ev, a0, _, dx, fv, .ref pp, rfl, hHa, ok.1, ok.2, hlk, k⟩, hHp, hA, fun b => by have := hc b; have := hcf b; show c b = one pp b + cl' b + (one a0 b + crf b + cr0 b); omega, fun H2 z2 ls2 vs2 c2 k1 k2 k3 k4 k5 => ?_⟩
    have e0 : putP (.f i t g) ls2 δ = δ.set i (some (.o true t (putL g (.lst ls2) fs))) := by
      show (match δ[i]? with
        | some (some (.o true t' fs)) => δ.set i (some (.o true t' (putL g (.lst ls2) fs)))
        | _ => δ) = _
      rw [q]
    rw [e0]
    have hL : RpL K H2 z2 (.lst ls2) (.ref pp) fun b => one pp b + c2 b := .lst k4 k5 fun _ => rfl
    have hF2 := hole H2 z2 _ _ k1 k2 (fun b q => k3 b (by show 0 < one a0 b + crf b + cr0 b; omega)) hL
    have ha : H2 a0 = some (.ins (tb t) dx fv) := (k3 a0 (by show 0 < one a0 a0 + crf a0 + cr0 a0; rw [one_self]; omega)).trans hHa
    have hR : Rp K tb H2 z2 (.o true t (putL g (.lst ls2) fs)) (.ref a0) fun b => one a0 b + (one pp b + c2 b + crf b) := .ins ha hF2 fun _ => rfl
    refine (RpE.put (hE2.mono k1 k2 fun b q => k3 b (by show 0 < one a0 b + crf b + cr0 b; omega)) (lt_of_get q) ev hR).congrC fun b => ?_
    show one a0 b + (one pp b + c2 b + crf b) + cr0 b = one pp b + c2 b + (one a0 b + crf b + cr0 b)
    omega
/-- the last step of a change -/
theorem fin_P {P : Pl} {a : Addr} {ls2 : List L} {vs2 : List V} {ca2 cr : Ct} (w1 : Wf H1 z1 c1) (hcr : ∀ b, cr b ≤ c1 b)
    (cont : ∀ (H2 : Hp) (z2 : Zn) (ls2 : List L) (vs2 : List V) (c2 : Ct), (∀ b, z1 b → z2 b) → (∀ b, z1 b → H2 b = H1 b) → (∀ b, 0 < cr b → H2 b = H1 b) → H2 a = some (.lst vs2) → RpA K H2 z2 ls2 vs2 c2 → RpE K tb H2 z2 (putP P ls2 δ1) σ fun b => one a b + c2 b + cr b)
    (x : ∀ b, H1 b ≠ none → H2 b = H1 b) (zz : ∀ b, z1 b → z2 b) (w2 : Wf H2 z2 c2) (hA : RpA K H2 z2 ls2 vs2 ca2) (le : ∀ b, one a b + ca2 b + cr b ≤ c2 b) :
    RpE K tb (upd H2 a (.lst vs2)) z2 (putP P ls2 δ1) σ (fun b => one a b + ca2 b + cr b) ∧ Wf (upd H2 a (.lst vs2)) z2 (fun b => one a b + ca2 b + cr b) ∧ Step H2 z2 c2 (upd H2 a (.lst vs2)) z2 (fun b => one a b + ca2 b + cr b) := by
  have w2' : Wf H2 z2 fun b => one a b + ca2 b + cr b := w2.mono le
  have ha := w2'.c1 a
  have ha : one a a + ca2 a + cr a ≤ 1 := ha
  rw [one_self] at ha
  have zn : ∀ b, z2 b → b ≠ a := fun b q e => by
    have h : one a b + ca2 b + cr b = 0 := w2'.zc b q
    rw [e, one_self] at h
    omega
  have hA' := hA.mono (H' := upd H2 a (.lst vs2)) (fun _ q => q) (fun b q => upd_ne (zn b q)) fun b q => upd_ne fun e => by rw [e] at q; omega
  obtain ⟨w3, s3⟩ := Wf.upd (o := .lst vs2) w2' (by rw [one_self]; omega) trivial
  refine ⟨cont _ z2 ls2 vs2 ca2 zz (fun b q => (upd_ne (zn b (zz b q))).trans (x b (w1.zt b q))) (fun b q => (upd_ne fun e => by rw [e] at q; omega).trans (x b (mut_ne (w1.cm b (Nat.lt_of_lt_of_le q (hcr b)))))) upd_same hA', w3, ?_⟩
  exact ((Step.refl H2 z2 c2).mono le).trans w2' s3
/-! ### a look at a value -/
def pkV (F : EF) (δ : Env') : Option PD := match F (frzE δ) with
  | .ok (.v (.fz d)) _ => if immut d then some d else none
  | _ => none
theorem pk_go {Q : VK} {d : PD} (hE : RpE K tb H z δ σ c) (w : Wf H z c) (h : pkV F δ = some d)
    (k : ∀ v H1 z1, RpE K tb H1 z1 δ σ c → Wf H1 z1 c → Step H z c H1 z1 c → (∀ b, H b ≠ none → H1 b = H b) → Fz K H1 z1 d v → Q v H1) : tD K tb W F σ H Q := by
  refine ⟨frzE δ, fun a => z a ∨ 0 < c a, zero, hE.freeze (fun _ => .inl) fun _ => .inr, pk_wf w, ?_⟩
  unfold pkV at h
  split at h
  · rename_i d' δ1 e
    by_cases hi : immut d' = true
    case neg => rw [if_neg hi] at h; cases h
    rw [if_pos hi] at h
    cases h
    rw [e]
    intro v H' a
    obtain ⟨z1, c1, h1, h2, h3, h4⟩ := AftE.toP a
    obtain ⟨b1, b2, b3⟩ := pk_back (δ1 := δ1) hE w h4 h3
    exact k v H' _ b1 b2 b3 (fun b q => h4.keep b q rfl) (pk_imm w h4 h2 hi)
  · cases h
/-! ### P[i] = e -/
def sStP (P : Pl) (Fi Fv : EF) : SF := fun δ => (Fv δ).s fun m δ1 => match m, pkV Fi δ1, getP P δ1 with
  | .v l, some (.int k), some ls => (match ixN ls.length k with
    | some j => .nx (putP P (ls.set j l) δ1)
    | none => .bad)
  | _, _, _ => .bad
theorem ds_stP {P : Pl} {spos : Pos} (hv : DE tb W X e Fv) (ok : PlOk X.K tb P) (ho : PE X a (tP X.K P)) (hi : DE tb W X ix Fi) (hs : swapsWithSole [.Subscript a ix spos] e pos.line X.env = pure false := by rfl) (hw : swappedStores [.Subscript a ix spos] e X.env = pure none := by rfl)
    (h1 : (assignEach [.Subscript a ix spos] X.env).map (·.2) = [assign (.Subscript a ix spos) X.env] := by rfl)
    (ha : ∀ v, assign (.Subscript a ix spos) X.env v = (do
      let ov ← holding [v] (eval a X.env)
      let iv ← holding [v, ov] (eval ix X.env)
      standAt spos
      holding [v, ov, iv] (setItem ov iv v)
      release [v, ov, iv] []) := by intro _; rfl) : DS tb pin W X (.Assign [.Subscript a ix spos] e pos) (sStP P Fi Fv) :=
  (ps_asg hv (pg_sub ho hi set_list ha) hs hw h1).wk fun D σ H ⟨hp, δ, z, c, hE, w, h⟩ => by
    unfold sStP at h
    refine go_S hp hE w h fun m δ1 v H1 z1 c1 cm hE1 r1 w1 s1 h1 => ?_
    split at h1
    · rename_i l k ls e2 e3
      cases e4 : ixN ls.length k with
      | none => rw [e4] at h1; exact h1.elim
      | some j =>
        rw [e4] at h1
        dsimp only at h1
        have w1' : Wf H1 z1 c1 := w1.mono fun _ => Nat.le_add_right _ _
        obtain ⟨pa, vs, ca, cr, hto, hH, hA, hc, cont⟩ := own_P hE1 ok e3
        refine hto _ ?_
        refine pk_go hE1 w1' e2 fun iv H2 z2 hE2 w2 s2 x f => ?_
        obtain ⟨kp, wt, st⟩ := Step.frame w1 w2 s2
        have rl : RpL X.K H1 z1 l v cm := by cases r1 with | v r => exact r
        have rl' : RpL X.K H2 z2 l v cm := rl.mono s2.zin (s2.on w1') fun b q => kp b q
        have hA' : RpA X.K H2 z2 ls vs ca := hA.mono s2.zin (s2.on w1') fun b q => x b (mut_ne (w1'.cm b (by have := hc b; omega)))
        obtain ⟨ca2, hA2, hca2⟩ := hA'.set j rl'
        obtain ⟨hE3, w3, s3⟩ := fin_P w1' (fun b => by have := hc b; omega) cont x s2.zin wt hA2 (fun b => by have := hc b; have := hca2 b; show _ ≤ c1 b + cm b; omega)
        have hH2 : H2 pa = some (.lst vs) := (x pa (by rw [hH]; exact fun q => nomatch q)).trans hH
        exact ⟨pa, vs, k, j, rfl, f.int_, hH2, by rw [← hA.len]; exact e4, h1 σ _ ⟨hp, z2, _, hE3, w3, st.trans wt s3⟩⟩
    · exact h1.elim
/-! ### P[i] += e -/
def rGetL (K : PySem.W.Frag) : V → V → Hp → VK → Prop := fun x y H Q => ∃ p xs i v, x = .ref p ∧ y = .int i ∧ H p = some (.lst xs) ∧ atI xs i = some v ∧ Q v H
theorem get_list : PGet X (rGetL X.K) := by
  intro pins s σ H x y v u Q I rx ry h
  obtain ⟨p, xs, i, w0, rfl, rfl, hq, he, q⟩ := h
  cases rx
  obtain ⟨t, rfl⟩ := ry
  obtain ⟨its, r, pl, hz⟩ := I.list (.inl (.inl hq))
  obtain ⟨j, h1, h2, h3, h4, h5⟩ := atI_get he
  obtain ⟨w, ew, rw'⟩ := r.get h2
  have hl := r.length
  have hn := line63
  have fin : EP X pins σ Q w s := ⟨w0, H, I, rw', q⟩
  by_cases h0 : 0 ≤ i
  · have hj : i.toNat = j := by
      rw [seqIndex_of h0 h5] at h1
      exact Option.some.inj h1
    exact wpAny_getItem_list pl.isList h0 (by omega) (by rw [hj]; simpa using ew) fin
  · have hj : (i + (its.toArray.size : Int)).toNat = j := by
      rw [seqIndex_neg (by omega) h4] at h1
      rw [List.size_toArray, ← hl]
      exact Option.some.inj h1
    exact wpAny_getItem_list_neg pl.isList (by omega) (by rw [List.size_toArray] <;> omega) (by omega) (by rw [hj]; simpa using ew) fin
def auK (f : Int → Int → Int) (x y : PD) : Option PD := match x, y with
  | .int i, .int j => some (.int (f i j))
  | _, _ => none
def sAuP (P : Pl) (f : Int → Int → Int) (Fi Fv : EF) : SF := fun δ => match getP P δ, pkV Fi δ, pkV Fv δ with
  | some ls, some (.int k), some (.int y) => (match ixN ls.length k with
    | some j => (match ls[j]? with
      | some (.fz (.int x)) => .nx (putP P (ls.set j (.fz (.int (f x y)))) δ)
      | _ => .bad)
    | none => .bad)
  | _, _, _ => .bad
theorem RpA.at {vs : List V} : ∀ {ls : List L} {vs : List V} {c : Ct} {j : Nat} {l : L}, RpA K H z ls vs c → ls[j]? = some l → ∃ v cl, vs[j]? = some v ∧ RpL K H z l v cl
  | _, _, _, 0, l, .cons h r e, q => by cases q; exact ⟨_, _, rfl, h⟩
  | _, _, _, j + 1, l, .cons h r e, q => by
    obtain ⟨v, cl, h1, h2⟩ := RpA.at (vs := []) (j := j) r (by simpa using q)
    exact ⟨v, cl, by simpa using h1, h2⟩
  | _, _, _, 0, l, .nil _, q => by cases q
  | _, _, _, j + 1, l, .nil _, q => by cases q
theorem ds_augP {P : Pl} {op : Operator} {f : Int → Int → Int} {tpos : Pos} (hf : PIp X op (ipI f)) (ok : PlOk X.K tb P) (ho : PE X a (tP X.K P)) (hi : DE tb W X ix Fi) (hv : DE tb W X e Fv)
    (ha : ∀ ov iv new, augStore ix ov iv new = (do holding [new, ov, iv] (setItem ov iv new); release [new, ov, iv] []; pure .next) := by intros; rfl) : DS tb pin W X (.AugAssign (.Subscript a ix tpos) op e pos) (sAuP P f Fi Fv) :=
  (ps_augS ho hi get_list hv hf set_list ha).wk fun D σ H ⟨hp, δ, z, c, hE, w, h⟩ => by
    unfold sAuP at h
    split at h
    · rename_i ls k y e1 e2 e3
      cases e4 : ixN ls.length k with
      | none => rw [e4] at h; exact h.elim
      | some j =>
        rw [e4] at h
        dsimp only at h
        split at h
        · rename_i x0 e5
          obtain ⟨pa, vs, ca, cr, hto, hH, hA, hc, cont⟩ := own_P hE ok e1
          refine hto _ ?_
          refine pk_go hE w e2 fun iv H1 z1 hE1 w1 s1 x1 f1 => ?_
          obtain ⟨v0, cl, hv0, rv0⟩ := RpA.at (vs := vs) hA e5
          have ev0 : v0 = .int x0 := by cases rv0 with | fz f _ => exact f.int_
          subst ev0
          have hH1 : H1 pa = some (.lst vs) := (x1 pa (by rw [hH]; exact fun q => nomatch q)).trans hH
          have hat : atI vs k = some (.int x0) := by unfold atI; rw [← hA.len, e4]; exact hv0
          refine ⟨pa, vs, k, _, rfl, f1.int_, hH1, hat, ?_⟩
          refine pk_go hE1 w1 e3 fun yv H2 z2 hE2 w2 s2 x2 f2 => ?_
          refine ⟨x0, y, rfl, f2.int_, ?_⟩
          have xx : ∀ b, H b ≠ none → H2 b = H b := fun b q => (x2 b (by rw [x1 b q]; exact q)).trans (x1 b q)
          have zz : ∀ b, z b → z2 b := fun b q => s2.zin b (s1.zin b q)
          have hA2 : RpA X.K H2 z2 ls vs ca := hA.mono zz (fun b q => xx b (w.zt b q)) fun b q => xx b (mut_ne (w.cm b (by have := hc b; omega)))
          obtain ⟨ca2, hA3, hca2⟩ := hA2.set (cm := zero) j (l := .fz (.int (f x0 y))) (y := .int (f x0 y)) (.fz (.int _) fun _ => rfl)
          obtain ⟨hE3, w3, s3⟩ := fin_P w (fun b => by have := hc b; omega) cont xx zz w2 hA3 (fun b => by have := hc b; have h0 : ca2 b ≤ ca b + 0 := hca2 b; omega)
          have hH2 : H2 pa = some (.lst vs) := (xx pa (by rw [hH]; exact fun q => nomatch q)).trans hH
          exact ⟨pa, vs, k, j, rfl, f1.int_, hH2, by rw [← hA.len]; exact e4, h σ _ ⟨hp, z2, _, hE3, w3, (s1.trans w1 s2).trans w2 s3⟩⟩
        · exact h.elim
    · exact h.elim
/-! ### P[i], Q[j] = .. -/
def stV (P : Pl) (Fi : EF) (d : PD) (δ : Env') : Option Env' := match pkV Fi δ, getP P δ with
  | some (.int k), some ls => (ixN ls.length k).map fun j => putP P (ls.set j (.fz d)) δ
  | _, _ => none
theorem stV_of {P : Pl} {d : PD} {v : V} {Q : St → Hp → Prop} (hE : RpE K tb H z δ σ c) (w : Wf H z c) (f : Fz K H z d v) (ok : PlOk K tb P) (h : stV P Fi d δ = some δ')
    (k : ∀ H1 z1 c1, RpE K tb H1 z1 δ' σ c1 → Wf H1 z1 c1 → Step H z c H1 z1 c1 → Q σ H1) : L2.gSub (tP K P) (tD K tb W Fi) rSetL v σ H Q := by
  unfold stV at h
  split at h
  · rename_i i ls e2 e3
    cases e4 : ixN ls.length i with
    | none => rw [e4] at h; cases h
    | some j =>
      rw [e4] at h
      cases h
      obtain ⟨pa, vs, ca, cr, hto, hH, hA, hc, cont⟩ := own_P hE ok e3
      refine hto _ ?_
      refine pk_go hE w e2 fun iv H2 z2 hE2 w2 s2 x f2 => ?_
      have hA' : RpA K H2 z2 ls vs ca := hA.mono s2.zin (s2.on w) fun b q => x b (mut_ne (w.cm b (by have := hc b; omega)))
      obtain ⟨ca2, hA2, hca2⟩ := hA'.set (cm := zero) j (l := .fz d) (y := v) (.fz (s2.fz w f) fun _ => rfl)
      obtain ⟨hE3, w3, s3⟩ := fin_P w (fun b => by have := hc b; omega) cont x s2.zin w2 hA2 (fun b => by have := hc b; have h0 : ca2 b ≤ ca b + 0 := hca2 b; omega)
      have hH2 : H2 pa = some (.lst vs) := (x pa (by rw [hH]; exact fun q => nomatch q)).trans hH
      exact ⟨pa, vs, i, j, rfl, f2.int_, hH2, by rw [← hA.len]; exact e4, k _ z2 _ hE3 w3 (s2.trans w2 s3)⟩
  · cases h
def sSw (P : Pl) (Fi : EF) (P' : Pl) (Fj : EF) (F : EF) : SF := fun δ => (F δ).ps fun d δ1 => match d with
  | .tuple [x, y] => (match stV P Fi x δ1 with
    | some δ2 => (match stV P' Fj y δ2 with
      | some δ3 => .nx δ3
      | none => .bad)
    | none => .bad)
  | _ => .bad
theorem ds_sw {P P' : Pl} {Fj : EF} {a' ix' : Expr} {spos spos' tpos : Pos} {kk : Nat} (hc : X.calm = true) (hv : DE tb W X e F) (ok : PlOk X.K tb P) (ho : PE X a (tP X.K P)) (hi : DE tb W X ix Fi) (ok' : PlOk X.K tb P') (ho' : PE X a' (tP X.K P')) (hi' : DE tb W X ix' Fj)
    (hs : swapsWithSole [.Tuple [.Subscript a ix spos, .Subscript a' ix' spos'] kk tpos] e pos.line X.env = pure false := by rfl) (hw : swappedStores [.Tuple [.Subscript a ix spos, .Subscript a' ix' spos'] kk tpos] e X.env = pure none := by rfl)
    (h1 : (assignEach [.Tuple [.Subscript a ix spos, .Subscript a' ix' spos'] kk tpos] X.env).map (·.2) = [assign (.Tuple [.Subscript a ix spos, .Subscript a' ix' spos'] kk tpos) X.env] := by rfl)
    (hn : (assignEach [.Subscript a ix spos, .Subscript a' ix' spos'] X.env).length = 2 := by rfl) (hst : (assignEach [.Subscript a ix spos, .Subscript a' ix' spos'] X.env).findIdx? (·.1) = none := by rfl)
    (hs1 : (assignEach (.Subscript a ix spos :: [.Subscript a' ix' spos']) X.env).map (·.2) = assign (.Subscript a ix spos) X.env :: (assignEach [.Subscript a' ix' spos'] X.env).map (·.2) := by rfl)
    (hs2 : (assignEach (.Subscript a' ix' spos' :: []) X.env).map (·.2) = assign (.Subscript a' ix' spos') X.env :: (assignEach [] X.env).map (·.2) := by rfl)
    (ha : ∀ v, assign (.Subscript a ix spos) X.env v = (do
      let ov ← holding [v] (eval a X.env)
      let iv ← holding [v, ov] (eval ix X.env)
      standAt spos
      holding [v, ov, iv] (setItem ov iv v)
      release [v, ov, iv] []) := by intro _; rfl)
    (ha' : ∀ v, assign (.Subscript a' ix' spos') X.env v = (do
      let ov ← holding [v] (eval a' X.env)
      let iv ← holding [v, ov] (eval ix' X.env)
      standAt spos'
      holding [v, ov, iv] (setItem ov iv v)
      release [v, ov, iv] []) := by intro _; rfl) : DS tb pin W X (.Assign [.Tuple [.Subscript a ix spos, .Subscript a' ix' spos'] kk tpos] e pos) (sSw P Fi P' Fj F) :=
  (ps_asg hv (pg_tup hc (pgs_cons (pg_sub ho hi set_list ha) (pgs_cons (pg_sub ho' hi' set_list ha') pgs_nil hs2) hs1) hn hst) hs hw h1).wk fun D σ H ⟨hp, δ, z, c, hE, w, h⟩ => by
    unfold sSw at h
    refine ⟨δ, z, c, hE, w, ?_⟩
    unfold R.ps at h
    cases e0 : F δ with
    | bad => rw [e0] at h; exact h.elim
    | ex n δ1 => rw [e0] at h; exact fun H' a => h σ H' ⟨hp, a⟩
    | ok m δ1 =>
      rw [e0] at h
      intro v H1 aft
      cases m with
      | o _ _ _ => exact h.elim
      | v l =>
        obtain ⟨z1, c1, hE1, f1, w1, s1⟩ := AftE.toP aft
        dsimp only at h
        split at h
        · rename_i x y el
          rw [el] at f1
          obtain ⟨ta, vs, rfl, hT, f2⟩ := f1.tuple
          cases f2 with
          | cons fx f3 =>
            cases f3 with
            | cons fy f4 =>
              cases f4
              cases e5 : stV P Fi x δ1 with
              | none => rw [e5] at h; exact h.elim
              | some δ2 =>
                rw [e5] at h
                dsimp only at h
                cases e6 : stV P' Fj y δ2 with
                | none => rw [e6] at h; exact h.elim
                | some δ3 =>
                  rw [e6] at h
                  refine ⟨ta, _, rfl, sqT_of hT, rfl, _, _, rfl, ?_⟩
                  refine stV_of hE1 w1 fx ok e5 fun H2 z2 c2 hE2 w2 s2 => ?_
                  refine ⟨_, _, rfl, ?_⟩
                  refine stV_of hE2 w2 (s2.fz w1 fy) ok' e6 fun H3 z3 c3 hE3 w3 s3 => ?_
                  exact ⟨rfl, h σ H3 ⟨hp, z3, c3, hE3, w3, (s1.trans w1 s2).trans w2 s3⟩⟩
        · exact h.elim
/-! ### P.pop(), P.reverse() -/
def ePop (P : Pl) : EF := fun δ => match getP P δ with
  | some ls => (match ls[ls.length - 1]? with
    | some l => .ok (.v l) (putP P ls.dropLast δ)
    | none => .bad)
  | none => .bad
theorem RpA.pop : ∀ {ls : List L} {vs : List V} {c : Ct} {l : L}, RpA K H z ls vs c → ls[ls.length - 1]? = some l → ∃ v cl c', vs[vs.length - 1]? = some v ∧ RpL K H z l v cl ∧ RpA K H z ls.dropLast vs.dropLast c' ∧ ∀ b, c b = cl b + c' b
  | _, _, _, _, .nil _, q => by cases q
  | [l0], [v0], c, l, .cons (c1 := d1) (c2 := d2) h (.nil e0) e, q => by
    cases q
    exact ⟨v0, d1, d2, rfl, h, .nil e0, e⟩
  | l0 :: l1 :: ls, v0 :: v1 :: vs, c, l, .cons (c1 := d1) (c2 := d2) h r e, q => by
    obtain ⟨v, cl, c', h1, h2, h3, h4⟩ := RpA.pop (l := l) r (by simpa using q)
    refine ⟨v, cl, fun b => d1 b + c' b, by simpa using h1, h2, .cons h h3 fun _ => rfl, fun b => ?_⟩
    have := e b
    have := h4 b
    show c b = cl b + (d1 b + c' b)
    omega
theorem de_pop {P : Pl} (ok : PlOk X.K tb P) (ho : PE X a (tP X.K P)) (hbase : attributeBase a (Str.ofString "pop") X.env (eval a X.env) = eval a X.env := by rfl)
    (hline : (apos.endLine == pos.line) = true := by rfl) : DE tb W X (.Call (.Attribute a (Str.ofString "pop") apos) [] [] pos) (ePop P) :=
  (pe_bm0 PySem.F.plainAttrs_list PySem.F.slot_list_pop PySem.F.type_list_pop mt_pop ho hbase hline).wk fun σ H Q ⟨δ, z, c, hE, w, h⟩ => by
    unfold ePop at h
    cases e1 : getP P δ with
    | none => rw [e1] at h; exact h.elim
    | some ls =>
      rw [e1] at h
      dsimp only at h
      cases e2 : ls[ls.length - 1]? with
      | none => rw [e2] at h; exact h.elim
      | some l =>
        rw [e2] at h
        obtain ⟨pa, vs, ca, cr, hto, hH, hA, hc, cont⟩ := own_P hE ok e1
        obtain ⟨v, cl, c', h1, h2, h3, h4⟩ := hA.pop e2
        refine hto _ ⟨.inl ⟨rfl, vs, .inl (.inl hH)⟩, pa, vs, v, rfl, rfl, hH, h1, ?_⟩
        have w0 : Wf H z fun b => (one pa b + c' b + cr b) + cl b := w.mono fun b => by have := hc b; have := h4 b; omega
        obtain ⟨hE3, w3, s3⟩ := fin_P (H2 := H) (z2 := z) (ls2 := ls.dropLast) (vs2 := vs.dropLast) (ca2 := c') w (fun b => by have := hc b; omega) cont (fun _ _ => rfl) (fun _ q => q) w h3 (fun b => by have := hc b; have := h4 b; omega)
        -- the value, apart from the list
        have one0 : ∀ b, one pa b + c' b + cr b + cl b ≤ 1 := w0.c1
        have hl : RpL X.K (upd H pa (.lst vs.dropLast)) z l v cl := h2.mono (fun _ q => q) (fun b q => upd_ne fun e => by
          have hz : one pa b + c' b + cr b + cl b = 0 := w0.zc b q
          rw [e, one_self] at hz; omega) fun b q => upd_ne fun e => by have := one0 b; rw [e, one_self] at this; rw [e] at q; omega
        obtain ⟨w4, s4⟩ := Wf.upd (o := .lst vs.dropLast) w0 (p := pa) (by rw [one_self]; omega) trivial
        refine h v _ ⟨z, _, cl, hE3, .v hl, w4, ?_⟩
        exact ((Step.refl H z c).mono fun b => by have := hc b; have := h4 b; show one pa b + c' b + cr b + cl b ≤ c b; omega).trans w0 s4
    
def sRev (P : Pl) : SF := fun δ => match getP P δ with
  | some ls => .nx (putP P ls.reverse δ)
  | none => .bad
theorem RpA.app1 {l : L} {v : V} {cl : Ct} (hl : RpL K H z l v cl) : ∀ {ls : List L} {vs : List V} {c : Ct}, RpA K H z ls vs c → RpA K H z (ls ++ [l]) (vs ++ [v]) fun b => c b + cl b := fun h => h.app (.cons (c2 := zero) hl (.nil fun _ => rfl) fun b => by show cl b = cl b + 0; omega)
theorem RpA.rev : ∀ {ls : List L} {vs : List V} {c : Ct}, RpA K H z ls vs c → RpA K H z ls.reverse vs.reverse c
  | _, _, _, .nil e => .nil e
  | l :: ls, v :: vs, c, .cons (c1 := d1) (c2 := d2) h r e => by
    rw [List.reverse_cons, List.reverse_cons]
    exact (RpA.app1 h (RpA.rev r)).congrC fun b => by have := e b; show d2 b + d1 b = c b; omega
theorem ds_rev {P : Pl} (ok : PlOk X.K tb P) (ho : PE X a (tP X.K P)) (hbase : attributeBase a (Str.ofString "reverse") X.env (eval a X.env) = eval a X.env := by rfl)
    (hline : (apos.endLine == pos.line) = true := by rfl) (hsw : swapsWith (.Call (.Attribute a (Str.ofString "reverse") apos) [] [] pos) none p.line X.env = pure false := by rfl) :
    DS tb pin W X (.Expr (.Call (.Attribute a (Str.ofString "reverse") apos) [] [] pos) p) (sRev P) :=
  (ps_expr (pe_bm0 PySem.F.plainAttrs_list PySem.F.slot_list_reverse PySem.F.type_list_reverse mt_reverse ho hbase hline) hsw).wk fun D σ H ⟨hp, δ, z, c, hE, w, h⟩ => by
    unfold sRev at h
    cases e1 : getP P δ with
    | none => rw [e1] at h; exact h.elim
    | some ls =>
      rw [e1] at h
      obtain ⟨pa, vs, ca, cr, hto, hH, hA, hc, cont⟩ := own_P hE ok e1
      refine hto _ ⟨.inl ⟨rfl, vs, .inl (.inl hH)⟩, pa, vs, rfl, rfl, hH, ?_⟩
      obtain ⟨hE3, w3, s3⟩ := fin_P (H2 := H) (z2 := z) (ls2 := ls.reverse) (vs2 := vs.reverse) (ca2 := ca) w (fun b => by have := hc b; omega) cont (fun _ _ => rfl) (fun _ q => q) w hA.rev (fun b => by have := hc b; omega)
      exact h σ _ ⟨hp, z, _, hE3, w3, s3⟩
end
end FS
namespace FS
open PySem PySem.Spec L2
section
variable {K : PySem.W.Frag} {tb : Nat → Addr} {pin : List (Nat × V)} {W : WX} {H H' H1 H2 : Hp} {z z' z1 z2 : Zn} {c c' c1 c2 ce : Ct} {σ σ1 : St} {δ δ' δ1 : Env'} {X : Cx} {D : Ends}
variable {a b e o ix : Expr} {F G : EF} {pos p p2 p3 q : Pos}
/-! ### an evaluation beside things of one's own -/
theorem ev_go {Q : VK} {l : L} (hE : RpE K tb H z δ σ c) (w : Wf H z fun a => c a + ce a) (e : F δ = .ok (.v l) δ1)
    (k : ∀ v H1 z1 c1, RpE K tb H1 z1 δ1 σ c1 → (Wf H1 z1 fun a => c1 a + ce a) → (Step H z (fun a => c a + ce a) H1 z1 fun a => c1 a + ce a) → (∀ a, 0 < ce a → H1 a = H a) → Fz K H1 z1 l.pd v → Q v H1) : tD K tb W F σ H Q := by
  refine ⟨δ, z, c, hE, w.mono fun _ => Nat.le_add_right _ _, ?_⟩
  rw [e]
  intro v H' aft
  obtain ⟨z1, c1, hE1, f1, w1, s1⟩ := AftE.toP aft
  obtain ⟨kp, wt, st⟩ := Step.frame w w1 s1
  exact k v H' z1 c1 hE1 wt st kp f1
theorem wf_alloc {p : Addr} {u : HO} (w : Wf H z c) (hp : H p = none) (hm : Mut (some u)) : Wf (upd H p u) z (fun a => c a + one p a) ∧ Step H z c (upd H p u) z (fun a => c a + one p a) := by
  have np : ∀ a, H a ≠ none → a ≠ p := fun a q e => q (e ▸ hp)
  have kp : ∀ a, H a ≠ none → upd H p u a = H a := fun a q => upd_ne (np a q)
  refine ⟨⟨fun a q => by rw [kp a (w.zt a q)]; exact w.zt a q, fun a q => ?_, fun a => ?_, fun a q => ?_⟩, ⟨fun a q _ => kp a q, fun _ q => q, fun a q => ?_, fun a q => by rw [kp a q]; exact q⟩⟩
  · have h0 : c a = 0 := w.zc a q
    have h1 : one p a = 0 := one_ne (np a (w.zt a q))
    show c a + one p a = 0
    omega
  · have h0 : c a ≤ 1 := w.c1 a
    show c a + one p a ≤ 1
    by_cases ha : a = p
    · have h1 : c a = 0 := by
        rcases Nat.eq_zero_or_pos (c a) with r | r
        · exact r
        · exact absurd ha (np a (mut_ne (w.cm a r)))
      have h2 : one p a = 1 := by rw [ha]; exact one_self p
      omega
    · have h1 : one p a = 0 := one_ne ha
      omega
  · by_cases ha : a = p
    · rw [ha, upd_same]; exact hm
    · have h1 : one p a = 0 := one_ne ha
      have q : 0 < c a + one p a := q
      have q2 : 0 < c a := by omega
      rw [kp a (mut_ne (w.cm a q2))]
      exact w.cm a q2
  · by_cases ha : a = p
    · rw [ha]; exact .inr (.inr hp)
    · have h1 : one p a = 0 := one_ne ha
      rcases q with q | q
      · exact .inl q
      · have q : 0 < c a + one p a := q
        exact .inr (.inl (by omega))
/-! ### {k: e, ..}, the keys constants -/
def disV : List (PD × EF) → Env' → Option (List (PD × PD) × Env')
  | [], δ => some ([], δ)
  | (k, F) :: r, δ => match F δ with
    | .ok (.v l) δ1 => (disV r δ1).map fun q => ((k, l.pd) :: q.1, q.2)
    | _ => none
def mergeD (acc ps : List (PD × PD)) : List (PD × PD) := ps.foldl (fun a kv => putDk keyD a kv.1 kv.2) acc
def eDis (prs : List (PD × EF)) : EF := fun δ => match disV prs δ with
  | some q => if q.1.length ≤ 15 && q.1.all fun kv => isKd kv.1 then .ok (.dic (mergeD [] q.1)) q.2 else .bad
  | none => .bad
inductive DPs (tb : Nat → Addr) (W : WX) (X : Cx) (pos : Pos) : List (Option Expr) → List Expr → List (PD × EF) → Prop
  | nil : DPs tb W X pos [] [] []
  | cons {k v : Expr} {ks : List (Option Expr)} {vs : List Expr} {kd : PD} {F : EF} {r : List (PD × EF)} (hk : DE tb W X k (eC kd)) (hv : DE tb W X v F) (hr : DPs tb W X pos ks vs r) : DPs tb W X pos (some k :: ks) (v :: vs) ((kd, F) :: r)
theorem DPs.pps : ∀ {ks : List (Option Expr)} {vs : List Expr} {prs : List (PD × EF)}, DPs tb W X pos ks vs prs → PPs X pos ks vs (prs.map fun p => (tD X.K tb W (eC p.1), tD X.K tb W p.2))
  | _, _, _, .nil => pps_nil
  | _, _, _, .cons hk hv hr => pps_cons hk hv hr.pps
theorem FzD.merge : ∀ {ps : List (PD × PD)} {kw : List (Key × V)} {acc : List (PD × PD)} {ac : List (Key × V)}, FzD K H z acc ac → FzD K H z ps kw → FzD K H z (mergeD acc ps) (mergeK ac kw)
  | _, _, _, _, h, .nil => h
  | (k, d) :: ps, (k', v) :: kw, acc, ac, h, .cons e f r => FzD.merge (acc := putDk FS.keyD acc k d) (ac := putK ac k' v) (FzD.put e f h) r
theorem pairs_of : ∀ {prs : List (PD × EF)} {δ δ' : Env'} {H : Hp} {z : Zn} {c : Ct} {ps : List (PD × PD)} {Q : List (V × V) → Hp → Prop}, RpE K tb H z δ σ c → (Wf H z fun a => c a + ce a) → disV prs δ = some (ps, δ') → (∀ kv ∈ ps, isKd kv.1 = true) →
    (∀ (kw : List (Key × V)) H' z' c', RpE K tb H' z' δ' σ c' → (Wf H' z' fun a => c' a + ce a) → (Step H z (fun a => c a + ce a) H' z' fun a => c' a + ce a) → (∀ a, 0 < ce a → H' a = H a) → FzD K H' z' ps kw → Q (kw.map fun kv => (kV kv.1, kv.2)) H') →
    tPairs (prs.map fun p => (tD K tb W (eC p.1), tD K tb W p.2)) σ H Q
  | [], δ, δ', H, z, c, ps, Q, hE, w, e, _, k => by
    cases e
    exact k [] H z c hE w (Step.refl _ _ _) (fun _ _ => rfl) .nil
  | (kd, F) :: r, δ, δ', H, z, c, ps, Q, hE, w, e, hk, k => by
    unfold disV at e
    split at e
    · rename_i l δ1 e1
      cases e2 : disV r δ1 with
      | none => rw [e2] at e; cases e
      | some q =>
        rw [e2] at e
        cases e
        obtain ⟨k', hk'⟩ := Option.isSome_iff_exists.mp (show (keyD kd).isSome = true from hk (kd, l.pd) List.mem_cons_self)
        refine ev_go (F := eC kd) (l := .fz kd) hE w rfl fun x H1 z1 c1 hE1 w1 s1 x1 f1 => ?_
        refine ev_go hE1 w1 e1 fun y H2 z2 c2 hE2 w2 s2 x2 f2 => ?_
        refine pairs_of hE2 w2 e2 (fun kv h => hk kv (List.mem_cons_of_mem _ h)) fun kw H3 z3 c3 hE3 w3 s3 x3 f3 => ?_
        have ex : x = kV k' := f1.keyD hk'
        subst ex
        exact k ((k', y) :: kw) H3 z3 c3 hE3 w3 ((s1.trans w1 s2).trans w2 s3) (fun a q => ((x3 a q).trans (x2 a q)).trans (x1 a q)) (.cons hk' (s3.fz w2 f2) f3)
    · cases e
theorem de_disp {keys : List (Option Expr)} {values : List Expr} {prs : List (PD × EF)} (h : DPs tb W X pos keys values prs) (hall : keys.all (·.isSome) = true := by rfl) (hl : keys.length = values.length := by rfl) (h0 : keys ≠ [] := by simp) (h15 : keys.length ≤ 15 := by decide) :
    DE tb W X (.Dict keys values pos) (eDis prs) := (pe_disp h.pps hall hl h0 h15).wk fun σ H Q ⟨δ, z, c, hE, w, h⟩ p hp => by
  unfold eDis at h
  cases e : disV prs δ with
  | none => rw [e] at h; exact h.elim
  | some q =>
    rw [e] at h
    dsimp only at h
    by_cases hk : (q.1.length ≤ 15 && q.1.all fun kv => isKd kv.1) = true
    case neg => rw [if_neg hk] at h; exact h.elim
    rw [if_pos hk] at h
    obtain ⟨hk1, hk2⟩ := Bool.and_eq_true_iff.mp hk
    have np : ∀ a, H a ≠ none → a ≠ p := fun a q e => q (e ▸ hp)
    obtain ⟨w0, s0⟩ := wf_alloc (u := .dK []) w hp trivial
    have hE0 := hE.mono (H' := upd H p (.dK [])) (fun _ q => q) (fun a q => upd_ne (np a (w.zt a q))) fun a q => upd_ne (np a (mut_ne (w.cm a q)))
    refine pairs_of (ce := one p) hE0 w0 e (fun kv hkv => List.all_eq_true.mp hk2 kv hkv) fun kw H1 z1 c1 hE1 w1 s1 x1 f1 => ?_
    have hp1 : H1 p = some (.dK []) := (x1 p (by rw [one_self]; omega)).trans upd_same
    refine ⟨hp1, kw, rfl, by rw [← f1.len]; exact of_decide_eq_true hk1, ?_⟩
    obtain ⟨w2, s2⟩ := Wf.upd (p := p) (o := .dK (mergeK [] kw)) w1 (by rw [one_self]; omega) trivial
    have zn : ∀ b, z1 b → b ≠ p := fun b q e => by
      have h : c1 b + one p b = 0 := w1.zc b q
      rw [e, one_self] at h
      omega
    have cn : ∀ b, 0 < c1 b → b ≠ p := fun b q e => by
      have h : c1 b + one p b ≤ 1 := w1.c1 b
      rw [e, one_self] at h
      rw [e] at q
      omega
    have hE2 := hE1.mono (H' := upd H1 p (.dK (mergeK [] kw))) (fun _ q => q) (fun b q => upd_ne (zn b q)) fun b q => upd_ne (cn b q)
    have f2 := (FzD.merge (acc := []) (ac := []) .nil f1).mono (H' := upd H1 p (.dK (mergeK [] kw))) (z' := z1) (fun _ q => q) fun b q => upd_ne (zn b q)
    exact h (.ref p) _ ⟨z1, c1, one p, hE2, .v (.dik upd_same f2 fun _ => rfl), w2, (s0.trans w0 s1).trans w1 s2⟩
/-! ### list(range(n)), xs[::-1] -/
def eLrg (F : EF) : EF := fun δ => (F δ).p fun d δ1 => match d with
  | .int j => if small62 j && decide (j.toNat ≤ big) then .ok (.lst ((rangeD 0 j.toNat).map .fz)) δ1 else .bad
  | _ => .bad
theorem FzA.rg : ∀ (j : Int), FzA K H z (rangeD 0 j.toNat) (rgV 0 j) := fun j => by
  unfold rangeD rgV
  rw [Int.sub_zero]
  generalize List.range j.toNat = l
  induction l with
  | nil => exact .nil
  | cons x r ih => exact .cons (.int _) ih
theorem de_lrg (hc : X.calm = true) (hg : Gl X "list") (hm : X.mg "list" = none) (hg2 : Gl X "range") (hm2 : X.mg "range" = none) (ha : DE tb W X a F)
    (na : starEach [a] X.env = (false, eval a X.env) :: starEach [] X.env := by rfl) (nb : starEach [.Call (.Name "range" p2) [a] [] q] X.env = (false, eval (.Call (.Name "range" p2) [a] [] q) X.env) :: starEach [] X.env := by rfl) :
    DE tb W X (.Call (.Name "list" p) [.Call (.Name "range" p2) [a] [] q] [] pos) (eLrg F) :=
  (pe_listRg hc hg hm (prg_1 hg2 hm2 ha na) nb).wk fun σ H Q ⟨δ, z, c, hE, w, h⟩ => by
    refine go_P hE w h fun d δ1 v H1 z1 c1 hE1 f1 w1 s1 h1 => ?_
    cases d with
    | int j =>
      dsimp only at h1
      by_cases hk : (small62 j && decide (j.toNat ≤ big)) = true
      case neg => rw [if_neg hk] at h1; exact h1.elim
      rw [if_pos hk] at h1
      obtain ⟨hk1, hk2⟩ := Bool.and_eq_true_iff.mp hk
      unfold small62 at hk1
      obtain ⟨k3, k4⟩ := Bool.and_eq_true_iff.mp hk1
      have k3 := of_decide_eq_true k3
      have k4 := of_decide_eq_true k4
      have hk2 := of_decide_eq_true hk2
      refine ⟨j, f1.int_, ⟨by omega, by omega, k3, k4, by rw [Int.sub_zero]; exact hk2⟩, fun p hp => ?_⟩
      exact h1 _ _ ((NewM.lst w1.zt hp (FzA.rg j)).aft hE1 w1)
    | _ => exact h1.elim
def eRvL (F : EF) : EF := fun δ => (F δ).p fun d δ1 => match d with
  | .list ds => .ok (.lst (ds.reverse.map .fz)) δ1
  | _ => .bad
theorem de_revL {k : Nat} {q3 q4 : Pos} (ha : DE tb W X a F) : DE tb W X (.Subscript a (.Slice none none (some (.UnaryOp .USub (.Constant (.int 1) k q3) q4)) p3) pos) (eRvL F) :=
  (pe_revL ha).wk fun σ H Q ⟨δ, z, c, hE, w, h⟩ => by
    refine go_P hE w h fun d δ1 v H1 z1 c1 hE1 f1 w1 s1 h1 => ?_
    cases d with
    | list ds =>
      obtain ⟨a, vs, rfl, hH, f2⟩ := f1.list
      exact ⟨a, vs, rfl, sqL_of hH, fun p hp => h1 _ _ ((NewM.lst w1.zt hp f2.rev).aft hE1 w1)⟩
    | _ => exact h1.elim
end
end FS
namespace FS
open PySem PySem.Spec L2
section
variable {K : PySem.W.Frag} {tb : Nat → Addr} {H : Hp} {z : Zn} {X : Cx}
/-! ### len of a dict -/
def gLenDA : List PD → Option M
  | [.dict kvs] => some (.fz (.int (kvs.length : Nat)))
  | _ => none
theorem cr_gLenD : CallR X (.builtin "len") (rC X.K tb gLenDA) := fun pins s σ H xs us Q I r ⟨z, ds, m, hz, f, g, q⟩ => by
  unfold gLenDA at g
  split at g
  · cases g
    obtain ⟨v, rfl, f1⟩ := f.one
    cases r with
    | cons ru rr =>
      cases rr
      cases f1 with
      | @dik a kvs0 kw qa hr fd =>
        cases ru
        refine d_len I hr fun t s' I' => ?_
        rw [fd.len] at q
        exact ⟨.int (kw.length : Nat), H, I', ⟨_, rfl⟩, q _ _ (new_int hz)⟩
      | @dit a kvs0 kw qa hr fd =>
        cases ru
        obtain ⟨z0, hd, ys, rel, dd⟩ := dt_rd I.hok hr
        have hl : kw.length = ys.length := Paired.length rel
        rw [fd.len] at q
        refine call_len_dictH hd dd (by rw [← hl]; rw [sizeLine_eq] at z0; omega) ?_
        rw [← hl]
        exact ⟨.int (kw.length : Nat), H, I.tok _, ⟨_, rfl⟩, q _ _ (new_int hz)⟩
  · cases g
end
end FS
/-! ### min, max of two things that are alike -/
namespace PySem.W
open PySem PyProof.Rows
section
variable {prog : Program} {w : World} {A : Around} {E : Value → Shared → Prop} {s : Shared} {a b : Value} {x y : PyData} {as : List Addr} {Q : Value → Shared → Prop}
theorem fs_nm1 : (toString "min" ++ toString ".loop" : String) = "min.loop" := by decide +kernel
theorem fs_nm2 : (toString "max" ++ toString ".loop" : String) = "max.loop" := by decide +kernel
theorem fs_min2 (quiet : A.handled = none) (rd : ReadsAll s.heap [a, b] [x, y] as) (al : AlikeAll [x, y]) (room : A.units + 1 + PyData.depthAll [x, y] < cLine)
    (goal : ∀ (i : Nat) v h' tk bs, [a, b][i]? = some v → Reads h' v (minD x [y]) bs → (∀ c o, s.heap.get? c = some o → h'.get? c = some o) → Q v { s with heap := h', toks := tk }) :
    wpAny (model prog w) A (call (.builtin "min") [a, b]) Q E s := by
  refine call_function_tree F.kind_min F.plain_min F.entry_min (F.args_min2 _ _) (?_ : wpAny _ A.in1 (Builtin.Builtins.bindParams "min" ["key", "default"] 0 ⟨[], []⟩ >>= _) _ _ s)
  refine wpAny_bind (wpAny_of_eq (a := [none, none]) rfl (?_ : wpAny _ A.in1 (newTuple [a, b] >>= _) _ _ s))
  have up : ∀ c o, s.heap.get? c = some o → (s.heap.push { cls := .type "tuple", data := .seq #[a, b] }).get? c = some o := fun c o e => Heap.get?_push_of_some _ e
  have tup : (s.heap.push { cls := .type "tuple", data := .seq #[a, b] }).IsTuple s.heap.objs.size #[a, b] := ⟨_, Heap.get?_push_size _ rfl, rfl, 0, rfl⟩
  have rd1 : ReadsAll (s.heap.push { cls := .type "tuple", data := .seq #[a, b] }) (#[a, b] : Array Value).toList [x, y] as := ReadsAll.keeps up rd
  refine wpAny_bind (wpAny_newObj_type (wpAny_bind (wpAny_mono (iter_tupleW (s := { s with heap := s.heap.push { cls := .type "tuple", data := .seq #[a, b] } }) (A := A.in1) quiet tup fun s₂ e W st infp hw hk => ?_) (fun it s₃ h₃ => h₃) fun _ _ z => z)))
  refine wpAny_bind (wpAny_newObj_type ?_)
  rw [fs_nm1]
  refine wpAny_pure ⟨plainId_quiet F.plain_min_loop _, ?_⟩
  refine codeAny_min_loop_firstH W (s.heap.push { cls := .type "tuple", data := .seq #[a, b] }) hw _ (cmpIn_lt (s := { s with heap := s.heap.push { cls := .type "tuple", data := .seq #[a, b] } }) (A := A.in1) rd1 al (show A.units + 1 + _ < _ from room)) s₂.heap.objs.size (fun q => Nat.lt_irrefl _ (infp _ q)) (fresh_in hk) _ (by show 0 < 2; decide)
    (fun c o q => Heap.get?_push_of_some _ (hk c o q)) (W.frame 0 s₂ _ s₂.toks st (Nat.le_refl _) fun c _ o q => Heap.get?_push_of_some _ q) (Heap.get?_push_size _ rfl) fun v s' hP hm => ?_
  obtain ⟨h', tk, rfl, kk⟩ := moved_old e rfl (Moved.drop_new (tk := s₂.toks) hm (Nat.le_refl _))
  obtain ⟨bs, r, _, _, _⟩ := readsAll_atA rd1 _ v hP
  have fold := (argBest_fold dataLt PyData.none x [y] 1 (Nat.le_refl _)).2
  refine goal _ v h' tk bs (by simpa using hP) (reads_keeps kk ?_) fun c o q => kk c o (up c o q)
  unfold minD
  rw [show ([y] : List PyData) = [y].take 1 from rfl, ← fold]
  exact r
theorem fs_max2 (quiet : A.handled = none) (rd : ReadsAll s.heap [a, b] [x, y] as) (al : AlikeAll [x, y]) (room : A.units + 1 + PyData.depthAll [x, y] < cLine)
    (goal : ∀ (i : Nat) v h' tk bs, [a, b][i]? = some v → Reads h' v (maxD x [y]) bs → (∀ c o, s.heap.get? c = some o → h'.get? c = some o) → Q v { s with heap := h', toks := tk }) :
    wpAny (model prog w) A (call (.builtin "max") [a, b]) Q E s := by
  refine call_function_tree F.kind_max F.plain_max F.entry_max (F.args_max2 _ _) (?_ : wpAny _ A.in1 (Builtin.Builtins.bindParams "max" ["key", "default"] 0 ⟨[], []⟩ >>= _) _ _ s)
  refine wpAny_bind (wpAny_of_eq (a := [none, none]) rfl (?_ : wpAny _ A.in1 (newTuple [a, b] >>= _) _ _ s))
  have up : ∀ c o, s.heap.get? c = some o → (s.heap.push { cls := .type "tuple", data := .seq #[a, b] }).get? c = some o := fun c o e => Heap.get?_push_of_some _ e
  have tup : (s.heap.push { cls := .type "tuple", data := .seq #[a, b] }).IsTuple s.heap.objs.size #[a, b] := ⟨_, Heap.get?_push_size _ rfl, rfl, 0, rfl⟩
  have rd1 : ReadsAll (s.heap.push { cls := .type "tuple", data := .seq #[a, b] }) (#[a, b] : Array Value).toList [x, y] as := ReadsAll.keeps up rd
  refine wpAny_bind (wpAny_newObj_type (wpAny_bind (wpAny_mono (iter_tupleW (s := { s with heap := s.heap.push { cls := .type "tuple", data := .seq #[a, b] } }) (A := A.in1) quiet tup fun s₂ e W st infp hw hk => ?_) (fun it s₃ h₃ => h₃) fun _ _ z => z)))
  refine wpAny_bind (wpAny_newObj_type ?_)
  rw [fs_nm2]
  refine wpAny_pure ⟨plainId_quiet F.plain_max_loop _, ?_⟩
  refine codeAny_max_loop_firstH W (s.heap.push { cls := .type "tuple", data := .seq #[a, b] }) hw _ (cmpIn_gt (s := { s with heap := s.heap.push { cls := .type "tuple", data := .seq #[a, b] } }) (A := A.in1) rd1 al (show A.units + 1 + _ < _ from room)) s₂.heap.objs.size (fun q => Nat.lt_irrefl _ (infp _ q)) (fresh_in hk) _ (by show 0 < 2; decide)
    (fun c o q => Heap.get?_push_of_some _ (hk c o q)) (W.frame 0 s₂ _ s₂.toks st (Nat.le_refl _) fun c _ o q => Heap.get?_push_of_some _ q) (Heap.get?_push_size _ rfl) fun v s' hP hm => ?_
  obtain ⟨h', tk, rfl, kk⟩ := moved_old e rfl (Moved.drop_new (tk := s₂.toks) hm (Nat.le_refl _))
  obtain ⟨bs, r, _, _, _⟩ := readsAll_atA rd1 _ v hP
  have fold := (argBest_fold (fun p q => dataLt q p) PyData.none x [y] 1 (Nat.le_refl _)).2
  refine goal _ v h' tk bs (by simpa using hP) (reads_keeps kk ?_) fun c o q => kk c o (up c o q)
  unfold maxD
  rw [show ([y] : List PyData) = [y].take 1 from rfl, ← fold]
  exact r
end
end PySem.W
namespace FS
open PySem PySem.Spec L2
section
variable {K : PySem.W.Frag} {tb : Nat → Addr} {H : Hp} {z : Zn} {X : Cx}
def gMin2 : List PD → Option M
  | [x, y] => if alikeB [x, y] && okNs 12 [x, y] then some (.fz (PySem.W.minD x [y])) else none
  | _ => none
def gMax2 : List PD → Option M
  | [x, y] => if alikeB [x, y] && okNs 12 [x, y] then some (.fz (PySem.W.maxD x [y])) else none
  | _ => none
theorem cr_gMin2 (hc : X.calm = true) (hu : X.A.units + 64 < cLine) : CallR X (.builtin "min") (rC X.K tb gMin2) := fun pins s σ H xs us Q I r ⟨z, ds, m, hz, f, g, q⟩ => by
  unfold gMin2 at g
  split at g
  · split at g <;> cases g
    rename_i x y hok
    have hok' := Bool.and_eq_true_iff.mp hok
    have hp := okNs_plain hok'.2
    obtain ⟨as, rs⟩ := rdsAll I f r hp.1
    obtain ⟨v1, v2, rfl, _, _⟩ := f.two
    obtain ⟨u1, u2, rfl, r1, r2⟩ := vals2 r
    refine PySem.W.fs_min2 (I.ok.hd hc) rs (alikeB_of hok'.1) (by have := hp.2; omega) fun i v h' tk bs hv hr hk => ?_
    obtain ⟨w, rw', fw⟩ := fz_reads_at I f (.cons r1 (.cons r2 .nil)) hk hv hr hp.1
    exact ⟨w, H, I.kept hk, rw', q _ _ (NewM.at hz fw)⟩
  · cases g
theorem cr_gMax2 (hc : X.calm = true) (hu : X.A.units + 64 < cLine) : CallR X (.builtin "max") (rC X.K tb gMax2) := fun pins s σ H xs us Q I r ⟨z, ds, m, hz, f, g, q⟩ => by
  unfold gMax2 at g
  split at g
  · split at g <;> cases g
    rename_i x y hok
    have hok' := Bool.and_eq_true_iff.mp hok
    have hp := okNs_plain hok'.2
    obtain ⟨as, rs⟩ := rdsAll I f r hp.1
    obtain ⟨v1, v2, rfl, _, _⟩ := f.two
    obtain ⟨u1, u2, rfl, r1, r2⟩ := vals2 r
    refine PySem.W.fs_max2 (I.ok.hd hc) rs (alikeB_of hok'.1) (by have := hp.2; omega) fun i v h' tk bs hv hr hk => ?_
    obtain ⟨w, rw', fw⟩ := fz_reads_at I f (.cons r1 (.cons r2 .nil)) hk hv hr hp.1
    exact ⟨w, H, I.kept hk, rw', q _ _ (NewM.at hz fw)⟩
  · cases g
end
theorem CalM.mono {P : Program} {w : World} {K : PySem.W.Frag} {mg : Str → Option Value} {base : Heap} {tb : Nat → Addr} {j k t : Nat} {x : Str} {ps : List Str} {sem : Sem} (C : CalM P w K mg base tb j t x ps sem) (h : j ≤ k) : CalM P w K mg base tb k t x ps sem := by
  obtain ⟨f, fd, F, r⟩ := C.ex
  exact ⟨f, fd, F.mono h, r⟩
end FS
/-! several clauses `except x as n`, in whose suites isinstance looks at the exception -/
namespace FS
open PySem PySem.Spec PyProof.Rows L2
/-- the ends of a suite at whose end slot i goes -/
def endsN (i : Nat) (D : Ends) : Ends := { nx := fun y G => D.nx (y.set i none) G, rt := D.rt, bk := fun y G => D.bk (y.set i none) G, ct := fun y G => D.ct (y.set i none) G }
abbrev ClN : Type := Value × Nat × (Addr → Value → Option Addr → TS)
/-- what named clauses wish of an exception, one after the other -/
def wNames (K : PySem.W.Frag) (Wo : WX) (D : Ends) : List ClN → WX
  | [] => Wo
  | q :: r => fun t d y G => ∃ k, PySem.W.exmOne K t q.1 = some k ∧ (k = true → ∀ x, G x = none → q.2.2 x t d (endsN q.2.1 D) (y.set q.2.1 (some (.ref x))) G) ∧ (k = false → wNames K Wo D r t d y G)
inductive NmOk (X : Cx) : List ExceptHandler → List ClN → Prop
  | nil : NmOk X [] []
  | cons {y m : Str} {v : Value} {i : Nat} {ts : Addr → Value → Option Addr → TS} {b0 : Stmt} {bs : List Stmt} {p1 p2 : Pos} {hr : List ExceptHandler} {l : List ClN} (nm : Names X y v) (ni : X.N[i]? = some m) (nl : X.env.kindOf m = some .local)
      (ok : ∀ (x : Addr) (ox : Obj) (t : Value) (d : Option Addr) (pn : List (Addr × Obj)), Zc t d ox → (∃ vs, ox.data = .fields vs) → PSs (X.suite x ((x, ox) :: pn)) (b0 :: bs) (ts x t d)) (r : NmOk X hr l) :
      NmOk X (.ExceptHandler (some (.Name y p1)) (some m) (b0 :: bs) p2 :: hr) ((v, i, ts) :: l)
section
variable {X : Cx} {body : List Stmt} {h0 : ExceptHandler} {hr : List ExceptHandler} {l : List ClN} {pos : Pos} {tb : WX → TS} {Wo : WX}
theorem ps_try_names (st : X.stack = X.env :: X.outer) (fr : X.env.frame = some X.env.locals) (nd : X.N.Nodup) (tk : Takes X Wo)
    (hb : ∀ (W : WX) (pn : List (Addr × Obj)) (xe : Value → Shared → Prop), Takes (X.tr pn xe) W → PassesOwn (model X.prog X.w) X.A X.env xe → PSs (X.tr pn xe) body (tb W))
    (hh : NmOk X (h0 :: hr) l) : PS X (.Try body (h0 :: hr) [] [] pos) (fun D σ H => tb (wNames X.K Wo D l) D σ H) := by
  refine ⟨fun ps s σ H D I pre => ?_⟩
  have okX := I.ok
  have hframes : X.A.frames = some (X.env :: X.outer) := by rw [okX.frames, st]
  refine wpAny_Try_except ?_
  let land : Value → Shared → Prop := fun e z1 => wpAny (model X.prog X.w) X.A (noteFrame e X.env) (fun _ z2 => wpAny (model X.prog X.w) X.A (setFlight e none) (fun _ z3 =>
    wpAny (model X.prog X.w) X.A (handleBy e X.env (h0 :: hr)) (SP X ps D) X.xe z3) X.xe z2) X.xe z1
  refine wpAny_mono ((hb (wNames X.K Wo D l) (X.pn ++ ps) land (fun u z xx => ?_) PassesOwn.looking).run [] s σ H D (I.toTry _) pre) (fun f z hz => ?_) (fun e z he => he)
  · obtain ⟨x, B, s0, ps0, y, G, t, d, rfl, J0, nb, up, sky, na, os, ag, want⟩ := xx
    have J : Inv X ps y G s0 := J0.ofTry okX
    have sky2 : Sky B (X.env :: X.outer) x (Zc t d) X.env.locals z.heap := by rw [← st]; exact sky
    show wpAny (model X.prog X.w) X.A (noteFrame (.ref x) X.env) _ _ _
    refine Sky.land Zc.steady hframes fr sky2 fun g1 f1 u1 => ?_
    have J1 : Inv X ps y G { z with heap := g1 } := J.landed nb f1.1 (up.trans u1) os ag
    obtain ⟨o1, vs1, at1, zc1, fd1⟩ := f1.there
    have out : x ∉ frs (X.env :: X.outer) := fun hm => by
      obtain ⟨_, o2, at2, no⟩ := f1.2.2.1.mem hm
      rw [at1] at at2
      cases at2
      exact no _ fd1
    have nL : x ≠ X.env.locals := fun q => out (List.mem_filterMap.mpr ⟨X.env, List.mem_cons_self, by rw [fr, q]⟩)
    have nF : x ∉ X.fs := fun hm => by
      obtain ⟨e, he, q⟩ := List.mem_filterMap.mp hm
      exact out (List.mem_filterMap.mpr ⟨e, List.mem_cons_of_mem _ he, q⟩)
    have S1 := J1.suite at1 fd1 na nL nF
    have go : ∀ {hs : List ExceptHandler} {ls : List ClN}, NmOk X hs ls → wNames X.K Wo D ls t d y G → wpAny (model X.prog X.w) X.A (handleBy (.ref x) X.env hs) (SP X ps D) X.xe { z with heap := g1 } := by
      intro hs ls nk
      induction nk with
      | nil =>
        intro want
        refine wpAny_handleBy_nil ?_
        obtain ⟨_, _, _, o2, vs2, T, oT, ts2, at2, zc2, fd2, v1, hT⟩ := id f1
        unfold PySem.passOn
        refine wpAny_bind (wpAny_field at2 fd2 v1 ?_)
        rw [if_neg (show ¬ ((Value.ref T == Value.none) = true) by simp)]
        have fin : wpAny (model X.prog X.w) X.A (setFlight (.ref x) X.env.frame) (fun _ z4 => wpAny (model X.prog X.w) X.A (throw (.ref x) : PySem.Sem Flow) (SP X ps D) X.xe z4) X.xe { z with heap := g1 } := by
          rw [fr]
          exact HandSPX.setFlight_upZ f1 fun g2 f2 u2 => wpAny_throw (tk _ _ ⟨x, B, s0, ps, y, G, t, d, rfl, J, nb, (up.trans u1).trans u2, .inr (.inr (by rw [st]; exact f2)), na, os, ag, want⟩)
        first
          | exact wpAny_bind (wpAny_pure (wpAny_bind fin))
          | exact wpAny_bind fin
      | @cons yn m v i ts b0 bs p1 p2 hs2 l2 nm ni nl ok r ih =>
        intro want
        obtain ⟨k, hk, yes, no⟩ := want
        refine wpAny_handleBy_cons (codeAny_handlers_test ?_) (by intro q; cases q)
        have tyL : PySem.W.Looks (model X.prog X.w) g1 (typeOf (.ref x)) t := fun A Q E z5 q5 w5 => wpAny_typeOf_ref (q5 _ _ at1) (by rw [zc1.1]; exact w5)
        have exL := PySem.W.exm_one (M := model X.prog X.w) J1.kIn tyL hk
        have named : ∀ {Q E : Value → Shared → Prop}, Q v { z with heap := g1 } → wpAny (model X.prog X.w) (X.A.mark (some (.ref x))) (eval (.Name yn p1) X.env) Q E { z with heap := g1 } := fun {Q E} q => by
          obtain ⟨hg, hdb, hm | ⟨hm, hv, hn⟩⟩ := nm
          · exact ld_glob (X := X.suite x ((x, o1) :: (X.pn ++ ps))) S1 hg hm q hdb
          · exact ld_blt (X := X.suite x ((x, o1) :: (X.pn ++ ps))) S1 hg hm hv q hn hdb
        refine named (exL.here ?_)
        cases k with
        | false =>
          show wpAny _ X.A (handleBy (.ref x) X.env hs2) _ _ _
          exact ih (no rfl)
        | true =>
          refine codeAny_handlers_suite_as (HandSPX.lands_againZ f1 fun g2 f2 u2 => ?_)
          have J2 : Inv X ps y G { z with heap := g2 } := J.landed nb f2.1 ((up.trans u1).trans u2) os ag
          obtain ⟨o2, vs2, at2, zc2, fd2⟩ := f2.there
          refine store_ok (X := X.suite x ((x, o2) :: (X.pn ++ ps))) (v := .ref x) (J2.suite at2 fd2 na nL nF) nd ni (.inl nl) rfl (fun z5 S5 => ?_) (.inr nl)
          have back : ∀ {y6 : L2.St} {G6 : Hp} {z6 : Shared} {Q : Shared → Prop}, Inv (X.suite x ((x, o2) :: (X.pn ++ ps))) [] y6 G6 z6 → (∀ z7, Inv X ps (y6.set i none) G6 z7 → Q z7) →
              wpAny (model X.prog X.w) X.A (do bindName X.env m .none; unbindBehindTheSuite X.env m p2) (fun _ z7 => Q z7) X.xe z6 := fun {y6 G6 z6 Q} S6 hq => gone_ok (S6.unsuite okX) nd ni nl hq
          refine wpAny_mono ((ok x o2 t d (X.pn ++ ps) zc2 ⟨_, fd2⟩).run [] z5 _ G _ S5 (yes rfl x na)) (fun f z6 h6 => ?_) (fun _ _ q => False.elim q)
          cases f with
          | next => obtain ⟨y6, G6, S6, q6⟩ := h6; exact back S6 fun z7 J7 => ⟨_, _, J7, q6⟩
          | brk => obtain ⟨y6, G6, S6, q6⟩ := h6; exact back S6 fun z7 J7 => ⟨_, _, J7, q6⟩
          | cont => obtain ⟨y6, G6, S6, q6⟩ := h6; exact back S6 fun z7 J7 => ⟨_, _, J7, q6⟩
          | ret u => obtain ⟨v6, y6, G6, S6, r6, q6⟩ := h6; exact back S6 fun z7 J7 => ⟨_, _, _, J7, r6, q6⟩
    exact go hh want
  · cases f with
    | next => obtain ⟨y, G, J, q⟩ := hz; exact wpAny_execs_nil ⟨y, G, J.ofTry okX, q⟩
    | brk => obtain ⟨y, G, J, q⟩ := hz; exact ⟨y, G, J.ofTry okX, q⟩
    | cont => obtain ⟨y, G, J, q⟩ := hz; exact ⟨y, G, J.ofTry okX, q⟩
    | ret u => obtain ⟨v, y, G, J, r, q⟩ := hz; exact ⟨v, y, G, J.ofTry okX, r, q⟩
end
/-! ### .. over data -/
/-- what isinstance asks of the class of an exception: all are ValueErrors and below the class 0 -/
structure EX (K : PySem.W.Frag) (tb : Nat → Addr) (D : Addr) : Prop where
  c : L2.ExcC K D
  v : PySem.W.kitOne K (.ref D) (.type "ValueError") = some true
  s : PySem.W.kitOne K (.ref D) (.ref (tb 0)) = some true
def pickA : List (Nat × Nat × SF) → Nat → SF
  | [], n, δ => .ex n δ
  | (c, i, S) :: r, n, δ => if subX n c then (match δ[i]? with
    | some none => (match S δ with
      | .rt m δ1 => .rt m δ1
      | _ => .bad)
    | _ => .bad) else pickA r n δ
def sTrA (B : SF) (hs : List (Nat × Nat × SF)) : SF := fun δ => match B δ with
  | .ex n δ1 => pickA hs n δ1
  | r => r
/-- what the suite of a clause must do: its slot holds the exception -/
def Sui (tb : Nat → Addr) (pin : List (Nat × V)) (X : Cx) (bs : List Stmt) (c i : Nat) (S : SF) : Prop :=
  ∀ (x : Addr) (ox : Obj) (n : Nat) (pn : List (Addr × Obj)), subX n c = true → Zc (.ref (tb n)) none ox → (∃ vs, ox.data = .fields vs) → PSs (X.suite x ((x, ox) :: pn)) bs (tS X.K tb ((i, .ref x) :: pin) Wno S)
theorem Sui.of {tb : Nat → Addr} {pin : List (Nat × V)} {X : Cx} {bs : List Stmt} {c i : Nat} {S : SF} (hc : c ≠ 0)
    (h : ∀ (x : Addr) (ox : Obj) (pn : List (Addr × Obj)), Zc (.ref (tb c)) none ox → (∃ vs, ox.data = .fields vs) → DB tb ((i, .ref x) :: pin) Wno (X.suite x ((x, ox) :: pn)) bs S) : Sui tb pin X bs c i S := fun x ox n pn hs hz hf => by
  unfold subX at hs
  rw [decide_eq_false hc, Bool.or_false] at hs
  have e := of_decide_eq_true hs
  subst e
  exact h x ox pn hz hf
inductive HdA (tb : Nat → Addr) (pin : List (Nat × V)) (X : Cx) : List ExceptHandler → List (Nat × Nat × SF) → Prop
  | nil : HdA tb pin X [] []
  | cons {y m : Str} {c i : Nat} {S : SF} {b0 : Stmt} {bs : List Stmt} {p1 p2 : Pos} {hr : List ExceptHandler} {l : List (Nat × Nat × SF)} (nm : Names X y (.ref (tb c))) (ni : X.N[i]? = some m) (nl : X.env.kindOf m = some .local) (np : (pin.all fun p => decide (p.1 ≠ i)) = true)
      (ok : Sui tb pin X (b0 :: bs) c i S) (r : HdA tb pin X hr l) : HdA tb pin X (.ExceptHandler (some (.Name y p1)) (some m) (b0 :: bs) p2 :: hr) ((c, i, S) :: l)
section
variable {K : PySem.W.Frag} {tb : Nat → Addr} {pin : List (Nat × V)} {W : WX} {H : Hp} {z : Zn} {c : Ct} {σ : L2.St} {δ : Env'} {X : Cx} {D : Ends}
def clN (K : PySem.W.Frag) (tb : Nat → Addr) (pin : List (Nat × V)) (q : Nat × Nat × SF) : ClN :=
  (.ref (tb q.1), q.2.1, fun x t d D σ H => ∃ n, t = .ref (tb n) ∧ d = none ∧ subX n q.1 = true ∧ tS K tb ((q.2.1, .ref x) :: pin) Wno q.2.2 D σ H)
theorem HdA.ok : ∀ {hds : List ExceptHandler} {l : List (Nat × Nat × SF)}, HdA tb pin X hds l → NmOk X hds (l.map (clN X.K tb pin))
  | _, _, .nil => .nil
  | _, _, .cons nm ni nl _ ok r => .cons nm ni nl (fun x ox t d pn hz hf => ⟨fun pins s σ H D I ⟨n, ht, hd, hs, h⟩ => by
      subst ht hd
      exact (ok x ox n pn hs hz hf).run pins s σ H D I h⟩) (HdA.ok r)
theorem HdA.pins : ∀ {hds : List ExceptHandler} {l : List (Nat × Nat × SF)}, HdA tb pin X hds l → ∀ q ∈ l, (pin.all fun p => decide (p.1 ≠ q.2.1)) = true
  | _, _, .nil, _, h => nomatch h
  | _, _, .cons _ _ _ np _ r, q, h => by
    rcases List.mem_cons.mp h with rfl | h
    · exact np
    · exact r.pins q h
theorem RpE.free {K : PySem.W.Frag} {tb : Nat → Addr} {H : Hp} {z : Zn} {x : Option V} : ∀ {δ : Env'} {σ : L2.St} {c : Ct} {i : Nat}, RpE K tb H z δ σ c → δ[i]? = some none → RpE K tb H z δ (σ.set i x) c ∧ i < σ.length
  | _, _, _, i, .nil h, e => by simp at e
  | _, _, _, 0, .no h, e => ⟨.no h, Nat.succ_pos _⟩
  | _, _, _, 0, .yes _ _ _, e => by simp at e
  | _, _, _, i + 1, .no h, e => ⟨.no (h.free (i := i) e).1, Nat.succ_lt_succ (h.free (x := x) (i := i) e).2⟩
  | _, _, _, i + 1, .yes r h q, e => ⟨.yes r (h.free (i := i) e).1 q, Nat.succ_lt_succ (h.free (x := x) (i := i) e).2⟩
theorem pickA_of : ∀ {l : List (Nat × Nat × SF)} {n : Nat}, (∀ q ∈ l, PySem.W.exmOne K (.ref (tb n)) (.ref (tb q.1)) = some (subX n q.1)) → (∀ q ∈ l, (pin.all fun p => decide (p.1 ≠ q.2.1)) = true) → pinOk pin σ → RpE K tb H z δ σ c → Wf H z c →
    OutS K tb pin W H z c (pickA l n δ) D → wNames K W D (l.map (clN K tb pin)) (.ref (tb n)) none σ H
  | [], n, _, _, hp, hE, w, h => h σ H ⟨hp, z, c, hE, w, Step.refl _ _ _⟩
  | (c0, i, S) :: l, n, hs, np, hp, hE, w, h => by
    unfold pickA at h
    refine ⟨subX n c0, hs (c0, i, S) List.mem_cons_self, fun hb x _ => ?_, fun hb => ?_⟩
    · rw [if_pos hb] at h
      cases e : δ[i]? with
      | none => rw [e] at h; exact h.elim
      | some o =>
        cases o with
        | some _ => rw [e] at h; exact h.elim
        | none =>
          rw [e] at h
          obtain ⟨hE2, hl⟩ := hE.free (x := some (.ref x)) e
          refine ⟨n, rfl, rfl, hb, fun p hm => ?_, δ, z, c, hE2, w, ?_⟩
          · rcases List.mem_cons.mp hm with rfl | hm
            · exact List.getElem?_set_self hl
            · exact pin_set hp (np (c0, i, S) List.mem_cons_self) p hm
          · show OutS K tb ((i, .ref x) :: pin) Wno H z c (S δ) (endsN i D)
            cases e2 : S δ with
            | rt m δ1 =>
              rw [e2] at h
              exact fun v σ' H' ⟨a1, a2⟩ => h v σ' H' ⟨fun p hm => a1 p (List.mem_cons_of_mem _ hm), a2⟩
            | nx δ1 => rw [e2] at h; exact h.elim
            | bk δ1 => rw [e2] at h; exact h.elim
            | ct δ1 => rw [e2] at h; exact h.elim
            | ex k δ1 => rw [e2] at h; exact h.elim
            | bad => rw [e2] at h; exact h.elim
    · rw [if_neg (by rw [hb]; exact Bool.false_ne_true)] at h
      exact pickA_of (fun q hq => hs q (List.mem_cons_of_mem _ hq)) (fun q hq => np q (List.mem_cons_of_mem _ hq)) hp hE w h
theorem ds_tryA {h₀ : ExceptHandler} {hds : List ExceptHandler} {l : List (Nat × Nat × SF)} {body : List Stmt} {S : SF} {pos : Pos} (hs : ∀ n, ∀ q ∈ l, PySem.W.exmOne X.K (.ref (tb n)) (.ref (tb q.1)) = some (subX n q.1)) (hst : X.stack = X.env :: X.outer) (hf : X.env.frame = some X.env.locals) (nd : X.N.Nodup) (tk : Takes X W)
    (hb : ∀ (W : WX) (pn : List (Addr × Obj)) (xe : Value → Shared → Prop), Takes (X.tr pn xe) W → PassesOwn (model X.prog X.w) X.A X.env xe → DB tb pin W (X.tr pn xe) body S) (hh : HdA tb pin X (h₀ :: hds) l) :
    DS tb pin W X (.Try body (h₀ :: hds) [] [] pos) (sTrA S l) :=
  (ps_try_names (tb := fun W => tS X.K tb pin W S) hst hf nd tk hb hh.ok).wk fun D σ H ⟨hp, δ, z, c, hE, w, h⟩ => by
    refine ⟨hp, δ, z, c, hE, w, ?_⟩
    unfold sTrA at h
    cases e : S δ with
    | nx δ1 => rw [e] at h; exact h
    | rt m δ1 => rw [e] at h; exact h
    | bk δ1 => rw [e] at h; exact h
    | ct δ1 => rw [e] at h; exact h
    | bad => rw [e] at h; exact h
    | ex n δ1 =>
      rw [e] at h
      intro σ' H' ⟨hp', z', c', hE', w', s'⟩
      exact pickA_of (hs n) hh.pins hp' hE' w' (OutS.step s' w' h)
end
/-- a test that the exception in slot i passes -/
def tEx (i : Nat) (x : Addr) : TT := fun σ H Q => σ[i]? = some (some (.ref x)) ∧ Q true H
section
variable {X : Cx} {x : Addr} {ox : Obj} {pn : List (Addr × Obj)} {tb : Nat → Addr} {n i : Nat} {y z : Str} {p p1 p2 pos : Pos} {pin : List (Nat × V)} {W : WX}
theorem pt_isX {cv : Value} {cV : V} (hu : ∀ u, RelV cV u → u = cv) (hk : PySem.W.kitOne X.K (.ref (tb n)) cv = some true) (E : EX X.K tb (tb n)) (hz : Zc (.ref (tb n)) none ox) (hf : ∃ vs, ox.data = .fields vs) (hg : Gl X "isinstance") (hm : X.mg "isinstance" = none)
    (hy : PE (X.suite x ((x, ox) :: pn)) (.Name y p1) (tVar i)) (hc : PE (X.suite x ((x, ox) :: pn)) (.Name z p2) (tC cV))
    (hv : bootBuiltins "isinstance" = some (.builtin "isinstance") := by rfl) (hn : ("isinstance" : Str) ≠ "__name__" := by decide) (hdb : (("isinstance" : Str) == ("__debug__" : Str)) = false := by decide)
    (he1 : starEach (.Name y p1 :: [.Name z p2]) X.env = (false, eval (.Name y p1) X.env) :: starEach [.Name z p2] X.env := by rfl) (he2 : starEach [.Name z p2] X.env = (false, eval (.Name z p2) X.env) :: starEach [] X.env := by rfl) (hpl : (backTo pos (starEach [.Name z p2] X.env)).any (·.1) = false := by rfl) :
    PT (X.suite x ((x, ox) :: pn)) (.Call (.Name "isinstance" p) [.Name y p1, .Name z p2] [] pos) (tEx i x) :=
  (pt_truth (pe_callB (X := X.suite x ((x, ox) :: pn)) (call_isE E.c hz hf) hg hm hv (pa_cons hy (pa_cons hc pa_nil he2) he1) hn hdb he1 hpl) (fun _ => rfl)).wk fun σ H Q ⟨h1, h2⟩ =>
    ⟨.ref x, h1, cV, cv, true, rfl, hu, hk, true, rfl, h2⟩
theorem pt_isV (E : EX X.K tb (tb n)) (hz : Zc (.ref (tb n)) none ox) (hf : ∃ vs, ox.data = .fields vs) (hg : Gl X "isinstance") (hm : X.mg "isinstance" = none) (hgV : Gl X "ValueError") (hmV : X.mg "ValueError" = none) (hy : PE (X.suite x ((x, ox) :: pn)) (.Name y p1) (tVar i))
    (he1 : starEach (.Name y p1 :: [.Name "ValueError" p2]) X.env = (false, eval (.Name y p1) X.env) :: starEach [.Name "ValueError" p2] X.env := by rfl) (he2 : starEach [.Name "ValueError" p2] X.env = (false, eval (.Name "ValueError" p2) X.env) :: starEach [] X.env := by rfl) (hpl : (backTo pos (starEach [.Name "ValueError" p2] X.env)).any (·.1) = false := by rfl) :
    PT (X.suite x ((x, ox) :: pn)) (.Call (.Name "isinstance" p) [.Name y p1, .Name "ValueError" p2] [] pos) (tEx i x) :=
  pt_isX (cv := .type "ValueError") (cV := .ty "ValueError") (fun u h => h) E.v E hz hf hg hm hy (pe_bltn (X := X.suite x ((x, ox) :: pn)) hgV hmV (by rfl) (v := .ty "ValueError") rfl (by decide) (by decide)) rfl (by decide) (by decide) he1 he2 hpl
theorem pt_isS (E : EX X.K tb (tb n)) (hz : Zc (.ref (tb n)) none ox) (hf : ∃ vs, ox.data = .fields vs) (hg : Gl X "isinstance") (hm : X.mg "isinstance" = none) (hgS : Gl X z) (hmS : X.mg z = some (.ref (tb 0))) (hy : PE (X.suite x ((x, ox) :: pn)) (.Name y p1) (tVar i)) (hdz : (z == ("__debug__" : Str)) = false := by decide)
    (he1 : starEach (.Name y p1 :: [.Name z p2]) X.env = (false, eval (.Name y p1) X.env) :: starEach [.Name z p2] X.env := by rfl) (he2 : starEach [.Name z p2] X.env = (false, eval (.Name z p2) X.env) :: starEach [] X.env := by rfl) (hpl : (backTo pos (starEach [.Name z p2] X.env)).any (·.1) = false := by rfl) :
    PT (X.suite x ((x, ox) :: pn)) (.Call (.Name "isinstance" p) [.Name y p1, .Name z p2] [] pos) (tEx i x) :=
  pt_isX (cv := .ref (tb 0)) (cV := .ref (tb 0)) (fun u h => h) E.s E hz hf hg hm hy (pe_glob (X := X.suite x ((x, ox) :: pn)) hgS hmS rfl hdz) rfl (by decide) (by decide) he1 he2 hpl
theorem pw_isAnd {a b : Expr} {rest : List Expr} (ha : PT X a (tEx i x)) (hb : PW X (.BoolOp .And (b :: rest) pos) (tEx i x)) : PW X (.BoolOp .And (a :: b :: rest) pos) (tEx i x) :=
  (pw_and ha hb).wk fun σ H Q ⟨h1, h2⟩ => ⟨h1, by show (if true = true then tEx i x σ H Q else Q false H); rw [if_pos rfl]; exact ⟨h1, h2⟩⟩
theorem pt_isW {e : Expr} (h : PW X e (tEx i x)) : PT X e (tEx i x) := h.pt
/-- return a if (the exception passes) else b -/
theorem ds_retX {t a b : Expr} {F G : EF} {W2 : WX} (ht : PT X t (tEx i x)) (ha : DE tb W X a F) (hb : DE tb W2 X b G) : DS tb ((i, .ref x) :: pin) W X (.Return (some (.IfExp t a b pos)) p) (sRt F) :=
  (ps_ret (pe_ifExp ht ha hb)).wk fun D σ H ⟨hp, δ, z, c, hE, w, h⟩ => ⟨hp _ List.mem_cons_self, by
    show (if true = true then tD X.K tb W F σ H D.rt else tD X.K tb W2 G σ H D.rt)
    rw [if_pos rfl]
    exact go_S hp hE w h fun m δ1 v H1 z1 c1 cm hE1 r1 w1 s1 h1 => h1 v σ H1 ⟨hp, z1, c1, cm, hE1, r1, w1, Step.refl _ _ _⟩⟩
end
/-! ### the facts -/
def exB (K : PySem.W.Frag) (S D : Addr) : Bool :=
  decide (PySem.W.findIn K (.ref D) "__getattribute__" = some (some (.builtin "BaseException.__getattribute__"))) && (decide (PySem.W.findIn K (.ref D) "__getattr__" = some none) && (decide (PySem.W.subIn K (.ref D) (.type "BaseException") = some true) &&
  (PySem.W.hasDictIn K D && (decide (PySem.W.findIn K (.ref D) "__class__" = some (some (.builtin "object.__class__"))) && (decide (PySem.W.specialIn K (.builtin "object.__class__") "__get__" = some (some (.builtin "getset_descriptor.__get__"))) &&
  (decide (PySem.W.takesIn K (.builtin "object.__class__") = some true) && (decide (PySem.W.mroIn K D (.type "object") = some true) && (decide (PySem.W.kitOne K (.ref D) (.type "ValueError") = some true) && decide (PySem.W.kitOne K (.ref D) (.ref S) = some true)))))))))
theorem exB_ok {K : PySem.W.Frag} {tb : Nat → Addr} {D : Addr} (h : exB K (tb 0) D = true) : EX K tb D := by
  unfold exB at h
  simp only [Bool.and_eq_true, decide_eq_true_eq] at h
  obtain ⟨h1, h2, h3, h4, h5, h6, h7, h8, h9, h10⟩ := h
  exact ⟨⟨h1, h2, h3, h4, h5, h6, h7, h8⟩, h9, h10⟩
end FS
/-! C(..).m(..): a method of an instance that is made on the spot -/
namespace FS
open PySem PySem.Spec PyProof.Rows L2
section
variable {K : PySem.W.Frag} {tb : Nat → Addr} {W : WX} {H : Hp} {z : Zn} {c : Ct} {σ : L2.St} {X : Cx} {e o : Expr} {es : List Expr} {F : EF} {A : AF} {pos p apos : Pos} {t n k j np : Nat} {m : Str} {ps : List Str} {sem : Sem}
def isOM (t : Nat) (m : Str) : R M → Bool
  | .ok (.o _ t' fs) _ => decide (t' = t) && ((L.frzF fs).lookup m).isNone
  | .ex _ _ => true
  | _ => false
def aVO (t : Nat) (m : Str) (F : EF) (A : AF) : AF := fun δ => if isOM t m (F δ) then aV F A δ else .bad
def eMx (t : Nat) (m : Str) (sem : Sem) (F : EF) (A : AF) : EF := eClN sem (aVO t m F A)
theorem tavO_of {Q : List V → Hp → Prop} (h : tA K tb W (aVO t m F A) σ H Q) :
    (tD K tb W F) σ H fun x H1 => ∃ a dx fs, x = .ref a ∧ H1 a = some (.ins (tb t) dx fs) ∧ fs.lookup m = none ∧ (tA K tb W A) σ H1 fun vs H2 => Q (x :: vs) H2 := by
  obtain ⟨δ, z, c, hE, w, h⟩ := h
  unfold aVO at h
  by_cases hi : isOM t m (F δ) = true
  case neg => rw [if_neg hi] at h; exact h.elim
  rw [if_pos hi] at h
  refine ⟨δ, z, c, hE, w, ?_⟩
  cases e1 : F δ with
  | bad => rw [e1] at hi; cases hi
  | ex n δ1 =>
    have h' : (aV F A) δ = .ex n δ1 := by unfold aV; rw [e1]; rfl
    rw [h'] at h
    exact h
  | ok mo δ1 =>
    rw [e1] at hi
    cases mo with
    | v l => cases hi
    | o own t' fs =>
      have hi' := Bool.and_eq_true_iff.mp hi
      have ht : t' = t := of_decide_eq_true hi'.1
      subst ht
      intro v H1 af
      obtain ⟨z1, c1, hE1, f1, w1, s1⟩ := AftE.frzM af
      have f0 := f1
      cases f1 with
      | fin q hH hF e e' =>
        refine ⟨_, _, _, rfl, hH, hF.none (Option.isNone_iff_eq_none.mp hi'.2), δ1, z1, c1, hE1, w1, ?_⟩
        cases e2 : A δ1 with
        | ok as δ2 =>
          intro vs H2 z2 c2 hE2 f2 w2 s2
          have h' : (aV F A) δ = .ok (.val (M.frz (.o own t' fs)) :: as) δ2 := by unfold aV; rw [e1]; show (A δ1).bind _ = _; rw [e2]; rfl
          rw [h'] at h
          exact h (_ :: vs) H2 z2 c2 hE2 (.val (f0.mono s2.zin (s2.on w1) fun _ q => absurd q (Nat.lt_irrefl _)) f2) w2 (s1.trans w1 s2)
        | ex n δ2 =>
          have h' : (aV F A) δ = .ex n δ2 := by unfold aV; rw [e1]; show (A δ1).bind _ = _; rw [e2]; rfl
          rw [h'] at h
          exact fun H' af' => h H' (af'.trans s1 w1)
        | bad =>
          have h' : (aV F A) δ = .bad := by unfold aV; rw [e1]; show (A δ1).bind _ = _; rw [e2]; rfl
          rw [h'] at h
          exact h
theorem argN_valO (h : ArgN A n) : ArgN (aVO t m F A) (n + 1) := fun δ as δ1 e => by
  unfold aVO at e
  by_cases hi : isOM t m (F δ) = true
  · rw [if_pos hi] at e; exact argN_val h δ as δ1 e
  · rw [if_neg hi] at e; cases e
theorem de_methE {pl : PySem.Sem Bool} (C : CalM X.prog X.w X.K X.mg X.base tb k t m ps sem) (cl : Cls X.K (tb t)) (hr : Room j X.A) (ho : DE tb W X o F) (ha : DA tb W X (e :: es) A) (hn : ArgN A n) (hkj : k ≤ j := by first | decide | omega) (hps : ps.length = n + 1 := by rfl)
    (hst : starEach (e :: es) X.env = (false, eval e X.env) :: starEach es X.env := by rfl) (hpl : (backTo pos (starEach es X.env)).any (·.1) = false := by rfl)
    (ht : eval (.Call (.Attribute o m apos) (e :: es) [] pos) X.env = (do
      let ov ← eval o X.env
      standAt apos.atName
      let (f, first) ← holding [ov] (getMethod ov m pl)
      callWith pos f first (backTo pos (starEach (e :: es) X.env)) (backToKw pos (keywordEach [] X.env))) := by rfl) :
    DE tb W X (.Call (.Attribute o m apos) (e :: es) [] pos) (eMx t m sem F A) := by
  obtain ⟨f, fd, F, hm, hb⟩ := C.ex
  refine (pe_meth (pl := pl) ho cl hm F (hr.mono hkj) hb .nil passL ha hst hpl ht).wk fun σ H Q h => ?_
  have h1 := callN_of (np := ps.length) h fun as δ δ1 p e1 e2 => by rw [takeA_len e2, argN_valO hn _ _ _ e1, hps]
  exact tavO_of h1
theorem de_methE0 {pl : PySem.Sem Bool} (C : CalM X.prog X.w X.K X.mg X.base tb k t m ps sem) (cl : Cls X.K (tb t)) (hr : Room j X.A) (ho : DE tb W X o F) (hkj : k ≤ j := by first | decide | omega) (hps : ps.length = 1 := by rfl)
    (ht : eval (.Call (.Attribute o m apos) [] [] pos) X.env = (do
      let ov ← eval o X.env
      standAt apos.atName
      let (f, first) ← holding [ov] (getMethod ov m pl)
      callWith pos f first (backTo pos (starEach [] X.env)) (backToKw pos (keywordEach [] X.env))) := by rfl) :
    DE tb W X (.Call (.Attribute o m apos) [] [] pos) (eMx t m sem F aN) := by
  obtain ⟨f, fd, Fd, hm, hb⟩ := C.ex
  refine (pe_meth0 (pl := pl) ho cl hm Fd (hr.mono hkj) hb .nil passL ht).wk fun σ H Q h => ?_
  have h1 := tavO_of (callN_of (np := ps.length) h fun as δ δ1 p e1 e2 => by rw [takeA_len e2, argN_valO argN_nil _ _ _ e1, hps])
  obtain ⟨δ0, z0, c0, hE0, w0, h1⟩ := h1
  refine ⟨δ0, z0, c0, hE0, w0, ?_⟩
  cases e0 : F δ0 with
  | bad => rw [e0] at h1; exact h1
  | ex n δ1 => rw [e0] at h1; exact h1
  | ok mo δ1 =>
    rw [e0] at h1
    intro v H1 af
    obtain ⟨a, dx, fs, e1, e2, e3, δ, z, c, hE, w, h4⟩ := h1 v H1 af
    exact ⟨a, dx, fs, e1, e2, e3, h4 [] H1 z c hE .nil w (Step.refl _ _ _)⟩
end
end FS
namespace FX
open PySem PySem.Spec L2 FS
noncomputable section
def s_is_number : SF := (sRt (eAn (eU1 (gIsa PyData.isInt) (eN 0)) (eAn (eNt (eU1 (gIsa PyData.isBool) (eN 0))) (eCh gLe gLe (eN 1) (eN 0) (eN 2)))))
def m_is_number : Sem := semOf 3 3 [] s_is_number
def s_is_point : SF := (sSq (sIf (tOr' (tNt (tTru (eU1 (gIsa PyData.isTuple) (eN 0)))) (tE (eB2 gNe (eDs gLen (aV (eN 0) aN)) (eC (.int 2)))))
    (sRt (eC (.bool false)))
    sNl)
  (sRt (eAn (eCl m_is_number (aV (eB2 gIx (eN 0) (eC (.int 0))) (aV (eC (.int 0)) (aV (eC (.int 4000)) aN)))) (eCl m_is_number (aV (eB2 gIx (eN 0) (eC (.int 1))) (aV (eC (.int 0)) (aV (eC (.int 4000)) aN)))))))
def m_is_point : Sem := semOf 1 1 [] s_is_point
def s_check_point : SF := (sIf (tNt (tTru (eCl m_is_point (aV (eN 0) aN))))
    (sRs 1)
    sNl)
def m_check_point : Sem := semOf 1 1 [] s_check_point
def s_check_formation : SF := (sSq (sIf (tOr' (tNt (tTru (eU1 (gIsa PyData.isList) (eN 0)))) (tNt (tE (eCh gLe gLe (eC (.int 1)) (eDs gLen (aV (eN 0) aN)) (eC (.int 60))))))
    (sRs 3)
    sNl)
  (sSq (sFor (iE (eN 0)) (gN 1)
    (sEx (eCl m_check_point (aV (eN 1) aN))))
  (sIf (tE (eB2 gNe (eU1 gLenSet (eN 0)) (eDs gLen (aV (eN 0) aN))))
    (sRs 3)
    sNl)))
def m_check_formation : Sem := semOf 2 1 [] s_check_formation
def s__law_mixed : SF := (sSq (sAs 2 (eB2 gMod (eB2 gAdd (eB2 gAdd (eB2 gMul (eN 0) (eC (.int 48271))) (eB2 gMul (eN 1) (eC (.int 69621)))) (eC (.int 12345))) (eC (.int 2147483647))))
  (sRt (eB2 gMod (eB2 gAdd (eB2 gMul (eN 2) (eB2 gAdd (eB2 gDiv (eN 2) (eC (.int 65536))) (eC (.int 3)))) (eN 1)) (eC (.int 2147483647)))))
def m__law_mixed : Sem := semOf 3 2 [] s__law_mixed
def s__law_numbers : SF := (sSq (sAs 1 (eDs gLst aN))
  (sSq (sFor (iE (eN 0)) (gN 2)
    (sIf (tE (eB2 gGe (eN 2) (eB2 gPow (eC (.int 10)) (eC (.int 18)))))
    (sSq (sAs 3 (eN 2))
  (sFor (iR rng1 (aV (eC (.int 60)) aN)) (gN 4)
    (sIf (tE (eB2 gGt (eN 3) (eC (.int 0))))
    (sSq (sApp 1 (eB2 gMod (eN 3) (eC (.int 1000000))))
  (sAs 3 (eB2 gDiv (eN 3) (eC (.int 1000000)))))
    sNl)))
    (sSq (sApp 1 (eB2 gMod (eN 2) (eC (.int 1000000))))
  (sFor (iR rng1 (aV (eC (.int 5)) aN)) (gN 4)
    (sApp 1 (eB2 gMod (eCl m__law_mixed (aV (eCl m__law_mixed (aV (eB2 gMod (eN 2) (eC (.int 2147483647))) (aV (eN 4) aN))) (aV (eB2 gAdd (eN 4) (eC (.int 7))) aN))) (eC (.int 1000000))))))))
  (sRt (eMv 1))))
def m__law_numbers : Sem := semOf 5 1 [] s__law_numbers
def s__law_draw : SF := (sSq (sAs 1 (ePk (eB2 gIx (eN 0) (eC (.int 1)))))
  (sSq (sSt 0 (eC (.int 1)) (eB2 gAdd (eN 1) (eC (.int 1))))
  (sSq (sIf (tPk (tE (eB2 gLt (eN 1) (eDs gLen (aV (eB2 gIx (eN 0) (eC (.int 0))) aN)))))
    (sRt (ePk (eB2 gIx (eB2 gIx (eN 0) (eC (.int 0))) (eN 1))))
    sNl)
  (sSq (sAs 2 (eB2 gAdd (eC (.int 1)) (eN 1)))
  (sSq (sIf (tPk (tE (eB2 gGt (eDs gLen (aV (eB2 gIx (eN 0) (eC (.int 0))) aN)) (eC (.int 0)))))
    (sAs 2 (ePk (eB2 gAdd (eN 2) (eB2 gMul (eC (.int 1009)) (eB2 gIx (eB2 gIx (eN 0) (eC (.int 0))) (eC (.int 0)))))))
    sNl)
  (sRt (eB2 gMod (eCl m__law_mixed (aV (eCl m__law_mixed (aV (eN 2) (aV (eN 1) aN))) (aV (eC (.int 5)) aN))) (eC (.int 1000000)))))))))
def m__law_draw : Sem := semOf 3 1 [0] s__law_draw
def s_divisor : SF := (sSq (sWh (tE (eB2 gNe (eN 1) (eC (.int 0))))
    (sPar [0, 1] (aV (eN 1) (aV (eB2 gMod (eN 0) (eN 1)) aN))))
  (sRt (eN 0)))
def m_divisor : Sem := semOf 2 2 [] s_divisor
def s_fraction : SF := (sSq (sAs 2 (eCl m_divisor (aV (eDs gAbs (aV (eN 0) aN)) (aV (eDs gAbs (aV (eN 1) aN)) aN))))
  (sSq (sIf (tE (eB2 gLt (eN 1) (eC (.int 0))))
    (sPar [0, 1] (aV (eU1 gNeg (eN 0)) (aV (eU1 gNeg (eN 1)) aN)))
    sNl)
  (sRt (eDs gTup (aV (eB2 gDiv (eN 0) (eN 2)) (aV (eB2 gDiv (eN 1) (eN 2)) aN))))))
def m_fraction : Sem := semOf 3 2 [] s_fraction
def s__law_equal_v1 (r__law_equal : Sem) (r__law_all_equal : Sem) : SF := (sSq (sIf (tTru (eU1 (gIsa PyData.isList) (eN 1)))
    (sRt (eAn (eU1 (gIsa PyData.isList) (eN 0)) (eAn (eB2 gEq (eDs gLen (aV (eN 0) aN)) (eDs gLen (aV (eN 1) aN))) (eCl r__law_all_equal (aV (eN 0) (aV (eN 1) aN))))))
    sNl)
  (sSq (sIf (tTru (eU1 (gIsa PyData.isTuple) (eN 1)))
    (sRt (eAn (eU1 (gIsa PyData.isTuple) (eN 0)) (eAn (eB2 gEq (eDs gLen (aV (eN 0) aN)) (eDs gLen (aV (eN 1) aN))) (eCl r__law_all_equal (aV (eN 0) (aV (eN 1) aN))))))
    sNl)
  (sSq (sIf (tTru (eU1 (gIsa PyData.isBool) (eN 1)))
    (sRt (eAn (eU1 (gIsa PyData.isBool) (eN 0)) (eB2 gEq (eN 0) (eN 1))))
    sNl)
  (sSq (sIf (tTru (eU1 (gIsa PyData.isInt) (eN 1)))
    (sRt (eAn (eU1 (gIsa PyData.isInt) (eN 0)) (eAn (eNt (eU1 (gIsa PyData.isBool) (eN 0))) (eB2 gEq (eN 0) (eN 1)))))
    sNl)
  (sSq (sIf (tTru (eU1 (gIsa PyData.isStr) (eN 1)))
    (sRt (eAn (eU1 (gIsa PyData.isStr) (eN 0)) (eB2 gEq (eN 0) (eN 1))))
    sNl)
  (sRt (eB2 gIs (eN 0) (eC .none))))))))
def s__law_all_equal_v1 (r__law_equal : Sem) (r__law_all_equal : Sem) : SF := (sSq (sFor (iR rng1 (aV (eDs gLen (aV (eN 1) aN)) aN)) (gN 2)
    (sIf (tNt (tTru (eCl r__law_equal (aV (eB2 gIx (eN 0) (eN 2)) (aV (eB2 gIx (eN 1) (eN 2)) aN)))))
    (sRt (eC (.bool false)))
    sNl))
  (sRt (eC (.bool true))))
mutual
def m__law_equal_v1 : Nat → Sem
  | 0 => fun _ => .bad
  | n + 1 => semOf 2 2 [] (s__law_equal_v1 (m__law_equal_v1 n) (m__law_all_equal_v1 n))
def m__law_all_equal_v1 : Nat → Sem
  | 0 => fun _ => .bad
  | n + 1 => semOf 3 2 [] (s__law_all_equal_v1 (m__law_equal_v1 n) (m__law_all_equal_v1 n))
end
def s_is_less : SF := (sRt (eB2 gLt (eB2 gMul (eB2 gIx (eN 0) (eC (.int 0))) (eB2 gIx (eN 1) (eC (.int 1)))) (eB2 gMul (eB2 gIx (eN 1) (eC (.int 0))) (eB2 gIx (eN 0) (eC (.int 1))))))
def m_is_less : Sem := semOf 2 2 [] s_is_less
def s_check_way : SF := (sSq (sIf (tOr' (tNt (tTru (eU1 (gIsa PyData.isTuple) (eN 0)))) (tE (eB2 gNe (eDs gLen (aV (eN 0) aN)) (eC (.int 2)))))
    (sRs 4)
    sNl)
  (sSq (sEx (eCl m_check_point (aV (eB2 gIx (eN 0) (eC (.int 0))) aN)))
  (sEx (eCl m_check_point (aV (eB2 gIx (eN 0) (eC (.int 1))) aN)))))
def m_check_way : Sem := semOf 1 1 [] s_check_way
def s_side : SF := (sRt (eB2 gSub (eB2 gMul (eB2 gSub (eB2 gIx (eN 1) (eC (.int 0))) (eB2 gIx (eN 0) (eC (.int 0)))) (eB2 gSub (eB2 gIx (eN 2) (eC (.int 1))) (eB2 gIx (eN 0) (eC (.int 1))))) (eB2 gMul (eB2 gSub (eB2 gIx (eN 1) (eC (.int 1))) (eB2 gIx (eN 0) (eC (.int 1)))) (eB2 gSub (eB2 gIx (eN 2) (eC (.int 0))) (eB2 gIx (eN 0) (eC (.int 0)))))))
def m_side : Sem := semOf 3 3 [] s_side
def s_is_on : SF := (sSq (sIf (tE (eB2 gNe (eCl m_side (aV (eN 0) (aV (eN 1) (aV (eN 2) aN)))) (eC (.int 0))))
    (sRt (eC (.bool false)))
    sNl)
  (sRt (eAn (eCh gLe gLe (eDs gMin (aV (eB2 gIx (eN 0) (eC (.int 0))) (aV (eB2 gIx (eN 1) (eC (.int 0))) aN))) (eB2 gIx (eN 2) (eC (.int 0))) (eDs gMax (aV (eB2 gIx (eN 0) (eC (.int 0))) (aV (eB2 gIx (eN 1) (eC (.int 0))) aN)))) (eCh gLe gLe (eDs gMin (aV (eB2 gIx (eN 0) (eC (.int 1))) (aV (eB2 gIx (eN 1) (eC (.int 1))) aN))) (eB2 gIx (eN 2) (eC (.int 1))) (eDs gMax (aV (eB2 gIx (eN 0) (eC (.int 1))) (aV (eB2 gIx (eN 1) (eC (.int 1))) aN)))))))
def m_is_on : Sem := semOf 3 3 [] s_is_on
def s_do_cross : SF := (sSq (sAg (gUp [2, 3]) (eN 0))
  (sSq (sAg (gUp [4, 5]) (eN 1))
  (sRt (eAn (eB2 gLt (eB2 gMul (eCl m_side (aV (eN 2) (aV (eN 3) (aV (eN 4) aN)))) (eCl m_side (aV (eN 2) (aV (eN 3) (aV (eN 5) aN))))) (eC (.int 0))) (eB2 gLt (eB2 gMul (eCl m_side (aV (eN 4) (aV (eN 5) (aV (eN 2) aN)))) (eCl m_side (aV (eN 4) (aV (eN 5) (aV (eN 3) aN))))) (eC (.int 0)))))))
def m_do_cross : Sem := semOf 6 2 [] s_do_cross
def s_meeting : SF := (sSq (sIf (tTru (eCl m_do_cross (aV (eN 0) (aV (eN 1) aN))))
    (sRt (eC (.str (Str.ofString "cross"))))
    sNl)
  (sSq (sAs 2 eDn)
  (sSq (sFor (iE (eN 1)) (gN 3)
    (sIf (tTru (eCl m_is_on (aV (eB2 gIx (eN 0) (eC (.int 0))) (aV (eB2 gIx (eN 0) (eC (.int 1))) (aV (eN 3) aN)))))
    (sDp 2 (eN 3) (eC (.bool true)))
    sNl))
  (sSq (sFor (iE (eN 0)) (gN 3)
    (sIf (tTru (eCl m_is_on (aV (eB2 gIx (eN 1) (eC (.int 0))) (aV (eB2 gIx (eN 1) (eC (.int 1))) (aV (eN 3) aN)))))
    (sDp 2 (eN 3) (eC (.bool true)))
    sNl))
  (sSq (sIf (tE (eB2 gEq (eDs gLenDA (aV (eN 2) aN)) (eC (.int 0))))
    (sRt (eC (.str (Str.ofString "apart"))))
    sNl)
  (sRt (eIf (tE (eB2 gEq (eDs gLenDA (aV (eN 2) aN)) (eC (.int 1)))) (eC (.str (Str.ofString "touch"))) (eC (.str (Str.ofString "overlap"))))))))))
def m_meeting : Sem := semOf 4 2 [] s_meeting
def s_meet : SF := (sSq (sEx (eCl m_check_way (aV (eN 0) aN)))
  (sSq (sEx (eCl m_check_way (aV (eN 1) aN)))
  (sRt (eCl m_meeting (aV (eN 0) (aV (eN 1) aN))))))
def m_meet : Sem := semOf 2 2 [] s_meet
def s_check_two : SF := (sSq (sEx (eCl m_check_formation (aV (eN 0) aN)))
  (sSq (sEx (eCl m_check_formation (aV (eN 1) aN)))
  (sIf (tE (eB2 gNe (eDs gLen (aV (eN 0) aN)) (eDs gLen (aV (eN 1) aN))))
    (sRs 4)
    sNl)))
def m_check_two : Sem := semOf 2 2 [] s_check_two
def s_is_order : SF := (sSq (sIf (tOr' (tNt (tTru (eU1 (gIsa PyData.isList) (eN 0)))) (tE (eB2 gNe (eDs gLen (aV (eN 0) aN)) (eN 1))))
    (sRt (eC (.bool false)))
    sNl)
  (sSq (sIf (tTru (eLc [2] (iE (eN 0)) (gN 2) (tNt (tTru (eCl m_is_number (aV (eN 2) (aV (eC (.int 0)) (aV (eB2 gSub (eN 1) (eC (.int 1))) aN)))))) (eN 2)))
    (sRt (eC (.bool false)))
    sNl)
  (sRt (eB2 gEq (eDs gSorted (aV (eN 0) aN)) (eLrg (eN 1))))))
def m_is_order : Sem := semOf 3 2 [] s_is_order
def s_check_order : SF := (sIf (tNt (tTru (eCl m_is_order (aV (eN 0) (aV (eN 1) aN)))))
    (sRs 2)
    sNl)
def m_check_order : Sem := semOf 2 2 [] s_check_order
def s_first_crossing : SF := (sSq (sFor (iR rng1 (aV (eDs gLen (aV (eN 2) aN)) aN)) (gN 3)
    (sFor (iR rng2 (aV (eB2 gAdd (eN 3) (eC (.int 1))) (aV (eDs gLen (aV (eN 2) aN)) aN))) (gN 4)
    (sIf (tTru (eCl m_do_cross (aV (eDs gTup (aV (eB2 gIx (eN 0) (eN 3)) (aV (eB2 gIx (eN 1) (eB2 gIx (eN 2) (eN 3))) aN))) (aV (eDs gTup (aV (eB2 gIx (eN 0) (eN 4)) (aV (eB2 gIx (eN 1) (eB2 gIx (eN 2) (eN 4))) aN))) aN))))
    (sRt (eDs gTup (aV (eN 3) (aV (eN 4) aN))))
    sNl)))
  (sRt (eC .none)))
def m_first_crossing : Sem := semOf 5 3 [] s_first_crossing
def s_crossings : SF := (sSq (sEx (eCl m_check_two (aV (eN 0) (aV (eN 1) aN))))
  (sSq (sEx (eCl m_check_order (aV (eN 2) (aV (eDs gLen (aV (eN 0) aN)) aN))))
  (sSq (sAs 3 (eDs gLst aN))
  (sSq (sFor (iR rng1 (aV (eDs gLen (aV (eN 2) aN)) aN)) (gN 4)
    (sSq (sAs 5 (eDs gTup (aV (eB2 gIx (eN 0) (eN 4)) (aV (eB2 gIx (eN 1) (eB2 gIx (eN 2) (eN 4))) aN))))
  (sAs 3 (eB2 gAdd (eN 3) (eLc [6] (iR rng2 (aV (eB2 gAdd (eN 4) (eC (.int 1))) (aV (eDs gLen (aV (eN 2) aN)) aN))) (gN 6) (tTru (eCl m_do_cross (aV (eN 5) (aV (eDs gTup (aV (eB2 gIx (eN 0) (eN 6)) (aV (eB2 gIx (eN 1) (eB2 gIx (eN 2) (eN 6))) aN))) aN)))) (eDs gTup (aV (eN 4) (aV (eN 6) aN))))))))
  (sRt (eN 3))))))
def m_crossings : Sem := semOf 7 3 [] s_crossings
def s_uncrossed : SF := (sSq (sEx (eCl m_check_two (aV (eN 0) (aV (eN 1) aN))))
  (sSq (sEx (eCl m_check_order (aV (eN 2) (aV (eDs gLen (aV (eN 0) aN)) aN))))
  (sSq (sIf (tE (eB2 gGt (eDs gLen (aV (eN 0) aN)) (eC (.int 30))))
    (sRs 6)
    sNl)
  (sSq (sAs 3 (eDs gListOf (aV (eN 2) aN)))
  (sWh (tTru (eC (.bool true)))
    (sSq (sAs 4 (ePk (eCl m_first_crossing (aV (eN 0) (aV (eN 1) (aV (eN 3) aN))))))
  (sSq (sIf (tE (eB2 gIs (eN 4) (eC .none)))
    (sRt (eMv 3))
    sNl)
  (sSq (sAg (gUp [5, 6]) (eN 4))
  (sSw (.s 3) (eN 5) (.s 3) (eN 6) (ePk (eDs gTup (aV (eB2 gIx (eN 3) (eN 6)) (aV (eB2 gIx (eN 3) (eN 5)) aN)))))))))))))
def m_uncrossed : Sem := semOf 7 3 [] s_uncrossed
def s_nearest_v1 : SF := (sSq (sAs 2 (eB2 gAdd (eB2 gMul (eB2 gIx (eN 0) (eC (.int 0))) (eB2 gIx (eN 0) (eC (.int 0)))) (eB2 gMul (eB2 gIx (eN 0) (eC (.int 1))) (eB2 gIx (eN 0) (eC (.int 1))))))
  (sSq (sAs 3 (eB2 gAdd (eB2 gMul (eB2 gIx (eN 1) (eC (.int 0))) (eB2 gIx (eN 1) (eC (.int 0)))) (eB2 gMul (eB2 gIx (eN 1) (eC (.int 1))) (eB2 gIx (eN 1) (eC (.int 1))))))
  (sSq (sAs 4 (eB2 gAdd (eB2 gMul (eB2 gIx (eN 0) (eC (.int 0))) (eB2 gIx (eN 1) (eC (.int 0)))) (eB2 gMul (eB2 gIx (eN 0) (eC (.int 1))) (eB2 gIx (eN 1) (eC (.int 1))))))
  (sSq (sAs 5 (eB2 gSub (eB2 gAdd (eN 2) (eN 3)) (eB2 gMul (eC (.int 2)) (eN 4))))
  (sSq (sIf (tOr' (tE (eB2 gEq (eN 5) (eC (.int 0)))) (tE (eB2 gGe (eN 4) (eN 2))))
    (sRt (eDs gTup (aV (eDs gTup (aV (eN 2) (aV (eC (.int 1)) aN))) (aV (eDs gTup (aV (eC (.int 0)) (aV (eC (.int 1)) aN))) aN))))
    sNl)
  (sSq (sIf (tE (eB2 gGe (eN 4) (eN 3)))
    (sRt (eDs gTup (aV (eDs gTup (aV (eN 3) (aV (eC (.int 1)) aN))) (aV (eDs gTup (aV (eC (.int 1)) (aV (eC (.int 1)) aN))) aN))))
    sNl)
  (sSq (sAs 6 (eB2 gSub (eB2 gMul (eB2 gIx (eN 0) (eC (.int 0))) (eB2 gIx (eN 1) (eC (.int 1)))) (eB2 gMul (eB2 gIx (eN 0) (eC (.int 1))) (eB2 gIx (eN 1) (eC (.int 0))))))
  (sRt (eDs gTup (aV (eCl m_fraction (aV (eB2 gMul (eN 6) (eN 6)) (aV (eN 5) aN))) (aV (eCl m_fraction (aV (eB2 gSub (eN 2) (eN 4)) (aV (eN 5) aN))) aN)))))))))))
def m_nearest_v1 : Sem := semOf 7 2 [] s_nearest_v1
def s_check_fraction : SF := (sSq (sIf (tOr' (tNt (tTru (eU1 (gIsa PyData.isTuple) (eN 0)))) (tOr' (tE (eB2 gNe (eDs gLen (aV (eN 0) aN)) (eC (.int 2)))) (tNt (tTru (eCl m_is_number (aV (eB2 gIx (eN 0) (eC (.int 0))) (aV (eC (.int 0)) (aV (eC (.int 32000000)) aN))))))))
    (sRs 2)
    sNl)
  (sIf (tOr' (tNt (tTru (eCl m_is_number (aV (eB2 gIx (eN 0) (eC (.int 1))) (aV (eC (.int 1)) (aV (eC (.int 1000000)) aN)))))) (tE (eB2 gNe (eCl m_divisor (aV (eB2 gIx (eN 0) (eC (.int 0))) (aV (eB2 gIx (eN 0) (eC (.int 1))) aN))) (eC (.int 1)))))
    (sRs 2)
    sNl))
def m_check_fraction : Sem := semOf 1 1 [] s_check_fraction
def s_difference : SF := (sRt (eDs gTup (aV (eB2 gSub (eB2 gIx (eN 1) (eC (.int 0))) (eB2 gIx (eN 0) (eC (.int 0)))) (aV (eB2 gSub (eB2 gIx (eN 1) (eC (.int 1))) (eB2 gIx (eN 0) (eC (.int 1)))) aN))))
def m_difference : Sem := semOf 2 2 [] s_difference
def s_Keeping_init : SF := (sSq (sFs 12 0 (Str.ofString "one") (eN 1))
  (sSq (sFs 12 0 (Str.ofString "two") (eN 2))
  (sFs 12 0 (Str.ofString "least") (eN 3))))
def m_Keeping_init : Sem := semOf 4 4 [0] s_Keeping_init
def s_Keeping_fits : SF := (sSq (sAs 3 (eDs gLen (aV (eN 1) aN)))
  (sSq (sFor (iR rng1 (aV (eN 3) aN)) (gN 4)
    (sSq (sAs 5 (eCl m_difference (aV (eB2 gIx (eFld 12 (Str.ofString "one") (eN 0)) (eN 4)) (aV (eB2 gIx (eFld 12 (Str.ofString "one") (eN 0)) (eN 3)) aN))))
  (sSq (sAs 6 (eCl m_difference (aV (eB2 gIx (eFld 12 (Str.ofString "two") (eN 0)) (eB2 gIx (eN 1) (eN 4))) (aV (eB2 gIx (eFld 12 (Str.ofString "two") (eN 0)) (eN 2)) aN))))
  (sIf (tTru (eCl m_is_less (aV (eB2 gIx (eCl m_nearest_v1 (aV (eN 5) (aV (eN 6) aN))) (eC (.int 0))) (aV (eFld 12 (Str.ofString "least") (eN 0)) aN))))
    (sRt (eC (.bool false)))
    sNl))))
  (sRt (eC (.bool true)))))
def m_Keeping_fits : Sem := semOf 7 3 [0] s_Keeping_fits
def s_Keeping_all_from (r_Keeping_all_from : Sem) : SF := (sSq (sIf (tE (eB2 gEq (eDs gLen (aV (eN 1) aN)) (eDs gLen (aV (eFld 12 (Str.ofString "one") (eN 0)) aN))))
    (sRt (eDs gLst (aV (eN 1) aN)))
    sNl)
  (sSq (sAs 2 (eDs gLst aN))
  (sSq (sFor (iR rng1 (aV (eDs gLen (aV (eFld 12 (Str.ofString "two") (eN 0)) aN)) aN)) (gN 3)
    (sIf (tAn (tE (eB2 gNinL (eN 3) (eN 1))) (tTru (eMe 12 (Str.ofString "fits") 0 m_Keeping_fits (aV (eN 1) (aV (eN 3) aN)))))
    (sAs 2 (eB2 gAdd (eN 2) (eMe 12 (Str.ofString "all_from") 0 r_Keeping_all_from (aV (eB2 gAdd (eN 1) (eDs gLst (aV (eN 3) aN))) aN))))
    sNl))
  (sRt (eN 2)))))
def m_Keeping_all_from : Nat → Sem
  | 0 => fun _ => .bad
  | n + 1 => semOf 4 2 [0] (s_Keeping_all_from (m_Keeping_all_from n))
def s_keeping : SF := (sSq (sEx (eCl m_check_two (aV (eN 0) (aV (eN 1) aN))))
  (sSq (sEx (eCl m_check_fraction (aV (eN 2) aN)))
  (sSq (sIf (tE (eB2 gGt (eDs gLen (aV (eN 0) aN)) (eC (.int 7))))
    (sRs 6)
    sNl)
  (sSq (sAs 3 (eMx 12 (Str.ofString "all_from") (m_Keeping_all_from 14) (eMk 12 m_Keeping_init (aV (eN 0) (aV (eN 1) (aV (eN 2) aN)))) (aV (eDs gLst aN) aN)))
  (sRt (eDs gTup (aV (eDs gLen (aV (eN 3) aN)) (aV (eIf (tTru (eN 3)) (eB2 gIx (eN 3) (eC (.int 0))) (eC .none)) aN))))))))
def m_keeping : Sem := semOf 4 3 [] s_keeping
def s__law_call : SF := (sSq (sIf (tE (eB2 gEq (eN 0) (eC (.str (Str.ofString "meet")))))
    (sRt (eCl m_meet (aV (eN 1) (aV (eN 2) aN))))
    sNl)
  (sSq (sIf (tE (eB2 gEq (eN 0) (eC (.str (Str.ofString "crossings")))))
    (sRt (eCl m_crossings (aV (eN 1) (aV (eN 2) (aV (eN 3) aN)))))
    sNl)
  (sSq (sIf (tE (eB2 gEq (eN 0) (eC (.str (Str.ofString "uncrossed")))))
    (sRt (eCl m_uncrossed (aV (eN 1) (aV (eN 2) (aV (eN 3) aN)))))
    sNl)
  (sRt (eCl m_keeping (aV (eN 1) (aV (eN 2) (aV (eN 3) aN))))))))
def m__law_call : Sem := semOf 4 4 [] s__law_call
def s__law_error_v1 : SF := (sSq (sTrA (sEx (eCl m__law_call (aV (eN 0) (aV (eN 1) (aV (eN 2) (aV (eN 3) aN)))))) [(2, 4, sRt (eC (.str (Str.ofString "argument")))), (1, 4, sRt (eC (.str (Str.ofString "point")))), (4, 4, sRt (eC (.str (Str.ofString "move")))), (3, 4, sRt (eC (.str (Str.ofString "formation")))), (6, 4, sRt (eC (.str (Str.ofString "large"))))])
  (sRt (eC .none)))
def m__law_error_v1 : Sem := semOf 5 4 [] s__law_error_v1
def s_law_k26 : SF := (sSq (sAs 1 (eDs gLst (aV (eCl m__law_numbers (aV (eN 0) aN)) (aV (eC (.int 0)) aN))))
  (sSq (sAs 2 (eDs gTup (aV (eDs gTup (aV (eC (.int 0)) (aV (eC (.int 0)) aN))) (aV (eDs gTup (aV (eC (.int 4000)) (aV (eC (.int 4000)) aN))) aN))))
  (sSq (sAs 3 (eDs gLst (aV (eDs gLst (aV (eDs gTup (aV (eC (.int 0)) (aV (eC (.int 0)) aN))) (aV (eDs gTup (aV (eC (.int 1)) (aV (eC (.int 1)) aN))) aN))) (aV (eDs gTup (aV (eDs gTup (aV (eC (.int 0)) (aV (eC (.int 0)) aN))) aN)) (aV (eC .none) (aV (eDs gTup (aV (eDs gTup (aV (eC (.int 0)) (aV (eC (.int 0)) aN))) (aV (eDs gTup (aV (eC (.int 1)) (aV (eC (.int 1)) aN))) (aV (eDs gTup (aV (eC (.int 2)) (aV (eC (.int 2)) aN))) aN)))) (aV (eC (.str (Str.ofString "way"))) aN)))))))
  (sSq (sAs 4 (eDs gLst (aV (eDs gTup (aV (eDs gTup (aV (eC (.int 0)) (aV (eC (.int 0)) aN))) (aV (eDs gTup (aV (eC (.int 4001)) (aV (eC (.int 0)) aN))) aN))) (aV (eDs gTup (aV (eDs gTup (aV (eU1 gNeg (eC (.int 1))) (aV (eC (.int 0)) aN))) (aV (eDs gTup (aV (eC (.int 0)) (aV (eC (.int 0)) aN))) aN))) (aV (eDs gTup (aV (eDs gTup (aV (eC (.bool true)) (aV (eC (.int 0)) aN))) (aV (eDs gTup (aV (eC (.int 0)) (aV (eC (.int 0)) aN))) aN))) (aV (eDs gTup (aV (eDs gLst (aV (eC (.int 0)) (aV (eC (.int 0)) aN))) (aV (eDs gTup (aV (eC (.int 0)) (aV (eC (.int 0)) aN))) aN))) (aV (eDs gTup (aV (eDs gTup (aV (eC (.int 0)) (aV (eC (.int 0)) (aV (eC (.int 0)) aN)))) (aV (eDs gTup (aV (eC (.int 0)) (aV (eC (.int 0)) aN))) aN))) (aV (eDs gTup (aV (eC .none) (aV (eDs gTup (aV (eC (.int 0)) (aV (eC (.int 0)) aN))) aN))) aN))))))))
  (sSq (sPar [11, 12] (aV (eB2 gIx (eN 3) (eB2 gMod (eCl m__law_draw (aIo 1 aN)) (eDs gLen (aV (eN 3) aN)))) (aV (eB2 gIx (eN 4) (eB2 gMod (eCl m__law_draw (aIo 1 aN)) (eDs gLen (aV (eN 4) aN)))) aN)))
  (sSq (sIf (tOr' (tE (eB2 gNe (eCl m__law_error_v1 (aV (eC (.str (Str.ofString "meet"))) (aV (eN 11) (aV (eN 2) (aV (eC .none) aN))))) (eC (.str (Str.ofString "move"))))) (tE (eB2 gNe (eCl m__law_error_v1 (aV (eC (.str (Str.ofString "meet"))) (aV (eN 2) (aV (eN 11) (aV (eC .none) aN))))) (eC (.str (Str.ofString "move"))))))
    (sRt (eC (.bool false)))
    sNl)
  (sSq (sIf (tOr' (tE (eB2 gNe (eCl m__law_error_v1 (aV (eC (.str (Str.ofString "meet"))) (aV (eN 12) (aV (eN 2) (aV (eC .none) aN))))) (eC (.str (Str.ofString "point"))))) (tE (eB2 gNe (eCl m__law_error_v1 (aV (eC (.str (Str.ofString "meet"))) (aV (eN 2) (aV (eN 12) (aV (eC .none) aN))))) (eC (.str (Str.ofString "point"))))))
    (sRt (eC (.bool false)))
    sNl)
  (sSq (sPar [13, 14] (aV (eDs gLst (aV (eDs gTup (aV (eC (.int 0)) (aV (eC (.int 0)) aN))) (aV (eDs gTup (aV (eC (.int 1)) (aV (eC (.int 0)) aN))) (aV (eDs gTup (aV (eC (.int 5)) (aV (eC (.int 5)) aN))) aN)))) (aV (eDs gLst (aV (eDs gTup (aV (eC (.int 9)) (aV (eC (.int 9)) aN))) (aV (eDs gTup (aV (eC (.int 0)) (aV (eC (.int 0)) aN))) (aV (eDs gTup (aV (eC (.int 4000)) (aV (eC (.int 0)) aN))) aN)))) aN)))
  (sSq (sAs 5 (eB2 gIx (eDs gLst (aV (eDs gLst (aV (eC (.int 0)) (aV (eC (.int 1)) aN))) (aV (eDs gLst (aV (eC (.int 0)) (aV (eC (.int 1)) (aV (eC (.int 1)) aN)))) (aV (eDs gLst (aV (eC (.int 0)) (aV (eC (.int 1)) (aV (eC (.int 3)) aN)))) (aV (eDs gTup (aV (eC (.int 0)) (aV (eC (.int 1)) (aV (eC (.int 2)) aN)))) (aV (eC .none) (aV (eDs gLst (aV (eC (.int 0)) (aV (eC (.int 1)) (aV (eC (.bool true)) aN)))) (aV (eDs gLst (aV (eC (.int 0)) (aV (eC (.int 1)) (aV (eC (.str (Str.ofString "2"))) aN)))) (aV (eDs gLst (aV (eC (.int 0)) (aV (eC (.int 1)) (aV (eC (.int 2)) (aV (eC (.int 3)) aN))))) aN))))))))) (eB2 gMod (eCl m__law_draw (aIo 1 aN)) (eC (.int 8)))))
  (sSq (sAs 6 (eDs gLst (aV (eDs gLst aN) (aV (eDs gTup (aV (eDs gTup (aV (eC (.int 0)) (aV (eC (.int 0)) aN))) aN)) (aV (eC .none) (aV (eDs gLst (aV (eDs gTup (aV (eC (.int 0)) (aV (eC (.int 0)) aN))) (aV (eDs gTup (aV (eC (.int 0)) (aV (eC (.int 0)) aN))) (aV (eDs gTup (aV (eC (.int 1)) (aV (eC (.int 1)) aN))) aN)))) (aV (eLc [16] (iR rng1 (aV (eC (.int 61)) aN)) (gN 16) tY (eDs gTup (aV (eN 16) (aV (eC (.int 0)) aN)))) aN)))))))
  (sSq (sAs 7 (eB2 gIx (eN 6) (eB2 gMod (eCl m__law_draw (aIo 1 aN)) (eDs gLen (aV (eN 6) aN)))))
  (sSq (sFor (iE (eDs gLst (aV (eC (.str (Str.ofString "crossings"))) (aV (eC (.str (Str.ofString "uncrossed"))) (aV (eC (.str (Str.ofString "keeping"))) aN))))) (gN 8)
    (sSq (sAs 15 (eIf (tE (eB2 gEq (eN 8) (eC (.str (Str.ofString "keeping"))))) (eDs gTup (aV (eC (.int 1)) (aV (eC (.int 2)) aN))) (eDs gLst (aV (eC (.int 2)) (aV (eC (.int 0)) (aV (eC (.int 1)) aN))))))
  (sSq (sIf (tOr' (tE (eB2 gIsNot (eCl m__law_error_v1 (aV (eN 8) (aV (eN 13) (aV (eN 14) (aV (eN 15) aN))))) (eC .none))) (tE (eB2 gNe (eCl m__law_error_v1 (aV (eN 8) (aV (eN 13) (aV (eSl (eN 14) oN (oE (eC (.int 2)))) (aV (eN 15) aN))))) (eC (.str (Str.ofString "move"))))))
    (sRt (eC (.bool false)))
    sNl)
  (sSq (sIf (tOr' (tE (eB2 gNe (eCl m__law_error_v1 (aV (eN 8) (aV (eN 7) (aV (eN 14) (aV (eN 15) aN))))) (eC (.str (Str.ofString "formation"))))) (tE (eB2 gNe (eCl m__law_error_v1 (aV (eN 8) (aV (eN 13) (aV (eN 7) (aV (eN 15) aN))))) (eC (.str (Str.ofString "formation"))))))
    (sRt (eC (.bool false)))
    sNl)
  (sSq (sIf (tE (eB2 gNe (eCl m__law_error_v1 (aV (eN 8) (aV (eDs gLst (aV (eDs gTup (aV (eC (.int 0)) (aV (eC (.int 0)) aN))) (aV (eDs gTup (aV (eC (.int 0)) (aV (eC (.int 4001)) aN))) (aV (eDs gTup (aV (eC (.int 1)) (aV (eC (.int 1)) aN))) aN)))) (aV (eN 14) (aV (eN 15) aN))))) (eC (.str (Str.ofString "point")))))
    (sRt (eC (.bool false)))
    sNl)
  (sIf (tAn (tE (eB2 gNe (eN 8) (eC (.str (Str.ofString "keeping"))))) (tE (eB2 gNe (eCl m__law_error_v1 (aV (eN 8) (aV (eN 13) (aV (eN 14) (aV (eN 5) aN))))) (eC (.str (Str.ofString "argument"))))))
    (sRt (eC (.bool false)))
    sNl))))))
  (sSq (sAs 9 (eB2 gIx (eDs gLst (aV (eDs gTup (aV (eC (.int 2)) (aV (eC (.int 4)) aN))) (aV (eDs gTup (aV (eU1 gNeg (eC (.int 1))) (aV (eC (.int 1)) aN))) (aV (eDs gTup (aV (eC (.int 1)) (aV (eC (.int 0)) aN))) (aV (eDs gTup (aV (eC (.int 32000001)) (aV (eC (.int 1)) aN))) (aV (eDs gTup (aV (eC (.int 1)) (aV (eC (.int 1000001)) aN))) (aV (eDs gLst (aV (eC (.int 1)) (aV (eC (.int 2)) aN))) (aV (eDs gTup (aV (eC (.int 1)) aN)) (aV (eC .none) (aV (eDs gTup (aV (eC (.bool true)) (aV (eC (.int 1)) aN))) (aV (eC (.int 1)) (aV (eDs gTup (aV (eC (.int 0)) (aV (eC (.int 2)) aN))) aN)))))))))))) (eB2 gMod (eCl m__law_draw (aIo 1 aN)) (eC (.int 11)))))
  (sSq (sIf (tE (eB2 gNe (eCl m__law_error_v1 (aV (eC (.str (Str.ofString "keeping"))) (aV (eN 13) (aV (eN 14) (aV (eN 9) aN))))) (eC (.str (Str.ofString "argument")))))
    (sRt (eC (.bool false)))
    sNl)
  (sSq (sAs 10 (eLc [16] (iR rng1 (aV (eC (.int 8)) aN)) (gN 16) tY (eDs gTup (aV (eN 16) (aV (eC (.int 0)) aN)))))
  (sRt (eAn (eB2 gEq (eCl m__law_error_v1 (aV (eC (.str (Str.ofString "keeping"))) (aV (eN 10) (aV (eN 10) (aV (eDs gTup (aV (eC (.int 1)) (aV (eC (.int 2)) aN))) aN))))) (eC (.str (Str.ofString "large")))) (eB2 gIs (eCl m__law_error_v1 (aV (eC (.str (Str.ofString "keeping"))) (aV (eSl (eN 10) oN (oE (eC (.int 7)))) (aV (eSl (eN 10) oN (oE (eC (.int 7)))) (aV (eDs gTup (aV (eC (.int 32000000)) (aV (eC (.int 1)) aN))) aN))))) (eC .none)))))))))))))))))))
end
end FX
/-! the reading of the terms, step by step -/
namespace MX
open PySem PySem.Spec L2 FS
theorem nr {α : Sort _} {a b : α} (h : a = b) : a = b := h
section
variable {α : Type} {δ δ1 δ2 : Env'} {i j n k : Nat} {m : M} {l : L} {d d1 d2 : PD} {F G Hh : EF} {A B : BF} {S T U : SF} {Af : AF} {g g' : PD → PD → Option M} {g1 : PD → Option M} {gs : List PD → Option M} {as : List FS.Arg} {ds : List PD}
/-- an operation's answer -/
def res (o : Option M) (δ : Env') : R M := match o with
  | some m => .ok m δ
  | none => .bad
@[simp] theorem res_some : res (some m) δ = .ok m δ := nr rfl
/-! expressions -/
@[simp] theorem eC_ : eC d δ = .ok (.fz d) δ := nr rfl
def nR (i : Nat) (o : Option (Option M)) (δ : Env') : R M := match o with
  | some (some (.v (.fz d))) => .ok (.fz d) δ
  | some (some m) => .ok m.frz (δ.set i (some m.frz))
  | _ => .bad
@[simp] theorem eN_ : eN i δ = nR i δ[i]? δ := nr rfl
@[simp] theorem nR_fz : nR i (some (some (.v (.fz d)))) δ = .ok (.fz d) δ := nr rfl
@[simp] theorem nR_lst {ls : List L} : nR i (some (some (.v (.lst ls)))) δ = .ok (.fz (.list (L.pds ls))) (δ.set i (some (.fz (.list (L.pds ls))))) := nr rfl
def mvR (i : Nat) (o : Option (Option M)) (δ : Env') : R M := match o with
  | some (some m) => .ok m (δ.set i none)
  | _ => .bad
@[simp] theorem eMv_ : eMv i δ = mvR i δ[i]? δ := nr rfl
@[simp] theorem mvR_ok : mvR i (some (some m)) δ = .ok m (δ.set i none) := nr rfl
def pkR (δ : Env') (r : R M) : R M := match r with
  | .ok (.v (.fz d)) _ => if immut d then .ok (.fz d) δ else .bad
  | .ex n _ => .ex n δ
  | _ => .bad
@[simp] theorem ePk_ : ePk F δ = pkR δ (F (frzE δ)) := nr rfl
@[simp] theorem pkR_ok : pkR δ (.ok (.v (.fz d)) δ1) = if immut d then .ok (.fz d) δ else .bad := nr rfl
@[simp] theorem pkR_ex : pkR δ (.ex n δ1) = .ex n δ := nr rfl
def pkT (δ : Env') (r : R Bool) : R Bool := match r with
  | .ok b _ => .ok b δ
  | .ex n _ => .ex n δ
  | .bad => .bad
@[simp] theorem tPk_ : tPk A δ = pkT δ (A (frzE δ)) := nr rfl
@[simp] theorem pkT_ok {b : Bool} : pkT δ (.ok b δ1) = .ok b δ := nr rfl
@[simp] theorem pkT_ex : pkT δ (.ex n δ1) = .ex n δ := nr rfl
def b2R (g : PD → PD → Option M) (G : EF) (r : R M) : R M := r.p fun a δ1 => (G δ1).p fun b δ2 => res (g a b) δ2
def b2K (g : PD → PD → Option M) (a : PD) (r : R M) : R M := r.p fun b δ2 => res (g a b) δ2
@[simp] theorem eB2_ : eB2 g F G δ = b2R g G (F δ) := nr rfl
@[simp] theorem b2R_ok : b2R g G (.ok (.v l) δ) = b2K g l.pd (G δ) := nr rfl
@[simp] theorem b2R_ex : b2R g G (.ex n δ) = .ex n δ := nr rfl
@[simp] theorem b2K_ok : b2K g d (.ok (.v l) δ) = res (g d l.pd) δ := nr rfl
@[simp] theorem b2K_ex : b2K g d (.ex n δ) = .ex n δ := nr rfl
def u1R (g : PD → Option M) (r : R M) : R M := r.p fun a δ1 => res (g a) δ1
@[simp] theorem eU1_ : eU1 g1 F δ = u1R g1 (F δ) := nr rfl
@[simp] theorem u1R_ok : u1R g1 (.ok (.v l) δ) = res (g1 l.pd) δ := nr rfl
@[simp] theorem u1R_ex : u1R g1 (.ex n δ) = .ex n δ := nr rfl
def anR (G : EF) (r : R M) : R M := r.p fun d δ1 => match d with
  | .bool true => G δ1
  | .bool false => .ok (.fz (.bool false)) δ1
  | _ => .bad
@[simp] theorem eAn_ : eAn F G δ = anR G (F δ) := nr rfl
@[simp] theorem anR_t : anR G (.ok (.v (.fz (.bool true))) δ) = G δ := nr rfl
@[simp] theorem anR_f : anR G (.ok (.v (.fz (.bool false))) δ) = .ok (.fz (.bool false)) δ := nr rfl
@[simp] theorem anR_ex : anR G (.ex n δ) = .ex n δ := nr rfl
def orR (G : EF) (r : R M) : R M := r.p fun d δ1 => match d with
  | .bool true => .ok (.fz (.bool true)) δ1
  | .bool false => G δ1
  | _ => .bad
@[simp] theorem eOr_ : eOr F G δ = orR G (F δ) := nr rfl
@[simp] theorem orR_t : orR G (.ok (.v (.fz (.bool true))) δ) = .ok (.fz (.bool true)) δ := nr rfl
@[simp] theorem orR_f : orR G (.ok (.v (.fz (.bool false))) δ) = G δ := nr rfl
@[simp] theorem orR_ex : orR G (.ex n δ) = .ex n δ := nr rfl
def ntR (r : R M) : R M := r.p fun d δ1 => match d with
  | .bool b => .ok (.fz (.bool (!b))) δ1
  | _ => .bad
@[simp] theorem eNt_ : eNt F δ = ntR (F δ) := nr rfl
@[simp] theorem ntR_ok {b : Bool} : ntR (.ok (.v (.fz (.bool b))) δ) = .ok (.fz (.bool (!b))) δ := nr rfl
@[simp] theorem ntR_ex : ntR (.ex n δ) = .ex n δ := nr rfl
def chR (g g' : PD → PD → Option M) (G Hh : EF) (r : R M) : R M := r.p fun x δ1 => (G δ1).p fun y δ2 => match g x y with
  | some (.v (.fz (.bool true))) => (Hh δ2).p fun u δ3 => match g' y u with
    | some m => .ok m δ3
    | none => .bad
  | some (.v (.fz (.bool false))) => .ok (.fz (.bool false)) δ2
  | _ => .bad
def chK (g g' : PD → PD → Option M) (Hh : EF) (x : PD) (r : R M) : R M := r.p fun y δ2 => match g x y with
  | some (.v (.fz (.bool true))) => (Hh δ2).p fun u δ3 => match g' y u with
    | some m => .ok m δ3
    | none => .bad
  | some (.v (.fz (.bool false))) => .ok (.fz (.bool false)) δ2
  | _ => .bad
def chL (g' : PD → PD → Option M) (Hh : EF) (y : PD) (o : Option M) (δ : Env') : R M := match o with
  | some (.v (.fz (.bool true))) => b2K g' y (Hh δ)
  | some (.v (.fz (.bool false))) => .ok (.fz (.bool false)) δ
  | _ => .bad
@[simp] theorem eCh_ : eCh g g' F G Hh δ = chR g g' G Hh (F δ) := nr rfl
@[simp] theorem chR_ok : chR g g' G Hh (.ok (.v l) δ) = chK g g' Hh l.pd (G δ) := nr rfl
@[simp] theorem chK_ok : chK g g' Hh d (.ok (.v l) δ) = chL g' Hh l.pd (g d l.pd) δ := nr rfl
@[simp] theorem chL_t : chL g' Hh d (some (.v (.fz (.bool true)))) δ = b2K g' d (Hh δ) := nr rfl
@[simp] theorem chL_f : chL g' Hh d (some (.v (.fz (.bool false)))) δ = .ok (.fz (.bool false)) δ := nr rfl
def ifR (F G : EF) (r : R Bool) : R M := r.bind fun b δ1 => if b then F δ1 else G δ1
@[simp] theorem eIf_ : eIf A F G δ = ifR F G (A δ) := nr rfl
@[simp] theorem ifR_ok {b : Bool} : ifR F G (.ok b δ) = if b then F δ else G δ := nr rfl
@[simp] theorem ifR_t : ifR F G (.ok true δ) = F δ := nr rfl
@[simp] theorem ifR_f : ifR F G (.ok false δ) = G δ := nr rfl
@[simp] theorem ifR_ex : ifR F G (.ex n δ) = .ex n δ := nr rfl
/-! arguments -/
def avR (Af : AF) (r : R M) : R (List FS.Arg) := r.bind fun m δ1 => (Af δ1).bind fun as δ2 => .ok (.val m.frz :: as) δ2
def avK (m : M) (r : R (List FS.Arg)) : R (List FS.Arg) := r.bind fun as δ2 => .ok (.val m.frz :: as) δ2
@[simp] theorem aN_ : aN δ = .ok [] δ := nr rfl
@[simp] theorem aV_ : aV F Af δ = avR Af (F δ) := nr rfl
@[simp] theorem avR_ok : avR Af (.ok m δ) = avK m (Af δ) := nr rfl
@[simp] theorem avR_ex : avR Af (.ex n δ) = .ex n δ := nr rfl
@[simp] theorem avK_ok : avK m (.ok as δ) = .ok (.val m.frz :: as) δ := nr rfl
@[simp] theorem avK_ex : avK m (.ex n δ) = .ex n δ := nr rfl
def aiR (i : Nat) (Af : AF) (o : Option (Option M)) (δ : Env') : R (List FS.Arg) := match o with
  | some (some _) => (Af δ).bind fun as δ2 => .ok (.io i :: as) δ2
  | _ => .bad
def aiK (i : Nat) (r : R (List FS.Arg)) : R (List FS.Arg) := r.bind fun as δ2 => .ok (.io i :: as) δ2
@[simp] theorem aIo_ : aIo i Af δ = aiR i Af δ[i]? δ := nr rfl
@[simp] theorem aiR_ok : aiR i Af (some (some m)) δ = aiK i (Af δ) := nr rfl
@[simp] theorem aiK_ok : aiK i (.ok as δ) = .ok (.io i :: as) δ := nr rfl
@[simp] theorem aiK_ex : aiK i (.ex n δ) = .ex n δ := nr rfl
def dsR (g : List PD → Option M) (r : R (List FS.Arg)) : R M := r.bind fun as δ1 => match pds as with
  | some ds => match g ds with
    | some m => .ok m δ1
    | none => .bad
  | none => .bad
def dsK (g : List PD → Option M) (o : Option (List PD)) (δ : Env') : R M := match o with
  | some ds => res (g ds) δ
  | none => .bad
@[simp] theorem eDs_ : eDs gs Af δ = dsR gs (Af δ) := nr rfl
@[simp] theorem dsR_ok : dsR gs (.ok as δ) = dsK gs (pds as) δ := nr rfl
@[simp] theorem dsR_ex : dsR gs (.ex n δ) = .ex n δ := nr rfl
@[simp] theorem dsK_ok : dsK gs (some ds) δ = res (gs ds) δ := nr rfl
@[simp] theorem pds_nil : pds [] = some [] := nr rfl
@[simp] theorem pds_cons : pds (.val (.v l) :: as) = (pds as).map fun ds => l.pd :: ds := nr rfl
/-! calls -/
def clR (sem : Sem) (r : R (List FS.Arg)) : R M := r.bind fun as δ1 => match takeA as δ1 with
  | none => .bad
  | some p => match sem p.1 with
    | .ret m ms' => .ok m (putA as ms' p.2)
    | .ex n ms' => .ex n (putA as ms' p.2)
    | .bad => .bad
def clK (sem : Sem) (as : List FS.Arg) (o : Option (List M × Env')) : R M := match o with
  | none => .bad
  | some p => match sem p.1 with
    | .ret m ms' => .ok m (putA as ms' p.2)
    | .ex n ms' => .ex n (putA as ms' p.2)
    | .bad => .bad
def clL (as : List FS.Arg) (δ : Env') (r : FR) : R M := match r with
  | .ret m ms' => .ok m (putA as ms' δ)
  | .ex n ms' => .ex n (putA as ms' δ)
  | .bad => .bad
variable {sem : Sem} {ms ms' : List M}
@[simp] theorem eCl_ : eCl sem Af δ = clR sem (Af δ) := nr rfl
@[simp] theorem clR_ok : clR sem (.ok as δ) = clK sem as (takeA as δ) := nr rfl
@[simp] theorem clR_ex : clR sem (.ex n δ) = .ex n δ := nr rfl
@[simp] theorem clK_ok : clK sem as (some (ms, δ)) = clL as δ (sem ms) := nr rfl
@[simp] theorem clL_ret : clL as δ (.ret m ms) = .ok m (putA as ms δ) := nr rfl
@[simp] theorem clL_ex : clL as δ (.ex n ms) = .ex n (putA as ms δ) := nr rfl
@[simp] theorem takeA_nil : takeA [] δ = some ([], δ) := nr rfl
@[simp] theorem takeA_val : takeA (.val m :: as) δ = (takeA as δ).map fun q => (m :: q.1, q.2) := nr rfl
def taR (i : Nat) (as : List FS.Arg) (o : Option (Option M)) (δ : Env') : Option (List M × Env') := match o with
  | some (some m) => (takeA as (δ.set i none)).map fun q => (m :: q.1, q.2)
  | _ => none
@[simp] theorem takeA_io : takeA (.io i :: as) δ = taR i as δ[i]? δ := nr rfl
@[simp] theorem taR_ok : taR i as (some (some m)) δ = (takeA as (δ.set i none)).map fun q => (m :: q.1, q.2) := nr rfl
@[simp] theorem putA_nil : putA [] [] δ = δ := nr rfl
@[simp] theorem putA_val : putA (.val m :: as) (m' :: ms) δ = putA as ms δ := nr rfl
@[simp] theorem putA_io : putA (.io i :: as) (m' :: ms) δ = (putA as ms δ).set i (some m') := nr rfl
def c0R (δ : Env') (r : FR) : R M := match r with
  | .ret m _ => .ok m δ
  | _ => .bad
@[simp] theorem eCl0_ : eCl0 sem δ = c0R δ (sem []) := nr rfl
@[simp] theorem c0R_ret : c0R δ (.ret m ms) = .ok m δ := nr rfl
/-! slices -/
def slR (Lo Hi : OF) (r : R M) : R M := r.p fun d δ1 => (Lo δ1).bind fun lo δ2 => (Hi δ2).bind fun hi δ3 => res (gSl d lo hi) δ3
def slK (d : PD) (Hi : OF) (r : R (Option Int)) : R M := r.bind fun lo δ2 => (Hi δ2).bind fun hi δ3 => res (gSl d lo hi) δ3
def slL (d : PD) (lo : Option Int) (r : R (Option Int)) : R M := r.bind fun hi δ3 => res (gSl d lo hi) δ3
variable {Lo Hi : OF} {o lo hi : Option Int}
@[simp] theorem eSl_ : eSl F Lo Hi δ = slR Lo Hi (F δ) := nr rfl
@[simp] theorem slR_ok : slR Lo Hi (.ok (.v l) δ) = slK l.pd Hi (Lo δ) := nr rfl
@[simp] theorem slK_ok : slK d Hi (.ok lo δ) = slL d lo (Hi δ) := nr rfl
@[simp] theorem slL_ok : slL d lo (.ok hi δ) = res (gSl d lo hi) δ := nr rfl
@[simp] theorem oN_ : oN δ = .ok none δ := nr rfl
def oeR (r : R M) : R (Option Int) := r.bind fun m δ1 => match m with
  | .v (.fz (.int i)) => .ok (some i) δ1
  | _ => .bad
@[simp] theorem oE_ : oE F δ = oeR (F δ) := nr rfl
@[simp] theorem oeR_ok {i : Int} : oeR (.ok (.v (.fz (.int i))) δ) = .ok (some i) δ := nr rfl
/-! [..] * n -/
def mlR (G : EF) (r : R M) : R M := r.bind fun m δ1 => (G δ1).p fun d δ2 => res (gMulL m d) δ2
def mlK (m : M) (r : R M) : R M := r.p fun d δ2 => res (gMulL m d) δ2
@[simp] theorem eMulL_ : eMulL F G δ = mlR G (F δ) := nr rfl
@[simp] theorem mlR_ok : mlR G (.ok m δ) = mlK m (G δ) := nr rfl
@[simp] theorem mlK_ok : mlK m (.ok (.v l) δ) = res (gMulL m l.pd) δ := nr rfl
/-! tests -/
def teR (r : R M) : R Bool := r.p fun d δ1 => match d with
  | .bool b => .ok b δ1
  | _ => .bad
@[simp] theorem tE_ : tE F δ = teR (F δ) := nr rfl
@[simp] theorem teR_ok {b : Bool} : teR (.ok (.v (.fz (.bool b))) δ) = .ok b δ := nr rfl
@[simp] theorem teR_ex : teR (.ex n δ) = .ex n δ := nr rfl
def ttR (r : R M) : R Bool := r.p fun d δ1 => match truD d with
  | some b => .ok b δ1
  | none => .bad
def ttK (o : Option Bool) (δ : Env') : R Bool := match o with
  | some b => .ok b δ
  | none => .bad
@[simp] theorem tTru_ : tTru F δ = ttR (F δ) := nr rfl
@[simp] theorem ttR_ok : ttR (.ok (.v l) δ) = ttK (truD l.pd) δ := nr rfl
@[simp] theorem ttR_ex : ttR (.ex n δ) = .ex n δ := nr rfl
@[simp] theorem ttK_ok {b : Bool} : ttK (some b) δ = .ok b δ := nr rfl
def tnR (r : R Bool) : R Bool := r.bind fun b δ1 => .ok (!b) δ1
@[simp] theorem tNt_ : tNt A δ = tnR (A δ) := nr rfl
@[simp] theorem tnR_ok {b : Bool} : tnR (.ok b δ) = .ok (!b) δ := nr rfl
@[simp] theorem tnR_ex : tnR (.ex n δ) = .ex n δ := nr rfl
def taN (B : BF) (r : R Bool) : R Bool := r.bind fun b δ1 => if b then B δ1 else .ok false δ1
@[simp] theorem tAn_ : tAn A B δ = taN B (A δ) := nr rfl
@[simp] theorem taN_t : taN B (.ok true δ) = B δ := nr rfl
@[simp] theorem taN_f : taN B (.ok false δ) = .ok false δ := nr rfl
@[simp] theorem taN_ex : taN B (.ex n δ) = .ex n δ := nr rfl
def toR (B : BF) (r : R Bool) : R Bool := r.bind fun b δ1 => if b then .ok true δ1 else B δ1
@[simp] theorem tOr_ : tOr' A B δ = toR B (A δ) := nr rfl
@[simp] theorem toR_t : toR B (.ok true δ) = .ok true δ := nr rfl
@[simp] theorem toR_f : toR B (.ok false δ) = B δ := nr rfl
@[simp] theorem toR_ex : toR B (.ex n δ) = .ex n δ := nr rfl
@[simp] theorem tY_ : tY δ = .ok true δ := nr rfl
/-! statements -/
def sqR (T : SF) (r : SR) : SR := match r with
  | .nx δ1 => T δ1
  | r => r
@[simp] theorem sSq_ : sSq S T δ = sqR T (S δ) := by unfold sSq sqR; cases S δ <;> rfl
@[simp] theorem sqR_nx : sqR T (.nx δ) = T δ := nr rfl
@[simp] theorem sqR_rt : sqR T (.rt m δ) = .rt m δ := nr rfl
@[simp] theorem sqR_ex : sqR T (.ex n δ) = .ex n δ := nr rfl
@[simp] theorem sqR_bk : sqR T (.bk δ) = .bk δ := nr rfl
@[simp] theorem sqR_ct : sqR T (.ct δ) = .ct δ := nr rfl
@[simp] theorem sNl_ : sNl δ = .nx δ := nr rfl
@[simp] theorem sBk_ : sBk δ = .bk δ := nr rfl
@[simp] theorem sCt_ : sCt δ = .ct δ := nr rfl
@[simp] theorem sRn_ : sRn δ = .rt (.fz .none) δ := nr rfl
@[simp] theorem sRs_ : sRs n δ = .ex n δ := nr rfl
def exR (r : R M) : SR := r.s fun _ δ1 => .nx δ1
@[simp] theorem sEx_ : sEx F δ = exR (F δ) := nr rfl
@[simp] theorem exR_ok : exR (.ok m δ) = .nx δ := nr rfl
@[simp] theorem exR_ex : exR (.ex n δ) = .ex n δ := nr rfl
def rtR (r : R M) : SR := r.s fun m δ1 => .rt m δ1
@[simp] theorem sRt_ : sRt F δ = rtR (F δ) := nr rfl
@[simp] theorem rtR_ok : rtR (.ok m δ) = .rt m δ := nr rfl
@[simp] theorem rtR_ex : rtR (.ex n δ) = .ex n δ := nr rfl
def siR (S T : SF) (r : R Bool) : SR := r.s fun b δ1 => if b then S δ1 else T δ1
@[simp] theorem sIf_ : sIf A S T δ = siR S T (A δ) := nr rfl
@[simp] theorem siR_ok {b : Bool} : siR S T (.ok b δ) = if b then S δ else T δ := nr rfl
@[simp] theorem siR_t : siR S T (.ok true δ) = S δ := nr rfl
@[simp] theorem siR_f : siR S T (.ok false δ) = T δ := nr rfl
@[simp] theorem siR_ex : siR S T (.ex n δ) = .ex n δ := nr rfl
def asR (i : Nat) (r : R M) : SR := r.s fun m δ1 => if i < δ1.length then .nx (δ1.set i (some m)) else .bad
@[simp] theorem sAs_ : sAs i F δ = asR i (F δ) := nr rfl
@[simp] theorem asR_ok : asR i (.ok m δ) = if i < δ.length then .nx (δ.set i (some m)) else .bad := nr rfl
@[simp] theorem asR_ex : asR i (.ex n δ) = .ex n δ := nr rfl
variable {Gt : PD → Env' → Option Env'}
def agR (G : PD → Env' → Option Env') (r : R M) : SR := match r with
  | .ok (.v l) δ1 => (match G l.pd δ1 with
    | some δ2 => .nx δ2
    | none => .bad)
  | .ok _ _ => .bad
  | .ex n δ1 => .ex n δ1
  | .bad => .bad
def agK (o : Option Env') : SR := match o with
  | some δ2 => .nx δ2
  | none => .bad
@[simp] theorem sAg_ : sAg Gt F δ = agR Gt (F δ) := nr rfl
@[simp] theorem agR_ok : agR Gt (.ok (.v l) δ) = agK (Gt l.pd δ) := nr rfl
@[simp] theorem agR_ex : agR Gt (.ex n δ) = .ex n δ := nr rfl
@[simp] theorem agK_ok : agK (some δ) = .nx δ := nr rfl
@[simp] theorem gN_ : gN i d δ = if i < δ.length then some (δ.set i (some (.fz d))) else none := nr rfl
@[simp] theorem gUp_t {is : List Nat} : gUp is (.tuple ds) δ = setAll is ds δ := nr rfl
@[simp] theorem gUp_l {is : List Nat} : gUp is (.list ds) δ = setAll is ds δ := nr rfl
@[simp] theorem setAll_nil : setAll [] [] δ = some δ := nr rfl
@[simp] theorem setAll_cons {is : List Nat} : setAll (i :: is) (d :: ds) δ = if i < δ.length then setAll is ds (δ.set i (some (.fz d))) else none := nr rfl
def prR (is : List Nat) (r : R (List FS.Arg)) : SR := r.s fun as δ1 => match setAs is as δ1 with
  | some δ2 => .nx δ2
  | none => .bad
@[simp] theorem sPar_ {is : List Nat} : sPar is Af δ = prR is (Af δ) := nr rfl
@[simp] theorem prR_ok {is : List Nat} : prR is (.ok as δ) = agK (setAs is as δ) := nr rfl
@[simp] theorem prR_ex {is : List Nat} : prR is (.ex n δ) = .ex n δ := nr rfl
@[simp] theorem setAs_nil : setAs [] [] δ = some δ := nr rfl
@[simp] theorem setAs_cons {is : List Nat} : setAs (i :: is) (.val m :: as) δ = if i < δ.length then setAs is as (δ.set i (some m)) else none := nr rfl
/-! own lists -/
def apR (i : Nat) (F : EF) (o : Option (Option M)) (δ : Env') : SR := match o with
  | some (some (.v (.lst _))) => (F δ).s fun m δ1 => (match m, δ1[i]? with
    | .v l, some (some (.v (.lst ls))) => if ls.length < big then .nx (δ1.set i (some (.lst (ls ++ [l])))) else .bad
    | _, _ => .bad)
  | _ => .bad
def apK (i : Nat) (r : R M) : SR := r.s fun m δ1 => (match m, δ1[i]? with
    | .v l, some (some (.v (.lst ls))) => if ls.length < big then .nx (δ1.set i (some (.lst (ls ++ [l])))) else .bad
    | _, _ => .bad)
def apL (i : Nat) (l : L) (o : Option (Option M)) (δ : Env') : SR := match o with
    | some (some (.v (.lst ls))) => if ls.length < big then .nx (δ.set i (some (.lst (ls ++ [l])))) else .bad
    | _ => .bad
@[simp] theorem sApp_ : sApp i F δ = apR i F δ[i]? δ := nr rfl
@[simp] theorem apR_ok {ls : List L} : apR i F (some (some (.v (.lst ls)))) δ = apK i (F δ) := nr rfl
@[simp] theorem apK_ok : apK i (.ok (.v l) δ) = apL i l δ[i]? δ := by
  show (match (M.v l), δ[i]? with
    | .v l, some (some (.v (.lst ls))) => if ls.length < big then SR.nx (δ.set i (some (.lst (ls ++ [l])))) else .bad
    | _, _ => .bad) = _
  unfold apL
  generalize δ[i]? = o
  rcases o with _ | _ | (_ | _ | _) | _ <;> rfl
@[simp] theorem apK_ex : apK i (.ex n δ) = .ex n δ := nr rfl
@[simp] theorem apL_ok {ls : List L} : apL i l (some (some (.v (.lst ls)))) δ = if ls.length < big then .nx (δ.set i (some (.lst (ls ++ [l])))) else .bad := nr rfl
def stR (i : Nat) (Fi : EF) (r : R M) : SR := r.s fun m δ1 => match δ1[i]? with
  | some (some _) => (Fi δ1).s fun mi δ2 => stK i m mi δ2
  | _ => .bad
def stA (i : Nat) (Fi : EF) (m : M) (o : Option (Option M)) (δ : Env') : SR := match o with
  | some (some _) => (Fi δ).s fun mi δ2 => stK i m mi δ2
  | _ => .bad
def stB (i : Nat) (m : M) (r : R M) : SR := r.s fun mi δ2 => stK i m mi δ2
def stC (i : Nat) (l : L) (k : Int) (o : Option (Option M)) (δ : Env') : SR := match o with
  | some (some (.v (.lst ls))) => (match ixN ls.length k with
    | some j => .nx (δ.set i (some (.lst (ls.set j l))))
    | none => .bad)
  | _ => .bad
variable {Fi Fv : EF}
@[simp] theorem sSt_ : sSt i Fi Fv δ = stR i Fi (Fv δ) := nr rfl
@[simp] theorem stR_ok : stR i Fi (.ok m δ) = stA i Fi m δ[i]? δ := nr rfl
@[simp] theorem stR_ex : stR i Fi (.ex n δ) = .ex n δ := nr rfl
@[simp] theorem stA_ok {m' : M} : stA i Fi m (some (some m')) δ = stB i m (Fi δ) := nr rfl
@[simp] theorem stB_ok {k : Int} : stB i (.v l) (.ok (.v (.fz (.int k))) δ) = stC i l k δ[i]? δ := by
  show stK i (.v l) (.v (.fz (.int k))) δ = _
  unfold stC stK
  generalize δ[i]? = o
  rcases o with _ | _ | (_ | _ | _) | _ <;> rfl
def stD (i : Nat) (l : L) (ls : List L) (o : Option Nat) (δ : Env') : SR := match o with
    | some j => .nx (δ.set i (some (.lst (ls.set j l))))
    | none => .bad
@[simp] theorem stC_ok {k : Int} {ls : List L} : stC i l k (some (some (.v (.lst ls)))) δ = stD i l ls (ixN ls.length k) δ := nr rfl
@[simp] theorem stD_ok {ls : List L} : stD i l ls (some j) δ = .nx (δ.set i (some (.lst (ls.set j l)))) := nr rfl
/-! walks -/
variable {If : IF} {rng : List PD → Option (List PD)}
def foR (G : PD → Env' → Option Env') (S : SF) (r : R (List PD)) : SR := r.s fun ds δ1 => sLoop G S ds δ1
@[simp] theorem sFor_ : sFor If Gt S δ = foR Gt S (If δ) := nr rfl
@[simp] theorem foR_ok : foR Gt S (.ok ds δ) = sLoop Gt S ds δ := nr rfl
@[simp] theorem foR_ex : foR Gt S (.ex n δ) = .ex n δ := nr rfl
def ieR (r : R M) : R (List PD) := r.p fun d δ1 => match seqD d with
  | some ds => .ok ds δ1
  | none => .bad
def ieK (o : Option (List PD)) (δ : Env') : R (List PD) := match o with
  | some ds => .ok ds δ
  | none => .bad
@[simp] theorem iE_ : iE F δ = ieR (F δ) := nr rfl
@[simp] theorem ieR_ok : ieR (.ok (.v l) δ) = ieK (seqD l.pd) δ := nr rfl
@[simp] theorem ieR_ex : ieR (.ex n δ) = .ex n δ := nr rfl
@[simp] theorem ieK_ok : ieK (some ds) δ = .ok ds δ := nr rfl
def irR (rng : List PD → Option (List PD)) (r : R (List FS.Arg)) : R (List PD) := r.bind fun as δ1 => match pds as with
  | some ds => match rng ds with
    | some rs => .ok rs δ1
    | none => .bad
  | none => .bad
def irK (rng : List PD → Option (List PD)) (o : Option (List PD)) (δ : Env') : R (List PD) := match o with
  | some ds => ieK (rng ds) δ
  | none => .bad
@[simp] theorem iR_ : iR rng Af δ = irR rng (Af δ) := nr rfl
@[simp] theorem irR_ok : irR rng (.ok as δ) = irK rng (pds as) δ := nr rfl
@[simp] theorem irK_ok : irK rng (some ds) δ = ieK (rng ds) δ := nr rfl
def lcR (own : List Nat) (G : PD → Env' → Option Env') (T : BF) (E : EF) (r : R (List PD)) : R M := r.bind fun ds δ1 =>
  if keepOk δ1 own = true ∧ ds.length ≤ big then match cLoop own G T E ds (wipeE δ1 own) with
    | some r => .ok (.lst r.1) (backE δ1 own (wipeE r.2 own))
    | none => .bad
  else .bad
def lcK (own : List Nat) (δ1 : Env') (o : Option (List L × Env')) : R M := match o with
    | some r => .ok (.lst r.1) (backE δ1 own (wipeE r.2 own))
    | none => .bad
variable {own : List Nat} {Ef : EF} {Tf : BF} {ls : List L}
@[simp] theorem eLc_ : eLc own If Gt Tf Ef δ = lcR own Gt Tf Ef (If δ) := nr rfl
@[simp] theorem lcR_ok : lcR own Gt Tf Ef (.ok ds δ) = if keepOk δ own = true ∧ ds.length ≤ big then lcK own δ (cLoop own Gt Tf Ef ds (wipeE δ own)) else .bad := nr rfl
@[simp] theorem lcR_ex : lcR own Gt Tf Ef (.ex n δ) = .ex n δ := nr rfl
@[simp] theorem lcK_ok : lcK own δ (some (ls, δ1)) = .ok (.lst ls) (backE δ own (wipeE δ1 own)) := nr rfl
/-! try -/
variable {hs : List (Nat × SF)}
def trR (hs : List (Nat × SF)) (r : SR) : SR := match r with
  | .ex n δ1 => pick hs n δ1
  | r => r
@[simp] theorem sTr_ : sTr S hs δ = trR hs (S δ) := by unfold sTr trR; cases S δ <;> rfl
@[simp] theorem trR_nx : trR hs (.nx δ) = .nx δ := nr rfl
@[simp] theorem trR_rt : trR hs (.rt m δ) = .rt m δ := nr rfl
@[simp] theorem trR_bk : trR hs (.bk δ) = .bk δ := nr rfl
@[simp] theorem trR_ct : trR hs (.ct δ) = .ct δ := nr rfl
@[simp] theorem trR_ex : trR hs (.ex n δ) = pick hs n δ := nr rfl
@[simp] theorem pick_nil : pick [] n δ = .ex n δ := nr rfl
@[simp] theorem pick_cons {c : Nat} : pick ((c, S) :: hs) n δ = if subX n c then S δ else pick hs n δ := nr rfl
@[simp] theorem noExs_nil : noExs [] = [] := nr rfl
@[simp] theorem noExs_cons {c : Nat} : noExs ((c, S) :: hs) = (c, noEx S) :: noExs hs := nr rfl
def neR (r : SR) : SR := match r with
  | .ex _ _ => .bad
  | r => r
@[simp] theorem noEx_ : noEx S δ = neR (S δ) := by unfold noEx neR; cases S δ <;> rfl
@[simp] theorem neR_nx : neR (.nx δ) = .nx δ := nr rfl
@[simp] theorem neR_rt : neR (.rt m δ) = .rt m δ := nr rfl
/-! defs -/
variable {np : Nat} {io : List Nat}
def soR (io : List Nat) (ms : List M) (r : SR) : FR := frOf io ms r
theorem semOf_ (h : ms.length = np) (h2 : okArgs io 0 ms = true) : semOf n np io S ms = frOf io ms (S (ms.map some ++ List.replicate (n - np) none)) := if_pos ⟨h, h2⟩
theorem frOf_nx : frOf io ms (.nx δ) = (match backA io 0 ms δ with
    | some ms' => .ret (.fz .none) ms'
    | none => .bad) := rfl
theorem frOf_rt : frOf io ms (.rt m δ) = (match backA io 0 ms δ with
    | some ms' => .ret m ms'
    | none => .bad) := rfl
theorem frOf_ex : frOf io ms (.ex n δ) = (match backA io 0 ms δ with
    | some ms' => .ex n ms'
    | none => .bad) := rfl
@[simp] theorem backA_nil : backA io j [] δ = some [] := nr rfl
/-- nothing is lent -/
theorem backA_no : ∀ {ms : List M} {j : Nat} {δ : Env'}, ms.length ≤ δ.length → backA [] j ms δ = some ms
  | [], _, _, _ => rfl
  | m :: ms, j, o :: δ, h => by
    unfold backA
    rw [if_neg (by simp), backA_no (by simpa using h)]
    rfl
/-! frozen, plain -/
@[simp] theorem frz_fz : (M.v (.fz d)).frz = .v (.fz d) := nr rfl
@[simp] theorem pd_fz : (L.fz d).pd = d := nr rfl
@[simp] theorem frz_lst : (M.v (.lst ls)).frz = .v (.fz (.list (L.pds ls))) := nr rfl
@[simp] theorem pd_lst : (L.lst ls).pd = .list (L.pds ls) := nr rfl
@[simp] theorem pds_map : ∀ ds : List PD, L.pds (ds.map .fz) = ds
  | [] => rfl
  | d :: ds => by show d :: L.pds (ds.map .fz) = _; rw [pds_map ds]
@[simp] theorem pds_comp {β : Type} {f : β → PD} : ∀ xs : List β, L.pds (xs.map (L.fz ∘ f)) = xs.map f
  | [] => rfl
  | x :: r => by show f x :: L.pds (r.map (L.fz ∘ f)) = _; rw [pds_comp r]; rfl
@[simp] theorem pds_nil' : L.pds [] = [] := nr rfl
@[simp] theorem pds_cons' : L.pds (l :: ls) = l.pd :: L.pds ls := nr rfl
@[simp] theorem frzE_nil : frzE [] = [] := nr rfl
@[simp] theorem frzE_no : frzE (none :: δ) = none :: frzE δ := nr rfl
@[simp] theorem frzE_yes : frzE (some m :: δ) = some m.frz :: frzE δ := nr rfl
/-! a loop over written items -/
def loL (G : PD → Env' → Option Env') (S : SF) (ds : List PD) (r : SR) : SR := match r with
  | .nx δ2 => sLoop G S ds δ2
  | .ct δ2 => sLoop G S ds δ2
  | .bk δ2 => .nx δ2
  | r => r
def loK (G : PD → Env' → Option Env') (S : SF) (ds : List PD) (o : Option Env') : SR := match o with
  | none => .bad
  | some δ1 => loL G S ds (S δ1)
@[simp] theorem sLoop_nil : sLoop Gt S [] δ = .nx δ := nr rfl
@[simp] theorem sLoop_cons : sLoop Gt S (d :: ds) δ = loK Gt S ds (Gt d δ) := by
  show (match Gt d δ with
    | none => SR.bad
    | some δ1 => match S δ1 with
      | .nx δ2 => sLoop Gt S ds δ2
      | .ct δ2 => sLoop Gt S ds δ2
      | .bk δ2 => .nx δ2
      | r => r) = _
  cases Gt d δ with
  | none => rfl
  | some δ1 =>
    show (match S δ1 with
      | .nx δ2 => sLoop Gt S ds δ2
      | .ct δ2 => sLoop Gt S ds δ2
      | .bk δ2 => .nx δ2
      | r => r) = loL Gt S ds (S δ1)
    cases S δ1 <;> rfl
@[simp] theorem loK_ok : loK Gt S ds (some δ) = loL Gt S ds (S δ) := nr rfl
@[simp] theorem loL_nx : loL Gt S ds (.nx δ) = sLoop Gt S ds δ := nr rfl
@[simp] theorem loL_ct : loL Gt S ds (.ct δ) = sLoop Gt S ds δ := nr rfl
@[simp] theorem loL_bk : loL Gt S ds (.bk δ) = .nx δ := nr rfl
@[simp] theorem loL_rt : loL Gt S ds (.rt m δ) = .rt m δ := nr rfl
@[simp] theorem loL_ex : loL Gt S ds (.ex n δ) = .ex n δ := nr rfl
/-! places -/
@[simp] theorem at0 {α : Type} {a0 : α} {r : List α} : (a0 :: r)[0]? = some a0 := nr rfl
@[simp] theorem at1 {α : Type} {a0 a1 : α} {r : List α} : (a0 :: a1 :: r)[1]? = some a1 := nr rfl
@[simp] theorem at2 {α : Type} {a0 a1 a2 : α} {r : List α} : (a0 :: a1 :: a2 :: r)[2]? = some a2 := nr rfl
@[simp] theorem at3 {α : Type} {a0 a1 a2 a3 : α} {r : List α} : (a0 :: a1 :: a2 :: a3 :: r)[3]? = some a3 := nr rfl
@[simp] theorem at4 {α : Type} {a0 a1 a2 a3 a4 : α} {r : List α} : (a0 :: a1 :: a2 :: a3 :: a4 :: r)[4]? = some a4 := nr rfl
@[simp] theorem at5 {α : Type} {a0 a1 a2 a3 a4 a5 : α} {r : List α} : (a0 :: a1 :: a2 :: a3 :: a4 :: a5 :: r)[5]? = some a5 := nr rfl
@[simp] theorem at6 {α : Type} {a0 a1 a2 a3 a4 a5 a6 : α} {r : List α} : (a0 :: a1 :: a2 :: a3 :: a4 :: a5 :: a6 :: r)[6]? = some a6 := nr rfl
@[simp] theorem at7 {α : Type} {a0 a1 a2 a3 a4 a5 a6 a7 : α} {r : List α} : (a0 :: a1 :: a2 :: a3 :: a4 :: a5 :: a6 :: a7 :: r)[7]? = some a7 := nr rfl
@[simp] theorem at8 {α : Type} {a0 a1 a2 a3 a4 a5 a6 a7 a8 : α} {r : List α} : (a0 :: a1 :: a2 :: a3 :: a4 :: a5 :: a6 :: a7 :: a8 :: r)[8]? = some a8 := nr rfl
@[simp] theorem at9 {α : Type} {a0 a1 a2 a3 a4 a5 a6 a7 a8 a9 : α} {r : List α} : (a0 :: a1 :: a2 :: a3 :: a4 :: a5 :: a6 :: a7 :: a8 :: a9 :: r)[9]? = some a9 := nr rfl
@[simp] theorem at10 {α : Type} {a0 a1 a2 a3 a4 a5 a6 a7 a8 a9 a10 : α} {r : List α} : (a0 :: a1 :: a2 :: a3 :: a4 :: a5 :: a6 :: a7 :: a8 :: a9 :: a10 :: r)[10]? = some a10 := nr rfl
@[simp] theorem at11 {α : Type} {a0 a1 a2 a3 a4 a5 a6 a7 a8 a9 a10 a11 : α} {r : List α} : (a0 :: a1 :: a2 :: a3 :: a4 :: a5 :: a6 :: a7 :: a8 :: a9 :: a10 :: a11 :: r)[11]? = some a11 := nr rfl
@[simp] theorem at12 {α : Type} {a0 a1 a2 a3 a4 a5 a6 a7 a8 a9 a10 a11 a12 : α} {r : List α} : (a0 :: a1 :: a2 :: a3 :: a4 :: a5 :: a6 :: a7 :: a8 :: a9 :: a10 :: a11 :: a12 :: r)[12]? = some a12 := nr rfl
@[simp] theorem at13 {α : Type} {a0 a1 a2 a3 a4 a5 a6 a7 a8 a9 a10 a11 a12 a13 : α} {r : List α} : (a0 :: a1 :: a2 :: a3 :: a4 :: a5 :: a6 :: a7 :: a8 :: a9 :: a10 :: a11 :: a12 :: a13 :: r)[13]? = some a13 := nr rfl
@[simp] theorem at14 {α : Type} {a0 a1 a2 a3 a4 a5 a6 a7 a8 a9 a10 a11 a12 a13 a14 : α} {r : List α} : (a0 :: a1 :: a2 :: a3 :: a4 :: a5 :: a6 :: a7 :: a8 :: a9 :: a10 :: a11 :: a12 :: a13 :: a14 :: r)[14]? = some a14 := nr rfl
@[simp] theorem at15 {α : Type} {a0 a1 a2 a3 a4 a5 a6 a7 a8 a9 a10 a11 a12 a13 a14 a15 : α} {r : List α} : (a0 :: a1 :: a2 :: a3 :: a4 :: a5 :: a6 :: a7 :: a8 :: a9 :: a10 :: a11 :: a12 :: a13 :: a14 :: a15 :: r)[15]? = some a15 := nr rfl
@[simp] theorem at16 {α : Type} {a0 a1 a2 a3 a4 a5 a6 a7 a8 a9 a10 a11 a12 a13 a14 a15 a16 : α} {r : List α} : (a0 :: a1 :: a2 :: a3 :: a4 :: a5 :: a6 :: a7 :: a8 :: a9 :: a10 :: a11 :: a12 :: a13 :: a14 :: a15 :: a16 :: r)[16]? = some a16 := nr rfl
@[simp] theorem at17 {α : Type} {a0 a1 a2 a3 a4 a5 a6 a7 a8 a9 a10 a11 a12 a13 a14 a15 a16 a17 : α} {r : List α} : (a0 :: a1 :: a2 :: a3 :: a4 :: a5 :: a6 :: a7 :: a8 :: a9 :: a10 :: a11 :: a12 :: a13 :: a14 :: a15 :: a16 :: a17 :: r)[17]? = some a17 := nr rfl
@[simp] theorem at18 {α : Type} {a0 a1 a2 a3 a4 a5 a6 a7 a8 a9 a10 a11 a12 a13 a14 a15 a16 a17 a18 : α} {r : List α} : (a0 :: a1 :: a2 :: a3 :: a4 :: a5 :: a6 :: a7 :: a8 :: a9 :: a10 :: a11 :: a12 :: a13 :: a14 :: a15 :: a16 :: a17 :: a18 :: r)[18]? = some a18 := nr rfl
@[simp] theorem at19 {α : Type} {a0 a1 a2 a3 a4 a5 a6 a7 a8 a9 a10 a11 a12 a13 a14 a15 a16 a17 a18 a19 : α} {r : List α} : (a0 :: a1 :: a2 :: a3 :: a4 :: a5 :: a6 :: a7 :: a8 :: a9 :: a10 :: a11 :: a12 :: a13 :: a14 :: a15 :: a16 :: a17 :: a18 :: a19 :: r)[19]? = some a19 := nr rfl
@[simp] theorem at20 {α : Type} {a0 a1 a2 a3 a4 a5 a6 a7 a8 a9 a10 a11 a12 a13 a14 a15 a16 a17 a18 a19 a20 : α} {r : List α} : (a0 :: a1 :: a2 :: a3 :: a4 :: a5 :: a6 :: a7 :: a8 :: a9 :: a10 :: a11 :: a12 :: a13 :: a14 :: a15 :: a16 :: a17 :: a18 :: a19 :: a20 :: r)[20]? = some a20 := nr rfl
@[simp] theorem at21 {α : Type} {a0 a1 a2 a3 a4 a5 a6 a7 a8 a9 a10 a11 a12 a13 a14 a15 a16 a17 a18 a19 a20 a21 : α} {r : List α} : (a0 :: a1 :: a2 :: a3 :: a4 :: a5 :: a6 :: a7 :: a8 :: a9 :: a10 :: a11 :: a12 :: a13 :: a14 :: a15 :: a16 :: a17 :: a18 :: a19 :: a20 :: a21 :: r)[21]? = some a21 := nr rfl
@[simp] theorem at22 {α : Type} {a0 a1 a2 a3 a4 a5 a6 a7 a8 a9 a10 a11 a12 a13 a14 a15 a16 a17 a18 a19 a20 a21 a22 : α} {r : List α} : (a0 :: a1 :: a2 :: a3 :: a4 :: a5 :: a6 :: a7 :: a8 :: a9 :: a10 :: a11 :: a12 :: a13 :: a14 :: a15 :: a16 :: a17 :: a18 :: a19 :: a20 :: a21 :: a22 :: r)[22]? = some a22 := nr rfl
@[simp] theorem at23 {α : Type} {a0 a1 a2 a3 a4 a5 a6 a7 a8 a9 a10 a11 a12 a13 a14 a15 a16 a17 a18 a19 a20 a21 a22 a23 : α} {r : List α} : (a0 :: a1 :: a2 :: a3 :: a4 :: a5 :: a6 :: a7 :: a8 :: a9 :: a10 :: a11 :: a12 :: a13 :: a14 :: a15 :: a16 :: a17 :: a18 :: a19 :: a20 :: a21 :: a22 :: a23 :: r)[23]? = some a23 := nr rfl
@[simp] theorem fn1 {a0 : M} {x0 : Option M} {r : Env'} : frOf [] [a0] (.nx (x0 :: r)) = .ret (.fz .none) [a0] := nr rfl
@[simp] theorem ft1 {m a0 : M} {x0 : Option M} {r : Env'} : frOf [] [a0] (.rt m (x0 :: r)) = .ret m [a0] := nr rfl
@[simp] theorem fx1 {n : Nat} {a0 : M} {x0 : Option M} {r : Env'} : frOf [] [a0] (.ex n (x0 :: r)) = .ex n [a0] := nr rfl
@[simp] theorem fn2 {a0 a1 : M} {x0 x1 : Option M} {r : Env'} : frOf [] [a0, a1] (.nx (x0 :: x1 :: r)) = .ret (.fz .none) [a0, a1] := nr rfl
@[simp] theorem ft2 {m a0 a1 : M} {x0 x1 : Option M} {r : Env'} : frOf [] [a0, a1] (.rt m (x0 :: x1 :: r)) = .ret m [a0, a1] := nr rfl
@[simp] theorem fx2 {n : Nat} {a0 a1 : M} {x0 x1 : Option M} {r : Env'} : frOf [] [a0, a1] (.ex n (x0 :: x1 :: r)) = .ex n [a0, a1] := nr rfl
@[simp] theorem fn3 {a0 a1 a2 : M} {x0 x1 x2 : Option M} {r : Env'} : frOf [] [a0, a1, a2] (.nx (x0 :: x1 :: x2 :: r)) = .ret (.fz .none) [a0, a1, a2] := nr rfl
@[simp] theorem ft3 {m a0 a1 a2 : M} {x0 x1 x2 : Option M} {r : Env'} : frOf [] [a0, a1, a2] (.rt m (x0 :: x1 :: x2 :: r)) = .ret m [a0, a1, a2] := nr rfl
@[simp] theorem fx3 {n : Nat} {a0 a1 a2 : M} {x0 x1 x2 : Option M} {r : Env'} : frOf [] [a0, a1, a2] (.ex n (x0 :: x1 :: x2 :: r)) = .ex n [a0, a1, a2] := nr rfl
@[simp] theorem fn4 {a0 a1 a2 a3 : M} {x0 x1 x2 x3 : Option M} {r : Env'} : frOf [] [a0, a1, a2, a3] (.nx (x0 :: x1 :: x2 :: x3 :: r)) = .ret (.fz .none) [a0, a1, a2, a3] := nr rfl
@[simp] theorem ft4 {m a0 a1 a2 a3 : M} {x0 x1 x2 x3 : Option M} {r : Env'} : frOf [] [a0, a1, a2, a3] (.rt m (x0 :: x1 :: x2 :: x3 :: r)) = .ret m [a0, a1, a2, a3] := nr rfl
@[simp] theorem fx4 {n : Nat} {a0 a1 a2 a3 : M} {x0 x1 x2 x3 : Option M} {r : Env'} : frOf [] [a0, a1, a2, a3] (.ex n (x0 :: x1 :: x2 :: x3 :: r)) = .ex n [a0, a1, a2, a3] := nr rfl
@[simp] theorem fn5 {a0 a1 a2 a3 a4 : M} {x0 x1 x2 x3 x4 : Option M} {r : Env'} : frOf [] [a0, a1, a2, a3, a4] (.nx (x0 :: x1 :: x2 :: x3 :: x4 :: r)) = .ret (.fz .none) [a0, a1, a2, a3, a4] := nr rfl
@[simp] theorem ft5 {m a0 a1 a2 a3 a4 : M} {x0 x1 x2 x3 x4 : Option M} {r : Env'} : frOf [] [a0, a1, a2, a3, a4] (.rt m (x0 :: x1 :: x2 :: x3 :: x4 :: r)) = .ret m [a0, a1, a2, a3, a4] := nr rfl
@[simp] theorem fx5 {n : Nat} {a0 a1 a2 a3 a4 : M} {x0 x1 x2 x3 x4 : Option M} {r : Env'} : frOf [] [a0, a1, a2, a3, a4] (.ex n (x0 :: x1 :: x2 :: x3 :: x4 :: r)) = .ex n [a0, a1, a2, a3, a4] := nr rfl
@[simp] theorem fn6 {a0 a1 a2 a3 a4 a5 : M} {x0 x1 x2 x3 x4 x5 : Option M} {r : Env'} : frOf [] [a0, a1, a2, a3, a4, a5] (.nx (x0 :: x1 :: x2 :: x3 :: x4 :: x5 :: r)) = .ret (.fz .none) [a0, a1, a2, a3, a4, a5] := nr rfl
@[simp] theorem ft6 {m a0 a1 a2 a3 a4 a5 : M} {x0 x1 x2 x3 x4 x5 : Option M} {r : Env'} : frOf [] [a0, a1, a2, a3, a4, a5] (.rt m (x0 :: x1 :: x2 :: x3 :: x4 :: x5 :: r)) = .ret m [a0, a1, a2, a3, a4, a5] := nr rfl
@[simp] theorem fx6 {n : Nat} {a0 a1 a2 a3 a4 a5 : M} {x0 x1 x2 x3 x4 x5 : Option M} {r : Env'} : frOf [] [a0, a1, a2, a3, a4, a5] (.ex n (x0 :: x1 :: x2 :: x3 :: x4 :: x5 :: r)) = .ex n [a0, a1, a2, a3, a4, a5] := nr rfl
@[simp] theorem fn0 {r : Env'} : frOf [] [] (.nx r) = .ret (.fz .none) [] := nr rfl
@[simp] theorem ft0 {m : M} {r : Env'} : frOf [] [] (.rt m r) = .ret m [] := nr rfl
@[simp] theorem fi1 {m a b : M} {r : Env'} : frOf [0] [a] (.rt m (some b :: r)) = .ret m [b] := nr rfl
@[simp] theorem fi2 {m a b a1 : M} {x : Option M} {r : Env'} : frOf [0] [a, a1] (.rt m (some b :: x :: r)) = .ret m [b, a1] := nr rfl
@[simp] theorem fi3 {m a b a1 a2 : M} {x y : Option M} {r : Env'} : frOf [0] [a, a1, a2] (.rt m (some b :: x :: y :: r)) = .ret m [b, a1, a2] := nr rfl
@[simp] theorem fi4 {m a b a1 a2 a3 : M} {x y z : Option M} {r : Env'} : frOf [0] [a, a1, a2, a3] (.rt m (some b :: x :: y :: z :: r)) = .ret m [b, a1, a2, a3] := nr rfl
@[simp] theorem gt0 : FS.gTup [] = some (.fz (.tuple [])) := nr rfl
@[simp] theorem gl0 : FS.gLst [] = some (.lst []) := nr rfl
@[simp] theorem gt1 {a0 : PD} : FS.gTup [a0] = some (.fz (.tuple [a0])) := nr rfl
@[simp] theorem gl1 {a0 : PD} : FS.gLst [a0] = some (.lst [.fz a0]) := nr rfl
@[simp] theorem gt2 {a0 a1 : PD} : FS.gTup [a0, a1] = some (.fz (.tuple [a0, a1])) := nr rfl
@[simp] theorem gl2 {a0 a1 : PD} : FS.gLst [a0, a1] = some (.lst [.fz a0, .fz a1]) := nr rfl
@[simp] theorem gt3 {a0 a1 a2 : PD} : FS.gTup [a0, a1, a2] = some (.fz (.tuple [a0, a1, a2])) := nr rfl
@[simp] theorem gl3 {a0 a1 a2 : PD} : FS.gLst [a0, a1, a2] = some (.lst [.fz a0, .fz a1, .fz a2]) := nr rfl
@[simp] theorem gt4 {a0 a1 a2 a3 : PD} : FS.gTup [a0, a1, a2, a3] = some (.fz (.tuple [a0, a1, a2, a3])) := nr rfl
@[simp] theorem gl4 {a0 a1 a2 a3 : PD} : FS.gLst [a0, a1, a2, a3] = some (.lst [.fz a0, .fz a1, .fz a2, .fz a3]) := nr rfl
@[simp] theorem gt5 {a0 a1 a2 a3 a4 : PD} : FS.gTup [a0, a1, a2, a3, a4] = some (.fz (.tuple [a0, a1, a2, a3, a4])) := nr rfl
@[simp] theorem gl5 {a0 a1 a2 a3 a4 : PD} : FS.gLst [a0, a1, a2, a3, a4] = some (.lst [.fz a0, .fz a1, .fz a2, .fz a3, .fz a4]) := nr rfl
@[simp] theorem gt6 {a0 a1 a2 a3 a4 a5 : PD} : FS.gTup [a0, a1, a2, a3, a4, a5] = some (.fz (.tuple [a0, a1, a2, a3, a4, a5])) := nr rfl
@[simp] theorem gl6 {a0 a1 a2 a3 a4 a5 : PD} : FS.gLst [a0, a1, a2, a3, a4, a5] = some (.lst [.fz a0, .fz a1, .fz a2, .fz a3, .fz a4, .fz a5]) := nr rfl
@[simp] theorem gt7 {a0 a1 a2 a3 a4 a5 a6 : PD} : FS.gTup [a0, a1, a2, a3, a4, a5, a6] = some (.fz (.tuple [a0, a1, a2, a3, a4, a5, a6])) := nr rfl
@[simp] theorem gl7 {a0 a1 a2 a3 a4 a5 a6 : PD} : FS.gLst [a0, a1, a2, a3, a4, a5, a6] = some (.lst [.fz a0, .fz a1, .fz a2, .fz a3, .fz a4, .fz a5, .fz a6]) := nr rfl
@[simp] theorem gt8 {a0 a1 a2 a3 a4 a5 a6 a7 : PD} : FS.gTup [a0, a1, a2, a3, a4, a5, a6, a7] = some (.fz (.tuple [a0, a1, a2, a3, a4, a5, a6, a7])) := nr rfl
@[simp] theorem gl8 {a0 a1 a2 a3 a4 a5 a6 a7 : PD} : FS.gLst [a0, a1, a2, a3, a4, a5, a6, a7] = some (.lst [.fz a0, .fz a1, .fz a2, .fz a3, .fz a4, .fz a5, .fz a6, .fz a7]) := nr rfl
@[simp] theorem gt9 {a0 a1 a2 a3 a4 a5 a6 a7 a8 : PD} : FS.gTup [a0, a1, a2, a3, a4, a5, a6, a7, a8] = some (.fz (.tuple [a0, a1, a2, a3, a4, a5, a6, a7, a8])) := nr rfl
@[simp] theorem gl9 {a0 a1 a2 a3 a4 a5 a6 a7 a8 : PD} : FS.gLst [a0, a1, a2, a3, a4, a5, a6, a7, a8] = some (.lst [.fz a0, .fz a1, .fz a2, .fz a3, .fz a4, .fz a5, .fz a6, .fz a7, .fz a8]) := nr rfl
@[simp] theorem gt10 {a0 a1 a2 a3 a4 a5 a6 a7 a8 a9 : PD} : FS.gTup [a0, a1, a2, a3, a4, a5, a6, a7, a8, a9] = some (.fz (.tuple [a0, a1, a2, a3, a4, a5, a6, a7, a8, a9])) := nr rfl
@[simp] theorem gl10 {a0 a1 a2 a3 a4 a5 a6 a7 a8 a9 : PD} : FS.gLst [a0, a1, a2, a3, a4, a5, a6, a7, a8, a9] = some (.lst [.fz a0, .fz a1, .fz a2, .fz a3, .fz a4, .fz a5, .fz a6, .fz a7, .fz a8, .fz a9]) := nr rfl
@[simp] theorem gt11 {a0 a1 a2 a3 a4 a5 a6 a7 a8 a9 a10 : PD} : FS.gTup [a0, a1, a2, a3, a4, a5, a6, a7, a8, a9, a10] = some (.fz (.tuple [a0, a1, a2, a3, a4, a5, a6, a7, a8, a9, a10])) := nr rfl
@[simp] theorem gl11 {a0 a1 a2 a3 a4 a5 a6 a7 a8 a9 a10 : PD} : FS.gLst [a0, a1, a2, a3, a4, a5, a6, a7, a8, a9, a10] = some (.lst [.fz a0, .fz a1, .fz a2, .fz a3, .fz a4, .fz a5, .fz a6, .fz a7, .fz a8, .fz a9, .fz a10]) := nr rfl
@[simp] theorem gt12 {a0 a1 a2 a3 a4 a5 a6 a7 a8 a9 a10 a11 : PD} : FS.gTup [a0, a1, a2, a3, a4, a5, a6, a7, a8, a9, a10, a11] = some (.fz (.tuple [a0, a1, a2, a3, a4, a5, a6, a7, a8, a9, a10, a11])) := nr rfl
@[simp] theorem gl12 {a0 a1 a2 a3 a4 a5 a6 a7 a8 a9 a10 a11 : PD} : FS.gLst [a0, a1, a2, a3, a4, a5, a6, a7, a8, a9, a10, a11] = some (.lst [.fz a0, .fz a1, .fz a2, .fz a3, .fz a4, .fz a5, .fz a6, .fz a7, .fz a8, .fz a9, .fz a10, .fz a11]) := nr rfl
/-! branches that meet again -/
@[simp] theorem ite_okand {p : Prop} [Decidable p] {c : Bool} : (if p then R.ok (M.v (.fz (.bool c))) δ else R.ok (M.v (.fz (.bool false))) δ) = R.ok (M.v (.fz (.bool (decide p && c)))) δ := by by_cases h : p <;> simp [h]
@[simp] theorem ite_okor {p : Prop} [Decidable p] {c : Bool} : (if p then R.ok (M.v (.fz (.bool true))) δ else R.ok (M.v (.fz (.bool c))) δ) = R.ok (M.v (.fz (.bool (decide p || c)))) δ := by by_cases h : p <;> simp [h]
@[simp] theorem ite_tand {p : Prop} [Decidable p] {c : Bool} : (if p then R.ok c δ else R.ok false δ) = R.ok (decide p && c) δ := by by_cases h : p <;> simp [h]
@[simp] theorem ite_tor {p : Prop} [Decidable p] {c : Bool} : (if p then R.ok true δ else R.ok c δ) = R.ok (decide p || c) δ := by by_cases h : p <;> simp [h]
@[simp] theorem chL_b {b : Bool} : chL g' Hh d (some (.v (.fz (.bool b)))) δ = if b = true then b2K g' d (Hh δ) else .ok (.fz (.bool false)) δ := by cases b <;> rfl
@[simp] theorem anR_b {b : Bool} : anR G (.ok (.v (.fz (.bool b))) δ) = if b = true then G δ else .ok (.fz (.bool false)) δ := by cases b <;> rfl
@[simp] theorem orR_b {b : Bool} : orR G (.ok (.v (.fz (.bool b))) δ) = if b = true then .ok (.fz (.bool true)) δ else G δ := by cases b <;> rfl
@[simp] theorem taN_b {b : Bool} : taN B (.ok b δ) = if b = true then B δ else .ok false δ := by cases b <;> rfl
@[simp] theorem toR_b {b : Bool} : toR B (.ok b δ) = if b = true then .ok true δ else B δ := by cases b <;> rfl
@[simp] theorem fr0_nx {ms : List M} {δ : Env'} (h : ms.length ≤ δ.length) : frOf [] ms (.nx δ) = .ret (.fz .none) ms := by rw [frOf_nx, backA_no h]
@[simp] theorem fr0_rt {ms : List M} {δ : Env'} {m : M} (h : ms.length ≤ δ.length) : frOf [] ms (.rt m δ) = .ret m ms := by rw [frOf_rt, backA_no h]
@[simp] theorem fr0_ex {ms : List M} {δ : Env'} {n : Nat} (h : ms.length ≤ δ.length) : frOf [] ms (.ex n δ) = .ex n ms := by rw [frOf_ex, backA_no h]
end
/-! operations on data -/
section
variable {i j : Int} {d e : PD} {ds es : List PD} {x y : Str} {b c : Bool}
@[simp] theorem gIsa_ {f : PD → Bool} {d : PD} : gIsa f d = some (.fz (.bool (f d))) := nr rfl
@[simp] theorem okEq_ii : okEq (.int i) (.int j) = true := nr rfl
@[simp] theorem okLt_ii : okLt (.int i) (.int j) = true := by unfold okLt; simp [okN, PySem.W.alike]
@[simp] theorem dataLt_i : PySem.W.dataLt (.int i) (.int j) = decide (i < j) := PySem.W.dataLt_int i j
@[simp] theorem gAdd_ii : gAdd (.int i) (.int j) = some (.fz (.int (i + j))) := nr rfl
@[simp] theorem gSub_ii : gSub (.int i) (.int j) = some (.fz (.int (i - j))) := nr rfl
theorem log2_lt {n : Nat} (h : n < 2 ^ 250) : n.log2 < 250 := by
  rcases Nat.eq_zero_or_pos n with e | e
  · subst e; decide
  · exact (Nat.log2_lt (by omega)).mpr h
theorem lim_eq : (2 : Nat) ^ 250 = 1809251394333065553493296640760748560207343510400633813116524750123642650624 := by decide
theorem mulOk_of (h1 : -1000000000000000000000000000000000000000000000000000000000000 ≤ i) (h2 : i ≤ 1000000000000000000000000000000000000000000000000000000000000) (h3 : -1000000000000000000000000000000000000000000000000000000000000 ≤ j) (h4 : j ≤ 1000000000000000000000000000000000000000000000000000000000000) : mulOk i j = true := by
  have a1 := log2_lt (n := i.natAbs) (by rw [lim_eq]; omega)
  have a2 := log2_lt (n := j.natAbs) (by rw [lim_eq]; omega)
  unfold mulOk
  exact decide_eq_true (by omega)
@[simp] theorem gMul_ii (h1 : -1000000000000000000000000000000000000000000000000000000000000 ≤ i) (h2 : i ≤ 1000000000000000000000000000000000000000000000000000000000000) (h3 : -1000000000000000000000000000000000000000000000000000000000000 ≤ j) (h4 : j ≤ 1000000000000000000000000000000000000000000000000000000000000) : gMul (.int i) (.int j) = some (.fz (.int (i * j))) := by
  unfold gMul
  exact if_pos (mulOk_of h1 h2 h3 h4)
@[simp] theorem gDiv_ii (h1 : 0 < j) (h2 : j ≤ 1000000000000000000000000000000000000000000000000000000000000) : gDiv (.int i) (.int j) = some (.fz (.int (i / j))) := by
  have a2 := log2_lt (n := j.natAbs) (by rw [lim_eq]; omega)
  unfold gDiv
  refine if_pos ?_
  unfold divOk
  rw [decide_eq_true h1, decide_eq_true (by omega)]; rfl
@[simp] theorem gMod_ii (h1 : 0 < j) : gMod (.int i) (.int j) = some (.fz (.int (i % j))) := if_pos h1
@[simp] theorem gPow_ii (h1 : 0 ≤ j) (h2 : j ≤ 1000000) (h3 : -10000000000000000000 < i) (h4 : i < 10000000000000000000) : gPow (.int i) (.int j) = some (.fz (.int (i ^ j.toNat))) := if_pos ⟨h1, h2, by omega⟩
@[simp] theorem gNeg_i : gNeg (.int i) = some (.fz (.int (-i))) := nr rfl
@[simp] theorem eqv_ii : PyData.eqv (.int i) (.int j) = decide (i = j) := by simp only [PyData.eqv]; by_cases h : i = j <;> simp [h]
@[simp] theorem gEq_ii : gEq (.int i) (.int j) = some (.fz (.bool (decide (i = j)))) := by simp [gEq, gBool2]
@[simp] theorem gNe_ii : gNe (.int i) (.int j) = some (.fz (.bool (!decide (i = j)))) := by simp [gNe, gBool2]
@[simp] theorem gLt_ii : gLt (.int i) (.int j) = some (.fz (.bool (decide (i < j)))) := by simp [gLt, gBool2]
@[simp] theorem gGt_ii : gGt (.int i) (.int j) = some (.fz (.bool (decide (j < i)))) := by simp [gGt, gBool2]
@[simp] theorem gLe_ii : gLe (.int i) (.int j) = some (.fz (.bool (decide (i ≤ j)))) := by
  have : (!decide (j < i)) = decide (i ≤ j) := by by_cases h : i ≤ j <;> simp [h]; omega
  simp [gLe, gBool2, this]
@[simp] theorem gGe_ii : gGe (.int i) (.int j) = some (.fz (.bool (decide (j ≤ i)))) := by
  have : (!decide (i < j)) = decide (j ≤ i) := by by_cases h : j ≤ i <;> simp [h]; omega
  simp [gGe, gBool2, this]
@[simp] theorem gIs_n : gIs d .none = some (.fz (.bool (isNone d))) := nr rfl
@[simp] theorem gIsNot_n : gIsNot d .none = some (.fz (.bool (!isNone d))) := nr rfl
@[simp] theorem isNone_n : isNone .none = true := nr rfl
@[simp] theorem isNone_i : isNone (.int i) = false := nr rfl
@[simp] theorem isNone_t : isNone (.tuple ds) = false := nr rfl
@[simp] theorem isNone_l : isNone (.list ds) = false := nr rfl
@[simp] theorem isNone_b : isNone (.bool b) = false := nr rfl
@[simp] theorem isNone_s : isNone (.str x) = false := nr rfl
@[simp] theorem gIx_l : gIx (.list ds) (.int i) = (atI ds i).map .fz := nr rfl
@[simp] theorem gIx_t : gIx (.tuple ds) (.int i) = (atI ds i).map .fz := nr rfl
theorem atI_nat {α : Type} (xs : List α) (n : Nat) : atI xs (n : Int) = xs[n]? := by
  unfold atI ixN
  rw [if_pos (by omega)]
  by_cases h : n < xs.length
  · rw [if_pos (by omega)]; simp
  · rw [if_neg (by omega), List.getElem?_eq_none (by omega)]; rfl
@[simp] theorem atI_0 {α : Type} (xs : List α) : atI xs 0 = xs[0]? := atI_nat xs 0
@[simp] theorem atI_1 {α : Type} (xs : List α) : atI xs 1 = xs[1]? := atI_nat xs 1
@[simp] theorem atI_2 {α : Type} (xs : List α) : atI xs 2 = xs[2]? := atI_nat xs 2
@[simp] theorem atI_3 {α : Type} (xs : List α) : atI xs 3 = xs[3]? := atI_nat xs 3
@[simp] theorem atI_4 {α : Type} (xs : List α) : atI xs 4 = xs[4]? := atI_nat xs 4
@[simp] theorem gLen_l : gLen [.list ds] = some (.fz (.int ds.length)) := nr rfl
@[simp] theorem gLen_t : gLen [.tuple ds] = some (.fz (.int ds.length)) := nr rfl
@[simp] theorem gTup_ (h : ds.length ≤ 16777216) : gTup ds = some (.fz (.tuple ds)) := if_pos h
@[simp] theorem gLst_ (h : ds.length ≤ 16777216) : gLst ds = some (.lst (ds.map .fz)) := if_pos h
@[simp] theorem gAbs_ : gAbs [.int i] = some (.fz (.int (if i < 0 then -i else i))) := nr rfl
@[simp] theorem truD_b : truD (.bool b) = some b := nr rfl
@[simp] theorem truD_n : truD .none = some false := nr rfl
@[simp] theorem truD_i : truD (.int i) = some (i != 0) := nr rfl
@[simp] theorem truD_l : truD (.list ds) = some (!ds.isEmpty) := nr rfl
@[simp] theorem truD_t : truD (.tuple ds) = some (!ds.isEmpty) := nr rfl
@[simp] theorem seqD_l : seqD (.list ds) = some ds := nr rfl
@[simp] theorem seqD_t : seqD (.tuple ds) = some ds := nr rfl
@[simp] theorem immut_i : immut (.int i) = true := nr rfl
@[simp] theorem immut_b : immut (.bool b) = true := nr rfl
@[simp] theorem immut_n : immut .none = true := nr rfl
@[simp] theorem immut_s : immut (.str x) = true := nr rfl
@[simp] theorem immut_t : immut (.tuple ds) = immutA ds := nr rfl
@[simp] theorem immutA_n : immutA [] = true := nr rfl
@[simp] theorem immutA_c : immutA (d :: ds) = (immut d && immutA ds) := nr rfl
@[simp] theorem small62_ (h1 : -4611686018427387904 ≤ i) (h2 : i < 4611686018427387904) : small62 i = true := by
  unfold small62
  rw [decide_eq_true (by omega), decide_eq_true (by omega)]; rfl
@[simp] theorem rng1_ (h1 : -4611686018427387904 ≤ j) (h2 : j < 4611686018427387904) : rng1 [.int j] = some (rangeD 0 j.toNat) := by
  show (if small62 j = true then _ else none) = _; rw [if_pos (small62_ h1 h2)]
@[simp] theorem rng2_ (h1 : -4611686018427387904 ≤ i) (h2 : i < 4611686018427387904) (h3 : -4611686018427387904 ≤ j) (h4 : j < 4611686018427387904) : rng2 [.int i, .int j] = some (rangeD i (j - i).toNat) := by
  show (if (small62 i && small62 j) = true then _ else none) = _; rw [if_pos (by rw [small62_ h1 h2, small62_ h3 h4]; rfl)]
end
end MX
namespace MX
open PySem PySem.Spec L2 FS FX
/-! ### loops -/
section
variable {Gt : PD → Env' → Option Env'} {S : SF}
theorem sLoop_from {σ : Type} (env : σ → Env') (P : Nat → σ → Prop) : ∀ (ds : List PD) (k : Nat) (s : σ), (∀ i d s, ds[i]? = some d → P (k + i) s → ∃ s' δ1, P (k + i + 1) s' ∧ Gt d (env s) = some δ1 ∧ (S δ1 = .nx (env s') ∨ S δ1 = .ct (env s'))) → P k s →
    ∃ s', P (k + ds.length) s' ∧ sLoop Gt S ds (env s) = .nx (env s')
  | [], k, s, _, h => ⟨s, h, rfl⟩
  | d :: ds, k, s, hs, h => by
    obtain ⟨s1, δ1, h1, h2, h3⟩ := hs 0 d s rfl h
    obtain ⟨s2, h4, h5⟩ := sLoop_from env P ds (k + 1) s1 (fun i d' s' e q => by
      have := hs (i + 1) d' s' (by simpa using e) (by rwa [show k + (i + 1) = k + 1 + i by omega])
      rwa [show k + (i + 1) + 1 = k + 1 + i + 1 by omega] at this) h1
    refine ⟨s2, by rwa [show k + (d :: ds).length = k + 1 + ds.length by simp; omega], ?_⟩
    unfold sLoop
    rw [h2]
    rcases h3 with h3 | h3 <;> (dsimp only; rw [h3]; exact h5)
/-- an invariant by places -/
theorem sLoop_inv {σ : Type} (env : σ → Env') (P : Nat → σ → Prop) (ds : List PD) (s : σ) (h : P 0 s) (hs : ∀ i d s, ds[i]? = some d → P i s → ∃ s' δ1, P (i + 1) s' ∧ Gt d (env s) = some δ1 ∧ (S δ1 = .nx (env s') ∨ S δ1 = .ct (env s'))) :
    ∃ s', P ds.length s' ∧ sLoop Gt S ds (env s) = .nx (env s') := by
  have := sLoop_from env P ds 0 s (fun i d s e q => by rw [Nat.zero_add] at q ⊢; exact hs i d s e q) h
  rwa [Nat.zero_add] at this
theorem rangeD_len (lo : Int) (n : Nat) : (rangeD lo n).length = n := by simp [rangeD]
theorem rangeD0_get {n i : Nat} {d : PD} (h : (rangeD 0 n)[i]? = some d) : d = .int i ∧ i < n := by
  unfold rangeD at h
  rw [List.getElem?_map] at h
  by_cases hi : i < n
  · rw [List.getElem?_range hi] at h
    exact ⟨by rw [← Option.some.inj h]; simp, hi⟩
  · rw [List.getElem?_eq_none (by simpa using hi)] at h; cases h
theorem rangeD_get {lo : Int} {n i : Nat} {d : PD} (h : (rangeD lo n)[i]? = some d) : d = .int (lo + i) ∧ i < n := by
  unfold rangeD at h
  rw [List.getElem?_map] at h
  by_cases hi : i < n
  · rw [List.getElem?_range hi] at h
    exact ⟨(Option.some.inj h).symm, hi⟩
  · rw [List.getElem?_eq_none (by simpa using hi)] at h; cases h
end
/-! ### the law's draws -/
def mixedV (a k : Int) : Int := ((a * 48271 + k * 69621 + 12345) % 2147483647 * ((a * 48271 + k * 69621 + 12345) % 2147483647 / 65536 + 3) + k) % 2147483647
theorem mixedV_lo (a k : Int) : 0 ≤ mixedV a k := Int.emod_nonneg _ (by decide)
theorem mixedV_hi (a k : Int) : mixedV a k < 2147483647 := Int.emod_lt_of_pos _ (by decide)
theorem m__law_mixed_ (a k : Int) (h1 : 0 ≤ a) (h2 : a ≤ 1000000000000000000000000000000) (h3 : 0 ≤ k) (h4 : k ≤ 1000000000000000000000000000000) :
    m__law_mixed [.fz (.int a), .fz (.int k)] = .ret (.fz (.int (mixedV a k))) [.fz (.int a), .fz (.int k)] := by
  unfold m__law_mixed
  refine (semOf_ (by rfl) (by rfl)).trans ?_
  have b1 : 0 ≤ (a * 48271 + k * 69621 + 12345) % 2147483647 := Int.emod_nonneg _ (by decide)
  have b2 : (a * 48271 + k * 69621 + 12345) % 2147483647 < 2147483647 := Int.emod_lt_of_pos _ (by decide)
  simp (disch := omega) [s__law_mixed, mixedV]
/-- numbers of the draws: each in 0 .. 999999 -/
def Nums (ns : List Int) : Prop := ∀ x ∈ ns, 0 ≤ x ∧ x < 1000000
theorem Nums.app {a b : List Int} (h : Nums a) (h' : Nums b) : Nums (a ++ b) := fun x hx => (List.mem_append.mp hx).elim (h x) (h' x)
theorem Nums.one {a : Int} (h : 0 ≤ a) (h' : a < 1000000) : Nums [a] := fun x hx => by
  have := List.mem_singleton.mp hx; subst this; exact ⟨h, h'⟩
def lsI (ns : List Int) : List L := ns.map fun i => .fz (.int i)
theorem lsI_app (a b : List Int) : lsI (a ++ b) = lsI a ++ lsI b := List.map_append
theorem lsI_len (a : List Int) : (lsI a).length = a.length := List.length_map _
theorem lsI_pds : ∀ a : List Int, L.pds (lsI a) = a.map .int
  | [] => rfl
  | x :: r => by show _ :: L.pds (lsI r) = _; rw [lsI_pds r]; rfl
theorem m__law_numbers_ (ns : List Int) (hl : ns.length ≤ 63) : ∃ xs : List Int, Nums xs ∧ xs.length ≤ 3780 ∧ m__law_numbers [.fz (.list (ns.map .int))] = .ret (.v (.lst (lsI xs))) [.fz (.list (ns.map .int))] := by
  unfold m__law_numbers
  have key : ∃ s : List Int × Option M × Option M × Option M, (Nums s.1 ∧ s.1.length ≤ 60 * ns.length) ∧ sFor (iE (eN 0)) (gN 2)
    (sIf (tE (eB2 gGe (eN 2) (eB2 gPow (eC (.int 10)) (eC (.int 18)))))
    (sSq (sAs 3 (eN 2))
  (sFor (iR rng1 (aV (eC (.int 60)) aN)) (gN 4)
    (sIf (tE (eB2 gGt (eN 3) (eC (.int 0))))
    (sSq (sApp 1 (eB2 gMod (eN 3) (eC (.int 1000000))))
  (sAs 3 (eB2 gDiv (eN 3) (eC (.int 1000000)))))
    sNl)))
    (sSq (sApp 1 (eB2 gMod (eN 2) (eC (.int 1000000))))
  (sFor (iR rng1 (aV (eC (.int 5)) aN)) (gN 4)
    (sApp 1 (eB2 gMod (eCl m__law_mixed (aV (eCl m__law_mixed (aV (eB2 gMod (eN 2) (eC (.int 2147483647))) (aV (eN 4) aN))) (aV (eB2 gAdd (eN 4) (eC (.int 7))) aN))) (eC (.int 1000000)))))))
    [some (.fz (.list (ns.map .int))), some (.v (.lst [])), none, none, none] = .nx [some (.fz (.list (ns.map .int))), some (.v (.lst (lsI s.1))), s.2.1, s.2.2.1, s.2.2.2] := by
    simp only [sFor_, iE_, eN_, at0, nR_fz, ieR_ok, pd_fz, seqD_l, ieK_ok, foR_ok]
    obtain ⟨s, h1, h2⟩ := sLoop_inv (Gt := gN 2) (S := (sIf (tE (eB2 gGe (eN 2) (eB2 gPow (eC (.int 10)) (eC (.int 18)))))
    (sSq (sAs 3 (eN 2))
  (sFor (iR rng1 (aV (eC (.int 60)) aN)) (gN 4)
    (sIf (tE (eB2 gGt (eN 3) (eC (.int 0))))
    (sSq (sApp 1 (eB2 gMod (eN 3) (eC (.int 1000000))))
  (sAs 3 (eB2 gDiv (eN 3) (eC (.int 1000000)))))
    sNl)))
    (sSq (sApp 1 (eB2 gMod (eN 2) (eC (.int 1000000))))
  (sFor (iR rng1 (aV (eC (.int 5)) aN)) (gN 4)
    (sApp 1 (eB2 gMod (eCl m__law_mixed (aV (eCl m__law_mixed (aV (eB2 gMod (eN 2) (eC (.int 2147483647))) (aV (eN 4) aN))) (aV (eB2 gAdd (eN 4) (eC (.int 7))) aN))) (eC (.int 1000000))))))))
      (fun s : List Int × Option M × Option M × Option M => [some (.fz (.list (ns.map .int))), some (.v (.lst (lsI s.1))), s.2.1, s.2.2.1, s.2.2.2])
      (fun i s => Nums s.1 ∧ s.1.length ≤ 60 * i) (ns.map .int) ([], none, none, none) ⟨(fun x hx => nomatch hx), Nat.zero_le _⟩ (by
      rintro i d ⟨xs, v2, v3, v4⟩ hi ⟨hn, hlen⟩
      obtain ⟨c, hc, rfl⟩ : ∃ c, ns[i]? = some c ∧ PyData.int c = d := by
        rw [List.getElem?_map] at hi
        cases e : ns[i]? with
        | none => rw [e] at hi; cases hi
        | some c => rw [e] at hi; exact ⟨c, rfl, Option.some.inj hi⟩
      have hi63 : i < 63 := Nat.lt_of_lt_of_le (List.getElem?_eq_some_iff.mp hc).1 hl
      dsimp only at hn hlen ⊢
      by_cases hb : (1000000000000000000 : Int) ≤ c
      · -- a great one
        obtain ⟨s2, h1, h2⟩ := sLoop_inv (Gt := gN 4) (S := sIf (tE (eB2 gGt (eN 3) (eC (.int 0)))) (sSq (sApp 1 (eB2 gMod (eN 3) (eC (.int 1000000)))) (sAs 3 (eB2 gDiv (eN 3) (eC (.int 1000000))))) sNl)
          (fun s : List Int × Int × Option M => [some (.fz (.list (ns.map .int))), some (.v (.lst (lsI s.1))), some (.fz (.int c)), some (.fz (.int s.2.1)), s.2.2])
          (fun j s => Nums s.1 ∧ s.1.length ≤ 60 * i + j) (rangeD 0 60) (xs, c, v4) ⟨hn, hlen⟩ (by
            rintro j d ⟨ys, r, v5⟩ hj ⟨hy, hyl⟩
            obtain ⟨rfl, hj60⟩ := rangeD0_get hj
            dsimp only at hy hyl ⊢
            have hys : ys.length < big := by show ys.length < 16777216; omega
            by_cases hr : 0 < r
            · refine ⟨(ys ++ [r % 1000000], r / 1000000, some (.fz (.int (j : Int)))), _, ⟨hy.app (Nums.one (Int.emod_nonneg _ (by decide)) (Int.emod_lt_of_pos _ (by decide))), by simp; omega⟩, by simp; rfl, .inl ?_⟩
              simp (disch := omega) [hr, lsI_len, hys, lsI_app]; rfl
            · refine ⟨(ys, r, some (.fz (.int (j : Int)))), _, ⟨hy, by dsimp only; omega⟩, by simp; rfl, .inl ?_⟩
              simp (disch := omega) [hr])
        rw [rangeD_len] at h1
        refine ⟨(s2.1, some (.fz (.int c)), some (.fz (.int s2.2.1)), s2.2.2), _, ⟨h1.1, by have := h1.2; dsimp only; omega⟩, by simp; rfl, .inl ?_⟩
        simp (disch := omega) [hb]
        exact h2
      · -- a small one
        have hc1 : 0 ≤ c % 2147483647 := Int.emod_nonneg _ (by decide)
        have hc2 : c % 2147483647 < 2147483647 := Int.emod_lt_of_pos _ (by decide)
        obtain ⟨s2, h1, h2⟩ := sLoop_inv (Gt := gN 4) (S := sApp 1 (eB2 gMod (eCl m__law_mixed (aV (eCl m__law_mixed (aV (eB2 gMod (eN 2) (eC (.int 2147483647))) (aV (eN 4) aN))) (aV (eB2 gAdd (eN 4) (eC (.int 7))) aN))) (eC (.int 1000000))))
          (fun s : List Int × Option M => [some (.fz (.list (ns.map .int))), some (.v (.lst (lsI s.1))), some (.fz (.int c)), v3, s.2])
          (fun j s => Nums s.1 ∧ s.1.length ≤ 60 * i + 1 + j) (rangeD 0 5) (xs ++ [c % 1000000], v4) ⟨hn.app (Nums.one (Int.emod_nonneg _ (by decide)) (Int.emod_lt_of_pos _ (by decide))), by simp; omega⟩ (by
            rintro j d ⟨ys, v5⟩ hj ⟨hy, hyl⟩
            obtain ⟨rfl, hj5⟩ := rangeD0_get hj
            dsimp only at hy hyl ⊢
            have hys : ys.length < big := by show ys.length < 16777216; omega
            have m1 := mixedV_lo (c % 2147483647) (j : Int)
            have m2 := mixedV_hi (c % 2147483647) (j : Int)
            refine ⟨(ys ++ [mixedV (mixedV (c % 2147483647) (j : Int)) ((j : Int) + 7) % 1000000], some (.fz (.int (j : Int)))), _, ⟨hy.app (Nums.one (Int.emod_nonneg _ (by decide)) (Int.emod_lt_of_pos _ (by decide))), by simp; omega⟩, by simp; rfl, .inl ?_⟩
            have e1 := m__law_mixed_ (c % 2147483647) (j : Int) hc1 (by omega) (by omega) (by omega)
            have e2 := m__law_mixed_ (mixedV (c % 2147483647) (j : Int)) ((j : Int) + 7) m1 (by omega) (by omega) (by omega)
            simp (disch := omega) only [sApp_, at1, apR_ok, eB2_, eCl_, aV_, eN_, at2, at4, nR_fz, b2R_ok, eC_, b2K_ok, pd_fz, gMod_ii, gAdd_ii, res_some, avR_ok, aN_, avK_ok, frz_fz, clR_ok, takeA_val, takeA_nil, Option.map_some, clK_ok, e1, e2, clL_ret, putA_val, putA_nil, apK_ok, apL_ok, lsI_len, hys, if_true, lsI_app]
            rfl)
        rw [rangeD_len] at h1
        refine ⟨(s2.1, some (.fz (.int c)), v3, s2.2), _, ⟨h1.1, by have := h1.2; dsimp only; omega⟩, by simp; rfl, .inl ?_⟩
        have hxs : xs.length < big := by show xs.length < 16777216; omega
        simp (disch := omega) [hb, lsI_len, hxs]
        rw [lsI_app] at h2
        exact h2)
    exact ⟨s, ⟨h1.1, by simpa using h1.2⟩, h2⟩
  obtain ⟨s, ⟨h1, h2⟩, h3⟩ := key
  refine ⟨s.1, h1, by omega, (semOf_ (by rfl) (by rfl)).trans ?_⟩
  unfold s__law_numbers
  simp at h3 ⊢
  rw [h3]
  simp
/-- the draws: the numbers and the place -/
def DR (xs : List Int) (at_ : Nat) : M := .v (.lst [.fz (.list (xs.map .int)), .fz (.int at_)])
def drawV (xs : List Int) (at_ : Nat) : Int := match xs[at_]? with
  | some x => x
  | none => mixedV (mixedV (1 + at_ + (match xs with
    | [] => 0
    | x :: _ => 1009 * x)) at_) 5 % 1000000
theorem drawV_ok {xs : List Int} (h : Nums xs) (n : Nat) : 0 ≤ drawV xs n ∧ drawV xs n < 1000000 := by
  unfold drawV
  cases e : xs[n]? with
  | some x => exact h x (List.mem_of_getElem? e)
  | none => exact ⟨Int.emod_nonneg _ (by decide), Int.emod_lt_of_pos _ (by decide)⟩
theorem drawV_lo {xs : List Int} (h : Nums xs) (n : Nat) : 0 ≤ drawV xs n := (drawV_ok h n).1
theorem drawV_hi {xs : List Int} (h : Nums xs) (n : Nat) : drawV xs n < 1000000 := (drawV_ok h n).2
theorem m__law_draw_ {xs : List Int} (h : Nums xs) (n : Nat) (hn : n ≤ 1000000000000000) : m__law_draw [DR xs n] = .ret (.fz (.int (drawV xs n))) [DR xs (n + 1)] := by
  unfold m__law_draw
  refine (semOf_ (by rfl) (by rfl)).trans ?_
  have hx : ixN 2 1 = some 1 := rfl
  unfold s__law_draw DR drawV
  cases e : xs[n]? with
  | some x =>
    have hl : n < xs.length := (List.getElem?_eq_some_iff.mp e).1
    have hl' : (n : Int) < (xs.length : Int) := by omega
    simp [hx, hl', atI_nat, e]
  | none =>
    have hl : ¬ (n : Int) < (xs.length : Int) := by have := List.getElem?_eq_none_iff.mp e; omega
    cases xs with
    | nil =>
      have e1 := m__law_mixed_ (1 + n) n (by omega) (by omega) (by omega) (by omega)
      have e2 := m__law_mixed_ (mixedV (1 + n) n) 5 (mixedV_lo _ _) (by have := mixedV_hi (1 + n) n; omega) (by omega) (by omega)
      have hl1 : ¬ (n : Int) < 0 := by omega
      simp (disch := omega) [hx, hl1, e1, e2]
    | cons x r =>
      obtain ⟨x1, x2⟩ := h x List.mem_cons_self
      have e1 := m__law_mixed_ (1 + n + 1009 * x) n (by omega) (by omega) (by omega) (by omega)
      have e2 := m__law_mixed_ (mixedV (1 + n + 1009 * x) n) 5 (mixedV_lo _ _) (by have := mixedV_hi (1 + n + 1009 * x) n; omega) (by omega) (by omega)
      have hl1 : ¬ (n : Int) < (r.length : Int) + 1 := by simpa using hl
      have hl2 : (0 : Int) < (r.length : Int) + 1 := by omega
      simp (disch := omega) [hx, hl1, hl2, e1, e2]
end MX
namespace MX
open PySem PySem.Spec L2 FS FX
abbrev er26 (n p q m : PD) (r : PD) : Prop := m__law_error_v1 [.fz n, .fz p, .fz q, .fz m] = .ret (.fz r) [.fz n, .fz p, .fz q, .fz m]
def strange26 : List PD := [.list [.tuple [.int 0, .int 0], .tuple [.int 1, .int 1]],
  .tuple [.tuple [.int 0, .int 0]],
  .none,
  .tuple [.tuple [.int 0, .int 0], .tuple [.int 1, .int 1], .tuple [.int 2, .int 2]],
  .str (Str.ofString "way")]
def points26 : List PD := [.tuple [.tuple [.int 0, .int 0], .tuple [.int 4001, .int 0]],
  .tuple [.tuple [.int (-1), .int 0], .tuple [.int 0, .int 0]],
  .tuple [.tuple [.bool true, .int 0], .tuple [.int 0, .int 0]],
  .tuple [.list [.int 0, .int 0], .tuple [.int 0, .int 0]],
  .tuple [.tuple [.int 0, .int 0, .int 0], .tuple [.int 0, .int 0]],
  .tuple [.none, .tuple [.int 0, .int 0]]]
def orders26 : List PD := [.list [.int 0, .int 1],
  .list [.int 0, .int 1, .int 1],
  .list [.int 0, .int 1, .int 3],
  .tuple [.int 0, .int 1, .int 2],
  .none,
  .list [.int 0, .int 1, .bool true],
  .list [.int 0, .int 1, .str (Str.ofString "2")],
  .list [.int 0, .int 1, .int 2, .int 3]]
def forms26 : List PD := [.list [],
  .tuple [.tuple [.int 0, .int 0]],
  .none,
  .list [.tuple [.int 0, .int 0], .tuple [.int 0, .int 0], .tuple [.int 1, .int 1]],
  .list [.tuple [.int 0, .int 0], .tuple [.int 1, .int 0], .tuple [.int 2, .int 0], .tuple [.int 3, .int 0], .tuple [.int 4, .int 0], .tuple [.int 5, .int 0], .tuple [.int 6, .int 0], .tuple [.int 7, .int 0], .tuple [.int 8, .int 0], .tuple [.int 9, .int 0], .tuple [.int 10, .int 0], .tuple [.int 11, .int 0], .tuple [.int 12, .int 0], .tuple [.int 13, .int 0], .tuple [.int 14, .int 0], .tuple [.int 15, .int 0], .tuple [.int 16, .int 0], .tuple [.int 17, .int 0], .tuple [.int 18, .int 0], .tuple [.int 19, .int 0], .tuple [.int 20, .int 0], .tuple [.int 21, .int 0], .tuple [.int 22, .int 0], .tuple [.int 23, .int 0], .tuple [.int 24, .int 0], .tuple [.int 25, .int 0], .tuple [.int 26, .int 0], .tuple [.int 27, .int 0], .tuple [.int 28, .int 0], .tuple [.int 29, .int 0], .tuple [.int 30, .int 0], .tuple [.int 31, .int 0], .tuple [.int 32, .int 0], .tuple [.int 33, .int 0], .tuple [.int 34, .int 0], .tuple [.int 35, .int 0], .tuple [.int 36, .int 0], .tuple [.int 37, .int 0], .tuple [.int 38, .int 0], .tuple [.int 39, .int 0], .tuple [.int 40, .int 0], .tuple [.int 41, .int 0], .tuple [.int 42, .int 0], .tuple [.int 43, .int 0], .tuple [.int 44, .int 0], .tuple [.int 45, .int 0], .tuple [.int 46, .int 0], .tuple [.int 47, .int 0], .tuple [.int 48, .int 0], .tuple [.int 49, .int 0], .tuple [.int 50, .int 0], .tuple [.int 51, .int 0], .tuple [.int 52, .int 0], .tuple [.int 53, .int 0], .tuple [.int 54, .int 0], .tuple [.int 55, .int 0], .tuple [.int 56, .int 0], .tuple [.int 57, .int 0], .tuple [.int 58, .int 0], .tuple [.int 59, .int 0], .tuple [.int 60, .int 0]]]
def least26 : List PD := [.tuple [.int 2, .int 4],
  .tuple [.int (-1), .int 1],
  .tuple [.int 1, .int 0],
  .tuple [.int 32000001, .int 1],
  .tuple [.int 1, .int 1000001],
  .list [.int 1, .int 2],
  .tuple [.int 1],
  .none,
  .tuple [.bool true, .int 1],
  .int 1,
  .tuple [.int 0, .int 2]]
def way26 : PD := .tuple [.tuple [.int 0, .int 0], .tuple [.int 4000, .int 4000]]
def one26 : PD := .list [.tuple [.int 0, .int 0], .tuple [.int 1, .int 0], .tuple [.int 5, .int 5]]
def two26 : PD := .list [.tuple [.int 9, .int 9], .tuple [.int 0, .int 0], .tuple [.int 4000, .int 0]]
def two26s : PD := .list [.tuple [.int 9, .int 9], .tuple [.int 0, .int 0]]
def row26 : PD := .list [.tuple [.int 0, .int 0], .tuple [.int 1, .int 0], .tuple [.int 2, .int 0], .tuple [.int 3, .int 0], .tuple [.int 4, .int 0], .tuple [.int 5, .int 0], .tuple [.int 6, .int 0], .tuple [.int 7, .int 0]]
def row26s : PD := .list [.tuple [.int 0, .int 0], .tuple [.int 1, .int 0], .tuple [.int 2, .int 0], .tuple [.int 3, .int 0], .tuple [.int 4, .int 0], .tuple [.int 5, .int 0], .tuple [.int 6, .int 0]]
theorem a26_1 : ∀ b ∈ strange26, er26 (.str (Str.ofString "meet")) b way26 .none (.str (Str.ofString "move")) := by
  unfold strange26
  refine List.forall_mem_cons.mpr ⟨by kernel_rfl, ?_⟩
  refine List.forall_mem_cons.mpr ⟨by kernel_rfl, ?_⟩
  refine List.forall_mem_cons.mpr ⟨by kernel_rfl, ?_⟩
  refine List.forall_mem_cons.mpr ⟨by kernel_rfl, ?_⟩
  refine List.forall_mem_cons.mpr ⟨by kernel_rfl, ?_⟩
  exact fun _ h => nomatch h
theorem a26_2 : ∀ b ∈ strange26, er26 (.str (Str.ofString "meet")) way26 b .none (.str (Str.ofString "move")) := by
  unfold strange26
  refine List.forall_mem_cons.mpr ⟨by kernel_rfl, ?_⟩
  refine List.forall_mem_cons.mpr ⟨by kernel_rfl, ?_⟩
  refine List.forall_mem_cons.mpr ⟨by kernel_rfl, ?_⟩
  refine List.forall_mem_cons.mpr ⟨by kernel_rfl, ?_⟩
  refine List.forall_mem_cons.mpr ⟨by kernel_rfl, ?_⟩
  exact fun _ h => nomatch h
theorem a26_3 : ∀ b ∈ points26, er26 (.str (Str.ofString "meet")) b way26 .none (.str (Str.ofString "point")) := by
  unfold points26
  refine List.forall_mem_cons.mpr ⟨by kernel_rfl, ?_⟩
  refine List.forall_mem_cons.mpr ⟨by kernel_rfl, ?_⟩
  refine List.forall_mem_cons.mpr ⟨by kernel_rfl, ?_⟩
  refine List.forall_mem_cons.mpr ⟨by kernel_rfl, ?_⟩
  refine List.forall_mem_cons.mpr ⟨by kernel_rfl, ?_⟩
  refine List.forall_mem_cons.mpr ⟨by kernel_rfl, ?_⟩
  exact fun _ h => nomatch h
theorem a26_4 : ∀ b ∈ points26, er26 (.str (Str.ofString "meet")) way26 b .none (.str (Str.ofString "point")) := by
  unfold points26
  refine List.forall_mem_cons.mpr ⟨by kernel_rfl, ?_⟩
  refine List.forall_mem_cons.mpr ⟨by kernel_rfl, ?_⟩
  refine List.forall_mem_cons.mpr ⟨by kernel_rfl, ?_⟩
  refine List.forall_mem_cons.mpr ⟨by kernel_rfl, ?_⟩
  refine List.forall_mem_cons.mpr ⟨by kernel_rfl, ?_⟩
  refine List.forall_mem_cons.mpr ⟨by kernel_rfl, ?_⟩
  exact fun _ h => nomatch h
theorem c26_0 : er26 (.str (Str.ofString "crossings")) one26 two26s (.list [.int 2, .int 0, .int 1]) (.str (Str.ofString "move")) := by kernel_rfl
theorem d26_0 : ∀ b ∈ forms26, er26 (.str (Str.ofString "crossings")) b two26 (.list [.int 2, .int 0, .int 1]) (.str (Str.ofString "formation")) := by
  unfold forms26
  refine List.forall_mem_cons.mpr ⟨by kernel_rfl, ?_⟩
  refine List.forall_mem_cons.mpr ⟨by kernel_rfl, ?_⟩
  refine List.forall_mem_cons.mpr ⟨by kernel_rfl, ?_⟩
  refine List.forall_mem_cons.mpr ⟨by kernel_rfl, ?_⟩
  refine List.forall_mem_cons.mpr ⟨by kernel_rfl, ?_⟩
  exact fun _ h => nomatch h
theorem e26_0 : ∀ b ∈ forms26, er26 (.str (Str.ofString "crossings")) one26 b (.list [.int 2, .int 0, .int 1]) (.str (Str.ofString "formation")) := by
  unfold forms26
  refine List.forall_mem_cons.mpr ⟨by kernel_rfl, ?_⟩
  refine List.forall_mem_cons.mpr ⟨by kernel_rfl, ?_⟩
  refine List.forall_mem_cons.mpr ⟨by kernel_rfl, ?_⟩
  refine List.forall_mem_cons.mpr ⟨by kernel_rfl, ?_⟩
  refine List.forall_mem_cons.mpr ⟨by kernel_rfl, ?_⟩
  exact fun _ h => nomatch h
theorem f26_0 : er26 (.str (Str.ofString "crossings")) (.list [.tuple [.int 0, .int 0], .tuple [.int 0, .int 4001], .tuple [.int 1, .int 1]]) two26 (.list [.int 2, .int 0, .int 1]) (.str (Str.ofString "point")) := by kernel_rfl
theorem c26_1 : er26 (.str (Str.ofString "uncrossed")) one26 two26s (.list [.int 2, .int 0, .int 1]) (.str (Str.ofString "move")) := by kernel_rfl
theorem d26_1 : ∀ b ∈ forms26, er26 (.str (Str.ofString "uncrossed")) b two26 (.list [.int 2, .int 0, .int 1]) (.str (Str.ofString "formation")) := by
  unfold forms26
  refine List.forall_mem_cons.mpr ⟨by kernel_rfl, ?_⟩
  refine List.forall_mem_cons.mpr ⟨by kernel_rfl, ?_⟩
  refine List.forall_mem_cons.mpr ⟨by kernel_rfl, ?_⟩
  refine List.forall_mem_cons.mpr ⟨by kernel_rfl, ?_⟩
  refine List.forall_mem_cons.mpr ⟨by kernel_rfl, ?_⟩
  exact fun _ h => nomatch h
theorem e26_1 : ∀ b ∈ forms26, er26 (.str (Str.ofString "uncrossed")) one26 b (.list [.int 2, .int 0, .int 1]) (.str (Str.ofString "formation")) := by
  unfold forms26
  refine List.forall_mem_cons.mpr ⟨by kernel_rfl, ?_⟩
  refine List.forall_mem_cons.mpr ⟨by kernel_rfl, ?_⟩
  refine List.forall_mem_cons.mpr ⟨by kernel_rfl, ?_⟩
  refine List.forall_mem_cons.mpr ⟨by kernel_rfl, ?_⟩
  refine List.forall_mem_cons.mpr ⟨by kernel_rfl, ?_⟩
  exact fun _ h => nomatch h
theorem f26_1 : er26 (.str (Str.ofString "uncrossed")) (.list [.tuple [.int 0, .int 0], .tuple [.int 0, .int 4001], .tuple [.int 1, .int 1]]) two26 (.list [.int 2, .int 0, .int 1]) (.str (Str.ofString "point")) := by kernel_rfl
theorem b26_2 : er26 (.str (Str.ofString "keeping")) one26 two26 (.tuple [.int 1, .int 2]) .none := by kernel_rfl
theorem c26_2 : er26 (.str (Str.ofString "keeping")) one26 two26s (.tuple [.int 1, .int 2]) (.str (Str.ofString "move")) := by kernel_rfl
theorem d26_2 : ∀ b ∈ forms26, er26 (.str (Str.ofString "keeping")) b two26 (.tuple [.int 1, .int 2]) (.str (Str.ofString "formation")) := by
  unfold forms26
  refine List.forall_mem_cons.mpr ⟨by kernel_rfl, ?_⟩
  refine List.forall_mem_cons.mpr ⟨by kernel_rfl, ?_⟩
  refine List.forall_mem_cons.mpr ⟨by kernel_rfl, ?_⟩
  refine List.forall_mem_cons.mpr ⟨by kernel_rfl, ?_⟩
  refine List.forall_mem_cons.mpr ⟨by kernel_rfl, ?_⟩
  exact fun _ h => nomatch h
theorem e26_2 : ∀ b ∈ forms26, er26 (.str (Str.ofString "keeping")) one26 b (.tuple [.int 1, .int 2]) (.str (Str.ofString "formation")) := by
  unfold forms26
  refine List.forall_mem_cons.mpr ⟨by kernel_rfl, ?_⟩
  refine List.forall_mem_cons.mpr ⟨by kernel_rfl, ?_⟩
  refine List.forall_mem_cons.mpr ⟨by kernel_rfl, ?_⟩
  refine List.forall_mem_cons.mpr ⟨by kernel_rfl, ?_⟩
  refine List.forall_mem_cons.mpr ⟨by kernel_rfl, ?_⟩
  exact fun _ h => nomatch h
theorem f26_2 : er26 (.str (Str.ofString "keeping")) (.list [.tuple [.int 0, .int 0], .tuple [.int 0, .int 4001], .tuple [.int 1, .int 1]]) two26 (.tuple [.int 1, .int 2]) (.str (Str.ofString "point")) := by kernel_rfl
theorem h26 : ∀ b ∈ least26, er26 (.str (Str.ofString "keeping")) one26 two26 b (.str (Str.ofString "argument")) := by
  unfold least26
  refine List.forall_mem_cons.mpr ⟨by kernel_rfl, ?_⟩
  refine List.forall_mem_cons.mpr ⟨by kernel_rfl, ?_⟩
  refine List.forall_mem_cons.mpr ⟨by kernel_rfl, ?_⟩
  refine List.forall_mem_cons.mpr ⟨by kernel_rfl, ?_⟩
  refine List.forall_mem_cons.mpr ⟨by kernel_rfl, ?_⟩
  refine List.forall_mem_cons.mpr ⟨by kernel_rfl, ?_⟩
  refine List.forall_mem_cons.mpr ⟨by kernel_rfl, ?_⟩
  refine List.forall_mem_cons.mpr ⟨by kernel_rfl, ?_⟩
  refine List.forall_mem_cons.mpr ⟨by kernel_rfl, ?_⟩
  refine List.forall_mem_cons.mpr ⟨by kernel_rfl, ?_⟩
  refine List.forall_mem_cons.mpr ⟨by kernel_rfl, ?_⟩
  exact fun _ h => nomatch h
theorem i26_1 : er26 (.str (Str.ofString "keeping")) row26 row26 (.tuple [.int 1, .int 2]) (.str (Str.ofString "large")) := by kernel_rfl
theorem i26_2 : er26 (.str (Str.ofString "keeping")) row26s row26s (.tuple [.int 32000000, .int 1]) .none := by kernel_rfl
end MX
namespace MX
open PySem PySem.Spec L2 FS FX
theorem le26 (a b : Int) : PySem.W.dataLe false id (PyData.int a) (PyData.int b) = decide (a ≤ b) := congrFun (congrFun (PySem.W.dataLe_int (β := Int) fun x => x) a) b
theorem so26_1 : sortD [.int 2, .int 0, .int 1] = [.int 0, .int 1, .int 2] := by
  unfold sortD
  simp [List.mergeSort, List.MergeSort.Internal.splitInTwo, le26]
theorem so26_2 : sortD [.int 0, .int 1, .int 1] = [.int 0, .int 1, .int 1] := by
  unfold sortD
  simp [List.mergeSort, List.MergeSort.Internal.splitInTwo, le26]
theorem gs26_1 : gSorted [.list [.int 2, .int 0, .int 1]] = some (.lst [.fz (.int 0), .fz (.int 1), .fz (.int 2)]) := by
  show (if (sortB [.int 2, .int 0, .int 1] && okNs 12 [.int 2, .int 0, .int 1]) = true then some (M.v (L.lst ((sortD [.int 2, .int 0, .int 1]).map .fz))) else none) = _
  rw [so26_1]; rfl
theorem gs26_2 : gSorted [.list [.int 0, .int 1, .int 1]] = some (.lst [.fz (.int 0), .fz (.int 1), .fz (.int 1)]) := by
  show (if (sortB [.int 0, .int 1, .int 1] && okNs 12 [.int 0, .int 1, .int 1]) = true then some (M.v (L.lst ((sortD [.int 0, .int 1, .int 1]).map .fz))) else none) = _
  rw [so26_2]; rfl
abbrev O1 : PD := .list [.int 2, .int 0, .int 1]
abbrev O2 : PD := .list [.int 0, .int 1, .int 1]
def isRt : SR → Bool
  | .rt _ δ => decide (3 ≤ δ.length)
  | _ => false
theorem isRt_of {r : SR} (h : isRt r = true) : ∃ m δ, r = .rt m δ ∧ 3 ≤ δ.length := by
  cases r with
  | rt m δ => exact ⟨m, δ, rfl, of_decide_eq_true h⟩
  | _ => cases h
theorem io26_0 : m_is_order [.fz O1, .fz (.int 3)] = .ret (.fz (.bool true)) [.fz O1, .fz (.int 3)] := by
  unfold m_is_order
  refine (semOf_ (by rfl) (by rfl)).trans ?_
  have h1 : (sIf (tOr' (tNt (tTru (eU1 (gIsa PyData.isList) (eN 0)))) (tE (eB2 gNe (eDs gLen (aV (eN 0) aN)) (eN 1)))) (sRt (eC (.bool false))) sNl) [some (.fz O1), some (.fz (.int 3)), none] = .nx [some (.fz O1), some (.fz (.int 3)), none] := by kernel_rfl
  have h2 : (sIf (tTru (eLc [2] (iE (eN 0)) (gN 2) (tNt (tTru (eCl m_is_number (aV (eN 2) (aV (eC (.int 0)) (aV (eB2 FS.gSub (eN 1) (eC (.int 1))) aN)))))) (eN 2))) (sRt (eC (.bool false))) sNl) [some (.fz O1), some (.fz (.int 3)), none] = .nx [some (.fz O1), some (.fz (.int 3)), none] := by kernel_rfl
  have hg := gs26_1
  have hq : gEq (.list [.int 0, .int 1, .int 2]) (.list [.int 0, .int 1, .int 2]) = some (.fz (.bool true)) := by kernel_rfl
  have hr : eLrg (eN 1) [some (.fz O1), some (.fz (.int 3)), none] = .ok (.v (.lst [.fz (.int 0), .fz (.int 1), .fz (.int 2)])) [some (.fz O1), some (.fz (.int 3)), none] := by kernel_rfl
  unfold s_is_order
  show frOf [] _ ((sSq (sIf (tOr' (tNt (tTru (eU1 (gIsa PyData.isList) (eN 0)))) (tE (eB2 gNe (eDs gLen (aV (eN 0) aN)) (eN 1)))) (sRt (eC (.bool false))) sNl) (sSq (sIf (tTru (eLc [2] (iE (eN 0)) (gN 2) (tNt (tTru (eCl m_is_number (aV (eN 2) (aV (eC (.int 0)) (aV (eB2 FS.gSub (eN 1) (eC (.int 1))) aN)))))) (eN 2))) (sRt (eC (.bool false))) sNl) (sRt (eB2 gEq (eDs gSorted (aV (eN 0) aN)) (eLrg (eN 1)))))) [some (.fz O1), some (.fz (.int 3)), none]) = _
  rw [sSq_, h1, sqR_nx, sSq_, h2, sqR_nx]
  simp [hg, hr, hq]
theorem co26_0 : m_check_order [.fz O1, .fz (.int 3)] = .ret (.fz .none) [.fz O1, .fz (.int 3)] := by
  unfold m_check_order
  refine (semOf_ (by rfl) (by rfl)).trans ?_
  simp [s_check_order, io26_0, truD]
theorem io26_1 : m_is_order [.fz O2, .fz (.int 3)] = .ret (.fz (.bool false)) [.fz O2, .fz (.int 3)] := by
  unfold m_is_order
  refine (semOf_ (by rfl) (by rfl)).trans ?_
  have h1 : (sIf (tOr' (tNt (tTru (eU1 (gIsa PyData.isList) (eN 0)))) (tE (eB2 gNe (eDs gLen (aV (eN 0) aN)) (eN 1)))) (sRt (eC (.bool false))) sNl) [some (.fz O2), some (.fz (.int 3)), none] = .nx [some (.fz O2), some (.fz (.int 3)), none] := by kernel_rfl
  have h2 : (sIf (tTru (eLc [2] (iE (eN 0)) (gN 2) (tNt (tTru (eCl m_is_number (aV (eN 2) (aV (eC (.int 0)) (aV (eB2 FS.gSub (eN 1) (eC (.int 1))) aN)))))) (eN 2))) (sRt (eC (.bool false))) sNl) [some (.fz O2), some (.fz (.int 3)), none] = .nx [some (.fz O2), some (.fz (.int 3)), none] := by kernel_rfl
  have hg := gs26_2
  have hq : gEq (.list [.int 0, .int 1, .int 1]) (.list [.int 0, .int 1, .int 2]) = some (.fz (.bool false)) := by kernel_rfl
  have hr : eLrg (eN 1) [some (.fz O2), some (.fz (.int 3)), none] = .ok (.v (.lst [.fz (.int 0), .fz (.int 1), .fz (.int 2)])) [some (.fz O2), some (.fz (.int 3)), none] := by kernel_rfl
  unfold s_is_order
  show frOf [] _ ((sSq (sIf (tOr' (tNt (tTru (eU1 (gIsa PyData.isList) (eN 0)))) (tE (eB2 gNe (eDs gLen (aV (eN 0) aN)) (eN 1)))) (sRt (eC (.bool false))) sNl) (sSq (sIf (tTru (eLc [2] (iE (eN 0)) (gN 2) (tNt (tTru (eCl m_is_number (aV (eN 2) (aV (eC (.int 0)) (aV (eB2 FS.gSub (eN 1) (eC (.int 1))) aN)))))) (eN 2))) (sRt (eC (.bool false))) sNl) (sRt (eB2 gEq (eDs gSorted (aV (eN 0) aN)) (eLrg (eN 1)))))) [some (.fz O2), some (.fz (.int 3)), none]) = _
  rw [sSq_, h1, sqR_nx, sSq_, h2, sqR_nx]
  simp [hg, hr, hq]
theorem co26_1 : m_check_order [.fz O2, .fz (.int 3)] = .ex 2 [.fz O2, .fz (.int 3)] := by
  unfold m_check_order
  refine (semOf_ (by rfl) (by rfl)).trans ?_
  simp [s_check_order, io26_1, truD]
theorem crossings26_0 : ∃ m, m_crossings [.fz one26, .fz two26, .fz O1] = .ret m [.fz one26, .fz two26, .fz O1] := by
  have h0 : (sEx (eCl m_check_two (aV (eN 0) (aV (eN 1) aN)))) [some (.fz one26), some (.fz two26), some (.fz O1), none, none, none, none] = .nx [some (.fz one26), some (.fz two26), some (.fz O1), none, none, none, none] := by kernel_rfl
  have hl : gLen [one26] = some (.fz (.int 3)) := by kernel_rfl
  have h1 : (sEx (eCl m_check_order (aV (eN 2) (aV (eDs gLen (aV (eN 0) aN)) aN)))) [some (.fz one26), some (.fz two26), some (.fz O1), none, none, none, none] = .nx [some (.fz one26), some (.fz two26), some (.fz O1), none, none, none, none] := by
    generalize one26 = A at *
    simp [hl, co26_0]
  obtain ⟨m, δ, h2, h3⟩ := isRt_of (r := (sSq (sAs 3 (eDs FS.gLst aN)) (sSq (sFor (iR rng1 (aV (eDs gLen (aV (eN 2) aN)) aN)) (gN 4) (sSq (sAs 5 (eDs FS.gTup (aV (eB2 gIx (eN 0) (eN 4)) (aV (eB2 gIx (eN 1) (eB2 gIx (eN 2) (eN 4))) aN)))) (sAs 3 (eB2 gAdd (eN 3) (eLc [6] (iR rng2 (aV (eB2 gAdd (eN 4) (eC (.int 1))) (aV (eDs gLen (aV (eN 2) aN)) aN))) (gN 6) (tTru (eCl m_do_cross (aV (eN 5) (aV (eDs FS.gTup (aV (eB2 gIx (eN 0) (eN 6)) (aV (eB2 gIx (eN 1) (eB2 gIx (eN 2) (eN 6))) aN))) aN)))) (eDs FS.gTup (aV (eN 4) (aV (eN 6) aN)))))))) (sRt (eN 3)))) [some (.fz one26), some (.fz two26), some (.fz O1), none, none, none, none]) (by kernel_rfl)
  refine ⟨m, ?_⟩
  unfold m_crossings
  refine (semOf_ (by rfl) (by rfl)).trans ?_
  show frOf [] _ ((sSq (sEx (eCl m_check_two (aV (eN 0) (aV (eN 1) aN)))) (sSq (sEx (eCl m_check_order (aV (eN 2) (aV (eDs gLen (aV (eN 0) aN)) aN)))) (sSq (sAs 3 (eDs FS.gLst aN)) (sSq (sFor (iR rng1 (aV (eDs gLen (aV (eN 2) aN)) aN)) (gN 4) (sSq (sAs 5 (eDs FS.gTup (aV (eB2 gIx (eN 0) (eN 4)) (aV (eB2 gIx (eN 1) (eB2 gIx (eN 2) (eN 4))) aN)))) (sAs 3 (eB2 gAdd (eN 3) (eLc [6] (iR rng2 (aV (eB2 gAdd (eN 4) (eC (.int 1))) (aV (eDs gLen (aV (eN 2) aN)) aN))) (gN 6) (tTru (eCl m_do_cross (aV (eN 5) (aV (eDs FS.gTup (aV (eB2 gIx (eN 0) (eN 6)) (aV (eB2 gIx (eN 1) (eB2 gIx (eN 2) (eN 6))) aN))) aN)))) (eDs FS.gTup (aV (eN 4) (aV (eN 6) aN)))))))) (sRt (eN 3)))))) [some (.fz one26), some (.fz two26), some (.fz O1), none, none, none, none]) = _
  rw [sSq_, h0, sqR_nx, sSq_, h1, sqR_nx, h2]
  exact fr0_rt h3
theorem crossings26_1 : m_crossings [.fz one26, .fz two26, .fz O2] = .ex 2 [.fz one26, .fz two26, .fz O2] := by
  have h0 : (sEx (eCl m_check_two (aV (eN 0) (aV (eN 1) aN)))) [some (.fz one26), some (.fz two26), some (.fz O2), none, none, none, none] = .nx [some (.fz one26), some (.fz two26), some (.fz O2), none, none, none, none] := by kernel_rfl
  have hl : gLen [one26] = some (.fz (.int 3)) := by kernel_rfl
  have h1 : (sEx (eCl m_check_order (aV (eN 2) (aV (eDs gLen (aV (eN 0) aN)) aN)))) [some (.fz one26), some (.fz two26), some (.fz O2), none, none, none, none] = .ex 2 [some (.fz one26), some (.fz two26), some (.fz O2), none, none, none, none] := by
    generalize one26 = A at *
    simp [hl, co26_1]
  unfold m_crossings
  refine (semOf_ (by rfl) (by rfl)).trans ?_
  show frOf [] _ ((sSq (sEx (eCl m_check_two (aV (eN 0) (aV (eN 1) aN)))) (sSq (sEx (eCl m_check_order (aV (eN 2) (aV (eDs gLen (aV (eN 0) aN)) aN)))) (sSq (sAs 3 (eDs FS.gLst aN)) (sSq (sFor (iR rng1 (aV (eDs gLen (aV (eN 2) aN)) aN)) (gN 4) (sSq (sAs 5 (eDs FS.gTup (aV (eB2 gIx (eN 0) (eN 4)) (aV (eB2 gIx (eN 1) (eB2 gIx (eN 2) (eN 4))) aN)))) (sAs 3 (eB2 gAdd (eN 3) (eLc [6] (iR rng2 (aV (eB2 gAdd (eN 4) (eC (.int 1))) (aV (eDs gLen (aV (eN 2) aN)) aN))) (gN 6) (tTru (eCl m_do_cross (aV (eN 5) (aV (eDs FS.gTup (aV (eB2 gIx (eN 0) (eN 6)) (aV (eB2 gIx (eN 1) (eB2 gIx (eN 2) (eN 6))) aN))) aN)))) (eDs FS.gTup (aV (eN 4) (aV (eN 6) aN)))))))) (sRt (eN 3)))))) [some (.fz one26), some (.fz two26), some (.fz O2), none, none, none, none]) = _
  rw [sSq_, h0, sqR_nx, sSq_, h1]
  simp
theorem lc26_00 : ∃ m, m__law_call [.fz (.str (Str.ofString "crossings")), .fz one26, .fz two26, .fz O1] = .ret m [.fz (.str (Str.ofString "crossings")), .fz one26, .fz two26, .fz O1] := by
  obtain ⟨m, hm⟩ := crossings26_0
  refine ⟨m, ?_⟩
  unfold m__law_call
  refine (semOf_ (by rfl) (by rfl)).trans ?_
  have q0 : gEq (.str (Str.ofString "crossings")) (.str (Str.ofString "meet")) = some (.fz (.bool false)) := by kernel_rfl
  have q1 : gEq (.str (Str.ofString "crossings")) (.str (Str.ofString "crossings")) = some (.fz (.bool true)) := by kernel_rfl
  have q2 : gEq (.str (Str.ofString "crossings")) (.str (Str.ofString "uncrossed")) = some (.fz (.bool false)) := by kernel_rfl
  generalize one26 = A at *
  generalize two26 = B at *
  simp [s__law_call, q0, q1, q2, hm]
theorem lc26_01 : m__law_call [.fz (.str (Str.ofString "crossings")), .fz one26, .fz two26, .fz O2] = .ex 2 [.fz (.str (Str.ofString "crossings")), .fz one26, .fz two26, .fz O2] := by
  have hm := crossings26_1
  unfold m__law_call
  refine (semOf_ (by rfl) (by rfl)).trans ?_
  have q0 : gEq (.str (Str.ofString "crossings")) (.str (Str.ofString "meet")) = some (.fz (.bool false)) := by kernel_rfl
  have q1 : gEq (.str (Str.ofString "crossings")) (.str (Str.ofString "crossings")) = some (.fz (.bool true)) := by kernel_rfl
  have q2 : gEq (.str (Str.ofString "crossings")) (.str (Str.ofString "uncrossed")) = some (.fz (.bool false)) := by kernel_rfl
  generalize one26 = A at *
  generalize two26 = B at *
  simp [s__law_call, q0, q1, q2, hm]
theorem b26_0 : er26 (.str (Str.ofString "crossings")) one26 two26 O1 .none := by
  obtain ⟨m, hm⟩ := lc26_00
  unfold er26 m__law_error_v1
  refine (semOf_ (by rfl) (by rfl)).trans ?_
  have h0 : (sEx (eCl m__law_call (aV (eN 0) (aV (eN 1) (aV (eN 2) (aV (eN 3) aN)))))) [some (.fz (.str (Str.ofString "crossings"))), some (.fz one26), some (.fz two26), some (.fz O1), none] = .nx [some (.fz (.str (Str.ofString "crossings"))), some (.fz one26), some (.fz two26), some (.fz O1), none] := by
    generalize one26 = A at *
    generalize two26 = B at *
    simp [hm]
  unfold s__law_error_v1
  show frOf [] _ ((sSq _ _) [some (.fz (.str (Str.ofString "crossings"))), some (.fz one26), some (.fz two26), some (.fz O1), none]) = _
  rw [sSq_]
  unfold sTrA
  rw [h0]
  simp
theorem bb26_0 : er26 (.str (Str.ofString "crossings")) one26 two26 O2 (.str (Str.ofString "argument")) := by
  have hm := lc26_01
  unfold er26 m__law_error_v1
  refine (semOf_ (by rfl) (by rfl)).trans ?_
  have h0 : (sEx (eCl m__law_call (aV (eN 0) (aV (eN 1) (aV (eN 2) (aV (eN 3) aN)))))) [some (.fz (.str (Str.ofString "crossings"))), some (.fz one26), some (.fz two26), some (.fz O2), none] = .ex 2 [some (.fz (.str (Str.ofString "crossings"))), some (.fz one26), some (.fz two26), some (.fz O2), none] := by
    generalize one26 = A at *
    generalize two26 = B at *
    simp [hm]
  unfold s__law_error_v1
  show frOf [] _ ((sSq _ _) [some (.fz (.str (Str.ofString "crossings"))), some (.fz one26), some (.fz two26), some (.fz O2), none]) = _
  rw [sSq_]
  unfold sTrA
  rw [h0]
  simp [pickA, subX]
theorem g26_0 : ∀ b ∈ orders26, er26 (.str (Str.ofString "crossings")) one26 two26 b (.str (Str.ofString "argument")) := by
  unfold orders26
  refine List.forall_mem_cons.mpr ⟨by kernel_rfl, ?_⟩
  refine List.forall_mem_cons.mpr ⟨bb26_0, ?_⟩
  refine List.forall_mem_cons.mpr ⟨by kernel_rfl, ?_⟩
  refine List.forall_mem_cons.mpr ⟨by kernel_rfl, ?_⟩
  refine List.forall_mem_cons.mpr ⟨by kernel_rfl, ?_⟩
  refine List.forall_mem_cons.mpr ⟨by kernel_rfl, ?_⟩
  refine List.forall_mem_cons.mpr ⟨by kernel_rfl, ?_⟩
  refine List.forall_mem_cons.mpr ⟨by kernel_rfl, ?_⟩
  exact fun _ h => nomatch h
theorem uncrossed26_0 : ∃ m, m_uncrossed [.fz one26, .fz two26, .fz O1] = .ret m [.fz one26, .fz two26, .fz O1] := by
  have h0 : (sEx (eCl m_check_two (aV (eN 0) (aV (eN 1) aN)))) [some (.fz one26), some (.fz two26), some (.fz O1), none, none, none, none] = .nx [some (.fz one26), some (.fz two26), some (.fz O1), none, none, none, none] := by kernel_rfl
  have hl : gLen [one26] = some (.fz (.int 3)) := by kernel_rfl
  have h1 : (sEx (eCl m_check_order (aV (eN 2) (aV (eDs gLen (aV (eN 0) aN)) aN)))) [some (.fz one26), some (.fz two26), some (.fz O1), none, none, none, none] = .nx [some (.fz one26), some (.fz two26), some (.fz O1), none, none, none, none] := by
    generalize one26 = A at *
    simp [hl, co26_0]
  obtain ⟨m, δ, h2, h3⟩ := isRt_of (r := (sSq (sIf (tE (eB2 gGt (eDs gLen (aV (eN 0) aN)) (eC (.int 30)))) (sRs 6) sNl) (sSq (sAs 3 (eDs gListOf (aV (eN 2) aN))) (sWh (tTru (eC (.bool true))) (sSq (sAs 4 (ePk (eCl m_first_crossing (aV (eN 0) (aV (eN 1) (aV (eN 3) aN)))))) (sSq (sIf (tE (eB2 gIs (eN 4) (eC .none))) (sRt (eMv 3)) sNl) (sSq (sAg (gUp [5, 6]) (eN 4)) (sSw (.s 3) (eN 5) (.s 3) (eN 6) (ePk (eDs FS.gTup (aV (eB2 gIx (eN 3) (eN 6)) (aV (eB2 gIx (eN 3) (eN 5)) aN))))))))))) [some (.fz one26), some (.fz two26), some (.fz O1), none, none, none, none]) (by kernel_rfl)
  refine ⟨m, ?_⟩
  unfold m_uncrossed
  refine (semOf_ (by rfl) (by rfl)).trans ?_
  show frOf [] _ ((sSq (sEx (eCl m_check_two (aV (eN 0) (aV (eN 1) aN)))) (sSq (sEx (eCl m_check_order (aV (eN 2) (aV (eDs gLen (aV (eN 0) aN)) aN)))) (sSq (sIf (tE (eB2 gGt (eDs gLen (aV (eN 0) aN)) (eC (.int 30)))) (sRs 6) sNl) (sSq (sAs 3 (eDs gListOf (aV (eN 2) aN))) (sWh (tTru (eC (.bool true))) (sSq (sAs 4 (ePk (eCl m_first_crossing (aV (eN 0) (aV (eN 1) (aV (eN 3) aN)))))) (sSq (sIf (tE (eB2 gIs (eN 4) (eC .none))) (sRt (eMv 3)) sNl) (sSq (sAg (gUp [5, 6]) (eN 4)) (sSw (.s 3) (eN 5) (.s 3) (eN 6) (ePk (eDs FS.gTup (aV (eB2 gIx (eN 3) (eN 6)) (aV (eB2 gIx (eN 3) (eN 5)) aN))))))))))))) [some (.fz one26), some (.fz two26), some (.fz O1), none, none, none, none]) = _
  rw [sSq_, h0, sqR_nx, sSq_, h1, sqR_nx, h2]
  exact fr0_rt h3
theorem uncrossed26_1 : m_uncrossed [.fz one26, .fz two26, .fz O2] = .ex 2 [.fz one26, .fz two26, .fz O2] := by
  have h0 : (sEx (eCl m_check_two (aV (eN 0) (aV (eN 1) aN)))) [some (.fz one26), some (.fz two26), some (.fz O2), none, none, none, none] = .nx [some (.fz one26), some (.fz two26), some (.fz O2), none, none, none, none] := by kernel_rfl
  have hl : gLen [one26] = some (.fz (.int 3)) := by kernel_rfl
  have h1 : (sEx (eCl m_check_order (aV (eN 2) (aV (eDs gLen (aV (eN 0) aN)) aN)))) [some (.fz one26), some (.fz two26), some (.fz O2), none, none, none, none] = .ex 2 [some (.fz one26), some (.fz two26), some (.fz O2), none, none, none, none] := by
    generalize one26 = A at *
    simp [hl, co26_1]
  unfold m_uncrossed
  refine (semOf_ (by rfl) (by rfl)).trans ?_
  show frOf [] _ ((sSq (sEx (eCl m_check_two (aV (eN 0) (aV (eN 1) aN)))) (sSq (sEx (eCl m_check_order (aV (eN 2) (aV (eDs gLen (aV (eN 0) aN)) aN)))) (sSq (sIf (tE (eB2 gGt (eDs gLen (aV (eN 0) aN)) (eC (.int 30)))) (sRs 6) sNl) (sSq (sAs 3 (eDs gListOf (aV (eN 2) aN))) (sWh (tTru (eC (.bool true))) (sSq (sAs 4 (ePk (eCl m_first_crossing (aV (eN 0) (aV (eN 1) (aV (eN 3) aN)))))) (sSq (sIf (tE (eB2 gIs (eN 4) (eC .none))) (sRt (eMv 3)) sNl) (sSq (sAg (gUp [5, 6]) (eN 4)) (sSw (.s 3) (eN 5) (.s 3) (eN 6) (ePk (eDs FS.gTup (aV (eB2 gIx (eN 3) (eN 6)) (aV (eB2 gIx (eN 3) (eN 5)) aN))))))))))))) [some (.fz one26), some (.fz two26), some (.fz O2), none, none, none, none]) = _
  rw [sSq_, h0, sqR_nx, sSq_, h1]
  simp
theorem lc26_10 : ∃ m, m__law_call [.fz (.str (Str.ofString "uncrossed")), .fz one26, .fz two26, .fz O1] = .ret m [.fz (.str (Str.ofString "uncrossed")), .fz one26, .fz two26, .fz O1] := by
  obtain ⟨m, hm⟩ := uncrossed26_0
  refine ⟨m, ?_⟩
  unfold m__law_call
  refine (semOf_ (by rfl) (by rfl)).trans ?_
  have q0 : gEq (.str (Str.ofString "uncrossed")) (.str (Str.ofString "meet")) = some (.fz (.bool false)) := by kernel_rfl
  have q1 : gEq (.str (Str.ofString "uncrossed")) (.str (Str.ofString "crossings")) = some (.fz (.bool false)) := by kernel_rfl
  have q2 : gEq (.str (Str.ofString "uncrossed")) (.str (Str.ofString "uncrossed")) = some (.fz (.bool true)) := by kernel_rfl
  generalize one26 = A at *
  generalize two26 = B at *
  simp [s__law_call, q0, q1, q2, hm]
theorem lc26_11 : m__law_call [.fz (.str (Str.ofString "uncrossed")), .fz one26, .fz two26, .fz O2] = .ex 2 [.fz (.str (Str.ofString "uncrossed")), .fz one26, .fz two26, .fz O2] := by
  have hm := uncrossed26_1
  unfold m__law_call
  refine (semOf_ (by rfl) (by rfl)).trans ?_
  have q0 : gEq (.str (Str.ofString "uncrossed")) (.str (Str.ofString "meet")) = some (.fz (.bool false)) := by kernel_rfl
  have q1 : gEq (.str (Str.ofString "uncrossed")) (.str (Str.ofString "crossings")) = some (.fz (.bool false)) := by kernel_rfl
  have q2 : gEq (.str (Str.ofString "uncrossed")) (.str (Str.ofString "uncrossed")) = some (.fz (.bool true)) := by kernel_rfl
  generalize one26 = A at *
  generalize two26 = B at *
  simp [s__law_call, q0, q1, q2, hm]
theorem b26_1 : er26 (.str (Str.ofString "uncrossed")) one26 two26 O1 .none := by
  obtain ⟨m, hm⟩ := lc26_10
  unfold er26 m__law_error_v1
  refine (semOf_ (by rfl) (by rfl)).trans ?_
  have h0 : (sEx (eCl m__law_call (aV (eN 0) (aV (eN 1) (aV (eN 2) (aV (eN 3) aN)))))) [some (.fz (.str (Str.ofString "uncrossed"))), some (.fz one26), some (.fz two26), some (.fz O1), none] = .nx [some (.fz (.str (Str.ofString "uncrossed"))), some (.fz one26), some (.fz two26), some (.fz O1), none] := by
    generalize one26 = A at *
    generalize two26 = B at *
    simp [hm]
  unfold s__law_error_v1
  show frOf [] _ ((sSq _ _) [some (.fz (.str (Str.ofString "uncrossed"))), some (.fz one26), some (.fz two26), some (.fz O1), none]) = _
  rw [sSq_]
  unfold sTrA
  rw [h0]
  simp
theorem bb26_1 : er26 (.str (Str.ofString "uncrossed")) one26 two26 O2 (.str (Str.ofString "argument")) := by
  have hm := lc26_11
  unfold er26 m__law_error_v1
  refine (semOf_ (by rfl) (by rfl)).trans ?_
  have h0 : (sEx (eCl m__law_call (aV (eN 0) (aV (eN 1) (aV (eN 2) (aV (eN 3) aN)))))) [some (.fz (.str (Str.ofString "uncrossed"))), some (.fz one26), some (.fz two26), some (.fz O2), none] = .ex 2 [some (.fz (.str (Str.ofString "uncrossed"))), some (.fz one26), some (.fz two26), some (.fz O2), none] := by
    generalize one26 = A at *
    generalize two26 = B at *
    simp [hm]
  unfold s__law_error_v1
  show frOf [] _ ((sSq _ _) [some (.fz (.str (Str.ofString "uncrossed"))), some (.fz one26), some (.fz two26), some (.fz O2), none]) = _
  rw [sSq_]
  unfold sTrA
  rw [h0]
  simp [pickA, subX]
theorem g26_1 : ∀ b ∈ orders26, er26 (.str (Str.ofString "uncrossed")) one26 two26 b (.str (Str.ofString "argument")) := by
  unfold orders26
  refine List.forall_mem_cons.mpr ⟨by kernel_rfl, ?_⟩
  refine List.forall_mem_cons.mpr ⟨bb26_1, ?_⟩
  refine List.forall_mem_cons.mpr ⟨by kernel_rfl, ?_⟩
  refine List.forall_mem_cons.mpr ⟨by kernel_rfl, ?_⟩
  refine List.forall_mem_cons.mpr ⟨by kernel_rfl, ?_⟩
  refine List.forall_mem_cons.mpr ⟨by kernel_rfl, ?_⟩
  refine List.forall_mem_cons.mpr ⟨by kernel_rfl, ?_⟩
  refine List.forall_mem_cons.mpr ⟨by kernel_rfl, ?_⟩
  exact fun _ h => nomatch h
end MX
namespace MX
open PySem PySem.Spec L2 FS FX
theorem ix_of6 (l : List PD) (h : l ≠ []) (q : Int) (n : Int) (hn : n = l.length) : ∃ b ∈ l, gIx (.list l) (.int (q % n)) = some (.fz b) := by
  subst hn
  have hp : 0 < l.length := List.length_pos_iff.mpr h
  have h0 := Int.emod_nonneg q (b := (l.length : Int)) (by omega)
  have h1 := Int.emod_lt_of_pos q (b := (l.length : Int)) (by omega)
  obtain ⟨j, hj⟩ : ∃ j : Nat, q % (l.length : Int) = j := ⟨(q % (l.length : Int)).toNat, by omega⟩
  rw [hj] at h1 ⊢
  have hj2 : j < l.length := by omega
  exact ⟨l[j], List.getElem_mem hj2, by rw [gIx_l, atI_nat, List.getElem?_eq_getElem hj2]; rfl⟩
def two26L : List L := [.fz (.tuple [.int 9, .int 9]), .fz (.tuple [.int 0, .int 0])]
theorem two26_sl : gSl two26 none (some 2) = some (.lst two26L) := by kernel_rfl
theorem two26_pd : PyData.list (L.pds two26L) = two26s := by kernel_rfl
theorem n26_argument : gNe (.str (Str.ofString "argument")) (.str (Str.ofString "argument")) = some (.fz (.bool false)) := by kernel_rfl
theorem n26_move : gNe (.str (Str.ofString "move")) (.str (Str.ofString "move")) = some (.fz (.bool false)) := by kernel_rfl
theorem n26_formation : gNe (.str (Str.ofString "formation")) (.str (Str.ofString "formation")) = some (.fz (.bool false)) := by kernel_rfl
theorem n26_point : gNe (.str (Str.ofString "point")) (.str (Str.ofString "point")) = some (.fz (.bool false)) := by kernel_rfl
theorem q26_l : gEq (.str (Str.ofString "large")) (.str (Str.ofString "large")) = some (.fz (.bool true)) := by kernel_rfl
theorem n26_N : gIsNot .none .none = some (.fz (.bool false)) := by kernel_rfl
theorem i26_N : gIs .none .none = some (.fz (.bool true)) := by kernel_rfl
noncomputable def b26S : SF := (sSq (sAs 15 (eIf (tE (eB2 gEq (eN 8) (eC (.str (Str.ofString "keeping"))))) (eDs FS.gTup (aV (eC (.int 1)) (aV (eC (.int 2)) aN))) (eDs FS.gLst (aV (eC (.int 2)) (aV (eC (.int 0)) (aV (eC (.int 1)) aN)))))) (sSq (sIf (tOr' (tE (eB2 gIsNot (eCl m__law_error_v1 (aV (eN 8) (aV (eN 13) (aV (eN 14) (aV (eN 15) aN))))) (eC .none))) (tE (eB2 gNe (eCl m__law_error_v1 (aV (eN 8) (aV (eN 13) (aV (eSl (eN 14) oN (oE (eC (.int 2)))) (aV (eN 15) aN))))) (eC (.str (Str.ofString "move")))))) (sRt (eC (.bool false))) sNl) (sSq (sIf (tOr' (tE (eB2 gNe (eCl m__law_error_v1 (aV (eN 8) (aV (eN 7) (aV (eN 14) (aV (eN 15) aN))))) (eC (.str (Str.ofString "formation"))))) (tE (eB2 gNe (eCl m__law_error_v1 (aV (eN 8) (aV (eN 13) (aV (eN 7) (aV (eN 15) aN))))) (eC (.str (Str.ofString "formation")))))) (sRt (eC (.bool false))) sNl) (sSq (sIf (tE (eB2 gNe (eCl m__law_error_v1 (aV (eN 8) (aV (eDs FS.gLst (aV (eDs FS.gTup (aV (eC (.int 0)) (aV (eC (.int 0)) aN))) (aV (eDs FS.gTup (aV (eC (.int 0)) (aV (eC (.int 4001)) aN))) (aV (eDs FS.gTup (aV (eC (.int 1)) (aV (eC (.int 1)) aN))) aN)))) (aV (eN 14) (aV (eN 15) aN))))) (eC (.str (Str.ofString "point"))))) (sRt (eC (.bool false))) sNl) (sIf (tAn (tE (eB2 gNe (eN 8) (eC (.str (Str.ofString "keeping"))))) (tE (eB2 gNe (eCl m__law_error_v1 (aV (eN 8) (aV (eN 13) (aV (eN 14) (aV (eN 5) aN))))) (eC (.str (Str.ofString "argument")))))) (sRt (eC (.bool false))) sNl)))))
theorem l26_0 (x0 x1 x2 x3 x4 x6 x9 x10 x11 x12 x15 x16 : Option M) (q f : PD) (hq : q ∈ orders26) (hf : f ∈ forms26) : b26S [x0, x1, x2, x3, x4, some (.fz q), x6, some (.fz f), some (.fz (.str (Str.ofString "crossings"))), x9, x10, x11, x12, some (.fz one26), some (.fz two26), x15, x16] = .nx [x0, x1, x2, x3, x4, some (.fz q), x6, some (.fz f), some (.fz (.str (Str.ofString "crossings"))), x9, x10, x11, x12, some (.fz one26), some (.fz two26), some (.fz O1), x16] := by
  have h1 := b26_0
  have h2 := c26_0
  have h3 := d26_0 f hf
  have h4 := e26_0 f hf
  have h5 := f26_0
  have h6 := g26_0 q hq
  have e1 : gEq (.str (Str.ofString "crossings")) (.str (Str.ofString "keeping")) = some (.fz (.bool false)) := by kernel_rfl
  have e2 : gNe (.str (Str.ofString "crossings")) (.str (Str.ofString "keeping")) = some (.fz (.bool true)) := by kernel_rfl
  have q1 := two26_sl
  have q2 := two26_pd
  unfold er26 at *
  unfold b26S
  generalize one26 = A at *
  generalize two26 = B at *
  generalize two26s = C at *
  generalize two26L = CL at *
  simp [h1, h2, h3, h4, h5, h6, e1, e2, q1, q2, n26_N, n26_argument, n26_move, n26_formation, n26_point]
theorem l26_1 (x0 x1 x2 x3 x4 x6 x9 x10 x11 x12 x15 x16 : Option M) (q f : PD) (hq : q ∈ orders26) (hf : f ∈ forms26) : b26S [x0, x1, x2, x3, x4, some (.fz q), x6, some (.fz f), some (.fz (.str (Str.ofString "uncrossed"))), x9, x10, x11, x12, some (.fz one26), some (.fz two26), x15, x16] = .nx [x0, x1, x2, x3, x4, some (.fz q), x6, some (.fz f), some (.fz (.str (Str.ofString "uncrossed"))), x9, x10, x11, x12, some (.fz one26), some (.fz two26), some (.fz O1), x16] := by
  have h1 := b26_1
  have h2 := c26_1
  have h3 := d26_1 f hf
  have h4 := e26_1 f hf
  have h5 := f26_1
  have h6 := g26_1 q hq
  have e1 : gEq (.str (Str.ofString "uncrossed")) (.str (Str.ofString "keeping")) = some (.fz (.bool false)) := by kernel_rfl
  have e2 : gNe (.str (Str.ofString "uncrossed")) (.str (Str.ofString "keeping")) = some (.fz (.bool true)) := by kernel_rfl
  have q1 := two26_sl
  have q2 := two26_pd
  unfold er26 at *
  unfold b26S
  generalize one26 = A at *
  generalize two26 = B at *
  generalize two26s = C at *
  generalize two26L = CL at *
  simp [h1, h2, h3, h4, h5, h6, e1, e2, q1, q2, n26_N, n26_argument, n26_move, n26_formation, n26_point]
theorem l26_2 (x0 x1 x2 x3 x4 x6 x9 x10 x11 x12 x15 x16 : Option M) (q f : PD) (hq : q ∈ orders26) (hf : f ∈ forms26) : b26S [x0, x1, x2, x3, x4, some (.fz q), x6, some (.fz f), some (.fz (.str (Str.ofString "keeping"))), x9, x10, x11, x12, some (.fz one26), some (.fz two26), x15, x16] = .nx [x0, x1, x2, x3, x4, some (.fz q), x6, some (.fz f), some (.fz (.str (Str.ofString "keeping"))), x9, x10, x11, x12, some (.fz one26), some (.fz two26), some (.fz (.tuple [.int 1, .int 2])), x16] := by
  have h1 := b26_2
  have h2 := c26_2
  have h3 := d26_2 f hf
  have h4 := e26_2 f hf
  have h5 := f26_2
  skip
  have e1 : gEq (.str (Str.ofString "keeping")) (.str (Str.ofString "keeping")) = some (.fz (.bool true)) := by kernel_rfl
  have e2 : gNe (.str (Str.ofString "keeping")) (.str (Str.ofString "keeping")) = some (.fz (.bool false)) := by kernel_rfl
  have q1 := two26_sl
  have q2 := two26_pd
  unfold er26 at *
  unfold b26S
  generalize one26 = A at *
  generalize two26 = B at *
  generalize two26s = C at *
  generalize two26L = CL at *
  simp [h1, h2, h3, h4, h5, e1, e2, q1, q2, n26_N, n26_argument, n26_move, n26_formation, n26_point]
theorem k26 (ns : List Int) (hl : ns.length ≤ 63) : ∃ δ', s_law_k26 (some (.fz (.list (ns.map .int))) :: List.replicate 16 none) = .rt (.fz (.bool true)) δ' := by
  obtain ⟨xs, hN, _, e0⟩ := m__law_numbers_ ns hl
  have dr : ∀ (k : Nat), k ≤ 1000000 → m__law_draw [DR xs k] = .ret (.fz (.int (drawV xs k))) [DR xs (k + 1)] := fun k hk => m__law_draw_ hN k (by omega)
  generalize hsc : M.fz (.list (ns.map .int)) = sc at *
  have hfz : sc.frz = sc := by rw [← hsc]; rfl
  have hnR : ∀ δ : Env', nR 0 (some (some sc)) δ = R.ok sc δ := fun δ => by rw [← hsc]; rfl
  obtain ⟨b, hb, hib⟩ := ix_of6 strange26 (by decide) (drawV xs 0) 5 rfl
  obtain ⟨p, hp, hip⟩ := ix_of6 points26 (by decide) (drawV xs 1) 6 rfl
  obtain ⟨q, hq, hiq⟩ := ix_of6 orders26 (by decide) (drawV xs 2) 8 rfl
  obtain ⟨f, hf, hif⟩ := ix_of6 forms26 (by decide) (drawV xs 3) 5 rfl
  obtain ⟨e, he, hie⟩ := ix_of6 least26 (by decide) (drawV xs 4) 11 rfl
  have lb : gLen [.list strange26] = some (.fz (.int 5)) := by kernel_rfl
  have lp : gLen [.list points26] = some (.fz (.int 6)) := by kernel_rfl
  have lf : gLen [.list forms26] = some (.fz (.int 5)) := by kernel_rfl
  have dr0 := dr 0 (by omega)
  have dr1 := dr 1 (by omega)
  have dr2 := dr 2 (by omega)
  have dr3 := dr 3 (by omega)
  have dr4 := dr 4 (by omega)
  rw [show 0 + 1 = 1 from rfl] at dr0
  rw [show 1 + 1 = 2 from rfl] at dr1
  rw [show 2 + 1 = 3 from rfl] at dr2
  rw [show 3 + 1 = 4 from rfl] at dr3
  rw [show 4 + 1 = 5 from rfl] at dr4
  have pd_strange26 : PyData.list (L.pds (strange26.map .fz)) = .list strange26 := by kernel_rfl
  have pd_points26 : PyData.list (L.pds (points26.map .fz)) = .list points26 := by kernel_rfl
  have pd_forms26 : PyData.list (L.pds (forms26.map .fz)) = .list forms26 := by kernel_rfl
  have s0 : (sAs 1 (eDs FS.gLst (aV (eCl m__law_numbers (aV (eN 0) aN)) (aV (eC (.int 0)) aN)))) (some sc :: List.replicate 16 none) = .nx [some sc, some (DR xs 0), none, none, none, none, none, none, none, none, none, none, none, none, none, none, none] := by
    simp [List.replicate, hnR, hfz, e0, lsI_pds]
    rfl
  have s1 : (sAs 2 (eDs FS.gTup (aV (eDs FS.gTup (aV (eC (.int 0)) (aV (eC (.int 0)) aN))) (aV (eDs FS.gTup (aV (eC (.int 4000)) (aV (eC (.int 4000)) aN))) aN)))) [some sc, some (DR xs 0), none, none, none, none, none, none, none, none, none, none, none, none, none, none, none] = .nx [some sc, some (DR xs 0), some (.fz way26), none, none, none, none, none, none, none, none, none, none, none, none, none, none] := by
    kernel_rfl
  have s2 : (sAs 3 (eDs FS.gLst (aV (eDs FS.gLst (aV (eDs FS.gTup (aV (eC (.int 0)) (aV (eC (.int 0)) aN))) (aV (eDs FS.gTup (aV (eC (.int 1)) (aV (eC (.int 1)) aN))) aN))) (aV (eDs FS.gTup (aV (eDs FS.gTup (aV (eC (.int 0)) (aV (eC (.int 0)) aN))) aN)) (aV (eC .none) (aV (eDs FS.gTup (aV (eDs FS.gTup (aV (eC (.int 0)) (aV (eC (.int 0)) aN))) (aV (eDs FS.gTup (aV (eC (.int 1)) (aV (eC (.int 1)) aN))) (aV (eDs FS.gTup (aV (eC (.int 2)) (aV (eC (.int 2)) aN))) aN)))) (aV (eC (.str (Str.ofString "way"))) aN))))))) [some sc, some (DR xs 0), some (.fz way26), none, none, none, none, none, none, none, none, none, none, none, none, none, none] = .nx [some sc, some (DR xs 0), some (.fz way26), some (.v (.lst (strange26.map L.fz))), none, none, none, none, none, none, none, none, none, none, none, none, none] := by
    kernel_rfl
  have s3 : (sAs 4 (eDs FS.gLst (aV (eDs FS.gTup (aV (eDs FS.gTup (aV (eC (.int 0)) (aV (eC (.int 0)) aN))) (aV (eDs FS.gTup (aV (eC (.int 4001)) (aV (eC (.int 0)) aN))) aN))) (aV (eDs FS.gTup (aV (eDs FS.gTup (aV (eU1 gNeg (eC (.int 1))) (aV (eC (.int 0)) aN))) (aV (eDs FS.gTup (aV (eC (.int 0)) (aV (eC (.int 0)) aN))) aN))) (aV (eDs FS.gTup (aV (eDs FS.gTup (aV (eC (.bool true)) (aV (eC (.int 0)) aN))) (aV (eDs FS.gTup (aV (eC (.int 0)) (aV (eC (.int 0)) aN))) aN))) (aV (eDs FS.gTup (aV (eDs FS.gLst (aV (eC (.int 0)) (aV (eC (.int 0)) aN))) (aV (eDs FS.gTup (aV (eC (.int 0)) (aV (eC (.int 0)) aN))) aN))) (aV (eDs FS.gTup (aV (eDs FS.gTup (aV (eC (.int 0)) (aV (eC (.int 0)) (aV (eC (.int 0)) aN)))) (aV (eDs FS.gTup (aV (eC (.int 0)) (aV (eC (.int 0)) aN))) aN))) (aV (eDs FS.gTup (aV (eC .none) (aV (eDs FS.gTup (aV (eC (.int 0)) (aV (eC (.int 0)) aN))) aN))) aN)))))))) [some sc, some (DR xs 0), some (.fz way26), some (.v (.lst (strange26.map L.fz))), none, none, none, none, none, none, none, none, none, none, none, none, none] = .nx [some sc, some (DR xs 0), some (.fz way26), some (.v (.lst (strange26.map L.fz))), some (.v (.lst (points26.map L.fz))), none, none, none, none, none, none, none, none, none, none, none, none] := by
    kernel_rfl
  have s4 : (sPar [11, 12] (aV (eB2 gIx (eN 3) (eB2 gMod (eCl m__law_draw (aIo 1 aN)) (eDs gLen (aV (eN 3) aN)))) (aV (eB2 gIx (eN 4) (eB2 gMod (eCl m__law_draw (aIo 1 aN)) (eDs gLen (aV (eN 4) aN)))) aN))) [some sc, some (DR xs 0), some (.fz way26), some (.v (.lst (strange26.map L.fz))), some (.v (.lst (points26.map L.fz))), none, none, none, none, none, none, none, none, none, none, none, none] = .nx [some sc, some (DR xs 2), some (.fz way26), some (.fz (.list strange26)), some (.fz (.list points26)), none, none, none, none, none, none, some (.fz b), some (.fz p), none, none, none, none] := by
    generalize (strange26.map L.fz) = SL at *
    generalize (points26.map L.fz) = PL at *
    generalize (forms26.map L.fz) = FL at *
    generalize PyData.list strange26 = SD at *
    generalize PyData.list points26 = PD' at *
    generalize PyData.list forms26 = FD at *
    generalize way26 = WD at *
    generalize one26 = A at *
    generalize two26 = B at *
    generalize DR xs 0 = d0 at *
    generalize DR xs 1 = d1 at *
    generalize DR xs 2 = d2 at *
    generalize DR xs 3 = d3 at *
    generalize DR xs 4 = d4 at *
    generalize DR xs 5 = d5 at *
    simp (disch := omega) [pd_strange26, pd_points26, lb, lp, dr0, dr1, hib, hip]
  have s5 : (sIf (tOr' (tE (eB2 gNe (eCl m__law_error_v1 (aV (eC (.str (Str.ofString "meet"))) (aV (eN 11) (aV (eN 2) (aV (eC .none) aN))))) (eC (.str (Str.ofString "move"))))) (tE (eB2 gNe (eCl m__law_error_v1 (aV (eC (.str (Str.ofString "meet"))) (aV (eN 2) (aV (eN 11) (aV (eC .none) aN))))) (eC (.str (Str.ofString "move")))))) (sRt (eC (.bool false))) sNl) [some sc, some (DR xs 2), some (.fz way26), some (.fz (.list strange26)), some (.fz (.list points26)), none, none, none, none, none, none, some (.fz b), some (.fz p), none, none, none, none] = .nx [some sc, some (DR xs 2), some (.fz way26), some (.fz (.list strange26)), some (.fz (.list points26)), none, none, none, none, none, none, some (.fz b), some (.fz p), none, none, none, none] := by
    have h1 := a26_1 b hb
    have h2 := a26_2 b hb
    unfold er26 at h1 h2
    generalize (strange26.map L.fz) = SL at *
    generalize (points26.map L.fz) = PL at *
    generalize (forms26.map L.fz) = FL at *
    generalize PyData.list strange26 = SD at *
    generalize PyData.list points26 = PD' at *
    generalize PyData.list forms26 = FD at *
    generalize way26 = WD at *
    generalize one26 = A at *
    generalize two26 = B at *
    generalize DR xs 0 = d0 at *
    generalize DR xs 1 = d1 at *
    generalize DR xs 2 = d2 at *
    generalize DR xs 3 = d3 at *
    generalize DR xs 4 = d4 at *
    generalize DR xs 5 = d5 at *
    simp [h1, h2, n26_move]
  have s6 : (sIf (tOr' (tE (eB2 gNe (eCl m__law_error_v1 (aV (eC (.str (Str.ofString "meet"))) (aV (eN 12) (aV (eN 2) (aV (eC .none) aN))))) (eC (.str (Str.ofString "point"))))) (tE (eB2 gNe (eCl m__law_error_v1 (aV (eC (.str (Str.ofString "meet"))) (aV (eN 2) (aV (eN 12) (aV (eC .none) aN))))) (eC (.str (Str.ofString "point")))))) (sRt (eC (.bool false))) sNl) [some sc, some (DR xs 2), some (.fz way26), some (.fz (.list strange26)), some (.fz (.list points26)), none, none, none, none, none, none, some (.fz b), some (.fz p), none, none, none, none] = .nx [some sc, some (DR xs 2), some (.fz way26), some (.fz (.list strange26)), some (.fz (.list points26)), none, none, none, none, none, none, some (.fz b), some (.fz p), none, none, none, none] := by
    have h1 := a26_3 p hp
    have h2 := a26_4 p hp
    unfold er26 at h1 h2
    generalize (strange26.map L.fz) = SL at *
    generalize (points26.map L.fz) = PL at *
    generalize (forms26.map L.fz) = FL at *
    generalize PyData.list strange26 = SD at *
    generalize PyData.list points26 = PD' at *
    generalize PyData.list forms26 = FD at *
    generalize way26 = WD at *
    generalize one26 = A at *
    generalize two26 = B at *
    generalize DR xs 0 = d0 at *
    generalize DR xs 1 = d1 at *
    generalize DR xs 2 = d2 at *
    generalize DR xs 3 = d3 at *
    generalize DR xs 4 = d4 at *
    generalize DR xs 5 = d5 at *
    simp [h1, h2, n26_point]
  have s7 : (sPar [13, 14] (aV (eDs FS.gLst (aV (eDs FS.gTup (aV (eC (.int 0)) (aV (eC (.int 0)) aN))) (aV (eDs FS.gTup (aV (eC (.int 1)) (aV (eC (.int 0)) aN))) (aV (eDs FS.gTup (aV (eC (.int 5)) (aV (eC (.int 5)) aN))) aN)))) (aV (eDs FS.gLst (aV (eDs FS.gTup (aV (eC (.int 9)) (aV (eC (.int 9)) aN))) (aV (eDs FS.gTup (aV (eC (.int 0)) (aV (eC (.int 0)) aN))) (aV (eDs FS.gTup (aV (eC (.int 4000)) (aV (eC (.int 0)) aN))) aN)))) aN))) [some sc, some (DR xs 2), some (.fz way26), some (.fz (.list strange26)), some (.fz (.list points26)), none, none, none, none, none, none, some (.fz b), some (.fz p), none, none, none, none] = .nx [some sc, some (DR xs 2), some (.fz way26), some (.fz (.list strange26)), some (.fz (.list points26)), none, none, none, none, none, none, some (.fz b), some (.fz p), some (.fz one26), some (.fz two26), none, none] := by
    kernel_rfl
  have s8 : (sAs 5 (eB2 gIx (eDs FS.gLst (aV (eDs FS.gLst (aV (eC (.int 0)) (aV (eC (.int 1)) aN))) (aV (eDs FS.gLst (aV (eC (.int 0)) (aV (eC (.int 1)) (aV (eC (.int 1)) aN)))) (aV (eDs FS.gLst (aV (eC (.int 0)) (aV (eC (.int 1)) (aV (eC (.int 3)) aN)))) (aV (eDs FS.gTup (aV (eC (.int 0)) (aV (eC (.int 1)) (aV (eC (.int 2)) aN)))) (aV (eC .none) (aV (eDs FS.gLst (aV (eC (.int 0)) (aV (eC (.int 1)) (aV (eC (.bool true)) aN)))) (aV (eDs FS.gLst (aV (eC (.int 0)) (aV (eC (.int 1)) (aV (eC (.str (Str.ofString "2"))) aN)))) (aV (eDs FS.gLst (aV (eC (.int 0)) (aV (eC (.int 1)) (aV (eC (.int 2)) (aV (eC (.int 3)) aN))))) aN))))))))) (eB2 gMod (eCl m__law_draw (aIo 1 aN)) (eC (.int 8))))) [some sc, some (DR xs 2), some (.fz way26), some (.fz (.list strange26)), some (.fz (.list points26)), none, none, none, none, none, none, some (.fz b), some (.fz p), some (.fz one26), some (.fz two26), none, none] = .nx [some sc, some (DR xs 3), some (.fz way26), some (.fz (.list strange26)), some (.fz (.list points26)), some (.fz q), none, none, none, none, none, some (.fz b), some (.fz p), some (.fz one26), some (.fz two26), none, none] := by
    unfold orders26 at hiq
    generalize (strange26.map L.fz) = SL at *
    generalize (points26.map L.fz) = PL at *
    generalize (forms26.map L.fz) = FL at *
    generalize PyData.list strange26 = SD at *
    generalize PyData.list points26 = PD' at *
    generalize PyData.list forms26 = FD at *
    generalize way26 = WD at *
    generalize one26 = A at *
    generalize two26 = B at *
    generalize DR xs 0 = d0 at *
    generalize DR xs 1 = d1 at *
    generalize DR xs 2 = d2 at *
    generalize DR xs 3 = d3 at *
    generalize DR xs 4 = d4 at *
    generalize DR xs 5 = d5 at *
    simp (disch := omega) [dr2, hiq]
  have s9 : (sAs 6 (eDs FS.gLst (aV (eDs FS.gLst aN) (aV (eDs FS.gTup (aV (eDs FS.gTup (aV (eC (.int 0)) (aV (eC (.int 0)) aN))) aN)) (aV (eC .none) (aV (eDs FS.gLst (aV (eDs FS.gTup (aV (eC (.int 0)) (aV (eC (.int 0)) aN))) (aV (eDs FS.gTup (aV (eC (.int 0)) (aV (eC (.int 0)) aN))) (aV (eDs FS.gTup (aV (eC (.int 1)) (aV (eC (.int 1)) aN))) aN)))) (aV (eLc [16] (iR rng1 (aV (eC (.int 61)) aN)) (gN 16) tY (eDs FS.gTup (aV (eN 16) (aV (eC (.int 0)) aN)))) aN))))))) [some sc, some (DR xs 3), some (.fz way26), some (.fz (.list strange26)), some (.fz (.list points26)), some (.fz q), none, none, none, none, none, some (.fz b), some (.fz p), some (.fz one26), some (.fz two26), none, none] = .nx [some sc, some (DR xs 3), some (.fz way26), some (.fz (.list strange26)), some (.fz (.list points26)), some (.fz q), some (.v (.lst (forms26.map L.fz))), none, none, none, none, some (.fz b), some (.fz p), some (.fz one26), some (.fz two26), none, none] := by
    kernel_rfl
  have s10 : (sAs 7 (eB2 gIx (eN 6) (eB2 gMod (eCl m__law_draw (aIo 1 aN)) (eDs gLen (aV (eN 6) aN))))) [some sc, some (DR xs 3), some (.fz way26), some (.fz (.list strange26)), some (.fz (.list points26)), some (.fz q), some (.v (.lst (forms26.map L.fz))), none, none, none, none, some (.fz b), some (.fz p), some (.fz one26), some (.fz two26), none, none] = .nx [some sc, some (DR xs 4), some (.fz way26), some (.fz (.list strange26)), some (.fz (.list points26)), some (.fz q), some (.fz (.list forms26)), some (.fz f), none, none, none, some (.fz b), some (.fz p), some (.fz one26), some (.fz two26), none, none] := by
    generalize (strange26.map L.fz) = SL at *
    generalize (points26.map L.fz) = PL at *
    generalize (forms26.map L.fz) = FL at *
    generalize PyData.list strange26 = SD at *
    generalize PyData.list points26 = PD' at *
    generalize PyData.list forms26 = FD at *
    generalize way26 = WD at *
    generalize one26 = A at *
    generalize two26 = B at *
    generalize DR xs 0 = d0 at *
    generalize DR xs 1 = d1 at *
    generalize DR xs 2 = d2 at *
    generalize DR xs 3 = d3 at *
    generalize DR xs 4 = d4 at *
    generalize DR xs 5 = d5 at *
    simp (disch := omega) [pd_forms26, lf, dr3, hif]
  have hL : sLoop (gN 8) b26S [.str (Str.ofString "crossings"), .str (Str.ofString "uncrossed"), .str (Str.ofString "keeping")] [some sc, some (DR xs 4), some (.fz way26), some (.fz (.list strange26)), some (.fz (.list points26)), some (.fz q), some (.fz (.list forms26)), some (.fz f), none, none, none, some (.fz b), some (.fz p), some (.fz one26), some (.fz two26), none, none] = .nx [some sc, some (DR xs 4), some (.fz way26), some (.fz (.list strange26)), some (.fz (.list points26)), some (.fz q), some (.fz (.list forms26)), some (.fz f), some (.fz (.str (Str.ofString "keeping"))), none, none, some (.fz b), some (.fz p), some (.fz one26), some (.fz two26), some (.fz (.tuple [.int 1, .int 2])), none] := by
    have l0 := l26_0 (some sc) (some (DR xs 4)) (some (.fz way26)) (some (.fz (.list strange26))) (some (.fz (.list points26))) (some (.fz (.list forms26))) (none) (none) (some (.fz b)) (some (.fz p)) (none) (none) q f hq hf
    have l1 := l26_1 (some sc) (some (DR xs 4)) (some (.fz way26)) (some (.fz (.list strange26))) (some (.fz (.list points26))) (some (.fz (.list forms26))) (none) (none) (some (.fz b)) (some (.fz p)) (some (.fz O1)) (none) q f hq hf
    have l2 := l26_2 (some sc) (some (DR xs 4)) (some (.fz way26)) (some (.fz (.list strange26))) (some (.fz (.list points26))) (some (.fz (.list forms26))) (none) (none) (some (.fz b)) (some (.fz p)) (some (.fz O1)) (none) q f hq hf
    generalize (strange26.map L.fz) = SL at *
    generalize (points26.map L.fz) = PL at *
    generalize (forms26.map L.fz) = FL at *
    generalize PyData.list strange26 = SD at *
    generalize PyData.list points26 = PD' at *
    generalize PyData.list forms26 = FD at *
    generalize way26 = WD at *
    generalize one26 = A at *
    generalize two26 = B at *
    generalize DR xs 0 = d0 at *
    generalize DR xs 1 = d1 at *
    generalize DR xs 2 = d2 at *
    generalize DR xs 3 = d3 at *
    generalize DR xs 4 = d4 at *
    generalize DR xs 5 = d5 at *
    simp [l0, l1, l2]
  have s11 : (sFor (iE (eDs FS.gLst (aV (eC (.str (Str.ofString "crossings"))) (aV (eC (.str (Str.ofString "uncrossed"))) (aV (eC (.str (Str.ofString "keeping"))) aN))))) (gN 8) (sSq (sAs 15 (eIf (tE (eB2 gEq (eN 8) (eC (.str (Str.ofString "keeping"))))) (eDs FS.gTup (aV (eC (.int 1)) (aV (eC (.int 2)) aN))) (eDs FS.gLst (aV (eC (.int 2)) (aV (eC (.int 0)) (aV (eC (.int 1)) aN)))))) (sSq (sIf (tOr' (tE (eB2 gIsNot (eCl m__law_error_v1 (aV (eN 8) (aV (eN 13) (aV (eN 14) (aV (eN 15) aN))))) (eC .none))) (tE (eB2 gNe (eCl m__law_error_v1 (aV (eN 8) (aV (eN 13) (aV (eSl (eN 14) oN (oE (eC (.int 2)))) (aV (eN 15) aN))))) (eC (.str (Str.ofString "move")))))) (sRt (eC (.bool false))) sNl) (sSq (sIf (tOr' (tE (eB2 gNe (eCl m__law_error_v1 (aV (eN 8) (aV (eN 7) (aV (eN 14) (aV (eN 15) aN))))) (eC (.str (Str.ofString "formation"))))) (tE (eB2 gNe (eCl m__law_error_v1 (aV (eN 8) (aV (eN 13) (aV (eN 7) (aV (eN 15) aN))))) (eC (.str (Str.ofString "formation")))))) (sRt (eC (.bool false))) sNl) (sSq (sIf (tE (eB2 gNe (eCl m__law_error_v1 (aV (eN 8) (aV (eDs FS.gLst (aV (eDs FS.gTup (aV (eC (.int 0)) (aV (eC (.int 0)) aN))) (aV (eDs FS.gTup (aV (eC (.int 0)) (aV (eC (.int 4001)) aN))) (aV (eDs FS.gTup (aV (eC (.int 1)) (aV (eC (.int 1)) aN))) aN)))) (aV (eN 14) (aV (eN 15) aN))))) (eC (.str (Str.ofString "point"))))) (sRt (eC (.bool false))) sNl) (sIf (tAn (tE (eB2 gNe (eN 8) (eC (.str (Str.ofString "keeping"))))) (tE (eB2 gNe (eCl m__law_error_v1 (aV (eN 8) (aV (eN 13) (aV (eN 14) (aV (eN 5) aN))))) (eC (.str (Str.ofString "argument")))))) (sRt (eC (.bool false))) sNl)))))) [some sc, some (DR xs 4), some (.fz way26), some (.fz (.list strange26)), some (.fz (.list points26)), some (.fz q), some (.fz (.list forms26)), some (.fz f), none, none, none, some (.fz b), some (.fz p), some (.fz one26), some (.fz two26), none, none] = .nx [some sc, some (DR xs 4), some (.fz way26), some (.fz (.list strange26)), some (.fz (.list points26)), some (.fz q), some (.fz (.list forms26)), some (.fz f), some (.fz (.str (Str.ofString "keeping"))), none, none, some (.fz b), some (.fz p), some (.fz one26), some (.fz two26), some (.fz (.tuple [.int 1, .int 2])), none] := by
    unfold b26S at hL
    generalize (strange26.map L.fz) = SL at *
    generalize (points26.map L.fz) = PL at *
    generalize (forms26.map L.fz) = FL at *
    generalize PyData.list strange26 = SD at *
    generalize PyData.list points26 = PD' at *
    generalize PyData.list forms26 = FD at *
    generalize way26 = WD at *
    generalize one26 = A at *
    generalize two26 = B at *
    generalize DR xs 0 = d0 at *
    generalize DR xs 1 = d1 at *
    generalize DR xs 2 = d2 at *
    generalize DR xs 3 = d3 at *
    generalize DR xs 4 = d4 at *
    generalize DR xs 5 = d5 at *
    simp [seqD, hL]
  have s12 : (sAs 9 (eB2 gIx (eDs FS.gLst (aV (eDs FS.gTup (aV (eC (.int 2)) (aV (eC (.int 4)) aN))) (aV (eDs FS.gTup (aV (eU1 gNeg (eC (.int 1))) (aV (eC (.int 1)) aN))) (aV (eDs FS.gTup (aV (eC (.int 1)) (aV (eC (.int 0)) aN))) (aV (eDs FS.gTup (aV (eC (.int 32000001)) (aV (eC (.int 1)) aN))) (aV (eDs FS.gTup (aV (eC (.int 1)) (aV (eC (.int 1000001)) aN))) (aV (eDs FS.gLst (aV (eC (.int 1)) (aV (eC (.int 2)) aN))) (aV (eDs FS.gTup (aV (eC (.int 1)) aN)) (aV (eC .none) (aV (eDs FS.gTup (aV (eC (.bool true)) (aV (eC (.int 1)) aN))) (aV (eC (.int 1)) (aV (eDs FS.gTup (aV (eC (.int 0)) (aV (eC (.int 2)) aN))) aN)))))))))))) (eB2 gMod (eCl m__law_draw (aIo 1 aN)) (eC (.int 11))))) [some sc, some (DR xs 4), some (.fz way26), some (.fz (.list strange26)), some (.fz (.list points26)), some (.fz q), some (.fz (.list forms26)), some (.fz f), some (.fz (.str (Str.ofString "keeping"))), none, none, some (.fz b), some (.fz p), some (.fz one26), some (.fz two26), some (.fz (.tuple [.int 1, .int 2])), none] = .nx [some sc, some (DR xs 5), some (.fz way26), some (.fz (.list strange26)), some (.fz (.list points26)), some (.fz q), some (.fz (.list forms26)), some (.fz f), some (.fz (.str (Str.ofString "keeping"))), some (.fz e), none, some (.fz b), some (.fz p), some (.fz one26), some (.fz two26), some (.fz (.tuple [.int 1, .int 2])), none] := by
    unfold least26 at hie
    generalize (strange26.map L.fz) = SL at *
    generalize (points26.map L.fz) = PL at *
    generalize (forms26.map L.fz) = FL at *
    generalize PyData.list strange26 = SD at *
    generalize PyData.list points26 = PD' at *
    generalize PyData.list forms26 = FD at *
    generalize way26 = WD at *
    generalize one26 = A at *
    generalize two26 = B at *
    generalize DR xs 0 = d0 at *
    generalize DR xs 1 = d1 at *
    generalize DR xs 2 = d2 at *
    generalize DR xs 3 = d3 at *
    generalize DR xs 4 = d4 at *
    generalize DR xs 5 = d5 at *
    simp (disch := omega) [dr4, hie]
  have s13 : (sIf (tE (eB2 gNe (eCl m__law_error_v1 (aV (eC (.str (Str.ofString "keeping"))) (aV (eN 13) (aV (eN 14) (aV (eN 9) aN))))) (eC (.str (Str.ofString "argument"))))) (sRt (eC (.bool false))) sNl) [some sc, some (DR xs 5), some (.fz way26), some (.fz (.list strange26)), some (.fz (.list points26)), some (.fz q), some (.fz (.list forms26)), some (.fz f), some (.fz (.str (Str.ofString "keeping"))), some (.fz e), none, some (.fz b), some (.fz p), some (.fz one26), some (.fz two26), some (.fz (.tuple [.int 1, .int 2])), none] = .nx [some sc, some (DR xs 5), some (.fz way26), some (.fz (.list strange26)), some (.fz (.list points26)), some (.fz q), some (.fz (.list forms26)), some (.fz f), some (.fz (.str (Str.ofString "keeping"))), some (.fz e), none, some (.fz b), some (.fz p), some (.fz one26), some (.fz two26), some (.fz (.tuple [.int 1, .int 2])), none] := by
    have h1 := h26 e he
    unfold er26 at h1
    generalize (strange26.map L.fz) = SL at *
    generalize (points26.map L.fz) = PL at *
    generalize (forms26.map L.fz) = FL at *
    generalize PyData.list strange26 = SD at *
    generalize PyData.list points26 = PD' at *
    generalize PyData.list forms26 = FD at *
    generalize way26 = WD at *
    generalize one26 = A at *
    generalize two26 = B at *
    generalize DR xs 0 = d0 at *
    generalize DR xs 1 = d1 at *
    generalize DR xs 2 = d2 at *
    generalize DR xs 3 = d3 at *
    generalize DR xs 4 = d4 at *
    generalize DR xs 5 = d5 at *
    simp [h1, n26_argument]
  have s14 : (sAs 10 (eLc [16] (iR rng1 (aV (eC (.int 8)) aN)) (gN 16) tY (eDs FS.gTup (aV (eN 16) (aV (eC (.int 0)) aN))))) [some sc, some (DR xs 5), some (.fz way26), some (.fz (.list strange26)), some (.fz (.list points26)), some (.fz q), some (.fz (.list forms26)), some (.fz f), some (.fz (.str (Str.ofString "keeping"))), some (.fz e), none, some (.fz b), some (.fz p), some (.fz one26), some (.fz two26), some (.fz (.tuple [.int 1, .int 2])), none] = .nx [some sc, some (DR xs 5), some (.fz way26), some (.fz (.list strange26)), some (.fz (.list points26)), some (.fz q), some (.fz (.list forms26)), some (.fz f), some (.fz (.str (Str.ofString "keeping"))), some (.fz e), some (.v (.lst [.fz (.tuple [.int 0, .int 0]), .fz (.tuple [.int 1, .int 0]), .fz (.tuple [.int 2, .int 0]), .fz (.tuple [.int 3, .int 0]), .fz (.tuple [.int 4, .int 0]), .fz (.tuple [.int 5, .int 0]), .fz (.tuple [.int 6, .int 0]), .fz (.tuple [.int 7, .int 0])])), some (.fz b), some (.fz p), some (.fz one26), some (.fz two26), some (.fz (.tuple [.int 1, .int 2])), none] := by
    kernel_rfl
  have s15 : (sRt (eAn (eB2 gEq (eCl m__law_error_v1 (aV (eC (.str (Str.ofString "keeping"))) (aV (eN 10) (aV (eN 10) (aV (eDs FS.gTup (aV (eC (.int 1)) (aV (eC (.int 2)) aN))) aN))))) (eC (.str (Str.ofString "large")))) (eB2 gIs (eCl m__law_error_v1 (aV (eC (.str (Str.ofString "keeping"))) (aV (eSl (eN 10) oN (oE (eC (.int 7)))) (aV (eSl (eN 10) oN (oE (eC (.int 7)))) (aV (eDs FS.gTup (aV (eC (.int 32000000)) (aV (eC (.int 1)) aN))) aN))))) (eC .none)))) [some sc, some (DR xs 5), some (.fz way26), some (.fz (.list strange26)), some (.fz (.list points26)), some (.fz q), some (.fz (.list forms26)), some (.fz f), some (.fz (.str (Str.ofString "keeping"))), some (.fz e), some (.v (.lst [.fz (.tuple [.int 0, .int 0]), .fz (.tuple [.int 1, .int 0]), .fz (.tuple [.int 2, .int 0]), .fz (.tuple [.int 3, .int 0]), .fz (.tuple [.int 4, .int 0]), .fz (.tuple [.int 5, .int 0]), .fz (.tuple [.int 6, .int 0]), .fz (.tuple [.int 7, .int 0])])), some (.fz b), some (.fz p), some (.fz one26), some (.fz two26), some (.fz (.tuple [.int 1, .int 2])), none] = .rt (.fz (.bool true)) [some sc, some (DR xs 5), some (.fz way26), some (.fz (.list strange26)), some (.fz (.list points26)), some (.fz q), some (.fz (.list forms26)), some (.fz f), some (.fz (.str (Str.ofString "keeping"))), some (.fz e), some (.fz row26), some (.fz b), some (.fz p), some (.fz one26), some (.fz two26), some (.fz (.tuple [.int 1, .int 2])), none] := by
    have h1 := i26_1
    have h2 := i26_2
    unfold er26 at h1 h2
    have q1 : PyData.list (L.pds [.fz (.tuple [.int 0, .int 0]), .fz (.tuple [.int 1, .int 0]), .fz (.tuple [.int 2, .int 0]), .fz (.tuple [.int 3, .int 0]), .fz (.tuple [.int 4, .int 0]), .fz (.tuple [.int 5, .int 0]), .fz (.tuple [.int 6, .int 0]), .fz (.tuple [.int 7, .int 0])]) = row26 := by kernel_rfl
    have q2 : gSl row26 none (some 7) = some (.lst [.fz (.tuple [.int 0, .int 0]), .fz (.tuple [.int 1, .int 0]), .fz (.tuple [.int 2, .int 0]), .fz (.tuple [.int 3, .int 0]), .fz (.tuple [.int 4, .int 0]), .fz (.tuple [.int 5, .int 0]), .fz (.tuple [.int 6, .int 0])]) := by kernel_rfl
    have q3 : PyData.list (L.pds [.fz (.tuple [.int 0, .int 0]), .fz (.tuple [.int 1, .int 0]), .fz (.tuple [.int 2, .int 0]), .fz (.tuple [.int 3, .int 0]), .fz (.tuple [.int 4, .int 0]), .fz (.tuple [.int 5, .int 0]), .fz (.tuple [.int 6, .int 0])]) = row26s := by kernel_rfl
    generalize ([.fz (.tuple [.int 0, .int 0]), .fz (.tuple [.int 1, .int 0]), .fz (.tuple [.int 2, .int 0]), .fz (.tuple [.int 3, .int 0]), .fz (.tuple [.int 4, .int 0]), .fz (.tuple [.int 5, .int 0]), .fz (.tuple [.int 6, .int 0]), .fz (.tuple [.int 7, .int 0])] : List L) = RL at *
    generalize ([.fz (.tuple [.int 0, .int 0]), .fz (.tuple [.int 1, .int 0]), .fz (.tuple [.int 2, .int 0]), .fz (.tuple [.int 3, .int 0]), .fz (.tuple [.int 4, .int 0]), .fz (.tuple [.int 5, .int 0]), .fz (.tuple [.int 6, .int 0])] : List L) = RS at *
    generalize row26 = R at *
    generalize row26s = S at *
    generalize (strange26.map L.fz) = SL at *
    generalize (points26.map L.fz) = PL at *
    generalize (forms26.map L.fz) = FL at *
    generalize PyData.list strange26 = SD at *
    generalize PyData.list points26 = PD' at *
    generalize PyData.list forms26 = FD at *
    generalize way26 = WD at *
    generalize one26 = A at *
    generalize two26 = B at *
    generalize DR xs 0 = d0 at *
    generalize DR xs 1 = d1 at *
    generalize DR xs 2 = d2 at *
    generalize DR xs 3 = d3 at *
    generalize DR xs 4 = d4 at *
    generalize DR xs 5 = d5 at *
    simp [q1, q2, q3, h1, h2, q26_l, i26_N]
  refine ⟨[some sc, some (DR xs 5), some (.fz way26), some (.fz (.list strange26)), some (.fz (.list points26)), some (.fz q), some (.fz (.list forms26)), some (.fz f), some (.fz (.str (Str.ofString "keeping"))), some (.fz e), some (.fz row26), some (.fz b), some (.fz p), some (.fz one26), some (.fz two26), some (.fz (.tuple [.int 1, .int 2])), none], ?_⟩
  unfold s_law_k26
  rw [sSq_, s0, sqR_nx, sSq_, s1, sqR_nx, sSq_, s2, sqR_nx, sSq_, s3, sqR_nx, sSq_, s4, sqR_nx, sSq_, s5, sqR_nx, sSq_, s6, sqR_nx, sSq_, s7, sqR_nx, sSq_, s8, sqR_nx, sSq_, s9, sqR_nx, sSq_, s10, sqR_nx, sSq_, s11, sqR_nx, sSq_, s12, sqR_nx, sSq_, s13, sqR_nx, sSq_, s14, sqR_nx, s15]
end MX
namespace K26
open PySem PySem.Spec PyProof.Rows L2 FS FX
def top (i : Nat) : Stmt := PySem.Challenge.pw_fieldshow_k26_ways_are_checked.main.body.getD i (.Pass ⟨0, 0, 0, 0⟩)
def clsBody : Stmt → List Stmt
  | .ClassDef _ _ _ b _ _ _ _ _ _ _ => b
  | _ => []
abbrev t_is_number : Stmt := top 8
abbrev t_divisor : Stmt := top 9
abbrev t_fraction : Stmt := top 10
abbrev t_is_less : Stmt := top 11
abbrev t_nearest : Stmt := top 13
abbrev t_is_point : Stmt := top 17
abbrev t_check_point : Stmt := top 18
abbrev t_check_formation : Stmt := top 19
abbrev t_check_two : Stmt := top 21
abbrev t_is_order : Stmt := top 22
abbrev t_check_order : Stmt := top 23
abbrev t_check_way : Stmt := top 29
abbrev t_side : Stmt := top 30
abbrev t_is_on : Stmt := top 31
abbrev t_do_cross : Stmt := top 32
abbrev t_meeting : Stmt := top 33
abbrev t_meet : Stmt := top 34
abbrev t_first_crossing : Stmt := top 35
abbrev t_crossings : Stmt := top 36
abbrev t_uncrossed : Stmt := top 37
abbrev t_check_fraction : Stmt := top 38
abbrev t_difference : Stmt := top 39
abbrev t_Keeping_init : Stmt := (clsBody (top 40)).getD 0 (.Pass ⟨0, 0, 0, 0⟩)
abbrev t_Keeping_fits : Stmt := (clsBody (top 40)).getD 1 (.Pass ⟨0, 0, 0, 0⟩)
abbrev t_Keeping_all_from : Stmt := (clsBody (top 40)).getD 2 (.Pass ⟨0, 0, 0, 0⟩)
abbrev t_keeping : Stmt := top 41
abbrev t__law_mixed : Stmt := top 43
abbrev t__law_numbers : Stmt := top 44
abbrev t__law_draw : Stmt := top 45
abbrev t__law_equal : Stmt := top 46
abbrev t__law_all_equal : Stmt := top 47
abbrev t__law_call : Stmt := top 48
abbrev t__law_error : Stmt := top 49
abbrev t_law : Stmt := top 50
def exN : List Str := ["ShowError", "BadPoint", "BadArgument", "BadFormation", "BadMove", "ShowError", "TooLarge", "ShowError", "ShowError", "ShowError", "ShowError", "ShowError", "Keeping", "ShowError", "ShowError", "ShowError", "ShowError", "ShowError", "ShowError", "ShowError"]
abbrev tbl (K : PySem.W.Frag) (i : Nat) : Addr := He.ga K (exN.getD i (Str.ofString "ShowError"))
structure Txt (K : PySem.W.Frag) (mg : Str → Option Value) : Prop where
  n_ValueError : mg (Str.ofString "ValueError") = none
  n_abs : mg (Str.ofString "abs") = none
  n_bool : mg (Str.ofString "bool") = none
  n_int : mg (Str.ofString "int") = none
  n_isinstance : mg (Str.ofString "isinstance") = none
  n_len : mg (Str.ofString "len") = none
  n_list : mg (Str.ofString "list") = none
  n_max : mg (Str.ofString "max") = none
  n_min : mg (Str.ofString "min") = none
  n_range : mg (Str.ofString "range") = none
  n_set : mg (Str.ofString "set") = none
  n_sorted : mg (Str.ofString "sorted") = none
  n_str : mg (Str.ofString "str") = none
  n_tuple : mg (Str.ofString "tuple") = none
  c_MOST : ∃ t, mg (Str.ofString "MOST") = some (.int 4000 t)
  c_MOST_MARCHERS : ∃ t, mg (Str.ofString "MOST_MARCHERS") = some (.int 60 t)
  c_MOST_PART : ∃ t, mg (Str.ofString "MOST_PART") = some (.int 1000000 t)
  c_MOST_SQUARE : ∃ t, mg (Str.ofString "MOST_SQUARE") = some (.int 32000000 t)
  c_MOST_TRIED : ∃ t, mg (Str.ofString "MOST_TRIED") = some (.int 7 t)
  c_MOST_UNCROSSED : ∃ t, mg (Str.ofString "MOST_UNCROSSED") = some (.int 30 t)
  e_ShowError : ExcC K mg (Str.ofString "ShowError") (tbl K 0)
  e_BadPoint : ExcC K mg (Str.ofString "BadPoint") (tbl K 1)
  e_BadFormation : ExcC K mg (Str.ofString "BadFormation") (tbl K 3)
  e_BadMove : ExcC K mg (Str.ofString "BadMove") (tbl K 4)
  e_BadArgument : ExcC K mg (Str.ofString "BadArgument") (tbl K 2)
  e_TooLarge : ExcC K mg (Str.ofString "TooLarge") (tbl K 6)
  k_Keeping : Cls K (tbl K 12)
  a_Keeping_least : NoAttr K (tbl K 12) (Str.ofString "least")
  a_Keeping_one : NoAttr K (tbl K 12) (Str.ofString "one")
  a_Keeping_two : NoAttr K (tbl K 12) (Str.ofString "two")
  x_BadPoint : EX K (tbl K) (tbl K 1)
  x_BadArgument : EX K (tbl K) (tbl K 2)
  x_BadFormation : EX K (tbl K) (tbl K 3)
  x_BadMove : EX K (tbl K) (tbl K 4)
  x_TooLarge : EX K (tbl K) (tbl K 6)
  sub_BadPoint : ∀ n, PySem.W.exmOne K (.ref (tbl K n)) (.ref (tbl K 1)) = some (subX n 1)
  sub_BadArgument : ∀ n, PySem.W.exmOne K (.ref (tbl K n)) (.ref (tbl K 2)) = some (subX n 2)
  sub_BadFormation : ∀ n, PySem.W.exmOne K (.ref (tbl K n)) (.ref (tbl K 3)) = some (subX n 3)
  sub_BadMove : ∀ n, PySem.W.exmOne K (.ref (tbl K n)) (.ref (tbl K 4)) = some (subX n 4)
  sub_TooLarge : ∀ n, PySem.W.exmOne K (.ref (tbl K n)) (.ref (tbl K 6)) = some (subX n 6)
section
variable {P : Program} {w : World} {K : PySem.W.Frag} {mg : Str → Option Value} {base : Heap}
abbrev Fn (K : PySem.W.Frag) (x : Str) (st : Stmt) (f : Addr) (fd : FuncData) : Prop := FunD K x x (defArgs st) (defBody st) (defScope st) [] [] f fd
abbrev FnM (K : PySem.W.Frag) (x qual : Str) (st : Stmt) (f : Addr) (fd : FuncData) : Prop := FunD K x qual (defArgs st) (defBody st) (defScope st) [] [] f fd
theorem sc_is_number : FnScope ["value", "low", "high"] ["value", "low", "high"] (defScope t_is_number) := ⟨rfl, rfl, rfl, by decide +kernel, rfl, by decide +kernel, by decide +kernel⟩
theorem sc_divisor : FnScope ["a", "b"] ["a", "b"] (defScope t_divisor) := ⟨rfl, rfl, rfl, by decide +kernel, rfl, by decide +kernel, by decide +kernel⟩
theorem sc_fraction : FnScope ["p", "q", "common"] ["p", "q"] (defScope t_fraction) := ⟨rfl, rfl, rfl, by decide +kernel, rfl, by decide +kernel, by decide +kernel⟩
theorem sc_is_less : FnScope ["one", "other"] ["one", "other"] (defScope t_is_less) := ⟨rfl, rfl, rfl, by decide +kernel, rfl, by decide +kernel, by decide +kernel⟩
theorem sc_nearest : FnScope ["u", "v", "a", "b", "m", "whole", "across"] ["u", "v"] (defScope t_nearest) := ⟨rfl, rfl, rfl, by decide +kernel, rfl, by decide +kernel, by decide +kernel⟩
theorem sc_is_point : FnScope ["value"] ["value"] (defScope t_is_point) := ⟨rfl, rfl, rfl, by decide +kernel, rfl, by decide +kernel, by decide +kernel⟩
theorem sc_check_point : FnScope ["value"] ["value"] (defScope t_check_point) := ⟨rfl, rfl, rfl, by decide +kernel, rfl, by decide +kernel, by decide +kernel⟩
theorem sc_check_formation : FnScope ["value", "point"] ["value"] (defScope t_check_formation) := ⟨rfl, rfl, rfl, by decide +kernel, rfl, by decide +kernel, by decide +kernel⟩
theorem sc_check_two : FnScope ["one", "two"] ["one", "two"] (defScope t_check_two) := ⟨rfl, rfl, rfl, by decide +kernel, rfl, by decide +kernel, by decide +kernel⟩
theorem sc_is_order : FnScope ["value", "many", "place"] ["value", "many"] (defScope t_is_order) := ⟨rfl, rfl, rfl, by decide +kernel, rfl, by decide +kernel, by decide +kernel⟩
theorem sc_check_order : FnScope ["value", "many"] ["value", "many"] (defScope t_check_order) := ⟨rfl, rfl, rfl, by decide +kernel, rfl, by decide +kernel, by decide +kernel⟩
theorem sc_check_way : FnScope ["value"] ["value"] (defScope t_check_way) := ⟨rfl, rfl, rfl, by decide +kernel, rfl, by decide +kernel, by decide +kernel⟩
theorem sc_side : FnScope ["a", "b", "c"] ["a", "b", "c"] (defScope t_side) := ⟨rfl, rfl, rfl, by decide +kernel, rfl, by decide +kernel, by decide +kernel⟩
theorem sc_is_on : FnScope ["a", "b", "c"] ["a", "b", "c"] (defScope t_is_on) := ⟨rfl, rfl, rfl, by decide +kernel, rfl, by decide +kernel, by decide +kernel⟩
theorem sc_do_cross : FnScope ["one", "other", "a", "b", "c", "d"] ["one", "other"] (defScope t_do_cross) := ⟨rfl, rfl, rfl, by decide +kernel, rfl, by decide +kernel, by decide +kernel⟩
theorem sc_meeting : FnScope ["one", "other", "found", "point"] ["one", "other"] (defScope t_meeting) := ⟨rfl, rfl, rfl, by decide +kernel, rfl, by decide +kernel, by decide +kernel⟩
theorem sc_meet : FnScope ["way", "other"] ["way", "other"] (defScope t_meet) := ⟨rfl, rfl, rfl, by decide +kernel, rfl, by decide +kernel, by decide +kernel⟩
theorem sc_first_crossing : FnScope ["one", "two", "order", "i", "j"] ["one", "two", "order"] (defScope t_first_crossing) := ⟨rfl, rfl, rfl, by decide +kernel, rfl, by decide +kernel, by decide +kernel⟩
theorem sc_crossings : FnScope ["one", "two", "order", "found", "i", "own", "j"] ["one", "two", "order"] (defScope t_crossings) := ⟨rfl, rfl, rfl, by decide +kernel, rfl, by decide +kernel, by decide +kernel⟩
theorem sc_uncrossed : FnScope ["one", "two", "order", "found", "pair", "i", "j"] ["one", "two", "order"] (defScope t_uncrossed) := ⟨rfl, rfl, rfl, by decide +kernel, rfl, by decide +kernel, by decide +kernel⟩
theorem sc_check_fraction : FnScope ["value"] ["value"] (defScope t_check_fraction) := ⟨rfl, rfl, rfl, by decide +kernel, rfl, by decide +kernel, by decide +kernel⟩
theorem sc_difference : FnScope ["point", "other"] ["point", "other"] (defScope t_difference) := ⟨rfl, rfl, rfl, by decide +kernel, rfl, by decide +kernel, by decide +kernel⟩
theorem sc_Keeping_init : FnScope ["self", "one", "two", "least"] ["self", "one", "two", "least"] (defScope t_Keeping_init) := ⟨rfl, rfl, rfl, by decide +kernel, rfl, by decide +kernel, by decide +kernel⟩
theorem sc_Keeping_fits : FnScope ["self", "order", "place", "k", "j", "u", "v"] ["self", "order", "place"] (defScope t_Keeping_fits) := ⟨rfl, rfl, rfl, by decide +kernel, rfl, by decide +kernel, by decide +kernel⟩
theorem sc_Keeping_all_from : FnScope ["self", "order", "found", "place"] ["self", "order"] (defScope t_Keeping_all_from) := ⟨rfl, rfl, rfl, by decide +kernel, rfl, by decide +kernel, by decide +kernel⟩
theorem sc_keeping : FnScope ["one", "two", "least", "found"] ["one", "two", "least"] (defScope t_keeping) := ⟨rfl, rfl, rfl, by decide +kernel, rfl, by decide +kernel, by decide +kernel⟩
theorem sc__law_mixed : FnScope ["number", "k", "step"] ["number", "k"] (defScope t__law_mixed) := ⟨rfl, rfl, rfl, by decide +kernel, rfl, by decide +kernel, by decide +kernel⟩
theorem sc__law_numbers : FnScope ["script", "numbers", "cell", "rest", "k"] ["script"] (defScope t__law_numbers) := ⟨rfl, rfl, rfl, by decide +kernel, rfl, by decide +kernel, by decide +kernel⟩
theorem sc__law_draw : FnScope ["draws", "at", "first"] ["draws"] (defScope t__law_draw) := ⟨rfl, rfl, rfl, by decide +kernel, rfl, by decide +kernel, by decide +kernel⟩
theorem sc__law_equal : FnScope ["actual", "due"] ["actual", "due"] (defScope t__law_equal) := ⟨rfl, rfl, rfl, by decide +kernel, rfl, by decide +kernel, by decide +kernel⟩
theorem sc__law_all_equal : FnScope ["actual", "due", "k"] ["actual", "due"] (defScope t__law_all_equal) := ⟨rfl, rfl, rfl, by decide +kernel, rfl, by decide +kernel, by decide +kernel⟩
theorem sc__law_call : FnScope ["name", "one", "two", "more"] ["name", "one", "two", "more"] (defScope t__law_call) := ⟨rfl, rfl, rfl, by decide +kernel, rfl, by decide +kernel, by decide +kernel⟩
theorem sc__law_error : FnScope ["name", "one", "two", "more", "error"] ["name", "one", "two", "more"] (defScope t__law_error) := ⟨rfl, rfl, rfl, by decide +kernel, rfl, by decide +kernel, by decide +kernel⟩
theorem sc_law : FnScope ["script", "draws", "way", "strange", "points", "order", "formations", "formation", "name", "least", "row", "bad", "odd", "one", "two", "good", "k"] ["script"] (defScope t_law) := ⟨rfl, rfl, rfl, by decide +kernel, rfl, by decide +kernel, by decide +kernel⟩
theorem ok_is_number (T : Txt K mg) {a : Addr} {fd : FuncData} (F : Fn K "is_number" t_is_number a fd) (g : mg "is_number" = some (.ref a))  :
    Cal P w K mg base (tbl K) (0 + 1) "is_number" ["value", "low", "high"] (semOf 3 3 [] s_is_number) :=
  ⟨a, fd, fn_D F sc_is_number [] s_is_number rfl fun cdv A outer s H vs E hr tk hp =>
    (db_one (ds_ret (de_and (de_isa isa_int rfl T.n_isinstance rfl T.n_int rfl (de_name (pv 0))) (de_and (de_not (de_isa isa_bool rfl T.n_isinstance rfl T.n_bool rfl (de_name (pv 0)))) (de_one (de_chain (op_gLe hr.units) (op_gLe hr.units) cmp_bool2 (de_name (pv 1)) (de_name (pv 0)) (de_name (pv 2)))))))), g, F.kp, F.bindsN fun _ _ _ _ _ _ us hl => match us, hl with | [_, _, _], _ => rfl⟩
theorem ok_divisor (T : Txt K mg) {a : Addr} {fd : FuncData} (F : Fn K "divisor" t_divisor a fd) (g : mg "divisor" = some (.ref a))  :
    Cal P w K mg base (tbl K) (0 + 1) "divisor" ["a", "b"] (semOf 2 2 [] s_divisor) :=
  ⟨a, fd, fn_D F sc_divisor [] s_divisor rfl fun cdv A outer s H vs E hr tk hp =>
    (db_cons (ds_while hp (dt_cmp (op_gNe hr.units) (de_name (pv 1)) de_int (nomark _))
      (db_one (ds_par (i := 0) (j := 1) rfl sc_divisor.nd rfl rfl (by decide) rfl rfl (da_val (de_name (pv 1)) (da_val (de_bin op_gMod (de_name (pv 0)) (de_name (pv 1))) da_nil)) rfl rfl)))
    (db_one (ds_ret (de_name (pv 0))))), g, F.kp, F.bindsN fun _ _ _ _ _ _ us hl => match us, hl with | [_, _], _ => rfl⟩
theorem ok_fraction (T : Txt K mg) {a : Addr} {fd : FuncData} (F : Fn K "fraction" t_fraction a fd) (g : mg "fraction" = some (.ref a)) (c_divisor : Cal P w K mg base (tbl K) 1 "divisor" ["a", "b"] m_divisor) :
    Cal P w K mg base (tbl K) (1 + 1) "fraction" ["p", "q"] (semOf 3 2 [] s_fraction) :=
  ⟨a, fd, fn_D F sc_fraction [] s_fraction rfl fun cdv A outer s H vs E hr tk hp =>
    (db_cons (ds_set (i := 2) sc_fraction.nd rfl (Or.inl rfl) rfl (de_call c_divisor tk hr rfl (da_val (de_callB (cr_gAbs) rfl T.n_abs rfl (da_val (de_name (pv 0)) da_nil)) (da_val (de_callB (cr_gAbs) rfl T.n_abs rfl (da_val (de_name (pv 1)) da_nil)) da_nil)) (argN_val (argN_val argN_nil))))
    (db_cons (ds_if (dt_cmp (op_gLt hr.units) (de_name (pv 1)) de_int (nomark _))
      (db_one (ds_par (i := 0) (j := 1) rfl sc_fraction.nd rfl rfl (by decide) rfl rfl (da_val (de_un un_gNeg (de_name (pv 0))) (da_val (de_un un_gNeg (de_name (pv 1))) da_nil)) rfl rfl))
      db_nil)
    (db_one (ds_ret (de_tup (da_val (de_bin op_gDiv (de_name (pv 0)) (de_name (pv 2))) (da_val (de_bin op_gDiv (de_name (pv 1)) (de_name (pv 2))) da_nil))))))), g, F.kp, F.bindsN fun _ _ _ _ _ _ us hl => match us, hl with | [_, _], _ => rfl⟩
theorem ok_is_less (T : Txt K mg) {a : Addr} {fd : FuncData} (F : Fn K "is_less" t_is_less a fd) (g : mg "is_less" = some (.ref a))  :
    Cal P w K mg base (tbl K) (0 + 1) "is_less" ["one", "other"] (semOf 2 2 [] s_is_less) :=
  ⟨a, fd, fn_D F sc_is_less [] s_is_less rfl fun cdv A outer s H vs E hr tk hp =>
    (db_one (ds_ret (de_cmp (op_gLt hr.units) (de_bin op_gMul (de_ix ix_gIx (de_name (pv 0)) de_int (fun _ _ => rfl)) (de_ix ix_gIx (de_name (pv 1)) de_int (fun _ _ => rfl))) (de_bin op_gMul (de_ix ix_gIx (de_name (pv 1)) de_int (fun _ _ => rfl)) (de_ix ix_gIx (de_name (pv 0)) de_int (fun _ _ => rfl))) (nomark _)))), g, F.kp, F.bindsN fun _ _ _ _ _ _ us hl => match us, hl with | [_, _], _ => rfl⟩
theorem ok_nearest (T : Txt K mg) {a : Addr} {fd : FuncData} (F : Fn K "nearest" t_nearest a fd) (g : mg "nearest" = some (.ref a)) (c_fraction : Cal P w K mg base (tbl K) 2 "fraction" ["p", "q"] m_fraction) :
    Cal P w K mg base (tbl K) (2 + 1) "nearest" ["u", "v"] (semOf 7 2 [] s_nearest_v1) :=
  ⟨a, fd, fn_D F sc_nearest [] s_nearest_v1 rfl fun cdv A outer s H vs E hr tk hp =>
    (db_cons (ds_set (i := 2) sc_nearest.nd rfl (Or.inl rfl) rfl (de_bin op_gAdd (de_bin op_gMul (de_ix ix_gIx (de_name (pv 0)) de_int (fun _ _ => rfl)) (de_ix ix_gIx (de_name (pv 0)) de_int (fun _ _ => rfl))) (de_bin op_gMul (de_ix ix_gIx (de_name (pv 0)) de_int (fun _ _ => rfl)) (de_ix ix_gIx (de_name (pv 0)) de_int (fun _ _ => rfl)))))
    (db_cons (ds_set (i := 3) sc_nearest.nd rfl (Or.inl rfl) rfl (de_bin op_gAdd (de_bin op_gMul (de_ix ix_gIx (de_name (pv 1)) de_int (fun _ _ => rfl)) (de_ix ix_gIx (de_name (pv 1)) de_int (fun _ _ => rfl))) (de_bin op_gMul (de_ix ix_gIx (de_name (pv 1)) de_int (fun _ _ => rfl)) (de_ix ix_gIx (de_name (pv 1)) de_int (fun _ _ => rfl)))))
    (db_cons (ds_set (i := 4) sc_nearest.nd rfl (Or.inl rfl) rfl (de_bin op_gAdd (de_bin op_gMul (de_ix ix_gIx (de_name (pv 0)) de_int (fun _ _ => rfl)) (de_ix ix_gIx (de_name (pv 1)) de_int (fun _ _ => rfl))) (de_bin op_gMul (de_ix ix_gIx (de_name (pv 0)) de_int (fun _ _ => rfl)) (de_ix ix_gIx (de_name (pv 1)) de_int (fun _ _ => rfl)))))
    (db_cons (ds_set (i := 5) sc_nearest.nd rfl (Or.inl rfl) rfl (de_bin op_gSub (de_bin op_gAdd (de_name (pv 2)) (de_name (pv 3))) (de_bin op_gMul de_int (de_name (pv 4)))))
    (db_cons (ds_if (dw_t (dw_or (dt_cmp (op_gEq hr.units) (de_name (pv 5)) de_int (nomark _)) (dw_or1 (dt_cmp (op_gGe hr.units) (de_name (pv 4)) (de_name (pv 2)) (nomark _)))))
      (db_one (ds_ret (de_tup (da_val (de_tup (da_val (de_name (pv 2)) (da_val de_int da_nil))) (da_val (de_tup (da_val de_int (da_val de_int da_nil))) da_nil)))))
      db_nil)
    (db_cons (ds_if (dt_cmp (op_gGe hr.units) (de_name (pv 4)) (de_name (pv 3)) (nomark _))
      (db_one (ds_ret (de_tup (da_val (de_tup (da_val (de_name (pv 3)) (da_val de_int da_nil))) (da_val (de_tup (da_val de_int (da_val de_int da_nil))) da_nil)))))
      db_nil)
    (db_cons (ds_set (i := 6) sc_nearest.nd rfl (Or.inl rfl) rfl (de_bin op_gSub (de_bin op_gMul (de_ix ix_gIx (de_name (pv 0)) de_int (fun _ _ => rfl)) (de_ix ix_gIx (de_name (pv 1)) de_int (fun _ _ => rfl))) (de_bin op_gMul (de_ix ix_gIx (de_name (pv 0)) de_int (fun _ _ => rfl)) (de_ix ix_gIx (de_name (pv 1)) de_int (fun _ _ => rfl)))))
    (db_one (ds_ret (de_tup (da_val (de_call c_fraction tk hr rfl (da_val (de_bin op_gMul (de_name (pv 6)) (de_name (pv 6))) (da_val (de_name (pv 5)) da_nil)) (argN_val (argN_val argN_nil))) (da_val (de_call c_fraction tk hr rfl (da_val (de_bin op_gSub (de_name (pv 2)) (de_name (pv 4))) (da_val (de_name (pv 5)) da_nil)) (argN_val (argN_val argN_nil))) da_nil)))))))))))), g, F.kp, F.bindsN fun _ _ _ _ _ _ us hl => match us, hl with | [_, _], _ => rfl⟩
theorem ok_is_point (T : Txt K mg) {a : Addr} {fd : FuncData} (F : Fn K "is_point" t_is_point a fd) (g : mg "is_point" = some (.ref a)) (c_is_number : Cal P w K mg base (tbl K) 1 "is_number" ["value", "low", "high"] m_is_number) :
    Cal P w K mg base (tbl K) (1 + 1) "is_point" ["value"] (semOf 1 1 [] s_is_point) :=
  ⟨a, fd, fn_D F sc_is_point [] s_is_point rfl fun cdv A outer s H vs E hr tk hp =>
    (db_cons (ds_if (dw_t (dw_or (dt_not (dt_tru (de_isa isa_tuple rfl T.n_isinstance rfl T.n_tuple rfl (de_name (pv 0))))) (dw_or1 (dt_cmp (op_gNe hr.units) (de_callB (cr_gLen) rfl T.n_len rfl (da_val (de_name (pv 0)) da_nil)) de_int (nomark _)))))
      (db_one (ds_ret de_bool))
      db_nil)
    (db_one (ds_ret (de_and (de_call c_is_number tk hr rfl (da_val (de_ix ix_gIx (de_name (pv 0)) de_int (fun _ _ => rfl)) (da_val de_int (da_val (de_gint T.c_MOST rfl) da_nil))) (argN_val (argN_val (argN_val argN_nil)))) (de_one (de_call c_is_number tk hr rfl (da_val (de_ix ix_gIx (de_name (pv 0)) de_int (fun _ _ => rfl)) (da_val de_int (da_val (de_gint T.c_MOST rfl) da_nil))) (argN_val (argN_val (argN_val argN_nil))))))))), g, F.kp, F.bindsN fun _ _ _ _ _ _ us hl => match us, hl with | [_], _ => rfl⟩
theorem ok_check_point (T : Txt K mg) {a : Addr} {fd : FuncData} (F : Fn K "check_point" t_check_point a fd) (g : mg "check_point" = some (.ref a)) (c_is_point : Cal P w K mg base (tbl K) 2 "is_point" ["value"] m_is_point) :
    Cal P w K mg base (tbl K) (2 + 1) "check_point" ["value"] (semOf 1 1 [] s_check_point) :=
  ⟨a, fd, fn_D F sc_check_point [] s_check_point rfl fun cdv A outer s H vs E hr tk hp =>
    (db_one (ds_if (dt_not (dt_tru (de_call c_is_point tk hr rfl (da_val (de_name (pv 0)) da_nil) (argN_val argN_nil))))
      (db_one (ds_raise 1 rfl tk T.e_BadPoint rfl))
      db_nil)), g, F.kp, F.bindsN fun _ _ _ _ _ _ us hl => match us, hl with | [_], _ => rfl⟩
theorem ok_check_formation (T : Txt K mg) {a : Addr} {fd : FuncData} (F : Fn K "check_formation" t_check_formation a fd) (g : mg "check_formation" = some (.ref a)) (c_check_point : Cal P w K mg base (tbl K) 3 "check_point" ["value"] m_check_point) :
    Cal P w K mg base (tbl K) (3 + 1) "check_formation" ["value"] (semOf 2 1 [] s_check_formation) :=
  ⟨a, fd, fn_D F sc_check_formation [] s_check_formation rfl fun cdv A outer s H vs E hr tk hp =>
    (db_cons (ds_if (dw_t (dw_or (dt_not (dt_tru (de_isa isa_list rfl T.n_isinstance rfl T.n_list rfl (de_name (pv 0))))) (dw_or1 (dt_not (dt_chain (op_gLe hr.units) (op_gLe hr.units) cmp_bool2 de_int (de_callB (cr_gLen) rfl T.n_len rfl (da_val (de_name (pv 0)) da_nil)) (de_gint T.c_MOST_MARCHERS rfl))))))
      (db_one (ds_raise 3 rfl tk T.e_BadFormation rfl))
      db_nil)
    (db_cons (ds_for hp rfl (di_seq (de_name (pv 0))) (dg_name (i := 1) sc_check_formation.nd rfl (Or.inl rfl) rfl)
      (db_one (ds_expr (de_call c_check_point tk hr rfl (da_val (de_name (pv 1)) da_nil) (argN_val argN_nil)))))
    (db_one (ds_if (dt_cmp (op_gNe hr.units) (de_lenSet rfl hr.units rfl T.n_len rfl T.n_set (de_name (pv 0))) (de_callB (cr_gLen) rfl T.n_len rfl (da_val (de_name (pv 0)) da_nil)) (nomark _))
      (db_one (ds_raise 3 rfl tk T.e_BadFormation rfl))
      db_nil)))), g, F.kp, F.bindsN fun _ _ _ _ _ _ us hl => match us, hl with | [_], _ => rfl⟩
theorem ok_check_two (T : Txt K mg) {a : Addr} {fd : FuncData} (F : Fn K "check_two" t_check_two a fd) (g : mg "check_two" = some (.ref a)) (c_check_formation : Cal P w K mg base (tbl K) 4 "check_formation" ["value"] m_check_formation) :
    Cal P w K mg base (tbl K) (4 + 1) "check_two" ["one", "two"] (semOf 2 2 [] s_check_two) :=
  ⟨a, fd, fn_D F sc_check_two [] s_check_two rfl fun cdv A outer s H vs E hr tk hp =>
    (db_cons (ds_expr (de_call c_check_formation tk hr rfl (da_val (de_name (pv 0)) da_nil) (argN_val argN_nil)))
    (db_cons (ds_expr (de_call c_check_formation tk hr rfl (da_val (de_name (pv 1)) da_nil) (argN_val argN_nil)))
    (db_one (ds_if (dt_cmp (op_gNe hr.units) (de_callB (cr_gLen) rfl T.n_len rfl (da_val (de_name (pv 0)) da_nil)) (de_callB (cr_gLen) rfl T.n_len rfl (da_val (de_name (pv 1)) da_nil)) (nomark _))
      (db_one (ds_raise 4 rfl tk T.e_BadMove rfl))
      db_nil)))), g, F.kp, F.bindsN fun _ _ _ _ _ _ us hl => match us, hl with | [_, _], _ => rfl⟩
theorem ok_is_order (T : Txt K mg) {a : Addr} {fd : FuncData} (F : Fn K "is_order" t_is_order a fd) (g : mg "is_order" = some (.ref a)) (c_is_number : Cal P w K mg base (tbl K) 1 "is_number" ["value", "low", "high"] m_is_number) :
    Cal P w K mg base (tbl K) (1 + 1) "is_order" ["value", "many"] (semOf 3 2 [] s_is_order) :=
  ⟨a, fd, fn_D F sc_is_order [] s_is_order rfl fun cdv A outer s H vs E hr tk hp =>
    (db_cons (ds_if (dw_t (dw_or (dt_not (dt_tru (de_isa isa_list rfl T.n_isinstance rfl T.n_list rfl (de_name (pv 0))))) (dw_or1 (dt_cmp (op_gNe hr.units) (de_callB (cr_gLen) rfl T.n_len rfl (da_val (de_name (pv 0)) da_nil)) (de_name (pv 1)) (nomark _)))))
      (db_one (ds_ret de_bool))
      db_nil)
    (db_cons (ds_if (dt_tru (de_lc rfl sc_is_order.nd (own := [("place", 2)]) (di_seq (de_name (pv 0))) (blkOk_by (by kernel_rfl)) (fun _ _ _ _ _ => (dg_name (i := 2) sc_is_order.nd rfl (Or.inl rfl) rfl)) (fun _ _ _ _ _ => dts_one (dt_not (dt_tru (de_call c_is_number takes0 hr rfl (da_val (de_name (pv 2)) (da_val de_int (da_val (de_bin op_gSub (de_name (pv 1)) de_int) da_nil))) (argN_val (argN_val (argN_val argN_nil))))))) (fun _ _ _ _ _ => (de_name (pv 2)))))
      (db_one (ds_ret de_bool))
      db_nil)
    (db_one (ds_ret (de_cmp (op_gEq hr.units) (de_callB (cr_gSorted hr.units) rfl T.n_sorted rfl (da_val (de_name (pv 0)) da_nil)) (de_lrg rfl rfl T.n_list rfl T.n_range (de_name (pv 1))) (nomark _)))))), g, F.kp, F.bindsN fun _ _ _ _ _ _ us hl => match us, hl with | [_, _], _ => rfl⟩
theorem ok_check_order (T : Txt K mg) {a : Addr} {fd : FuncData} (F : Fn K "check_order" t_check_order a fd) (g : mg "check_order" = some (.ref a)) (c_is_order : Cal P w K mg base (tbl K) 2 "is_order" ["value", "many"] m_is_order) :
    Cal P w K mg base (tbl K) (2 + 1) "check_order" ["value", "many"] (semOf 2 2 [] s_check_order) :=
  ⟨a, fd, fn_D F sc_check_order [] s_check_order rfl fun cdv A outer s H vs E hr tk hp =>
    (db_one (ds_if (dt_not (dt_tru (de_call c_is_order tk hr rfl (da_val (de_name (pv 0)) (da_val (de_name (pv 1)) da_nil)) (argN_val (argN_val argN_nil)))))
      (db_one (ds_raise 2 rfl tk T.e_BadArgument rfl))
      db_nil)), g, F.kp, F.bindsN fun _ _ _ _ _ _ us hl => match us, hl with | [_, _], _ => rfl⟩
theorem ok_check_way (T : Txt K mg) {a : Addr} {fd : FuncData} (F : Fn K "check_way" t_check_way a fd) (g : mg "check_way" = some (.ref a)) (c_check_point : Cal P w K mg base (tbl K) 3 "check_point" ["value"] m_check_point) :
    Cal P w K mg base (tbl K) (3 + 1) "check_way" ["value"] (semOf 1 1 [] s_check_way) :=
  ⟨a, fd, fn_D F sc_check_way [] s_check_way rfl fun cdv A outer s H vs E hr tk hp =>
    (db_cons (ds_if (dw_t (dw_or (dt_not (dt_tru (de_isa isa_tuple rfl T.n_isinstance rfl T.n_tuple rfl (de_name (pv 0))))) (dw_or1 (dt_cmp (op_gNe hr.units) (de_callB (cr_gLen) rfl T.n_len rfl (da_val (de_name (pv 0)) da_nil)) de_int (nomark _)))))
      (db_one (ds_raise 4 rfl tk T.e_BadMove rfl))
      db_nil)
    (db_cons (ds_expr (de_call c_check_point tk hr rfl (da_val (de_ix ix_gIx (de_name (pv 0)) de_int (fun _ _ => rfl)) da_nil) (argN_val argN_nil)))
    (db_one (ds_expr (de_call c_check_point tk hr rfl (da_val (de_ix ix_gIx (de_name (pv 0)) de_int (fun _ _ => rfl)) da_nil) (argN_val argN_nil)))))), g, F.kp, F.bindsN fun _ _ _ _ _ _ us hl => match us, hl with | [_], _ => rfl⟩
theorem ok_side (T : Txt K mg) {a : Addr} {fd : FuncData} (F : Fn K "side" t_side a fd) (g : mg "side" = some (.ref a))  :
    Cal P w K mg base (tbl K) (0 + 1) "side" ["a", "b", "c"] (semOf 3 3 [] s_side) :=
  ⟨a, fd, fn_D F sc_side [] s_side rfl fun cdv A outer s H vs E hr tk hp =>
    (db_one (ds_ret (de_bin op_gSub (de_bin op_gMul (de_bin op_gSub (de_ix ix_gIx (de_name (pv 1)) de_int (fun _ _ => rfl)) (de_ix ix_gIx (de_name (pv 0)) de_int (fun _ _ => rfl))) (de_bin op_gSub (de_ix ix_gIx (de_name (pv 2)) de_int (fun _ _ => rfl)) (de_ix ix_gIx (de_name (pv 0)) de_int (fun _ _ => rfl)))) (de_bin op_gMul (de_bin op_gSub (de_ix ix_gIx (de_name (pv 1)) de_int (fun _ _ => rfl)) (de_ix ix_gIx (de_name (pv 0)) de_int (fun _ _ => rfl))) (de_bin op_gSub (de_ix ix_gIx (de_name (pv 2)) de_int (fun _ _ => rfl)) (de_ix ix_gIx (de_name (pv 0)) de_int (fun _ _ => rfl))))))), g, F.kp, F.bindsN fun _ _ _ _ _ _ us hl => match us, hl with | [_, _, _], _ => rfl⟩
theorem ok_is_on (T : Txt K mg) {a : Addr} {fd : FuncData} (F : Fn K "is_on" t_is_on a fd) (g : mg "is_on" = some (.ref a)) (c_side : Cal P w K mg base (tbl K) 1 "side" ["a", "b", "c"] m_side) :
    Cal P w K mg base (tbl K) (1 + 1) "is_on" ["a", "b", "c"] (semOf 3 3 [] s_is_on) :=
  ⟨a, fd, fn_D F sc_is_on [] s_is_on rfl fun cdv A outer s H vs E hr tk hp =>
    (db_cons (ds_if (dt_cmp (op_gNe hr.units) (de_call c_side tk hr rfl (da_val (de_name (pv 0)) (da_val (de_name (pv 1)) (da_val (de_name (pv 2)) da_nil))) (argN_val (argN_val (argN_val argN_nil)))) de_int (nomark _))
      (db_one (ds_ret de_bool))
      db_nil)
    (db_one (ds_ret (de_and (de_chain (op_gLe hr.units) (op_gLe hr.units) cmp_bool2 (de_callB (cr_gMin rfl hr.units) rfl T.n_min rfl (da_val (de_ix ix_gIx (de_name (pv 0)) de_int (fun _ _ => rfl)) (da_val (de_ix ix_gIx (de_name (pv 1)) de_int (fun _ _ => rfl)) da_nil))) (de_ix ix_gIx (de_name (pv 2)) de_int (fun _ _ => rfl)) (de_callB (cr_gMax rfl hr.units) rfl T.n_max rfl (da_val (de_ix ix_gIx (de_name (pv 0)) de_int (fun _ _ => rfl)) (da_val (de_ix ix_gIx (de_name (pv 1)) de_int (fun _ _ => rfl)) da_nil)))) (de_one (de_chain (op_gLe hr.units) (op_gLe hr.units) cmp_bool2 (de_callB (cr_gMin rfl hr.units) rfl T.n_min rfl (da_val (de_ix ix_gIx (de_name (pv 0)) de_int (fun _ _ => rfl)) (da_val (de_ix ix_gIx (de_name (pv 1)) de_int (fun _ _ => rfl)) da_nil))) (de_ix ix_gIx (de_name (pv 2)) de_int (fun _ _ => rfl)) (de_callB (cr_gMax rfl hr.units) rfl T.n_max rfl (da_val (de_ix ix_gIx (de_name (pv 0)) de_int (fun _ _ => rfl)) (da_val (de_ix ix_gIx (de_name (pv 1)) de_int (fun _ _ => rfl)) da_nil))))))))), g, F.kp, F.bindsN fun _ _ _ _ _ _ us hl => match us, hl with | [_, _, _], _ => rfl⟩
theorem ok_do_cross (T : Txt K mg) {a : Addr} {fd : FuncData} (F : Fn K "do_cross" t_do_cross a fd) (g : mg "do_cross" = some (.ref a)) (c_side : Cal P w K mg base (tbl K) 1 "side" ["a", "b", "c"] m_side) :
    Cal P w K mg base (tbl K) (1 + 1) "do_cross" ["one", "other"] (semOf 6 2 [] s_do_cross) :=
  ⟨a, fd, fn_D F sc_do_cross [] s_do_cross rfl fun cdv A outer s H vs E hr tk hp =>
    (db_cons (ds_asg (de_name (pv 0)) (dg_tup (is := [2, 3]) (n := 0) rfl (pgs_cons (pg_name (i := 2) sc_do_cross.nd rfl (Or.inl rfl)) (pgs_cons (pg_name (i := 3) sc_do_cross.nd rfl (Or.inl rfl)) pgs_nil)) rfl))
    (db_cons (ds_asg (de_name (pv 1)) (dg_tup (is := [4, 5]) (n := 0) rfl (pgs_cons (pg_name (i := 4) sc_do_cross.nd rfl (Or.inl rfl)) (pgs_cons (pg_name (i := 5) sc_do_cross.nd rfl (Or.inl rfl)) pgs_nil)) rfl))
    (db_one (ds_ret (de_and (de_cmp (op_gLt hr.units) (de_bin op_gMul (de_call c_side tk hr rfl (da_val (de_name (pv 2)) (da_val (de_name (pv 3)) (da_val (de_name (pv 4)) da_nil))) (argN_val (argN_val (argN_val argN_nil)))) (de_call c_side tk hr rfl (da_val (de_name (pv 2)) (da_val (de_name (pv 3)) (da_val (de_name (pv 5)) da_nil))) (argN_val (argN_val (argN_val argN_nil))))) de_int (nomark _)) (de_one (de_cmp (op_gLt hr.units) (de_bin op_gMul (de_call c_side tk hr rfl (da_val (de_name (pv 4)) (da_val (de_name (pv 5)) (da_val (de_name (pv 2)) da_nil))) (argN_val (argN_val (argN_val argN_nil)))) (de_call c_side tk hr rfl (da_val (de_name (pv 4)) (da_val (de_name (pv 5)) (da_val (de_name (pv 3)) da_nil))) (argN_val (argN_val (argN_val argN_nil))))) de_int (nomark _)))))))), g, F.kp, F.bindsN fun _ _ _ _ _ _ us hl => match us, hl with | [_, _], _ => rfl⟩
theorem ok_meeting (T : Txt K mg) {a : Addr} {fd : FuncData} (F : Fn K "meeting" t_meeting a fd) (g : mg "meeting" = some (.ref a)) (c_do_cross : Cal P w K mg base (tbl K) 2 "do_cross" ["one", "other"] m_do_cross) (c_is_on : Cal P w K mg base (tbl K) 2 "is_on" ["a", "b", "c"] m_is_on) :
    Cal P w K mg base (tbl K) (2 + 1) "meeting" ["one", "other"] (semOf 4 2 [] s_meeting) :=
  ⟨a, fd, fn_D F sc_meeting [] s_meeting rfl fun cdv A outer s H vs E hr tk hp =>
    (db_cons (ds_if (dt_tru (de_call c_do_cross tk hr rfl (da_val (de_name (pv 0)) (da_val (de_name (pv 1)) da_nil)) (argN_val (argN_val argN_nil))))
      (db_one (ds_ret de_str))
      db_nil)
    (db_cons (ds_set (i := 2) sc_meeting.nd rfl (Or.inl rfl) rfl de_dnewK)
    (db_cons (ds_for hp rfl (di_seq (de_name (pv 1))) (dg_name (i := 3) sc_meeting.nd rfl (Or.inl rfl) rfl)
      (db_one (ds_if (dt_tru (de_call c_is_on tk hr rfl (da_val (de_ix ix_gIx (de_name (pv 0)) de_int (fun _ _ => rfl)) (da_val (de_ix ix_gIx (de_name (pv 0)) de_int (fun _ _ => rfl)) (da_val (de_name (pv 3)) da_nil))) (argN_val (argN_val (argN_val argN_nil)))))
      (db_one (ds_dput (i := 2) hr.units de_bool (pv 2) (de_name (pv 3))))
      db_nil)))
    (db_cons (ds_for hp rfl (di_seq (de_name (pv 0))) (dg_name (i := 3) sc_meeting.nd rfl (Or.inl rfl) rfl)
      (db_one (ds_if (dt_tru (de_call c_is_on tk hr rfl (da_val (de_ix ix_gIx (de_name (pv 1)) de_int (fun _ _ => rfl)) (da_val (de_ix ix_gIx (de_name (pv 1)) de_int (fun _ _ => rfl)) (da_val (de_name (pv 3)) da_nil))) (argN_val (argN_val (argN_val argN_nil)))))
      (db_one (ds_dput (i := 2) hr.units de_bool (pv 2) (de_name (pv 3))))
      db_nil)))
    (db_cons (ds_if (dt_cmp (op_gEq hr.units) (de_callB (cr_gLenD) rfl T.n_len rfl (da_val (de_name (pv 2)) da_nil)) de_int (nomark _))
      (db_one (ds_ret de_str))
      db_nil)
    (db_one (ds_ret (de_if (dt_cmp (op_gEq hr.units) (de_callB (cr_gLenD) rfl T.n_len rfl (da_val (de_name (pv 2)) da_nil)) de_int (nomark _)) de_str de_str)))))))), g, F.kp, F.bindsN fun _ _ _ _ _ _ us hl => match us, hl with | [_, _], _ => rfl⟩
theorem ok_meet (T : Txt K mg) {a : Addr} {fd : FuncData} (F : Fn K "meet" t_meet a fd) (g : mg "meet" = some (.ref a)) (c_check_way : Cal P w K mg base (tbl K) 4 "check_way" ["value"] m_check_way) (c_meeting : Cal P w K mg base (tbl K) 3 "meeting" ["one", "other"] m_meeting) :
    Cal P w K mg base (tbl K) (4 + 1) "meet" ["way", "other"] (semOf 2 2 [] s_meet) :=
  ⟨a, fd, fn_D F sc_meet [] s_meet rfl fun cdv A outer s H vs E hr tk hp =>
    (db_cons (ds_expr (de_call c_check_way tk hr rfl (da_val (de_name (pv 0)) da_nil) (argN_val argN_nil)))
    (db_cons (ds_expr (de_call c_check_way tk hr rfl (da_val (de_name (pv 1)) da_nil) (argN_val argN_nil)))
    (db_one (ds_ret (de_call c_meeting tk hr rfl (da_val (de_name (pv 0)) (da_val (de_name (pv 1)) da_nil)) (argN_val (argN_val argN_nil))))))), g, F.kp, F.bindsN fun _ _ _ _ _ _ us hl => match us, hl with | [_, _], _ => rfl⟩
theorem ok_first_crossing (T : Txt K mg) {a : Addr} {fd : FuncData} (F : Fn K "first_crossing" t_first_crossing a fd) (g : mg "first_crossing" = some (.ref a)) (c_do_cross : Cal P w K mg base (tbl K) 2 "do_cross" ["one", "other"] m_do_cross) :
    Cal P w K mg base (tbl K) (2 + 1) "first_crossing" ["one", "two", "order"] (semOf 5 3 [] s_first_crossing) :=
  ⟨a, fd, fn_D F sc_first_crossing [] s_first_crossing rfl fun cdv A outer s H vs E hr tk hp =>
    (db_cons (ds_for hp rfl (di_range1 rfl T.n_range (da_val (de_callB (cr_gLen) rfl T.n_len rfl (da_val (de_name (pv 2)) da_nil)) da_nil)) (dg_name (i := 3) sc_first_crossing.nd rfl (Or.inl rfl) rfl)
      (db_one (ds_for hp rfl (di_range2 rfl T.n_range (da_val (de_bin op_gAdd (de_name (pv 3)) de_int) (da_val (de_callB (cr_gLen) rfl T.n_len rfl (da_val (de_name (pv 2)) da_nil)) da_nil))) (dg_name (i := 4) sc_first_crossing.nd rfl (Or.inl rfl) rfl)
      (db_one (ds_if (dt_tru (de_call c_do_cross tk hr rfl (da_val (de_tup (da_val (de_ix ix_gIx (de_name (pv 0)) (de_name (pv 3)) (fun _ _ => rfl)) (da_val (de_ix ix_gIx (de_name (pv 1)) (de_ix ix_gIx (de_name (pv 2)) (de_name (pv 3)) (fun _ _ => rfl)) (fun _ _ => rfl)) da_nil))) (da_val (de_tup (da_val (de_ix ix_gIx (de_name (pv 0)) (de_name (pv 4)) (fun _ _ => rfl)) (da_val (de_ix ix_gIx (de_name (pv 1)) (de_ix ix_gIx (de_name (pv 2)) (de_name (pv 4)) (fun _ _ => rfl)) (fun _ _ => rfl)) da_nil))) da_nil)) (argN_val (argN_val argN_nil))))
      (db_one (ds_ret (de_tup (da_val (de_name (pv 3)) (da_val (de_name (pv 4)) da_nil)))))
      db_nil)))))
    (db_one (ds_ret de_none))), g, F.kp, F.bindsN fun _ _ _ _ _ _ us hl => match us, hl with | [_, _, _], _ => rfl⟩
theorem ok_crossings (T : Txt K mg) {a : Addr} {fd : FuncData} (F : Fn K "crossings" t_crossings a fd) (g : mg "crossings" = some (.ref a)) (c_check_two : Cal P w K mg base (tbl K) 5 "check_two" ["one", "two"] m_check_two) (c_check_order : Cal P w K mg base (tbl K) 3 "check_order" ["value", "many"] m_check_order) (c_do_cross : Cal P w K mg base (tbl K) 2 "do_cross" ["one", "other"] m_do_cross) :
    Cal P w K mg base (tbl K) (5 + 1) "crossings" ["one", "two", "order"] (semOf 7 3 [] s_crossings) :=
  ⟨a, fd, fn_D F sc_crossings [] s_crossings rfl fun cdv A outer s H vs E hr tk hp =>
    (db_cons (ds_expr (de_call c_check_two tk hr rfl (da_val (de_name (pv 0)) (da_val (de_name (pv 1)) da_nil)) (argN_val (argN_val argN_nil))))
    (db_cons (ds_expr (de_call c_check_order tk hr rfl (da_val (de_name (pv 2)) (da_val (de_callB (cr_gLen) rfl T.n_len rfl (da_val (de_name (pv 0)) da_nil)) da_nil)) (argN_val (argN_val argN_nil))))
    (db_cons (ds_set (i := 3) sc_crossings.nd rfl (Or.inl rfl) rfl (de_list da_nil))
    (db_cons (ds_for hp rfl (di_range1 rfl T.n_range (da_val (de_callB (cr_gLen) rfl T.n_len rfl (da_val (de_name (pv 2)) da_nil)) da_nil)) (dg_name (i := 4) sc_crossings.nd rfl (Or.inr rfl) rfl)
      (db_cons (ds_set (i := 5) sc_crossings.nd rfl (Or.inr rfl) rfl (de_tup (da_val (de_ix ix_gIx (de_name (pv 0)) (de_name (pv 4)) (fun _ _ => rfl)) (da_val (de_ix ix_gIx (de_name (pv 1)) (de_ix ix_gIx (de_name (pv 2)) (de_name (pv 4)) (fun _ _ => rfl)) (fun _ _ => rfl)) da_nil))))
    (db_one (ds_set (i := 3) sc_crossings.nd rfl (Or.inl rfl) rfl (de_bin op_gAdd (de_name (pv 3)) (de_lc rfl sc_crossings.nd (own := [("j", 6)]) (di_range2 rfl T.n_range (da_val (de_bin op_gAdd (de_name (pv 4)) de_int) (da_val (de_callB (cr_gLen) rfl T.n_len rfl (da_val (de_name (pv 2)) da_nil)) da_nil))) (blkOk_by (by kernel_rfl)) (fun _ _ _ _ _ => (dg_name (i := 6) sc_crossings.nd rfl (Or.inl rfl) rfl)) (fun _ _ _ _ _ => dts_one (dt_tru (de_call c_do_cross takes0 hr rfl (da_val (de_name (pv 5)) (da_val (de_tup (da_val (de_ix ix_gIx (de_name (pv 0)) (de_name (pv 6)) (fun _ _ => rfl)) (da_val (de_ix ix_gIx (de_name (pv 1)) (de_ix ix_gIx (de_name (pv 2)) (de_name (pv 6)) (fun _ _ => rfl)) (fun _ _ => rfl)) da_nil))) da_nil)) (argN_val (argN_val argN_nil))))) (fun _ _ _ _ _ => (de_tup (da_val (de_name (pv 4)) (da_val (de_name (pv 6)) da_nil))))))))))
    (db_one (ds_ret (de_name (pv 3)))))))), g, F.kp, F.bindsN fun _ _ _ _ _ _ us hl => match us, hl with | [_, _, _], _ => rfl⟩
theorem ok_uncrossed (T : Txt K mg) {a : Addr} {fd : FuncData} (F : Fn K "uncrossed" t_uncrossed a fd) (g : mg "uncrossed" = some (.ref a)) (c_check_two : Cal P w K mg base (tbl K) 5 "check_two" ["one", "two"] m_check_two) (c_check_order : Cal P w K mg base (tbl K) 3 "check_order" ["value", "many"] m_check_order) (c_first_crossing : Cal P w K mg base (tbl K) 3 "first_crossing" ["one", "two", "order"] m_first_crossing) :
    Cal P w K mg base (tbl K) (5 + 1) "uncrossed" ["one", "two", "order"] (semOf 7 3 [] s_uncrossed) :=
  ⟨a, fd, fn_D F sc_uncrossed [] s_uncrossed rfl fun cdv A outer s H vs E hr tk hp =>
    (db_cons (ds_expr (de_call c_check_two tk hr rfl (da_val (de_name (pv 0)) (da_val (de_name (pv 1)) da_nil)) (argN_val (argN_val argN_nil))))
    (db_cons (ds_expr (de_call c_check_order tk hr rfl (da_val (de_name (pv 2)) (da_val (de_callB (cr_gLen) rfl T.n_len rfl (da_val (de_name (pv 0)) da_nil)) da_nil)) (argN_val (argN_val argN_nil))))
    (db_cons (ds_if (dt_cmp (op_gGt hr.units) (de_callB (cr_gLen) rfl T.n_len rfl (da_val (de_name (pv 0)) da_nil)) (de_gint T.c_MOST_UNCROSSED rfl) (nomark _))
      (db_one (ds_raise 6 rfl tk T.e_TooLarge rfl))
      db_nil)
    (db_cons (ds_set (i := 3) sc_uncrossed.nd rfl (Or.inl rfl) rfl (de_callTy (cr_gListOf) rfl T.n_list rfl (da_val (de_name (pv 2)) da_nil)))
    (db_one (ds_while hp (dt_tru de_bool)
      (db_cons (ds_set (i := 4) sc_uncrossed.nd rfl (Or.inl rfl) rfl (de_peek (de_call c_first_crossing tk hr rfl (da_val (de_name (pv 0)) (da_val (de_name (pv 1)) (da_val (de_name (pv 3)) da_nil))) (argN_val (argN_val (argN_val argN_nil))))))
    (db_cons (ds_if (dt_cmp op_gIs (de_name (pv 4)) de_none (nomark _))
      (db_one (ds_ret (de_move (pv 3))))
      db_nil)
    (db_cons (ds_asg (de_name (pv 4)) (dg_tup (is := [5, 6]) (n := 0) rfl (pgs_cons (pg_name (i := 5) sc_uncrossed.nd rfl (Or.inl rfl)) (pgs_cons (pg_name (i := 6) sc_uncrossed.nd rfl (Or.inl rfl)) pgs_nil)) rfl))
    (db_one (ds_sw (P := (.s 3)) (P' := (.s 3)) rfl (de_peek (de_tup (da_val (de_ix ix_gIx (de_name (pv 3)) (de_name (pv 6)) (fun _ _ => rfl)) (da_val (de_ix ix_gIx (de_name (pv 3)) (de_name (pv 5)) (fun _ _ => rfl)) da_nil)))) trivial (pv 3) (de_name (pv 5)) trivial (pv 3) (de_name (pv 6))))))))))))), g, F.kp, F.bindsN fun _ _ _ _ _ _ us hl => match us, hl with | [_, _, _], _ => rfl⟩
theorem ok_check_fraction (T : Txt K mg) {a : Addr} {fd : FuncData} (F : Fn K "check_fraction" t_check_fraction a fd) (g : mg "check_fraction" = some (.ref a)) (c_is_number : Cal P w K mg base (tbl K) 1 "is_number" ["value", "low", "high"] m_is_number) (c_divisor : Cal P w K mg base (tbl K) 1 "divisor" ["a", "b"] m_divisor) :
    Cal P w K mg base (tbl K) (1 + 1) "check_fraction" ["value"] (semOf 1 1 [] s_check_fraction) :=
  ⟨a, fd, fn_D F sc_check_fraction [] s_check_fraction rfl fun cdv A outer s H vs E hr tk hp =>
    (db_cons (ds_if (dw_t (dw_or (dt_not (dt_tru (de_isa isa_tuple rfl T.n_isinstance rfl T.n_tuple rfl (de_name (pv 0))))) (dw_or (dt_cmp (op_gNe hr.units) (de_callB (cr_gLen) rfl T.n_len rfl (da_val (de_name (pv 0)) da_nil)) de_int (nomark _)) (dw_or1 (dt_not (dt_tru (de_call c_is_number tk hr rfl (da_val (de_ix ix_gIx (de_name (pv 0)) de_int (fun _ _ => rfl)) (da_val de_int (da_val (de_gint T.c_MOST_SQUARE rfl) da_nil))) (argN_val (argN_val (argN_val argN_nil))))))))))
      (db_one (ds_raise 2 rfl tk T.e_BadArgument rfl))
      db_nil)
    (db_one (ds_if (dw_t (dw_or (dt_not (dt_tru (de_call c_is_number tk hr rfl (da_val (de_ix ix_gIx (de_name (pv 0)) de_int (fun _ _ => rfl)) (da_val de_int (da_val (de_gint T.c_MOST_PART rfl) da_nil))) (argN_val (argN_val (argN_val argN_nil)))))) (dw_or1 (dt_cmp (op_gNe hr.units) (de_call c_divisor tk hr rfl (da_val (de_ix ix_gIx (de_name (pv 0)) de_int (fun _ _ => rfl)) (da_val (de_ix ix_gIx (de_name (pv 0)) de_int (fun _ _ => rfl)) da_nil)) (argN_val (argN_val argN_nil))) de_int (nomark _)))))
      (db_one (ds_raise 2 rfl tk T.e_BadArgument rfl))
      db_nil))), g, F.kp, F.bindsN fun _ _ _ _ _ _ us hl => match us, hl with | [_], _ => rfl⟩
theorem ok_difference (T : Txt K mg) {a : Addr} {fd : FuncData} (F : Fn K "difference" t_difference a fd) (g : mg "difference" = some (.ref a))  :
    Cal P w K mg base (tbl K) (0 + 1) "difference" ["point", "other"] (semOf 2 2 [] s_difference) :=
  ⟨a, fd, fn_D F sc_difference [] s_difference rfl fun cdv A outer s H vs E hr tk hp =>
    (db_one (ds_ret (de_tup (da_val (de_bin op_gSub (de_ix ix_gIx (de_name (pv 1)) de_int (fun _ _ => rfl)) (de_ix ix_gIx (de_name (pv 0)) de_int (fun _ _ => rfl))) (da_val (de_bin op_gSub (de_ix ix_gIx (de_name (pv 1)) de_int (fun _ _ => rfl)) (de_ix ix_gIx (de_name (pv 0)) de_int (fun _ _ => rfl))) da_nil))))), g, F.kp, F.bindsN fun _ _ _ _ _ _ us hl => match us, hl with | [_, _], _ => rfl⟩
theorem ok_Keeping_init (T : Txt K mg) {a : Addr} {fd : FuncData} (F : FnM K "__init__" "Keeping.__init__" t_Keeping_init a fd) (g : Mk K (tbl K 12) a ∧ mg "Keeping" = some (.ref (tbl K 12)))  :
    CalI P w K mg base (tbl K) (0 + 1) 12 "Keeping" ["self", "one", "two", "least"] (semOf 4 4 [0] s_Keeping_init) :=
  ⟨a, fd, fn_D F sc_Keeping_init [0] s_Keeping_init rfl fun cdv A outer s H vs E hr tk hp =>
    (db_cons (ds_fset (i := 0) (de_name (pv 1)) (pv 0) T.k_Keeping T.a_Keeping_one)
    (db_cons (ds_fset (i := 0) (de_name (pv 2)) (pv 0) T.k_Keeping T.a_Keeping_two)
    (db_one (ds_fset (i := 0) (de_name (pv 3)) (pv 0) T.k_Keeping T.a_Keeping_least)))), g.1, g.2, F.bindsN fun _ _ _ _ _ _ us hl => match us, hl with | [_, _, _, _], _ => rfl⟩
theorem ok_Keeping_fits (T : Txt K mg) {a : Addr} {fd : FuncData} (F : FnM K "fits" "Keeping.fits" t_Keeping_fits a fd) (g : Meth K (tbl K 12) "fits" a) (c_difference : Cal P w K mg base (tbl K) 1 "difference" ["point", "other"] m_difference) (c_is_less : Cal P w K mg base (tbl K) 1 "is_less" ["one", "other"] m_is_less) (c_nearest : Cal P w K mg base (tbl K) 3 "nearest" ["u", "v"] m_nearest_v1) :
    CalM P w K mg base (tbl K) (3 + 1) 12 "fits" ["self", "order", "place"] (semOf 7 3 [0] s_Keeping_fits) :=
  ⟨a, fd, fn_D F sc_Keeping_fits [0] s_Keeping_fits rfl fun cdv A outer s H vs E hr tk hp =>
    (db_cons (ds_set (i := 3) sc_Keeping_fits.nd rfl (Or.inl rfl) rfl (de_callB (cr_gLen) rfl T.n_len rfl (da_val (de_name (pv 1)) da_nil)))
    (db_cons (ds_for hp rfl (di_range1 rfl T.n_range (da_val (de_name (pv 3)) da_nil)) (dg_name (i := 4) sc_Keeping_fits.nd rfl (Or.inl rfl) rfl)
      (db_cons (ds_set (i := 5) sc_Keeping_fits.nd rfl (Or.inl rfl) rfl (de_call c_difference tk hr rfl (da_val (de_ix ix_gIx (de_fld (de_name (pv 0)) T.k_Keeping T.a_Keeping_one) (de_name (pv 4)) (fun _ _ => rfl)) (da_val (de_ix ix_gIx (de_fld (de_name (pv 0)) T.k_Keeping T.a_Keeping_one) (de_name (pv 3)) (fun _ _ => rfl)) da_nil)) (argN_val (argN_val argN_nil))))
    (db_cons (ds_set (i := 6) sc_Keeping_fits.nd rfl (Or.inl rfl) rfl (de_call c_difference tk hr rfl (da_val (de_ix ix_gIx (de_fld (de_name (pv 0)) T.k_Keeping T.a_Keeping_two) (de_ix ix_gIx (de_name (pv 1)) (de_name (pv 4)) (fun _ _ => rfl)) (fun _ _ => rfl)) (da_val (de_ix ix_gIx (de_fld (de_name (pv 0)) T.k_Keeping T.a_Keeping_two) (de_name (pv 2)) (fun _ _ => rfl)) da_nil)) (argN_val (argN_val argN_nil))))
    (db_one (ds_if (dt_tru (de_call c_is_less tk hr rfl (da_val (de_ix ix_gIx (de_call c_nearest tk hr rfl (da_val (de_name (pv 5)) (da_val (de_name (pv 6)) da_nil)) (argN_val (argN_val argN_nil))) de_int (fun _ _ => rfl)) (da_val (de_fld (de_name (pv 0)) T.k_Keeping T.a_Keeping_least) da_nil)) (argN_val (argN_val argN_nil))))
      (db_one (ds_ret de_bool))
      db_nil)))))
    (db_one (ds_ret de_bool)))), g, F.bindsN fun _ _ _ _ _ _ us hl => match us, hl with | [_, _, _], _ => rfl⟩
theorem ok_Keeping_all_from {n : Nat} {r_Keeping_all_from : Sem} (T : Txt K mg) {a : Addr} {fd : FuncData} (F : FnM K "all_from" "Keeping.all_from" t_Keeping_all_from a fd) (g : Meth K (tbl K 12) "all_from" a) (c_Keeping_fits : CalM P w K mg base (tbl K) 4 12 "fits" ["self", "order", "place"] m_Keeping_fits) (c_Keeping_all_from : CalM P w K mg base (tbl K) (4 + n) 12 "all_from" ["self", "order"] r_Keeping_all_from) :
    CalM P w K mg base (tbl K) ((4 + n) + 1) 12 "all_from" ["self", "order"] (semOf 4 2 [0] (s_Keeping_all_from r_Keeping_all_from)) :=
  ⟨a, fd, fn_D F sc_Keeping_all_from [0] (s_Keeping_all_from r_Keeping_all_from) rfl fun cdv A outer s H vs E hr tk hp =>
    (db_cons (ds_if (dt_cmp (op_gEq hr.units) (de_callB (cr_gLen) rfl T.n_len rfl (da_val (de_name (pv 1)) da_nil)) (de_callB (cr_gLen) rfl T.n_len rfl (da_val (de_fld (de_name (pv 0)) T.k_Keeping T.a_Keeping_one) da_nil)) (nomark _))
      (db_one (ds_ret (de_list (da_val (de_name (pv 1)) da_nil))))
      db_nil)
    (db_cons (ds_set (i := 2) sc_Keeping_all_from.nd rfl (Or.inl rfl) rfl (de_list da_nil))
    (db_cons (ds_for hp rfl (di_range1 rfl T.n_range (da_val (de_callB (cr_gLen) rfl T.n_len rfl (da_val (de_fld (de_name (pv 0)) T.k_Keeping T.a_Keeping_two) da_nil)) da_nil)) (dg_name (i := 3) sc_Keeping_all_from.nd rfl (Or.inl rfl) rfl)
      (db_one (ds_if (dw_t (dw_and (dt_cmp (op_gNin hr.units) (de_name (pv 3)) (de_name (pv 1)) (by with_unfolding_all rfl)) (dw_and1 (dt_tru (de_meth c_Keeping_fits T.k_Keeping hr (pv 0) (da_val (de_name (pv 1)) (da_val (de_name (pv 3)) da_nil)) (argN_io (argN_val (argN_val argN_nil))))))))
      (db_one (ds_set (i := 2) sc_Keeping_all_from.nd rfl (Or.inl rfl) rfl (de_bin op_gAdd (de_name (pv 2)) (de_meth c_Keeping_all_from T.k_Keeping hr (pv 0) (da_val (de_bin op_gAdd (de_name (pv 1)) (de_list (da_val (de_name (pv 3)) da_nil))) da_nil) (argN_io (argN_val argN_nil))))))
      db_nil)))
    (db_one (ds_ret (de_name (pv 2))))))), g, F.bindsN fun _ _ _ _ _ _ us hl => match us, hl with | [_, _], _ => rfl⟩
theorem bad_Keeping_all_from {a : Addr} {fd : FuncData} (F : FnM K "all_from" "Keeping.all_from" t_Keeping_all_from a fd) (g : Meth K (tbl K 12) "all_from" a) (k : Nat) : CalM P w K mg base (tbl K) k 12 "all_from" ["self", "order"] (fun _ => .bad) :=
  ⟨a, fd, fn_bad (tb := tbl K) (x := "all_from") (qual := "Keeping.all_from") (st := t_Keeping_all_from), g, F.bindsN fun _ _ _ _ _ _ us hl => match us, hl with | [_, _], _ => rfl⟩
theorem okR_Keeping_all_from (T : Txt K mg) {a_Keeping_all_from : Addr} {fd_Keeping_all_from : FuncData} (F_Keeping_all_from : FnM K "all_from" "Keeping.all_from" t_Keeping_all_from a_Keeping_all_from fd_Keeping_all_from) (g_Keeping_all_from : Meth K (tbl K 12) "all_from" a_Keeping_all_from) (c_Keeping_fits : CalM P w K mg base (tbl K) 4 12 "fits" ["self", "order", "place"] m_Keeping_fits) : ∀ n : Nat, CalM P w K mg base (tbl K) (4 + n) 12 "all_from" ["self", "order"] (m_Keeping_all_from n)
  | 0 => bad_Keeping_all_from F_Keeping_all_from g_Keeping_all_from _
  | n + 1 => by
    have c_Keeping_all_from := okR_Keeping_all_from T F_Keeping_all_from g_Keeping_all_from c_Keeping_fits n
    exact ok_Keeping_all_from T F_Keeping_all_from g_Keeping_all_from c_Keeping_fits c_Keeping_all_from
theorem ok_keeping (T : Txt K mg) {a : Addr} {fd : FuncData} (F : Fn K "keeping" t_keeping a fd) (g : mg "keeping" = some (.ref a)) (c_check_two : Cal P w K mg base (tbl K) 5 "check_two" ["one", "two"] m_check_two) (c_check_fraction : Cal P w K mg base (tbl K) 2 "check_fraction" ["value"] m_check_fraction) (c_Keeping_all_from : CalM P w K mg base (tbl K) 19 12 "all_from" ["self", "order"] (m_Keeping_all_from 14)) (c_Keeping_init : CalI P w K mg base (tbl K) 1 12 "Keeping" ["self", "one", "two", "least"] m_Keeping_init) :
    Cal P w K mg base (tbl K) (19 + 1) "keeping" ["one", "two", "least"] (semOf 4 3 [] s_keeping) :=
  ⟨a, fd, fn_D F sc_keeping [] s_keeping rfl fun cdv A outer s H vs E hr tk hp =>
    (db_cons (ds_expr (de_call c_check_two tk hr rfl (da_val (de_name (pv 0)) (da_val (de_name (pv 1)) da_nil)) (argN_val (argN_val argN_nil))))
    (db_cons (ds_expr (de_call c_check_fraction tk hr rfl (da_val (de_name (pv 2)) da_nil) (argN_val argN_nil)))
    (db_cons (ds_if (dt_cmp (op_gGt hr.units) (de_callB (cr_gLen) rfl T.n_len rfl (da_val (de_name (pv 0)) da_nil)) (de_gint T.c_MOST_TRIED rfl) (nomark _))
      (db_one (ds_raise 6 rfl tk T.e_TooLarge rfl))
      db_nil)
    (db_cons (ds_set (i := 3) sc_keeping.nd rfl (Or.inl rfl) rfl (de_methE c_Keeping_all_from T.k_Keeping hr (de_make c_Keeping_init hr rfl (da_val (de_name (pv 0)) (da_val (de_name (pv 1)) (da_val (de_name (pv 2)) da_nil))) (argN_val (argN_val (argN_val argN_nil)))) (da_val (de_list da_nil) da_nil) (argN_val argN_nil)))
    (db_one (ds_ret (de_tup (da_val (de_callB (cr_gLen) rfl T.n_len rfl (da_val (de_name (pv 3)) da_nil)) (da_val (de_if (dt_tru (de_name (pv 3))) (de_ix ix_gIx (de_name (pv 3)) de_int (fun _ _ => rfl)) de_none) da_nil))))))))), g, F.kp, F.bindsN fun _ _ _ _ _ _ us hl => match us, hl with | [_, _, _], _ => rfl⟩
theorem ok__law_mixed (T : Txt K mg) {a : Addr} {fd : FuncData} (F : Fn K "_law_mixed" t__law_mixed a fd) (g : mg "_law_mixed" = some (.ref a))  :
    Cal P w K mg base (tbl K) (0 + 1) "_law_mixed" ["number", "k"] (semOf 3 2 [] s__law_mixed) :=
  ⟨a, fd, fn_D F sc__law_mixed [] s__law_mixed rfl fun cdv A outer s H vs E hr tk hp =>
    (db_cons (ds_set (i := 2) sc__law_mixed.nd rfl (Or.inl rfl) rfl (de_bin op_gMod (de_bin op_gAdd (de_bin op_gAdd (de_bin op_gMul (de_name (pv 0)) de_int) (de_bin op_gMul (de_name (pv 1)) de_int)) de_int) de_int))
    (db_one (ds_ret (de_bin op_gMod (de_bin op_gAdd (de_bin op_gMul (de_name (pv 2)) (de_bin op_gAdd (de_bin op_gDiv (de_name (pv 2)) de_int) de_int)) (de_name (pv 1))) de_int)))), g, F.kp, F.bindsN fun _ _ _ _ _ _ us hl => match us, hl with | [_, _], _ => rfl⟩
theorem ok__law_numbers (T : Txt K mg) {a : Addr} {fd : FuncData} (F : Fn K "_law_numbers" t__law_numbers a fd) (g : mg "_law_numbers" = some (.ref a)) (c__law_mixed : Cal P w K mg base (tbl K) 1 "_law_mixed" ["number", "k"] m__law_mixed) :
    Cal P w K mg base (tbl K) (1 + 1) "_law_numbers" ["script"] (semOf 5 1 [] s__law_numbers) :=
  ⟨a, fd, fn_D F sc__law_numbers [] s__law_numbers rfl fun cdv A outer s H vs E hr tk hp =>
    (db_cons (ds_set (i := 1) sc__law_numbers.nd rfl (Or.inl rfl) rfl (de_list da_nil))
    (db_cons (ds_for hp rfl (di_seq (de_name (pv 0))) (dg_name (i := 2) sc__law_numbers.nd rfl (Or.inl rfl) rfl)
      (db_one (ds_if (dt_cmp (op_gGe hr.units) (de_name (pv 2)) (de_bin op_gPow de_int de_int) (nomark _))
      (db_cons (ds_set (i := 3) sc__law_numbers.nd rfl (Or.inl rfl) rfl (de_name (pv 2)))
    (db_one (ds_for hp rfl (di_range1 rfl T.n_range (da_val de_int da_nil)) (dg_name (i := 4) sc__law_numbers.nd rfl (Or.inl rfl) rfl)
      (db_one (ds_if (dt_cmp (op_gGt hr.units) (de_name (pv 3)) de_int (nomark _))
      (db_cons (ds_app (i := 1) (pv 1) (de_bin op_gMod (de_name (pv 3)) de_int))
    (db_one (ds_set (i := 3) sc__law_numbers.nd rfl (Or.inl rfl) rfl (de_bin op_gDiv (de_name (pv 3)) de_int))))
      db_nil)))))
      (db_cons (ds_app (i := 1) (pv 1) (de_bin op_gMod (de_name (pv 2)) de_int))
    (db_one (ds_for hp rfl (di_range1 rfl T.n_range (da_val de_int da_nil)) (dg_name (i := 4) sc__law_numbers.nd rfl (Or.inl rfl) rfl)
      (db_one (ds_app (i := 1) (pv 1) (de_bin op_gMod (de_call c__law_mixed tk hr rfl (da_val (de_call c__law_mixed tk hr rfl (da_val (de_bin op_gMod (de_name (pv 2)) de_int) (da_val (de_name (pv 4)) da_nil)) (argN_val (argN_val argN_nil))) (da_val (de_bin op_gAdd (de_name (pv 4)) de_int) da_nil)) (argN_val (argN_val argN_nil))) de_int)))))))))
    (db_one (ds_ret (de_move (pv 1)))))), g, F.kp, F.bindsN fun _ _ _ _ _ _ us hl => match us, hl with | [_], _ => rfl⟩
theorem ok__law_draw (T : Txt K mg) {a : Addr} {fd : FuncData} (F : Fn K "_law_draw" t__law_draw a fd) (g : mg "_law_draw" = some (.ref a)) (c__law_mixed : Cal P w K mg base (tbl K) 1 "_law_mixed" ["number", "k"] m__law_mixed) :
    Cal P w K mg base (tbl K) (1 + 1) "_law_draw" ["draws"] (semOf 3 1 [0] s__law_draw) :=
  ⟨a, fd, fn_D F sc__law_draw [0] s__law_draw rfl fun cdv A outer s H vs E hr tk hp =>
    (db_cons (ds_set (i := 1) sc__law_draw.nd rfl (Or.inl rfl) rfl (de_peek (de_ix ix_gIx (de_name (pv 0)) de_int (fun _ _ => rfl))))
    (db_cons (ds_store (i := 0) (de_bin op_gAdd (de_name (pv 1)) de_int) (pv 0) de_int)
    (db_cons (ds_if (dt_peek (dt_cmp (op_gLt hr.units) (de_name (pv 1)) (de_callB (cr_gLen) rfl T.n_len rfl (da_val (de_ix ix_gIx (de_name (pv 0)) de_int (fun _ _ => rfl)) da_nil)) (nomark _)))
      (db_one (ds_ret (de_peek (de_ix ix_gIx (de_ix ix_gIx (de_name (pv 0)) de_int (fun _ _ => rfl)) (de_name (pv 1)) (fun _ _ => rfl)))))
      db_nil)
    (db_cons (ds_set (i := 2) sc__law_draw.nd rfl (Or.inl rfl) rfl (de_bin op_gAdd de_int (de_name (pv 1))))
    (db_cons (ds_if (dt_peek (dt_cmp (op_gGt hr.units) (de_callB (cr_gLen) rfl T.n_len rfl (da_val (de_ix ix_gIx (de_name (pv 0)) de_int (fun _ _ => rfl)) da_nil)) de_int (nomark _)))
      (db_one (ds_set (i := 2) sc__law_draw.nd rfl (Or.inl rfl) rfl (de_peek (de_bin op_gAdd (de_name (pv 2)) (de_bin op_gMul de_int (de_ix ix_gIx (de_ix ix_gIx (de_name (pv 0)) de_int (fun _ _ => rfl)) de_int (fun _ _ => rfl)))))))
      db_nil)
    (db_one (ds_ret (de_bin op_gMod (de_call c__law_mixed tk hr rfl (da_val (de_call c__law_mixed tk hr rfl (da_val (de_name (pv 2)) (da_val (de_name (pv 1)) da_nil)) (argN_val (argN_val argN_nil))) (da_val de_int da_nil)) (argN_val (argN_val argN_nil))) de_int)))))))), g, F.kp, F.bindsN fun _ _ _ _ _ _ us hl => match us, hl with | [_], _ => rfl⟩
theorem ok__law_equal {n : Nat} {r__law_equal : Sem} {r__law_all_equal : Sem} (T : Txt K mg) {a : Addr} {fd : FuncData} (F : Fn K "_law_equal" t__law_equal a fd) (g : mg "_law_equal" = some (.ref a)) (c__law_all_equal : Cal P w K mg base (tbl K) (0 + n) "_law_all_equal" ["actual", "due"] r__law_all_equal) :
    Cal P w K mg base (tbl K) ((0 + n) + 1) "_law_equal" ["actual", "due"] (semOf 2 2 [] (s__law_equal_v1 r__law_equal r__law_all_equal)) :=
  ⟨a, fd, fn_D F sc__law_equal [] (s__law_equal_v1 r__law_equal r__law_all_equal) rfl fun cdv A outer s H vs E hr tk hp =>
    (db_cons (ds_if (dt_tru (de_isa isa_list rfl T.n_isinstance rfl T.n_list rfl (de_name (pv 1))))
      (db_one (ds_ret (de_and (de_isa isa_list rfl T.n_isinstance rfl T.n_list rfl (de_name (pv 0))) (de_and (de_cmp (op_gEq hr.units) (de_callB (cr_gLen) rfl T.n_len rfl (da_val (de_name (pv 0)) da_nil)) (de_callB (cr_gLen) rfl T.n_len rfl (da_val (de_name (pv 1)) da_nil)) (nomark _)) (de_one (de_call c__law_all_equal tk hr rfl (da_val (de_name (pv 0)) (da_val (de_name (pv 1)) da_nil)) (argN_val (argN_val argN_nil))))))))
      db_nil)
    (db_cons (ds_if (dt_tru (de_isa isa_tuple rfl T.n_isinstance rfl T.n_tuple rfl (de_name (pv 1))))
      (db_one (ds_ret (de_and (de_isa isa_tuple rfl T.n_isinstance rfl T.n_tuple rfl (de_name (pv 0))) (de_and (de_cmp (op_gEq hr.units) (de_callB (cr_gLen) rfl T.n_len rfl (da_val (de_name (pv 0)) da_nil)) (de_callB (cr_gLen) rfl T.n_len rfl (da_val (de_name (pv 1)) da_nil)) (nomark _)) (de_one (de_call c__law_all_equal tk hr rfl (da_val (de_name (pv 0)) (da_val (de_name (pv 1)) da_nil)) (argN_val (argN_val argN_nil))))))))
      db_nil)
    (db_cons (ds_if (dt_tru (de_isa isa_bool rfl T.n_isinstance rfl T.n_bool rfl (de_name (pv 1))))
      (db_one (ds_ret (de_and (de_isa isa_bool rfl T.n_isinstance rfl T.n_bool rfl (de_name (pv 0))) (de_one (de_cmp (op_gEq hr.units) (de_name (pv 0)) (de_name (pv 1)) (nomark _))))))
      db_nil)
    (db_cons (ds_if (dt_tru (de_isa isa_int rfl T.n_isinstance rfl T.n_int rfl (de_name (pv 1))))
      (db_one (ds_ret (de_and (de_isa isa_int rfl T.n_isinstance rfl T.n_int rfl (de_name (pv 0))) (de_and (de_not (de_isa isa_bool rfl T.n_isinstance rfl T.n_bool rfl (de_name (pv 0)))) (de_one (de_cmp (op_gEq hr.units) (de_name (pv 0)) (de_name (pv 1)) (nomark _)))))))
      db_nil)
    (db_cons (ds_if (dt_tru (de_isa isa_str rfl T.n_isinstance rfl T.n_str rfl (de_name (pv 1))))
      (db_one (ds_ret (de_and (de_isa isa_str rfl T.n_isinstance rfl T.n_str rfl (de_name (pv 0))) (de_one (de_cmp (op_gEq hr.units) (de_name (pv 0)) (de_name (pv 1)) (nomark _))))))
      db_nil)
    (db_one (ds_ret (de_cmp op_gIs (de_name (pv 0)) de_none (nomark _))))))))), g, F.kp, F.bindsN fun _ _ _ _ _ _ us hl => match us, hl with | [_, _], _ => rfl⟩
theorem ok__law_all_equal {n : Nat} {r__law_equal : Sem} {r__law_all_equal : Sem} (T : Txt K mg) {a : Addr} {fd : FuncData} (F : Fn K "_law_all_equal" t__law_all_equal a fd) (g : mg "_law_all_equal" = some (.ref a)) (c__law_equal : Cal P w K mg base (tbl K) (0 + n) "_law_equal" ["actual", "due"] r__law_equal) :
    Cal P w K mg base (tbl K) ((0 + n) + 1) "_law_all_equal" ["actual", "due"] (semOf 3 2 [] (s__law_all_equal_v1 r__law_equal r__law_all_equal)) :=
  ⟨a, fd, fn_D F sc__law_all_equal [] (s__law_all_equal_v1 r__law_equal r__law_all_equal) rfl fun cdv A outer s H vs E hr tk hp =>
    (db_cons (ds_for hp rfl (di_range1 rfl T.n_range (da_val (de_callB (cr_gLen) rfl T.n_len rfl (da_val (de_name (pv 1)) da_nil)) da_nil)) (dg_name (i := 2) sc__law_all_equal.nd rfl (Or.inl rfl) rfl)
      (db_one (ds_if (dt_not (dt_tru (de_call c__law_equal tk hr rfl (da_val (de_ix ix_gIx (de_name (pv 0)) (de_name (pv 2)) (fun _ _ => rfl)) (da_val (de_ix ix_gIx (de_name (pv 1)) (de_name (pv 2)) (fun _ _ => rfl)) da_nil)) (argN_val (argN_val argN_nil)))))
      (db_one (ds_ret de_bool))
      db_nil)))
    (db_one (ds_ret de_bool))), g, F.kp, F.bindsN fun _ _ _ _ _ _ us hl => match us, hl with | [_, _], _ => rfl⟩
theorem bad__law_equal {a : Addr} {fd : FuncData} (F : Fn K "_law_equal" t__law_equal a fd) (g : mg "_law_equal" = some (.ref a)) (k : Nat) : Cal P w K mg base (tbl K) k "_law_equal" ["actual", "due"] (fun _ => .bad) :=
  ⟨a, fd, fn_bad (tb := tbl K) (x := "_law_equal") (qual := "_law_equal") (st := t__law_equal), g, F.kp, F.bindsN fun _ _ _ _ _ _ us hl => match us, hl with | [_, _], _ => rfl⟩
theorem bad__law_all_equal {a : Addr} {fd : FuncData} (F : Fn K "_law_all_equal" t__law_all_equal a fd) (g : mg "_law_all_equal" = some (.ref a)) (k : Nat) : Cal P w K mg base (tbl K) k "_law_all_equal" ["actual", "due"] (fun _ => .bad) :=
  ⟨a, fd, fn_bad (tb := tbl K) (x := "_law_all_equal") (qual := "_law_all_equal") (st := t__law_all_equal), g, F.kp, F.bindsN fun _ _ _ _ _ _ us hl => match us, hl with | [_, _], _ => rfl⟩
theorem okR__law_equal (T : Txt K mg) {a__law_equal : Addr} {fd__law_equal : FuncData} (F__law_equal : Fn K "_law_equal" t__law_equal a__law_equal fd__law_equal) (g__law_equal : mg "_law_equal" = some (.ref a__law_equal)) {a__law_all_equal : Addr} {fd__law_all_equal : FuncData} (F__law_all_equal : Fn K "_law_all_equal" t__law_all_equal a__law_all_equal fd__law_all_equal) (g__law_all_equal : mg "_law_all_equal" = some (.ref a__law_all_equal))  : ∀ n : Nat, Cal P w K mg base (tbl K) (0 + n) "_law_equal" ["actual", "due"] (m__law_equal_v1 n) ∧ Cal P w K mg base (tbl K) (0 + n) "_law_all_equal" ["actual", "due"] (m__law_all_equal_v1 n)
  | 0 => ⟨bad__law_equal F__law_equal g__law_equal _, bad__law_all_equal F__law_all_equal g__law_all_equal _⟩
  | n + 1 => by
    obtain ⟨c__law_equal, c__law_all_equal⟩ := okR__law_equal T F__law_equal g__law_equal F__law_all_equal g__law_all_equal  n
    exact ⟨ok__law_equal T F__law_equal g__law_equal c__law_all_equal, ok__law_all_equal T F__law_all_equal g__law_all_equal c__law_equal⟩
theorem ok__law_call (T : Txt K mg) {a : Addr} {fd : FuncData} (F : Fn K "_law_call" t__law_call a fd) (g : mg "_law_call" = some (.ref a)) (c_keeping : Cal P w K mg base (tbl K) 20 "keeping" ["one", "two", "least"] m_keeping) (c_meet : Cal P w K mg base (tbl K) 5 "meet" ["way", "other"] m_meet) (c_crossings : Cal P w K mg base (tbl K) 6 "crossings" ["one", "two", "order"] m_crossings) (c_uncrossed : Cal P w K mg base (tbl K) 6 "uncrossed" ["one", "two", "order"] m_uncrossed) :
    Cal P w K mg base (tbl K) (20 + 1) "_law_call" ["name", "one", "two", "more"] (semOf 4 4 [] s__law_call) :=
  ⟨a, fd, fn_D F sc__law_call [] s__law_call rfl fun cdv A outer s H vs E hr tk hp =>
    (db_cons (ds_if (dt_cmp (op_gEq hr.units) (de_name (pv 0)) de_str (nomark _))
      (db_one (ds_ret (de_call c_meet tk hr rfl (da_val (de_name (pv 1)) (da_val (de_name (pv 2)) da_nil)) (argN_val (argN_val argN_nil)))))
      db_nil)
    (db_cons (ds_if (dt_cmp (op_gEq hr.units) (de_name (pv 0)) de_str (nomark _))
      (db_one (ds_ret (de_call c_crossings tk hr rfl (da_val (de_name (pv 1)) (da_val (de_name (pv 2)) (da_val (de_name (pv 3)) da_nil))) (argN_val (argN_val (argN_val argN_nil))))))
      db_nil)
    (db_cons (ds_if (dt_cmp (op_gEq hr.units) (de_name (pv 0)) de_str (nomark _))
      (db_one (ds_ret (de_call c_uncrossed tk hr rfl (da_val (de_name (pv 1)) (da_val (de_name (pv 2)) (da_val (de_name (pv 3)) da_nil))) (argN_val (argN_val (argN_val argN_nil))))))
      db_nil)
    (db_one (ds_ret (de_call c_keeping tk hr rfl (da_val (de_name (pv 1)) (da_val (de_name (pv 2)) (da_val (de_name (pv 3)) da_nil))) (argN_val (argN_val (argN_val argN_nil))))))))), g, F.kp, F.bindsN fun _ _ _ _ _ _ us hl => match us, hl with | [_, _, _, _], _ => rfl⟩
theorem ok__law_error (T : Txt K mg) {a : Addr} {fd : FuncData} (F : Fn K "_law_error" t__law_error a fd) (g : mg "_law_error" = some (.ref a)) (c__law_call : Cal P w K mg base (tbl K) 21 "_law_call" ["name", "one", "two", "more"] m__law_call) :
    Cal P w K mg base (tbl K) (21 + 1) "_law_error" ["name", "one", "two", "more"] (semOf 5 4 [] s__law_error_v1) :=
  ⟨a, fd, fn_D F sc__law_error [] s__law_error_v1 rfl fun cdv A outer s H vs E hr tk hp =>
    (db_cons (ds_tryA (fun n q hq => (List.mem_cons.mp hq).elim (fun e => by rw [e]; exact T.sub_BadArgument n) fun hq => (List.mem_cons.mp hq).elim (fun e => by rw [e]; exact T.sub_BadPoint n) fun hq => (List.mem_cons.mp hq).elim (fun e => by rw [e]; exact T.sub_BadMove n) fun hq => (List.mem_cons.mp hq).elim (fun e => by rw [e]; exact T.sub_BadFormation n) fun hq => (List.mem_cons.mp hq).elim (fun e => by rw [e]; exact T.sub_TooLarge n) fun hq => nomatch hq) rfl rfl sc__law_error.nd tk (fun W pn xe tk hp => (db_one (ds_expr (de_call c__law_call tk hr rfl (da_val (de_name (pv 0)) (da_val (de_name (pv 1)) (da_val (de_name (pv 2)) (da_val (de_name (pv 3)) da_nil)))) (argN_val (argN_val (argN_val (argN_val argN_nil)))))))) (HdA.cons (c := 2) (i := 4) (Names.exc T.e_BadArgument rfl) rfl rfl rfl (Sui.of (by decide) fun x ox pn hz hf => (db_one (ds_retX (pt_isW (pw_isAnd (pt_isS T.x_BadArgument hz hf rfl T.n_isinstance rfl T.e_ShowError.g (pv 4)) (pw_and1 (pt_isV T.x_BadArgument hz hf rfl T.n_isinstance rfl T.n_ValueError (pv 4))))) de_str (W2 := Wno) de_str))) (HdA.cons (c := 1) (i := 4) (Names.exc T.e_BadPoint rfl) rfl rfl rfl (Sui.of (by decide) fun x ox pn hz hf => (db_one (ds_retX (pt_isS T.x_BadPoint hz hf rfl T.n_isinstance rfl T.e_ShowError.g (pv 4)) de_str (W2 := Wno) de_str))) (HdA.cons (c := 4) (i := 4) (Names.exc T.e_BadMove rfl) rfl rfl rfl (Sui.of (by decide) fun x ox pn hz hf => (db_one (ds_retX (pt_isS T.x_BadMove hz hf rfl T.n_isinstance rfl T.e_ShowError.g (pv 4)) de_str (W2 := Wno) de_str))) (HdA.cons (c := 3) (i := 4) (Names.exc T.e_BadFormation rfl) rfl rfl rfl (Sui.of (by decide) fun x ox pn hz hf => (db_one (ds_retX (pt_isS T.x_BadFormation hz hf rfl T.n_isinstance rfl T.e_ShowError.g (pv 4)) de_str (W2 := Wno) de_str))) (HdA.cons (c := 6) (i := 4) (Names.exc T.e_TooLarge rfl) rfl rfl rfl (Sui.of (by decide) fun x ox pn hz hf => (db_one (ds_retX (pt_isS T.x_TooLarge hz hf rfl T.n_isinstance rfl T.e_ShowError.g (pv 4)) de_str (W2 := Wno) de_str))) HdA.nil))))))
    (db_one (ds_ret de_none))), g, F.kp, F.bindsN fun _ _ _ _ _ _ us hl => match us, hl with | [_, _, _, _], _ => rfl⟩
theorem ok_law (T : Txt K mg) {a : Addr} {fd : FuncData} (F : Fn K "law" t_law a fd) (c__law_numbers : Cal P w K mg base (tbl K) 2 "_law_numbers" ["script"] m__law_numbers) (c__law_error : Cal P w K mg base (tbl K) 22 "_law_error" ["name", "one", "two", "more"] m__law_error_v1) (c__law_draw : Cal P w K mg base (tbl K) 2 "_law_draw" ["draws"] m__law_draw) (hS : ∀ ns : List Int, ns.length ≤ 63 → ∃ δ', FX.s_law_k26 (some (.fz (.list (ns.map .int))) :: List.replicate 16 none) = .rt (.fz (.bool true)) δ') :
    FnOk P w K mg base CX0 23 a fd ["script"] (spLaw K) :=
  fn_law (tb := tbl K) F sc_law FX.s_law_k26 hS fun cdv A outer s H vs E hr tk hp =>
    (db_cons (ds_set (i := 1) sc_law.nd rfl (Or.inl rfl) rfl (de_list (da_val (de_call c__law_numbers tk hr rfl (da_val (de_name (pv 0)) da_nil) (argN_val argN_nil)) (da_val de_int da_nil))))
    (db_cons (ds_set (i := 2) sc_law.nd rfl (Or.inl rfl) rfl (de_tup (da_val (de_tup (da_val de_int (da_val de_int da_nil))) (da_val (de_tup (da_val de_int (da_val de_int da_nil))) da_nil))))
    (db_cons (ds_set (i := 3) sc_law.nd rfl (Or.inl rfl) rfl (de_list (da_val (de_list (da_val (de_tup (da_val de_int (da_val de_int da_nil))) (da_val (de_tup (da_val de_int (da_val de_int da_nil))) da_nil))) (da_val (de_tup (da_val (de_tup (da_val de_int (da_val de_int da_nil))) da_nil)) (da_val de_none (da_val (de_tup (da_val (de_tup (da_val de_int (da_val de_int da_nil))) (da_val (de_tup (da_val de_int (da_val de_int da_nil))) (da_val (de_tup (da_val de_int (da_val de_int da_nil))) da_nil)))) (da_val de_str da_nil)))))))
    (db_cons (ds_set (i := 4) sc_law.nd rfl (Or.inl rfl) rfl (de_list (da_val (de_tup (da_val (de_tup (da_val de_int (da_val de_int da_nil))) (da_val (de_tup (da_val de_int (da_val de_int da_nil))) da_nil))) (da_val (de_tup (da_val (de_tup (da_val (de_un un_gNeg de_int) (da_val de_int da_nil))) (da_val (de_tup (da_val de_int (da_val de_int da_nil))) da_nil))) (da_val (de_tup (da_val (de_tup (da_val de_bool (da_val de_int da_nil))) (da_val (de_tup (da_val de_int (da_val de_int da_nil))) da_nil))) (da_val (de_tup (da_val (de_list (da_val de_int (da_val de_int da_nil))) (da_val (de_tup (da_val de_int (da_val de_int da_nil))) da_nil))) (da_val (de_tup (da_val (de_tup (da_val de_int (da_val de_int (da_val de_int da_nil)))) (da_val (de_tup (da_val de_int (da_val de_int da_nil))) da_nil))) (da_val (de_tup (da_val de_none (da_val (de_tup (da_val de_int (da_val de_int da_nil))) da_nil))) da_nil))))))))
    (db_cons (ds_par (i := 11) (j := 12) rfl sc_law.nd rfl rfl (by decide) rfl rfl (da_val (de_ix ix_gIx (de_name (pv 3)) (de_bin op_gMod (de_call c__law_draw tk hr rfl (da_io (pv 1) da_nil) (argN_io argN_nil)) (de_callB (cr_gLen) rfl T.n_len rfl (da_val (de_name (pv 3)) da_nil))) (fun _ _ => rfl)) (da_val (de_ix ix_gIx (de_name (pv 4)) (de_bin op_gMod (de_call c__law_draw tk hr rfl (da_io (pv 1) da_nil) (argN_io argN_nil)) (de_callB (cr_gLen) rfl T.n_len rfl (da_val (de_name (pv 4)) da_nil))) (fun _ _ => rfl)) da_nil)) rfl rfl)
    (db_cons (ds_if (dw_t (dw_or (dt_cmp (op_gNe hr.units) (de_call c__law_error tk hr rfl (da_val de_str (da_val (de_name (pv 11)) (da_val (de_name (pv 2)) (da_val de_none da_nil)))) (argN_val (argN_val (argN_val (argN_val argN_nil))))) de_str (nomark _)) (dw_or1 (dt_cmp (op_gNe hr.units) (de_call c__law_error tk hr rfl (da_val de_str (da_val (de_name (pv 2)) (da_val (de_name (pv 11)) (da_val de_none da_nil)))) (argN_val (argN_val (argN_val (argN_val argN_nil))))) de_str (nomark _)))))
      (db_one (ds_ret de_bool))
      db_nil)
    (db_cons (ds_if (dw_t (dw_or (dt_cmp (op_gNe hr.units) (de_call c__law_error tk hr rfl (da_val de_str (da_val (de_name (pv 12)) (da_val (de_name (pv 2)) (da_val de_none da_nil)))) (argN_val (argN_val (argN_val (argN_val argN_nil))))) de_str (nomark _)) (dw_or1 (dt_cmp (op_gNe hr.units) (de_call c__law_error tk hr rfl (da_val de_str (da_val (de_name (pv 2)) (da_val (de_name (pv 12)) (da_val de_none da_nil)))) (argN_val (argN_val (argN_val (argN_val argN_nil))))) de_str (nomark _)))))
      (db_one (ds_ret de_bool))
      db_nil)
    (db_cons (ds_par (i := 13) (j := 14) rfl sc_law.nd rfl rfl (by decide) rfl rfl (da_val (de_list (da_val (de_tup (da_val de_int (da_val de_int da_nil))) (da_val (de_tup (da_val de_int (da_val de_int da_nil))) (da_val (de_tup (da_val de_int (da_val de_int da_nil))) da_nil)))) (da_val (de_list (da_val (de_tup (da_val de_int (da_val de_int da_nil))) (da_val (de_tup (da_val de_int (da_val de_int da_nil))) (da_val (de_tup (da_val de_int (da_val de_int da_nil))) da_nil)))) da_nil)) rfl rfl)
    (db_cons (ds_set (i := 5) sc_law.nd rfl (Or.inl rfl) rfl (de_ix ix_gIx (de_list (da_val (de_list (da_val de_int (da_val de_int da_nil))) (da_val (de_list (da_val de_int (da_val de_int (da_val de_int da_nil)))) (da_val (de_list (da_val de_int (da_val de_int (da_val de_int da_nil)))) (da_val (de_tup (da_val de_int (da_val de_int (da_val de_int da_nil)))) (da_val de_none (da_val (de_list (da_val de_int (da_val de_int (da_val de_bool da_nil)))) (da_val (de_list (da_val de_int (da_val de_int (da_val de_str da_nil)))) (da_val (de_list (da_val de_int (da_val de_int (da_val de_int (da_val de_int da_nil))))) da_nil))))))))) (de_bin op_gMod (de_call c__law_draw tk hr rfl (da_io (pv 1) da_nil) (argN_io argN_nil)) de_int) (fun _ _ => rfl)))
    (db_cons (ds_set (i := 6) sc_law.nd rfl (Or.inl rfl) rfl (de_list (da_val (de_list da_nil) (da_val (de_tup (da_val (de_tup (da_val de_int (da_val de_int da_nil))) da_nil)) (da_val de_none (da_val (de_list (da_val (de_tup (da_val de_int (da_val de_int da_nil))) (da_val (de_tup (da_val de_int (da_val de_int da_nil))) (da_val (de_tup (da_val de_int (da_val de_int da_nil))) da_nil)))) (da_val (de_lc rfl sc_law.nd (own := [("k", 16)]) (di_range1 rfl T.n_range (da_val de_int da_nil)) (blkOk_by (by kernel_rfl)) (fun _ _ _ _ _ => (dg_name (i := 16) sc_law.nd rfl (Or.inl rfl) rfl)) (fun _ _ _ _ _ => dts_nil) (fun _ _ _ _ _ => (de_tup (da_val (de_name (pv 16)) (da_val de_int da_nil))))) da_nil)))))))
    (db_cons (ds_set (i := 7) sc_law.nd rfl (Or.inl rfl) rfl (de_ix ix_gIx (de_name (pv 6)) (de_bin op_gMod (de_call c__law_draw tk hr rfl (da_io (pv 1) da_nil) (argN_io argN_nil)) (de_callB (cr_gLen) rfl T.n_len rfl (da_val (de_name (pv 6)) da_nil))) (fun _ _ => rfl)))
    (db_cons (ds_for hp rfl (di_seq (de_list (da_val de_str (da_val de_str (da_val de_str da_nil))))) (dg_name (i := 8) sc_law.nd rfl (Or.inl rfl) rfl)
      (db_cons (ds_set (i := 15) sc_law.nd rfl (Or.inl rfl) rfl (de_if (dt_cmp (op_gEq hr.units) (de_name (pv 8)) de_str (nomark _)) (de_tup (da_val de_int (da_val de_int da_nil))) (de_list (da_val de_int (da_val de_int (da_val de_int da_nil))))))
    (db_cons (ds_if (dw_t (dw_or (dt_cmp op_gIsNot (de_call c__law_error tk hr rfl (da_val (de_name (pv 8)) (da_val (de_name (pv 13)) (da_val (de_name (pv 14)) (da_val (de_name (pv 15)) da_nil)))) (argN_val (argN_val (argN_val (argN_val argN_nil))))) de_none (nomark _)) (dw_or1 (dt_cmp (op_gNe hr.units) (de_call c__law_error tk hr rfl (da_val (de_name (pv 8)) (da_val (de_name (pv 13)) (da_val (de_slice (de_name (pv 14)) do_none (do_some de_int)) (da_val (de_name (pv 15)) da_nil)))) (argN_val (argN_val (argN_val (argN_val argN_nil))))) de_str (nomark _)))))
      (db_one (ds_ret de_bool))
      db_nil)
    (db_cons (ds_if (dw_t (dw_or (dt_cmp (op_gNe hr.units) (de_call c__law_error tk hr rfl (da_val (de_name (pv 8)) (da_val (de_name (pv 7)) (da_val (de_name (pv 14)) (da_val (de_name (pv 15)) da_nil)))) (argN_val (argN_val (argN_val (argN_val argN_nil))))) de_str (nomark _)) (dw_or1 (dt_cmp (op_gNe hr.units) (de_call c__law_error tk hr rfl (da_val (de_name (pv 8)) (da_val (de_name (pv 13)) (da_val (de_name (pv 7)) (da_val (de_name (pv 15)) da_nil)))) (argN_val (argN_val (argN_val (argN_val argN_nil))))) de_str (nomark _)))))
      (db_one (ds_ret de_bool))
      db_nil)
    (db_cons (ds_if (dt_cmp (op_gNe hr.units) (de_call c__law_error tk hr rfl (da_val (de_name (pv 8)) (da_val (de_list (da_val (de_tup (da_val de_int (da_val de_int da_nil))) (da_val (de_tup (da_val de_int (da_val de_int da_nil))) (da_val (de_tup (da_val de_int (da_val de_int da_nil))) da_nil)))) (da_val (de_name (pv 14)) (da_val (de_name (pv 15)) da_nil)))) (argN_val (argN_val (argN_val (argN_val argN_nil))))) de_str (nomark _))
      (db_one (ds_ret de_bool))
      db_nil)
    (db_one (ds_if (dw_t (dw_and (dt_cmp (op_gNe hr.units) (de_name (pv 8)) de_str (nomark _)) (dw_and1 (dt_cmp (op_gNe hr.units) (de_call c__law_error tk hr rfl (da_val (de_name (pv 8)) (da_val (de_name (pv 13)) (da_val (de_name (pv 14)) (da_val (de_name (pv 5)) da_nil)))) (argN_val (argN_val (argN_val (argN_val argN_nil))))) de_str (nomark _)))))
      (db_one (ds_ret de_bool))
      db_nil)))))))
    (db_cons (ds_set (i := 9) sc_law.nd rfl (Or.inl rfl) rfl (de_ix ix_gIx (de_list (da_val (de_tup (da_val de_int (da_val de_int da_nil))) (da_val (de_tup (da_val (de_un un_gNeg de_int) (da_val de_int da_nil))) (da_val (de_tup (da_val de_int (da_val de_int da_nil))) (da_val (de_tup (da_val de_int (da_val de_int da_nil))) (da_val (de_tup (da_val de_int (da_val de_int da_nil))) (da_val (de_list (da_val de_int (da_val de_int da_nil))) (da_val (de_tup (da_val de_int da_nil)) (da_val de_none (da_val (de_tup (da_val de_bool (da_val de_int da_nil))) (da_val de_int (da_val (de_tup (da_val de_int (da_val de_int da_nil))) da_nil)))))))))))) (de_bin op_gMod (de_call c__law_draw tk hr rfl (da_io (pv 1) da_nil) (argN_io argN_nil)) de_int) (fun _ _ => rfl)))
    (db_cons (ds_if (dt_cmp (op_gNe hr.units) (de_call c__law_error tk hr rfl (da_val de_str (da_val (de_name (pv 13)) (da_val (de_name (pv 14)) (da_val (de_name (pv 9)) da_nil)))) (argN_val (argN_val (argN_val (argN_val argN_nil))))) de_str (nomark _))
      (db_one (ds_ret de_bool))
      db_nil)
    (db_cons (ds_setLc (i := 10) rfl sc_law.nd rfl rfl rfl (sw_true rfl rfl rfl (by kernel_rfl)) (own := [("k", 16)]) (di_range1 rfl T.n_range (da_val de_int da_nil)) (blkOk_by (by kernel_rfl)) (fun _ _ _ _ _ => (dg_name (i := 16) sc_law.nd rfl (Or.inl rfl) rfl)) (fun _ _ _ _ _ => dts_nil) (fun _ _ _ _ _ => (de_tup (da_val (de_name (pv 16)) (da_val de_int da_nil)))))
    (db_one (ds_ret (de_and (de_cmp (op_gEq hr.units) (de_call c__law_error tk hr rfl (da_val de_str (da_val (de_name (pv 10)) (da_val (de_name (pv 10)) (da_val (de_tup (da_val de_int (da_val de_int da_nil))) da_nil)))) (argN_val (argN_val (argN_val (argN_val argN_nil))))) de_str (nomark _)) (de_one (de_cmp op_gIs (de_call c__law_error tk hr rfl (da_val de_str (da_val (de_slice (de_name (pv 10)) do_none (do_some de_int)) (da_val (de_slice (de_name (pv 10)) do_none (do_some de_int)) (da_val (de_tup (da_val de_int (da_val de_int da_nil))) da_nil)))) (argN_val (argN_val (argN_val (argN_val argN_nil))))) de_none (nomark _)))))))))))))))))))))
end
def fn : List He.DefD := [⟨("is_number", none), "is_number", "is_number", defArgs t_is_number, defBody t_is_number, defScope t_is_number, [], []⟩, ⟨("divisor", none), "divisor", "divisor", defArgs t_divisor, defBody t_divisor, defScope t_divisor, [], []⟩, ⟨("fraction", none), "fraction", "fraction", defArgs t_fraction, defBody t_fraction, defScope t_fraction, [], []⟩, ⟨("is_less", none), "is_less", "is_less", defArgs t_is_less, defBody t_is_less, defScope t_is_less, [], []⟩, ⟨("nearest", none), "nearest", "nearest", defArgs t_nearest, defBody t_nearest, defScope t_nearest, [], []⟩, ⟨("is_point", none), "is_point", "is_point", defArgs t_is_point, defBody t_is_point, defScope t_is_point, [], []⟩, ⟨("check_point", none), "check_point", "check_point", defArgs t_check_point, defBody t_check_point, defScope t_check_point, [], []⟩, ⟨("check_formation", none), "check_formation", "check_formation", defArgs t_check_formation, defBody t_check_formation, defScope t_check_formation, [], []⟩, ⟨("check_two", none), "check_two", "check_two", defArgs t_check_two, defBody t_check_two, defScope t_check_two, [], []⟩, ⟨("is_order", none), "is_order", "is_order", defArgs t_is_order, defBody t_is_order, defScope t_is_order, [], []⟩, ⟨("check_order", none), "check_order", "check_order", defArgs t_check_order, defBody t_check_order, defScope t_check_order, [], []⟩, ⟨("check_way", none), "check_way", "check_way", defArgs t_check_way, defBody t_check_way, defScope t_check_way, [], []⟩, ⟨("side", none), "side", "side", defArgs t_side, defBody t_side, defScope t_side, [], []⟩, ⟨("is_on", none), "is_on", "is_on", defArgs t_is_on, defBody t_is_on, defScope t_is_on, [], []⟩, ⟨("do_cross", none), "do_cross", "do_cross", defArgs t_do_cross, defBody t_do_cross, defScope t_do_cross, [], []⟩, ⟨("meeting", none), "meeting", "meeting", defArgs t_meeting, defBody t_meeting, defScope t_meeting, [], []⟩, ⟨("meet", none), "meet", "meet", defArgs t_meet, defBody t_meet, defScope t_meet, [], []⟩, ⟨("first_crossing", none), "first_crossing", "first_crossing", defArgs t_first_crossing, defBody t_first_crossing, defScope t_first_crossing, [], []⟩, ⟨("crossings", none), "crossings", "crossings", defArgs t_crossings, defBody t_crossings, defScope t_crossings, [], []⟩, ⟨("uncrossed", none), "uncrossed", "uncrossed", defArgs t_uncrossed, defBody t_uncrossed, defScope t_uncrossed, [], []⟩, ⟨("check_fraction", none), "check_fraction", "check_fraction", defArgs t_check_fraction, defBody t_check_fraction, defScope t_check_fraction, [], []⟩, ⟨("difference", none), "difference", "difference", defArgs t_difference, defBody t_difference, defScope t_difference, [], []⟩, ⟨("Keeping", some "__init__"), "__init__", "Keeping.__init__", defArgs t_Keeping_init, defBody t_Keeping_init, defScope t_Keeping_init, [], []⟩, ⟨("Keeping", some "fits"), "fits", "Keeping.fits", defArgs t_Keeping_fits, defBody t_Keeping_fits, defScope t_Keeping_fits, [], []⟩, ⟨("Keeping", some "all_from"), "all_from", "Keeping.all_from", defArgs t_Keeping_all_from, defBody t_Keeping_all_from, defScope t_Keeping_all_from, [], []⟩, ⟨("keeping", none), "keeping", "keeping", defArgs t_keeping, defBody t_keeping, defScope t_keeping, [], []⟩, ⟨("_law_mixed", none), "_law_mixed", "_law_mixed", defArgs t__law_mixed, defBody t__law_mixed, defScope t__law_mixed, [], []⟩, ⟨("_law_numbers", none), "_law_numbers", "_law_numbers", defArgs t__law_numbers, defBody t__law_numbers, defScope t__law_numbers, [], []⟩, ⟨("_law_draw", none), "_law_draw", "_law_draw", defArgs t__law_draw, defBody t__law_draw, defScope t__law_draw, [], []⟩, ⟨("_law_equal", none), "_law_equal", "_law_equal", defArgs t__law_equal, defBody t__law_equal, defScope t__law_equal, [], []⟩, ⟨("_law_all_equal", none), "_law_all_equal", "_law_all_equal", defArgs t__law_all_equal, defBody t__law_all_equal, defScope t__law_all_equal, [], []⟩, ⟨("_law_call", none), "_law_call", "_law_call", defArgs t__law_call, defBody t__law_call, defScope t__law_call, [], []⟩, ⟨("_law_error", none), "_law_error", "_law_error", defArgs t__law_error, defBody t__law_error, defScope t__law_error, [], []⟩, ⟨("law", none), "law", "law", defArgs t_law, defBody t_law, defScope t_law, [], []⟩]
def fa : List He.Fa := [.glo "is_number", .glo "divisor", .glo "fraction", .glo "is_less", .glo "nearest", .glo "is_point", .glo "check_point", .glo "check_formation", .glo "check_two", .glo "is_order", .glo "check_order", .glo "check_way", .glo "side", .glo "is_on", .glo "do_cross", .glo "meeting", .glo "meet", .glo "first_crossing", .glo "crossings", .glo "uncrossed", .glo "check_fraction", .glo "difference", .glo "keeping", .glo "_law_mixed", .glo "_law_numbers", .glo "_law_draw", .glo "_law_equal", .glo "_law_all_equal", .glo "_law_call", .glo "_law_error", .glo "law", .glo "Keeping", .cls "Keeping", .mkr "Keeping", .meth "Keeping" "fits", .meth "Keeping" "all_from", .noat "Keeping" "least", .noat "Keeping" "one", .noat "Keeping" "two", .free "ValueError", .free "abs", .free "bool", .free "int", .free "isinstance", .free "len", .free "list", .free "max", .free "min", .free "range", .free "set", .free "sorted", .free "str", .free "tuple", .int "MOST" 4000, .int "MOST_MARCHERS" 60, .int "MOST_PART" 1000000, .int "MOST_SQUARE" 32000000, .int "MOST_TRIED" 7, .int "MOST_UNCROSSED" 30, .exc "ShowError", .glo "ShowError", .exc "BadPoint", .glo "BadPoint", .exc "BadFormation", .glo "BadFormation", .exc "BadMove", .glo "BadMove", .exc "BadArgument", .glo "BadArgument", .exc "TooLarge", .glo "TooLarge", .exm "ShowError" "BadPoint" false, .exm "ShowError" "BadArgument" false, .exm "ShowError" "BadFormation" false, .exm "ShowError" "BadMove" false, .exm "ShowError" "TooLarge" false, .exm "BadPoint" "BadPoint" true, .exm "BadPoint" "BadArgument" false, .exm "BadPoint" "BadFormation" false, .exm "BadPoint" "BadMove" false, .exm "BadPoint" "TooLarge" false, .exm "BadFormation" "BadPoint" false, .exm "BadFormation" "BadArgument" false, .exm "BadFormation" "BadFormation" true, .exm "BadFormation" "BadMove" false, .exm "BadFormation" "TooLarge" false, .exm "BadMove" "BadPoint" false, .exm "BadMove" "BadArgument" false, .exm "BadMove" "BadFormation" false, .exm "BadMove" "BadMove" true, .exm "BadMove" "TooLarge" false, .exm "BadArgument" "BadPoint" false, .exm "BadArgument" "BadArgument" true, .exm "BadArgument" "BadFormation" false, .exm "BadArgument" "BadMove" false, .exm "BadArgument" "TooLarge" false, .exm "TooLarge" "BadPoint" false, .exm "TooLarge" "BadArgument" false, .exm "TooLarge" "BadFormation" false, .exm "TooLarge" "BadMove" false, .exm "TooLarge" "TooLarge" true, .exm "Keeping" "BadPoint" false, .exm "Keeping" "BadArgument" false, .exm "Keeping" "BadFormation" false, .exm "Keeping" "BadMove" false, .exm "Keeping" "TooLarge" false]
def exS (K : PySem.W.Frag) : Bool := ([1, 2, 3, 4, 6] : List Nat).all fun i => exB K (tbl K 0) (tbl K i)
theorem txt {K : PySem.W.Frag} {h : Heap} {mg : Str → Option Value} (X : K.In h) (G : h.Ns mainGlobals mg) (c : He.SaysD fa fn K) (cx : exS K = true) : Txt K mg where
  n_ValueError := He.free_ok X G (c.fact 39 (f := .free "ValueError") rfl)
  n_abs := He.free_ok X G (c.fact 40 (f := .free "abs") rfl)
  n_bool := He.free_ok X G (c.fact 41 (f := .free "bool") rfl)
  n_int := He.free_ok X G (c.fact 42 (f := .free "int") rfl)
  n_isinstance := He.free_ok X G (c.fact 43 (f := .free "isinstance") rfl)
  n_len := He.free_ok X G (c.fact 44 (f := .free "len") rfl)
  n_list := He.free_ok X G (c.fact 45 (f := .free "list") rfl)
  n_max := He.free_ok X G (c.fact 46 (f := .free "max") rfl)
  n_min := He.free_ok X G (c.fact 47 (f := .free "min") rfl)
  n_range := He.free_ok X G (c.fact 48 (f := .free "range") rfl)
  n_set := He.free_ok X G (c.fact 49 (f := .free "set") rfl)
  n_sorted := He.free_ok X G (c.fact 50 (f := .free "sorted") rfl)
  n_str := He.free_ok X G (c.fact 51 (f := .free "str") rfl)
  n_tuple := He.free_ok X G (c.fact 52 (f := .free "tuple") rfl)
  c_MOST := He.int_ok X G (c.fact 53 (f := .int "MOST" 4000) rfl)
  c_MOST_MARCHERS := He.int_ok X G (c.fact 54 (f := .int "MOST_MARCHERS" 60) rfl)
  c_MOST_PART := He.int_ok X G (c.fact 55 (f := .int "MOST_PART" 1000000) rfl)
  c_MOST_SQUARE := He.int_ok X G (c.fact 56 (f := .int "MOST_SQUARE" 32000000) rfl)
  c_MOST_TRIED := He.int_ok X G (c.fact 57 (f := .int "MOST_TRIED" 7) rfl)
  c_MOST_UNCROSSED := He.int_ok X G (c.fact 58 (f := .int "MOST_UNCROSSED" 30) rfl)
  e_ShowError := (fun ⟨a1, a2, a3, a4⟩ => ⟨a1, He.glo_ok X G (c.fact 60 (f := .glo "ShowError") rfl), a2, a3, a4⟩) (He.exc_ok (c.fact 59 (f := .exc "ShowError") rfl))
  e_BadPoint := (fun ⟨a1, a2, a3, a4⟩ => ⟨a1, He.glo_ok X G (c.fact 62 (f := .glo "BadPoint") rfl), a2, a3, a4⟩) (He.exc_ok (c.fact 61 (f := .exc "BadPoint") rfl))
  e_BadFormation := (fun ⟨a1, a2, a3, a4⟩ => ⟨a1, He.glo_ok X G (c.fact 64 (f := .glo "BadFormation") rfl), a2, a3, a4⟩) (He.exc_ok (c.fact 63 (f := .exc "BadFormation") rfl))
  e_BadMove := (fun ⟨a1, a2, a3, a4⟩ => ⟨a1, He.glo_ok X G (c.fact 66 (f := .glo "BadMove") rfl), a2, a3, a4⟩) (He.exc_ok (c.fact 65 (f := .exc "BadMove") rfl))
  e_BadArgument := (fun ⟨a1, a2, a3, a4⟩ => ⟨a1, He.glo_ok X G (c.fact 68 (f := .glo "BadArgument") rfl), a2, a3, a4⟩) (He.exc_ok (c.fact 67 (f := .exc "BadArgument") rfl))
  e_TooLarge := (fun ⟨a1, a2, a3, a4⟩ => ⟨a1, He.glo_ok X G (c.fact 70 (f := .glo "TooLarge") rfl), a2, a3, a4⟩) (He.exc_ok (c.fact 69 (f := .exc "TooLarge") rfl))
  k_Keeping := He.cls_ok (c.fact 32 (f := .cls "Keeping") rfl)
  a_Keeping_least := He.noat_ok (c.fact 36 (f := .noat "Keeping" "least") rfl)
  a_Keeping_one := He.noat_ok (c.fact 37 (f := .noat "Keeping" "one") rfl)
  a_Keeping_two := He.noat_ok (c.fact 38 (f := .noat "Keeping" "two") rfl)
  x_BadPoint := exB_ok (List.all_eq_true.mp cx 1 (by decide))
  x_BadArgument := exB_ok (List.all_eq_true.mp cx 2 (by decide))
  x_BadFormation := exB_ok (List.all_eq_true.mp cx 3 (by decide))
  x_BadMove := exB_ok (List.all_eq_true.mp cx 4 (by decide))
  x_TooLarge := exB_ok (List.all_eq_true.mp cx 6 (by decide))
  sub_BadPoint := fun n => match n with
    | 0 => He.exm_ok (c.fact 71 (f := .exm "ShowError" "BadPoint" false) rfl)
    | 1 => He.exm_ok (c.fact 76 (f := .exm "BadPoint" "BadPoint" true) rfl)
    | 2 => He.exm_ok (c.fact 91 (f := .exm "BadArgument" "BadPoint" false) rfl)
    | 3 => He.exm_ok (c.fact 81 (f := .exm "BadFormation" "BadPoint" false) rfl)
    | 4 => He.exm_ok (c.fact 86 (f := .exm "BadMove" "BadPoint" false) rfl)
    | 5 => He.exm_ok (c.fact 71 (f := .exm "ShowError" "BadPoint" false) rfl)
    | 6 => He.exm_ok (c.fact 96 (f := .exm "TooLarge" "BadPoint" false) rfl)
    | 7 => He.exm_ok (c.fact 71 (f := .exm "ShowError" "BadPoint" false) rfl)
    | 8 => He.exm_ok (c.fact 71 (f := .exm "ShowError" "BadPoint" false) rfl)
    | 9 => He.exm_ok (c.fact 71 (f := .exm "ShowError" "BadPoint" false) rfl)
    | 10 => He.exm_ok (c.fact 71 (f := .exm "ShowError" "BadPoint" false) rfl)
    | 11 => He.exm_ok (c.fact 71 (f := .exm "ShowError" "BadPoint" false) rfl)
    | 12 => He.exm_ok (c.fact 101 (f := .exm "Keeping" "BadPoint" false) rfl)
    | 13 => He.exm_ok (c.fact 71 (f := .exm "ShowError" "BadPoint" false) rfl)
    | 14 => He.exm_ok (c.fact 71 (f := .exm "ShowError" "BadPoint" false) rfl)
    | 15 => He.exm_ok (c.fact 71 (f := .exm "ShowError" "BadPoint" false) rfl)
    | 16 => He.exm_ok (c.fact 71 (f := .exm "ShowError" "BadPoint" false) rfl)
    | 17 => He.exm_ok (c.fact 71 (f := .exm "ShowError" "BadPoint" false) rfl)
    | 18 => He.exm_ok (c.fact 71 (f := .exm "ShowError" "BadPoint" false) rfl)
    | 19 => He.exm_ok (c.fact 71 (f := .exm "ShowError" "BadPoint" false) rfl)
    | _ + 20 => He.exm_ok (c.fact 71 (f := .exm "ShowError" "BadPoint" false) rfl)
  sub_BadArgument := fun n => match n with
    | 0 => He.exm_ok (c.fact 72 (f := .exm "ShowError" "BadArgument" false) rfl)
    | 1 => He.exm_ok (c.fact 77 (f := .exm "BadPoint" "BadArgument" false) rfl)
    | 2 => He.exm_ok (c.fact 92 (f := .exm "BadArgument" "BadArgument" true) rfl)
    | 3 => He.exm_ok (c.fact 82 (f := .exm "BadFormation" "BadArgument" false) rfl)
    | 4 => He.exm_ok (c.fact 87 (f := .exm "BadMove" "BadArgument" false) rfl)
    | 5 => He.exm_ok (c.fact 72 (f := .exm "ShowError" "BadArgument" false) rfl)
    | 6 => He.exm_ok (c.fact 97 (f := .exm "TooLarge" "BadArgument" false) rfl)
    | 7 => He.exm_ok (c.fact 72 (f := .exm "ShowError" "BadArgument" false) rfl)
    | 8 => He.exm_ok (c.fact 72 (f := .exm "ShowError" "BadArgument" false) rfl)
    | 9 => He.exm_ok (c.fact 72 (f := .exm "ShowError" "BadArgument" false) rfl)
    | 10 => He.exm_ok (c.fact 72 (f := .exm "ShowError" "BadArgument" false) rfl)
    | 11 => He.exm_ok (c.fact 72 (f := .exm "ShowError" "BadArgument" false) rfl)
    | 12 => He.exm_ok (c.fact 102 (f := .exm "Keeping" "BadArgument" false) rfl)
    | 13 => He.exm_ok (c.fact 72 (f := .exm "ShowError" "BadArgument" false) rfl)
    | 14 => He.exm_ok (c.fact 72 (f := .exm "ShowError" "BadArgument" false) rfl)
    | 15 => He.exm_ok (c.fact 72 (f := .exm "ShowError" "BadArgument" false) rfl)
    | 16 => He.exm_ok (c.fact 72 (f := .exm "ShowError" "BadArgument" false) rfl)
    | 17 => He.exm_ok (c.fact 72 (f := .exm "ShowError" "BadArgument" false) rfl)
    | 18 => He.exm_ok (c.fact 72 (f := .exm "ShowError" "BadArgument" false) rfl)
    | 19 => He.exm_ok (c.fact 72 (f := .exm "ShowError" "BadArgument" false) rfl)
    | _ + 20 => He.exm_ok (c.fact 72 (f := .exm "ShowError" "BadArgument" false) rfl)
  sub_BadFormation := fun n => match n with
    | 0 => He.exm_ok (c.fact 73 (f := .exm "ShowError" "BadFormation" false) rfl)
    | 1 => He.exm_ok (c.fact 78 (f := .exm "BadPoint" "BadFormation" false) rfl)
    | 2 => He.exm_ok (c.fact 93 (f := .exm "BadArgument" "BadFormation" false) rfl)
    | 3 => He.exm_ok (c.fact 83 (f := .exm "BadFormation" "BadFormation" true) rfl)
    | 4 => He.exm_ok (c.fact 88 (f := .exm "BadMove" "BadFormation" false) rfl)
    | 5 => He.exm_ok (c.fact 73 (f := .exm "ShowError" "BadFormation" false) rfl)
    | 6 => He.exm_ok (c.fact 98 (f := .exm "TooLarge" "BadFormation" false) rfl)
    | 7 => He.exm_ok (c.fact 73 (f := .exm "ShowError" "BadFormation" false) rfl)
    | 8 => He.exm_ok (c.fact 73 (f := .exm "ShowError" "BadFormation" false) rfl)
    | 9 => He.exm_ok (c.fact 73 (f := .exm "ShowError" "BadFormation" false) rfl)
    | 10 => He.exm_ok (c.fact 73 (f := .exm "ShowError" "BadFormation" false) rfl)
    | 11 => He.exm_ok (c.fact 73 (f := .exm "ShowError" "BadFormation" false) rfl)
    | 12 => He.exm_ok (c.fact 103 (f := .exm "Keeping" "BadFormation" false) rfl)
    | 13 => He.exm_ok (c.fact 73 (f := .exm "ShowError" "BadFormation" false) rfl)
    | 14 => He.exm_ok (c.fact 73 (f := .exm "ShowError" "BadFormation" false) rfl)
    | 15 => He.exm_ok (c.fact 73 (f := .exm "ShowError" "BadFormation" false) rfl)
    | 16 => He.exm_ok (c.fact 73 (f := .exm "ShowError" "BadFormation" false) rfl)
    | 17 => He.exm_ok (c.fact 73 (f := .exm "ShowError" "BadFormation" false) rfl)
    | 18 => He.exm_ok (c.fact 73 (f := .exm "ShowError" "BadFormation" false) rfl)
    | 19 => He.exm_ok (c.fact 73 (f := .exm "ShowError" "BadFormation" false) rfl)
    | _ + 20 => He.exm_ok (c.fact 73 (f := .exm "ShowError" "BadFormation" false) rfl)
  sub_BadMove := fun n => match n with
    | 0 => He.exm_ok (c.fact 74 (f := .exm "ShowError" "BadMove" false) rfl)
    | 1 => He.exm_ok (c.fact 79 (f := .exm "BadPoint" "BadMove" false) rfl)
    | 2 => He.exm_ok (c.fact 94 (f := .exm "BadArgument" "BadMove" false) rfl)
    | 3 => He.exm_ok (c.fact 84 (f := .exm "BadFormation" "BadMove" false) rfl)
    | 4 => He.exm_ok (c.fact 89 (f := .exm "BadMove" "BadMove" true) rfl)
    | 5 => He.exm_ok (c.fact 74 (f := .exm "ShowError" "BadMove" false) rfl)
    | 6 => He.exm_ok (c.fact 99 (f := .exm "TooLarge" "BadMove" false) rfl)
    | 7 => He.exm_ok (c.fact 74 (f := .exm "ShowError" "BadMove" false) rfl)
    | 8 => He.exm_ok (c.fact 74 (f := .exm "ShowError" "BadMove" false) rfl)
    | 9 => He.exm_ok (c.fact 74 (f := .exm "ShowError" "BadMove" false) rfl)
    | 10 => He.exm_ok (c.fact 74 (f := .exm "ShowError" "BadMove" false) rfl)
    | 11 => He.exm_ok (c.fact 74 (f := .exm "ShowError" "BadMove" false) rfl)
    | 12 => He.exm_ok (c.fact 104 (f := .exm "Keeping" "BadMove" false) rfl)
    | 13 => He.exm_ok (c.fact 74 (f := .exm "ShowError" "BadMove" false) rfl)
    | 14 => He.exm_ok (c.fact 74 (f := .exm "ShowError" "BadMove" false) rfl)
    | 15 => He.exm_ok (c.fact 74 (f := .exm "ShowError" "BadMove" false) rfl)
    | 16 => He.exm_ok (c.fact 74 (f := .exm "ShowError" "BadMove" false) rfl)
    | 17 => He.exm_ok (c.fact 74 (f := .exm "ShowError" "BadMove" false) rfl)
    | 18 => He.exm_ok (c.fact 74 (f := .exm "ShowError" "BadMove" false) rfl)
    | 19 => He.exm_ok (c.fact 74 (f := .exm "ShowError" "BadMove" false) rfl)
    | _ + 20 => He.exm_ok (c.fact 74 (f := .exm "ShowError" "BadMove" false) rfl)
  sub_TooLarge := fun n => match n with
    | 0 => He.exm_ok (c.fact 75 (f := .exm "ShowError" "TooLarge" false) rfl)
    | 1 => He.exm_ok (c.fact 80 (f := .exm "BadPoint" "TooLarge" false) rfl)
    | 2 => He.exm_ok (c.fact 95 (f := .exm "BadArgument" "TooLarge" false) rfl)
    | 3 => He.exm_ok (c.fact 85 (f := .exm "BadFormation" "TooLarge" false) rfl)
    | 4 => He.exm_ok (c.fact 90 (f := .exm "BadMove" "TooLarge" false) rfl)
    | 5 => He.exm_ok (c.fact 75 (f := .exm "ShowError" "TooLarge" false) rfl)
    | 6 => He.exm_ok (c.fact 100 (f := .exm "TooLarge" "TooLarge" true) rfl)
    | 7 => He.exm_ok (c.fact 75 (f := .exm "ShowError" "TooLarge" false) rfl)
    | 8 => He.exm_ok (c.fact 75 (f := .exm "ShowError" "TooLarge" false) rfl)
    | 9 => He.exm_ok (c.fact 75 (f := .exm "ShowError" "TooLarge" false) rfl)
    | 10 => He.exm_ok (c.fact 75 (f := .exm "ShowError" "TooLarge" false) rfl)
    | 11 => He.exm_ok (c.fact 75 (f := .exm "ShowError" "TooLarge" false) rfl)
    | 12 => He.exm_ok (c.fact 105 (f := .exm "Keeping" "TooLarge" false) rfl)
    | 13 => He.exm_ok (c.fact 75 (f := .exm "ShowError" "TooLarge" false) rfl)
    | 14 => He.exm_ok (c.fact 75 (f := .exm "ShowError" "TooLarge" false) rfl)
    | 15 => He.exm_ok (c.fact 75 (f := .exm "ShowError" "TooLarge" false) rfl)
    | 16 => He.exm_ok (c.fact 75 (f := .exm "ShowError" "TooLarge" false) rfl)
    | 17 => He.exm_ok (c.fact 75 (f := .exm "ShowError" "TooLarge" false) rfl)
    | 18 => He.exm_ok (c.fact 75 (f := .exm "ShowError" "TooLarge" false) rfl)
    | 19 => He.exm_ok (c.fact 75 (f := .exm "ShowError" "TooLarge" false) rfl)
    | _ + 20 => He.exm_ok (c.fact 75 (f := .exm "ShowError" "TooLarge" false) rfl)
abbrev R : PySem.W.OpenRow := PySem.W.OpenLaw.row PySem.Challenge.rw_fieldshow_k26_ways_are_checked
abbrev hk : PySem.W.Hook := He.hookX 4 fa fn [] [] exS
def ob (s : PySem.W.SharedT) : He.AlX := He.obsX 4 fa fn [] [] exS (HandSHeadRun.getT s)
theorem ob_eq (s : PySem.W.SharedT) : ob s = hk.obs s.abs := He.obsX_eq (HandSHeadRun.getT_eq s)
def loose : List Str := (["ShowError", "BadPoint", "BadFormation", "BadMove", "BadArgument", "TooLarge", "is_number", "divisor", "fraction", "is_less", "nearest", "MOST", "MOST_MARCHERS", "is_point", "check_point", "check_formation", "check_two", "is_order", "check_order", "MOST_UNCROSSED", "MOST_TRIED", "MOST_SQUARE", "MOST_PART", "check_way", "side"] : List Str) ++ (["is_on", "do_cross", "meeting", "meet", "first_crossing", "crossings", "uncrossed", "check_fraction", "difference", "Keeping", "keeping", "_law_mixed", "_law_numbers", "_law_draw", "_law_equal", "_law_all_equal", "_law_call", "_law_error"] : List Str)
theorem run (w : World) : HandSHeadRun.RunEq R (PySem.W.view R.prog [50]) hk ob 20000 loose w := by
  intro os
  kernel_rfl
theorem facts (hS : ∀ ns : List Int, ns.length ≤ 63 → ∃ δ', FX.s_law_k26 (some (.fz (.list (ns.map .int))) :: List.replicate 16 none) = .rt (.fz (.bool true)) δ')
    {P : Program} {w : World} {K : PySem.W.Frag} {h : Heap} {mg : Str → Option Value} {f : Addr} (X : K.In h) (G : h.Ns mainGlobals mg) (hfa : mg ("law" : Str) = some (.ref f)) (c : He.SaysD fa fn K) (cx : exS K = true) :
    ∃ fd : FuncData, (∀ (s : Shared) (v : Value), BindsTo s fd ⟨[v], []⟩ [("script", v)]) ∧ ∀ base : Heap, K.In base → base.Ns mainGlobals mg → FnOk P w K mg base CX0 23 f fd ["script"] (spLaw K) := by
  have T := txt X G c cx
  obtain ⟨fd_is_number, F_is_number⟩ := c.def_ 0 (d := ⟨("is_number", none), "is_number", "is_number", defArgs t_is_number, defBody t_is_number, defScope t_is_number, [], []⟩) rfl
  have g_is_number := He.glo_ok X G (c.fact 0 (f := .glo "is_number") rfl)
  obtain ⟨fd_divisor, F_divisor⟩ := c.def_ 1 (d := ⟨("divisor", none), "divisor", "divisor", defArgs t_divisor, defBody t_divisor, defScope t_divisor, [], []⟩) rfl
  have g_divisor := He.glo_ok X G (c.fact 1 (f := .glo "divisor") rfl)
  obtain ⟨fd_fraction, F_fraction⟩ := c.def_ 2 (d := ⟨("fraction", none), "fraction", "fraction", defArgs t_fraction, defBody t_fraction, defScope t_fraction, [], []⟩) rfl
  have g_fraction := He.glo_ok X G (c.fact 2 (f := .glo "fraction") rfl)
  obtain ⟨fd_is_less, F_is_less⟩ := c.def_ 3 (d := ⟨("is_less", none), "is_less", "is_less", defArgs t_is_less, defBody t_is_less, defScope t_is_less, [], []⟩) rfl
  have g_is_less := He.glo_ok X G (c.fact 3 (f := .glo "is_less") rfl)
  obtain ⟨fd_nearest, F_nearest⟩ := c.def_ 4 (d := ⟨("nearest", none), "nearest", "nearest", defArgs t_nearest, defBody t_nearest, defScope t_nearest, [], []⟩) rfl
  have g_nearest := He.glo_ok X G (c.fact 4 (f := .glo "nearest") rfl)
  obtain ⟨fd_is_point, F_is_point⟩ := c.def_ 5 (d := ⟨("is_point", none), "is_point", "is_point", defArgs t_is_point, defBody t_is_point, defScope t_is_point, [], []⟩) rfl
  have g_is_point := He.glo_ok X G (c.fact 5 (f := .glo "is_point") rfl)
  obtain ⟨fd_check_point, F_check_point⟩ := c.def_ 6 (d := ⟨("check_point", none), "check_point", "check_point", defArgs t_check_point, defBody t_check_point, defScope t_check_point, [], []⟩) rfl
  have g_check_point := He.glo_ok X G (c.fact 6 (f := .glo "check_point") rfl)
  obtain ⟨fd_check_formation, F_check_formation⟩ := c.def_ 7 (d := ⟨("check_formation", none), "check_formation", "check_formation", defArgs t_check_formation, defBody t_check_formation, defScope t_check_formation, [], []⟩) rfl
  have g_check_formation := He.glo_ok X G (c.fact 7 (f := .glo "check_formation") rfl)
  obtain ⟨fd_check_two, F_check_two⟩ := c.def_ 8 (d := ⟨("check_two", none), "check_two", "check_two", defArgs t_check_two, defBody t_check_two, defScope t_check_two, [], []⟩) rfl
  have g_check_two := He.glo_ok X G (c.fact 8 (f := .glo "check_two") rfl)
  obtain ⟨fd_is_order, F_is_order⟩ := c.def_ 9 (d := ⟨("is_order", none), "is_order", "is_order", defArgs t_is_order, defBody t_is_order, defScope t_is_order, [], []⟩) rfl
  have g_is_order := He.glo_ok X G (c.fact 9 (f := .glo "is_order") rfl)
  obtain ⟨fd_check_order, F_check_order⟩ := c.def_ 10 (d := ⟨("check_order", none), "check_order", "check_order", defArgs t_check_order, defBody t_check_order, defScope t_check_order, [], []⟩) rfl
  have g_check_order := He.glo_ok X G (c.fact 10 (f := .glo "check_order") rfl)
  obtain ⟨fd_check_way, F_check_way⟩ := c.def_ 11 (d := ⟨("check_way", none), "check_way", "check_way", defArgs t_check_way, defBody t_check_way, defScope t_check_way, [], []⟩) rfl
  have g_check_way := He.glo_ok X G (c.fact 11 (f := .glo "check_way") rfl)
  obtain ⟨fd_side, F_side⟩ := c.def_ 12 (d := ⟨("side", none), "side", "side", defArgs t_side, defBody t_side, defScope t_side, [], []⟩) rfl
  have g_side := He.glo_ok X G (c.fact 12 (f := .glo "side") rfl)
  obtain ⟨fd_is_on, F_is_on⟩ := c.def_ 13 (d := ⟨("is_on", none), "is_on", "is_on", defArgs t_is_on, defBody t_is_on, defScope t_is_on, [], []⟩) rfl
  have g_is_on := He.glo_ok X G (c.fact 13 (f := .glo "is_on") rfl)
  obtain ⟨fd_do_cross, F_do_cross⟩ := c.def_ 14 (d := ⟨("do_cross", none), "do_cross", "do_cross", defArgs t_do_cross, defBody t_do_cross, defScope t_do_cross, [], []⟩) rfl
  have g_do_cross := He.glo_ok X G (c.fact 14 (f := .glo "do_cross") rfl)
  obtain ⟨fd_meeting, F_meeting⟩ := c.def_ 15 (d := ⟨("meeting", none), "meeting", "meeting", defArgs t_meeting, defBody t_meeting, defScope t_meeting, [], []⟩) rfl
  have g_meeting := He.glo_ok X G (c.fact 15 (f := .glo "meeting") rfl)
  obtain ⟨fd_meet, F_meet⟩ := c.def_ 16 (d := ⟨("meet", none), "meet", "meet", defArgs t_meet, defBody t_meet, defScope t_meet, [], []⟩) rfl
  have g_meet := He.glo_ok X G (c.fact 16 (f := .glo "meet") rfl)
  obtain ⟨fd_first_crossing, F_first_crossing⟩ := c.def_ 17 (d := ⟨("first_crossing", none), "first_crossing", "first_crossing", defArgs t_first_crossing, defBody t_first_crossing, defScope t_first_crossing, [], []⟩) rfl
  have g_first_crossing := He.glo_ok X G (c.fact 17 (f := .glo "first_crossing") rfl)
  obtain ⟨fd_crossings, F_crossings⟩ := c.def_ 18 (d := ⟨("crossings", none), "crossings", "crossings", defArgs t_crossings, defBody t_crossings, defScope t_crossings, [], []⟩) rfl
  have g_crossings := He.glo_ok X G (c.fact 18 (f := .glo "crossings") rfl)
  obtain ⟨fd_uncrossed, F_uncrossed⟩ := c.def_ 19 (d := ⟨("uncrossed", none), "uncrossed", "uncrossed", defArgs t_uncrossed, defBody t_uncrossed, defScope t_uncrossed, [], []⟩) rfl
  have g_uncrossed := He.glo_ok X G (c.fact 19 (f := .glo "uncrossed") rfl)
  obtain ⟨fd_check_fraction, F_check_fraction⟩ := c.def_ 20 (d := ⟨("check_fraction", none), "check_fraction", "check_fraction", defArgs t_check_fraction, defBody t_check_fraction, defScope t_check_fraction, [], []⟩) rfl
  have g_check_fraction := He.glo_ok X G (c.fact 20 (f := .glo "check_fraction") rfl)
  obtain ⟨fd_difference, F_difference⟩ := c.def_ 21 (d := ⟨("difference", none), "difference", "difference", defArgs t_difference, defBody t_difference, defScope t_difference, [], []⟩) rfl
  have g_difference := He.glo_ok X G (c.fact 21 (f := .glo "difference") rfl)
  obtain ⟨fd_Keeping_init, F_Keeping_init⟩ := c.def_ 22 (d := ⟨("Keeping", some "__init__"), "__init__", "Keeping.__init__", defArgs t_Keeping_init, defBody t_Keeping_init, defScope t_Keeping_init, [], []⟩) rfl
  have g_Keeping_init := And.intro (He.mkr_ok (c.fact 33 (f := .mkr "Keeping") rfl)) (He.glo_ok X G (c.fact 31 (f := .glo "Keeping") rfl))
  obtain ⟨fd_Keeping_fits, F_Keeping_fits⟩ := c.def_ 23 (d := ⟨("Keeping", some "fits"), "fits", "Keeping.fits", defArgs t_Keeping_fits, defBody t_Keeping_fits, defScope t_Keeping_fits, [], []⟩) rfl
  have g_Keeping_fits := He.meth_ok (c.fact 34 (f := .meth "Keeping" "fits") rfl)
  obtain ⟨fd_Keeping_all_from, F_Keeping_all_from⟩ := c.def_ 24 (d := ⟨("Keeping", some "all_from"), "all_from", "Keeping.all_from", defArgs t_Keeping_all_from, defBody t_Keeping_all_from, defScope t_Keeping_all_from, [], []⟩) rfl
  have g_Keeping_all_from := He.meth_ok (c.fact 35 (f := .meth "Keeping" "all_from") rfl)
  obtain ⟨fd_keeping, F_keeping⟩ := c.def_ 25 (d := ⟨("keeping", none), "keeping", "keeping", defArgs t_keeping, defBody t_keeping, defScope t_keeping, [], []⟩) rfl
  have g_keeping := He.glo_ok X G (c.fact 22 (f := .glo "keeping") rfl)
  obtain ⟨fd__law_mixed, F__law_mixed⟩ := c.def_ 26 (d := ⟨("_law_mixed", none), "_law_mixed", "_law_mixed", defArgs t__law_mixed, defBody t__law_mixed, defScope t__law_mixed, [], []⟩) rfl
  have g__law_mixed := He.glo_ok X G (c.fact 23 (f := .glo "_law_mixed") rfl)
  obtain ⟨fd__law_numbers, F__law_numbers⟩ := c.def_ 27 (d := ⟨("_law_numbers", none), "_law_numbers", "_law_numbers", defArgs t__law_numbers, defBody t__law_numbers, defScope t__law_numbers, [], []⟩) rfl
  have g__law_numbers := He.glo_ok X G (c.fact 24 (f := .glo "_law_numbers") rfl)
  obtain ⟨fd__law_draw, F__law_draw⟩ := c.def_ 28 (d := ⟨("_law_draw", none), "_law_draw", "_law_draw", defArgs t__law_draw, defBody t__law_draw, defScope t__law_draw, [], []⟩) rfl
  have g__law_draw := He.glo_ok X G (c.fact 25 (f := .glo "_law_draw") rfl)
  obtain ⟨fd__law_equal, F__law_equal⟩ := c.def_ 29 (d := ⟨("_law_equal", none), "_law_equal", "_law_equal", defArgs t__law_equal, defBody t__law_equal, defScope t__law_equal, [], []⟩) rfl
  have g__law_equal := He.glo_ok X G (c.fact 26 (f := .glo "_law_equal") rfl)
  obtain ⟨fd__law_all_equal, F__law_all_equal⟩ := c.def_ 30 (d := ⟨("_law_all_equal", none), "_law_all_equal", "_law_all_equal", defArgs t__law_all_equal, defBody t__law_all_equal, defScope t__law_all_equal, [], []⟩) rfl
  have g__law_all_equal := He.glo_ok X G (c.fact 27 (f := .glo "_law_all_equal") rfl)
  obtain ⟨fd__law_call, F__law_call⟩ := c.def_ 31 (d := ⟨("_law_call", none), "_law_call", "_law_call", defArgs t__law_call, defBody t__law_call, defScope t__law_call, [], []⟩) rfl
  have g__law_call := He.glo_ok X G (c.fact 28 (f := .glo "_law_call") rfl)
  obtain ⟨fd__law_error, F__law_error⟩ := c.def_ 32 (d := ⟨("_law_error", none), "_law_error", "_law_error", defArgs t__law_error, defBody t__law_error, defScope t__law_error, [], []⟩) rfl
  have g__law_error := He.glo_ok X G (c.fact 29 (f := .glo "_law_error") rfl)
  obtain ⟨fd_law, F_law⟩ := c.def_ 33 (d := ⟨("law", none), "law", "law", defArgs t_law, defBody t_law, defScope t_law, [], []⟩) rfl
  have g_law := He.glo_ok X G (c.fact 30 (f := .glo "law") rfl)
  have e := hfa.symm.trans g_law
  cases e
  have b := FunD.bindsA (ps := ["script"]) F_law fun _ _ _ _ _ _ us hl => match us, hl with | [_], _ => rfl
  refine ⟨fd_law, fun s v => b s [v] rfl, fun base _ _ => ?_⟩
  have c_is_number : Cal P w K mg base (tbl K) 1 "is_number" ["value", "low", "high"] m_is_number := ok_is_number T F_is_number g_is_number 
  have c_divisor : Cal P w K mg base (tbl K) 1 "divisor" ["a", "b"] m_divisor := ok_divisor T F_divisor g_divisor 
  have c_fraction : Cal P w K mg base (tbl K) 2 "fraction" ["p", "q"] m_fraction := ok_fraction T F_fraction g_fraction c_divisor
  have c_is_less : Cal P w K mg base (tbl K) 1 "is_less" ["one", "other"] m_is_less := ok_is_less T F_is_less g_is_less 
  have c_nearest : Cal P w K mg base (tbl K) 3 "nearest" ["u", "v"] m_nearest_v1 := ok_nearest T F_nearest g_nearest c_fraction
  have c_is_point : Cal P w K mg base (tbl K) 2 "is_point" ["value"] m_is_point := ok_is_point T F_is_point g_is_point c_is_number
  have c_check_point : Cal P w K mg base (tbl K) 3 "check_point" ["value"] m_check_point := ok_check_point T F_check_point g_check_point c_is_point
  have c_check_formation : Cal P w K mg base (tbl K) 4 "check_formation" ["value"] m_check_formation := ok_check_formation T F_check_formation g_check_formation c_check_point
  have c_check_two : Cal P w K mg base (tbl K) 5 "check_two" ["one", "two"] m_check_two := ok_check_two T F_check_two g_check_two c_check_formation
  have c_is_order : Cal P w K mg base (tbl K) 2 "is_order" ["value", "many"] m_is_order := ok_is_order T F_is_order g_is_order c_is_number
  have c_check_order : Cal P w K mg base (tbl K) 3 "check_order" ["value", "many"] m_check_order := ok_check_order T F_check_order g_check_order c_is_order
  have c_check_way : Cal P w K mg base (tbl K) 4 "check_way" ["value"] m_check_way := ok_check_way T F_check_way g_check_way c_check_point
  have c_side : Cal P w K mg base (tbl K) 1 "side" ["a", "b", "c"] m_side := ok_side T F_side g_side 
  have c_is_on : Cal P w K mg base (tbl K) 2 "is_on" ["a", "b", "c"] m_is_on := ok_is_on T F_is_on g_is_on c_side
  have c_do_cross : Cal P w K mg base (tbl K) 2 "do_cross" ["one", "other"] m_do_cross := ok_do_cross T F_do_cross g_do_cross c_side
  have c_meeting : Cal P w K mg base (tbl K) 3 "meeting" ["one", "other"] m_meeting := ok_meeting T F_meeting g_meeting c_do_cross c_is_on
  have c_meet : Cal P w K mg base (tbl K) 5 "meet" ["way", "other"] m_meet := ok_meet T F_meet g_meet c_check_way c_meeting
  have c_first_crossing : Cal P w K mg base (tbl K) 3 "first_crossing" ["one", "two", "order"] m_first_crossing := ok_first_crossing T F_first_crossing g_first_crossing c_do_cross
  have c_crossings : Cal P w K mg base (tbl K) 6 "crossings" ["one", "two", "order"] m_crossings := ok_crossings T F_crossings g_crossings c_check_two c_check_order c_do_cross
  have c_uncrossed : Cal P w K mg base (tbl K) 6 "uncrossed" ["one", "two", "order"] m_uncrossed := ok_uncrossed T F_uncrossed g_uncrossed c_check_two c_check_order c_first_crossing
  have c_check_fraction : Cal P w K mg base (tbl K) 2 "check_fraction" ["value"] m_check_fraction := ok_check_fraction T F_check_fraction g_check_fraction c_is_number c_divisor
  have c_difference : Cal P w K mg base (tbl K) 1 "difference" ["point", "other"] m_difference := ok_difference T F_difference g_difference 
  have c_Keeping_init : CalI P w K mg base (tbl K) 1 12 "Keeping" ["self", "one", "two", "least"] m_Keeping_init := ok_Keeping_init T F_Keeping_init g_Keeping_init 
  have c_Keeping_fits : CalM P w K mg base (tbl K) 4 12 "fits" ["self", "order", "place"] m_Keeping_fits := ok_Keeping_fits T F_Keeping_fits g_Keeping_fits c_difference c_is_less c_nearest
  have c0_Keeping_all_from := okR_Keeping_all_from (P := P) (w := w) (base := base) T F_Keeping_all_from g_Keeping_all_from c_Keeping_fits 14
  have c_Keeping_all_from : CalM P w K mg base (tbl K) 19 12 "all_from" ["self", "order"] (m_Keeping_all_from 14) := CalM.mono c0_Keeping_all_from (by decide)
  have c_keeping : Cal P w K mg base (tbl K) 20 "keeping" ["one", "two", "least"] m_keeping := ok_keeping T F_keeping g_keeping c_check_two c_check_fraction c_Keeping_all_from c_Keeping_init
  have c__law_mixed : Cal P w K mg base (tbl K) 1 "_law_mixed" ["number", "k"] m__law_mixed := ok__law_mixed T F__law_mixed g__law_mixed 
  have c__law_numbers : Cal P w K mg base (tbl K) 2 "_law_numbers" ["script"] m__law_numbers := ok__law_numbers T F__law_numbers g__law_numbers c__law_mixed
  have c__law_draw : Cal P w K mg base (tbl K) 2 "_law_draw" ["draws"] m__law_draw := ok__law_draw T F__law_draw g__law_draw c__law_mixed
  obtain ⟨c0__law_equal, c0__law_all_equal⟩ := okR__law_equal (P := P) (w := w) (base := base) T F__law_equal g__law_equal F__law_all_equal g__law_all_equal  14
  have c__law_equal : Cal P w K mg base (tbl K) 15 "_law_equal" ["actual", "due"] (m__law_equal_v1 14) := Cal.mono c0__law_equal (by decide)
  have c__law_all_equal : Cal P w K mg base (tbl K) 15 "_law_all_equal" ["actual", "due"] (m__law_all_equal_v1 14) := Cal.mono c0__law_all_equal (by decide)
  have c__law_call : Cal P w K mg base (tbl K) 21 "_law_call" ["name", "one", "two", "more"] m__law_call := ok__law_call T F__law_call g__law_call c_keeping c_meet c_crossings c_uncrossed
  have c__law_error : Cal P w K mg base (tbl K) 22 "_law_error" ["name", "one", "two", "more"] m__law_error_v1 := ok__law_error T F__law_error g__law_error c__law_call
  exact ok_law T F_law c__law_numbers c__law_error c__law_draw hS
end K26
open PySem PySem.W PySem.Calls PyProof.Rows in
theorem K26.holds_of (hS : ∀ ns : List Int, ns.length ≤ 63 → ∃ δ', FX.s_law_k26 (some (.fz (.list (ns.map .int))) :: List.replicate 16 none) = .rt (.fz (.bool true)) δ') : PySem.Challenge.rw_fieldshow_k26_ways_are_checked.Holds := by
  w_on; o_law
  refine HandSHeadRun.head_any (r := OpenLaw.row PySem.Challenge.rw_fieldshow_k26_ways_are_checked) (q := view (OpenLaw.row PySem.Challenge.rw_fieldshow_k26_ways_are_checked).prog [50]) (H := K26.hk) (ob := K26.ob) (M := 20000) (loose := K26.loose) (d := HandSHeadRun.topDef (OpenLaw.row PySem.Challenge.rw_fieldshow_k26_ways_are_checked).prog 50) (kwd := []) K26.ob_eq
    (by kernel_rfl) (fun s => by kernel_rfl) K26.run (by kernel_rfl) (by kernel_rfl) (by kernel_rfl) (by rfl) (by first | assumption | decide +kernel) (by decide +kernel) ⟨rfl, rfl, rfl, rfl, rfl, by decide +kernel⟩ ?hw ?hc
  case hw => w_witness2
  case hc =>
    refine L2.walk_ofE (l := PySem.Challenge.rw_fieldshow_k26_ways_are_checked) (n := 63) (k := 23) (x := "script") (CX := L2.CX0) rfl (by decide) (by kernel_rfl) ⟨rfl, by decide, by decide⟩ ?F (fun _ _ _ _ z => z)
    intro w mg fa h Y G hmg0
    obtain ⟨K, KX, c⟩ := Y
    have hmg : mg ("law" : PySem.Str) = some (.ref fa) := by
      have e : (HandSHeadRun.topDef (OpenLaw.row PySem.Challenge.rw_fieldshow_k26_ways_are_checked).prog 50).name = ("law" : PySem.Str) := by kernel_rfl
      rw [← e]
      exact hmg0
    obtain ⟨fd, hb, hF⟩ := K26.facts hS (P := (PySem.Challenge.rw_fieldshow_k26_ways_are_checked).prog) (w := w) KX G hmg c.t.d c.more
    exact ⟨K, fd, FS.spLaw K, KX, hb, fun H a ns hl _ hS => ⟨a, ns, rfl, hl, hS, fun _ => rfl⟩, hF⟩
theorem PySem.Challenge.cw_fieldshow_k26_ways_are_checked_holds : PySem.Challenge.rw_fieldshow_k26_ways_are_checked.Holds := by
  exact K26.holds_of MX.k26
